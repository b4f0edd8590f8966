import PyProof.Rows.All
import Wide.All
import OpenK.AllK
import Wide.FinOn
import HandS.ForMost
import HandS.Exc
import HandS.IsInst
import HandS.Walk
import HandS.Star
import HandS.CallSlots
import HandS.Lambda
import KE.KDflt
import HandS.ExcOwn
import HandS.Property
import HandS.WordsExc
import HandS.Wide
import HandS.TupAny
import HandS.TupMul
import HandS.WordsDict
import HandS.Zip
import HandS.Rev
import KE.GoesMore
import KE.GoesZip
import KE.GoesEnum
import HandS.Small
import HandS.StrMore
import HandS.Comp
import HandS.Iter
import KE.SortData
import KE.KDictSum
import PyProof.CollectStr
import HandS.More
import KE.KExcSuper
import HandS.ExcInit
import HandS.ExcIs
import HandS.TryMany
import KE.KTryMore
import HandS.HotCalls
import HandS.ExcField
import HandS.Style
import HandS.SetKeys
import HandS.TupSets
import KE.KOpsOwn
import HandS.FStr
import HandS.Defaults
import HandS.MakeKw
import HandS.NoneIn
import HandS.EndTab
import KE.KNestM
import PySem.Challenge.RW_waysagree_k02_ratios_made
set_option Elab.async false
set_option linter.all false
set_option maxRecDepth 100000
set_option maxHeartbeats 4000000
/-! Z0: values as data, mutable things by handles in a store; what a value of the heap stands for; readings by functions on data. -/
namespace Z
open PySem PySem.Spec L2

/-- a lambda of the text -/
structure LamText where
  id : Nat
  params : Arguments
  body : Expr
  scope : Scope
  qual : Str
  dvs : List V
  names : List Str
inductive D where
  | non
  | bl (b : Bool)
  | int (i : Int)
  | str (s : Str)
  | ty (n : String)
  | cls (c : Str)
  | tup (xs : List D)
  | lst (xs : List D)
  | dct (ks vs : List D)
  | ins (c : Str) (ns : List Str) (vs : List D)
  | ptr (n : Nat)
  /-- the script: a list of ints that nobody changes -/
  | scr (xs : List Int)
  /-- an exception that is held -/
  | exc (c : Str) (ns : List Str) (vs : List D)
  /-- a lambda, its cells; one whose cells are known -/
  | lam (T : LamText) (clo : List (Str × Addr))
  | lamc (T : LamText) (caps : List D)

/-- a mutable thing; lk: it is being walked (read only) -/
inductive MO where
  | lst (xs : List D)
  | dct (lk : Bool) (ks vs : List D)
  | ins (c : Str) (ns : List Str) (vs : List D)
  /-- a table of code objects -/
  | tab (P : Addr) (q : Str)
abbrev Store := List MO

inductive Out (α : Type) where
  | ok (a : α) (S : Store)
  | ex (e : D) (S : Store)
  | bad
def Out.bind {α β : Type} (o : Out α) (k : α → Store → Out β) : Out β := match o with
  | .ok a S => k a S
  | .ex e S => .ex e S
  | .bad => .bad
abbrev Sl := List (Option D)
abbrev EX := Sl → Store → Out D
abbrev AX := Sl → Store → Out (List D)
abbrev BX := Sl → Store → Out Bool
/-- a statement's end -/
inductive SO where
  | nx (sl : Sl) (S : Store)
  | bk (sl : Sl) (S : Store)
  | ct (sl : Sl) (S : Store)
  | rt (d : D) (S : Store)
  | ex (e : D) (sl : Sl) (S : Store)
  | bad
abbrev SX := Sl → Store → SO

mutual
/-- no lambda whose cells are known is in it -/
def noLc : D → Bool
  | .tup xs => noLcL xs
  | .lst xs => noLcL xs
  | .dct ks vs => noLcL ks && noLcL vs
  | .ins _ _ vs => noLcL vs
  | .exc _ _ vs => noLcL vs
  | .lamc _ _ => false
  | .non => true
  | .bl _ => true
  | .int _ => true
  | .str _ => true
  | .ty _ => true
  | .cls _ => true
  | .scr _ => true
  | .ptr _ => true
  | .lam _ _ => true
def noLcL : List D → Bool
  | [] => true
  | d :: ds => noLc d && noLcL ds
end
def noLcM : MO → Bool
  | .lst xs => noLcL xs
  | .dct _ ks vs => noLcL ks && noLcL vs
  | .ins _ _ vs => noLcL vs
  | .tab _ _ => true
/-! ### what a value stands for -/
section
variable (K : PySem.W.Frag) (mg : Str → Option Value) (ρ : List Addr) (H : Hp)
/-- a list, a tuple of the written part -/
def KLst (a : Addr) (vs : List V) : Prop := ∃ (o : Obj) (its : Array Value) (n : Nat), K.lookup a = some o ∧ o.cls = .type "list" ∧ o.dict = none ∧ o.data = .seq its n ∧ its.size ≤ sizeLine ∧ Vals vs its.toList
def KTup (a : Addr) (vs : List V) : Prop := ∃ (o : Obj) (its : Array Value) (n : Nat), K.lookup a = some o ∧ o.cls = .type "tuple" ∧ o.data = .seq its n ∧ its.size ≤ sizeLine ∧ Vals vs its.toList
def ScrAt (a : Addr) (vs : List V) : Prop := (a ∉ ρ ∧ Rd H a (.lst vs)) ∨ KLst K a vs
def LstAt (a : Addr) (vs : List V) : Prop := a ∉ ρ ∧ H a = some (.lst vs)
def TupAt (a : Addr) (vs : List V) : Prop := (a ∉ ρ ∧ H a = some (.tup vs)) ∨ KTup K a vs
/-- a dict whose keys are ints and texts -/
def DctAt (a : Addr) (ks vs : List V) : Prop := a ∉ ρ ∧ ∃ kvs : List (Key × V), Rd H a (.dK kvs) ∧ ks = kvs.map (fun p => kV p.1) ∧ vs = kvs.map (·.2)
/-- the very object at a -/
def XO (a : Addr) (o : Obj) : HO := .ext fun h => h.get? a = some o
/-- an exception's object at a, its class, its dict -/
def ExD (a C d : Addr) : HO := .ext fun h => ∃ (oe : Obj) (vs : Array Value), h.get? a = some oe ∧ Zc (.ref C) (some d) oe ∧ oe.data = .fields vs
def DfAt (dvs : List V) (dV : Value) : Prop := (dvs = [] ∧ dV = .none) ∨ (dvs ≠ [] ∧ ∃ t, dV = .ref t ∧ t ∉ ρ ∧ H t = some (.tup dvs))
def LamAt (f : Addr) (T : LamText) (clo : List (Str × Addr)) : Prop := f ∉ ρ ∧ (∃ κ, clo = L2.cloFrom κ T.scope.names []) ∧ ∃ (pm doc dV ctv : Value) (c' : Addr), H f = some (XO f (PySem.W.kdv_obj "<lambda>" T.qual T.params (.expr T.body) T.scope clo dV doc pm c' ctv)) ∧ c' ∉ ρ ∧ H c' = some (LamX.CodeO c' T.qual) ∧ DfAt ρ H T.dvs dV
/-- the cells of the names, by value -/
def CellsAt (clo : List (Str × Addr)) : List Str → List V → Prop
  | [], vs => vs = []
  | n :: ns, vs => ∃ v r c o u, vs = v :: r ∧ clo.lookup n = some c ∧ c ∉ ρ ∧ H c = some (.frz o (.own 0)) ∧ o.data = .cell (some u) ∧ RelV v u ∧ (∀ m ∈ ns, clo.lookup m ≠ some c) ∧ CellsAt clo ns r
mutual
def Rep : D → V → Prop
  | .non, v => v = .non
  | .bl b, v => v = .bl b
  | .int i, v => v = .int i
  | .str s, v => v = .str s
  | .ty n, v => v = .ty n
  | .cls c, v => ∃ C, mg c = some (.ref C) ∧ v = .ref C
  | .tup ds, v => ∃ a vs, v = .ref a ∧ TupAt K ρ H a vs ∧ RepL ds vs
  | .lst ds, v => ∃ a vs, v = .ref a ∧ LstAt ρ H a vs ∧ RepL ds vs
  | .dct ks ds, v => ∃ a kv vs, v = .ref a ∧ DctAt ρ H a kv vs ∧ RepL ks kv ∧ RepL ds vs
  | .ins c ns ds, v => ∃ a C dx fs, v = .ref a ∧ a ∉ ρ ∧ mg c = some (.ref C) ∧ H a = some (.ins C dx fs) ∧ fs.map (·.1) = ns ∧ RepL ds (fs.map (·.2))
  | .ptr n, v => ∃ a, v = .ref a ∧ ρ[n]? = some a
  | .scr xs, v => ∃ a, v = .ref a ∧ ScrAt K ρ H a (xs.map V.int)
  | .exc c ns ds, v => ∃ a C d fs, v = .ref a ∧ a ∉ ρ ∧ d ∉ ρ ∧ mg c = some (.ref C) ∧ H a = some (ExD a C d) ∧ H d = some (.xd fs) ∧ fs.map (·.1) = ns ∧ RepL ds (fs.map (·.2))
  | .lam T clo, v => ∃ f, v = .ref f ∧ LamAt ρ H f T clo
  | .lamc T caps, v => ∃ f clo vs, v = .ref f ∧ LamAt ρ H f T clo ∧ CellsAt ρ H clo T.names vs ∧ RepL caps vs
def RepL : List D → List V → Prop
  | [], vs => vs = []
  | d :: ds, vs => ∃ v r, vs = v :: r ∧ Rep d v ∧ RepL ds r
end
def MRep (a : Addr) : MO → Prop
  | .lst ds => ∃ vs, H a = some (.lst vs) ∧ RepL K mg ρ H ds vs
  | .dct lk ks ds => ∃ kvs : List (Key × V), (if lk = true then Rd H a (.dK kvs) else H a = some (.dK kvs)) ∧ RepL K mg ρ H ks (kvs.map (fun p => kV p.1)) ∧ RepL K mg ρ H ds (kvs.map (·.2))
  | .ins c ns ds => ∃ C dx fs, mg c = some (.ref C) ∧ H a = some (.ins C dx fs) ∧ fs.map (·.1) = ns ∧ RepL K mg ρ H ds (fs.map (·.2))
  | .tab P q => a = P ∧ ∃ ps : Array Value, H a = some (.tbl ps) ∧ TriplesOk ps.toList ∧ ∀ (pos : Pos) (cv : Value), codeAmong pos ps.toList = some cv → ∃ c, cv = .ref c ∧ c ∉ ρ ∧ H c = some (LamX.CodeO c q)
/-- the store is held: the n-th thing stands at the n-th address -/
structure WOk (S : Store) : Prop where
  len : ρ.length = S.length
  nd : ρ.Nodup
  tr : ∀ a ∈ ρ, H a ≠ none
  ob : ∀ (n : Nat) a m, ρ[n]? = some a → S[n]? = some m → MRep K mg ρ H a m
/-- the slots -/
structure RSt (σ : St) (sl : Sl) : Prop where
  len : σ.length = sl.length
  at_ : ∀ (i : Nat) d, sl[i]? = some (some d) → ∃ v, σ[i]? = some (some v) ∧ Rep K mg ρ H d v
/-- an exception of the class c with its fields, its class at C, its own dict at dd -/
def ExRep (e : D) (C : Value) (dd : Option Addr) : Prop := ∃ c ns ds Ca da fs, e = .ins c ns ds ∧ mg c = some (.ref Ca) ∧ C = .ref Ca ∧ dd = some da ∧ da ∉ ρ ∧ H da = some (.xd fs) ∧ fs.map (·.1) = ns ∧ RepL K mg ρ H ds (fs.map (·.2))
end
/-- new handles are new; all but the handles' things stay -/
structure Ext (ρ : List Addr) (H : Hp) (ρ' : List Addr) (H' : Hp) : Prop where
  pre : ∃ t, ρ' = ρ ++ t
  new : ∀ a ∈ ρ', a ∉ ρ → H a = none
  /-- a dict may be locked for good -/
  keep : ∀ a o, a ∉ ρ → H a = some o → H' a = some o ∨ ((∃ kvs, o = .dK kvs) ∧ ∃ od, H' a = some (.frz od o))

section
variable {K : PySem.W.Frag} {mg : Str → Option Value} {ρ ρ' ρ'' : List Addr} {H H' H'' : Hp}
theorem Ext.refl : Ext ρ H ρ H := ⟨⟨[], by simp⟩, fun a h n => absurd h n, fun _ _ _ h => .inl h⟩
/-- what is no dict stays -/
theorem Ext.kept (x : Ext ρ H ρ' H') {a : Addr} {o : HO} (n : a ∉ ρ) (h : H a = some o) (nd : ∀ kvs, o ≠ .dK kvs) : H' a = some o := by
  rcases x.keep a o n h with h | ⟨⟨kvs, e⟩, _⟩
  · exact h
  · exact absurd e (nd kvs)
theorem Ext.nin (x : Ext ρ H ρ' H') {a : Addr} {o : HO} (n : a ∉ ρ) (h : H a = some o) : a ∉ ρ' := fun q => by
  have := x.new a q n
  rw [h] at this; cases this
theorem Ext.trans (x : Ext ρ H ρ' H') (y : Ext ρ' H' ρ'' H'') : Ext ρ H ρ'' H'' := by
  obtain ⟨t, e⟩ := x.pre
  obtain ⟨t', e'⟩ := y.pre
  refine ⟨⟨t ++ t', by rw [e', e, List.append_assoc]⟩, fun a h n => ?_, fun a o n h => ?_⟩
  rotate_left
  · rcases x.keep a o n h with h1 | ⟨hk, od, h1⟩
    · exact y.keep a o (x.nin n h) h1
    · exact .inr ⟨hk, od, y.kept (x.nin n h) h1 (by intros; nofun)⟩
  by_cases q : a ∈ ρ'
  · exact x.new a q n
  · have z := y.new a h q
    cases e : H a with
    | none => rfl
    | some o =>
      rcases x.keep a o n e with this | ⟨_, _, this⟩ <;> (rw [z] at this; cases this)
theorem Ext.get (x : Ext ρ H ρ' H') {n : Nat} {a : Addr} (h : ρ[n]? = some a) : ρ'[n]? = some a := by
  obtain ⟨t, e⟩ := x.pre
  subst e
  have := (List.getElem?_eq_some_iff.mp h).1
  rw [List.getElem?_append_left this]; exact h
theorem Rd.ext (x : Ext ρ H ρ' H') {a : Addr} {u : HO} (n : a ∉ ρ) (r : Rd H a u) : a ∉ ρ' ∧ Rd H' a u := by
  rcases r with r | ⟨o, r⟩
  · rcases x.keep _ _ n r with q | ⟨_, od, q⟩
    · exact ⟨x.nin n r, .inl q⟩
    · exact ⟨x.nin n r, .inr ⟨od, q⟩⟩
  · exact ⟨x.nin n r, .inr ⟨o, x.kept n r (by intros; nofun)⟩⟩
/-- keeping what is read: for values -/
structure Kp (ρ : List Addr) (H : Hp) (ρ' : List Addr) (H' : Hp) : Prop where
  rd : ∀ a u, (∀ o u', u ≠ HO.frz o u') → (∀ y, u ≠ HO.own y) → a ∉ ρ → Rd H a u → a ∉ ρ' ∧ Rd H' a u
  lst : ∀ a vs, a ∉ ρ → H a = some (.lst vs) → H' a = some (.lst vs)
  tup : ∀ a vs, a ∉ ρ → H a = some (.tup vs) → H' a = some (.tup vs)
  ins : ∀ a C dx fs, a ∉ ρ → H a = some (.ins C dx fs) → H' a = some (.ins C dx fs)
  get : ∀ (n : Nat) a, ρ[n]? = some a → ρ'[n]? = some a
  ext : ∀ a φ, a ∉ ρ → H a = some (.ext φ) → a ∉ ρ' ∧ H' a = some (.ext φ)
  xd : ∀ a fs, a ∉ ρ → H a = some (.xd fs) → a ∉ ρ' ∧ H' a = some (.xd fs)
theorem Ext.kp (x : Ext ρ H ρ' H') : Kp ρ H ρ' H' := ⟨fun a u _ _ n r => Rd.ext x n r, fun a vs n h => x.kept n h (by intros; nofun), fun a vs n h => x.kept n h (by intros; nofun), fun a C dx fs n h => x.kept n h (by intros; nofun), fun n a h => x.get h, fun a φ n h => ⟨x.nin n h, x.kept n h (by intros; nofun)⟩, fun a fs n h => ⟨x.nin n h, x.kept n h (by intros; nofun)⟩⟩
theorem ScrAt.kp (x : Kp ρ H ρ' H') {a : Addr} {vs : List V} (h : ScrAt K ρ H a vs) : ScrAt K ρ' H' a vs := by
  rcases h with ⟨n, r⟩ | h
  · exact .inl (x.rd _ _ (by intros; nofun) (by intros; nofun) n r)
  · exact .inr h
theorem LstAt.kp (x : Kp ρ H ρ' H') {a : Addr} {vs : List V} (h : LstAt ρ H a vs) : LstAt ρ' H' a vs := ⟨(x.rd _ _ (by intros; nofun) (by intros; nofun) h.1 (.inl h.2)).1, x.lst _ _ h.1 h.2⟩
theorem TupAt.kp (x : Kp ρ H ρ' H') {a : Addr} {vs : List V} (h : TupAt K ρ H a vs) : TupAt K ρ' H' a vs := by
  rcases h with ⟨n, r⟩ | h
  · exact .inl ⟨(x.rd _ _ (by intros; nofun) (by intros; nofun) n (.inl r)).1, x.tup _ _ n r⟩
  · exact .inr h
theorem DctAt.kp (x : Kp ρ H ρ' H') {a : Addr} {ks vs : List V} (h : DctAt ρ H a ks vs) : DctAt ρ' H' a ks vs := by
  obtain ⟨n, kvs, r, e1, e2⟩ := h
  obtain ⟨n', r'⟩ := x.rd _ _ (by intros; nofun) (by intros; nofun) n r
  exact ⟨n', kvs, r', e1, e2⟩
theorem DfAt.kp (x : Kp ρ H ρ' H') {dvs : List V} {dV : Value} (h : DfAt ρ H dvs dV) : DfAt ρ' H' dvs dV := by
  rcases h with h | ⟨n, t, e, nt, ht⟩
  · exact .inl h
  · exact .inr ⟨n, t, e, (x.rd _ _ (by intros; nofun) (by intros; nofun) nt (.inl ht)).1, x.tup _ _ nt ht⟩
theorem LamAt.kp (x : Kp ρ H ρ' H') {f : Addr} {T : LamText} {clo : List (Str × Addr)} (h : LamAt ρ H f T clo) : LamAt ρ' H' f T clo := by
  obtain ⟨n, hκ, pm, doc, dV, ctv, c', h1, nc, h2, h3⟩ := h
  obtain ⟨n', h1'⟩ := x.ext _ _ n h1
  obtain ⟨nc', h2'⟩ := x.ext _ _ nc h2
  exact ⟨n', hκ, pm, doc, dV, ctv, c', h1', nc', h2', h3.kp x⟩
/-- the cells that are known stay so -/
def FzK (ρ : List Addr) (H : Hp) (ρ' : List Addr) (H' : Hp) : Prop := ∀ a o u, a ∉ ρ → H a = some (.frz o u) → a ∉ ρ' ∧ H' a = some (.frz o u)
theorem Ext.fzk (x : Ext ρ H ρ' H') : FzK ρ H ρ' H' := fun a o u n h => ⟨x.nin n h, x.kept n h (by intros; nofun)⟩
theorem CellsAt.kp (x : FzK ρ H ρ' H') {clo : List (Str × Addr)} : ∀ {ns : List Str} {vs : List V}, CellsAt ρ H clo ns vs → CellsAt ρ' H' clo ns vs
  | [], _, h => h
  | n :: ns, _, ⟨v, r, c, o, u, e, h1, n1, h2, h3, h4, hd, h5⟩ => by
    obtain ⟨n1', h2'⟩ := x _ _ _ n1 h2
    exact ⟨v, r, c, o, u, e, h1, n1', h2', h3, h4, hd, CellsAt.kp x h5⟩
mutual
theorem Rep.kp (x : Kp ρ H ρ' H') : ∀ (d : D) (v : V), (FzK ρ H ρ' H' ∨ noLc d = true) → Rep K mg ρ H d v → Rep K mg ρ' H' d v
  | .non, v, hf, h => by rw [Rep] at h ⊢; exact h
  | .bl b, v, hf, h => by rw [Rep] at h ⊢; exact h
  | .int i, v, hf, h => by rw [Rep] at h ⊢; exact h
  | .str s, v, hf, h => by rw [Rep] at h ⊢; exact h
  | .ty n, v, hf, h => by rw [Rep] at h ⊢; exact h
  | .cls c, v, hf, h => by rw [Rep] at h ⊢; exact h
  | .tup ds, v, hf, h => by
    rw [Rep] at h ⊢
    obtain ⟨a, vs, e, t, r⟩ := h
    exact ⟨a, vs, e, t.kp x, RepL.kp x ds vs (hf.imp id fun q => by rw [noLc] at q; exact q) r⟩
  | .lst ds, v, hf, h => by
    rw [Rep] at h ⊢
    obtain ⟨a, vs, e, t, r⟩ := h
    exact ⟨a, vs, e, t.kp x, RepL.kp x ds vs (hf.imp id fun q => by rw [noLc] at q; exact q) r⟩
  | .dct ks ds, v, hf, h => by
    rw [Rep] at h ⊢
    obtain ⟨a, kv, vs, e, t, r1, r2⟩ := h
    exact ⟨a, kv, vs, e, t.kp x, RepL.kp x ks kv (hf.imp id fun q => by rw [noLc, Bool.and_eq_true] at q; exact q.1) r1, RepL.kp x ds vs (hf.imp id fun q => by rw [noLc, Bool.and_eq_true] at q; exact q.2) r2⟩
  | .ins c ns ds, v, hf, h => by
    rw [Rep] at h ⊢
    obtain ⟨a, C, dx, fs, e, n, hm, ha, hn, r⟩ := h
    exact ⟨a, C, dx, fs, e, (x.rd a _ (by intros; nofun) (by intros; nofun) n (.inl ha)).1, hm, x.ins a C dx fs n ha, hn, RepL.kp x ds _ (hf.imp id fun q => by rw [noLc] at q; exact q) r⟩
  | .ptr n, v, hf, h => by
    rw [Rep] at h ⊢
    obtain ⟨a, e, q⟩ := h
    exact ⟨a, e, x.get n a q⟩
  | .scr xs, v, hf, h => by
    rw [Rep] at h ⊢
    obtain ⟨a, e, q⟩ := h
    exact ⟨a, e, q.kp x⟩
  | .exc c ns ds, v, hf, h => by
    rw [Rep] at h ⊢
    obtain ⟨a, C, d, fs, e, n, nd, hm, ha, hd, hn, r⟩ := h
    obtain ⟨n', ha'⟩ := x.ext _ _ n ha
    obtain ⟨nd', hd'⟩ := x.xd _ _ nd hd
    exact ⟨a, C, d, fs, e, n', nd', hm, ha', hd', hn, RepL.kp x ds _ (hf.imp id fun q => by rw [noLc] at q; exact q) r⟩
  | .lam T clo, v, hf, h => by
    rw [Rep] at h ⊢
    obtain ⟨f, e, h⟩ := h
    exact ⟨f, e, h.kp x⟩
  | .lamc T caps, v, hf, h => by
    rw [Rep] at h ⊢
    obtain ⟨f, clo, vs, e, h1, h2, r⟩ := h
    rcases hf with hf | hf
    · exact ⟨f, clo, vs, e, h1.kp x, h2.kp hf, RepL.kp x caps vs (.inl hf) r⟩
    · rw [noLc] at hf; cases hf
theorem RepL.kp (x : Kp ρ H ρ' H') : ∀ (ds : List D) (vs : List V), (FzK ρ H ρ' H' ∨ noLcL ds = true) → RepL K mg ρ H ds vs → RepL K mg ρ' H' ds vs
  | [], vs, _, h => by rw [RepL] at h ⊢; exact h
  | d :: ds, vs, hf, h => by
    rw [RepL] at h ⊢
    obtain ⟨v, r, e, h1, h2⟩ := h
    exact ⟨v, r, e, Rep.kp x d v (hf.imp id fun q => by rw [noLcL, Bool.and_eq_true] at q; exact q.1) h1, RepL.kp x ds r (hf.imp id fun q => by rw [noLcL, Bool.and_eq_true] at q; exact q.2) h2⟩
end
theorem Rep.ext (x : Ext ρ H ρ' H') {d : D} {v : V} (h : Rep K mg ρ H d v) : Rep K mg ρ' H' d v := Rep.kp x.kp d v (.inl x.fzk) h
theorem RepL.ext (x : Ext ρ H ρ' H') {ds : List D} {vs : List V} (h : RepL K mg ρ H ds vs) : RepL K mg ρ' H' ds vs := RepL.kp x.kp ds vs (.inl x.fzk) h
theorem RSt.ext (x : Ext ρ H ρ' H') {σ : St} {sl : Sl} (h : RSt K mg ρ H σ sl) : RSt K mg ρ' H' σ sl := ⟨h.len, fun i d e => by
  obtain ⟨v, e1, r⟩ := h.at_ i d e
  exact ⟨v, e1, r.ext x⟩⟩
theorem ScrAt.sq {a : Addr} {vs : List V} (h : ScrAt K ρ H a vs) : SqL K H a vs := by
  rcases h with ⟨_, r⟩ | h
  · exact .inl r
  · exact .inr h
theorem LstAt.sq {a : Addr} {vs : List V} (h : LstAt ρ H a vs) : SqL K H a vs := .inl (.inl h.2)
theorem TupAt.sq {a : Addr} {vs : List V} (h : TupAt K ρ H a vs) : SqT K H a vs := by
  rcases h with ⟨_, r⟩ | h
  · exact .inl (.inl r)
  · exact .inr h
theorem RepL.len : ∀ {ds : List D} {vs : List V}, RepL K mg ρ H ds vs → ds.length = vs.length
  | [], _, h => by rw [RepL] at h; subst h; rfl
  | d :: ds, _, h => by
    rw [RepL] at h
    obtain ⟨v, r, e, _, h2⟩ := h
    subst e
    simp [RepL.len h2]
theorem RepL.get : ∀ {ds : List D} {vs : List V} {i : Nat} {d : D}, RepL K mg ρ H ds vs → ds[i]? = some d → ∃ v, vs[i]? = some v ∧ Rep K mg ρ H d v
  | [], _, _, _, _, e => by simp at e
  | x :: ds, _, 0, d, h, e => by
    rw [RepL] at h
    obtain ⟨v, r, e', h1, _⟩ := h
    subst e'
    simp at e; subst e
    exact ⟨v, by simp, h1⟩
  | x :: ds, _, i + 1, d, h, e => by
    rw [RepL] at h
    obtain ⟨v, r, e', _, h2⟩ := h
    subst e'
    obtain ⟨w, e1, q⟩ := RepL.get (i := i) h2 (by simpa using e)
    exact ⟨w, by simpa using e1, q⟩
theorem RepL.get' : ∀ {ds : List D} {vs : List V} {i : Nat} {v : V}, RepL K mg ρ H ds vs → vs[i]? = some v → ∃ d, ds[i]? = some d ∧ Rep K mg ρ H d v := fun {ds vs i v} h e => by
  have hl := h.len
  have hi := (List.getElem?_eq_some_iff.mp e).1
  have hd : ds[i]? = some (ds[i]'(by omega)) := by simp
  obtain ⟨w, e1, q⟩ := h.get hd
  rw [e] at e1; cases e1
  exact ⟨_, hd, q⟩
theorem RepL.nil : RepL K mg ρ H [] [] := by rw [RepL]
theorem RepL.cons {d : D} {v : V} {ds : List D} {vs : List V} (h : Rep K mg ρ H d v) (r : RepL K mg ρ H ds vs) : RepL K mg ρ H (d :: ds) (v :: vs) := by
  rw [RepL]; exact ⟨v, vs, rfl, h, r⟩
theorem RepL.append : ∀ {ds es : List D} {vs ws : List V}, RepL K mg ρ H ds vs → RepL K mg ρ H es ws → RepL K mg ρ H (ds ++ es) (vs ++ ws)
  | [], _, _, _, h, q => by rw [RepL] at h; subst h; exact q
  | d :: ds, _, _, _, h, q => by
    rw [RepL] at h
    obtain ⟨v, r, e, h1, h2⟩ := h
    subst e
    exact RepL.cons h1 (RepL.append h2 q)
theorem RepL.set {d : D} {v : V} (h : Rep K mg ρ H d v) : ∀ {ds : List D} {vs : List V} (i : Nat), RepL K mg ρ H ds vs → RepL K mg ρ H (ds.set i d) (vs.set i v)
  | [], _, _, q => by rw [RepL] at q; subst q; exact RepL.nil
  | x :: ds, _, 0, q => by
    rw [RepL] at q
    obtain ⟨w, r, e, _, h2⟩ := q
    subst e
    exact RepL.cons h h2
  | x :: ds, _, i + 1, q => by
    rw [RepL] at q
    obtain ⟨w, r, e, h1, h2⟩ := q
    subst e
    exact RepL.cons h1 (RepL.set h i h2)
theorem RepL.take : ∀ {ds : List D} {vs : List V} (n : Nat), RepL K mg ρ H ds vs → RepL K mg ρ H (ds.take n) (vs.take n)
  | _, _, 0, _ => by simp only [List.take_zero]; exact RepL.nil
  | [], _, n + 1, q => by rw [RepL] at q; subst q; exact RepL.nil
  | x :: ds, _, n + 1, q => by
    rw [RepL] at q
    obtain ⟨w, r, e, h1, h2⟩ := q
    subst e
    exact RepL.cons h1 (RepL.take n h2)
theorem RepL.drop : ∀ {ds : List D} {vs : List V} (n : Nat), RepL K mg ρ H ds vs → RepL K mg ρ H (ds.drop n) (vs.drop n)
  | _, _, 0, q => by simpa using q
  | [], _, n + 1, q => by rw [RepL] at q; subst q; exact RepL.nil
  | x :: ds, _, n + 1, q => by
    rw [RepL] at q
    obtain ⟨w, r, e, h1, h2⟩ := q
    subst e
    simpa using RepL.drop n h2
end

/-! ### the readings -/
section
variable (K : PySem.W.Frag) (mg : Str → Option Value)
/-- behind an expression -/
def PostE (W : Value → Option Addr → Hp → Prop) (ρ : List Addr) (H : Hp) (Q : V → Hp → Prop) : Out D → Prop
  | .ok d S' => ∀ v ρ' H', Ext ρ H ρ' H' → WOk K mg ρ' H' S' → Rep K mg ρ' H' d v → Q v H'
  | .ex e S' => ∀ C dd ρ' H', Ext ρ H ρ' H' → WOk K mg ρ' H' S' → ExRep K mg ρ' H' e C dd → W C dd H'
  | .bad => False
def PostA (W : Value → Option Addr → Hp → Prop) (ρ : List Addr) (H : Hp) (Q : List V → Hp → Prop) : Out (List D) → Prop
  | .ok ds S' => ∀ vs ρ' H', Ext ρ H ρ' H' → WOk K mg ρ' H' S' → RepL K mg ρ' H' ds vs → Q vs H'
  | .ex e S' => ∀ C dd ρ' H', Ext ρ H ρ' H' → WOk K mg ρ' H' S' → ExRep K mg ρ' H' e C dd → W C dd H'
  | .bad => False
def PostB (W : Value → Option Addr → Hp → Prop) (ρ : List Addr) (H : Hp) (Q : Bool → Hp → Prop) : Out Bool → Prop
  | .ok b S' => ∀ ρ' H', Ext ρ H ρ' H' → WOk K mg ρ' H' S' → Q b H'
  | .ex e S' => ∀ C dd ρ' H', Ext ρ H ρ' H' → WOk K mg ρ' H' S' → ExRep K mg ρ' H' e C dd → W C dd H'
  | .bad => False
def PostS (W : WX) (ρ : List Addr) (H : Hp) (Dd : Ends) : SO → Prop
  | .nx sl S' => ∀ σ' ρ' H', Ext ρ H ρ' H' → WOk K mg ρ' H' S' → RSt K mg ρ' H' σ' sl → Dd.nx σ' H'
  | .bk sl S' => ∀ σ' ρ' H', Ext ρ H ρ' H' → WOk K mg ρ' H' S' → RSt K mg ρ' H' σ' sl → Dd.bk σ' H'
  | .ct sl S' => ∀ σ' ρ' H', Ext ρ H ρ' H' → WOk K mg ρ' H' S' → RSt K mg ρ' H' σ' sl → Dd.ct σ' H'
  | .rt d S' => ∀ v ρ' H', Ext ρ H ρ' H' → WOk K mg ρ' H' S' → Rep K mg ρ' H' d v → Dd.rt v H'
  | .ex e sl S' => ∀ C dd σ' ρ' H', Ext ρ H ρ' H' → WOk K mg ρ' H' S' → RSt K mg ρ' H' σ' sl → ExRep K mg ρ' H' e C dd → W C dd σ' H'
  | .bad => False
def trE (W : WX) (f : EX) : TE := fun σ H Q => ∃ ρ S sl, WOk K mg ρ H S ∧ RSt K mg ρ H σ sl ∧ PostE K mg (fun C d H' => W C d σ H') ρ H Q (f sl S)
def trA (W : WX) (f : AX) : TA := fun σ H Q => ∃ ρ S sl, WOk K mg ρ H S ∧ RSt K mg ρ H σ sl ∧ PostA K mg (fun C d H' => W C d σ H') ρ H Q (f sl S)
def trB (W : WX) (f : BX) : TT := fun σ H Q => ∃ ρ S sl, WOk K mg ρ H S ∧ RSt K mg ρ H σ sl ∧ PostB K mg (fun C d H' => W C d σ H') ρ H Q (f sl S)
def trS (W : WX) (f : SX) : TS := fun Dd σ H => ∃ ρ S sl, WOk K mg ρ H S ∧ RSt K mg ρ H σ sl ∧ PostS K mg W ρ H Dd (f sl S)
end
/-- e of the code is f on data -/
def E (X : Cx) (W : WX) (e : Expr) (f : EX) : Prop := PE X e (trE X.K X.mg W f)
def EA (X : Cx) (W : WX) (es : List Expr) (f : AX) : Prop := PA X es (trA X.K X.mg W f)
def EB (X : Cx) (W : WX) (e : Expr) (f : BX) : Prop := PT X e (trB X.K X.mg W f)
def ES (X : Cx) (W : WX) (st : Stmt) (f : SX) : Prop := PS X st (trS X.K X.mg W f)
def ESs (X : Cx) (W : WX) (st : List Stmt) (f : SX) : Prop := PSs X st (trS X.K X.mg W f)

section
variable {X : Cx}
theorem PE.imp {e : Expr} {t t' : TE} (h : PE X e t) (k : ∀ σ H Q, t' σ H Q → t σ H Q) : PE X e t' := ⟨fun pins s σ H Q I q => h.run pins s σ H Q I (k σ H Q q)⟩
theorem PA.imp {e : List Expr} {t t' : TA} (h : PA X e t) (k : ∀ σ H Q, t' σ H Q → t σ H Q) : PA X e t' := ⟨fun pos pins s σ H Q I q => h.run pos pins s σ H Q I (k σ H Q q)⟩
theorem PT.imp {e : Expr} {t t' : TT} (h : PT X e t) (k : ∀ σ H Q, t' σ H Q → t σ H Q) : PT X e t' := ⟨fun pins s σ H Q I q => h.run pins s σ H Q I (k σ H Q q)⟩
theorem PS.imp {e : Stmt} {t t' : TS} (h : PS X e t) (k : ∀ D σ H, t' D σ H → t D σ H) : PS X e t' := ⟨fun pins s σ H D I q => h.run pins s σ H D I (k D σ H q)⟩
theorem PSs.imp {e : List Stmt} {t t' : TS} (h : PSs X e t) (k : ∀ D σ H, t' D σ H → t D σ H) : PSs X e t' := ⟨fun pins s σ H D I q => h.run pins s σ H D I (k D σ H q)⟩
end
section
variable {K : PySem.W.Frag} {mg : Str → Option Value} {ρ ρ' : List Addr} {H H' : Hp}
variable {W : Value → Option Addr → Hp → Prop}
theorem PostE.from {Q : V → Hp → Prop} {o : Out D} (x : Ext ρ H ρ' H') (h : PostE K mg W ρ H Q o) : PostE K mg W ρ' H' Q o := by
  cases o with
  | ok d S => exact fun v ρ2 H2 y w r => h v ρ2 H2 (x.trans y) w r
  | ex e S => exact fun C dd ρ2 H2 y w r => h C dd ρ2 H2 (x.trans y) w r
  | bad => exact h
theorem PostA.from {Q : List V → Hp → Prop} {o : Out (List D)} (x : Ext ρ H ρ' H') (h : PostA K mg W ρ H Q o) : PostA K mg W ρ' H' Q o := by
  cases o with
  | ok d S => exact fun v ρ2 H2 y w r => h v ρ2 H2 (x.trans y) w r
  | ex e S => exact fun C dd ρ2 H2 y w r => h C dd ρ2 H2 (x.trans y) w r
  | bad => exact h
theorem PostB.from {Q : Bool → Hp → Prop} {o : Out Bool} (x : Ext ρ H ρ' H') (h : PostB K mg W ρ H Q o) : PostB K mg W ρ' H' Q o := by
  cases o with
  | ok d S => exact fun ρ2 H2 y w => h ρ2 H2 (x.trans y) w
  | ex e S => exact fun C dd ρ2 H2 y w r => h C dd ρ2 H2 (x.trans y) w r
  | bad => exact h
theorem PostS.from {Wx : WX} {Dd : Ends} {o : SO} (x : Ext ρ H ρ' H') (h : PostS K mg Wx ρ H Dd o) : PostS K mg Wx ρ' H' Dd o := by
  cases o with
  | nx sl S => exact fun σ ρ2 H2 y w r => h σ ρ2 H2 (x.trans y) w r
  | bk sl S => exact fun σ ρ2 H2 y w r => h σ ρ2 H2 (x.trans y) w r
  | ct sl S => exact fun σ ρ2 H2 y w r => h σ ρ2 H2 (x.trans y) w r
  | rt d S => exact fun v ρ2 H2 y w r => h v ρ2 H2 (x.trans y) w r
  | ex e sl S => exact fun C dd σ ρ2 H2 y w r1 r2 => h C dd σ ρ2 H2 (x.trans y) w r1 r2
  | bad => exact h
/-- an expression's end, then k's -/
theorem PostE.bindE {Q : V → Hp → Prop} {o : Out D} {k : D → Store → Out D} (h : PostE K mg W ρ H Q (o.bind k)) :
    PostE K mg W ρ H (fun v H1 => ∃ ρ1 S1 d, Ext ρ H ρ1 H1 ∧ WOk K mg ρ1 H1 S1 ∧ Rep K mg ρ1 H1 d v ∧ o = .ok d S1 ∧ PostE K mg W ρ1 H1 Q (k d S1)) o := by
  cases o with
  | ok d S => exact fun v ρ2 H2 y w r => ⟨ρ2, S, d, y, w, r, rfl, PostE.from y h⟩
  | ex e S => exact h
  | bad => exact h
theorem PostE.bindA {Q : List V → Hp → Prop} {o : Out D} {k : D → Store → Out (List D)} (h : PostA K mg W ρ H Q (o.bind k)) :
    PostE K mg W ρ H (fun v H1 => ∃ ρ1 S1 d, Ext ρ H ρ1 H1 ∧ WOk K mg ρ1 H1 S1 ∧ Rep K mg ρ1 H1 d v ∧ o = .ok d S1 ∧ PostA K mg W ρ1 H1 Q (k d S1)) o := by
  cases o with
  | ok d S => exact fun v ρ2 H2 y w r => ⟨ρ2, S, d, y, w, r, rfl, PostA.from y h⟩
  | ex e S => exact h
  | bad => exact h
theorem PostE.bindB {Q : Bool → Hp → Prop} {o : Out D} {k : D → Store → Out Bool} (h : PostB K mg W ρ H Q (o.bind k)) :
    PostE K mg W ρ H (fun v H1 => ∃ ρ1 S1 d, Ext ρ H ρ1 H1 ∧ WOk K mg ρ1 H1 S1 ∧ Rep K mg ρ1 H1 d v ∧ o = .ok d S1 ∧ PostB K mg W ρ1 H1 Q (k d S1)) o := by
  cases o with
  | ok d S => exact fun v ρ2 H2 y w r => ⟨ρ2, S, d, y, w, r, rfl, PostB.from y h⟩
  | ex e S => exact h
  | bad => exact h
theorem PostA.bindE {Q : V → Hp → Prop} {o : Out (List D)} {k : List D → Store → Out D} (h : PostE K mg W ρ H Q (o.bind k)) :
    PostA K mg W ρ H (fun v H1 => ∃ ρ1 S1 d, Ext ρ H ρ1 H1 ∧ WOk K mg ρ1 H1 S1 ∧ RepL K mg ρ1 H1 d v ∧ o = .ok d S1 ∧ PostE K mg W ρ1 H1 Q (k d S1)) o := by
  cases o with
  | ok d S => exact fun v ρ2 H2 y w r => ⟨ρ2, S, d, y, w, r, rfl, PostE.from y h⟩
  | ex e S => exact h
  | bad => exact h
theorem PostA.bindA {Q : List V → Hp → Prop} {o : Out (List D)} {k : List D → Store → Out (List D)} (h : PostA K mg W ρ H Q (o.bind k)) :
    PostA K mg W ρ H (fun v H1 => ∃ ρ1 S1 d, Ext ρ H ρ1 H1 ∧ WOk K mg ρ1 H1 S1 ∧ RepL K mg ρ1 H1 d v ∧ o = .ok d S1 ∧ PostA K mg W ρ1 H1 Q (k d S1)) o := by
  cases o with
  | ok d S => exact fun v ρ2 H2 y w r => ⟨ρ2, S, d, y, w, r, rfl, PostA.from y h⟩
  | ex e S => exact h
  | bad => exact h
theorem PostB.bindE {Q : V → Hp → Prop} {o : Out Bool} {k : Bool → Store → Out D} (h : PostE K mg W ρ H Q (o.bind k)) :
    PostB K mg W ρ H (fun b H1 => ∃ ρ1 S1, Ext ρ H ρ1 H1 ∧ WOk K mg ρ1 H1 S1 ∧ o = .ok b S1 ∧ PostE K mg W ρ1 H1 Q (k b S1)) o := by
  cases o with
  | ok d S => exact fun ρ2 H2 y w => ⟨ρ2, S, y, w, rfl, PostE.from y h⟩
  | ex e S => exact h
  | bad => exact h
theorem PostB.bindB {Q : Bool → Hp → Prop} {o : Out Bool} {k : Bool → Store → Out Bool} (h : PostB K mg W ρ H Q (o.bind k)) :
    PostB K mg W ρ H (fun b H1 => ∃ ρ1 S1, Ext ρ H ρ1 H1 ∧ WOk K mg ρ1 H1 S1 ∧ o = .ok b S1 ∧ PostB K mg W ρ1 H1 Q (k b S1)) o := by
  cases o with
  | ok d S => exact fun ρ2 H2 y w => ⟨ρ2, S, y, w, rfl, PostB.from y h⟩
  | ex e S => exact h
  | bad => exact h
end
end Z
/-! Z1: names, constants, operators, tests, calls of built-ins, displays. -/
namespace Z
open PySem PySem.Spec L2

/-! ### combinators -/
def eName (i : Nat) : EX := fun sl S => match sl[i]? with
  | some (some d) => .ok d S
  | _ => .bad
def eLit (d : D) : EX := fun _ S => .ok d S
abbrev Sem2 := D → D → Store → Out D
abbrev Sem1 := D → Store → Out D
abbrev SemL := List D → Store → Out D
def eBin (sem : Sem2) (fa fb : EX) : EX := fun sl S => (fa sl S).bind fun d S1 => (fb sl S1).bind fun e S2 => sem d e S2
def eUn (sem : Sem1) (fa : EX) : EX := fun sl S => (fa sl S).bind sem
def eArgs (sem : SemL) (fa : AX) : EX := fun sl S => (fa sl S).bind sem
def aNil : AX := fun _ S => .ok [] S
def aCons (f : EX) (g : AX) : AX := fun sl S => (f sl S).bind fun d S1 => (g sl S1).bind fun ds S2 => .ok (d :: ds) S2
def orS2 (f g : Sem2) : Sem2 := fun d e S => match f d e S with
  | .bad => g d e S
  | r => r
def orS1 (f g : Sem1) : Sem1 := fun d S => match f d S with
  | .bad => g d S
  | r => r
def orSL (f g : SemL) : SemL := fun d S => match f d S with
  | .bad => g d S
  | r => r
/-- a value that is a bool, as a test -/
def bVal (f : EX) : BX := fun sl S => (f sl S).bind fun d S1 => match d with
  | .bl b => .ok b S1
  | _ => .bad
def bNot (f : BX) : BX := fun sl S => (f sl S).bind fun b S1 => .ok (!b) S1
def bAnd (f g : BX) : BX := fun sl S => (f sl S).bind fun b S1 => if b = true then g sl S1 else .ok false S1
def bOr (f g : BX) : BX := fun sl S => (f sl S).bind fun b S1 => if b = true then .ok true S1 else g sl S1
def eAnd (f g : EX) : EX := fun sl S => (f sl S).bind fun d S1 => match d with
  | .bl true => g sl S1
  | .bl false => .ok (.bl false) S1
  | _ => .bad
def eOr (f g : EX) : EX := fun sl S => (f sl S).bind fun d S1 => match d with
  | .bl true => .ok (.bl true) S1
  | .bl false => g sl S1
  | _ => .bad
def eNot (f : EX) : EX := fun sl S => (f sl S).bind fun d S1 => match d with
  | .bl b => .ok (.bl (!b)) S1
  | _ => .bad
def eIf (c : BX) (f g : EX) : EX := fun sl S => (c sl S).bind fun b S1 => if b = true then f sl S1 else g sl S1
/-- a < b < c -/
def eChain (s1 s2 : Sem2) (fa fb fc : EX) : EX := fun sl S => (fa sl S).bind fun d S1 => (fb sl S1).bind fun e S2 => (s1 d e S2).bind fun r S3 => match r with
  | .bl true => (fc sl S3).bind fun g S4 => s2 e g S4
  | .bl false => .ok (.bl false) S3
  | _ => .bad

/-! ### what is not raised -/
def WN : Value → Option Addr → Hp → Prop := fun _ _ _ => False

section
variable {X : Cx} {W : WX}
/-- an operator by data; it raises nothing -/
structure OpD (X : Cx) (f : Value → Value → Sem Value) (sem : Sem2) : Prop where
  go : ∃ r : R2, OpR X f r ∧ ∀ (Wp : Value → Option Addr → Hp → Prop) (ρ : List Addr) (H : Hp) (S : Store) (d e : D) (x y : V) (Q : VK), WOk X.K X.mg ρ H S → Rep X.K X.mg ρ H d x → Rep X.K X.mg ρ H e y → PostE X.K X.mg Wp ρ H Q (sem d e S) → r x y H Q
structure UnD (X : Cx) (f : Value → Sem Value) (sem : Sem1) : Prop where
  go : ∃ r : V → Hp → VK → Prop, UnR X f r ∧ ∀ (Wp : Value → Option Addr → Hp → Prop) (ρ : List Addr) (H : Hp) (S : Store) (d : D) (x : V) (Q : VK), WOk X.K X.mg ρ H S → Rep X.K X.mg ρ H d x → PostE X.K X.mg Wp ρ H Q (sem d S) → r x H Q
structure CallD (X : Cx) (f : Value) (sem : SemL) : Prop where
  go : ∃ r : List V → Hp → VK → Prop, CallR X f r ∧ ∀ (Wp : Value → Option Addr → Hp → Prop) (ρ : List Addr) (H : Hp) (S : Store) (ds : List D) (xs : List V) (Q : VK), WOk X.K X.mg ρ H S → RepL X.K X.mg ρ H ds xs → PostE X.K X.mg Wp ρ H Q (sem ds S) → r xs H Q
theorem OpD.or {f : Value → Value → Sem Value} {s t : Sem2} (h : OpD X f s) (h' : OpD X f t) : OpD X f (orS2 s t) := by
  obtain ⟨r, o, g⟩ := h.go
  obtain ⟨r', o', g'⟩ := h'.go
  refine ⟨_, o.or o', fun Wp ρ H S d e x y Q w rx ry p => ?_⟩
  unfold orS2 at p
  cases q : s d e S with
  | bad => rw [q] at p; exact .inr (g' Wp ρ H S d e x y Q w rx ry p)
  | ok a S' => rw [q] at p; exact .inl (g Wp ρ H S d e x y Q w rx ry (by rw [q]; exact p))
  | ex a S' => rw [q] at p; exact .inl (g Wp ρ H S d e x y Q w rx ry (by rw [q]; exact p))
theorem CallD.or {f : Value} {s t : SemL} (h : CallD X f s) (h' : CallD X f t) : CallD X f (orSL s t) := by
  obtain ⟨r, o, g⟩ := h.go
  obtain ⟨r', o', g'⟩ := h'.go
  refine ⟨_, CallR.or o o', fun Wp ρ H S d x Q w rx p => ?_⟩
  unfold orSL at p
  cases q : s d S with
  | bad => rw [q] at p; exact .inr (g' Wp ρ H S d x Q w rx p)
  | ok a S' => rw [q] at p; exact .inl (g Wp ρ H S d x Q w rx (by rw [q]; exact p))
  | ex a S' => rw [q] at p; exact .inl (g Wp ρ H S d x Q w rx (by rw [q]; exact p))

/-- an end that makes nothing -/
theorem post_ok {K : PySem.W.Frag} {mg : Str → Option Value} {Wp : Value → Option Addr → Hp → Prop} {ρ : List Addr} {H : Hp} {Q : VK} {d : D} {S : Store} {v : V} (h : PostE K mg Wp ρ H Q (.ok d S)) (w : WOk K mg ρ H S) (r : Rep K mg ρ H d v) : Q v H :=
  h v ρ H Ext.refl w r

/-! ### rules -/
theorem r_name {i : Nat} {x : Str} {pos : Pos} (hN : X.N[i]? = some x := by rfl) (hv : Vis X.env.scope x := by first | exact Or.inl rfl | exact Or.inr (Or.inl rfl) | exact Or.inr (Or.inr rfl)) (hd : (x == ("__debug__" : Str)) = false := by decide)
    (hcd : (x == ("__classdict__" : Str)) = false := by decide) : E X W (.Name x pos) (eName i) := by
  refine PE.imp (pe_var hN hv hd hcd) fun σ H Q h => ?_
  obtain ⟨ρ, S, sl, w, r, p⟩ := h
  unfold eName at p
  cases q : sl[i]? with
  | none => rw [q] at p; exact p.elim
  | some o =>
    cases o with
    | none => rw [q] at p; exact p.elim
    | some d =>
      rw [q] at p
      obtain ⟨v, e, rv⟩ := r.at_ i d q
      exact ⟨v, e, post_ok p w rv⟩
theorem r_int {i : Int} {j pos} : E X W (.Constant (.int i) j pos) (eLit (.int i)) := PE.imp pe_int fun σ H Q ⟨ρ, S, sl, w, r, p⟩ => post_ok (d := .int i) p w (by rw [Rep])
theorem r_bl {b : Bool} {j pos} : E X W (.Constant (.bool b) j pos) (eLit (.bl b)) := PE.imp pe_bl fun σ H Q ⟨ρ, S, sl, w, r, p⟩ => post_ok (d := .bl b) p w (by rw [Rep])
theorem r_non {j pos} : E X W (.Constant .none j pos) (eLit .non) := PE.imp pe_non fun σ H Q ⟨ρ, S, sl, w, r, p⟩ => post_ok (d := .non) p w (by rw [Rep])
theorem r_str {x : Str} {j pos} : E X W (.Constant (.str x) j pos) (eLit (.str x)) := PE.imp pe_str fun σ H Q ⟨ρ, S, sl, w, r, p⟩ => post_ok (d := .str x) p w (by rw [Rep])
/-- a global whose value is the same at every heap -/
theorem r_glob {x : Str} {v : V} {u : Value} {pos : Pos} {d : D} (hg : Gl X x) (hm : X.mg x = some u) (rv : RelV v u) (rd : ∀ ρ H, Rep X.K X.mg ρ H d v) (hd : (x == ("__debug__" : Str)) = false := by decide) : E X W (.Name x pos) (eLit d) :=
  PE.imp (pe_glob hg hm rv hd) fun σ H Q ⟨ρ, S, sl, w, r, p⟩ => post_ok (d := d) p w (rd ρ H)
/-- a built-in class as a value -/
theorem r_ty {x : Str} {n : String} {pos : Pos} (hg : Gl X x) (hm : X.mg x = none) (hv : bootBuiltins x = some (.type n)) (hn : x ≠ "__name__" := by decide) (hd : (x == ("__debug__" : Str)) = false := by decide) : E X W (.Name x pos) (eLit (.ty n)) :=
  PE.imp (pe_bltn (v := .ty n) hg hm hv rfl hn hd) fun σ H Q ⟨ρ, S, sl, w, r, p⟩ => post_ok (d := .ty n) p w (by rw [Rep])
/-- an own class as a value -/
theorem r_cls {x : Str} {C : Addr} {pos : Pos} (hg : Gl X x) (hm : X.mg x = some (.ref C)) (hd : (x == ("__debug__" : Str)) = false := by decide) : E X W (.Name x pos) (eLit (.cls x)) :=
  PE.imp (pe_glob (v := .ref C) hg hm rfl hd) fun σ H Q ⟨ρ, S, sl, w, r, p⟩ => post_ok (d := .cls x) p w (by rw [Rep]; exact ⟨C, hm, rfl⟩)

/-- the state in the middle -/
theorem trE_of {K : PySem.W.Frag} {mg : Str → Option Value} {ρ : List Addr} {H : Hp} {S : Store} {sl : Sl} {σ : L2.St} {f : EX} {Q : VK} (w : WOk K mg ρ H S) (r : RSt K mg ρ H σ sl) (p : PostE K mg (fun C d H' => W C d σ H') ρ H Q (f sl S)) : trE K mg W f σ H Q := ⟨ρ, S, sl, w, r, p⟩
theorem trA_of {K : PySem.W.Frag} {mg : Str → Option Value} {ρ : List Addr} {H : Hp} {S : Store} {sl : Sl} {σ : L2.St} {f : AX} {Q : List V → Hp → Prop} (w : WOk K mg ρ H S) (r : RSt K mg ρ H σ sl) (p : PostA K mg (fun C d H' => W C d σ H') ρ H Q (f sl S)) : trA K mg W f σ H Q := ⟨ρ, S, sl, w, r, p⟩
theorem trB_of {K : PySem.W.Frag} {mg : Str → Option Value} {ρ : List Addr} {H : Hp} {S : Store} {sl : Sl} {σ : L2.St} {f : BX} {Q : Bool → Hp → Prop} (w : WOk K mg ρ H S) (r : RSt K mg ρ H σ sl) (p : PostB K mg (fun C d H' => W C d σ H') ρ H Q (f sl S)) : trB K mg W f σ H Q := ⟨ρ, S, sl, w, r, p⟩
theorem PostE.mono {K : PySem.W.Frag} {mg : Str → Option Value} {Wp : Value → Option Addr → Hp → Prop} {ρ : List Addr} {H : Hp} {Q Q' : VK} {o : Out D} (h : PostE K mg Wp ρ H Q o) (k : ∀ v H', Q v H' → Q' v H') : PostE K mg Wp ρ H Q' o := by
  cases o with
  | ok d S => exact fun v ρ' H' x w r => k _ _ (h v ρ' H' x w r)
  | ex e S => exact h
  | bad => exact h
theorem PostA.mono {K : PySem.W.Frag} {mg : Str → Option Value} {Wp : Value → Option Addr → Hp → Prop} {ρ : List Addr} {H : Hp} {Q Q' : List V → Hp → Prop} {o : Out (List D)} (h : PostA K mg Wp ρ H Q o) (k : ∀ v H', Q v H' → Q' v H') : PostA K mg Wp ρ H Q' o := by
  cases o with
  | ok d S => exact fun v ρ' H' x w r => k _ _ (h v ρ' H' x w r)
  | ex e S => exact h
  | bad => exact h
theorem PostB.mono {K : PySem.W.Frag} {mg : Str → Option Value} {Wp : Value → Option Addr → Hp → Prop} {ρ : List Addr} {H : Hp} {Q Q' : Bool → Hp → Prop} {o : Out Bool} (h : PostB K mg Wp ρ H Q o) (k : ∀ v H', Q v H' → Q' v H') : PostB K mg Wp ρ H Q' o := by
  cases o with
  | ok d S => exact fun ρ' H' x w => k _ _ (h ρ' H' x w)
  | ex e S => exact h
  | bad => exact h

variable {a b c : Expr} {fa fb fc : EX} {pos : Pos}
/-- one value, then what is done with it -/
theorem un_imp {f : EX} {g : Sl → D → Store → Out D} {K : PySem.W.Frag} {mg : Str → Option Value} {σ : L2.St} {H : Hp} {Q : VK} {k : V → Hp → Prop} (h : trE K mg W (fun sl S => (f sl S).bind (g sl)) σ H Q)
    (hk : ∀ ρ S sl H1 d v, WOk K mg ρ H1 S → RSt K mg ρ H1 σ sl → Rep K mg ρ H1 d v → PostE K mg (fun C d H' => W C d σ H') ρ H1 Q (g sl d S) → k v H1) : trE K mg W f σ H k := by
  obtain ⟨ρ, S, sl, w, r, p⟩ := h
  exact ⟨ρ, S, sl, w, r, PostE.mono (PostE.bindE p) fun v H1 ⟨ρ1, S1, d, x1, w1, r1, _, p1⟩ => hk ρ1 S1 sl H1 d v w1 (r.ext x1) r1 p1⟩
theorem bin_imp {g : Sem2} {K : PySem.W.Frag} {mg : Str → Option Value} {σ : L2.St} {H : Hp} {Q : VK} {k : V → V → Hp → Prop} (h : trE K mg W (eBin g fa fb) σ H Q)
    (hk : ∀ ρ S H2 d e x y, WOk K mg ρ H2 S → Rep K mg ρ H2 d x → Rep K mg ρ H2 e y → PostE K mg (fun C d H' => W C d σ H') ρ H2 Q (g d e S) → k x y H2) : trE K mg W fa σ H fun x H1 => trE K mg W fb σ H1 fun y H2 => k x y H2 := by
  obtain ⟨ρ, S, sl, w, r, p⟩ := h
  refine ⟨ρ, S, sl, w, r, PostE.mono (PostE.bindE p) fun v H1 ⟨ρ1, S1, d, x1, w1, r1, _, p1⟩ => ?_⟩
  refine ⟨ρ1, S1, sl, w1, r.ext x1, PostE.mono (PostE.bindE p1) fun y H2 ⟨ρ2, S2, e, x2, w2, r2, _, p2⟩ => ?_⟩
  exact hk ρ2 S2 H2 d e v y w2 (r1.ext x2) r2 p2
theorem r_bin {op : Operator} {sem : Sem2} (ho : OpD X (binaryOp op) sem) (ha : E X W a fa) (hb : E X W b fb) : E X W (.BinOp a op b pos) (eBin sem fa fb) := by
  obtain ⟨r, o, g⟩ := ho.go
  exact PE.imp (pe_op o ha hb) fun σ H Q h => bin_imp h fun ρ S H2 d e x y w rx ry p => g _ ρ H2 S d e x y Q w rx ry p
theorem r_cmp {op : CmpOp} {sem : Sem2} (ho : OpD X (compareOp op) sem) (ha : E X W a fa) (hb : E X W b fb) (hm : behindInMarks op b = false := by first | exact nomark _ | rfl) : E X W (.Compare a [op] [b] pos) (eBin sem fa fb) := by
  obtain ⟨r, o, g⟩ := ho.go
  exact PE.imp (pe_cmpR o ha hb hm) fun σ H Q h => bin_imp h fun ρ S H2 d e x y w rx ry p => g _ ρ H2 S d e x y Q w rx ry p
theorem r_un {op : UnaryOp} {sem : Sem1} (ho : UnD X (unaryOp op) sem) (ha : E X W a fa) : E X W (.UnaryOp op a pos) (eUn sem fa) := by
  obtain ⟨r, o, g⟩ := ho.go
  exact PE.imp (pe_un o ha) fun σ H Q h => un_imp (g := fun _ => sem) h fun ρ S sl H1 d v w _ rv p => g _ ρ H1 S d v Q w rv p
/-- a test by a comparison -/
theorem b_cmp {op : CmpOp} {sem : Sem2} (ho : OpD X (compareOp op) sem) (ha : E X W a fa) (hb : E X W b fb) (hm : behindInMarks op b = false := by first | exact nomark _ | rfl) : EB X W (.Compare a [op] [b] pos) (bVal (eBin sem fa fb)) := by
  obtain ⟨r, o, g⟩ := ho.go
  refine PT.imp (pt_cmpR o ha hb hm) fun σ H Q h => ?_
  obtain ⟨ρ, S, sl, w, rs, p⟩ := h
  have p' := PostE.bindB p
  refine bin_imp (Q := fun x H' => ∃ k, x = .bl k ∧ Q k H') ⟨ρ, S, sl, w, rs, PostE.mono p' fun v H1 ⟨ρ1, S1, d, x1, w1, r1, _, p1⟩ => ?_⟩ fun ρ S H2 d e x y w rx ry p => g _ ρ H2 S d e x y _ w rx ry p
  cases d with
  | bl k =>
    rw [Rep] at r1
    exact ⟨k, r1, p1 ρ1 H1 Ext.refl w1⟩
  | _ => exact p1.elim
/-- a bool's value as a test -/
theorem b_val (ha : E X W a fa) (he : ∀ whole, isTrue a X.env whole = (do let v ← whole; standAt a.pos; holding [v] (truthy v)) := by intro _; rfl) : EB X W a (bVal fa) := by
  refine PT.imp (pt_val ha he) fun σ H Q h => ?_
  obtain ⟨ρ, S, sl, w, rs, p⟩ := h
  refine ⟨ρ, S, sl, w, rs, PostE.mono (PostE.bindB p) fun v H1 ⟨ρ1, S1, d, x1, w1, r1, _, p1⟩ => ?_⟩
  cases d with
  | bl k =>
    rw [Rep] at r1
    exact ⟨k, r1, p1 ρ1 H1 Ext.refl w1⟩
  | _ => exact p1.elim
/-- and, or, not as tests -/
def EW (X : Cx) (W : WX) (e : Expr) (f : BX) : Prop := PW X e (trB X.K X.mg W f)
theorem EW.eb {e : Expr} {f : BX} (h : EW X W e f) : EB X W e f := PW.pt h
theorem PW.imp {e : Expr} {t t' : TT} (h : PW X e t) (k : ∀ σ H Q, t' σ H Q → t σ H Q) : PW X e t' := ⟨fun wh pins s σ H Q I q => h.run wh pins s σ H Q I (k σ H Q q)⟩
variable {ga gb : BX} {rest : List Expr}
theorem w_and1 (ha : EB X W a ga) : EW X W (.BoolOp .And [a] pos) ga := pw_and1 ha
theorem w_or1 (ha : EB X W a ga) : EW X W (.BoolOp .Or [a] pos) ga := pw_or1 ha
theorem w_and (ha : EB X W a ga) (hb : EW X W (.BoolOp .And (b :: rest) pos) gb) : EW X W (.BoolOp .And (a :: b :: rest) pos) (bAnd ga gb) := by
  refine PW.imp (pw_and ha hb) fun σ H Q h => ?_
  obtain ⟨ρ, S, sl, w, rs, p⟩ := h
  refine ⟨ρ, S, sl, w, rs, PostB.mono (PostB.bindB p) fun k H1 ⟨ρ1, S1, x1, w1, _, p1⟩ => ?_⟩
  cases k with
  | true => exact ⟨ρ1, S1, sl, w1, rs.ext x1, p1⟩
  | false => exact p1 ρ1 H1 Ext.refl w1
theorem w_or (ha : EB X W a ga) (hb : EW X W (.BoolOp .Or (b :: rest) pos) gb) : EW X W (.BoolOp .Or (a :: b :: rest) pos) (bOr ga gb) := by
  refine PW.imp (pw_or ha hb) fun σ H Q h => ?_
  obtain ⟨ρ, S, sl, w, rs, p⟩ := h
  refine ⟨ρ, S, sl, w, rs, PostB.mono (PostB.bindB p) fun k H1 ⟨ρ1, S1, x1, w1, _, p1⟩ => ?_⟩
  cases k with
  | false => exact ⟨ρ1, S1, sl, w1, rs.ext x1, p1⟩
  | true => exact p1 ρ1 H1 Ext.refl w1
theorem b_not (ha : EB X W a ga) : EB X W (.UnaryOp .Not a pos) (bNot ga) := by
  refine PT.imp (pt_not ha) fun σ H Q h => ?_
  obtain ⟨ρ, S, sl, w, rs, p⟩ := h
  exact ⟨ρ, S, sl, w, rs, PostB.mono (PostB.bindB p) fun k H1 ⟨ρ1, S1, x1, w1, _, p1⟩ => p1 ρ1 H1 Ext.refl w1⟩
theorem r_one {op : BoolOp} (ha : E X W a fa) : E X W (.BoolOp op [a] pos) fa := pe_one ha
def gAnd (g : EX) : Sl → D → Store → Out D := fun sl d S1 => match d with
  | .bl true => g sl S1
  | .bl false => .ok (.bl false) S1
  | _ => .bad
def gOr (g : EX) : Sl → D → Store → Out D := fun sl d S1 => match d with
  | .bl true => .ok (.bl true) S1
  | .bl false => g sl S1
  | _ => .bad
def gNot : Sl → D → Store → Out D := fun sl d S1 => match d with
  | .bl b => .ok (.bl (!b)) S1
  | _ => .bad
theorem r_and (ha : E X W a fa) (hb : E X W (.BoolOp .And (b :: rest) pos) fb) : E X W (.BoolOp .And (a :: b :: rest) pos) (eAnd fa fb) := by
  refine PE.imp (pe_and ha hb) fun σ H Q h => un_imp (g := gAnd fb) h fun ρ S sl H1 d v w r1 rv p => ?_
  cases d with
  | bl k =>
    rw [Rep] at rv
    refine ⟨k, rv, ?_⟩
    cases k with
    | true => rw [if_pos rfl]; exact ⟨ρ, S, sl, w, r1, p⟩
    | false => rw [if_neg Bool.false_ne_true]; exact post_ok p w (by rw [Rep])
  | _ => exact p.elim
theorem r_or (ha : E X W a fa) (hb : E X W (.BoolOp .Or (b :: rest) pos) fb) : E X W (.BoolOp .Or (a :: b :: rest) pos) (eOr fa fb) := by
  refine PE.imp (pe_or ha hb) fun σ H Q h => un_imp (g := gOr fb) h fun ρ S sl H1 d v w r1 rv p => ?_
  cases d with
  | bl k =>
    rw [Rep] at rv
    refine ⟨k, rv, ?_⟩
    cases k with
    | false => rw [if_neg Bool.false_ne_true]; exact ⟨ρ, S, sl, w, r1, p⟩
    | true => rw [if_pos rfl]; exact post_ok p w (by rw [Rep])
  | _ => exact p.elim
theorem r_not (ha : E X W a fa) : E X W (.UnaryOp .Not a pos) (eNot fa) := by
  refine PE.imp (pe_not ha) fun σ H Q h => un_imp (g := gNot) h fun ρ S sl H1 d v w r1 rv p => ?_
  cases d with
  | bl k =>
    rw [Rep] at rv
    exact ⟨k, rv, post_ok p w (by rw [Rep])⟩
  | _ => exact p.elim
theorem r_if (hc : EB X W c ga) (ha : E X W a fa) (hb : E X W b fb) : E X W (.IfExp c a b pos) (eIf ga fa fb) := by
  refine PE.imp (pe_ifExp hc ha hb) fun σ H Q h => ?_
  obtain ⟨ρ, S, sl, w, rs, p⟩ := h
  refine ⟨ρ, S, sl, w, rs, PostB.mono (PostB.bindE p) fun k H1 ⟨ρ1, S1, x1, w1, _, p1⟩ => ?_⟩
  cases k with
  | true => exact ⟨ρ1, S1, sl, w1, rs.ext x1, p1⟩
  | false => exact ⟨ρ1, S1, sl, w1, rs.ext x1, p1⟩
theorem chain_imp {s1 s2 : Sem2} {f g : Value → Value → Sem Value} (h1 : OpD X f s1) (h2 : OpD X g s2) : ∃ r r' : R2, OpR X f r ∧ OpR X g r' ∧ ∀ {σ : L2.St} {H : Hp} {Q : VK}, trE X.K X.mg W (eChain s1 s2 fa fb fc) σ H Q → tChain r r' (trE X.K X.mg W fa) (trE X.K X.mg W fb) (trE X.K X.mg W fc) σ H Q := by
  obtain ⟨r, o, g1⟩ := h1.go
  obtain ⟨r', o', g2⟩ := h2.go
  refine ⟨r, r', o, o', fun {σ H Q} h => ?_⟩
  obtain ⟨ρ, S, sl, w, rs, p⟩ := h
  refine ⟨ρ, S, sl, w, rs, PostE.mono (PostE.bindE p) fun v H1 ⟨ρ1, S1, d, x1, w1, r1, _, p1⟩ => ?_⟩
  refine ⟨ρ1, S1, sl, w1, rs.ext x1, PostE.mono (PostE.bindE p1) fun y H2 ⟨ρ2, S2, e, x2, w2, r2, _, p2⟩ => ?_⟩
  refine g1 _ ρ2 H2 S2 d e v y _ w2 (r1.ext x2) r2 (PostE.mono (PostE.bindE p2) fun z H3 ⟨ρ3, S3, k, x3, w3, r3, _, p3⟩ => ?_)
  cases k with
  | bl k =>
    rw [Rep] at r3
    refine ⟨k, r3, ?_⟩
    cases k with
    | true =>
      rw [if_pos rfl]
      refine ⟨ρ3, S3, sl, w3, (rs.ext (x1.trans (x2.trans x3))), PostE.mono (PostE.bindE p3) fun u H4 ⟨ρ4, S4, m, x4, w4, r4, _, p4⟩ => ?_⟩
      exact g2 _ ρ4 H4 S4 e m y u Q w4 (r2.ext (x3.trans x4)) r4 p4
    | false =>
      rw [if_neg Bool.false_ne_true]
      exact post_ok p3 w3 (by rw [Rep])
  | _ => exact p3.elim
theorem r_chain {op op' : CmpOp} {s1 s2 : Sem2} (h1 : OpD X (compareOp op) s1) (h2 : OpD X (compareOp op') s2) (ha : E X W a fa) (hb : E X W b fb) (hc : E X W c fc) (hm : lastMarks [op, op'] [b, c] = false := by rfl) : E X W (.Compare a [op, op'] [b, c] pos) (eChain s1 s2 fa fb fc) := by
  obtain ⟨r, r', o, o', k⟩ := chain_imp (W := W) (fa := fa) (fb := fb) (fc := fc) h1 h2
  exact PE.imp (pe_chain o o' ha hb hc hm) fun σ H Q h => k h
theorem b_chain {op op' : CmpOp} {s1 s2 : Sem2} (h1 : OpD X (compareOp op) s1) (h2 : OpD X (compareOp op') s2) (ha : E X W a fa) (hb : E X W b fb) (hc : E X W c fc) (hm : lastMarks [op, op'] [b, c] = false := by rfl) : EB X W (.Compare a [op, op'] [b, c] pos) (bVal (eChain s1 s2 fa fb fc)) := by
  obtain ⟨r, r', o, o', k⟩ := chain_imp (W := W) (fa := fa) (fb := fb) (fc := fc) h1 h2
  refine PT.imp (pt_chain o o' ha hb hc hm) fun σ H Q h => ?_
  obtain ⟨ρ, S, sl, w, rs, p⟩ := h
  refine k (Q := fun x H' => ∃ k, x = .bl k ∧ Q k H') ⟨ρ, S, sl, w, rs, PostE.mono (PostE.bindB p) fun v H1 ⟨ρ1, S1, d, x1, w1, r1, _, p1⟩ => ?_⟩
  cases d with
  | bl k =>
    rw [Rep] at r1
    exact ⟨k, r1, p1 ρ1 H1 Ext.refl w1⟩
  | _ => exact p1.elim
/-! ### arguments, displays -/
theorem a_nil : EA X W [] aNil := PA.imp pa_nil fun σ H Q ⟨ρ, S, sl, w, rs, p⟩ => p [] ρ H Ext.refl w RepL.nil
theorem args_imp {f : EX} {g : AX} {K : PySem.W.Frag} {mg : Str → Option Value} {σ : L2.St} {H : Hp} {Q : List V → Hp → Prop} (h : trA K mg W (aCons f g) σ H Q) : trE K mg W f σ H fun x H1 => trA K mg W g σ H1 fun xs H2 => Q (x :: xs) H2 := by
  obtain ⟨ρ, S, sl, w, r, p⟩ := h
  refine ⟨ρ, S, sl, w, r, PostE.mono (PostE.bindA p) fun v H1 ⟨ρ1, S1, d, x1, w1, r1, _, p1⟩ => ?_⟩
  refine ⟨ρ1, S1, sl, w1, r.ext x1, PostA.mono (PostA.bindA p1) fun y H2 ⟨ρ2, S2, e, x2, w2, r2, _, p2⟩ => ?_⟩
  exact p2 (v :: y) ρ2 H2 Ext.refl w2 (RepL.cons (r1.ext x2) r2)
theorem a_cons {e : Expr} {es : List Expr} {f : EX} {g : AX} (ha : E X W e f) (hr : EA X W es g) (hs : starEach (e :: es) X.env = (false, eval e X.env) :: starEach es X.env := by rfl) : EA X W (e :: es) (aCons f g) :=
  PA.imp (pa_cons ha hr hs) fun σ H Q h => args_imp h
theorem argsem_imp {f : AX} {sem : SemL} {K : PySem.W.Frag} {mg : Str → Option Value} {σ : L2.St} {H : Hp} {Q : VK} {k : List V → Hp → Prop} (h : trE K mg W (eArgs sem f) σ H Q)
    (hk : ∀ ρ S H1 ds vs, WOk K mg ρ H1 S → RepL K mg ρ H1 ds vs → PostE K mg (fun C d H' => W C d σ H') ρ H1 Q (sem ds S) → k vs H1) : trA K mg W f σ H k := by
  obtain ⟨ρ, S, sl, w, r, p⟩ := h
  exact ⟨ρ, S, sl, w, r, PostA.mono (PostA.bindE p) fun v H1 ⟨ρ1, S1, d, x1, w1, r1, _, p1⟩ => hk ρ1 S1 H1 d v w1 r1 p1⟩
end
/-! ### new things -/
section
variable {K : PySem.W.Frag} {mg : Str → Option Value} {ρ : List Addr} {H : Hp} {S : Store}
/-- a new thing that is no handle's -/
theorem Ext.new' {p : Addr} {o : HO} (hp : H p = none) : Ext ρ H ρ (upd H p o) := ⟨⟨[], by simp⟩, fun a h n => absurd h n, fun a u n h => .inl (by rw [upd_ne (ne_of_none h hp)]; exact h)⟩
theorem WOk.nin (w : WOk K mg ρ H S) {p : Addr} (hp : H p = none) : p ∉ ρ := fun q => w.tr p q hp
theorem MRep.ext {ρ' : List Addr} {H' : Hp} (x : Ext ρ H ρ' H') {a : Addr} {m : MO} (e : H' a = H a) (h : MRep K mg ρ H a m) : MRep K mg ρ' H' a m := by
  cases m with
  | lst ds =>
    obtain ⟨vs, h1, h2⟩ := h
    exact ⟨vs, e.trans h1, h2.ext x⟩
  | dct lk ks ds =>
    obtain ⟨kvs, h1, h2, h3⟩ := h
    refine ⟨kvs, ?_, h2.ext x, h3.ext x⟩
    cases lk with
    | true =>
      rw [if_pos rfl] at h1 ⊢
      rcases h1 with h1 | ⟨o, h1⟩
      · exact .inl (e.trans h1)
      · exact .inr ⟨o, e.trans h1⟩
    | false =>
      rw [if_neg Bool.false_ne_true] at h1 ⊢
      exact e.trans h1
  | ins c ns ds =>
    obtain ⟨C, dx, fs, h0, h1, h2, h3⟩ := h
    exact ⟨C, dx, fs, h0, e.trans h1, h2, h3.ext x⟩
  | tab P q =>
    obtain ⟨hP, ps, h1, h2, h3⟩ := h
    refine ⟨hP, ps, e.trans h1, h2, fun pos cv hc => ?_⟩
    obtain ⟨c, e1, n, e2⟩ := h3 pos cv hc
    exact ⟨c, e1, x.nin n e2, x.kept n e2 (by intros; nofun)⟩
theorem WOk.new' (w : WOk K mg ρ H S) {p : Addr} {o : HO} (hp : H p = none) : WOk K mg ρ (upd H p o) S := by
  have ne : ∀ a ∈ ρ, a ≠ p := fun a ha q => w.nin hp (q ▸ ha)
  refine ⟨w.len, w.nd, fun a ha => by rw [upd_ne (ne a ha)]; exact w.tr a ha, fun n a m e1 e2 => ?_⟩
  have ha : a ∈ ρ := List.mem_of_getElem? e1
  exact MRep.ext (Ext.new' hp) (upd_ne (ne a ha)) (w.ob n a m e1 e2)
/-- a new handle -/
theorem Ext.hand {p : Addr} {o : HO} (hp : H p = none) : Ext ρ H (ρ ++ [p]) (upd H p o) := by
  refine ⟨⟨[p], rfl⟩, fun a h n => ?_, fun a u n h => .inl (by rw [upd_ne (ne_of_none h hp)]; exact h)⟩
  rcases List.mem_append.mp h with h | h
  · exact absurd h n
  · rw [List.mem_singleton.mp h]; exact hp
theorem WOk.hand (w : WOk K mg ρ H S) {p : Addr} {o : HO} {m : MO} (hp : H p = none) (hm : MRep K mg (ρ ++ [p]) (upd H p o) p m) : WOk K mg (ρ ++ [p]) (upd H p o) (S ++ [m]) := by
  have ne : ∀ a ∈ ρ, a ≠ p := fun a ha q => w.nin hp (q ▸ ha)
  refine ⟨by simp [w.len], ?_, fun a ha => ?_, fun n a m' e1 e2 => ?_⟩
  · refine List.nodup_append.mpr ⟨w.nd, by simp, fun a ha b hb => ?_⟩
    rw [List.mem_singleton.mp hb]
    exact ne a ha
  · rcases List.mem_append.mp ha with ha | ha
    · rw [upd_ne (ne a ha)]; exact w.tr a ha
    · rw [List.mem_singleton.mp ha, upd_same]; simp
  · by_cases hn : n < ρ.length
    · rw [List.getElem?_append_left hn] at e1
      rw [List.getElem?_append_left (by rw [← w.len]; exact hn)] at e2
      exact MRep.ext (Ext.hand hp) (upd_ne (ne a (List.mem_of_getElem? e1))) (w.ob n a m' e1 e2)
    · have hl := w.len
      rw [List.getElem?_append_right (by omega)] at e1 e2
      have hz : n - ρ.length = 0 := by
        cases q : n - ρ.length with
        | zero => rfl
        | succ k => rw [q] at e1; simp at e1
      rw [hz] at e1
      have hz2 : n - S.length = 0 := by omega
      rw [hz2] at e2
      simp at e1 e2
      subst e1 e2
      exact hm
/-- what a tuple, a list made from values stands for -/
theorem post_tup {Wp : Value → Option Addr → Hp → Prop} {Q : VK} {ds : List D} {vs : List V} {p : Addr} (h : PostE K mg Wp ρ H Q (.ok (.tup ds) S)) (w : WOk K mg ρ H S) (r : RepL K mg ρ H ds vs) (hp : H p = none) : Q (.ref p) (upd H p (.tup vs)) := by
  refine h (.ref p) ρ _ (Ext.new' hp) (w.new' hp) ?_
  rw [Rep]
  exact ⟨p, vs, rfl, .inl ⟨w.nin hp, upd_same⟩, r.ext (Ext.new' hp)⟩
theorem post_lst {Wp : Value → Option Addr → Hp → Prop} {Q : VK} {ds : List D} {vs : List V} {p : Addr} (h : PostE K mg Wp ρ H Q (.ok (.lst ds) S)) (w : WOk K mg ρ H S) (r : RepL K mg ρ H ds vs) (hp : H p = none) : Q (.ref p) (upd H p (.lst vs)) := by
  refine h (.ref p) ρ _ (Ext.new' hp) (w.new' hp) ?_
  rw [Rep]
  exact ⟨p, vs, rfl, ⟨w.nin hp, upd_same⟩, r.ext (Ext.new' hp)⟩
/-- a list that is a handle's -/
theorem post_lstH {Wp : Value → Option Addr → Hp → Prop} {Q : VK} {ds : List D} {vs : List V} {p : Addr} (h : PostE K mg Wp ρ H Q (.ok (.ptr S.length) (S ++ [.lst ds]))) (w : WOk K mg ρ H S) (r : RepL K mg ρ H ds vs) (hp : H p = none) : Q (.ref p) (upd H p (.lst vs)) := by
  refine h (.ref p) (ρ ++ [p]) _ (Ext.hand hp) (w.hand hp ⟨vs, upd_same, r.ext (Ext.hand hp)⟩) ?_
  rw [Rep]
  exact ⟨p, rfl, by rw [← w.len]; simp⟩
end
/-- as a handle -/
def semTup : SemL := fun ds S => if ds.length ≤ 1000000 then .ok (.tup ds) S else .bad
def semLst : SemL := fun ds S => if ds.length ≤ 1000000 then .ok (.lst ds) S else .bad
def semLstH : SemL := fun ds S => if ds.length ≤ 1000000 then .ok (.ptr S.length) (S ++ [.lst ds]) else .bad
theorem line_of {n : Nat} (h : n ≤ 1000000) : n ≤ sizeLine := by rw [sizeLine_eq]; omega
section
variable {X : Cx} {W : WX} {es : List Expr} {f : AX} {pos : Pos}
theorem r_tup {x1} (h : EA X W es f) : E X W (.Tuple es x1 pos) (eArgs semTup f) := by
  refine PE.imp (pe_tup h) fun σ H Q q => argsem_imp q fun ρ S H1 ds vs w r p => ?_
  unfold semTup at p
  split at p
  · rename_i hl
    exact ⟨by rw [← r.len]; exact line_of hl, fun a ha => post_tup p w r ha⟩
  · exact p.elim
theorem r_lst (h : EA X W es f) : E X W (.List es pos) (eArgs semLst f) := by
  refine PE.imp (pe_lst h) fun σ H Q q => argsem_imp q fun ρ S H1 ds vs w r p => ?_
  unfold semLst at p
  split at p
  · rename_i hl
    exact ⟨by rw [← r.len]; exact line_of hl, fun a ha => post_lst p w r ha⟩
  · exact p.elim
theorem r_lstH (h : EA X W es f) : E X W (.List es pos) (eArgs semLstH f) := by
  refine PE.imp (pe_lst h) fun σ H Q q => argsem_imp q fun ρ S H1 ds vs w r p => ?_
  unfold semLstH at p
  split at p
  · rename_i hl
    exact ⟨by rw [← r.len]; exact line_of hl, fun a ha => post_lstH p w r ha⟩
  · exact p.elim
/-! ### a built-in called by its name -/
theorem r_callB {x : Str} {id : String} {sem : SemL} {p : Pos} {e : Expr} {es : List Expr} (hc : CallD X (.builtin id) sem) (hg : Gl X x) (hm : X.mg x = none) (hv : bootBuiltins x = some (.builtin id)) (ha : EA X W (e :: es) f) (hn : x ≠ "__name__" := by decide) (hdb : (x == ("__debug__" : Str)) = false := by decide)
    (he : starEach (e :: es) X.env = (false, eval e X.env) :: starEach es X.env := by rfl) (hpl : (backTo pos (starEach es X.env)).any (·.1) = false := by rfl) : E X W (.Call (.Name x p) (e :: es) [] pos) (eArgs sem f) := by
  obtain ⟨r, c, g⟩ := hc.go
  exact PE.imp (pe_callB c hg hm hv ha hn hdb he hpl) fun σ H Q q => argsem_imp q fun ρ S H1 ds vs w rr p => g _ ρ H1 S ds vs Q w rr p
theorem r_callT {x : Str} {T : String} {sem : SemL} {p : Pos} {e : Expr} {es : List Expr} (hc : CallD X (.type T) sem) (hg : Gl X x) (hm : X.mg x = none) (hv : bootBuiltins x = some (.type T)) (ha : EA X W (e :: es) f) (hn : x ≠ "__name__" := by decide) (hdb : (x == ("__debug__" : Str)) = false := by decide)
    (he : starEach (e :: es) X.env = (false, eval e X.env) :: starEach es X.env := by rfl) (hpl : (backTo pos (starEach es X.env)).any (·.1) = false := by rfl) : E X W (.Call (.Name x p) (e :: es) [] pos) (eArgs sem f) := by
  obtain ⟨r, c, g⟩ := hc.go
  exact PE.imp (pe_callTy c hg hm hv ha hn hdb he hpl) fun σ H Q q => argsem_imp q fun ρ S H1 ds vs w rr p => g _ ρ H1 S ds vs Q w rr p
end
end Z
/-! Z2: statements, defs and their calls. -/
namespace Z
open PySem PySem.Spec L2

def Out.toS {α : Type} (o : Out α) (sl : Sl) (k : α → Store → SO) : SO := match o with
  | .ok a S => k a S
  | .ex e S => .ex e sl S
  | .bad => .bad
def sNil : SX := fun sl S => .nx sl S
def sBad : SX := fun _ _ => .bad
def sBrk : SX := fun sl S => .bk sl S
def sCnt : SX := fun sl S => .ct sl S
def SO.then (o : SO) (g : SX) : SO := match o with
  | .nx sl S => g sl S
  | r => r
def sSeq (f g : SX) : SX := fun sl S => (f sl S).then g
def sExp (f : EX) : SX := fun sl S => (f sl S).toS sl fun _ S' => .nx sl S'
def sRet (f : EX) : SX := fun sl S => (f sl S).toS sl fun d S' => .rt d S'
def sRetN : SX := fun _ S => .rt .non S
def sIf (c : BX) (f g : SX) : SX := fun sl S => (c sl S).toS sl fun b S' => if b = true then f sl S' else g sl S'
/-- a target -/
abbrev GX := D → Sl → Store → SO
def gSet (i : Nat) : GX := fun d sl S => .nx (sl.set i (some d)) S
abbrev GXs := List D → Sl → Store → SO
def gNilX : GXs := fun ds sl S => match ds with
  | [] => .nx sl S
  | _ => .bad
def gConsX (g : GX) (gs : GXs) : GXs := fun ds sl S => match ds with
  | d :: r => (g d sl S).then (gs r)
  | [] => .bad
/-- a tuple's items, a list's items -/
def asT (S : Store) : D → Option (List D)
  | .tup ds => some ds
  | _ => none
def asL (S : Store) : D → Option (List D)
  | .lst ds => some ds
  | .ptr n => match S[n]? with
    | some (.lst ds) => some ds
    | _ => none
  | _ => none
def gTupX (gs : GXs) : GX := fun d sl S => match d with
  | .tup ds => gs ds sl S
  | _ => .bad
def sAsg (f : EX) (g : GX) : SX := fun sl S => (f sl S).toS sl fun d S' => g d sl S'
/-- a, b = x, y -/
def sPar (i j : Nat) (f : AX) : SX := fun sl S => (f sl S).toS sl fun ds S' => match ds with
  | [d, e] => .nx ((sl.set i (some d)).set j (some e)) S'
  | _ => .bad
/-- while -/
def whileL (c : BX) (body : SX) : Nat → SX
  | 0, _, _ => .bad
  | n + 1, sl, S => (c sl S).toS sl fun b S' => if b = true then (match body sl S' with
    | .nx sl2 S2 => whileL c body n sl2 S2
    | .ct sl2 S2 => whileL c body n sl2 S2
    | .bk sl2 S2 => .nx sl2 S2
    | r => r) else .nx sl S'
def fuel : Nat := 1000000
def sWhile (c : BX) (body : SX) : SX := whileL c body fuel
/-- for over items; G: what must stay as it is at each turn -/
noncomputable def forL (G : Store → Prop) (g : GX) (body : SX) : List D → SX
  | [], sl, S => open Classical in if G S then .nx sl S else .bad
  | x :: xs, sl, S => open Classical in if G S then (match g x sl S with
    | .nx sl1 S1 => (match body sl1 S1 with
      | .nx sl2 S2 => forL G g body xs sl2 S2
      | .ct sl2 S2 => forL G g body xs sl2 S2
      | .bk sl2 S2 => .nx sl2 S2
      | r => r)
    | _ => .bad) else .bad
/-- what is walked: its items, what must stay -/
abbrev IX := Sl → Store → Out (List D × (Store → Prop))
noncomputable def sFor (it : IX) (g : GX) (body : SX) : SX := fun sl S => (it sl S).toS sl fun p S' => forL p.2 g body p.1 sl S'

section
variable {K : PySem.W.Frag} {mg : Str → Option Value} {ρ : List Addr} {H : Hp} {S : Store}
theorem RSt.set {σ : L2.St} {sl : Sl} (r : RSt K mg ρ H σ sl) {d : D} {v : V} (h : Rep K mg ρ H d v) (i : Nat) : RSt K mg ρ H (σ.set i (some v)) (sl.set i (some d)) := by
  refine ⟨by simp [r.len], fun j e q => ?_⟩
  by_cases hj : j = i
  · subst hj
    by_cases hl : j < sl.length
    · rw [List.getElem?_set_self hl] at q
      cases q
      exact ⟨v, List.getElem?_set_self (by rw [r.len]; exact hl), h⟩
    · rw [List.getElem?_eq_none (by simpa using hl)] at q; cases q
  · rw [List.getElem?_set_ne (Ne.symm hj)] at q ⊢
    exact r.at_ j e q
theorem PostS.mono {W : WX} {Da Db : Ends} {o : SO} (h : PostS K mg W ρ H Da o) (k1 : ∀ σ H, Da.nx σ H → Db.nx σ H) (k2 : ∀ v H, Da.rt v H → Db.rt v H) (k3 : ∀ σ H, Da.bk σ H → Db.bk σ H) (k4 : ∀ σ H, Da.ct σ H → Db.ct σ H) : PostS K mg W ρ H Db o := by
  cases o with
  | nx sl S => exact fun σ ρ2 H2 y w r => k1 _ _ (h σ ρ2 H2 y w r)
  | bk sl S => exact fun σ ρ2 H2 y w r => k3 _ _ (h σ ρ2 H2 y w r)
  | ct sl S => exact fun σ ρ2 H2 y w r => k4 _ _ (h σ ρ2 H2 y w r)
  | rt d S => exact fun v ρ2 H2 y w r => k2 _ _ (h v ρ2 H2 y w r)
  | ex e sl S => exact h
  | bad => exact h
theorem PostS.seq {W : WX} {Dd : Ends} {o : SO} {g : SX} (h : PostS K mg W ρ H Dd (o.then g)) : PostS K mg W ρ H { Dd with nx := fun σ H' => trS K mg W g Dd σ H' } o := by
  cases o with
  | nx sl S => exact fun σ ρ2 H2 y w r => ⟨ρ2, S, sl, w, r, PostS.from y h⟩
  | bk sl S => exact h
  | ct sl S => exact h
  | rt d S => exact h
  | ex e sl S => exact h
  | bad => exact h
/-- an expression within a statement -/
theorem PostS.ofE {W : WX} {Dd : Ends} {σ : L2.St} {sl : Sl} {o : Out D} {k : D → Store → SO} (rs : RSt K mg ρ H σ sl) (h : PostS K mg W ρ H Dd (o.toS sl k)) :
    PostE K mg (fun C d H' => W C d σ H') ρ H (fun v H1 => ∃ ρ1 S1 d, WOk K mg ρ1 H1 S1 ∧ RSt K mg ρ1 H1 σ sl ∧ Rep K mg ρ1 H1 d v ∧ PostS K mg W ρ1 H1 Dd (k d S1)) o := by
  cases o with
  | ok d S => exact fun v ρ2 H2 y w r => ⟨ρ2, S, d, w, rs.ext y, r, PostS.from y h⟩
  | ex e S => exact fun C dd ρ2 H2 y w r => h C dd σ ρ2 H2 y w (rs.ext y) r
  | bad => exact h
theorem PostS.ofA {W : WX} {Dd : Ends} {σ : L2.St} {sl : Sl} {o : Out (List D)} {k : List D → Store → SO} (rs : RSt K mg ρ H σ sl) (h : PostS K mg W ρ H Dd (o.toS sl k)) :
    PostA K mg (fun C d H' => W C d σ H') ρ H (fun v H1 => ∃ ρ1 S1 d, WOk K mg ρ1 H1 S1 ∧ RSt K mg ρ1 H1 σ sl ∧ RepL K mg ρ1 H1 d v ∧ PostS K mg W ρ1 H1 Dd (k d S1)) o := by
  cases o with
  | ok d S => exact fun v ρ2 H2 y w r => ⟨ρ2, S, d, w, rs.ext y, r, PostS.from y h⟩
  | ex e S => exact fun C dd ρ2 H2 y w r => h C dd σ ρ2 H2 y w (rs.ext y) r
  | bad => exact h
theorem PostS.ofB {W : WX} {Dd : Ends} {σ : L2.St} {sl : Sl} {o : Out Bool} {k : Bool → Store → SO} (rs : RSt K mg ρ H σ sl) (h : PostS K mg W ρ H Dd (o.toS sl k)) :
    PostB K mg (fun C d H' => W C d σ H') ρ H (fun b H1 => ∃ ρ1 S1, WOk K mg ρ1 H1 S1 ∧ RSt K mg ρ1 H1 σ sl ∧ PostS K mg W ρ1 H1 Dd (k b S1)) o := by
  cases o with
  | ok d S => exact fun ρ2 H2 y w => ⟨ρ2, S, w, rs.ext y, PostS.from y h⟩
  | ex e S => exact fun C dd ρ2 H2 y w r => h C dd σ ρ2 H2 y w (rs.ext y) r
  | bad => exact h
theorem post_nx {W : WX} {Dd : Ends} {σ : L2.St} {sl : Sl} (h : PostS K mg W ρ H Dd (.nx sl S)) (w : WOk K mg ρ H S) (r : RSt K mg ρ H σ sl) : Dd.nx σ H := h σ ρ H Ext.refl w r
end

section
variable {X : Cx} {W : WX} {st : Stmt} {rest : List Stmt} {f g : SX} {e : Expr} {fe : EX} {pos : Pos}
theorem s_nil : ESs X W [] sNil := PSs.imp pss_nil fun D σ H ⟨ρ, S, sl, w, rs, p⟩ => post_nx p w rs
theorem s_one (h : ES X W st f) : ESs X W [st] f := pss_one h
theorem s_cons (h : ES X W st f) (hr : ESs X W rest g) : ESs X W (st :: rest) (sSeq f g) :=
  PSs.imp (pss_cons h hr) fun D σ H ⟨ρ, S, sl, w, rs, p⟩ => ⟨ρ, S, sl, w, rs, PostS.seq p⟩
theorem s_bad : ES X W st sBad := PS.imp ps_never fun D σ H ⟨ρ, S, sl, w, rs, p⟩ => p
theorem s_bads {sts : List Stmt} : ESs X W sts sBad := PSs.imp pss_never fun D σ H ⟨ρ, S, sl, w, rs, p⟩ => p
theorem s_pass : ES X W (.Pass pos) sNil := PS.imp ps_pass fun D σ H ⟨ρ, S, sl, w, rs, p⟩ => post_nx p w rs
theorem s_brk : ES X W (.Break pos) sBrk := PS.imp ps_break fun D σ H ⟨ρ, S, sl, w, rs, p⟩ => p σ ρ H Ext.refl w rs
theorem s_cnt : ES X W (.Continue pos) sCnt := PS.imp ps_continue fun D σ H ⟨ρ, S, sl, w, rs, p⟩ => p σ ρ H Ext.refl w rs
theorem s_expr (he : E X W e fe) (hs : swapsWith e none pos.line X.env = pure false := by rfl) : ES X W (.Expr e pos) (sExp fe) :=
  PS.imp (ps_expr he hs) fun D σ H ⟨ρ, S, sl, w, rs, p⟩ => ⟨ρ, S, sl, w, rs, PostE.mono (PostS.ofE rs p) fun v H1 ⟨ρ1, S1, d, w1, r1, _, p1⟩ => post_nx p1 w1 r1⟩
theorem s_ret (he : E X W e fe) : ES X W (.Return (some e) pos) (sRet fe) :=
  PS.imp (ps_ret he) fun D σ H ⟨ρ, S, sl, w, rs, p⟩ => ⟨ρ, S, sl, w, rs, PostE.mono (PostS.ofE rs p) fun v H1 ⟨ρ1, S1, d, w1, r1, rv, p1⟩ => p1 v ρ1 H1 Ext.refl w1 rv⟩
theorem s_retN : ES X W (.Return none pos) sRetN := PS.imp ps_retN fun D σ H ⟨ρ, S, sl, w, rs, p⟩ => p .non ρ H Ext.refl w (by rw [Rep])
theorem s_if {c : Expr} {ga : BX} {a b : List Stmt} (hc : EB X W c ga) (ha : ESs X W a f) (hb : ESs X W b g) : ES X W (.If c a b pos) (sIf ga f g) := by
  refine PS.imp (ps_if hc ha hb) fun D σ H ⟨ρ, S, sl, w, rs, p⟩ => ⟨ρ, S, sl, w, rs, PostB.mono (PostS.ofB rs p) fun k H1 ⟨ρ1, S1, w1, r1, p1⟩ => ?_⟩
  cases k with
  | true => exact ⟨ρ1, S1, sl, w1, r1, p1⟩
  | false => exact ⟨ρ1, S1, sl, w1, r1, p1⟩
/-! ### targets -/
def trG (K : PySem.W.Frag) (mg : Str → Option Value) (W : WX) (g : GX) : TG := fun v σ H Q => ∃ ρ S sl d, WOk K mg ρ H S ∧ RSt K mg ρ H σ sl ∧ Rep K mg ρ H d v ∧ PostS K mg W ρ H ⟨Q, fun _ _ => False, fun _ _ => False, fun _ _ => False⟩ (g d sl S)
def trGs (K : PySem.W.Frag) (mg : Str → Option Value) (W : WX) (g : GXs) : TGs := fun v σ H Q => ∃ ρ S sl d, WOk K mg ρ H S ∧ RSt K mg ρ H σ sl ∧ RepL K mg ρ H d v ∧ PostS K mg W ρ H ⟨Q, fun _ _ => False, fun _ _ => False, fun _ _ => False⟩ (g d sl S)
def EG (X : Cx) (W : WX) (tg : Expr) (g : GX) : Prop := PG X tg (trG X.K X.mg W g)
def EGs (X : Cx) (W : WX) (tg : List Expr) (g : GXs) : Prop := PGs X tg (trGs X.K X.mg W g)
theorem PG.imp {tg : Expr} {t t' : TG} (h : PG X tg t) (k : ∀ v σ H Q, t' v σ H Q → t v σ H Q) : PG X tg t' := ⟨fun pins s σ H v u Q I r q => h.run pins s σ H v u Q I r (k v σ H Q q)⟩
theorem PGs.imp {tg : List Expr} {t t' : TGs} (h : PGs X tg t) (k : ∀ v σ H Q, t' v σ H Q → t v σ H Q) : PGs X tg t' := ⟨fun pins s σ H v u Q I r q => h.run pins s σ H v u Q I r (k v σ H Q q)⟩
theorem g_name {i : Nat} {x : Str} (hN : X.N.Nodup) (hi : X.N[i]? = some x := by rfl) (hx : Loc X.env.scope x := by first | exact Or.inl rfl | exact Or.inr rfl) (hf : X.fn x = true ∨ X.env.scope.names.lookup x = some .local := by first | exact .inl rfl | exact .inr rfl) : EG X W (.Name x pos) (gSet i) :=
  PG.imp (pg_name hN hi hx hf) fun v σ H Q ⟨ρ, S, sl, d, w, rs, rv, p⟩ => p _ ρ H Ext.refl w (rs.set rv i)
theorem gs_nil : EGs X W [] gNilX := PGs.imp pgs_nil fun v σ H Q ⟨ρ, S, sl, ds, w, rs, rv, p⟩ => by
  cases ds with
  | nil =>
    rw [RepL] at rv
    exact ⟨rv, p _ ρ H Ext.refl w rs⟩
  | cons d r => exact p.elim
theorem gs_cons {t : Expr} {ts : List Expr} {g : GX} {gs : GXs} (h : EG X W t g) (hr : EGs X W ts gs) (hs : (assignEach (t :: ts) X.env).map (·.2) = assign t X.env :: (assignEach ts X.env).map (·.2) := by rfl) : EGs X W (t :: ts) (gConsX g gs) :=
  PGs.imp (pgs_cons h hr hs) fun v σ H Q ⟨ρ, S, sl, ds, w, rs, rv, p⟩ => by
    cases ds with
    | nil => exact p.elim
    | cons d r =>
      rw [RepL] at rv
      obtain ⟨v1, vr, e, h1, h2⟩ := rv
      subst e
      refine ⟨v1, vr, rfl, ρ, S, sl, d, w, rs, h1, ?_⟩
      have p : PostS X.K X.mg W ρ H ⟨Q, fun _ _ => False, fun _ _ => False, fun _ _ => False⟩ ((g d sl S).then (gs r)) := p
      cases q : g d sl S with
      | nx sl1 S1 =>
        rw [q] at p
        exact fun σ1 ρ1 H1 x1 w1 r1 => ⟨ρ1, S1, sl1, r, w1, r1, h2.ext x1, PostS.from x1 p⟩
      | bk sl1 S1 => rw [q] at p; exact p
      | ct sl1 S1 => rw [q] at p; exact p
      | rt d1 S1 => rw [q] at p; exact p
      | ex e1 sl1 S1 => rw [q] at p; exact p
      | bad => rw [q] at p; exact p
theorem g_tup {es : List Expr} {k : Nat} {gs : GXs} {n : Nat} (hc : X.calm = true) (h : EGs X W es gs) (hl : ∀ ds sl S, gs ds sl S ≠ .bad → ds.length = n) (hn : (assignEach es X.env).length = n := by rfl) (hst : (assignEach es X.env).findIdx? (·.1) = none := by rfl) : EG X W (.Tuple es k pos) (gTupX gs) :=
  PG.imp (pg_tup hc h hn hst) fun v σ H Q ⟨ρ, S, sl, d, w, rs, rv, p⟩ => by
    cases d with
    | tup ds =>
      rw [Rep] at rv
      obtain ⟨a, vs, e, t, r⟩ := rv
      have p : PostS X.K X.mg W ρ H ⟨Q, fun _ _ => False, fun _ _ => False, fun _ _ => False⟩ (gs ds sl S) := p
      exact ⟨a, vs, e, t.sq, by rw [← r.len]; exact hl ds sl S (fun q => by rw [q] at p; exact p), ρ, S, sl, ds, w, rs, r, p⟩
    | _ => exact p.elim
theorem len_nil (ds : List D) (sl : Sl) (S : Store) (h : gNilX ds sl S ≠ .bad) : ds.length = 0 := by
  cases ds with
  | nil => rfl
  | cons _ _ => exact absurd rfl h
theorem len_cons {g : GX} {gs : GXs} {n : Nat} (hr : ∀ ds sl S, gs ds sl S ≠ .bad → ds.length = n) (hg : ∀ d sl S, (∃ sl' S', g d sl S = .nx sl' S') ∨ g d sl S = .bad) (ds : List D) (sl : Sl) (S : Store) (h : gConsX g gs ds sl S ≠ .bad) : ds.length = n + 1 := by
  cases ds with
  | nil => exact absurd rfl h
  | cons d r =>
    rcases hg d sl S with ⟨sl', S', e⟩ | e
    · have : gConsX g gs (d :: r) sl S = gs r sl' S' := by show (g d sl S).then (gs r) = _; rw [e]; rfl
      rw [this] at h
      simp [hr r sl' S' h]
    · exact absurd (show gConsX g gs (d :: r) sl S = .bad by show (g d sl S).then (gs r) = _; rw [e]; rfl) h
theorem nx_set (i : Nat) (d : D) (sl : Sl) (S : Store) : (∃ sl' S', gSet i d sl S = .nx sl' S') ∨ gSet i d sl S = .bad := .inl ⟨_, _, rfl⟩
theorem s_asg {tg : Expr} {g : GX} (he : E X W e fe) (hg : EG X W tg g) (hb : ∀ d sl S, (∃ sl' S', g d sl S = .nx sl' S') ∨ g d sl S = .bad) (hs : swapsWithSole [tg] e pos.line X.env = pure false := by rfl) (hw : swappedStores [tg] e X.env = pure none := by rfl)
    (h1 : (assignEach [tg] X.env).map (·.2) = [assign tg X.env] := by rfl) : ES X W (.Assign [tg] e pos) (sAsg fe g) :=
  PS.imp (ps_asg he hg hs hw h1) fun D σ H ⟨ρ, S, sl, w, rs, p⟩ => ⟨ρ, S, sl, w, rs, PostE.mono (PostS.ofE rs p) fun v H1 ⟨ρ1, S1, d, w1, r1, rv, p1⟩ => ⟨ρ1, S1, sl, d, w1, r1, rv, by
    rcases hb d sl S1 with ⟨sl', S', q⟩ | q
    · rw [q] at p1 ⊢; exact p1
    · rw [q] at p1; exact p1.elim⟩⟩
theorem s_set {i : Nat} {x : Str} {pos' : Pos} (hN : X.N.Nodup) (he : E X W e fe) (hi : X.N[i]? = some x := by rfl) (hx : Loc X.env.scope x := by first | exact Or.inl rfl | exact Or.inr rfl) (hs : swapsWith e (some (.Name x pos')) pos.line X.env = pure false := by rfl)
    (hf : X.fn x = true ∨ X.env.scope.names.lookup x = some .local := by first | exact .inl rfl | exact .inr rfl) : ES X W (.Assign [.Name x pos'] e pos) (sAsg fe (gSet i)) :=
  PS.imp (ps_set hN hi hx he hs hf) fun D σ H ⟨ρ, S, sl, w, rs, p⟩ => ⟨ρ, S, sl, w, rs, PostE.mono (PostS.ofE rs p) fun v H1 ⟨ρ1, S1, d, w1, r1, rv, p1⟩ => p1 _ ρ1 H1 Ext.refl w1 (r1.set rv i)⟩
theorem s_par {i j : Nat} {x y : Str} {a b : Expr} {fa : AX} {px py pt : Pos} {kt k2 pt2} (hc : X.calm = true) (hN : X.N.Nodup) (ha : EA X W [a, b] fa) (hi : X.N[i]? = some x := by rfl) (hj : X.N[j]? = some y := by rfl) (hij : i ≠ j := by decide)
    (hx : X.env.scope.names.lookup x = some .local := by rfl) (hy : X.env.scope.names.lookup y = some .local := by rfl)
    (hw : swappedStores [.Tuple [.Name x px, .Name y py] kt pt] (.Tuple [a, b] k2 pt2) X.env = pure (some [x, y]) := by rfl)
    (hs : swapsWithSole [.Tuple [.Name x px, .Name y py] kt pt] (.Tuple [a, b] k2 pt2) pos.line X.env = pure false := by rfl) :
    ES X W (.Assign [.Tuple [.Name x px, .Name y py] kt pt] (.Tuple [a, b] k2 pt2) pos) (sPar i j fa) :=
  PS.imp (ps_par hc hN hi hj hij hx hy ha hw hs) fun D σ H ⟨ρ, S, sl, w, rs, p⟩ => ⟨ρ, S, sl, w, rs, PostA.mono (PostS.ofA rs p) fun vs H1 ⟨ρ1, S1, ds, w1, r1, rv, p1⟩ => by
    match ds, rv, p1 with
    | [d, e], rv, p1 =>
      rw [RepL] at rv
      obtain ⟨v, r, e1, h1, h2⟩ := rv
      rw [RepL] at h2
      obtain ⟨u, r2, e2, h3, h4⟩ := h2
      rw [RepL] at h4
      subst h4 e2 e1
      exact ⟨v, u, rfl, p1 _ ρ1 H1 Ext.refl w1 ((r1.set h1 i).set h3 j)⟩
    | [], _, p1 => exact p1.elim
    | [_], _, p1 => exact p1.elim
    | _ :: _ :: _ :: _, _, p1 => exact p1.elim⟩
/-! ### while -/
theorem s_while {c : Expr} {ga : BX} {body : List Stmt} (hp : PassesOwn (model X.prog X.w) X.A X.env X.xe) (hc : EB X W c ga) (hb : ESs X W body f) : ES X W (.While c body [] pos) (sWhile ga f) := by
  refine PS.imp (ps_while hp hc hb) fun D σ H ⟨ρ, S, sl, w, rs, p⟩ => ?_
  refine ⟨fun m σ H => ∃ ρ S sl, WOk X.K X.mg ρ H S ∧ RSt X.K X.mg ρ H σ sl ∧ PostS X.K X.mg W ρ H D (whileL ga f m sl S), ⟨fuel, ρ, S, sl, w, rs, p⟩, ?_⟩
  rintro m σ H ⟨ρ, S, sl, w, rs, p⟩
  cases m with
  | zero => exact p.elim
  | succ m =>
    refine ⟨ρ, S, sl, w, rs, PostB.mono (PostS.ofB rs p) fun k H1 ⟨ρ1, S1, w1, r1, p1⟩ => ?_⟩
    cases k with
    | false => exact post_nx p1 w1 r1
    | true =>
      rw [if_pos rfl] at p1 ⊢
      refine ⟨fun σ' H' => ∃ ρ S sl, WOk X.K X.mg ρ H' S ∧ RSt X.K X.mg ρ H' σ' sl ∧ PostS X.K X.mg W ρ H' D (whileL ga f m sl S), fun σ' H' n => ⟨m, Nat.lt_succ_self m, n⟩, ρ1, S1, sl, w1, r1, ?_⟩
      cases q : f sl S1 with
      | nx sl2 S2 => rw [q] at p1; exact fun σ ρ2 H2 y w r => ⟨ρ2, S2, sl2, w, r, PostS.from y p1⟩
      | ct sl2 S2 => rw [q] at p1; exact fun σ ρ2 H2 y w r => ⟨ρ2, S2, sl2, w, r, PostS.from y p1⟩
      | bk sl2 S2 => rw [q] at p1; exact p1
      | rt d S2 => rw [q] at p1; exact p1
      | ex e sl2 S2 => rw [q] at p1; exact p1
      | bad => rw [q] at p1; exact p1
end

/-! ### what is walked -/
/-- J walks over data ds from the base heap on, while G holds of the store -/
structure IWalk (K : PySem.W.Frag) (mg : Str → Option Value) (J : It) (ds : List D) (G : Store → Prop) (ρ0 : List Addr) (H0 : Hp) : Prop where
  go : ∀ (i : Nat) ρ H S, i < ds.length → Ext ρ0 H0 ρ H → WOk K mg ρ H S → G S → J.go i H
  stop : ∀ ρ H S, Ext ρ0 H0 ρ H → WOk K mg ρ H S → G S → J.stop ds.length H
  yld : ∀ (i : Nat) ρ H S x H', i < ds.length → Ext ρ0 H0 ρ H → WOk K mg ρ H S → G S → J.yld i H x H' → ∃ d, ds[i]? = some d ∧ Ext ρ H ρ H' ∧ WOk K mg ρ H' S ∧ Rep K mg ρ H' d x
def PostI (K : PySem.W.Frag) (mg : Str → Option Value) (W : Value → Option Addr → Hp → Prop) (ρ : List Addr) (H : Hp) (R : It → Hp → Prop) : Out (List D × (Store → Prop)) → Prop
  | .ok p S' => ∀ ρ' H' J, Ext ρ H ρ' H' → WOk K mg ρ' H' S' → IWalk K mg J p.1 p.2 ρ' H' → R J H'
  | .ex e S' => ∀ C dd ρ' H', Ext ρ H ρ' H' → WOk K mg ρ' H' S' → ExRep K mg ρ' H' e C dd → W C dd H'
  | .bad => False
def trI (K : PySem.W.Frag) (mg : Str → Option Value) (W : WX) (it : IX) : TI := fun σ H R => ∃ ρ S sl, WOk K mg ρ H S ∧ RSt K mg ρ H σ sl ∧ PostI K mg (fun C d H' => W C d σ H') ρ H R (it sl S)
def EI (X : Cx) (W : WX) (tg it : Expr) (f : IX) : Prop := PI X tg it (trI X.K X.mg W f)
theorem PI.imp {X : Cx} {tg e : Expr} {t t' : TI} (h : PI X tg e t) (k : ∀ σ H R, t' σ H R → t σ H R) : PI X tg e t' := ⟨fun pins s σ H R I q => h.run pins s σ H R I (k σ H R q)⟩
section
variable {X : Cx} {W : WX} {f : SX} {pos : Pos}
theorem s_for {tg iter : Expr} {body : List Stmt} {it : IX} {g : GX} (hp : PassesOwn (model X.prog X.w) X.A X.env X.xe) (hc : X.calm = true) (hi : EI X W tg iter it) (hg : EG X W tg g) (hb : ESs X W body f)
    (hs : ∀ x, foldedSetIterable iter X.env x = pure x := by intro _; rfl) : ES X W (.For tg iter body [] pos) (sFor it g f) := by
  refine PS.imp (ps_for hp hc hi hg hb hs) fun D σ H ⟨ρ, S, sl, w, rs, p⟩ => ?_
  have p : PostS X.K X.mg W ρ H D ((it sl S).toS sl fun p S' => forL p.2 g f p.1 sl S') := p
  refine ⟨ρ, S, sl, w, rs, ?_⟩
  cases q : it sl S with
  | bad => rw [q] at p; exact p
  | ex e S1 => rw [q] at p; exact fun C dd ρ2 H2 y w r => p C dd σ ρ2 H2 y w (rs.ext y) r
  | ok pr S1 =>
    rw [q] at p
    intro ρ1 H1 J x1 w1 iw
    obtain ⟨ds, G⟩ := pr
    have p1 : PostS X.K X.mg W ρ1 H1 D (forL G g f ds sl S1) := PostS.from x1 p
    refine ⟨fun i m σ' H' => i + m = ds.length ∧ ∃ ρ' S' sl', Ext ρ1 H1 ρ' H' ∧ WOk X.K X.mg ρ' H' S' ∧ RSt X.K X.mg ρ' H' σ' sl' ∧ PostS X.K X.mg W ρ' H' D (forL G g f (ds.drop i) sl' S'),
      ⟨ds.length, by simp, ρ1, S1, sl, Ext.refl, w1, rs.ext x1, by simpa using p1⟩, ?_⟩
    rintro i m σ2 H2 ⟨hm, ρ2, S2, sl2, x2, w2, r2, p2⟩
    cases m with
    | zero =>
      have hi : i = ds.length := by omega
      subst hi
      rw [List.drop_length] at p2
      have p2 : PostS X.K X.mg W ρ2 H2 D (open Classical in if G S2 then .nx sl2 S2 else .bad) := p2
      by_cases hG : G S2
      · rw [if_pos hG] at p2
        exact .inl ⟨iw.stop ρ2 H2 S2 x2 w2 hG, post_nx p2 w2 r2⟩
      · rw [if_neg hG] at p2; exact p2.elim
    | succ m =>
      have hlt : i < ds.length := by omega
      have hd : ds.drop i = ds[i] :: ds.drop (i + 1) := (List.getElem_cons_drop hlt).symm
      rw [hd] at p2
      have p2 : PostS X.K X.mg W ρ2 H2 D (open Classical in if G S2 then (match g ds[i] sl2 S2 with
        | .nx sl1 S1 => (match f sl1 S1 with
          | .nx sl2 S2 => forL G g f (ds.drop (i + 1)) sl2 S2
          | .ct sl2 S2 => forL G g f (ds.drop (i + 1)) sl2 S2
          | .bk sl2 S2 => .nx sl2 S2
          | r => r)
        | _ => .bad) else .bad) := p2
      by_cases hG : G S2
      · rw [if_pos hG] at p2
        refine .inr ⟨iw.go i ρ2 H2 S2 hlt x2 w2 hG, fun σ' H' => ∃ ρ' S' sl', Ext ρ1 H1 ρ' H' ∧ WOk X.K X.mg ρ' H' S' ∧ RSt X.K X.mg ρ' H' σ' sl' ∧ PostS X.K X.mg W ρ' H' D (forL G g f (ds.drop (i + 1)) sl' S'), fun σ' H' n => ⟨m, Nat.lt_succ_self m, by omega, n⟩, ?_⟩
        intro x H3 y
        obtain ⟨d, e, x3, w3, r3⟩ := iw.yld i ρ2 H2 S2 x H3 hlt x2 w2 hG y
        have ed : d = ds[i] := by rw [List.getElem?_eq_getElem hlt] at e; exact (Option.some.inj e).symm
        subst ed
        refine ⟨ρ2, S2, sl2, ds[i], w3, r2.ext x3, r3, ?_⟩
        cases q1 : g ds[i] sl2 S2 with
        | nx sl4 S4 =>
          rw [q1] at p2
          intro σ4 ρ4 H4 x4 w4 r4
          refine ⟨ρ4, S4, sl4, w4, r4, ?_⟩
          have p4 := PostS.from (x3.trans x4) p2
          have xx := x2.trans (x3.trans x4)
          cases q2 : f sl4 S4 with
          | nx sl5 S5 => simp only [q2] at p4; exact fun σ5 ρ5 H5 y5 w5 r5 => ⟨ρ5, S5, sl5, xx.trans y5, w5, r5, PostS.from y5 p4⟩
          | ct sl5 S5 => simp only [q2] at p4; exact fun σ5 ρ5 H5 y5 w5 r5 => ⟨ρ5, S5, sl5, xx.trans y5, w5, r5, PostS.from y5 p4⟩
          | bk sl5 S5 => simp only [q2] at p4; exact p4
          | rt d5 S5 => simp only [q2] at p4; exact p4
          | ex e5 sl5 S5 => simp only [q2] at p4; exact p4
          | bad => simp only [q2] at p4; exact p4
        | bk sl4 S4 => rw [q1] at p2; exact p2.elim
        | ct sl4 S4 => rw [q1] at p2; exact p2.elim
        | rt d4 S4 => rw [q1] at p2; exact p2.elim
        | ex e4 sl4 S4 => rw [q1] at p2; exact p2.elim
        | bad => rw [q1] at p2; exact p2.elim
      · rw [if_neg hG] at p2; exact p2.elim
end
end Z
/-! Z3: the promise of a def by its function on data; calls, methods, properties, new objects. -/
namespace Z
open PySem PySem.Spec L2

/-! ### handles that end: made plain -/
mutual
def frzD (g : Nat → Option D) : D → Option D
  | .tup xs => (frzL g xs).map .tup
  | .lst xs => (frzL g xs).map .lst
  | .dct ks vs => match frzL g ks, frzL g vs with
    | some a, some b => some (.dct a b)
    | _, _ => none
  | .ins c ns vs => (frzL g vs).map (.ins c ns)
  | .ptr n => g n
  | .non => some .non
  | .bl b => some (.bl b)
  | .int i => some (.int i)
  | .str s => some (.str s)
  | .ty n => some (.ty n)
  | .cls c => some (.cls c)
  | .scr xs => some (.scr xs)
  | .exc c ns vs => (frzL g vs).map (.exc c ns)
  | .lam T clo => some (.lam T clo)
  | .lamc T caps => (frzL g caps).map (.lamc T)
def frzL (g : Nat → Option D) : List D → Option (List D)
  | [] => some []
  | d :: ds => match frzD g d, frzL g ds with
    | some a, some b => some (a :: b)
    | _, _ => none
end
def frzP (S : Store) (k : Nat) : Nat → Nat → Option D
  | 0, n => if n < k then some (.ptr n) else none
  | f + 1, n => if n < k then some (.ptr n) else match S[n]? with
    | some (.lst ds) => (frzL (frzP S k f) ds).map .lst
    | some (.dct false ks vs) => match frzL (frzP S k f) ks, frzL (frzP S k f) vs with
      | some a, some b => some (.dct a b)
      | _, _ => none
    | some (.ins c ns vs) => (frzL (frzP S k f) vs).map (.ins c ns)
    | _ => none
mutual
/-- every handle in it is below k -/
def under (k : Nat) : D → Bool
  | .tup xs => underL k xs
  | .lst xs => underL k xs
  | .dct ks vs => underL k ks && underL k vs
  | .ins _ _ vs => underL k vs
  | .ptr n => decide (n < k)
  | .non => true
  | .bl _ => true
  | .int _ => true
  | .str _ => true
  | .ty _ => true
  | .cls _ => true
  | .scr _ => true
  | .exc _ _ vs => underL k vs
  | .lam _ _ => true
  | .lamc _ vs => underL k vs
def underL (k : Nat) : List D → Bool
  | [] => true
  | d :: ds => under k d && underL k ds
end
def underM (k : Nat) : MO → Bool
  | .lst xs => underL k xs
  | .dct _ ks vs => underL k ks && underL k vs
  | .ins _ _ vs => underL k vs
  | .tab _ _ => true
/-- what stood is as it was, or speaks of what stood -/
def Closed (S S' : Store) : Prop := ∀ (i : Nat) (m : MO), i < S.length → S'[i]? = some m → S[i]? = some m ∨ underM S.length m = true
noncomputable def fin (S : Store) : Out D → Out D
  | .ok d S' => open Classical in if Closed S S' then (match frzD (frzP S' S.length 6) d with
    | some d' => .ok d' (S'.take S.length)
    | none => .bad) else .bad
  | .ex d S' => open Classical in if Closed S S' then (match frzD (frzP S' S.length 6) d with
    | some d' => .ex d' (S'.take S.length)
    | none => .bad) else .bad
  | .bad => .bad

section
variable {K : PySem.W.Frag} {mg : Str → Option Value} {ρ ρ' : List Addr} {H : Hp} {S S' : Store}
theorem LamAt.sub (hs : ∀ a, a ∉ ρ' → a ∉ ρ) {f : Addr} {T : LamText} {clo : List (Str × Addr)} (h : LamAt ρ' H f T clo) : LamAt ρ H f T clo := by
  obtain ⟨n, hκ, pm, doc, dV, ctv, c', h1, nc, h2, h3⟩ := h
  refine ⟨hs _ n, hκ, pm, doc, dV, ctv, c', h1, hs _ nc, h2, ?_⟩
  rcases h3 with h | ⟨n, t, e, nt, ht⟩
  · exact .inl h
  · exact .inr ⟨n, t, e, hs _ nt, ht⟩
theorem CellsAt.sub (hs : ∀ a, a ∉ ρ' → a ∉ ρ) {clo : List (Str × Addr)} : ∀ {ns : List Str} {vs : List V}, CellsAt ρ' H clo ns vs → CellsAt ρ H clo ns vs
  | [], _, h => h
  | n :: ns, _, ⟨v, r, c, o, u, e, h1, n1, h2, h3, h4, hd, h5⟩ => ⟨v, r, c, o, u, e, h1, hs _ n1, h2, h3, h4, hd, CellsAt.sub hs h5⟩
mutual
theorem frzD_rep {g : Nat → Option D} (hg : ∀ (n : Nat) d' a, g n = some d' → ρ'[n]? = some a → Rep K mg ρ H d' (.ref a)) (hs : ∀ a, a ∉ ρ' → a ∉ ρ) : ∀ (d d' : D) (v : V), frzD g d = some d' → Rep K mg ρ' H d v → Rep K mg ρ H d' v
  | .non, d', v, e, h => by cases e; rw [Rep] at h ⊢; exact h
  | .bl b, d', v, e, h => by cases e; rw [Rep] at h ⊢; exact h
  | .int b, d', v, e, h => by cases e; rw [Rep] at h ⊢; exact h
  | .str b, d', v, e, h => by cases e; rw [Rep] at h ⊢; exact h
  | .ty b, d', v, e, h => by cases e; rw [Rep] at h ⊢; exact h
  | .cls b, d', v, e, h => by cases e; rw [Rep] at h ⊢; exact h
  | .tup xs, d', v, e, h => by
    rw [frzD] at e
    obtain ⟨ys, e1, e2⟩ := Option.map_eq_some_iff.mp e
    subst e2
    rw [Rep] at h ⊢
    obtain ⟨a, vs, e3, t, r⟩ := h
    refine ⟨a, vs, e3, ?_, frzL_rep hg hs xs ys vs e1 r⟩
    rcases t with ⟨n, t⟩ | t
    · exact .inl ⟨hs a n, t⟩
    · exact .inr t
  | .lst xs, d', v, e, h => by
    rw [frzD] at e
    obtain ⟨ys, e1, e2⟩ := Option.map_eq_some_iff.mp e
    subst e2
    rw [Rep] at h ⊢
    obtain ⟨a, vs, e3, t, r⟩ := h
    exact ⟨a, vs, e3, ⟨hs a t.1, t.2⟩, frzL_rep hg hs xs ys vs e1 r⟩
  | .scr xs, d', v, e, h => by
    cases e
    rw [Rep] at h ⊢
    obtain ⟨a, e3, t⟩ := h
    refine ⟨a, e3, ?_⟩
    rcases t with ⟨n, t⟩ | t
    · exact .inl ⟨hs a n, t⟩
    · exact .inr t
  | .dct ks ds, d', v, e, h => by
    rw [frzD] at e
    split at e
    · rename_i a b ea eb
      cases e
      rw [Rep] at h ⊢
      obtain ⟨p, kv, vs, e3, ⟨n, t⟩, r1, r2⟩ := h
      exact ⟨p, kv, vs, e3, ⟨hs p n, t⟩, frzL_rep hg hs ks a kv ea r1, frzL_rep hg hs ds b vs eb r2⟩
    · cases e
  | .ins c ns ds, d', v, e, h => by
    rw [frzD] at e
    obtain ⟨ys, e1, e2⟩ := Option.map_eq_some_iff.mp e
    subst e2
    rw [Rep] at h ⊢
    obtain ⟨a, C, dx, fs, e3, n, hm, ha, hn, r⟩ := h
    exact ⟨a, C, dx, fs, e3, hs a n, hm, ha, hn, frzL_rep hg hs ds ys _ e1 r⟩
  | .ptr n, d', v, e, h => by
    rw [frzD] at e
    rw [Rep] at h
    obtain ⟨a, e3, q⟩ := h
    subst e3
    exact hg n d' a e q
  | .exc c ns ds, d', v, e, h => by
    rw [frzD] at e
    obtain ⟨ys, e1, e2⟩ := Option.map_eq_some_iff.mp e
    subst e2
    rw [Rep] at h ⊢
    obtain ⟨a, C, dx, fs, e3, n, nd, hm, ha, hd, hn, r⟩ := h
    exact ⟨a, C, dx, fs, e3, hs a n, hs dx nd, hm, ha, hd, hn, frzL_rep hg hs ds ys _ e1 r⟩
  | .lam T clo, d', v, e, h => by
    cases e
    rw [Rep] at h ⊢
    obtain ⟨f, e, h⟩ := h
    exact ⟨f, e, h.sub hs⟩
  | .lamc T caps, d', v, e, h => by
    rw [frzD] at e
    obtain ⟨ys, e1, e2⟩ := Option.map_eq_some_iff.mp e
    subst e2
    rw [Rep] at h ⊢
    obtain ⟨f, clo, vs, e3, h1, h2, r⟩ := h
    exact ⟨f, clo, vs, e3, h1.sub hs, h2.sub hs, frzL_rep hg hs caps ys _ e1 r⟩
theorem frzL_rep {g : Nat → Option D} (hg : ∀ (n : Nat) d' a, g n = some d' → ρ'[n]? = some a → Rep K mg ρ H d' (.ref a)) (hs : ∀ a, a ∉ ρ' → a ∉ ρ) : ∀ (ds ds' : List D) (vs : List V), frzL g ds = some ds' → RepL K mg ρ' H ds vs → RepL K mg ρ H ds' vs
  | [], ds', vs, e, h => by
    rw [frzL] at e; cases e
    rw [RepL] at h ⊢; exact h
  | d :: ds, ds', vs, e, h => by
    rw [frzL] at e
    split at e
    · rename_i a b ea eb
      cases e
      rw [RepL] at h ⊢
      obtain ⟨v, r, e3, h1, h2⟩ := h
      exact ⟨v, r, e3, frzD_rep hg hs d a v ea h1, frzL_rep hg hs ds b r eb h2⟩
    · cases e
end
mutual
theorem frz_under {k : Nat} {g : Nat → Option D} (hg : ∀ n, n < k → g n = some (.ptr n)) : ∀ d : D, under k d = true → frzD g d = some d
  | .non, _ => rfl
  | .bl _, _ => rfl
  | .int _, _ => rfl
  | .str _, _ => rfl
  | .ty _, _ => rfl
  | .cls _, _ => rfl
  | .scr _, _ => rfl
  | .tup xs, h => by rw [under] at h; rw [frzD, frz_underL hg xs h]; rfl
  | .lst xs, h => by rw [under] at h; rw [frzD, frz_underL hg xs h]; rfl
  | .dct ks vs, h => by
    rw [under, Bool.and_eq_true] at h
    rw [frzD, frz_underL hg ks h.1, frz_underL hg vs h.2]
  | .ins c ns vs, h => by rw [under] at h; rw [frzD, frz_underL hg vs h]; rfl
  | .ptr n, h => by rw [under] at h; rw [frzD]; exact hg n (of_decide_eq_true h)
  | .exc c ns vs, h => by rw [under] at h; rw [frzD, frz_underL hg vs h]; rfl
  | .lam _ _, _ => rfl
  | .lamc T vs, h => by rw [under] at h; rw [frzD, frz_underL hg vs h]; rfl
theorem frz_underL {k : Nat} {g : Nat → Option D} (hg : ∀ n, n < k → g n = some (.ptr n)) : ∀ ds : List D, underL k ds = true → frzL g ds = some ds
  | [], _ => rfl
  | d :: ds, h => by
    rw [underL, Bool.and_eq_true] at h
    rw [frzL, frz_under hg d h.1, frz_underL hg ds h.2]
end
theorem frzP_lt {k f n : Nat} (h : n < k) : frzP S k f n = some (.ptr n) := by
  cases f with
  | zero => rw [frzP, if_pos h]
  | succ f => rw [frzP, if_pos h]
mutual
theorem Rep.under_ : ∀ (d : D) (v : V), Rep K mg ρ H d v → under ρ.length d = true
  | .non, _, _ => rfl
  | .bl _, _, _ => rfl
  | .int _, _, _ => rfl
  | .str _, _, _ => rfl
  | .ty _, _, _ => rfl
  | .cls _, _, _ => rfl
  | .scr _, _, _ => rfl
  | .tup xs, v, h => by
    rw [Rep] at h
    obtain ⟨a, vs, _, _, r⟩ := h
    rw [under]; exact RepL.under_ xs vs r
  | .lst xs, v, h => by
    rw [Rep] at h
    obtain ⟨a, vs, _, _, r⟩ := h
    rw [under]; exact RepL.under_ xs vs r
  | .dct ks ds, v, h => by
    rw [Rep] at h
    obtain ⟨a, kv, vs, _, _, r1, r2⟩ := h
    rw [under, RepL.under_ ks kv r1, RepL.under_ ds vs r2]; rfl
  | .ins c ns ds, v, h => by
    rw [Rep] at h
    obtain ⟨a, C, dx, fs, _, _, _, _, _, r⟩ := h
    rw [under]; exact RepL.under_ ds _ r
  | .ptr n, v, h => by
    rw [Rep] at h
    obtain ⟨a, _, q⟩ := h
    rw [under]; exact decide_eq_true (List.getElem?_eq_some_iff.mp q).1
  | .exc c ns ds, v, h => by
    rw [Rep] at h
    obtain ⟨a, C, dx, fs, _, _, _, _, _, _, _, r⟩ := h
    rw [under]; exact RepL.under_ ds _ r
  | .lam _ _, _, _ => rfl
  | .lamc T ds, v, h => by
    rw [Rep] at h
    obtain ⟨f, clo, vs, _, _, _, r⟩ := h
    rw [under]; exact RepL.under_ ds vs r
theorem RepL.under_ : ∀ (ds : List D) (vs : List V), RepL K mg ρ H ds vs → underL ρ.length ds = true
  | [], _, _ => rfl
  | d :: ds, vs, h => by
    rw [RepL] at h
    obtain ⟨v, r, _, h1, h2⟩ := h
    rw [underL, Rep.under_ d v h1, RepL.under_ ds r h2]; rfl
end
theorem MRep.under_ {a : Addr} {m : MO} (h : MRep K mg ρ H a m) : underM ρ.length m = true := by
  cases m with
  | lst ds =>
    obtain ⟨vs, _, r⟩ := h
    exact RepL.under_ ds vs r
  | dct lk ks ds =>
    obtain ⟨kvs, _, r1, r2⟩ := h
    show (underL _ ks && underL _ ds) = true
    rw [RepL.under_ ks _ r1, RepL.under_ ds _ r2]; rfl
  | ins c ns ds =>
    obtain ⟨C, dx, fs, _, _, _, r⟩ := h
    exact RepL.under_ ds _ r
  | tab P q => rfl
/-- at the end: the handles behind ρ are forgotten -/
structure Back (K : PySem.W.Frag) (mg : Str → Option Value) (ρ ρ' : List Addr) (H : Hp) (S' : Store) : Prop where
  pre : ∃ t, ρ' = ρ ++ t
  w : WOk K mg ρ' H S'
theorem Back.sub (b : Back K mg ρ ρ' H S') : ∀ a, a ∉ ρ' → a ∉ ρ := fun a h q => by
  obtain ⟨t, e⟩ := b.pre
  exact h (by rw [e]; exact List.mem_append_left _ q)
theorem Back.out (b : Back K mg ρ ρ' H S') {n : Nat} {a : Addr} (h : ρ'[n]? = some a) (hn : ¬ n < ρ.length) : a ∉ ρ := fun q => by
  obtain ⟨t, e⟩ := b.pre
  have nd := b.w.nd
  rw [e] at h nd
  rw [List.getElem?_append_right (by omega)] at h
  exact (List.nodup_append.mp nd).2.2 a q a (List.mem_of_getElem? h) rfl
theorem Back.in_ (b : Back K mg ρ ρ' H S') {n : Nat} {a : Addr} (h : ρ'[n]? = some a) (hn : n < ρ.length) : ρ[n]? = some a := by
  obtain ⟨t, e⟩ := b.pre
  rw [e, List.getElem?_append_left hn] at h
  exact h
theorem Back.frz (b : Back K mg ρ ρ' H S') : ∀ (f n : Nat) (d' : D) (a : Addr), frzP S' ρ.length f n = some d' → ρ'[n]? = some a → Rep K mg ρ H d' (.ref a) := by
  intro f
  induction f with
  | zero =>
    intro n d' a e h
    rw [frzP] at e
    split at e
    · rename_i hn
      cases e
      rw [Rep]
      exact ⟨a, rfl, b.in_ h hn⟩
    · cases e
  | succ f ih =>
    intro n d' a e h
    rw [frzP] at e
    split at e
    · rename_i hn
      cases e
      rw [Rep]
      exact ⟨a, rfl, b.in_ h hn⟩
    · rename_i hn
      have hout := b.out h hn
      split at e
      · rename_i ds em
        obtain ⟨vs, h1, r⟩ := b.w.ob n a _ h em
        obtain ⟨ys, e1, e2⟩ := Option.map_eq_some_iff.mp e
        subst e2
        rw [Rep]
        exact ⟨a, vs, rfl, ⟨hout, h1⟩, frzL_rep (fun n d' a => ih n d' a) b.sub ds ys vs e1 r⟩
      · rename_i ks ds em
        obtain ⟨kvs, h1, r1, r2⟩ := b.w.ob n a _ h em
        rw [if_neg Bool.false_ne_true] at h1
        split at e
        · rename_i x y ex ey
          cases e
          rw [Rep]
          exact ⟨a, _, _, rfl, ⟨hout, kvs, .inl h1, rfl, rfl⟩, frzL_rep (fun n d' a => ih n d' a) b.sub ks x _ ex r1, frzL_rep (fun n d' a => ih n d' a) b.sub ds y _ ey r2⟩
        · cases e
      · rename_i c ns ds em
        obtain ⟨C, dx, fs, hm, h1, hn', r⟩ := b.w.ob n a _ h em
        obtain ⟨ys, e1, e2⟩ := Option.map_eq_some_iff.mp e
        subst e2
        rw [Rep]
        exact ⟨a, C, dx, fs, rfl, hout, hm, h1, hn', frzL_rep (fun n d' a => ih n d' a) b.sub ds ys _ e1 r⟩
      · cases e
theorem Back.shrinkL (b : Back K mg ρ ρ' H S') {ds : List D} {vs : List V} (hu : underL ρ.length ds = true) (r : RepL K mg ρ' H ds vs) : RepL K mg ρ H ds vs :=
  frzL_rep (g := frzP S' ρ.length 0) (fun n d' a => b.frz 0 n d' a) b.sub ds ds vs (frz_underL (fun n hn => frzP_lt hn) ds hu) r
theorem Back.wok {H₀ : Hp} (b : Back K mg ρ ρ' H S') (w0 : WOk K mg ρ H₀ S) (c : Closed S S') : WOk K mg ρ H (S'.take S.length) := by
  obtain ⟨t, e⟩ := id b.pre
  have hl : ρ.length ≤ S'.length := by
    have := b.w.len
    rw [e, List.length_append] at this
    omega
  refine ⟨?_, w0.nd, fun a ha => b.w.tr a (by rw [e]; exact List.mem_append_left _ ha), fun n a m e1 e2 => ?_⟩
  · rw [List.length_take, w0.len]; have := w0.len; omega
  · have hn : n < S.length := by rw [← w0.len]; exact (List.getElem?_eq_some_iff.mp e1).1
    rw [List.getElem?_take_of_lt hn] at e2
    have e3 : ρ'[n]? = some a := by rw [e, List.getElem?_append_left (List.getElem?_eq_some_iff.mp e1).1]; exact e1
    have hu : underM ρ.length m = true := by
      rcases c n m hn e2 with q | q
      · exact (w0.ob n a m e1 q).under_
      · rw [w0.len]; exact q
    have q := b.w.ob n a m e3 e2
    cases m with
    | lst ds =>
      obtain ⟨vs, h1, r⟩ := q
      exact ⟨vs, h1, b.shrinkL hu r⟩
    | dct lk ks ds =>
      obtain ⟨kvs, h1, r1, r2⟩ := q
      have hu : (underL ρ.length ks && underL ρ.length ds) = true := hu
      rw [Bool.and_eq_true] at hu
      exact ⟨kvs, h1, b.shrinkL hu.1 r1, b.shrinkL hu.2 r2⟩
    | ins c ns ds =>
      obtain ⟨C, dx, fs, h0, h1, h2, r⟩ := q
      exact ⟨C, dx, fs, h0, h1, h2, b.shrinkL hu r⟩
    | tab P q' =>
      obtain ⟨hP, ps, h1, h2, h3⟩ := q
      refine ⟨hP, ps, h1, h2, fun pos cv hc => ?_⟩
      obtain ⟨c, e1, n, e2⟩ := h3 pos cv hc
      exact ⟨c, e1, b.sub _ n, e2⟩
theorem Ext.back {H₀ : Hp} (x : Ext ρ H₀ ρ' H) : Ext ρ H₀ ρ H := ⟨⟨[], by simp⟩, fun a h n => absurd h n, x.keep⟩
/-- what a def's end is worth to the caller -/
theorem fin_imp {W : Value → Option Addr → Hp → Prop} {Q : VK} {o : Out D} (w0 : WOk K mg ρ H S) (h : PostE K mg W ρ H Q (fin S o)) : PostE K mg W ρ H Q o := by
  cases o with
  | bad => exact h
  | ok d S1 =>
    have h : PostE K mg W ρ H Q (open Classical in if Closed S S1 then (match frzD (frzP S1 S.length 6) d with
      | some d' => .ok d' (S1.take S.length)
      | none => .bad) else .bad) := h
    intro v ρ1 H1 x w1 r
    by_cases c : Closed S S1
    · rw [if_pos c] at h
      have b : Back K mg ρ ρ1 H1 S1 := ⟨x.pre, w1⟩
      cases q : frzD (frzP S1 S.length 6) d with
      | none => rw [q] at h; exact h.elim
      | some d' =>
        rw [q] at h
        have hl : frzP S1 S.length 6 = frzP S1 ρ.length 6 := by rw [w0.len]
        rw [hl] at q
        exact h v ρ H1 x.back (b.wok w0 c) (frzD_rep (fun n d' a => b.frz 6 n d' a) b.sub d d' v q r)
    · rw [if_neg c] at h; exact h.elim
  | ex d S1 =>
    have h : PostE K mg W ρ H Q (open Classical in if Closed S S1 then (match frzD (frzP S1 S.length 6) d with
      | some d' => .ex d' (S1.take S.length)
      | none => .bad) else .bad) := h
    intro C dd ρ1 H1 x w1 r
    by_cases c : Closed S S1
    · rw [if_pos c] at h
      have b : Back K mg ρ ρ1 H1 S1 := ⟨x.pre, w1⟩
      cases q : frzD (frzP S1 S.length 6) d with
      | none => rw [q] at h; exact h.elim
      | some d' =>
        rw [q] at h
        have hl : frzP S1 S.length 6 = frzP S1 ρ.length 6 := by rw [w0.len]
        rw [hl] at q
        refine h C dd ρ H1 x.back (b.wok w0 c) ?_
        obtain ⟨c', ns, ds, Ca, da, fs, e, hm, hC, hdd, nda, hx, hn, rl⟩ := r
        subst e
        rw [frzD] at q
        obtain ⟨ys, e1, e2⟩ := Option.map_eq_some_iff.mp q
        exact ⟨c', ns, ys, Ca, da, fs, e2.symm, hm, hC, hdd, b.sub da nda, hx, hn, frzL_rep (fun n d' a => b.frz 6 n d' a) b.sub ds ys _ e1 rl⟩
    · rw [if_neg c] at h; exact h.elim
end

/-! ### promises -/
def spOf (K : PySem.W.Frag) (mg : Str → Option Value) (n : Nat) (g : SemL) : Sp := fun vs H Q E => ∃ ρ S ds, ds.length = n ∧ WOk K mg ρ H S ∧ RepL K mg ρ H ds vs ∧ PostE K mg E ρ H Q (g ds S)
def SO.out : SO → Out D
  | .nx _ S => .ok .non S
  | .rt d S => .ok d S
  | .ex e _ S => .ex e S
  | _ => .bad
/-- a def by its body: N names -/
noncomputable def defS (N : Nat) (body : SX) : SemL := fun ds S => fin S (body (ds.map some ++ List.replicate (N - ds.length) none) S).out
section
variable {P : Program} {w : World} {K : PySem.W.Frag} {mg : Str → Option Value} {base : Heap}
theorem rst_start {ρ : List Addr} {H : Hp} {N : List Str} {ds : List D} {vs : List V} (r : RepL K mg ρ H ds vs) : RSt K mg ρ H (L2.start N vs) (ds.map some ++ List.replicate (N.length - ds.length) none) := by
  have hl := r.len
  refine ⟨by unfold L2.start; simp [hl], fun i d e => ?_⟩
  have hi : i < ds.length := by
    by_cases hi : i < ds.length
    · exact hi
    · rw [List.getElem?_append_right (by simpa using hi), List.getElem?_replicate] at e
      split at e <;> cases e
  rw [List.getElem?_append_left (by simpa using hi), List.getElem?_map] at e
  cases q : ds[i]? with
  | none => rw [q] at e; cases e
  | some d' =>
    rw [q] at e; cases e
    obtain ⟨v, e1, rv⟩ := r.get q
    refine ⟨v, ?_, rv⟩
    unfold L2.start
    rw [List.getElem?_append_left (by simpa [← hl] using hi), List.getElem?_map, e1]; rfl
theorem fn_ok {x qual : Str} {st : Stmt} {f : Addr} {fd : FuncData} {N ps : List Str} {k : Nat} {body : SX} (F : Fun K x qual st f fd) (Sc : FnScope N ps (defScope st))
    (hb : ∀ (cdv : Value) (A : Around) (outer : List Env) (s : Shared) (H : Hp) (E : XK), Room k (A.deeper (PyProof.Rows.envOfC qual (defScope st) s.heap.objs.size f cdv)) →
      ESs (cxOf (L2.CX P w) P w K mg base N qual (defScope st) f cdv A outer s H E) (fun c d _ H' => E c d H') (defBody st) body) :
    FnOk P w K mg base (L2.CX P w) (k + 1) f fd ps (spOf K mg ps.length (defS N.length body)) := by
  refine F.okX Sc (fun vs H Q E h => ?_) (fun cdv A outer s H vs Q E hr h => ?_)
  · obtain ⟨ρ, S, ds, hl, _, r, _⟩ := h
    rw [← r.len, hl]
  · obtain ⟨ρ, S, ds, hl, w0, r, p⟩ := h
    refine ⟨_, hb cdv A outer s H E hr, ρ, S, _, w0, rst_start r, ?_⟩
    have p := fin_imp w0 p
    cases q : body (ds.map some ++ List.replicate (N.length - ds.length) none) S with
    | nx sl S' => rw [q] at p; exact fun σ' ρ' H' x w1 r1 => p .non ρ' H' x w1 (by rw [Rep])
    | rt d S' => rw [q] at p; exact p
    | ex e sl S' => rw [q] at p; exact fun C dd σ' ρ' H' x w1 _ r1 => p C dd ρ' H' x w1 r1
    | bk sl S' => rw [q] at p; exact p.elim
    | ct sl S' => rw [q] at p; exact p.elim
    | bad => rw [q] at p; exact p.elim
/-- another function with the same values wherever it speaks -/
theorem fn_as {n k : Nat} {f : Addr} {fd : FuncData} {ps : List Str} {CX : CXT} {g g' : SemL} (F : FnOk P w K mg base CX k f fd ps (spOf K mg n g)) (h : ∀ ds S, ds.length = n → g' ds S = .bad ∨ g ds S = g' ds S) : FnOk P w K mg base CX k f fd ps (spOf K mg n g') :=
  F.imp fun vs H Q E ⟨ρ, S, ds, hl, w0, r, p⟩ => ⟨ρ, S, ds, hl, w0, r, by
    rcases h ds S hl with e | e
    · rw [e] at p; exact p.elim
    · rw [e]; exact p⟩
end

/-! ### calls -/
/-- the written arguments, then the defaults -/
def withD (dds : List D) (n : Nat) (g : SemL) : SemL := fun ds S => if (ds ++ dds).length = n then g (ds ++ dds) S else .bad
section
variable {X : Cx} {W : WX} {k n : Nat} {f C : Addr} {fd : FuncData} {ps : List Str} {g : SemL} {x m : Str} {p pos apos : Pos} {e o : Expr} {es : List Expr} {fa : AX} {fe : EX} {dvs : List V} {dfs : List Value} {dds : List D}
theorem spOf_of {ρ : List Addr} {H : Hp} {S : Store} {ds : List D} {vs : List V} {Q : VK} {E : XK} (hdf : ∀ ρ H, RepL X.K X.mg ρ H dds dvs) (w : WOk X.K X.mg ρ H S) (r : RepL X.K X.mg ρ H ds vs) (p : PostE X.K X.mg E ρ H Q (withD dds n g ds S)) : spOf X.K X.mg n g (vs ++ dvs) H Q E := by
  unfold withD at p
  split at p
  · rename_i hl
    exact ⟨ρ, S, ds ++ dds, hl, w, r.append (hdf ρ H), p⟩
  · exact p.elim
theorem r_call (tk : Takes X W) (F : FnOk X.prog X.w X.K X.mg X.base (L2.CX X.prog X.w) k f fd ps (spOf X.K X.mg n g)) (hr : Room k X.A) (hm : X.mg x = some (.ref f)) (hk : PySem.W.keepIn X.K (.ref f) = true) (hb : Binds X.K fd ps dfs) (hd : Vals dvs dfs) (hdf : ∀ ρ H, RepL X.K X.mg ρ H dds dvs)
    (ha : EA X W (e :: es) fa) (hg : Gl X x := by rfl) (hdb : (x == ("__debug__" : Str)) = false := by decide) (he : starEach (e :: es) X.env = (false, eval e X.env) :: starEach es X.env := by rfl) (hpl : (backTo pos (starEach es X.env)).any (·.1) = false := by rfl) :
    E X W (.Call (.Name x p) (e :: es) [] pos) (eArgs (withD dds n g) fa) :=
  PE.imp (pe_callSD F hr hg hm hk hb hd (fun σ => passAt tk σ) ha hdb he hpl) fun σ H Q h => argsem_imp h fun ρ S H1 ds vs w r p => spOf_of hdf w r p
theorem run_fnSD0 {pins : List (Addr × Obj)} {σ : L2.St} {H : Hp} {s : Shared} {Q : VK} {us : List Value} {vs : List V} {sp : Sp} (tk : Takes X W) (F : FnOk X.prog X.w X.K X.mg X.base (L2.CX X.prog X.w) k f fd ps sp) (hr : Room k X.A) (hb : Binds X.K fd ps dfs) (hd : Vals dvs dfs) (I : Inv X pins σ H s) (r : Vals vs us)
    (h : sp (vs ++ dvs) H Q (WE W σ)) : wpAny (model X.prog X.w) X.A (call (.ref f) us) (EP X pins σ Q) X.xe s := run_fnSD (E := WE W) F hr hb hd (passAt tk σ) I r h
/-- f() -/
theorem r_call0 (tk : Takes X W) (F : FnOk X.prog X.w X.K X.mg X.base (L2.CX X.prog X.w) k f fd ps (spOf X.K X.mg n g)) (hr : Room k X.A) (hm : X.mg x = some (.ref f)) (hk : PySem.W.keepIn X.K (.ref f) = true) (hb : Binds X.K fd ps dfs) (hd : Vals dvs dfs) (hdf : ∀ ρ H, RepL X.K X.mg ρ H dds dvs)
    (hg : Gl X x := by rfl) (hdb : (x == ("__debug__" : Str)) = false := by decide) : E X W (.Call (.Name x p) [] [] pos) (eArgs (withD dds n g) aNil) := by
  refine ⟨fun pins s σ H Q I h => ?_⟩
  refine wpAny_Call_Name_kw (ld_glob I hg hm ?_ hdb)
  refine PySem.W.callWith_K0 I.kIn hk (run_fnSD0 (us := []) (vs := []) tk F hr hb hd I .nil ?_)
  obtain ⟨ρ, S, sl, w, r, p⟩ := h
  exact spOf_of hdf w RepL.nil p
/-- the receiver's class -/
def clsOf (S : Store) : D → Option Str
  | .ins c _ _ => some c
  | .ptr n => match S[n]? with
    | some (.ins c _ _) => some c
    | _ => none
  | _ => none
def fldsOf (S : Store) : D → Option (Str × List Str × List D)
  | .ins c ns vs => some (c, ns, vs)
  | .ptr n => match S[n]? with
    | some (.ins c ns vs) => some (c, ns, vs)
    | _ => none
  | _ => none
theorem flds_rep {K : PySem.W.Frag} {mg : Str → Option Value} {ρ : List Addr} {H : Hp} {S : Store} {d : D} {v : V} {c : Str} {ns : List Str} {vs : List D} (w : WOk K mg ρ H S) (r : Rep K mg ρ H d v) (h : fldsOf S d = some (c, ns, vs)) :
    ∃ a C dx fs, v = .ref a ∧ mg c = some (.ref C) ∧ H a = some (.ins C dx fs) ∧ fs.map (·.1) = ns ∧ RepL K mg ρ H vs (fs.map (·.2)) := by
  cases d with
  | ins c' ns' vs' =>
    unfold fldsOf at h
    cases h
    rw [Rep] at r
    obtain ⟨a, C, dx, fs, e, _, hm, ha, hn, rl⟩ := r
    exact ⟨a, C, dx, fs, e, hm, ha, hn, rl⟩
  | ptr n =>
    unfold fldsOf at h
    rw [Rep] at r
    obtain ⟨a, e, q⟩ := r
    simp only at h
    split at h
    · rename_i c' ns' vs' em
      cases h
      obtain ⟨C, dx, fs, hm, ha, hn, rl⟩ := w.ob n a _ q em
      exact ⟨a, C, dx, fs, e, hm, ha, hn, rl⟩
    · cases h
  | _ => unfold fldsOf at h; cases h
/-- e.f: a field -/
def lookN (f : Str) : List Str → List D → Option D
  | n :: ns, v :: vs => if f = n then some v else lookN f ns vs
  | _, _ => none
theorem lookN_rep {K : PySem.W.Frag} {mg : Str → Option Value} {ρ : List Addr} {H : Hp} {f : Str} {d : D} : ∀ {fs : List (Str × V)} {ns : List Str} {vs : List D}, fs.map (·.1) = ns → RepL K mg ρ H vs (fs.map (·.2)) → lookN f ns vs = some d → ∃ v, fs.lookup f = some v ∧ Rep K mg ρ H d v
  | [], _, _, e, _, h => by simp at e; subst e; simp [lookN] at h
  | (n, v) :: fs, _, [], e, r, h => by simp only [List.map_cons] at e; subst e; simp [lookN] at h
  | (n, v) :: fs, _, d0 :: vs, e, r, h => by
    simp only [List.map_cons] at e r
    subst e
    rw [RepL] at r
    obtain ⟨v', r', e', r1, r2⟩ := r
    cases e'
    unfold lookN at h
    by_cases q : f = n
    · rw [if_pos q] at h
      cases h
      subst q
      exact ⟨v, by simp [List.lookup], r1⟩
    · rw [if_neg q] at h
      obtain ⟨u, h1, h2⟩ := lookN_rep rfl r2 h
      refine ⟨u, ?_, h2⟩
      rw [List.lookup_cons, beq_eq_false_iff_ne.mpr q]
      exact h1
theorem lookN_none : ∀ {f : Str} {fs : List (Str × V)} {ns : List Str}, fs.map (·.1) = ns → f ∉ ns → fs.lookup f = none
  | f, [], _, e, h => rfl
  | f, (n, v) :: fs, _, e, h => by
    simp only [List.map_cons] at e
    subst e
    rw [List.lookup_cons, beq_eq_false_iff_ne.mpr (fun q => h (by rw [q]; exact List.mem_cons_self))]
    exact lookN_none rfl fun q => h (List.mem_cons_of_mem _ q)
/-- e.f of an instance of one of the classes cs -/
def semFld (cs : List Str) (f : Str) : Sem1 := fun d S => match fldsOf S d with
  | some (c, ns, vs) => if c ∈ cs then (match lookN f ns vs with
    | some v => .ok v S
    | none => .bad) else .bad
  | none => .bad
theorem r_fld {f : Str} {cs : List Str} (hc : ∀ c ∈ cs, ∀ C, X.mg c = some (.ref C) → Cls X.K C ∧ NoAttr X.K C f) (he : E X W e fe) (hb : attributeBase e f X.env (eval e X.env) = eval e X.env := by rfl) : E X W (.Attribute e f pos) (eUn (semFld cs f) fe) :=
  PE.imp (pe_fld he hb) fun σ H Q h => un_imp (g := fun _ => semFld cs f) h fun ρ S sl H1 d v w _ r p => by
    unfold semFld at p
    split at p
    · rename_i c ns vs q
      obtain ⟨a, C, dx, fs, e1, hm, ha, hn, rl⟩ := flds_rep w r q
      split at p
      · rename_i hmem
        split at p
        · rename_i v' q'
          obtain ⟨u, h1, h2⟩ := lookN_rep hn rl q'
          obtain ⟨h3, h4⟩ := hc c hmem C hm
          exact ⟨a, C, dx, fs, u, e1, ha, h3, h4, h1, post_ok p w h2⟩
        · exact p.elim
      · exact p.elim
    · exact p.elim
end
end Z
/-! Z4: the operators, subscripts, methods and built-ins by data. -/
namespace Z
open PySem PySem.Spec L2

section
variable {K : PySem.W.Frag} {mg : Str → Option Value} {ρ : List Addr} {H : Hp} {S : Store}
theorem rep_int {i : Int} {v : V} (h : Rep K mg ρ H (.int i) v) : v = .int i := by rw [Rep] at h; exact h
theorem rep_bl {i : Bool} {v : V} (h : Rep K mg ρ H (.bl i) v) : v = .bl i := by rw [Rep] at h; exact h
theorem rep_str {i : Str} {v : V} (h : Rep K mg ρ H (.str i) v) : v = .str i := by rw [Rep] at h; exact h
theorem rep_non {v : V} (h : Rep K mg ρ H .non v) : v = .non := by rw [Rep] at h; exact h
theorem rep_ty {n : String} {v : V} (h : Rep K mg ρ H (.ty n) v) : v = .ty n := by rw [Rep] at h; exact h
theorem mk_int {i : Int} : Rep K mg ρ H (.int i) (.int i) := by rw [Rep]
theorem mk_bl {i : Bool} : Rep K mg ρ H (.bl i) (.bl i) := by rw [Rep]
theorem mk_str {i : Str} : Rep K mg ρ H (.str i) (.str i) := by rw [Rep]
theorem mk_non : Rep K mg ρ H .non .non := by rw [Rep]
theorem asL_rep {d : D} {v : V} {ds : List D} (w : WOk K mg ρ H S) (r : Rep K mg ρ H d v) (h : asL S d = some ds) : ∃ a vs, v = .ref a ∧ H a = some (.lst vs) ∧ RepL K mg ρ H ds vs := by
  cases d with
  | lst xs =>
    unfold asL at h
    cases h
    rw [Rep] at r
    obtain ⟨a, vs, e, t, r⟩ := r
    exact ⟨a, vs, e, t.2, r⟩
  | ptr n =>
    unfold asL at h
    simp only at h
    rw [Rep] at r
    obtain ⟨a, e, q⟩ := r
    split at h
    · rename_i xs em
      cases h
      obtain ⟨vs, h1, h2⟩ := w.ob n a _ q em
      exact ⟨a, vs, e, h1, h2⟩
    · cases h
  | _ => unfold asL at h; cases h
/-- a list or a tuple that is read; a script too -/
def asS (S : Store) : D → Option (List D)
  | .tup ds => some ds
  | .scr xs => some (xs.map .int)
  | d => asL S d
theorem repL_ints : ∀ xs : List Int, RepL K mg ρ H (xs.map .int) (xs.map V.int)
  | [] => RepL.nil
  | x :: xs => RepL.cons mk_int (repL_ints xs)
theorem asS_rep {d : D} {v : V} {ds : List D} (w : WOk K mg ρ H S) (r : Rep K mg ρ H d v) (h : asS S d = some ds) : ∃ a vs, v = .ref a ∧ (SqL K H a vs ∨ SqT K H a vs) ∧ RepL K mg ρ H ds vs := by
  cases d with
  | tup xs =>
    unfold asS at h
    cases h
    rw [Rep] at r
    obtain ⟨a, vs, e, t, r⟩ := r
    exact ⟨a, vs, e, .inr t.sq, r⟩
  | scr xs =>
    unfold asS at h
    cases h
    rw [Rep] at r
    obtain ⟨a, e, t⟩ := r
    exact ⟨a, _, e, .inl t.sq, repL_ints xs⟩
  | lst xs =>
    obtain ⟨a, vs, e, h1, h2⟩ := asL_rep w r (show asL S (.lst xs) = some ds from h)
    exact ⟨a, vs, e, .inl (.inl (.inl h1)), h2⟩
  | ptr n =>
    obtain ⟨a, vs, e, h1, h2⟩ := asL_rep w r (show asL S (.ptr n) = some ds from h)
    exact ⟨a, vs, e, .inl (.inl (.inl h1)), h2⟩
  | _ => unfold asS asL at h; cases h
end

/-! ### ints -/
def iiS (g : Int → Int → D) : Sem2 := fun d e S => match d, e with
  | .int i, .int j => .ok (g i j) S
  | _, _ => .bad
def iiC (C : Int → Int → Bool) (g : Int → Int → D) : Sem2 := fun d e S => match d, e with
  | .int i, .int j => if C i j = true then .ok (g i j) S else .bad
  | _, _ => .bad
section
variable {X : Cx}
theorem d_ii {f : Value → Value → Sem Value} {gd : Int → Int → D} {g : Int → Int → V} (o : OpR X f (rI0 g)) (hg : ∀ i j ρ H, Rep X.K X.mg ρ H (gd i j) (g i j)) : OpD X f (iiS gd) := by
  refine ⟨_, o, fun Wp ρ H S d e x y Q w rx ry p => ?_⟩
  unfold iiS at p
  split at p
  · exact ⟨_, _, rep_int rx, rep_int ry, post_ok p w (hg _ _ ρ H)⟩
  · exact p.elim
theorem d_iiC {f : Value → Value → Sem Value} {C : Int → Int → Prop} {Cb : Int → Int → Bool} {gd : Int → Int → D} {g : Int → Int → V} (o : OpR X f (rI C g)) (hC : ∀ i j, Cb i j = true → C i j) (hg : ∀ i j ρ H, Rep X.K X.mg ρ H (gd i j) (g i j)) : OpD X f (iiC Cb gd) := by
  refine ⟨_, o, fun Wp ρ H S d e x y Q w rx ry p => ?_⟩
  unfold iiC at p
  split at p
  · split at p
    · rename_i hc
      exact ⟨_, _, rep_int rx, rep_int ry, hC _ _ hc, post_ok p w (hg _ _ ρ H)⟩
    · exact p.elim
  · exact p.elim
def addI : Sem2 := iiS fun i j => .int (i + j)
def subI : Sem2 := iiS fun i j => .int (i - j)
/-- below a million bits together -/
def mulB (i j : Int) : Bool := decide (i.natAbs.log2 + j.natAbs.log2 < 1000000)
def mulI : Sem2 := iiC mulB fun i j => .int (i * j)
def divB (_ j : Int) : Bool := decide (0 < j ∧ j.natAbs.log2 < 9000)
def divI : Sem2 := iiC divB fun i j => .int (i / j)
def modI : Sem2 := iiC (fun _ j => decide (0 < j)) fun i j => .int (i % j)
def powI : Sem2 := iiC (fun i j => decide (0 ≤ j ∧ j ≤ 1000 ∧ i.natAbs < 2 ^ 60)) fun i j => .int (i ^ j.toNat)
theorem d_addI : OpD X (binaryOp .Add) addI := d_ii op_add fun _ _ _ _ => mk_int
theorem d_subI : OpD X (binaryOp .Sub) subI := d_ii op_sub fun _ _ _ _ => mk_int
theorem d_mulI : OpD X (binaryOp .Mult) mulI := d_iiC op_mulW (fun i j h => of_decide_eq_true (p := i.natAbs.log2 + j.natAbs.log2 < 1000000) h) fun _ _ _ _ => mk_int
theorem d_divI : OpD X (binaryOp .FloorDiv) divI := d_iiC op_fdivW (fun i j h => of_decide_eq_true (p := 0 < j ∧ j.natAbs.log2 < 9000) h) fun _ _ _ _ => mk_int
theorem d_modI : OpD X (binaryOp .Mod) modI := d_iiC op_mod (fun i j h => of_decide_eq_true h) fun _ _ _ _ => mk_int
theorem d_powI : OpD X (binaryOp .Pow) powI := d_iiC op_pow (fun i j h => by
  have h := of_decide_eq_true h
  have h1 : (2 : Nat) ^ 60 < 2 ^ 64 := by decide
  exact ⟨h.1, by omega, by omega⟩) fun _ _ _ _ => mk_int
def ltI : Sem2 := iiS fun i j => .bl (decide (i < j))
def leI : Sem2 := iiS fun i j => .bl (decide (i ≤ j))
def gtI : Sem2 := iiS fun i j => .bl (decide (j < i))
def geI : Sem2 := iiS fun i j => .bl (decide (j ≤ i))
theorem d_ltI : OpD X (compareOp .Lt) ltI := d_ii op_lt fun _ _ _ _ => mk_bl
theorem d_leI : OpD X (compareOp .LtE) leI := d_ii op_le fun _ _ _ _ => mk_bl
theorem d_gtI : OpD X (compareOp .Gt) gtI := d_ii op_gt fun _ _ _ _ => mk_bl
theorem d_geI : OpD X (compareOp .GtE) geI := d_ii op_ge fun _ _ _ _ => mk_bl
def negI : Sem1 := fun d S => match d with
  | .int i => .ok (.int (-i)) S
  | _ => .bad
theorem d_negI : UnD X (unaryOp .USub) negI := by
  refine ⟨_, un_neg, fun Wp ρ H S d x Q w rx p => ?_⟩
  cases d with
  | int i => exact ⟨i, rep_int rx, post_ok p w mk_int⟩
  | _ => exact p.elim

/-! ### texts -/
def addS : Sem2 := fun d e S => match d, e with
  | .str i, .str j => if i.length + j.length ≤ 1000000 then .ok (.str (i ++ j)) S else .bad
  | _, _ => .bad
theorem d_addS : OpD X (binaryOp .Add) addS := by
  refine ⟨_, op_add_str, fun Wp ρ H S d e x y Q w rx ry p => ?_⟩
  unfold addS at p
  split at p
  · split at p
    · rename_i hl
      exact ⟨_, _, rep_str rx, rep_str ry, line_of hl, post_ok p w mk_str⟩
    · exact p.elim
  · exact p.elim
def ltS : Sem2 := fun d e S => match d, e with
  | .str i, .str j => .ok (.bl (decide (i.cps.toList < j.cps.toList))) S
  | _, _ => .bad
theorem d_ltS : OpD X (compareOp .Lt) ltS := by
  refine ⟨_, op_lt_str, fun Wp ρ H S d e x y Q w rx ry p => ?_⟩
  unfold ltS at p
  split at p
  · exact ⟨_, _, rep_str rx, rep_str ry, post_ok p w mk_bl⟩
  · exact p.elim
/-- one sign in a text -/
def inSg (neg : Bool) : Sem2 := fun d e S => match d, e with
  | .str i, .str j => (match i.cps.toList with
    | [c] => .ok (.bl (if neg = true then !decide (c ∈ j.cps.toList) else decide (c ∈ j.cps.toList))) S
    | _ => .bad)
  | _, _ => .bad
theorem str_of_toList {i : Str} {c : Nat} (h : i.cps.toList = [c]) : i = ⟨#[c]⟩ := by
  obtain ⟨a⟩ := i
  have : a = #[c] := by
    have := congrArg List.toArray h
    simpa using this
  rw [this]
theorem d_inSg : OpD X (compareOp .In) (inSg false) := by
  refine ⟨_, op_in_sign, fun Wp ρ H S d e x y Q w rx ry p => ?_⟩
  unfold inSg at p
  split at p
  · split at p
    · rename_i c hc
      have hs := str_of_toList hc
      refine ⟨c, _, ?_, rep_str ry, post_ok p w mk_bl⟩
      rw [rep_str rx, hs]
    · exact p.elim
  · exact p.elim
theorem d_notInSg : OpD X (compareOp .NotIn) (inSg true) := by
  refine ⟨_, op_notIn_sign, fun Wp ρ H S d e x y Q w rx ry p => ?_⟩
  unfold inSg at p
  split at p
  · split at p
    · rename_i c hc
      have hs := str_of_toList hc
      refine ⟨c, _, ?_, rep_str ry, post_ok p w mk_bl⟩
      rw [rep_str rx, hs]
    · exact p.elim
  · exact p.elim

/-! ### == by data -/
mutual
def toP0 : D → Option PyData
  | .non => some .none
  | .bl b => some (.bool b)
  | .int i => some (.int i)
  | .str s => some (.str s)
  | .lst xs => (toPL0 xs).map .list
  | .tup xs => (toPL0 xs).map .tuple
  | _ => none
def toPL0 : List D → Option (List PyData)
  | [] => some []
  | d :: ds => match toP0 d, toPL0 ds with
    | some a, some b => some (a :: b)
    | _, _ => none
end
def toP (S : Store) : D → Option PyData
  | .ptr n => match S[n]? with
    | some (.lst ds) => (toPL0 ds).map .list
    | _ => none
  | d => toP0 d
def eqD (neg : Bool) : Sem2 := fun d e S => match toP S d, toP S e with
  | some a, some b => if SeqAt.shaped a = true ∧ SeqAt.shaped b = true then .ok (.bl (if neg = true then !PyData.eqv a b else PyData.eqv a b)) S else .bad
  | _, _ => .bad
mutual
theorem toP0_rep {K : PySem.W.Frag} {mg : Str → Option Value} {ρ : List Addr} {H : Hp} : ∀ (d : D) (v : V) (p : PyData), Rep K mg ρ H d v → toP0 d = some p → Dp K H v p
  | .non, v, p, r, h => by rw [toP0] at h; cases h; rw [rep_non r]; exact .non
  | .bl b, v, p, r, h => by rw [toP0] at h; cases h; rw [rep_bl r]; exact .bl b
  | .int b, v, p, r, h => by rw [toP0] at h; cases h; rw [rep_int r]; exact .int b
  | .str b, v, p, r, h => by rw [toP0] at h; cases h; rw [rep_str r]; exact .str b
  | .lst xs, v, p, r, h => by
    rw [toP0] at h
    obtain ⟨ys, e1, e2⟩ := Option.map_eq_some_iff.mp h
    subst e2
    rw [Rep] at r
    obtain ⟨a, vs, e, t, r⟩ := r
    subst e
    exact .lst t.sq (toPL0_rep xs vs ys r e1)
  | .tup xs, v, p, r, h => by
    rw [toP0] at h
    obtain ⟨ys, e1, e2⟩ := Option.map_eq_some_iff.mp h
    subst e2
    rw [Rep] at r
    obtain ⟨a, vs, e, t, r⟩ := r
    subst e
    exact .tup t.sq (toPL0_rep xs vs ys r e1)
  | .ty _, v, p, r, h => by rw [toP0] at h; all_goals (first | cases h | (intros; rintro ⟨⟩))
  | .cls _, v, p, r, h => by rw [toP0] at h; all_goals (first | cases h | (intros; rintro ⟨⟩))
  | .dct _ _, v, p, r, h => by rw [toP0] at h; all_goals (first | cases h | (intros; rintro ⟨⟩))
  | .ins _ _ _, v, p, r, h => by rw [toP0] at h; all_goals (first | cases h | (intros; rintro ⟨⟩))
  | .ptr _, v, p, r, h => by rw [toP0] at h; all_goals (first | cases h | (intros; rintro ⟨⟩))
  | .scr _, v, p, r, h => by rw [toP0] at h; all_goals (first | cases h | (intros; rintro ⟨⟩))
  | .exc _ _ _, v, p, r, h => by rw [toP0] at h; all_goals (first | cases h | (intros; rintro ⟨⟩))
  | .lam _ _, v, p, r, h => by rw [toP0] at h; all_goals (first | cases h | (intros; rintro ⟨⟩))
  | .lamc _ _, v, p, r, h => by rw [toP0] at h; all_goals (first | cases h | (intros; rintro ⟨⟩))
theorem toPL0_rep {K : PySem.W.Frag} {mg : Str → Option Value} {ρ : List Addr} {H : Hp} : ∀ (ds : List D) (vs : List V) (ps : List PyData), RepL K mg ρ H ds vs → toPL0 ds = some ps → DpAll K H vs ps
  | [], vs, ps, r, h => by rw [toPL0] at h; cases h; rw [RepL] at r; subst r; exact .nil
  | d :: ds, vs, ps, r, h => by
    rw [toPL0] at h
    split at h
    · rename_i a b ea eb
      cases h
      rw [RepL] at r
      obtain ⟨v, r', e, h1, h2⟩ := r
      subst e
      exact .cons (toP0_rep d v a h1 ea) (toPL0_rep ds r' b h2 eb)
    · cases h
end
theorem toP_rep {K : PySem.W.Frag} {mg : Str → Option Value} {ρ : List Addr} {H : Hp} {S : Store} {d : D} {v : V} {p : PyData} (w : WOk K mg ρ H S) (r : Rep K mg ρ H d v) (h : toP S d = some p) : Dp K H v p := by
  cases d with
  | ptr n =>
    unfold toP at h
    simp only at h
    split at h
    · rename_i ds em
      obtain ⟨ys, e1, e2⟩ := Option.map_eq_some_iff.mp h
      subst e2
      rw [Rep] at r
      obtain ⟨a, e, q⟩ := r
      subst e
      obtain ⟨vs, h1, h2⟩ := w.ob n a _ q em
      exact .lst (.inl (.inl h1)) (toPL0_rep ds vs ys h2 e1)
    · cases h
  | _ => exact toP0_rep _ v p r h
theorem d_eq (hu : X.A.units + 64 < cLine) : OpD X (compareOp .Eq) (eqD false) := by
  refine ⟨_, op_eqD hu, fun Wp ρ H S d e x y Q w rx ry p => ?_⟩
  unfold eqD at p
  split at p
  · rename_i a b ea eb
    split at p
    · rename_i hs
      exact ⟨a, b, toP_rep w rx ea, toP_rep w ry eb, hs.1, hs.2, post_ok p w mk_bl⟩
    · exact p.elim
  · exact p.elim
theorem d_ne (hu : X.A.units + 64 < cLine) : OpD X (compareOp .NotEq) (eqD true) := by
  refine ⟨_, op_neD hu, fun Wp ρ H S d e x y Q w rx ry p => ?_⟩
  unfold eqD at p
  split at p
  · rename_i a b ea eb
    split at p
    · rename_i hs
      exact ⟨a, b, toP_rep w rx ea, toP_rep w ry eb, hs.1, hs.2, post_ok p w mk_bl⟩
    · exact p.elim
  · exact p.elim
/-- is None -/
def isNon : D → Bool
  | .non => true
  | _ => false
def isN (neg : Bool) : Sem2 := fun d e S => match e with
  | .non => .ok (.bl (if neg = true then !isNon d else isNon d)) S
  | _ => .bad
theorem isN_val {K : PySem.W.Frag} {mg : Str → Option Value} {ρ : List Addr} {H : Hp} {d : D} {x : V} (r : Rep K mg ρ H d x) : decide (x = V.non) = isNon d := by
  cases d with
  | non => rw [rep_non r]; rfl
  | bl b => rw [rep_bl r]; rfl
  | int b => rw [rep_int r]; rfl
  | str b => rw [rep_str r]; rfl
  | ty b => rw [rep_ty r]; rfl
  | cls c => rw [Rep] at r; obtain ⟨C, _, e⟩ := r; rw [e]; rfl
  | tup xs => rw [Rep] at r; obtain ⟨a, vs, e, _⟩ := r; rw [e]; rfl
  | lst xs => rw [Rep] at r; obtain ⟨a, vs, e, _⟩ := r; rw [e]; rfl
  | dct ks vs => rw [Rep] at r; obtain ⟨a, _, _, e, _⟩ := r; rw [e]; rfl
  | ins c ns vs => rw [Rep] at r; obtain ⟨a, _, _, _, e, _⟩ := r; rw [e]; rfl
  | ptr n => rw [Rep] at r; obtain ⟨a, e, _⟩ := r; rw [e]; rfl
  | scr xs => rw [Rep] at r; obtain ⟨a, e, _⟩ := r; rw [e]; rfl
  | exc c ns vs => rw [Rep] at r; obtain ⟨a, _, _, _, e, _⟩ := r; rw [e]; rfl
  | lam T c => rw [Rep] at r; obtain ⟨a, e, _⟩ := r; rw [e]; rfl
  | lamc T c => rw [Rep] at r; obtain ⟨a, _, _, e, _⟩ := r; rw [e]; rfl
theorem d_isN : OpD X (compareOp .Is) (isN false) := by
  refine ⟨_, op_isN, fun Wp ρ H S d e x y Q w rx ry p => ?_⟩
  unfold isN at p
  split at p
  · refine ⟨rep_non ry, ?_⟩
    rw [isN_val rx]
    exact post_ok p w mk_bl
  · exact p.elim
theorem d_notN : OpD X (compareOp .IsNot) (isN true) := by
  refine ⟨_, op_notN, fun Wp ρ H S d e x y Q w rx ry p => ?_⟩
  unfold isN at p
  split at p
  · refine ⟨rep_non ry, ?_⟩
    rw [isN_val rx]
    exact post_ok p w mk_bl
  · exact p.elim

/-! ### lists and tuples: +, *, in -/
def addL : Sem2 := fun d e S => match asL S d, asL S e with
  | some a, some b => if a.length + b.length ≤ 1000000 then .ok (.lst (a ++ b)) S else .bad
  | _, _ => .bad
theorem d_addL : OpD X (binaryOp .Add) addL := by
  refine ⟨_, op_cat, fun Wp ρ H S d e x y Q w rx ry p => ?_⟩
  unfold addL at p
  split at p
  · rename_i a b ea eb
    split at p
    · rename_i hl
      obtain ⟨l, vs, e1, h1, r1⟩ := asL_rep w rx ea
      obtain ⟨l2, vs2, e2, h2, r2⟩ := asL_rep w ry eb
      exact ⟨l, l2, vs, vs2, e1, e2, h1, h2, by rw [← r1.len, ← r2.len]; exact line_of hl, fun q hq => post_lst p w (r1.append r2) hq⟩
    · exact p.elim
  · exact p.elim
def addT : Sem2 := fun d e S => match d, e with
  | .tup a, .tup b => if a ≠ [] ∧ b ≠ [] ∧ a.length + b.length ≤ 1000000 then .ok (.tup (a ++ b)) S else .bad
  | _, _ => .bad
theorem d_addT : OpD X (binaryOp .Add) addT := by
  refine ⟨_, op_catT, fun Wp ρ H S d e x y Q w rx ry p => ?_⟩
  unfold addT at p
  split at p
  · rename_i a b
    split at p
    · rename_i hl
      rw [Rep] at rx ry
      obtain ⟨l, vs, e1, h1, r1⟩ := rx
      obtain ⟨l2, vs2, e2, h2, r2⟩ := ry
      have n1 : vs ≠ [] := fun q => hl.1 (List.length_eq_zero_iff.mp (by rw [r1.len, q]; rfl))
      have n2 : vs2 ≠ [] := fun q => hl.2.1 (List.length_eq_zero_iff.mp (by rw [r2.len, q]; rfl))
      exact ⟨l, l2, vs, vs2, e1, e2, h1.sq, h2.sq, n1, by rw [← r1.len, ← r2.len]; exact line_of hl.2.2, fun q => absurd q n2, fun _ q hq => post_tup p w (r1.append r2) hq⟩
    · exact p.elim
  · exact p.elim
def repD (k : Nat) (xs : List D) : List D := (List.replicate k xs).flatten
theorem RepL.rep {K : PySem.W.Frag} {mg : Str → Option Value} {ρ : List Addr} {H : Hp} {ds : List D} {vs : List V} (r : RepL K mg ρ H ds vs) : ∀ k : Nat, RepL K mg ρ H (repD k ds) (List.replicate k vs).flatten
  | 0 => RepL.nil
  | k + 1 => by
    show RepL K mg ρ H (List.replicate (k + 1) ds).flatten _
    rw [List.replicate_succ, List.replicate_succ, List.flatten_cons, List.flatten_cons]
    exact r.append (RepL.rep r k)
def mulL : Sem2 := fun d e S => match asL S d, e with
  | some a, .int k => if k < 1000000 ∧ a.length * k.toNat ≤ 1000000 ∧ -1000000 ≤ k then .ok (.lst (repD k.toNat a)) S else .bad
  | _, _ => .bad
theorem d_mulL : OpD X (binaryOp .Mult) mulL := by
  refine ⟨_, op_rep, fun Wp ρ H S d e x y Q w rx ry p => ?_⟩
  unfold mulL at p
  split at p
  · rename_i a k ea
    split at p
    · rename_i hl
      obtain ⟨l, vs, e1, h1, r1⟩ := asL_rep w rx ea
      exact ⟨l, k, vs, e1, rep_int ry, h1, by omega, by omega, by rw [← r1.len]; exact line_of hl.2.1, fun q hq => post_lst p w (r1.rep k.toNat) hq⟩
    · exact p.elim
  · exact p.elim
/-- as a handle -/
def mulLH : Sem2 := fun d e S => match asL S d, e with
  | some a, .int k => if k < 1000000 ∧ a.length * k.toNat ≤ 1000000 ∧ -1000000 ≤ k then .ok (.ptr S.length) (S ++ [.lst (repD k.toNat a)]) else .bad
  | _, _ => .bad
theorem d_mulLH : OpD X (binaryOp .Mult) mulLH := by
  refine ⟨_, op_rep, fun Wp ρ H S d e x y Q w rx ry p => ?_⟩
  unfold mulLH at p
  split at p
  · rename_i a k ea
    split at p
    · rename_i hl
      obtain ⟨l, vs, e1, h1, r1⟩ := asL_rep w rx ea
      exact ⟨l, k, vs, e1, rep_int ry, h1, by omega, by omega, by rw [← r1.len]; exact line_of hl.2.1, fun q hq => post_lstH p w (r1.rep k.toNat) hq⟩
    · exact p.elim
  · exact p.elim
/-- x in a list or tuple of flat things -/
def flatD : D → Bool
  | .non => true
  | .bl _ => true
  | .int _ => true
  | .str _ => true
  | _ => false
def eqF : D → D → Bool
  | .non, .non => true
  | .bl a, .bl b => a == b
  | .bl a, .int j => (if a then 1 else 0) == j
  | .int i, .bl b => i == (if b then 1 else 0)
  | .int i, .int j => i == j
  | .str x, .str y => x == y
  | _, _ => false
end
end Z
/-! Z5: len, isinstance, all, any, list, tuple, subscripts, slices, texts' methods, dicts, by data. -/
namespace Z
open PySem PySem.Spec L2

section
variable {X : Cx}
/-! ### x in xs, flat -/
def inD (x : D) (xs : List D) : Bool := xs.any fun y => eqF y x
theorem flat_rep {K : PySem.W.Frag} {mg : Str → Option Value} {ρ : List Addr} {H : Hp} {d : D} {v : V} (f : flatD d = true) (r : Rep K mg ρ H d v) : flatV v = true := by
  cases d with
  | non => rw [rep_non r]; rfl
  | bl b => rw [rep_bl r]; rfl
  | int b => rw [rep_int r]; rfl
  | str b => rw [rep_str r]; rfl
  | _ => cases f
theorem eqF_rep {K : PySem.W.Frag} {mg : Str → Option Value} {ρ : List Addr} {H : Hp} {d e : D} {v u : V} (f : flatD d = true) (g : flatD e = true) (r : Rep K mg ρ H d v) (q : Rep K mg ρ H e u) : eqV v u = eqF d e := by
  cases d with
  | non => rw [rep_non r]; cases e with
    | non => rw [rep_non q]; rfl
    | bl b => rw [rep_bl q]; rfl
    | int b => rw [rep_int q]; rfl
    | str b => rw [rep_str q]; rfl
    | _ => cases g
  | bl b => rw [rep_bl r]; cases e with
    | non => rw [rep_non q]; rfl
    | bl b => rw [rep_bl q]; rfl
    | int b => rw [rep_int q]; rfl
    | str b => rw [rep_str q]; rfl
    | _ => cases g
  | int b => rw [rep_int r]; cases e with
    | non => rw [rep_non q]; rfl
    | bl b => rw [rep_bl q]; rfl
    | int b => rw [rep_int q]; rfl
    | str b => rw [rep_str q]; rfl
    | _ => cases g
  | str b => rw [rep_str r]; cases e with
    | non => rw [rep_non q]; rfl
    | bl b => rw [rep_bl q]; rfl
    | int b => rw [rep_int q]; rfl
    | str b => rw [rep_str q]; rfl
    | _ => cases g
  | _ => cases f
theorem in_rep {K : PySem.W.Frag} {mg : Str → Option Value} {ρ : List Addr} {H : Hp} {x : D} {v : V} (f : flatD x = true) (r : Rep K mg ρ H x v) : ∀ {ds : List D} {vs : List V}, RepL K mg ρ H ds vs → ds.all flatD = true → vs.all flatV = true ∧ inV v vs = inD x ds
  | [], _, h, _ => by rw [RepL] at h; subst h; exact ⟨rfl, rfl⟩
  | d :: ds, _, h, a => by
    rw [RepL] at h
    obtain ⟨u, r', e, h1, h2⟩ := h
    subst e
    rw [List.all_cons, Bool.and_eq_true] at a
    obtain ⟨i1, i2⟩ := in_rep f r h2 a.2
    refine ⟨by rw [List.all_cons, flat_rep a.1 h1, i1]; rfl, ?_⟩
    show (eqV u v || inV v r') = (eqF d x || inD x ds)
    rw [i2, eqF_rep a.1 f h1 r]
def inSq (neg : Bool) : Sem2 := fun d e S => match asS S e with
  | some ds => if flatD d = true ∧ ds.all flatD = true then .ok (.bl (if neg = true then !inD d ds else inD d ds)) S else .bad
  | none => .bad
theorem d_inSq : OpD X (compareOp .In) (inSq false) := by
  refine ⟨_, op_in_seq, fun Wp ρ H S d e x y Q w rx ry p => ?_⟩
  unfold inSq at p
  split at p
  · rename_i ds ea
    split at p
    · rename_i hf
      obtain ⟨a, vs, e1, h1, r1⟩ := asS_rep w ry ea
      obtain ⟨i1, i2⟩ := in_rep hf.1 rx r1 hf.2
      refine ⟨a, vs, e1, h1, flat_rep hf.1 rx, i1, ?_⟩
      rw [i2]
      exact post_ok p w mk_bl
    · exact p.elim
  · exact p.elim
theorem d_notInSq : OpD X (compareOp .NotIn) (inSq true) := by
  refine ⟨_, op_notIn_seq, fun Wp ρ H S d e x y Q w rx ry p => ?_⟩
  unfold inSq at p
  split at p
  · rename_i ds ea
    split at p
    · rename_i hf
      obtain ⟨a, vs, e1, h1, r1⟩ := asS_rep w ry ea
      obtain ⟨i1, i2⟩ := in_rep hf.1 rx r1 hf.2
      refine ⟨a, vs, e1, h1, flat_rep hf.1 rx, i1, ?_⟩
      rw [i2]
      exact post_ok p w mk_bl
    · exact p.elim
  · exact p.elim

/-! ### len -/
def semLen : SemL := fun ds S => match ds with
  | [.str s] => if s.length ≤ 1000000 then .ok (.int s.length) S else .bad
  | [d] => (match asS S d with
    | some xs => .ok (.int xs.length) S
    | none => .bad)
  | _ => .bad
theorem d_len : CallD X (.builtin "len") semLen := by
  refine ⟨_, call_len, fun Wp ρ H S ds xs Q w r p => ?_⟩
  match ds, r, p with
  | [d], r, p =>
    rw [RepL] at r
    obtain ⟨v, r', e, h1, h2⟩ := r
    rw [RepL] at h2
    subst h2 e
    have go : ∀ ys, asS S d = some ys → PostE X.K X.mg Wp ρ H Q (.ok (.int ys.length) S) → ∃ x n, [v] = [x] ∧ LenV X.K x H n ∧ Q (.int n) H := fun ys ea p => by
      obtain ⟨a, vs, e1, h3, r1⟩ := asS_rep w h1 ea
      subst e1
      refine ⟨_, vs.length, rfl, ?_, by rw [← r1.len]; exact post_ok p w mk_int⟩
      rcases h3 with h3 | h3
      · exact .inl ⟨vs, h3, rfl⟩
      · exact .inr ⟨vs, h3, rfl⟩
    cases d with
    | str s =>
      unfold semLen at p
      simp only at p
      split at p
      · rename_i hl
        exact ⟨.str s, s.length, by rw [rep_str h1], ⟨line_of hl, rfl⟩, post_ok p w mk_int⟩
      · exact p.elim
    | tup xs => exact go xs rfl p
    | lst xs => exact go xs rfl p
    | scr xs => exact go _ rfl p
    | ptr n =>
      have p : PostE X.K X.mg Wp ρ H Q (match asS S (.ptr n) with
        | some xs => .ok (.int xs.length) S
        | none => .bad) := p
      split at p
      · rename_i ys ey
        exact go ys ey p
      · exact p.elim
    | _ => exact p.elim
  | [], _, p => exact p.elim
  | d :: _ :: _, _, p => cases d <;> exact p.elim

/-! ### isinstance of built-in types -/
inductive Kd where
  | non | bl | int | str | tup | lst | dct
  deriving DecidableEq
def Kd.name : Kd → String
  | .non => "NoneType"
  | .bl => "bool"
  | .int => "int"
  | .str => "str"
  | .tup => "tuple"
  | .lst => "list"
  | .dct => "dict"
def kdOf (S : Store) : D → Option Kd
  | .non => some .non
  | .bl _ => some .bl
  | .int _ => some .int
  | .str _ => some .str
  | .tup _ => some .tup
  | .lst _ => some .lst
  | .scr _ => some .lst
  | .dct _ _ => some .dct
  | .ptr n => match S[n]? with
    | some (.lst _) => some .lst
    | some (.dct _ _ _) => some .dct
    | _ => none
  | _ => none
def isKd (k : Kd) (T : String) : Option Bool :=
  if T = "int" then some (k = .int ∨ k = .bl) else if T = "bool" then some (k = .bl) else if T = "str" then some (k = .str) else if T = "list" then some (k = .lst) else if T = "tuple" then some (k = .tup) else if T = "dict" then some (k = .dct) else none
theorem isKd_kit {K : PySem.W.Frag} {k : Kd} {T : String} {b : Bool} (h : isKd k T = some b) : PySem.W.kitOne K (.type k.name) (.type T) = some b := by
  unfold isKd at h
  split at h
  · rename_i e; subst e; cases h; cases k <;> exact kit_ty (by decide +kernel)
  split at h
  · rename_i e; subst e; cases h; cases k <;> exact kit_ty (by decide +kernel)
  split at h
  · rename_i e; subst e; cases h; cases k <;> exact kit_ty (by decide +kernel)
  split at h
  · rename_i e; subst e; cases h; cases k <;> exact kit_ty (by decide +kernel)
  split at h
  · rename_i e; subst e; cases h; cases k <;> exact kit_ty (by decide +kernel)
  split at h
  · rename_i e; subst e; cases h; cases k <;> exact kit_ty (by decide +kernel)
  · cases h
theorem kd_rep {K : PySem.W.Frag} {mg : Str → Option Value} {ρ : List Addr} {H : Hp} {S : Store} {d : D} {v : V} {k : Kd} (w : WOk K mg ρ H S) (r : Rep K mg ρ H d v) (h : kdOf S d = some k) : TyX K H v (.type k.name) := by
  cases d with
  | non => cases h; rw [rep_non r]; exact .base .non
  | bl b => cases h; rw [rep_bl r]; exact .base (.bl b)
  | int b => cases h; rw [rep_int r]; exact .base (.int b)
  | str b => cases h; rw [rep_str r]; exact .base (.str b)
  | tup xs =>
    cases h
    rw [Rep] at r
    obtain ⟨a, vs, e, t, _⟩ := r
    subst e
    rcases t with ⟨_, t⟩ | ⟨o, its, n, hk, hc, _⟩
    · exact .base (.tup t)
    · exact .kTuple hk hc
  | lst xs =>
    cases h
    rw [Rep] at r
    obtain ⟨a, vs, e, t, _⟩ := r
    subst e
    exact .base (.lst t.2)
  | scr xs =>
    cases h
    rw [Rep] at r
    obtain ⟨a, e, t⟩ := r
    subst e
    rcases t with ⟨_, t | ⟨o, t⟩⟩ | ⟨o, its, n, hk, hc, _⟩
    · exact .base (.lst t)
    · exact .base (.frz t)
    · exact .kList hk hc
  | dct ks vs =>
    cases h
    rw [Rep] at r
    obtain ⟨a, kv, vs, e, ⟨_, kvs, t, _⟩, _⟩ := r
    subst e
    rcases t with t | ⟨o, t⟩
    · exact .base (.dK t)
    · exact .fDict t
  | ptr n =>
    rw [Rep] at r
    obtain ⟨a, e, q⟩ := r
    subst e
    unfold kdOf at h
    simp only at h
    split at h
    · rename_i xs em
      cases h
      obtain ⟨vs, h1, _⟩ := w.ob n a _ q em
      exact .base (.lst h1)
    · rename_i lk ks vs em
      cases h
      obtain ⟨kvs, h1, _⟩ := w.ob n a _ q em
      cases lk with
      | true =>
        rw [if_pos rfl] at h1
        rcases h1 with t | ⟨o, t⟩
        · exact .base (.dK t)
        · exact .fDict t
      | false =>
        rw [if_neg Bool.false_ne_true] at h1
        exact .base (.dK h1)
    · cases h
  | _ => unfold kdOf at h; cases h
def semIsi : SemL := fun ds S => match ds with
  | [d, .ty T] => (match kdOf S d with
    | some k => (match isKd k T with
      | some b => .ok (.bl b) S
      | none => .bad)
    | none => .bad)
  | _ => .bad
theorem d_isi : CallD X (.builtin "isinstance") semIsi := by
  refine ⟨_, call_isi, fun Wp ρ H S ds xs Q w r p => ?_⟩
  unfold semIsi at p
  split at p
  · rename_i d T
    split at p
    · rename_i k ek
      split at p
      · rename_i b eb
        rw [RepL] at r
        obtain ⟨v, r', e, h1, h2⟩ := r
        rw [RepL] at h2
        obtain ⟨u, r2, e2, h3, h4⟩ := h2
        rw [RepL] at h4
        subst h4 e2 e
        rw [rep_ty h3]
        exact ⟨v, .ty T, _, .type T, b, rfl, .ty T, kd_rep w h1 ek, isKd_kit eb, post_ok p w mk_bl⟩
      · exact p.elim
    · exact p.elim
  · exact p.elim
/-- a tuple of types -/
def tysOf : List D → Option (List String)
  | [] => some []
  | .ty T :: r => (tysOf r).map (T :: ·)
  | _ :: _ => none
def isKds (k : Kd) : List String → Option Bool
  | [] => some false
  | T :: r => match isKd k T, isKds k r with
    | some b, some c => some (b || c)
    | _, _ => none
def semIsiT : SemL := fun ds S => match ds with
  | [d, .tup ts] => (match kdOf S d, tysOf ts with
    | some k, some Ts => (match isKds k Ts with
      | some b => .ok (.bl b) S
      | none => .bad)
    | _, _ => .bad)
  | _ => .bad
theorem tys_rep {K : PySem.W.Frag} {mg : Str → Option Value} {ρ : List Addr} {H : Hp} : ∀ {ts : List D} {Ts : List String} {vs : List V}, tysOf ts = some Ts → RepL K mg ρ H ts vs → Paired ClsV vs (Ts.map Value.type)
  | [], _, _, e, r => by cases e; rw [RepL] at r; subst r; exact .nil
  | .ty T :: ts, _, _, e, r => by
    rw [tysOf] at e
    obtain ⟨ys, e1, e2⟩ := Option.map_eq_some_iff.mp e
    subst e2
    rw [RepL] at r
    obtain ⟨v, r', e', h1, h2⟩ := r
    subst e'
    rw [rep_ty h1]
    exact .cons (.ty T) (tys_rep e1 h2)
  | .non :: _, _, _, e, _ => by cases e
  | .bl _ :: _, _, _, e, _ => by cases e
  | .int _ :: _, _, _, e, _ => by cases e
  | .str _ :: _, _, _, e, _ => by cases e
  | .cls _ :: _, _, _, e, _ => by cases e
  | .tup _ :: _, _, _, e, _ => by cases e
  | .lst _ :: _, _, _, e, _ => by cases e
  | .dct _ _ :: _, _, _, e, _ => by cases e
  | .ins _ _ _ :: _, _, _, e, _ => by cases e
  | .ptr _ :: _, _, _, e, _ => by cases e
  | .scr _ :: _, _, _, e, _ => by cases e
  | .exc _ _ _ :: _, _, _, e, _ => by cases e
  | .lam _ _ :: _, _, _, e, _ => by cases e
  | .lamc _ _ :: _, _, _, e, _ => by cases e
theorem isKds_kit {K : PySem.W.Frag} {k : Kd} : ∀ {Ts : List String} {b : Bool}, isKds k Ts = some b → PySem.W.kitAny K (.type k.name) (Ts.map Value.type) = some b
  | [], b, h => by cases h; exact kitAny_nil
  | T :: Ts, b, h => by
    rw [isKds] at h
    split at h
    · rename_i x y ex ey
      cases h
      refine kitAny_cons (isKd_kit ex) (fun q => ?_) (fun q => by rw [q]; rfl)
      rw [q, Bool.false_or]
      exact isKds_kit ey
    · cases h
theorem d_isiT : CallD X (.builtin "isinstance") semIsiT := by
  refine ⟨_, CallR.or call_isiT call_isiK, fun Wp ρ H S ds xs Q w r p => ?_⟩
  unfold semIsiT at p
  split at p
  · rename_i d ts
    split at p
    · rename_i k Ts ek et
      split at p
      · rename_i b eb
        rw [RepL] at r
        obtain ⟨v, r', e, h1, h2⟩ := r
        rw [RepL] at h2
        obtain ⟨u, r2, e2, h3, h4⟩ := h2
        rw [RepL] at h4
        subst h4 e2 e
        rw [Rep] at h3
        obtain ⟨a, vs, e3, t, rl⟩ := h3
        subst e3
        rcases t with ⟨_, t⟩ | ⟨o, its, n, hk, hc, hd, hz, hv⟩
        · exact .inl ⟨v, a, vs, _, _, b, rfl, t, tys_rep et rl, kd_rep w h1 ek, isKds_kit eb, post_ok p w mk_bl⟩
        · refine .inr ⟨v, a, o.dict, Ts.map Value.type, n, o.slots, _, b, rfl, ?_, kd_rep w h1 ek, isKds_kit eb, post_ok p w mk_bl⟩
          have e4 := ClsV.all (tys_rep et rl) hv
          rw [hk, ← e4]
          obtain ⟨c, dd, dt, sl⟩ := o
          simp only at hc hd
          subst hc hd
          simp
      · exact p.elim
    · exact p.elim
  · exact p.elim

/-! ### all, any of a list of truth values -/
def boolsOf : List D → Option (List Bool)
  | [] => some []
  | .bl b :: r => (boolsOf r).map (b :: ·)
  | _ :: _ => none
theorem bools_eq : ∀ {ds : List D} {bs : List Bool}, boolsOf ds = some bs → ds = bs.map D.bl
  | [], _, e => by cases e; rfl
  | .bl b :: r, _, e => by
    rw [boolsOf] at e
    obtain ⟨ys, e1, e2⟩ := Option.map_eq_some_iff.mp e
    subst e2
    rw [bools_eq e1]; rfl
  | .non :: _, _, e => by cases e
  | .ty _ :: _, _, e => by cases e
  | .int _ :: _, _, e => by cases e
  | .str _ :: _, _, e => by cases e
  | .cls _ :: _, _, e => by cases e
  | .tup _ :: _, _, e => by cases e
  | .lst _ :: _, _, e => by cases e
  | .dct _ _ :: _, _, e => by cases e
  | .ins _ _ _ :: _, _, e => by cases e
  | .ptr _ :: _, _, e => by cases e
  | .scr _ :: _, _, e => by cases e
  | .exc _ _ _ :: _, _, e => by cases e
  | .lam _ _ :: _, _, e => by cases e
  | .lamc _ _ :: _, _, e => by cases e
theorem boolsOf_map : ∀ bs : List Bool, boolsOf (bs.map D.bl) = some bs
  | [] => rfl
  | b :: bs => by rw [List.map_cons, boolsOf, boolsOf_map bs]; rfl
theorem repL_bools {K : PySem.W.Frag} {mg : Str → Option Value} {ρ : List Addr} {H : Hp} : ∀ {bs : List Bool} {vs : List V}, RepL K mg ρ H (bs.map D.bl) vs → vs = bs.map V.bl
  | [], _, r => by rw [List.map_nil, RepL] at r; exact r
  | b :: bs, _, r => by
    rw [List.map_cons, RepL] at r
    obtain ⟨v, r', e, h1, h2⟩ := r
    rw [e, rep_bl h1, repL_bools h2]; rfl
def semAll : SemL := fun ds S => match ds with
  | [d] => (match asL S d with
    | some xs => (match boolsOf xs with
      | some bs => .ok (.bl (bs.all id)) S
      | none => .bad)
    | none => .bad)
  | _ => .bad
def semAny : SemL := fun ds S => match ds with
  | [d] => (match asL S d with
    | some xs => (match boolsOf xs with
      | some bs => .ok (.bl (bs.any id)) S
      | none => .bad)
    | none => .bad)
  | _ => .bad
theorem d_all (hc : X.calm = true) : CallD X (.builtin "all") semAll := by
  refine ⟨_, cr_all hc, fun Wp ρ H S ds xs Q w r p => ?_⟩
  unfold semAll at p
  split at p
  · rename_i d
    split at p
    · rename_i ys ey
      split at p
      · rename_i bs eb
        rw [RepL] at r
        obtain ⟨v, r', e, h1, h2⟩ := r
        rw [RepL] at h2
        subst h2 e
        obtain ⟨a, vs, e1, h3, r1⟩ := asL_rep w h1 ey
        subst e1
        rw [bools_eq eb] at r1
        rw [repL_bools r1] at h3
        exact ⟨a, bs, rfl, .inl (.inl h3), post_ok p w mk_bl⟩
      · exact p.elim
    · exact p.elim
  · exact p.elim
theorem d_any (hc : X.calm = true) : CallD X (.builtin "any") semAny := by
  refine ⟨_, cr_any hc, fun Wp ρ H S ds xs Q w r p => ?_⟩
  unfold semAny at p
  split at p
  · rename_i d
    split at p
    · rename_i ys ey
      split at p
      · rename_i bs eb
        rw [RepL] at r
        obtain ⟨v, r', e, h1, h2⟩ := r
        rw [RepL] at h2
        subst h2 e
        obtain ⟨a, vs, e1, h3, r1⟩ := asL_rep w h1 ey
        subst e1
        rw [bools_eq eb] at r1
        rw [repL_bools r1] at h3
        exact ⟨a, bs, rfl, .inl (.inl h3), post_ok p w mk_bl⟩
      · exact p.elim
    · exact p.elim
  · exact p.elim

/-! ### list(xs), tuple(xs), int(n) -/
def semListOf : SemL := fun ds S => match ds with
  | [d] => (match asS S d with
    | some xs => .ok (.lst xs) S
    | none => .bad)
  | _ => .bad
def semListOfH : SemL := fun ds S => match ds with
  | [d] => (match asS S d with
    | some xs => .ok (.ptr S.length) (S ++ [.lst xs])
    | none => .bad)
  | _ => .bad
def semTupOf : SemL := fun ds S => match ds with
  | [.tup xs] => .ok (.tup xs) S
  | [d] => (match asL S d with
    | some xs => .ok (.tup xs) S
    | none => .bad)
  | _ => .bad
theorem repL_one {K : PySem.W.Frag} {mg : Str → Option Value} {ρ : List Addr} {H : Hp} {d : D} {xs : List V} (r : RepL K mg ρ H [d] xs) : ∃ v, xs = [v] ∧ Rep K mg ρ H d v := by
  rw [RepL] at r
  obtain ⟨v, r', e, h1, h2⟩ := r
  rw [RepL] at h2
  subst h2
  exact ⟨v, e, h1⟩
theorem repL_two {K : PySem.W.Frag} {mg : Str → Option Value} {ρ : List Addr} {H : Hp} {d e : D} {xs : List V} (r : RepL K mg ρ H [d, e] xs) : ∃ v u, xs = [v, u] ∧ Rep K mg ρ H d v ∧ Rep K mg ρ H e u := by
  rw [RepL] at r
  obtain ⟨v, r', e', h1, h2⟩ := r
  obtain ⟨u, e2, h3⟩ := repL_one h2
  exact ⟨v, u, by rw [e', e2], h1, h3⟩
theorem d_listOf : CallD X (.type "list") semListOf := by
  refine ⟨_, call_list_of, fun Wp ρ H S ds xs Q w r p => ?_⟩
  unfold semListOf at p
  split at p
  · split at p
    · rename_i ys ey
      obtain ⟨v, e, h1⟩ := repL_one r
      obtain ⟨a, vs, e1, h3, r1⟩ := asS_rep w h1 ey
      exact ⟨a, vs, by rw [e, e1], h3, fun l hl => post_lst p w r1 hl⟩
    · exact p.elim
  · exact p.elim
theorem d_listOfH : CallD X (.type "list") semListOfH := by
  refine ⟨_, call_list_of, fun Wp ρ H S ds xs Q w r p => ?_⟩
  unfold semListOfH at p
  split at p
  · split at p
    · rename_i ys ey
      obtain ⟨v, e, h1⟩ := repL_one r
      obtain ⟨a, vs, e1, h3, r1⟩ := asS_rep w h1 ey
      exact ⟨a, vs, by rw [e, e1], h3, fun l hl => post_lstH p w r1 hl⟩
    · exact p.elim
  · exact p.elim
theorem d_tupOf : CallD X (.type "tuple") semTupOf := by
  refine ⟨_, call_tuple_of, fun Wp ρ H S ds xs Q w r p => ?_⟩
  match ds, r, p with
  | [d], r, p =>
    obtain ⟨v, e, h1⟩ := repL_one r
    have go : ∀ ys, asL S d = some ys → PostE X.K X.mg Wp ρ H Q (.ok (.tup ys) S) → ∃ p ys, xs = [.ref p] ∧ ((SqL X.K H p ys ∧ ∀ l, H l = none → Q (.ref l) (upd H l (.tup ys))) ∨ (SqT X.K H p ys ∧ Q (.ref p) H)) := fun ys ey p => by
      obtain ⟨a, vs, e1, h3, r1⟩ := asL_rep w h1 ey
      exact ⟨a, vs, by rw [e, e1], .inl ⟨.inl (.inl h3), fun l hl => post_tup p w r1 hl⟩⟩
    cases d with
    | tup ys =>
      have h1' := h1
      rw [Rep] at h1
      obtain ⟨a, vs, e1, t, r1⟩ := h1
      exact ⟨a, vs, by rw [e, e1], .inr ⟨t.sq, by rw [← e1]; exact post_ok p w h1'⟩⟩
    | lst ys => exact go ys rfl p
    | ptr n =>
      have p : PostE X.K X.mg Wp ρ H Q (match asL S (.ptr n) with
        | some xs => .ok (.tup xs) S
        | none => .bad) := p
      split at p
      · rename_i ys ey
        exact go ys ey p
      · exact p.elim
    | _ => exact p.elim
  | [], _, p => exact p.elim
  | d :: _ :: _, _, p => cases d <;> exact p.elim
def semInt : SemL := fun ds S => match ds with
  | [.int i] => .ok (.int i) S
  | [.bl b] => .ok (.int (if b = true then 1 else 0)) S
  | _ => .bad
theorem d_int : CallD X (.type "int") semInt := by
  refine ⟨_, call_int1, fun Wp ρ H S ds xs Q w r p => ?_⟩
  unfold semInt at p
  split at p
  · obtain ⟨v, e, h1⟩ := repL_one r
    rw [rep_int h1] at e
    exact .inl ⟨_, e, post_ok p w mk_int⟩
  · obtain ⟨v, e, h1⟩ := repL_one r
    rw [rep_bl h1] at e
    exact .inr ⟨_, e, post_ok p w mk_int⟩
  · exact p.elim

/-! ### subscripts -/
structure IxD (X : Cx) (sem : Sem2) : Prop where
  go : ∃ r : R2, IxR X r ∧ ∀ (Wp : Value → Option Addr → Hp → Prop) (ρ : List Addr) (H : Hp) (S : Store) (d e : D) (x y : V) (Q : VK), WOk X.K X.mg ρ H S → Rep X.K X.mg ρ H d x → Rep X.K X.mg ρ H e y → PostE X.K X.mg Wp ρ H Q (sem d e S) → r x y H Q
theorem IxD.or {s t : Sem2} (h : IxD X s) (h' : IxD X t) : IxD X (orS2 s t) := by
  obtain ⟨r, o, g⟩ := h.go
  obtain ⟨r', o', g'⟩ := h'.go
  refine ⟨_, o.or o', fun Wp ρ H S d e x y Q w rx ry p => ?_⟩
  unfold orS2 at p
  cases q : s d e S with
  | bad => rw [q] at p; exact .inr (g' Wp ρ H S d e x y Q w rx ry p)
  | ok a S' => rw [q] at p; exact .inl (g Wp ρ H S d e x y Q w rx ry (by rw [q]; exact p))
  | ex a S' => rw [q] at p; exact .inl (g Wp ρ H S d e x y Q w rx ry (by rw [q]; exact p))
variable {W : WX} {a b : Expr} {fa fb : EX} {pos : Pos}
theorem r_ix {sem : Sem2} (ho : IxD X sem) (ha : E X W a fa) (hb : E X W b fb) (hs : PlainIx b := by exact fun _ _ => rfl) : E X W (.Subscript a b pos) (eBin sem fa fb) := by
  obtain ⟨r, o, g⟩ := ho.go
  exact PE.imp (pe_ix o ha hb hs) fun σ H Q h => bin_imp h fun ρ S H2 d e x y w rx ry p => g _ ρ H2 S d e x y Q w rx ry p
/-- a place among n, also from behind -/
def ixSeq : Sem2 := fun d e S => match e with
  | .int i => (match d with
    | .str s => if s.length ≤ 1000000 then (match atI s.cps.toList i with
      | some c => .ok (.str ⟨#[c]⟩) S
      | none => .bad) else .bad
    | d => (match asS S d with
      | some xs => (match atI xs i with
        | some x => .ok x S
        | none => .bad)
      | none => .bad))
  | _ => .bad
theorem atI_rep {K : PySem.W.Frag} {mg : Str → Option Value} {ρ : List Addr} {H : Hp} {ds : List D} {vs : List V} {i : Int} {d : D} (r : RepL K mg ρ H ds vs) (h : atI ds i = some d) : ∃ v, atI vs i = some v ∧ Rep K mg ρ H d v := by
  unfold atI at h ⊢
  rw [← r.len]
  cases q : ixN ds.length i with
  | none => rw [q] at h; cases h
  | some j =>
    rw [q] at h
    exact r.get h
theorem d_ixSeq : IxD X ixSeq := by
  refine ⟨_, ix_seq, fun Wp ρ H S d e x y Q w rx ry p => ?_⟩
  unfold ixSeq at p
  split at p
  · rename_i i
    have hy := rep_int ry
    have go : ∀ xs, asS S d = some xs → PostE X.K X.mg Wp ρ H Q (match atI xs i with
        | some x => .ok x S
        | none => .bad) → rIx X.K x y H Q := fun xs ea p => by
      split at p
      · rename_i z ez
        obtain ⟨a, vs, e1, h3, r1⟩ := asS_rep w rx ea
        obtain ⟨v, h4, h5⟩ := atI_rep r1 ez
        rcases h3 with h3 | h3
        · exact .inl ⟨a, vs, i, v, e1, hy, h3, h4, post_ok p w h5⟩
        · exact .inr (.inl ⟨a, vs, i, v, e1, hy, h3, h4, post_ok p w h5⟩)
      · exact p.elim
    cases d with
    | str s =>
      simp only at p
      split at p
      · rename_i hl
        split at p
        · rename_i c ec
          exact .inr (.inr ⟨s, i, c, rep_str rx, hy, line_of hl, ec, post_ok p w mk_str⟩)
        · exact p.elim
      · exact p.elim
    | tup xs => exact go xs rfl p
    | lst xs => exact go xs rfl p
    | scr xs => exact go _ rfl p
    | ptr n =>
      simp only at p
      split at p
      · rename_i ys ey
        exact go ys ey p
      · exact p.elim
    | _ => exact p.elim
  · exact p.elim
end
end Z
/-! Za: zip of any two, enumerate of any (lists, tuples, texts). -/
namespace Za
open PySem PySem.Spec PyProof.Rows L2

inductive Src where
  | L (a : Addr)
  | T (a : Addr)
  | S (x : Str)
def Src.val : Src → V
  | .L a => .ref a
  | .T a => .ref a
  | .S x => .str x
def Src.At (K : PySem.W.Frag) (H : Hp) : Src → List V → Prop
  | .L a, vs => SqL K H a vs
  | .T a, vs => SqT K H a vs
  | .S x, vs => vs = x.cps.toList.map fun c => V.str ⟨#[c]⟩
def Src.It (h : Heap) (it : Addr) : Src → Nat → Prop
  | .L a, i => h.IsListIter it a i
  | .T a, i => h.IsTupleIter it a i
  | .S x, i => ∃ t, h.IsStrIter it (strIterType x) x t i
def Src.adr : Src → Option Addr
  | .L a => some a
  | .T a => some a
  | .S _ => none
theorem Src.It.obj {h : Heap} {it : Addr} {i : Nat} : ∀ {s : Src}, s.It h it i → ∃ o, h.get? it = some o ∧ ∀ v, o.data ≠ .cell v
  | .L a, st => by obtain ⟨o, e, _, d⟩ := st; exact ⟨o, e, fun v q => by rw [d] at q; cases q⟩
  | .T a, st => by obtain ⟨o, e, _, d⟩ := st; exact ⟨o, e, fun v q => by rw [d] at q; cases q⟩
  | .S x, st => by obtain ⟨t, o, e, _, d⟩ := st; exact ⟨o, e, fun v q => by rw [d] at q; cases q⟩
theorem Src.It.keep {h h' : Heap} {it : Addr} {i : Nat} (k : ∀ o, h.get? it = some o → h'.get? it = some o) : ∀ {s : Src}, s.It h it i → s.It h' it i
  | .L a, st => st.at k
  | .T a, st => st.at k
  | .S x, st => by obtain ⟨t, o, e, r⟩ := st; exact ⟨t, o, k o e, r⟩
theorem pr_get' {vs : List V} {its : List Value} (r : Vals vs its) {j : Nat} {v : Value} (e : its[j]? = some v) : ∃ x, vs[j]? = some x ∧ RelV x v := by
  have hl := r.length
  have hj := (List.getElem?_eq_some_iff.mp e).1
  have hx : vs[j]? = some (vs[j]'(by omega)) := by simp
  obtain ⟨u, h1, h2⟩ := r.get hx
  rw [e] at h1
  cases h1
  exact ⟨_, hx, h2⟩
section
variable {X : Cx} {pins : List (Addr × Obj)} {σ : L2.St} {H : Hp} {s : Shared}
theorem at_inj (I : Inv X pins σ H s) : ∀ {c : Src} {xs ys : List V}, c.At X.K H xs → c.At X.K H ys → xs = ys
  | .L a, _, _, h, h' => I.list_inj h h'
  | .T a, _, _, h, h' => I.tuple_inj h h'
  | .S x, _, _, h, h' => Eq.trans h (Eq.symm h')
/-- what a source draws at this state -/
theorem draws (I : Inv X pins σ H s) {A : Around} (hh : A.handled = none) {c : Src} {vs : List V} {i : Nat} {it : Addr} (ha : c.At X.K H vs) (hi : c.It s.heap it i) (hn : c.adr ≠ some it) :
    ∃ (fp : List Addr) (P : Nat → Value → Prop) (St : Nat → Heap → Prop), Draws X.prog X.w A it fp vs.length P St ∧ St i s.heap ∧ (∀ j v, P j v → ∃ x, vs[j]? = some x ∧ RelV x v) ∧ it ∈ fp ∧ (∀ b ∈ fp, b = it ∨ c.adr = some b) ∧ ∀ j h, St j h → c.It h it j := by
  cases c with
  | L a =>
    obtain ⟨its, rv, p, _⟩ := I.list ha
    have hl : its.toArray.size = vs.length := by rw [List.size_toArray]; exact rv.length.symm
    refine ⟨[it, a], _, _, hl ▸ Draws.list hh it a (fun e => hn (by rw [← e]; rfl)) its.toArray, ⟨hi, p.isList⟩, fun j v q => ?_, by simp, fun b hb => ?_, fun j h st => st.1⟩
    · have q : its[j]? = some v := by simpa using q
      exact pr_get' rv q
    · rcases List.mem_cons.mp hb with e | e
      · exact .inl e
      · exact .inr (by rw [List.mem_singleton.mp e]; rfl)
  | T a =>
    obtain ⟨its, rv, p, _⟩ := I.tuple ha
    have hl : its.toArray.size = vs.length := by rw [List.size_toArray]; exact rv.length.symm
    refine ⟨[it, a], _, _, hl ▸ Draws.tuple hh it a (fun e => hn (by rw [← e]; rfl)) its.toArray, ⟨hi, p⟩, fun j v q => ?_, by simp, fun b hb => ?_, fun j h st => st.1⟩
    · have q : its[j]? = some v := by simpa using q
      exact pr_get' rv q
    · rcases List.mem_cons.mp hb with e | e
      · exact .inl e
      · exact .inr (by rw [List.mem_singleton.mp e]; rfl)
  | S x =>
    obtain ⟨t, hi⟩ := hi
    have ha : vs = x.cps.toList.map fun c => V.str ⟨#[c]⟩ := ha
    have hl : x.cps.size = vs.length := by rw [ha]; simp
    refine ⟨[it], _, _, hl ▸ Draws.text hh it x t, hi, fun j v q => ?_, by simp, fun b hb => .inl (by simpa using hb), fun j h st => ⟨t, st⟩⟩
    obtain ⟨c, u, e, q⟩ := q
    subst q
    exact ⟨.str ⟨#[c]⟩, by rw [ha]; simp [e], u, rfl⟩
theorem begins (I : Inv X pins σ H s) {c : Src} {vs : List V} {u : Value} (ha : c.At X.K H vs) (r : RelV c.val u) : ∃ (o : Obj) (B : Heap → Prop), Begins u o B ∧ B s.heap ∧ ∀ h it, h.get? it = some o → c.It h it 0 := by
  cases c with
  | L a =>
    obtain ⟨its, rv, p, _⟩ := I.list ha
    obtain rfl : u = Value.ref a := r
    exact ⟨_, _, begins_list a its.toArray, p.isList, fun h it e => ⟨_, e, rfl, rfl⟩⟩
  | T a =>
    obtain ⟨its, rv, p, _⟩ := I.tuple ha
    obtain rfl : u = Value.ref a := r
    exact ⟨_, _, begins_tuple a its.toArray, p, fun h it e => ⟨_, e, rfl, rfl⟩⟩
  | S x =>
    obtain ⟨t, rfl⟩ := r
    exact ⟨_, _, begins_text x t, trivial, fun h it e => ⟨t, _, e, rfl, rfl⟩⟩
theorem adr_lt (I : Inv X pins σ H s) : ∀ {c : Src} {vs : List V} {b : Addr}, c.At X.K H vs → c.adr = some b → b < s.heap.objs.size
  | .L a, _, _, h, e => by
    cases e
    obtain ⟨its, rv, p, _⟩ := I.list h
    exact p.lt
  | .T a, _, _, h, e => by
    cases e
    obtain ⟨its, rv, ⟨o, q, _⟩, _⟩ := I.tuple h
    exact Heap.lt_size q
end
/-! ### zip -/
def ItP (K : PySem.W.Frag) (c d : Src) : L2.It :=
  ⟨fun i H => ∃ (xs ys : List V) (x y : V), c.At K H xs ∧ d.At K H ys ∧ xs[i]? = some x ∧ ys[i]? = some y,
    fun i H v H' => ∃ T x y, v = .ref T ∧ H T = none ∧ H' = upd H T (.tup [x, y]) ∧ (∀ xs, c.At K H xs → xs[i]? = some x) ∧ ∀ ys, d.At K H ys → ys[i]? = some y,
    fun i H => ∃ xs ys : List V, c.At K H xs ∧ d.At K H ys ∧ i ≤ xs.length ∧ i ≤ ys.length ∧ (i = xs.length ∨ i = ys.length)⟩
structure Apart (z TI TO i1 i2 : Addr) (c d : Src) : Prop where
  zTI : TI ≠ z
  zTO : TO ≠ z
  TITO : TI ≠ TO
  TI1 : TI ≠ i1
  TI2 : TI ≠ i2
  TO1 : TO ≠ i1
  TO2 : TO ≠ i2
  z1 : z ≠ i1
  z2 : z ≠ i2
  i12 : i1 ≠ i2
  c0 : ∀ b, c.adr = some b → b ≠ z ∧ b ≠ TI ∧ b ≠ TO ∧ b ≠ i1 ∧ b ≠ i2
  d0 : ∀ b, d.adr = some b → b ≠ z ∧ b ≠ TI ∧ b ≠ TO ∧ b ≠ i1 ∧ b ≠ i2
theorem turn_zipU {P : Program} {w : World} {K : PySem.W.Frag} {elts : List Expr} {kk : Nat} {tpos : Pos} {c d : Src} {z TI TO i1 i2 : Addr} (D : Apart z TI TO i1 i2 c d) :
    Turn P w K (.Tuple elts kk tpos) (ItP K c d) [z, TI, TO, i1, i2] z (fun i h => IsZip h z TI TO .none ∧ IsTupOf2 h TI (.ref i1) (.ref i2) ∧ (∃ x y, IsTupOf2 h TO x y) ∧ c.It h i1 i ∧ d.It h i2 i) where
  mem := by simp
  obj := fun i h st b hb => by
    obtain ⟨hz, hTI, ⟨x, y, hTO⟩, h1, h2⟩ := st
    have e' : b = z ∨ b = TI ∨ b = TO ∨ b = i1 ∨ b = i2 := by simpa using hb
    rcases e' with q | q | q | q | q
    · rw [q]; exact ⟨_, hz, fun v q => nomatch q⟩
    · rw [q]; exact ⟨_, hTI, fun v q => nomatch q⟩
    · rw [q]; exact ⟨_, hTO, fun v q => nomatch q⟩
    · rw [q]; exact h1.obj
    · rw [q]; exact h2.obj
  keep := fun i h h' st k => by
    obtain ⟨hz, hTI, ⟨x, y, hTO⟩, h1, h2⟩ := st
    exact ⟨k z (by simp) _ hz, k TI (by simp) _ hTI, ⟨x, y, k TO (by simp) _ hTO⟩, h1.keep fun o q => k i1 (by simp) o q, h2.keep fun o q => k i2 (by simp) o q⟩
  item := by
    intro X hP hw hK hc i pins s σ H E I hf st hg
    subst hP hw hK
    obtain ⟨hz, hTI, ⟨x0, y0, hTO⟩, h1, h2⟩ := st
    obtain ⟨xs, ys, x, y, hqx, hqy, hx, hy⟩ := hg
    obtain ⟨fp1, P1, St1, D1, st1, g1, m1, b1, k1⟩ := draws (A := X.A.in1) I (I.ok.hd hc) hqx h1 (fun e => (D.c0 _ e).2.2.2.1 rfl)
    obtain ⟨fp2, P2, St2, D2, st2, g2, m2, b2, k2⟩ := draws (A := X.A.in1) I (I.ok.hd hc) hqy h2 (fun e => (D.d0 _ e).2.2.2.2 rfl)
    have S : ZipSep2 z TI TO i1 i2 fp1 fp2 := by
      refine ⟨D.zTI, D.zTO, D.TITO, D.TI1, m1, fun h => ?_, fun h => ?_, D.TI2, m2, fun h => ?_, fun h => ?_, fun h => ?_, fun h => ?_⟩
      · rcases b1 _ h with e | e
        · exact D.z1 e
        · exact (D.c0 _ e).1 rfl
      · rcases b1 _ h with e | e
        · exact D.TO1 e
        · exact (D.c0 _ e).2.2.1 rfl
      · rcases b2 _ h with e | e
        · exact D.z2 e
        · exact (D.d0 _ e).1 rfl
      · rcases b2 _ h with e | e
        · exact D.TO2 e
        · exact (D.d0 _ e).2.2.1 rfl
      · rcases b2 _ h with e | e
        · exact D.i12 e
        · exact (D.d0 _ e).2.2.2.1 rfl
      · rcases b1 _ h with e | e
        · exact D.i12 e.symm
        · exact (D.c0 _ e).2.2.2.2 rfl
    have hzl : z < s.heap.objs.size := Heap.lt_size hz
    refine wpAny_pyNext_zipD2_item S D1 D2 hz hTI hTO st1 st2 (List.getElem?_eq_some_iff.mp hx).1 (List.getElem?_eq_some_iff.mp hy).1 fun u u2 h' tk p1 p2 z' TO' s1' s2' hT hsz hk => ?_
    obtain ⟨x', ex, ru⟩ := g1 i u p1
    obtain ⟨y', ey, ru2⟩ := g2 i u2 p2
    rw [hx] at ex; cases ex
    rw [hy] at ey; cases ey
    refine ⟨_, rfl, wpAny_letOwnedTupleGo_zip (s := { s with heap := h', toks := tk }) z' fun h'' z'' sb => ?_⟩
    have hT2 : h''.get? s.heap.objs.size = some { cls := .type "tuple", data := .seq #[u, u2] } := (sb.2 _ (Nat.ne_of_gt hzl)).trans hT
    have new : ObjOk X.prog X.w (upd H s.heap.objs.size (.tup [x, y])) h'' s.heap.objs.size (.tup [x, y]) :=
      ⟨by show 2 ≤ sizeLine; decide, [u, u2], .cons ru (.cons ru2 .nil), ⟨_, hT2, rfl, _, rfl⟩⟩
    have I1 : Inv X pins σ (upd H s.heap.objs.size (.tup [x, y])) { s with heap := h'', toks := tk } :=
      I.turnedNew (t' := tk) (ch := [z, TI, TO, i1, i2]) (fun c o hb q => (sb.2 c (fun q' => hb (by simp [q']))).trans (hk c o (fun q' => hb (by simp [q'])) (fun q' => hb (by simp [q'])) (fun q' => hb (by simp [q'])) (fun q' => hb (by simp [q'])) q)) hf (Nat.le_refl _) new
    refine ⟨.ref s.heap.objs.size, _, I1, rfl, ⟨_, x, y, rfl, I.hok.fresh (Nat.le_refl _), rfl, fun l hl => by rw [at_inj I hl hqx]; exact hx, fun l hl => by rw [at_inj I hl hqy]; exact hy⟩, ⟨z'', ?_, ⟨u, u2, ?_⟩, ?_, ?_⟩, fun b hcm => ?_⟩
    · exact (sb.2 _ D.zTI).trans (hk _ _ D.zTI D.TITO D.TI1 D.TI2 hTI)
    · exact (sb.2 _ D.zTO).trans TO'
    · exact (k1 _ _ s1').keep fun o q => (sb.2 _ (Ne.symm D.z1)).trans q
    · exact (k2 _ _ s2').keep fun o q => (sb.2 _ (Ne.symm D.z2)).trans q
    · have hlt : b < s.heap.objs.size := by
        have e' : b = z ∨ b = TI ∨ b = TO ∨ b = i1 ∨ b = i2 := by simpa using hcm
        rcases e' with q | q | q | q | q
        · rw [q]; exact hzl
        · rw [q]; exact Heap.lt_size hTI
        · rw [q]; exact Heap.lt_size hTO
        · rw [q]; obtain ⟨_, e1, _⟩ := h1.obj; exact Heap.lt_size e1
        · rw [q]; obtain ⟨_, e1, _⟩ := h2.obj; exact Heap.lt_size e1
      rw [upd_ne (Nat.ne_of_lt hlt)]
      exact (hf b hcm).1
  done := by
    intro X hP hw hK hc i pins s σ H E I hf st hg
    subst hP hw hK
    obtain ⟨hz, hTI, ⟨x0, y0, hTO⟩, h1, h2⟩ := st
    obtain ⟨xs, ys, hqx, hqy, hl1, hl2, hend⟩ := hg
    obtain ⟨fp1, P1, St1, D1, st1, g1, m1, b1, k1⟩ := draws (A := X.A.in1) I (I.ok.hd hc) hqx h1 (fun e => (D.c0 _ e).2.2.2.1 rfl)
    obtain ⟨fp2, P2, St2, D2, st2, g2, m2, b2, k2⟩ := draws (A := X.A.in1) I (I.ok.hd hc) hqy h2 (fun e => (D.d0 _ e).2.2.2.2 rfl)
    have S : ZipSep2 z TI TO i1 i2 fp1 fp2 := by
      refine ⟨D.zTI, D.zTO, D.TITO, D.TI1, m1, fun h => ?_, fun h => ?_, D.TI2, m2, fun h => ?_, fun h => ?_, fun h => ?_, fun h => ?_⟩
      · rcases b1 _ h with e | e
        · exact D.z1 e
        · exact (D.c0 _ e).1 rfl
      · rcases b1 _ h with e | e
        · exact D.TO1 e
        · exact (D.c0 _ e).2.2.1 rfl
      · rcases b2 _ h with e | e
        · exact D.z2 e
        · exact (D.d0 _ e).1 rfl
      · rcases b2 _ h with e | e
        · exact D.TO2 e
        · exact (D.d0 _ e).2.2.1 rfl
      · rcases b2 _ h with e | e
        · exact D.i12 e
        · exact (D.d0 _ e).2.2.2.1 rfl
      · rcases b1 _ h with e | e
        · exact D.i12 e.symm
        · exact (D.c0 _ e).2.2.2.2 rfl
    exact wpAny_pyNext_zipD2_end S D1 D2 hz hTI hTO st1 st2 hl1 hl2 hend fun h' tk hk => ⟨rfl, I.turnedL (t' := tk) (ch := [z, TI, TO, i1, i2]) (fun c o hb q =>
      hk c o (fun q' => hb (by simp [q'])) (fun q' => hb (by simp [q'])) (fun q' => hb (by simp [q'])) (fun q' => hb (by simp [q'])) q) hf⟩
  self := fun A i s Q E st h => wpAny_pyIter_zip st.1 h
def iZipU (K : PySem.W.Frag) (ta : TA) : TI := fun σ H R => ta σ H fun vs H1 => ∃ (c d : Src) (xs ys : List V), vs = [c.val, d.val] ∧ c.At K H1 xs ∧ d.At K H1 ys ∧ R (ItP K c d) H1
theorem pi_zipU {X : Cx} {e e2 : Expr} {ta : TA} {p pos tpos : Pos} {elts : List Expr} {kk : Nat} (hg : Gl X "zip") (hm : X.mg "zip" = none) (ha : PA X [e, e2] ta)
    (hs : starEach [e, e2] X.env = (false, eval e X.env) :: starEach [e2] X.env := by rfl) (hpl : (backTo pos (starEach [e2] X.env)).any (·.1) = false := by rfl) :
    PI X (.Tuple elts kk tpos) (.Call (.Name "zip" p) [e, e2] [] pos) (iZipU X.K ta) := by
  refine ⟨fun pins s σ H R I h => ?_⟩
  refine Call_ (ld_blt I hg hm PyProof.Rows.boot_zip (PyProof.Rows.callWith_type1 (thn (ha.run pos pins s σ H _ I h) fun us s1 ⟨vs, H1, I1, r1, q1⟩ => ?_) hs hpl))
  obtain ⟨c, d, xs, ys, ex, hc, hd, q⟩ := q1
  subst ex
  cases r1 with
  | cons r rr =>
    cases rr with
    | cons r' rr =>
      cases rr
      obtain ⟨o1, B1, bg1, hB1, k1⟩ := begins I1 hc r
      obtain ⟨o2, B2, bg2, hB2, k2⟩ := begins I1 hd r'
      refine zip_begins2 bg1 bg2 hB1 hB2 fun h' hz hTI hTO g1 g2 hsz hk => wpAny_pyIter_zip hz ?_
      have I2 : Inv X pins σ H1 { s1 with heap := h' } := I1.kept (t' := s1.toks) hk
      have far : ∀ (cc : Src) (zs : List V), cc.At X.K H1 zs → ∀ b, cc.adr = some b → b ≠ s1.heap.objs.size + 4 ∧ b ≠ s1.heap.objs.size + 2 ∧ b ≠ s1.heap.objs.size + 3 ∧ b ≠ s1.heap.objs.size ∧ b ≠ s1.heap.objs.size + 1 := fun cc zs hz b e => by
        have := adr_lt I1 hz e
        refine ⟨?_, ?_, ?_, ?_, ?_⟩ <;> exact fun q => by
          rw [q] at this
          first
            | exact absurd this (Nat.lt_irrefl _)
            | exact absurd (Nat.lt_of_le_of_lt (Nat.le_add_right _ _) this) (Nat.lt_irrefl _)
      have hap : Apart (s1.heap.objs.size + 4) (s1.heap.objs.size + 2) (s1.heap.objs.size + 3) s1.heap.objs.size (s1.heap.objs.size + 1) c d := by
        refine ⟨?_, ?_, ?_, ?_, ?_, ?_, ?_, ?_, ?_, ?_, far c xs hc, far d ys hd⟩ <;> (intro q; have q : (_ : Nat) = _ := q; omega)
      refine ⟨s1.heap.objs.size + 4, [s1.heap.objs.size + 4, s1.heap.objs.size + 2, s1.heap.objs.size + 3, s1.heap.objs.size, s1.heap.objs.size + 1], _, _, H1, rfl, I2, turn_zipU hap, ⟨hz, hTI, ⟨_, _, hTO⟩, k1 _ _ g1, k2 _ _ g2⟩, fun b hcm => ?_, q⟩
      have e' : b = s1.heap.objs.size + 4 ∨ b = s1.heap.objs.size + 2 ∨ b = s1.heap.objs.size + 3 ∨ b = s1.heap.objs.size ∨ b = s1.heap.objs.size + 1 := by simpa using hcm
      have hle : s1.heap.objs.size ≤ b := by
        rcases e' with z | z | z | z | z
        · rw [z]; exact Nat.le_add_right _ _
        · rw [z]; exact Nat.le_add_right _ _
        · rw [z]; exact Nat.le_add_right _ _
        · rw [z]; exact Nat.le_refl _
        · rw [z]; exact Nat.le_add_right _ _
      exact I1.fpOk hle (I1.hok.fresh hle)
/-! ### enumerate -/
set_option maxHeartbeats 1000000 in
theorem meets_enumB1 {v : Value} {o : Obj} {B : Heap → Prop} (bg : Begins v o B) :
    Meets (Builtin.«enumerate.__new__» ⟨[.type "enumerate", v], []⟩) (fun _ R s => B s.heap ∧
      R (.ok (.ret (.ref (s.heap.push o).objs.size))) { s with heap := (s.heap.push o).push { cls := .type "enumerate", data := .fields #[.none, .bool false, .ref s.heap.objs.size, rawInt 0, .none, .none] } }) :=
  .of_wp fun prog w A R s h => by
    obtain ⟨hp, g, d, tk, os⟩ := s; obtain ⟨h1, h⟩ := h
    have hsub := sub_enumerate
    have q1 : ∀ {A' : Around} {E : Value → Shared → Prop} {Q : Value → Shared → Prop}, Q (.ref hp.objs.size) ⟨(hp.push o), g, d, tk, os⟩ → wpAny (model prog w) A' (pyIter v) Q E ⟨hp, g, d, tk, os⟩ :=
      fun q => bg.iter prog w _ _ ⟨hp, g, d, tk, os⟩ _ h1 q
    wp_walk
    refine wpAny_stack_any fun st => wpAny_pure ?_
    split
    · rename_i c _ _ _ _ _
      cases (c == Value.type "enumerate")
      · wp_walk using q1
        exact ⟨_, rfl, h⟩
      · wp_walk using q1
        exact ⟨_, rfl, h⟩
    · wp_walk using q1
      exact ⟨_, rfl, h⟩
theorem enum_begins1 {prog : Program} {w : World} {A : Around} {E : Value → Shared → Prop} {s : Shared} {v : Value} {o : Obj} {B : Heap → Prop} {Q : Value → Shared → Prop} (bg : Begins v o B) (h1 : B s.heap)
    (h : ∀ h', IsEnum h' (s.heap.objs.size + 1) s.heap.objs.size 0 .none → h'.get? s.heap.objs.size = some o → h'.objs.size = s.heap.objs.size + 2 →
      (∀ b o, s.heap.get? b = some o → h'.get? b = some o) → Q (.ref (s.heap.objs.size + 1)) { s with heap := h' }) :
    wpAny (model prog w) A (call (.type "enumerate") [v]) Q E s := by
  refine callType_new F.called_enumerate (by decide) (F.typeCall_enumerate_1 _) (F.newCall_enumerate_1 _) (fun obj => F.args_object_init_2 obj _) F.entry_enumerate_new
    (meets_enumB1 bg) ⟨h1, ?_⟩
  have hz : (s.heap.push o).objs.size = s.heap.objs.size + 1 := Heap.size_push ..
  show _ ∧ _
  rw [hz]
  have he : IsEnum ((s.heap.push o).push { cls := .type "enumerate", data := .fields #[.none, .bool false, .ref s.heap.objs.size, rawInt 0, .none, .none] }) (s.heap.objs.size + 1) s.heap.objs.size 0 .none := by
    have := Heap.get?_push_size (s.heap.push o) (o := { cls := .type "enumerate", data := .fields #[.none, .bool false, .ref s.heap.objs.size, rawInt 0, .none, .none] }) rfl
    rw [hz] at this; exact this
  exact ⟨⟨_, he, rfl⟩, h _ he (Heap.get?_push_of_some _ (Heap.get?_push_size _ bg.free)) (by rw [Heap.size_push, hz]) fun b o x => Heap.get?_push_of_some _ (Heap.get?_push_of_some _ x)⟩
def ItE (K : PySem.W.Frag) (c : Src) : L2.It :=
  ⟨fun i H => ∃ (xs : List V) (x : V), c.At K H xs ∧ xs[i]? = some x,
    fun i H v H' => ∃ T x, v = .ref T ∧ H T = none ∧ H' = upd H T (.tup [.int (i : Nat), x]) ∧ ∀ xs, c.At K H xs → xs[i]? = some x,
    fun i H => ∃ xs : List V, c.At K H xs ∧ i = xs.length⟩
theorem turn_enumU {P : Program} {w : World} {K : PySem.W.Frag} {elts : List Expr} {kk : Nat} {tpos : Pos} {c : Src} {e it : Addr} (hne : e ≠ it) (hc1 : c.adr ≠ some e) (hc2 : c.adr ≠ some it) :
    Turn P w K (.Tuple elts kk tpos) (ItE K c) [e, it] e (fun i h => (∃ old, IsEnum h e it ((i : Nat) : Int) old) ∧ c.It h it i) where
  mem := by simp
  obj := fun i h st b hb => by
    obtain ⟨⟨old, he⟩, h1⟩ := st
    have e' : b = e ∨ b = it := by simpa using hb
    rcases e' with z | z
    · rw [z]; exact ⟨_, he, fun v q => nomatch q⟩
    · rw [z]; exact h1.obj
  keep := fun i h h' st k => let ⟨⟨old, he⟩, hi⟩ := st; ⟨⟨old, k e (by simp) _ he⟩, hi.keep fun o q => k it (by simp) o q⟩
  item := by
    intro X hP hw hK hc i pins s σ H E I hf st hg
    subst hP hw hK
    obtain ⟨⟨old, he⟩, hit⟩ := st
    obtain ⟨xs, x, hq, hx⟩ := hg
    obtain ⟨fp, P1, St1, D1, st1, g1, m1, b1, k1⟩ := draws (A := X.A.in1) I (I.ok.hd hc) hq hit hc2
    have hel : e < s.heap.objs.size := Heap.lt_size he
    have hil : it < s.heap.objs.size := by obtain ⟨_, q, _⟩ := hit.obj; exact Heap.lt_size q
    have hef : e ∉ fp := fun h => by
      rcases b1 _ h with q | q
      · exact hne q
      · exact hc1 q
    refine wpAny_pyNext_enum_itemD D1 he st1 (List.getElem?_eq_some_iff.mp hx).1 hne hef fun u h' tk p ho hit' hT hsz hk => ?_
    obtain ⟨x', ex, ru⟩ := g1 i u p
    rw [hx] at ex; cases ex
    refine ⟨_, rfl, wpAny_letOwnedTupleGo_enum (s := { s with heap := h', toks := tk + 1 }) ho fun h'' he' sb => ?_⟩
    have hT2 : h''.get? s.heap.objs.size = some { cls := .type "tuple", data := .seq #[.int i tk, u] } := (sb.2 _ (Nat.ne_of_gt hel)).trans hT
    have new : ObjOk X.prog X.w (upd H s.heap.objs.size (.tup [.int (i : Nat), x])) h'' s.heap.objs.size (.tup [.int (i : Nat), x]) :=
      ⟨by show 2 ≤ sizeLine; decide, [.int i tk, u], .cons ⟨_, rfl⟩ (.cons ru .nil), ⟨_, hT2, rfl, _, rfl⟩⟩
    have I1 : Inv X pins σ (upd H s.heap.objs.size (.tup [.int (i : Nat), x])) { s with heap := h'', toks := tk + 1 } :=
      I.turnedNew (ch := [e, it]) (fun b ob hb q => (sb.2 b (fun z => hb (by simp [z]))).trans (hk b ob (fun z => hb (by simp [z])) (fun z => hb (by simp [z])) q)) hf (Nat.le_refl _) new
    refine ⟨.ref s.heap.objs.size, _, I1, rfl, ⟨_, x, rfl, I.hok.fresh (Nat.le_refl _), rfl, fun ys hy => by rw [at_inj I hy hq]; exact hx⟩, ⟨⟨u, ?_⟩, (k1 _ _ hit').keep fun o q => (sb.2 it (Ne.symm hne)).trans q⟩, fun b hb => ?_⟩
    · have e1 : ((i + 1 : Nat) : Int) = (i : Int) + 1 := by omega
      rw [e1]; exact he'
    · have hb' : b < s.heap.objs.size := by
        have e' : b = e ∨ b = it := by simpa using hb
        rcases e' with z | z
        · rw [z]; exact hel
        · rw [z]; exact hil
      rw [upd_ne (Nat.ne_of_lt hb')]
      exact (hf b hb).1
  done := by
    intro X hP hw hK hc i pins s σ H E I hf st hg
    subst hP hw hK
    obtain ⟨⟨old, he⟩, hit⟩ := st
    obtain ⟨xs, hq, hx⟩ := hg
    obtain ⟨fp, P1, St1, D1, st1, g1, m1, b1, k1⟩ := draws (A := X.A.in1) I (I.ok.hd hc) hq hit hc2
    obtain ⟨f0, f1, f2, f3, f4, f5⟩ := hf it (by simp)
    subst hx
    exact wpAny_pyNext_enum_endD D1 he st1 fun h' eb => ⟨rfl, I.turned (t' := s.toks) (fun b o hb q => eb b o hb q) f0 f1 f3 f4 f5⟩
  self := fun A i s Q E st h => let ⟨⟨_, he⟩, _⟩ := st; wpAny_pyIter_enum he h
def iEnumU (K : PySem.W.Frag) (ta : TA) : TI := fun σ H R => ta σ H fun vs H1 => ∃ (c : Src) (xs : List V), vs = [c.val] ∧ c.At K H1 xs ∧ R (ItE K c) H1
theorem pi_enumU {X : Cx} {e : Expr} {ta : TA} {p pos tpos : Pos} {elts : List Expr} {kk : Nat} (hg : Gl X "enumerate") (hm : X.mg "enumerate" = none) (ha : PA X [e] ta) (hs : starEach [e] X.env = [(false, eval e X.env)] := by rfl) :
    PI X (.Tuple elts kk tpos) (.Call (.Name "enumerate" p) [e] [] pos) (iEnumU X.K ta) := by
  refine ⟨fun pins s σ H R I h => ?_⟩
  refine Call_ (ld_blt I hg hm boot_enumerate (PyProof.Rows.callWith_type1 (thn (ha.run pos pins s σ H _ I h) fun us s1 ⟨vs, H1, I1, r1, q1⟩ => ?_) hs rfl))
  obtain ⟨c, xs, ex, hc, q⟩ := q1
  subst ex
  cases r1 with
  | cons r rr =>
    cases rr
    obtain ⟨o1, B1, bg1, hB1, k1⟩ := begins I1 hc r
    refine enum_begins1 bg1 hB1 fun h' he g1 hsz hk => wpAny_pyIter_enum he ?_
    have I2 : Inv X pins σ H1 { s1 with heap := h' } := I1.kept (t' := s1.toks) hk
    have far : ∀ b, c.adr = some b → b < s1.heap.objs.size := fun b e => adr_lt I1 hc e
    refine ⟨s1.heap.objs.size + 1, [s1.heap.objs.size + 1, s1.heap.objs.size], _, _, H1, rfl, I2, turn_enumU (Nat.succ_ne_self _) (fun e => absurd (Nat.lt_of_le_of_lt (Nat.le_add_right _ _) (far _ e)) (Nat.lt_irrefl _)) (fun e => absurd (far _ e) (Nat.lt_irrefl _)), ⟨⟨.none, he⟩, k1 _ _ g1⟩, fun b hb => ?_, q⟩
    have e' : b = s1.heap.objs.size + 1 ∨ b = s1.heap.objs.size := by simpa using hb
    have hle : s1.heap.objs.size ≤ b := by
      rcases e' with z | z
      · rw [z]; exact Nat.le_add_right _ _
      · rw [z]; exact Nat.le_refl _
    exact I1.fpOk hle (I1.hok.fresh hle)
end Za
/-! Z6: writes, methods of lists and texts, dicts, slices. -/
namespace Z
open PySem PySem.Spec L2

/-! ### a handle's thing written -/
section
variable {K : PySem.W.Frag} {mg : Str → Option Value} {ρ : List Addr} {H : Hp} {S : Store}
theorem Ext.put {p : Addr} {o : HO} (hp : p ∈ ρ) : Ext ρ H ρ (upd H p o) := ⟨⟨[], by simp⟩, fun a h n => absurd h n, fun a u n h => .inl (by rw [upd_ne (fun q => n (by rw [q]; exact hp))]; exact h)⟩
theorem nd_eq {α : Type} : ∀ {l : List α} {i j : Nat} {a : α}, l.Nodup → l[i]? = some a → l[j]? = some a → i = j
  | [], _, _, _, _, h, _ => by simp at h
  | x :: l, 0, 0, _, _, _, _ => rfl
  | x :: l, 0, j + 1, a, hn, h1, h2 => by
    simp at h1 h2
    exact absurd (List.mem_of_getElem? h2) (by rw [← h1]; exact (List.nodup_cons.mp hn).1)
  | x :: l, i + 1, 0, a, hn, h1, h2 => by
    simp at h1 h2
    exact absurd (List.mem_of_getElem? h1) (by rw [← h2]; exact (List.nodup_cons.mp hn).1)
  | x :: l, i + 1, j + 1, a, hn, h1, h2 => by
    simp only [List.getElem?_cons_succ] at h1 h2
    rw [nd_eq (List.nodup_cons.mp hn).2 h1 h2]
theorem WOk.put (w : WOk K mg ρ H S) {n : Nat} {p : Addr} {o : HO} {m : MO} (hn : ρ[n]? = some p) (hm : MRep K mg ρ (upd H p o) p m) : WOk K mg ρ (upd H p o) (S.set n m) := by
  have hp : p ∈ ρ := List.mem_of_getElem? hn
  refine ⟨by simp [w.len], w.nd, fun a ha => ?_, fun j a m' e1 e2 => ?_⟩
  · by_cases q : a = p
    · rw [q, upd_same]; simp
    · rw [upd_ne q]; exact w.tr a ha
  · by_cases q : j = n
    · subst q
      rw [hn] at e1; cases e1
      have hl : j < S.length := by rw [← w.len]; exact (List.getElem?_eq_some_iff.mp hn).1
      rw [List.getElem?_set_self hl] at e2; cases e2
      exact hm
    · rw [List.getElem?_set_ne (Ne.symm q)] at e2
      have hap : a ≠ p := fun e => by
        subst e
        exact q (nd_eq w.nd e1 hn)
      exact MRep.ext (Ext.put hp) (upd_ne hap) (w.ob j a m' e1 e2)
theorem post_put {Wp : Value → Option Addr → Hp → Prop} {Q : VK} {d : D} {v : V} {n : Nat} {p : Addr} {o : HO} {m : MO} (h : PostE K mg Wp ρ H Q (.ok d (S.set n m))) (w : WOk K mg ρ H S) (hn : ρ[n]? = some p) (hm : MRep K mg ρ (upd H p o) p m) (r : Rep K mg ρ H d v) : Q v (upd H p o) :=
  h v ρ _ (Ext.put (List.mem_of_getElem? hn)) (w.put hn hm) (r.ext (Ext.put (List.mem_of_getElem? hn)))
theorem Ext.putL {p : Addr} {o : HO} {n : Nat} (hn : ρ[n]? = some p) : Ext ρ H ρ (upd H p o) := Ext.put (List.mem_of_getElem? hn)
/-- the list at a handle -/
theorem ptr_lst (w : WOk K mg ρ H S) {n : Nat} {v : V} {xs : List D} (r : Rep K mg ρ H (.ptr n) v) (e : S[n]? = some (.lst xs)) : ∃ a vs, v = .ref a ∧ ρ[n]? = some a ∧ H a = some (.lst vs) ∧ RepL K mg ρ H xs vs := by
  rw [Rep] at r
  obtain ⟨a, e1, q⟩ := r
  obtain ⟨vs, h1, h2⟩ := w.ob n a _ q e
  exact ⟨a, vs, e1, q, h1, h2⟩
theorem ptr_dct (w : WOk K mg ρ H S) {n : Nat} {v : V} {ks xs : List D} (r : Rep K mg ρ H (.ptr n) v) (e : S[n]? = some (.dct false ks xs)) : ∃ a kvs, v = .ref a ∧ ρ[n]? = some a ∧ H a = some (.dK kvs) ∧ RepL K mg ρ H ks (kvs.map fun p => kV p.1) ∧ RepL K mg ρ H xs (kvs.map (·.2)) := by
  rw [Rep] at r
  obtain ⟨a, e1, q⟩ := r
  obtain ⟨kvs, h1, h2, h3⟩ := w.ob n a _ q e
  rw [if_neg Bool.false_ne_true] at h1
  exact ⟨a, kvs, e1, q, h1, h2, h3⟩
end

/-! ### methods of lists and texts -/
abbrev SemM := D → SemL
def eMet (ty : Store → D → Bool) (sem : SemM) (fo : EX) (fa : AX) : EX := fun sl S => (fo sl S).bind fun d S1 => if ty S1 d = true then (fa sl S1).bind fun ds S2 => sem d ds S2 else .bad
def tyStr (_ : Store) : D → Bool
  | .str _ => true
  | _ => false
def tyLst (S : Store) (d : D) : Bool := (asL S d).isSome
section
variable {X : Cx} {W : WX}
structure MtD (X : Cx) (id : String) (sem : SemM) : Prop where
  go : ∃ r : V → List V → Hp → VK → Prop, MtR X id r ∧ ∀ (Wp : Value → Option Addr → Hp → Prop) (ρ : List Addr) (H : Hp) (S : Store) (d : D) (ds : List D) (x : V) (xs : List V) (Q : VK), WOk X.K X.mg ρ H S → Rep X.K X.mg ρ H d x → RepL X.K X.mg ρ H ds xs → PostE X.K X.mg Wp ρ H Q (sem d ds S) → r x xs H Q
theorem MtD.or {id : String} {s t : SemM} (h : MtD X id s) (h' : MtD X id t) : MtD X id (fun d => orSL (s d) (t d)) := by
  obtain ⟨r, o, g⟩ := h.go
  obtain ⟨r', o', g'⟩ := h'.go
  refine ⟨_, MtR.or o o', fun Wp ρ H S d ds x xs Q w rx rl p => ?_⟩
  unfold orSL at p
  cases q : s d ds S with
  | bad => rw [q] at p; exact .inr (g' Wp ρ H S d ds x xs Q w rx rl p)
  | ok a S' => rw [q] at p; exact .inl (g Wp ρ H S d ds x xs Q w rx rl (by rw [q]; exact p))
  | ex a S' => rw [q] at p; exact .inl (g Wp ρ H S d ds x xs Q w rx rl (by rw [q]; exact p))
theorem tyStr_is {K : PySem.W.Frag} {mg : Str → Option Value} {ρ : List Addr} {H : Hp} {S : Store} {d : D} {x : V} (_ : WOk K mg ρ H S) (r : Rep K mg ρ H d x) (h : tyStr S d = true) : tyV K "str" x H := by
  cases d with
  | str s => rw [rep_str r]; exact rfl
  | _ => cases h
theorem tyLst_is {K : PySem.W.Frag} {mg : Str → Option Value} {ρ : List Addr} {H : Hp} {S : Store} {d : D} {x : V} (w : WOk K mg ρ H S) (r : Rep K mg ρ H d x) (h : tyLst S d = true) : tyV K "list" x H := by
  unfold tyLst at h
  obtain ⟨ds, e⟩ := Option.isSome_iff_exists.mp h
  obtain ⟨a, vs, e1, h1, _⟩ := asL_rep w r e
  rw [e1]
  exact .inl ⟨rfl, vs, .inl (.inl h1)⟩
variable {o e : Expr} {es : List Expr} {fo fe : EX} {fa : AX} {apos cpos pos : Pos} {name : Str} {T id : String} {sem : SemM} {ty : Store → D → Bool}
theorem met_imp {σ : L2.St} {H : Hp} {Q : VK} {K : PySem.W.Frag} {mg : Str → Option Value} {k0 : V → Hp → Prop} {k : V → List V → Hp → Prop} (h : trE K mg W (eMet ty sem fo fa) σ H Q)
    (h0 : ∀ ρ H S d x, WOk K mg ρ H S → Rep K mg ρ H d x → ty S d = true → k0 x H)
    (hk : ∀ ρ S H2 d ds x xs, WOk K mg ρ H2 S → Rep K mg ρ H2 d x → RepL K mg ρ H2 ds xs → PostE K mg (fun C d H' => W C d σ H') ρ H2 Q (sem d ds S) → k x xs H2) :
    trE K mg W fo σ H fun x H1 => k0 x H1 ∧ trA K mg W fa σ H1 fun xs H2 => k x xs H2 := by
  obtain ⟨ρ, S, sl, w, rs, p⟩ := h
  refine ⟨ρ, S, sl, w, rs, PostE.mono (PostE.bindE p) fun x H1 ⟨ρ1, S1, d, x1, w1, r1, _, p1⟩ => ?_⟩
  split at p1
  · rename_i ht
    refine ⟨h0 _ _ _ _ _ w1 r1 ht, ρ1, S1, sl, w1, rs.ext x1, PostA.mono (PostA.bindE p1) fun xs H2 ⟨ρ2, S2, ds, x2, w2, r2, _, p2⟩ => ?_⟩
    exact hk ρ2 S2 H2 d ds x xs w2 (r1.ext x2) r2 p2
  · exact p1.elim
theorem r_met (hm : MtD X id sem) (hty : ∀ ρ H S d x, WOk X.K X.mg ρ H S → Rep X.K X.mg ρ H d x → ty S d = true → tyV X.K T x H) (pa : PlainAttrs T) (slot : Slot T name id) (hi : typeOf (.builtin id) = pure (.type "method_descriptor")) (ho : E X W o fo) (ha : EA X W (e :: es) fa)
    (hbase : attributeBase o name X.env (eval o X.env) = eval o X.env := by rfl)
    (hfew : ((backTo cpos (starEach (e :: es) X.env)).all (fun x => !x.1) && (backToKw cpos (keywordEach [] X.env)).all (fun x => x.1.isSome)
      && decide ((e :: es).length + ([] : List Keyword).length + (if ([] : List Keyword).isEmpty then 0 else 1) < 30)) = true := by rfl)
    (hline : (apos.endLine == cpos.line) = true := by rfl) (hs : starEach (e :: es) X.env = (false, eval e X.env) :: starEach es X.env := by rfl) (hplain : (backTo cpos (starEach es X.env)).any (·.1) = false := by rfl) :
    E X W (.Call (.Attribute o name apos) (e :: es) [] cpos) (eMet ty sem fo fa) := by
  obtain ⟨r, m, g⟩ := hm.go
  exact PE.imp (pe_bm pa slot hi m ho ha hbase hfew hline hs hplain) fun σ H Q h => met_imp h hty fun ρ S H2 d ds x xs w rx rl p => g _ ρ H2 S d ds x xs Q w rx rl p
theorem r_met0 (hm : MtD X id sem) (hty : ∀ ρ H S d x, WOk X.K X.mg ρ H S → Rep X.K X.mg ρ H d x → ty S d = true → tyV X.K T x H) (pa : PlainAttrs T) (slot : Slot T name id) (hi : typeOf (.builtin id) = pure (.type "method_descriptor")) (ho : E X W o fo)
    (hbase : attributeBase o name X.env (eval o X.env) = eval o X.env := by rfl) (hline : (apos.endLine == cpos.line) = true := by rfl) : E X W (.Call (.Attribute o name apos) [] [] cpos) (eMet ty sem fo aNil) := by
  obtain ⟨r, m, g⟩ := hm.go
  refine PE.imp (pe_bm0 pa slot hi m ho hbase hline) fun σ H Q h => ?_
  obtain ⟨ρ, S, sl, w, rs, p⟩ := met_imp (k := fun x xs H2 => r x xs H2 Q) h hty fun ρ S H2 d ds x xs w rx rl p => g _ ρ H2 S d ds x xs Q w rx rl p
  refine ⟨ρ, S, sl, w, rs, PostE.mono p fun x H1 ⟨t, ρ2, S2, sl2, w2, rs2, p2⟩ => ⟨t, p2 [] ρ2 H1 Ext.refl w2 RepL.nil⟩⟩

/-! #### lists -/
def semAppend : SemM := fun d ds S => match d, ds with
  | .ptr n, [e] => (match S[n]? with
    | some (.lst xs) => if xs.length < 1000000 then .ok .non (S.set n (.lst (xs ++ [e]))) else .bad
    | _ => .bad)
  | _, _ => .bad
theorem d_append : MtD X "list.append" semAppend := by
  refine ⟨_, mt_append, fun Wp ρ H S d ds x xs Q w rx rl p => ?_⟩
  unfold semAppend at p
  split at p
  · rename_i n e
    split at p
    · rename_i ys ey
      split at p
      · rename_i hl
        obtain ⟨a, vs, e1, q, h1, r1⟩ := ptr_lst w rx ey
        obtain ⟨v, e2, r2⟩ := repL_one rl
        refine ⟨a, vs, v, e1, e2, h1, by rw [← r1.len]; have := line_of (n := ys.length + 1) (by omega); omega, ?_⟩
        exact post_put p w q ⟨_, upd_same, (r1.append (RepL.cons r2 RepL.nil)).ext (Ext.putL q)⟩ mk_non
      · exact p.elim
    · exact p.elim
  · exact p.elim
def semExtend : SemM := fun d ds S => match d, ds with
  | .ptr n, [e] => (match S[n]?, asL S e with
    | some (.lst xs), some ys => if xs.length + ys.length ≤ 1000000 then .ok .non (S.set n (.lst (xs ++ ys))) else .bad
    | _, _ => .bad)
  | _, _ => .bad
theorem d_extend : MtD X "list.extend" semExtend := by
  refine ⟨_, mt_extend, fun Wp ρ H S d ds x xs Q w rx rl p => ?_⟩
  unfold semExtend at p
  split at p
  · rename_i n e
    split at p
    · rename_i xs' ys e1 e2
      split at p
      · rename_i hl
        obtain ⟨a, vs, e3, q, h1, r1⟩ := ptr_lst w rx e1
        obtain ⟨v, e4, r2⟩ := repL_one rl
        obtain ⟨b, us, e5, h5, r5⟩ := asL_rep w r2 e2
        refine ⟨a, b, vs, us, e3, by rw [e4, e5], h1, h5, by rw [← r1.len, ← r5.len]; exact line_of hl, ?_⟩
        exact post_put p w q ⟨_, upd_same, (r1.append r5).ext (Ext.putL q)⟩ mk_non
      · exact p.elim
    · exact p.elim
  · exact p.elim
theorem RepL.dropLast {K : PySem.W.Frag} {mg : Str → Option Value} {ρ : List Addr} {H : Hp} {ds : List D} {vs : List V} (q : RepL K mg ρ H ds vs) : RepL K mg ρ H ds.dropLast vs.dropLast := by
  rw [List.dropLast_eq_take, List.dropLast_eq_take, ← q.len]
  exact q.take _
def semPop : SemM := fun d ds S => match d, ds with
  | .ptr n, [] => (match S[n]? with
    | some (.lst xs) => (match xs[xs.length - 1]? with
      | some y => .ok y (S.set n (.lst xs.dropLast))
      | none => .bad)
    | _ => .bad)
  | _, _ => .bad
theorem d_pop : MtD X "list.pop" semPop := by
  refine ⟨_, mt_pop, fun Wp ρ H S d ds x xs Q w rx rl p => ?_⟩
  unfold semPop at p
  split at p
  · rename_i n
    split at p
    · rename_i ys ey
      split at p
      · rename_i y hy
        obtain ⟨a, vs, e1, q, h1, r1⟩ := ptr_lst w rx ey
        obtain ⟨v, h2, r2⟩ := r1.get hy
        rw [RepL] at rl
        refine ⟨a, vs, v, e1, rl, h1, by rw [← r1.len]; exact h2, ?_⟩
        exact post_put p w q ⟨_, upd_same, r1.dropLast.ext (Ext.putL q)⟩ r2
      · exact p.elim
    · exact p.elim
  · exact p.elim
def semClear : SemM := fun d ds S => match d, ds with
  | .ptr n, [] => (match S[n]? with
    | some (.lst _) => .ok .non (S.set n (.lst []))
    | _ => .bad)
  | _, _ => .bad
theorem d_clear : MtD X "list.clear" semClear := by
  refine ⟨_, mt_clear, fun Wp ρ H S d ds x xs Q w rx rl p => ?_⟩
  unfold semClear at p
  split at p
  · rename_i n
    split at p
    · rename_i ys ey
      obtain ⟨a, vs, e1, q, h1, r1⟩ := ptr_lst w rx ey
      rw [RepL] at rl
      exact ⟨a, vs, e1, rl, h1, post_put p w q ⟨_, upd_same, RepL.nil⟩ mk_non⟩
    · exact p.elim
  · exact p.elim
def semInsert : SemM := fun d ds S => match d, ds with
  | .ptr n, [.int i, e] => (match S[n]? with
    | some (.lst xs) => if xs.length < 1000000 ∧ 0 ≤ i ∧ i < 2 ^ 63 then .ok .non (S.set n (.lst (xs.take i.toNat ++ [e] ++ xs.drop i.toNat))) else .bad
    | _ => .bad)
  | _, _ => .bad
theorem d_insert : MtD X "list.insert" semInsert := by
  refine ⟨_, mt_insert, fun Wp ρ H S d ds x xs Q w rx rl p => ?_⟩
  unfold semInsert at p
  split at p
  · rename_i n i e
    split at p
    · rename_i ys ey
      split at p
      · rename_i hl
        obtain ⟨a, vs, e1, q, h1, r1⟩ := ptr_lst w rx ey
        obtain ⟨v, u, e2, r2, r3⟩ := repL_two rl
        rw [rep_int r2] at e2
        refine ⟨a, vs, i, u, e1, e2, h1, by rw [← r1.len]; have := line_of (n := ys.length + 1) (by omega); omega, hl.2.1, hl.2.2, ?_⟩
        exact post_put p w q ⟨_, upd_same, (((r1.take _).append (RepL.cons r3 RepL.nil)).append (r1.drop _)).ext (Ext.putL q)⟩ mk_non
      · exact p.elim
    · exact p.elim
  · exact p.elim

/-! #### texts -/
def strsOf : List D → Option (List Str)
  | [] => some []
  | .str s :: r => (strsOf r).map (s :: ·)
  | _ :: _ => none
theorem strs_eq : ∀ {ds : List D} {bs : List Str}, strsOf ds = some bs → ds = bs.map D.str
  | [], _, e => by cases e; rfl
  | d :: r, _, e => by
    cases d with
    | str s =>
      rw [strsOf] at e
      obtain ⟨ys, e1, e2⟩ := Option.map_eq_some_iff.mp e
      subst e2
      rw [strs_eq e1]; rfl
    | _ => cases e
theorem strsOf_map : ∀ bs : List Str, strsOf (bs.map D.str) = some bs
  | [] => rfl
  | b :: bs => by rw [List.map_cons, strsOf, strsOf_map bs]; rfl
theorem repL_strs {K : PySem.W.Frag} {mg : Str → Option Value} {ρ : List Addr} {H : Hp} : ∀ {bs : List Str} {vs : List V}, RepL K mg ρ H (bs.map D.str) vs → vs = bs.map V.str
  | [], _, r => by rw [List.map_nil, RepL] at r; exact r
  | b :: bs, _, r => by
    rw [List.map_cons, RepL] at r
    obtain ⟨v, r', e, h1, h2⟩ := r
    rw [e, rep_str h1, repL_strs h2]; rfl
theorem mk_strs {K : PySem.W.Frag} {mg : Str → Option Value} {ρ : List Addr} {H : Hp} : ∀ (bs : List Str), RepL K mg ρ H (bs.map D.str) (bs.map V.str)
  | [] => RepL.nil
  | b :: bs => RepL.cons mk_str (mk_strs bs)
def semJoin : SemM := fun d ds S => match d, ds with
  | .str a, [e] => (match asS S e with
    | some xs => (match strsOf xs with
      | some ys => if (ys.map (·.length)).sum + ys.length * a.length ≤ 1000000 then .ok (.str (Txt.join a ys)) S else .bad
      | none => .bad)
    | none => .bad)
  | _, _ => .bad
theorem d_join : MtD X "str.join" semJoin := by
  refine ⟨_, mt_join, fun Wp ρ H S d ds x xs Q w rx rl p => ?_⟩
  unfold semJoin at p
  split at p
  · rename_i a e
    split at p
    · rename_i zs ez
      split at p
      · rename_i ys ey
        split at p
        · rename_i hl
          obtain ⟨v, e2, r2⟩ := repL_one rl
          obtain ⟨b, vs, e3, h3, r3⟩ := asS_rep w r2 ez
          rw [strs_eq ey] at r3
          rw [repL_strs r3] at h3
          exact ⟨a, b, ys, rep_str rx, by rw [e2, e3], h3, by omega, post_ok p w mk_str⟩
        · exact p.elim
      · exact p.elim
    · exact p.elim
  · exact p.elim
/-- a text's method without arguments -/
def semT0 (g : Str → D) : SemM := fun d ds S => match d, ds with
  | .str a, [] => if a.length ≤ 1000000 then .ok (g a) S else .bad
  | _, _ => .bad
theorem d_t0 {id : String} {C : Str → Prop} {g : Str → V} {gd : Str → D} (m : MtR X id (fun x xs H Q => ∃ a, x = .str a ∧ xs = [] ∧ C a ∧ Q (g a) H)) (hC : ∀ a : Str, a.length ≤ 1000000 → C a) (hg : ∀ a ρ H, Rep X.K X.mg ρ H (gd a) (g a)) : MtD X id (semT0 gd) := by
  refine ⟨_, m, fun Wp ρ H S d ds x xs Q w rx rl p => ?_⟩
  unfold semT0 at p
  split at p
  · rename_i a
    split at p
    · rename_i hl
      rw [RepL] at rl
      exact ⟨a, rep_str rx, rl, hC a hl, post_ok p w (hg a _ _)⟩
    · exact p.elim
  · exact p.elim
def semLower : SemM := semT0 fun a => .str (Txt.lower a)
def semUpper : SemM := semT0 fun a => .str (Txt.upper a)
def semIsupper : SemM := semT0 fun a => .bl (Txt.isupper a)
def semIslower : SemM := semT0 fun a => .bl (Txt.islower a)
theorem d_lower : MtD X "str.lower" semLower := d_t0 mt_lower (fun a h => by omega) fun _ _ _ => mk_str
theorem d_upper : MtD X "str.upper" semUpper := d_t0 mt_upper (fun a h => by omega) fun _ _ _ => mk_str
theorem d_isupper : MtD X "str.isupper" semIsupper := d_t0 mt_isupper (fun a h => trivial) fun _ _ _ => mk_bl
theorem d_islower : MtD X "str.islower" semIslower := d_t0 mt_islower (fun a h => trivial) fun _ _ _ => mk_bl
end
end Z
/-! Z7: dicts, stores into lists and dicts, slices. -/
namespace Z
open PySem PySem.Spec L2

/-! ### dicts as data -/
def kD : Key → D
  | .inl i => .int i
  | .inr s => .str s
def keyD : D → Option Key
  | .int i => some (.inl i)
  | .str s => some (.inr s)
  | _ => none
@[simp] theorem keyD_kD (k : Key) : keyD (kD k) = some k := by cases k <;> rfl
theorem keyD_eq {d : D} {k : Key} (h : keyD d = some k) : d = kD k := by
  cases d with
  | int i => cases h; rfl
  | str i => cases h; rfl
  | _ => cases h
def getK : List D → List D → Key → Option D
  | k :: ks, v :: vs, y => if keyD k = some y then some v else getK ks vs y
  | _, _, _ => none
def hasK (ks : List D) (y : Key) : Bool := ks.any fun k => decide (keyD k = some y)
def putV : List D → List D → Key → D → List D
  | k :: ks, v :: vs, y, d => (if keyD k = some y then d else v) :: putV ks vs y d
  | _, _, _, _ => []
def putKs (ks : List D) (y : Key) : List D := if hasK ks y = true then ks else ks ++ [kD y]
def putVs (ks vs : List D) (y : Key) (d : D) : List D := if hasK ks y = true then putV ks vs y d else vs ++ [d]
def asD (S : Store) : D → Option (List D × List D)
  | .dct ks vs => some (ks, vs)
  | .ptr n => match S[n]? with
    | some (.dct _ ks vs) => some (ks, vs)
    | _ => none
  | _ => none
section
variable {K : PySem.W.Frag} {mg : Str → Option Value} {ρ : List Addr} {H : Hp} {S : Store}
theorem rep_kV {d : D} {k : Key} (r : Rep K mg ρ H d (kV k)) : d = kD k := by
  cases d with
  | non => rw [Rep] at r; cases k <;> cases r
  | bl b => rw [Rep] at r; cases k <;> cases r
  | int i => rw [Rep] at r; cases k <;> cases r; rfl
  | str i => rw [Rep] at r; cases k <;> cases r; rfl
  | ty i => rw [Rep] at r; cases k <;> cases r
  | cls c => rw [Rep] at r; obtain ⟨_, _, e⟩ := r; cases k <;> cases e
  | tup xs => rw [Rep] at r; obtain ⟨_, _, e, _⟩ := r; cases k <;> cases e
  | lst xs => rw [Rep] at r; obtain ⟨_, _, e, _⟩ := r; cases k <;> cases e
  | dct xs ys => rw [Rep] at r; obtain ⟨_, _, _, e, _⟩ := r; cases k <;> cases e
  | ins c ns vs => rw [Rep] at r; obtain ⟨_, _, _, _, e, _⟩ := r; cases k <;> cases e
  | ptr n => rw [Rep] at r; obtain ⟨_, e, _⟩ := r; cases k <;> cases e
  | scr xs => rw [Rep] at r; obtain ⟨_, e, _⟩ := r; cases k <;> cases e
  | exc c ns vs => rw [Rep] at r; obtain ⟨_, _, _, _, e, _⟩ := r; cases k <;> cases e
  | lam T c => rw [Rep] at r; obtain ⟨_, e, _⟩ := r; cases k <;> cases e
  | lamc T c => rw [Rep] at r; obtain ⟨_, _, _, e, _⟩ := r; cases k <;> cases e
theorem mk_kV (k : Key) : Rep K mg ρ H (kD k) (kV k) := by cases k <;> rw [kD, kV, Rep]
theorem rep_keyD {d : D} {k : Key} {v : V} (r : Rep K mg ρ H d v) (h : keyD d = some k) : v = kV k := by
  rw [keyD_eq h] at r
  cases k with
  | inl i => exact rep_int r
  | inr i => exact rep_str r
theorem repK : ∀ {kvs : List (Key × V)} {ks : List D}, RepL K mg ρ H ks (kvs.map fun p => kV p.1) → ks = kvs.map fun p => kD p.1
  | [], ks, r => by
    cases ks with
    | nil => rfl
    | cons d ks => rw [RepL] at r; obtain ⟨_, _, e, _⟩ := r; cases e
  | p :: kvs, ks, r => by
    cases ks with
    | nil => rw [RepL] at r; cases r
    | cons d ks =>
      rw [RepL] at r
      obtain ⟨v, r', e, h1, h2⟩ := r
      rw [List.map_cons] at e
      injection e with e1 e2
      subst e1 e2
      rw [List.map_cons, rep_kV h1, repK h2]
theorem mkK : ∀ (kvs : List (Key × V)), RepL K mg ρ H (kvs.map fun p => kD p.1) (kvs.map fun p => kV p.1)
  | [] => RepL.nil
  | p :: kvs => RepL.cons (mk_kV p.1) (mkK kvs)
theorem asD_rep {d : D} {v : V} {p : List D × List D} (w : WOk K mg ρ H S) (r : Rep K mg ρ H d v) (h : asD S d = some p) : ∃ a kvs, v = .ref a ∧ Rd H a (.dK kvs) ∧ p.1 = kvs.map (fun p => kD p.1) ∧ RepL K mg ρ H p.2 (kvs.map (·.2)) := by
  cases d with
  | dct ks vs =>
    unfold asD at h
    cases h
    rw [Rep] at r
    obtain ⟨a, kv, vs', e, ⟨_, kvs, t, e1, e2⟩, r1, r2⟩ := r
    subst e1 e2
    exact ⟨a, kvs, e, t, repK r1, r2⟩
  | ptr n =>
    unfold asD at h
    simp only at h
    rw [Rep] at r
    obtain ⟨a, e, q⟩ := r
    split at h
    · rename_i lk ks vs em
      cases h
      obtain ⟨kvs, h1, r1, r2⟩ := w.ob n a _ q em
      refine ⟨a, kvs, e, ?_, repK r1, r2⟩
      cases lk with
      | true => rw [if_pos rfl] at h1; exact h1
      | false => rw [if_neg Bool.false_ne_true] at h1; exact .inl h1
    · cases h
  | _ => unfold asD at h; cases h
theorem getK_rep {y : Key} : ∀ {kvs : List (Key × V)} {ds : List D}, RepL K mg ρ H ds (kvs.map (·.2)) → (∀ d, getK (kvs.map fun p => kD p.1) ds y = some d → ∃ v, valV kvs y = some v ∧ Rep K mg ρ H d v) ∧ (valV kvs y).isSome = hasK (kvs.map fun p => kD p.1) y
  | [], ds, r => ⟨fun d h => by simp [getK] at h, by rw [valV_nil]; rfl⟩
  | p :: kvs, ds, r => by
    cases ds with
    | nil => rw [RepL] at r; cases r
    | cons d ds =>
      rw [RepL] at r
      obtain ⟨v, r', e, h1, h2⟩ := r
      rw [List.map_cons] at e
      injection e with e1 e2
      subst e1 e2
      obtain ⟨i1, i2⟩ := getK_rep (y := y) (kvs := kvs) h2
      by_cases q : p.1 = y
      · refine ⟨fun d' h => ?_, ?_⟩
        · rw [List.map_cons, getK, keyD_kD, q, if_pos rfl] at h
          cases h
          exact ⟨p.2, valV_pos q, h1⟩
        · rw [valV_pos q, List.map_cons, hasK, List.any_cons, keyD_kD, q]
          simp
      · refine ⟨fun d' h => ?_, ?_⟩
        · rw [List.map_cons, getK, keyD_kD, if_neg (fun z => q (Option.some.inj z))] at h
          obtain ⟨u, e3, r3⟩ := i1 d' h
          exact ⟨u, by rw [valV_neg q]; exact e3, r3⟩
        · rw [valV_neg q, List.map_cons, hasK, List.any_cons, keyD_kD, decide_eq_false (fun z => q (Option.some.inj z)), Bool.false_or]
          exact i2
theorem anyK (y : Key) (kvs : List (Key × V)) : (kvs.any fun kv => decide (kv.1 = y)) = hasK (kvs.map fun p => kD p.1) y := by
  induction kvs with
  | nil => rfl
  | cons p kvs ih =>
    rw [List.any_cons, List.map_cons, hasK, List.any_cons, keyD_kD]
    rw [show (kvs.any fun kv => decide (kv.1 = y)) = (List.map (fun p : Key × V => kD p.1) kvs).any (fun k => decide (keyD k = some y)) from ih]
    congr 1
    simp
theorem putV_rep {y : Key} {d : D} {v : V} (h : Rep K mg ρ H d v) : ∀ {kvs : List (Key × V)} {ds : List D}, RepL K mg ρ H ds (kvs.map (·.2)) → RepL K mg ρ H (putV (kvs.map fun p => kD p.1) ds y d) ((kvs.map fun kv => if kv.1 = y then (kv.1, v) else kv).map (·.2))
  | [], ds, r => by
    rw [List.map_nil, List.map_nil, List.map_nil]
    cases ds with
    | nil => exact RepL.nil
    | cons d ds => rw [RepL] at r; obtain ⟨_, _, e, _⟩ := r; cases e
  | p :: kvs, ds, r => by
    cases ds with
    | nil => rw [RepL] at r; cases r
    | cons d' ds =>
      rw [RepL] at r
      obtain ⟨v', r', e, h1, h2⟩ := r
      rw [List.map_cons] at e
      injection e with e1 e2
      subst e1 e2
      rw [List.map_cons, List.map_cons, List.map_cons, putV, keyD_kD]
      refine RepL.cons ?_ (putV_rep h h2)
      by_cases q : p.1 = y
      · rw [if_pos q, if_pos (by rw [q])]; exact h
      · rw [if_neg q, if_neg (fun z => q (Option.some.inj z))]; exact h1
theorem putK_rep {y : Key} {d : D} {v : V} (h : Rep K mg ρ H d v) {kvs : List (Key × V)} {ds : List D} (r : RepL K mg ρ H ds (kvs.map (·.2))) :
    putKs (kvs.map fun p => kD p.1) y = (putK kvs y v).map (fun p => kD p.1) ∧ RepL K mg ρ H (putVs (kvs.map fun p => kD p.1) ds y d) ((putK kvs y v).map (·.2)) := by
  unfold putKs putVs putK
  rw [← anyK y kvs]
  split
  · rename_i q
    refine ⟨?_, putV_rep h r⟩
    rw [List.map_map]
    refine List.map_congr_left fun p _ => ?_
    simp only [Function.comp]
    split <;> rfl
  · refine ⟨by rw [List.map_append]; rfl, ?_⟩
    rw [List.map_append]
    exact r.append (RepL.cons h RepL.nil)
end
section
variable {X : Cx}
/-- d[k] -/
def ixDct : Sem2 := fun d e S => match asD S d, keyD e with
  | some p, some k => (match getK p.1 p.2 k with
    | some v => .ok v S
    | none => .bad)
  | _, _ => .bad
theorem ix_dct (hu : X.A.units + 1 < cLine) : IxR X (fun x y H Q => ∃ a v, x = .ref a ∧ DGet H a y (some v) ∧ Q v H) := by
  intro value slice pins s σ H x y v u Q I rx ry h hs
  obtain ⟨a, z, rfl, g, q⟩ := h
  obtain rfl : v = Value.ref a := rx
  exact PyProof.Rows.tail_any (dict_typeIs I g) PySem.F.slot_dict_getitem.lookup (d_getItem hu I g ry fun w' s' I' rw' => ⟨z, H, I', rw', q⟩) hs
theorem d_ixDct (hu : X.A.units + 1 < cLine) : IxD X ixDct := by
  refine ⟨_, ix_dct hu, fun Wp ρ H S d e x y Q w rx ry p => ?_⟩
  unfold ixDct at p
  split at p
  · rename_i pr k ep ek
    split at p
    · rename_i v ev
      obtain ⟨a, kvs, e1, h1, e2, r2⟩ := asD_rep w rx ep
      rw [e2] at ev
      obtain ⟨u, e3, r3⟩ := (getK_rep r2).1 v ev
      exact ⟨a, u, e1, .inl ⟨kvs, k, h1, rep_keyD ry ek, e3.symm⟩, post_ok p w r3⟩
    · exact p.elim
  · exact p.elim
/-- k in d -/
def inDct (neg : Bool) : Sem2 := fun e d S => match asD S d, keyD e with
  | some p, some k => .ok (.bl (if neg = true then !hasK p.1 k else hasK p.1 k)) S
  | _, _ => .bad
theorem op_inDct (hu : X.A.units + 1 < cLine) : OpR X (compareOp .In) (fun y x H Q => ∃ a o, x = .ref a ∧ DGet H a y o ∧ Q (.bl o.isSome) H) := by
  intro pins s σ H x y v u Q I rx ry h
  obtain ⟨a, o, rfl, g, q⟩ := h
  obtain rfl : u = Value.ref a := ry
  exact d_in hu I g rx fun s' I' => ⟨.bl o.isSome, H, I', rfl, q⟩
theorem op_notInDct (hu : X.A.units + 1 < cLine) : OpR X (compareOp .NotIn) (fun y x H Q => ∃ a o, x = .ref a ∧ DGet H a y o ∧ Q (.bl (!o.isSome)) H) := by
  intro pins s σ H x y v u Q I rx ry h
  obtain ⟨a, o, rfl, g, q⟩ := h
  obtain rfl : u = Value.ref a := ry
  exact d_notIn hu I g rx fun s' I' => ⟨.bl (!o.isSome), H, I', rfl, q⟩
theorem d_inDct (hu : X.A.units + 1 < cLine) : OpD X (compareOp .In) (inDct false) := by
  refine ⟨_, op_inDct hu, fun Wp ρ H S d e x y Q w rx ry p => ?_⟩
  unfold inDct at p
  split at p
  · rename_i pr k ep ek
    obtain ⟨a, kvs, e1, h1, e2, r2⟩ := asD_rep w ry ep
    refine ⟨a, valV kvs k, e1, .inl ⟨kvs, k, h1, rep_keyD rx ek, rfl⟩, ?_⟩
    rw [(getK_rep (y := k) r2).2, ← e2]
    exact post_ok p w mk_bl
  · exact p.elim
theorem d_notInDct (hu : X.A.units + 1 < cLine) : OpD X (compareOp .NotIn) (inDct true) := by
  refine ⟨_, op_notInDct hu, fun Wp ρ H S d e x y Q w rx ry p => ?_⟩
  unfold inDct at p
  split at p
  · rename_i pr k ep ek
    obtain ⟨a, kvs, e1, h1, e2, r2⟩ := asD_rep w ry ep
    refine ⟨a, valV kvs k, e1, .inl ⟨kvs, k, h1, rep_keyD rx ek, rfl⟩, ?_⟩
    rw [(getK_rep (y := k) r2).2, ← e2]
    exact post_ok p w mk_bl
  · exact p.elim
/-! new dicts -/
section
variable {K : PySem.W.Frag} {mg : Str → Option Value} {ρ : List Addr} {H : Hp} {S : Store}
theorem post_dct {Wp : Value → Option Addr → Hp → Prop} {Q : VK} {ks vs : List D} {kvs : List (Key × V)} {p : Addr} (h : PostE K mg Wp ρ H Q (.ok (.dct ks vs) S)) (w : WOk K mg ρ H S) (e : ks = kvs.map fun p => kD p.1) (r : RepL K mg ρ H vs (kvs.map (·.2))) (hp : H p = none) : Q (.ref p) (upd H p (.dK kvs)) := by
  refine h (.ref p) ρ _ (Ext.new' hp) (w.new' hp) ?_
  rw [Rep]
  exact ⟨p, _, _, rfl, ⟨w.nin hp, kvs, .inl upd_same, rfl, rfl⟩, e ▸ mkK kvs, r.ext (Ext.new' hp)⟩
theorem post_dctH {Wp : Value → Option Addr → Hp → Prop} {Q : VK} {ks vs : List D} {kvs : List (Key × V)} {p : Addr} (h : PostE K mg Wp ρ H Q (.ok (.ptr S.length) (S ++ [.dct false ks vs]))) (w : WOk K mg ρ H S) (e : ks = kvs.map fun p => kD p.1) (r : RepL K mg ρ H vs (kvs.map (·.2))) (hp : H p = none) : Q (.ref p) (upd H p (.dK kvs)) := by
  refine h (.ref p) (ρ ++ [p]) _ (Ext.hand hp) (w.hand hp ⟨kvs, by rw [if_neg Bool.false_ne_true]; exact upd_same, e ▸ mkK kvs, r.ext (Ext.hand hp)⟩) ?_
  rw [Rep]
  exact ⟨p, rfl, by rw [← w.len]; simp⟩
end
def eDNewH : EX := fun _ S => .ok (.ptr S.length) (S ++ [.dct false [] []])
theorem r_dnewH {W : WX} {pos : Pos} : E X W (.Dict [] [] pos) eDNewH := PE.imp pe_dnewK fun σ H Q ⟨ρ, S, sl, w, rs, p⟩ a ha => post_dctH (kvs := []) p w rfl RepL.nil ha
/-- dict(d) -/
def semDictD : SemL := fun ds S => match ds with
  | [d] => (match asD S d with
    | some p => .ok (.ptr S.length) (S ++ [.dct false p.1 p.2])
    | none => .bad)
  | _ => .bad
theorem d_dictD : CallD X (.type "dict") semDictD := by
  refine ⟨_, call_dictD, fun Wp ρ H S ds xs Q w r p => ?_⟩
  unfold semDictD at p
  split at p
  · split at p
    · rename_i pr ep
      obtain ⟨v, e, h1⟩ := repL_one r
      obtain ⟨a, kvs, e1, h2, e2, r2⟩ := asD_rep w h1 ep
      exact ⟨a, kvs, by rw [e, e1], h2, fun l hl => post_dctH p w e2 r2 hl⟩
    · exact p.elim
  · exact p.elim
/-- dict(list of pairs) -/
def pairsOf : List D → Option (List (Key × D))
  | [] => some []
  | .tup [k, v] :: r => match keyD k, pairsOf r with
    | some y, some ps => some ((y, v) :: ps)
    | _, _ => none
  | _ :: _ => none
def mergeD : List (Key × D) → List D × List D → List D × List D
  | [], p => p
  | (k, v) :: r, p => mergeD r (putKs p.1 k, putVs p.1 p.2 k v)
def semDictP : SemL := fun ds S => match ds with
  | [d] => (match asL S d with
    | some xs => (match pairsOf xs with
      | some ps => .ok (.ptr S.length) (S ++ [.dct false (mergeD ps ([], [])).1 (mergeD ps ([], [])).2])
      | none => .bad)
    | none => .bad)
  | _ => .bad
section
variable {K : PySem.W.Frag} {mg : Str → Option Value} {ρ : List Addr} {H : Hp} {S : Store}
theorem pairs_rep : ∀ {xs : List D} {ps : List (Key × D)} {vs : List V}, pairsOf xs = some ps → RepL K mg ρ H xs vs → ∃ (as : List Addr) (kvs : List (Key × V)), vs = as.map V.ref ∧ Paired (fun p kv => SqT K H p [kV kv.1, kv.2]) as kvs ∧ kvs.map (·.1) = ps.map (·.1) ∧ RepL K mg ρ H (ps.map (·.2)) (kvs.map (·.2))
  | [], ps, vs, h, r => by
    cases h
    rw [RepL] at r
    exact ⟨[], [], r, .nil, rfl, RepL.nil⟩
  | x :: xs, ps, vs, h, r => by
    rw [RepL] at r
    obtain ⟨v, r', e, h1, h2⟩ := r
    subst e
    unfold pairsOf at h
    split at h
    · rename_i e0; cases e0
    · rename_i k d r0 e0
      injection e0 with e1 e2
      subst e1 e2
      split at h
      · rename_i y ps' ek ep
        cases h
        obtain ⟨as, kvs, e3, pr, e4, r4⟩ := pairs_rep ep h2
        rw [Rep] at h1
        obtain ⟨a, us, e5, t, r5⟩ := h1
        obtain ⟨u1, u2, e6, r6, r7⟩ := repL_two r5
        rw [e6, rep_keyD r6 ek] at t
        refine ⟨a :: as, (y, u2) :: kvs, by rw [e5, e3]; rfl, .cons t.sq pr, by rw [List.map_cons, List.map_cons, e4], ?_⟩
        exact RepL.cons r7 r4
      · cases h
    · cases h
theorem merge_rep : ∀ {ps : List (Key × D)} {kvs acc : List (Key × V)} {p : List D × List D}, kvs.map (·.1) = ps.map (·.1) → RepL K mg ρ H (ps.map (·.2)) (kvs.map (·.2)) → p.1 = acc.map (fun q => kD q.1) → RepL K mg ρ H p.2 (acc.map (·.2)) →
    (mergeD ps p).1 = (mergeK acc kvs).map (fun q => kD q.1) ∧ RepL K mg ρ H (mergeD ps p).2 ((mergeK acc kvs).map (·.2))
  | [], kvs, acc, p, e, r, e1, r1 => by
    have : kvs = [] := by simpa using e
    subst this
    exact ⟨e1, r1⟩
  | (k, d) :: ps, kvs, acc, p, e, r, e1, r1 => by
    cases kvs with
    | nil => simp at e
    | cons q kvs =>
      simp only [List.map_cons, List.cons.injEq] at e
      rw [List.map_cons, List.map_cons, RepL] at r
      obtain ⟨v, r', e', h1, h2⟩ := r
      injection e' with e2 e3
      subst e2 e3
      have z := putK_rep (y := k) h1 r1
      rw [← e1] at z
      have e4 : q.1 = k := e.1
      have := merge_rep (ps := ps) (kvs := kvs) (acc := putK acc q.1 q.2) (p := (putKs p.1 k, putVs p.1 p.2 k d)) e.2 h2 (by rw [e4]; exact z.1) (by rw [e4]; exact z.2)
      exact this
end
theorem d_dictP (hc : X.calm = true) : CallD X (.type "dict") semDictP := by
  refine ⟨_, call_dictP hc, fun Wp ρ H S ds xs Q w r p => ?_⟩
  unfold semDictP at p
  split at p
  · split at p
    · rename_i ys ey
      split at p
      · rename_i ps eps
        obtain ⟨v, e, h1⟩ := repL_one r
        obtain ⟨a, vs, e1, h3, r1⟩ := asL_rep w h1 ey
        obtain ⟨as, kvs, e2, pr, e3, r3⟩ := pairs_rep eps r1
        obtain ⟨z1, z2⟩ := merge_rep (acc := []) (p := ([], [])) e3 r3 rfl RepL.nil
        exact ⟨a, as, kvs, by rw [e, e1], .inl (.inl (by rw [← e2]; exact h3)), pr, fun l hl => post_dctH p w z1 z2 hl⟩
      · exact p.elim
    · exact p.elim
  · exact p.elim
/-- len(d) -/
theorem call_lenRd : CallR X (.builtin "len") (fun xs H Q => ∃ a kvs, xs = [V.ref a] ∧ Rd H a (.dK kvs) ∧ Q (.int kvs.length) H) := by
  intro pins s σ H xs us Q I r h
  obtain ⟨a, kvs, rfl, ha, q⟩ := h
  obtain ⟨u, rfl, ru⟩ := vals1 r
  cases ru
  exact L2.d_len I ha fun t s' I' => ⟨.int kvs.length, H, I', ⟨t, rfl⟩, q⟩
def semLenD : SemL := fun ds S => match ds with
  | [d] => (match asD S d with
    | some p => .ok (.int p.1.length) S
    | none => .bad)
  | _ => .bad
theorem d_lenD : CallD X (.builtin "len") semLenD := by
  refine ⟨_, call_lenRd, fun Wp ρ H S ds xs Q w r p => ?_⟩
  unfold semLenD at p
  split at p
  · split at p
    · rename_i pr ep
      obtain ⟨v, e, h1⟩ := repL_one r
      obtain ⟨a, kvs, e1, h2, e2, r2⟩ := asD_rep w h1 ep
      refine ⟨a, kvs, by rw [e, e1], h2, ?_⟩
      rw [e2, List.length_map] at p
      exact post_ok p w mk_int
    · exact p.elim
  · exact p.elim
/-- d.get(k), d.get(k, e) -/
def eGet1 (fd fk : EX) : EX := fun sl S => (fd sl S).bind fun d S1 => match asD S1 d with
  | some _ => (fk sl S1).bind fun e S2 => (match asD S2 d, keyD e with
    | some p, some k => .ok (if hasK p.1 k = true then (getK p.1 p.2 k).getD .non else .non) S2
    | _, _ => .bad)
  | none => .bad
def eGet2 (fd fk fx : EX) : EX := fun sl S => (fd sl S).bind fun d S1 => match asD S1 d with
  | some _ => (fk sl S1).bind fun e S2 => (fx sl S2).bind fun x S3 => (match asD S3 d, keyD e with
    | some p, some k => (match getK p.1 p.2 k with
      | some v => .ok v S3
      | none => if hasK p.1 k = true then .bad else .ok x S3)
    | _, _ => .bad)
  | none => .bad
section
variable {W : WX} {o e f : Expr} {fo fe ff : EX} {apos cpos : Pos}
theorem r_get2 (hu : X.A.units + 1 < cLine) (ho : E X W o fo) (he : E X W e fe) (hf : E X W f ff) (m : M2 X o "get" apos e f cpos) : E X W (.Call (.Attribute o "get" apos) [e, f] [] cpos) (eGet2 fo fe ff) := by
  refine PE.imp (pe_dget2 hu ho he hf m) fun σ H Q ⟨ρ, S, sl, w, rs, p⟩ => ?_
  refine ⟨ρ, S, sl, w, rs, PostE.mono (PostE.bindE p) fun x H1 ⟨ρ1, S1, d, x1, w1, r1, _, p1⟩ => ?_⟩
  split at p1
  · rename_i pr0 ep0
    obtain ⟨a, kvs0, e1, h1, _, _⟩ := asD_rep w1 r1 ep0
    refine ⟨a, e1, .inl ⟨kvs0, h1⟩, ρ1, S1, sl, w1, rs.ext x1, PostE.mono (PostE.bindE p1) fun y H2 ⟨ρ2, S2, e', x2, w2, r2, _, p2⟩ => ?_⟩
    refine ⟨ρ2, S2, sl, w2, rs.ext (x1.trans x2), PostE.mono (PostE.bindE p2) fun z H3 ⟨ρ3, S3, g, x3, w3, r3, _, p3⟩ => ?_⟩
    split at p3
    · rename_i pr k ep ek
      obtain ⟨a', kvs, e2, h2, e3, r4⟩ := asD_rep w3 (r1.ext (x2.trans x3)) ep
      have ea : a' = a := by rw [e1] at e2; cases e2; rfl
      subst ea
      refine ⟨valV kvs k, .inl ⟨kvs, k, h2, rep_keyD (r2.ext x3) ek, rfl⟩, ?_⟩
      have g1 := getK_rep (y := k) r4
      split at p3
      · rename_i v ev
        rw [e3] at ev
        obtain ⟨u, e5, r5⟩ := g1.1 v ev
        rw [e5]
        exact post_ok p3 w3 r5
      · split at p3
        · exact p3.elim
        · rename_i hk
          have : valV kvs k = none := by
            have := g1.2
            rw [← e3] at this
            cases q : valV kvs k with
            | none => rfl
            | some u => rw [q] at this; exact absurd this.symm hk
          rw [this]
          exact post_ok p3 w3 r3
    · exact p3.elim
  · exact p1.elim
end

/-! ### o[i] = v -/
def setD (o i v : D) (S : Store) : Option Store := match o with
  | .ptr n => (match S[n]? with
    | some (.lst xs) => (match i with
      | .int k => (match ixN xs.length k with
        | some j => some (S.set n (.lst (xs.set j v)))
        | none => none)
      | _ => none)
    | some (.dct false ks vs) => (match keyD i with
      | some k => if ks.length < 1000000 then some (S.set n (.dct false (putKs ks k) (putVs ks vs k v))) else none
      | none => none)
    | _ => none)
  | _ => none
def rSetU : V → V → V → Hp → (Hp → Prop) → Prop := fun o i v H Q => rSetL o i v H Q ∨ rSetD o i v H Q
theorem set_u (hu : X.A.units + 1 < cLine) : PSet X rSetU := by
  intro pins s σ H o i v ov iv u Q I ro ri rv h
  rcases h with h | h
  · exact set_list pins s σ H o i v ov iv u Q I ro ri rv h
  · exact set_dict hu pins s σ H o i v ov iv u Q I ro ri rv h
theorem setD_rep {K : PySem.W.Frag} {mg : Str → Option Value} {ρ : List Addr} {H : Hp} {S S' : Store} {o i v : D} {x y z : V} {Q : Hp → Prop} (w : WOk K mg ρ H S) (ro : Rep K mg ρ H o x) (ri : Rep K mg ρ H i y) (rv : Rep K mg ρ H v z) (h : setD o i v S = some S')
    (k : ∀ H', Ext ρ H ρ H' → WOk K mg ρ H' S' → Q H') : rSetU x y z H Q := by
  unfold setD at h
  split at h
  · rename_i n
    split at h
    · rename_i xs ex
      split at h
      · rename_i k0
        split at h
        · rename_i j ej
          cases h
          obtain ⟨a, vs, e1, q, h1, r1⟩ := ptr_lst w ro ex
          refine .inl ⟨a, vs, k0, j, e1, rep_int ri, h1, by rw [← r1.len]; exact ej, k _ (Ext.putL q) (w.put q ⟨_, upd_same, (r1.set rv j).ext (Ext.putL q)⟩)⟩
        · cases h
      · cases h
    · rename_i ks vs ex
      split at h
      · rename_i k0 ek
        split at h
        · rename_i hl
          cases h
          obtain ⟨a, kvs, e1, q, h1, r1, r2⟩ := ptr_dct w ro ex
          have eks := repK r1
          obtain ⟨z1, z2⟩ := putK_rep (y := k0) rv r2
          rw [← eks] at z1 z2
          refine .inr ⟨a, _, e1, .inl ⟨kvs, k0, h1, rep_keyD ri ek, ?_, rfl⟩, k _ (Ext.putL q) (w.put q ⟨putK kvs k0 z, by rw [if_neg Bool.false_ne_true]; exact upd_same, ?_, z2.ext (Ext.putL q)⟩)⟩
          · have e : ks.length = kvs.length := by rw [eks, List.length_map]
            rw [← e]
            have := line_of (n := ks.length + 1) (by omega)
            omega
          · rw [z1]; exact mkK _
        · cases h
      · cases h
    · cases h
  · cases h
def gSubX (fo fi : EX) : GX := fun v sl S => match fo sl S with
  | .ok o S1 => (match fi sl S1 with
    | .ok i S2 => (match setD o i v S2 with
      | some S3 => .nx sl S3
      | none => .bad)
    | _ => .bad)
  | _ => .bad
theorem nx_sub (fo fi : EX) (d : D) (sl : Sl) (S : Store) : (∃ sl' S', gSubX fo fi d sl S = .nx sl' S') ∨ gSubX fo fi d sl S = .bad := by
  unfold gSubX
  split
  · split
    · split
      · exact .inl ⟨_, _, rfl⟩
      · exact .inr rfl
    · exact .inr rfl
  · exact .inr rfl
section
variable {W : WX} {o i e : Expr} {fo fi fe : EX} {pos : Pos}
theorem g_sub (hu : X.A.units + 1 < cLine) (ho : E X W o fo) (hi : E X W i fi)
    (ha : ∀ v, assign (.Subscript o i pos) X.env v = (do
      let ov ← holding [v] (eval o X.env)
      let iv ← holding [v, ov] (eval i X.env)
      standAt pos
      holding [v, ov, iv] (setItem ov iv v)
      release [v, ov, iv] []) := by intro _; rfl) : EG X W (.Subscript o i pos) (gSubX fo fi) := by
  refine PG.imp (pg_sub ho hi (set_u hu) ha) fun v σ H Q ⟨ρ, S, sl, d, w, rs, rv, p⟩ => ?_
  have p : PostS X.K X.mg W ρ H ⟨Q, fun _ _ => False, fun _ _ => False, fun _ _ => False⟩ (gSubX fo fi d sl S) := p
  unfold gSubX at p
  split at p
  · rename_i o' S1 eo
    split at p
    · rename_i i' S2 ei
      split at p
      · rename_i S3 es
        refine ⟨ρ, S, sl, w, rs, ?_⟩
        rw [eo]
        intro x ρ1 H1 x1 w1 r1
        refine ⟨ρ1, S1, sl, w1, rs.ext x1, ?_⟩
        rw [ei]
        intro y ρ2 H2 x2 w2 r2
        refine setD_rep w2 (r1.ext x2) r2 (rv.ext (x1.trans x2)) es fun H' xx ww => ?_
        have xt := (x1.trans x2).trans xx
        exact p _ ρ2 H' xt ww (rs.ext xt)
      · exact p.elim
    · exact p.elim
  · exact p.elim
theorem PostS.ofEx {K : PySem.W.Frag} {mg : Str → Option Value} {ρ : List Addr} {H : Hp} {W : WX} {Dd : Ends} {σ : L2.St} {sl : Sl} {o : Out D} {k : D → Store → SO} (rs : RSt K mg ρ H σ sl) (h : PostS K mg W ρ H Dd (o.toS sl k)) :
    PostE K mg (fun C d H' => W C d σ H') ρ H (fun v H1 => ∃ ρ1 S1 d, Ext ρ H ρ1 H1 ∧ WOk K mg ρ1 H1 S1 ∧ RSt K mg ρ1 H1 σ sl ∧ Rep K mg ρ1 H1 d v ∧ PostS K mg W ρ1 H1 Dd (k d S1)) o := by
  cases o with
  | ok d S => exact fun v ρ2 H2 y w r => ⟨ρ2, S, d, y, w, rs.ext y, r, PostS.from y h⟩
  | ex e S => exact fun C dd ρ2 H2 y w r => h C dd σ ρ2 H2 y w (rs.ext y) r
  | bad => exact h
/-- o[i] op= e, ints in a list -/
theorem get_list : PGet X (rIxL X.K) := by
  intro pins s σ H x y v u Q I rx ry h
  obtain ⟨p, xs, i, z, rfl, rfl, hq, he, q⟩ := h
  cases rx
  obtain ⟨t, rfl⟩ := ry
  obtain ⟨its, r, pl, hz⟩ := I.list hq
  obtain ⟨j, h1, h2, h3, h4, h5⟩ := atI_get he
  obtain ⟨w, ew, rw'⟩ := r.get h2
  have hl := r.length
  have hn := line63
  have fin : EP X pins σ Q w s := ⟨z, H, I, rw', q⟩
  by_cases h0 : 0 ≤ i
  · have hj : i.toNat = j := by
      rw [seqIndex_of h0 h5] at h1
      exact Option.some.inj h1
    exact wpAny_getItem_list pl.isList h0 (by omega) (by rw [hj]; simpa using ew) fin
  · have hj : (i + (its.toArray.size : Int)).toNat = j := by
      rw [seqIndex_neg (by omega) h4] at h1
      rw [List.size_toArray, ← hl]
      exact Option.some.inj h1
    exact wpAny_getItem_list_neg pl.isList (by omega) (by rw [List.size_toArray] <;> omega) (by omega) (by rw [hj]; simpa using ew) fin
def sAugSub (op : Int → Int → Int) (fo fi fe : EX) : SX := fun sl S => (fo sl S).toS sl fun o S1 => (fi sl S1).toS sl fun i S2 => match asL S2 o, i with
  | some xs, .int k => (match atI xs k with
    | some (.int a) => (fe sl S2).toS sl fun e S3 => (match e with
      | .int b => (match setD o i (.int (op a b)) S3 with
        | some S4 => .nx sl S4
        | none => .bad)
      | _ => .bad)
    | _ => .bad)
  | _, _ => .bad
theorem s_augSub {op : Operator} {g : Int → Int → Int} {tpos : Pos} (hu : X.A.units + 1 < cLine) (hp : PIp X op (ipI g)) (ho : E X W o fo) (hi : E X W i fi) (he : E X W e fe)
    (ha : ∀ ov iv new, augStore i ov iv new = (do holding [new, ov, iv] (setItem ov iv new); release [new, ov, iv] []; pure .next) := by intros; rfl) : ES X W (.AugAssign (.Subscript o i tpos) op e pos) (sAugSub g fo fi fe) := by
  refine PS.imp (ps_augS ho hi get_list he hp (set_u hu) ha) fun D σ H ⟨ρ, S, sl, w, rs, p⟩ => ?_
  refine ⟨ρ, S, sl, w, rs, PostE.mono (PostS.ofEx rs p) fun x H1 ⟨ρ1, S1, o', x1, w1, rs1, r1, p1⟩ => ?_⟩
  refine ⟨ρ1, S1, sl, w1, rs1, PostE.mono (PostS.ofEx rs1 p1) fun y H2 ⟨ρ2, S2, i', x2, w2, rs2, r2, p2⟩ => ?_⟩
  split at p2
  · rename_i xs k ex
    split at p2
    · rename_i a ea
      obtain ⟨l, vs, e1, h1, rl⟩ := asL_rep w2 (r1.ext x2) ex
      obtain ⟨v, h2, r3⟩ := atI_rep rl ea
      refine ⟨l, vs, k, v, e1, rep_int r2, .inl (.inl h1), h2, ?_⟩
      refine ⟨ρ2, S2, sl, w2, rs2, PostE.mono (PostS.ofEx rs2 p2) fun z H3 ⟨ρ3, S3, e', x3, w3, rs3, r4, p3⟩ => ?_⟩
      split at p3
      · rename_i b
        split at p3
        · rename_i S4 e4
          refine ⟨a, b, rep_int r3, rep_int r4, setD_rep w3 (r1.ext (x2.trans x3)) (r2.ext x3) (mk_int (i := g a b)) e4 fun H' xx ww => ?_⟩
          exact p3 _ ρ3 H' xx ww (rs3.ext xx)
        · exact p3.elim
      · exact p3.elim
    · exact p2.elim
  · exact p2.elim
end
end
end Z
/-! Z8: slices, what is walked, list comprehensions. -/
namespace Z
open PySem PySem.Spec L2

/-! ### slices -/
def cutD (xs : List D) (lo hi : Option Int) : List D := (xs.drop (HT.sIx xs.length 0 lo)).take (HT.sIx xs.length xs.length hi - HT.sIx xs.length 0 lo)
def semSl (hand : Bool) : D → Option Int → Option Int → Store → Out D := fun d lo hi S => match d with
  | .str s => if s.length ≤ 1000000 then .ok (.str (cutS s lo hi)) S else .bad
  | .tup xs => .ok (.tup (cutD xs lo hi)) S
  | d => (match asS S d with
    | some xs => if hand = true then .ok (.ptr S.length) (S ++ [.lst (cutD xs lo hi)]) else .ok (.lst (cutD xs lo hi)) S
    | none => .bad)
abbrev OX := Sl → Store → Out (Option Int)
def oNone : OX := fun _ S => .ok none S
def oInt (f : EX) : OX := fun sl S => (f sl S).bind fun d S1 => match d with
  | .int i => .ok (some i) S1
  | _ => .bad
def eSl (hand : Bool) (fa : EX) (fl fu : OX) : EX := fun sl S => (fa sl S).bind fun d S1 => (fl sl S1).bind fun l S2 => (fu sl S2).bind fun u S3 => semSl hand d l u S3
section
variable {K : PySem.W.Frag} {mg : Str → Option Value} {ρ ρ' : List Addr} {H H' : Hp} {W : Value → Option Addr → Hp → Prop}
def PostO (K : PySem.W.Frag) (mg : Str → Option Value) (W : Value → Option Addr → Hp → Prop) (ρ : List Addr) (H : Hp) (Q : Option Int → Hp → Prop) : Out (Option Int) → Prop
  | .ok b S' => ∀ ρ' H', Ext ρ H ρ' H' → WOk K mg ρ' H' S' → Q b H'
  | .ex e S' => ∀ C dd ρ' H', Ext ρ H ρ' H' → WOk K mg ρ' H' S' → ExRep K mg ρ' H' e C dd → W C dd H'
  | .bad => False
theorem PostO.mono {Q Q' : Option Int → Hp → Prop} {o : Out (Option Int)} (h : PostO K mg W ρ H Q o) (k : ∀ v H', Q v H' → Q' v H') : PostO K mg W ρ H Q' o := by
  cases o with
  | ok d S => exact fun ρ' H' x w => k _ _ (h ρ' H' x w)
  | ex e S => exact h
  | bad => exact h
theorem asS_lst {S : Store} {d : D} {v : V} {ds : List D} (w : WOk K mg ρ H S) (r : Rep K mg ρ H d v) (h : asS S d = some ds) (hn : ∀ ys, d ≠ .tup ys) : ∃ a vs, v = .ref a ∧ SqL K H a vs ∧ RepL K mg ρ H ds vs := by
  cases d with
  | tup xs => exact absurd rfl (hn xs)
  | scr xs =>
    unfold asS at h
    cases h
    rw [Rep] at r
    obtain ⟨a, e, t⟩ := r
    exact ⟨a, _, e, t.sq, repL_ints xs⟩
  | lst xs =>
    obtain ⟨a, vs, e, h1, h2⟩ := asL_rep w r (show asL S (.lst xs) = some ds from h)
    exact ⟨a, vs, e, .inl (.inl h1), h2⟩
  | ptr n =>
    obtain ⟨a, vs, e, h1, h2⟩ := asL_rep w r (show asL S (.ptr n) = some ds from h)
    exact ⟨a, vs, e, .inl (.inl h1), h2⟩
  | _ => unfold asS asL at h; cases h
theorem PostO.bindE {Q : V → Hp → Prop} {o : Out (Option Int)} {k : Option Int → Store → Out D} (h : PostE K mg W ρ H Q (o.bind k)) :
    PostO K mg W ρ H (fun b H1 => ∃ ρ1 S1, Ext ρ H ρ1 H1 ∧ WOk K mg ρ1 H1 S1 ∧ PostE K mg W ρ1 H1 Q (k b S1)) o := by
  cases o with
  | ok d S => exact fun ρ2 H2 y w => ⟨ρ2, S, y, w, PostE.from y h⟩
  | ex e S => exact h
  | bad => exact h
end
section
variable {X : Cx} {W : WX}
/-- a slice's part -/
def EO (X : Cx) (W : WX) (e : Option Expr) (f : OX) : Prop := PO X e fun σ H Q => ∃ ρ S sl, WOk X.K X.mg ρ H S ∧ RSt X.K X.mg ρ H σ sl ∧ PostO X.K X.mg (fun C d H' => W C d σ H') ρ H Q (f sl S)
theorem PO.imp {e : Option Expr} {t t' : TO} (h : PO X e t) (k : ∀ σ H Q, t' σ H Q → t σ H Q) : PO X e t' := ⟨fun pins s σ H Q I q => h.run pins s σ H Q I (k σ H Q q)⟩
theorem o_none : EO X W none oNone := PO.imp po_none fun σ H Q ⟨ρ, S, sl, w, rs, p⟩ => p ρ H Ext.refl w
theorem o_int {e : Expr} {f : EX} (he : E X W e f) : EO X W (some e) (oInt f) := PO.imp (po_some he) fun σ H Q ⟨ρ, S, sl, w, rs, p⟩ => by
  refine ⟨ρ, S, sl, w, rs, ?_⟩
  have p : PostO X.K X.mg (fun C d H' => W C d σ H') ρ H Q ((f sl S).bind fun d S1 => match d with
    | .int i => .ok (some i) S1
    | _ => .bad) := p
  cases q : f sl S with
  | bad => rw [q] at p; exact p
  | ex e S1 => rw [q] at p; exact p
  | ok d S1 =>
    rw [q] at p
    intro v ρ1 H1 x1 w1 r1
    cases d with
    | int i => exact ⟨i, rep_int r1, p ρ1 H1 x1 w1⟩
    | _ => exact p.elim
theorem cutD_rep {K : PySem.W.Frag} {mg : Str → Option Value} {ρ : List Addr} {H : Hp} {xs : List D} {vs : List V} (lo hi : Option Int) (r : RepL K mg ρ H xs vs) : RepL K mg ρ H (cutD xs lo hi) (cutV vs lo hi) := by
  unfold cutD cutV
  rw [r.len]
  exact (r.drop _).take _
theorem cutD_all {xs : List D} {lo hi : Option Int} (h : HT.sIx xs.length 0 lo = 0 ∧ HT.sIx xs.length xs.length hi = xs.length) : cutD xs lo hi = xs := by
  unfold cutD
  rw [h.1, h.2]
  simp
theorem r_sl {hand : Bool} {a : Expr} {lo hi : Option Expr} {fa : EX} {fl fu : OX} {p2 pos : Pos} (ha : E X W a fa) (hl : EO X W lo fl) (hh : EO X W hi fu) : E X W (.Subscript a (.Slice lo hi none p2) pos) (eSl hand fa fl fu) := by
  refine PE.imp (pe_slice ((sl_list (X := X)).or ((sl_tupA (X := X)).or sl_str)) ha hl hh) fun σ H Q ⟨ρ, S, sl, w, rs, p⟩ => ?_
  refine ⟨ρ, S, sl, w, rs, PostE.mono (PostE.bindE p) fun x H1 ⟨ρ1, S1, d, x1, w1, r1, _, p1⟩ => ?_⟩
  refine ⟨ρ1, S1, sl, w1, rs.ext x1, PostO.mono (PostO.bindE p1) fun l H2 ⟨ρ2, S2, x2, w2, p2⟩ => ?_⟩
  refine ⟨ρ2, S2, sl, w2, rs.ext (x1.trans x2), PostO.mono (PostO.bindE p2) fun u H3 ⟨ρ3, S3, x3, w3, p3⟩ => ?_⟩
  have r3 := r1.ext (x2.trans x3)
  have go : ∀ xs, asS S3 d = some xs → (∀ ys, d ≠ .tup ys) → PostE X.K X.mg (fun C d H' => W C d σ H') ρ3 H3 Q (if hand = true then .ok (.ptr S3.length) (S3 ++ [.lst (cutD xs l u)]) else .ok (.lst (cutD xs l u)) S3) → rSlL X.K x l u H3 Q := fun xs ex hn p => by
    obtain ⟨a, vs, e1, h1, r4⟩ := asS_lst w3 r3 ex hn
    refine ⟨a, vs, e1, h1, fun p' hp => ?_⟩
    cases hand with
    | true => rw [if_pos rfl] at p; exact post_lstH p w3 (cutD_rep l u r4) hp
    | false => rw [if_neg Bool.false_ne_true] at p; exact post_lst p w3 (cutD_rep l u r4) hp
  cases d with
  | str s =>
    unfold semSl at p3
    simp only at p3
    split at p3
    · rename_i hl
      exact .inr (.inr ⟨s, rep_str r3, line_of hl, post_ok p3 w3 mk_str⟩)
    · exact p3.elim
  | tup xs =>
    have p3 : PostE X.K X.mg (fun C d H' => W C d σ H') ρ3 H3 Q (.ok (.tup (cutD xs l u)) S3) := p3
    have r3' := r3
    rw [Rep] at r3
    obtain ⟨a, vs, e1, t, r4⟩ := r3
    refine .inr (.inl ⟨a, vs, e1, t.sq, fun h => ?_, fun h p' hp => post_tup p3 w3 (cutD_rep l u r4) hp⟩)
    rw [← r4.len] at h
    rw [cutD_all h] at p3
    rw [← e1]
    exact post_ok p3 w3 r3'
  | lst xs => exact .inl (go xs rfl (by intros; nofun) p3)
  | scr xs => exact .inl (go _ rfl (by intros; nofun) p3)
  | ptr n =>
    have p3 : PostE X.K X.mg (fun C d H' => W C d σ H') ρ3 H3 Q (match asS S3 (.ptr n) with
      | some xs => if hand = true then .ok (.ptr S3.length) (S3 ++ [.lst (cutD xs l u)]) else .ok (.lst (cutD xs l u)) S3
      | none => .bad) := p3
    split at p3
    · rename_i ys ey
      exact .inl (go ys ey (by intros; nofun) p3)
    · exact p3.elim
  | _ => exact p3.elim
end
end Z
/-! Z9: what is walked; list comprehensions. -/
namespace Z
open PySem PySem.Spec L2 Za

section
variable {X : Cx} {W : WX} {tg e : Expr}
theorem pi_or {t1 t2 : TI} (h1 : PI X tg e t1) (h2 : PI X tg e t2) : PI X tg e fun σ H R => t1 σ H R ∨ t2 σ H R := ⟨fun pins s σ H R I h => by
  rcases h with h | h
  · exact h1.run pins s σ H R I h
  · exact h2.run pins s σ H R I h⟩
/-- a dict's keys: the dict is locked for good -/
theorem pi_keysF {td : TE} (he : PE X e td) : PI X tg e fun σ H R => td σ H fun x H1 => ∃ d kvs, x = .ref d ∧ ((H1 d = some (.dK kvs) ∧ ∀ o, R (Itk d o kvs) (upd H1 d (.frz o (.dK kvs)))) ∨ ∃ o, H1 d = some (.frz o (.dK kvs)) ∧ R (Itk d o kvs) H1) := by
  refine ⟨fun pins s σ H R I h => ?_⟩
  refine thn (he.run pins s σ H _ I h) fun u s1 ⟨x, H1, I1, rx, d, kvs, ex, q⟩ => ?_
  subst ex
  obtain rfl : u = Value.ref d := rx
  have go : ∀ (H2 : Hp) (o : Obj), Inv X pins σ H2 s1 → H2 d = some (.frz o (.dK kvs)) → R (Itk d o kvs) H2 → wpAny (model X.prog X.w) X.A (pyIter (.ref d)) (PIE X pins σ tg R) X.xe s1 := fun H2 o I2 hd q => by
    obtain ⟨hs, hgd, hx, es, ep, vs, hdt, hsz, kv, hm⟩ := I2.frzK hd
    refine iter_keys hs hgd hx hdt (pi_one (tk := s1.toks) I2 _ (turn_keys _ hdt) ⟨_, Heap.get?_push_size _ rfl, rfl, ?_⟩ q)
    rw [hsz] <;> rfl
  rcases q with ⟨hd, q⟩ | ⟨o, hd, q⟩
  · obtain ⟨od, I2⟩ := I1.lock hd trivial
    exact go _ od I2 upd_same (q od)
  · exact go _ o I1 hd q
end

/-! ### sources -/
def signsD (s : Str) : List D := s.cps.toList.map fun c => D.str ⟨#[c]⟩
def srcD (S : Store) : D → Option (List D)
  | .str s => some (signsD s)
  | d => asS S d
section
variable {K : PySem.W.Frag} {mg : Str → Option Value} {ρ : List Addr} {H : Hp} {S : Store}
theorem mk_signs : ∀ (l : List Nat), RepL K mg ρ H (l.map fun c => D.str ⟨#[c]⟩) (l.map fun c => V.str ⟨#[c]⟩)
  | [] => RepL.nil
  | c :: l => RepL.cons mk_str (mk_signs l)
theorem src_rep {d : D} {v : V} {xs : List D} (w : WOk K mg ρ H S) (r : Rep K mg ρ H d v) (h : srcD S d = some xs) :
    ∃ c : Src, c.val = v ∧ ∀ ρ' H' S' xs', Ext ρ H ρ' H' → WOk K mg ρ' H' S' → srcD S' d = some xs' → ∃ vs, c.At K H' vs ∧ RepL K mg ρ' H' xs' vs := by
  have lst : (∀ ys, d ≠ .tup ys) → (∀ s, d ≠ .str s) → asS S d = some xs → ∃ c : Src, c.val = v ∧ ∀ ρ' H' S' xs', Ext ρ H ρ' H' → WOk K mg ρ' H' S' → srcD S' d = some xs' → ∃ vs, c.At K H' vs ∧ RepL K mg ρ' H' xs' vs := fun hn hs e => by
    obtain ⟨a, vs, e1, _, _⟩ := asS_lst w r e hn
    refine ⟨.L a, e1.symm, fun ρ' H' S' xs' x w' e' => ?_⟩
    have e'' : asS S' d = some xs' := by
      cases d with
      | str s => exact absurd rfl (hs s)
      | _ => exact e'
    obtain ⟨a', vs', e2, h2, r2⟩ := asS_lst w' (r.ext x) e'' hn
    rw [e1] at e2
    cases e2
    exact ⟨vs', h2, r2⟩
  cases d with
  | str s =>
    refine ⟨.S s, (rep_str r).symm, fun ρ' H' S' xs' x w' e' => ?_⟩
    cases e'
    exact ⟨_, rfl, mk_signs _⟩
  | tup ys =>
    cases h
    have r' := r
    rw [Rep] at r
    obtain ⟨a, vs, e1, t, r1⟩ := r
    refine ⟨.T a, e1.symm, fun ρ' H' S' xs' x w' e' => ?_⟩
    cases e'
    have r2 := r'.ext x
    rw [Rep] at r2
    obtain ⟨a', vs', e2, t', r3⟩ := r2
    rw [e1] at e2
    cases e2
    exact ⟨vs', t'.sq, r3⟩
  | lst ys => exact lst (by intros; nofun) (by intros; nofun) h
  | scr ys => exact lst (by intros; nofun) (by intros; nofun) h
  | ptr n => exact lst (by intros; nofun) (by intros; nofun) h
  | _ => cases h
/-- walking a source's items as they are -/
theorem walk_src {c : Src} {d : D} {xs : List D} (hq : ∀ ρ' H' S', Ext ρ H ρ' H' → WOk K mg ρ' H' S' → srcD S' d = some xs → ∃ vs, c.At K H' vs ∧ RepL K mg ρ' H' xs vs) {J : It}
    (hJ : J = match c with
      | .L a => Itl K a
      | .T a => Itt K a
      | .S x => Its x) : IWalk K mg J xs (fun S' => srcD S' d = some xs) ρ H := by
  subst hJ
  cases c with
  | L a =>
    refine ⟨fun i ρ' H' S' hi x w g => ?_, fun ρ' H' S' x w g => ?_, fun i ρ' H' S' v H2 hi x w g y => ?_⟩
    · obtain ⟨vs, h1, r1⟩ := hq ρ' H' S' x w g
      exact ⟨vs, vs[i]'(by rw [← r1.len]; exact hi), h1, by simp⟩
    · obtain ⟨vs, h1, r1⟩ := hq ρ' H' S' x w g
      exact ⟨vs, h1, by rw [r1.len]; exact Nat.le_refl _⟩
    · obtain ⟨vs, h1, r1⟩ := hq ρ' H' S' x w g
      obtain ⟨rfl, y⟩ := y
      obtain ⟨d', e, r⟩ := r1.get' (y vs h1)
      exact ⟨d', e, Ext.refl, w, r⟩
  | T a =>
    refine ⟨fun i ρ' H' S' hi x w g => ?_, fun ρ' H' S' x w g => ?_, fun i ρ' H' S' v H2 hi x w g y => ?_⟩
    · obtain ⟨vs, h1, r1⟩ := hq ρ' H' S' x w g
      exact ⟨vs, vs[i]'(by rw [← r1.len]; exact hi), h1, by simp⟩
    · obtain ⟨vs, h1, r1⟩ := hq ρ' H' S' x w g
      exact ⟨vs, h1, by rw [r1.len]; exact Nat.le_refl _⟩
    · obtain ⟨vs, h1, r1⟩ := hq ρ' H' S' x w g
      obtain ⟨rfl, y⟩ := y
      obtain ⟨d', e, r⟩ := r1.get' (y vs h1)
      exact ⟨d', e, Ext.refl, w, r⟩
  | S s =>
    refine ⟨fun i ρ' H' S' hi x w g => ?_, fun ρ' H' S' x w g => ?_, fun i ρ' H' S' v H2 hi x w g y => ?_⟩
    · obtain ⟨vs, h1, r1⟩ := hq ρ' H' S' x w g
      have h1 : vs = s.cps.toList.map fun c => V.str ⟨#[c]⟩ := h1
      have := r1.len
      rw [h1, List.length_map] at this
      show i < s.cps.size
      rw [this] at hi
      simpa using hi
    · obtain ⟨vs, h1, r1⟩ := hq ρ' H' S' x w g
      have h1 : vs = s.cps.toList.map fun c => V.str ⟨#[c]⟩ := h1
      have := r1.len
      rw [h1, List.length_map] at this
      show s.cps.size ≤ xs.length
      rw [this]
      simp
    · obtain ⟨vs, h1, r1⟩ := hq ρ' H' S' x w g
      have h1 : vs = s.cps.toList.map fun c => V.str ⟨#[c]⟩ := h1
      obtain ⟨rfl, c, ec, ev⟩ := y
      obtain ⟨d', e, r⟩ := r1.get' (i := i) (v := v) (by rw [h1, ev]; simp [ec])
      exact ⟨d', e, Ext.refl, w, r⟩
end
section
variable {X : Cx} {W : WX} {tg e e2 : Expr} {f : EX} {fa : AX} {p pos tpos : Pos} {elts : List Expr} {kk : Nat}
def itK : D → Store → Out (List D × (Store → Prop)) := fun d S1 => match d with
  | .dct ks vs => .ok (ks, fun _ => True) S1
  | d => (match srcD S1 d with
    | some xs => .ok (xs, fun S2 => srcD S2 d = some xs) S1
    | none => .bad)
def itAny (f : EX) : IX := fun sl S => (f sl S).bind itK
theorem post_i {K : PySem.W.Frag} {mg : Str → Option Value} {ρ : List Addr} {H : Hp} {S : Store} {Wp : Value → Option Addr → Hp → Prop} {R : It → Hp → Prop} {xs : List D} {G : Store → Prop} {J : It} (h : PostI K mg Wp ρ H R (.ok (xs, G) S)) (w : WOk K mg ρ H S) (i : IWalk K mg J xs G ρ H) : R J H := h ρ H J Ext.refl w i
theorem PostI.from {K : PySem.W.Frag} {mg : Str → Option Value} {ρ ρ' : List Addr} {H H' : Hp} {Wp : Value → Option Addr → Hp → Prop} {R : It → Hp → Prop} {o : Out (List D × (Store → Prop))} (x : Ext ρ H ρ' H') (h : PostI K mg Wp ρ H R o) : PostI K mg Wp ρ' H' R o := by
  cases o with
  | ok p S => exact fun ρ2 H2 J y w i => h ρ2 H2 J (x.trans y) w i
  | ex e S => exact fun C dd ρ2 H2 y w r => h C dd ρ2 H2 (x.trans y) w r
  | bad => exact h
theorem PostI.bindE {K : PySem.W.Frag} {mg : Str → Option Value} {ρ : List Addr} {H : Hp} {Wp : Value → Option Addr → Hp → Prop} {R : It → Hp → Prop} {o : Out D} {k : D → Store → Out (List D × (Store → Prop))} (h : PostI K mg Wp ρ H R (o.bind k)) :
    PostE K mg Wp ρ H (fun v H1 => ∃ ρ1 S1 d, Ext ρ H ρ1 H1 ∧ WOk K mg ρ1 H1 S1 ∧ Rep K mg ρ1 H1 d v ∧ o = .ok d S1 ∧ PostI K mg Wp ρ1 H1 R (k d S1)) o := by
  cases o with
  | ok d S => exact fun v ρ2 H2 y w r => ⟨ρ2, S, d, y, w, r, rfl, PostI.from y h⟩
  | ex e S => exact h
  | bad => exact h
theorem PostI.bindA {K : PySem.W.Frag} {mg : Str → Option Value} {ρ : List Addr} {H : Hp} {Wp : Value → Option Addr → Hp → Prop} {R : It → Hp → Prop} {o : Out (List D)} {k : List D → Store → Out (List D × (Store → Prop))} (h : PostI K mg Wp ρ H R (o.bind k)) :
    PostA K mg Wp ρ H (fun v H1 => ∃ ρ1 S1 d, Ext ρ H ρ1 H1 ∧ WOk K mg ρ1 H1 S1 ∧ RepL K mg ρ1 H1 d v ∧ PostI K mg Wp ρ1 H1 R (k d S1)) o := by
  cases o with
  | ok d S => exact fun v ρ2 H2 y w r => ⟨ρ2, S, d, y, w, r, PostI.from y h⟩
  | ex e S => exact h
  | bad => exact h
/-- a dict walked -/
theorem Ext.lock {ρ : List Addr} {H : Hp} {d : Addr} {o : Obj} {kvs : List (Key × V)} (n : d ∉ ρ) (h : H d = some (.dK kvs)) : Ext ρ H ρ (upd H d (.frz o (.dK kvs))) := by
  refine ⟨⟨[], by simp⟩, fun a h n => absurd h n, fun a u n' h' => ?_⟩
  by_cases q : a = d
  · subst q
    rw [h] at h'
    cases h'
    exact .inr ⟨⟨kvs, rfl⟩, o, upd_same⟩
  · exact .inl (by rw [upd_ne q]; exact h')
theorem WOk.lock {K : PySem.W.Frag} {mg : Str → Option Value} {ρ : List Addr} {H : Hp} {S : Store} {d : Addr} {o : Obj} {kvs : List (Key × V)} (w : WOk K mg ρ H S) (n : d ∉ ρ) (h : H d = some (.dK kvs)) : WOk K mg ρ (upd H d (.frz o (.dK kvs))) S := by
  have ne : ∀ a ∈ ρ, a ≠ d := fun a ha q => n (q ▸ ha)
  refine ⟨w.len, w.nd, fun a ha => by rw [upd_ne (ne a ha)]; exact w.tr a ha, fun n' a m e1 e2 => ?_⟩
  have ha : a ∈ ρ := List.mem_of_getElem? e1
  exact MRep.ext (Ext.lock n h) (upd_ne (ne a ha)) (w.ob n' a m e1 e2)
theorem walk_keys {K : PySem.W.Frag} {mg : Str → Option Value} {ρ : List Addr} {H : Hp} {d : Addr} {o : Obj} {kvs : List (Key × V)} (n : d ∉ ρ) (h : H d = some (.frz o (.dK kvs))) : IWalk K mg (Itk d o kvs) (kvs.map fun p => kD p.1) (fun _ => True) ρ H := by
  have st : ∀ ρ' H', Ext ρ H ρ' H' → H' d = some (.frz o (.dK kvs)) := fun ρ' H' x => x.kept n h (by intros; nofun)
  refine ⟨fun i ρ' H' S' hi x w g => ⟨st ρ' H' x, by simpa using hi⟩, fun ρ' H' S' x w g => ⟨st ρ' H' x, by simp⟩, fun i ρ' H' S' v H2 hi x w g y => ?_⟩
  obtain ⟨rfl, k, u, e, ev⟩ := y
  refine ⟨kD k, by rw [List.getElem?_map, e]; rfl, Ext.refl, w, ?_⟩
  rw [ev]
  exact mk_kV k
theorem i_any (he : E X W e f) : EI X W tg e (itAny f) := by
  refine PI.imp (pi_or (pi_or (pi_list (tg := tg) he) (pi_tup he)) (pi_or (pi_str he) (pi_keysF he))) fun σ H R ⟨ρ, S, sl, w, rs, p⟩ => ?_
  have p' := PostI.bindE p
  cases q : f sl S with
  | bad => rw [q] at p'; exact p'.elim
  | ex e S1 => exact .inl (.inl ⟨ρ, S, sl, w, rs, by rw [q] at p' ⊢; exact p'⟩)
  | ok d S1 =>
    have key : ∀ (g : V → Hp → Prop), (∀ v ρ1 H1, WOk X.K X.mg ρ1 H1 S1 → Rep X.K X.mg ρ1 H1 d v → PostI X.K X.mg (fun C d H' => W C d σ H') ρ1 H1 R (itK d S1) → g v H1) → trE X.K X.mg W f σ H g := fun g hg => ⟨ρ, S, sl, w, rs, PostE.mono p' fun v H1 ⟨ρ1, S1', d', x1, w1, r1, eq, p1⟩ => by
        rw [q] at eq
        cases eq
        exact hg v ρ1 H1 w1 r1 p1⟩
    have none_ : srcD S1 d = none → (∀ ks vs, d ≠ .dct ks vs) → ∀ (v : V) ρ1 H1, PostI X.K X.mg (fun C d H' => W C d σ H') ρ1 H1 R (itK d S1) → False := fun ex hn v ρ1 H1 p1 => by
      cases d with
      | dct ks vs => exact absurd rfl (hn ks vs)
      | _ => simp only [itK, ex] at p1; exact p1
    have lst : (∀ ks vs, d ≠ .dct ks vs) → (∀ ys, d ≠ .tup ys) → (∀ s, d ≠ .str s) → iList X.K (trE X.K X.mg W f) σ H R := fun h1 h2 h3 => by
      refine key _ fun v ρ1 H1 w1 r1 p1 => ?_
      cases ex : srcD S1 d with
      | none => exact (none_ ex h1 v ρ1 H1 p1).elim
      | some xs =>
        have ex' : asS S1 d = some xs := by
          cases d with
          | str s => exact absurd rfl (h3 s)
          | _ => exact ex
        obtain ⟨a, vs, e1, g1, _⟩ := asS_lst w1 r1 ex' h2
        have p2 : PostI X.K X.mg (fun C d H' => W C d σ H') ρ1 H1 R (.ok (xs, fun S2 => srcD S2 d = some xs) S1) := by
          cases d with
          | dct ks vs => exact absurd rfl (h1 ks vs)
          | _ => simp only [itK, ex] at p1; exact p1
        refine ⟨a, e1, ⟨vs, g1⟩, post_i p2 w1 (walk_src (c := .L a) (fun ρ' H' S' x' w' g' => ?_) rfl)⟩
        have g'' : asS S' d = some xs := by
          cases d with
          | str s => exact absurd rfl (h3 s)
          | _ => exact g'
        obtain ⟨a', vs', e2, q2, r2⟩ := asS_lst w' (r1.ext x') g'' h2
        rw [e1] at e2
        cases e2
        exact ⟨vs', q2, r2⟩
    cases d with
    | dct ks vs =>
      refine .inr (.inr (key _ fun v ρ1 H1 w1 r1 p1 => ?_))
      have r1' := r1
      rw [Rep] at r1
      obtain ⟨a, kv, vs', e1, ⟨n, kvs, t, z1, z2⟩, r2, r3⟩ := r1
      subst z1 z2
      have ek := repK r2
      refine ⟨a, kvs, e1, ?_⟩
      have p1 : PostI X.K X.mg (fun C d H' => W C d σ H') ρ1 H1 R (.ok (ks, fun _ => True) S1) := p1
      rcases t with t | ⟨o, t⟩
      · refine .inl ⟨t, fun o => ?_⟩
        refine PostI.from (Ext.lock n t) p1 ρ1 _ _ Ext.refl (w1.lock n t) ?_
        rw [ek]
        exact walk_keys n upd_same
      · refine .inr ⟨o, t, post_i p1 w1 ?_⟩
        rw [ek]
        exact walk_keys n t
    | str s =>
      refine .inr (.inl (key _ fun v ρ1 H1 w1 r1 p1 => ?_))
      refine ⟨s, rep_str r1, ?_⟩
      exact post_i (show PostI X.K X.mg (fun C d H' => W C d σ H') ρ1 H1 R (.ok (signsD s, fun S2 => srcD S2 (.str s) = some (signsD s)) S1) from p1) w1 (walk_src (c := .S s) (fun ρ' H' S' x' w' g' => ⟨_, rfl, mk_signs _⟩) rfl)
    | tup ys =>
      refine .inl (.inr (key _ fun v ρ1 H1 w1 r1 p1 => ?_))
      have r1' := r1
      rw [Rep] at r1
      obtain ⟨a, vs, e1, t, r2⟩ := r1
      refine ⟨a, e1, ⟨vs, t.sq⟩, ?_⟩
      refine post_i (show PostI X.K X.mg (fun C d H' => W C d σ H') ρ1 H1 R (.ok (ys, fun S2 => srcD S2 (.tup ys) = some ys) S1) from p1) w1 (walk_src (c := .T a) (fun ρ' H' S' x' w' g' => ?_) rfl)
      have r3 := r1'.ext x'
      rw [Rep] at r3
      obtain ⟨a', vs', e2, t', r4⟩ := r3
      rw [e1] at e2
      cases e2
      exact ⟨vs', t'.sq, r4⟩
    | _ => exact .inl (.inl (lst (by intros; nofun) (by intros; nofun) (by intros; nofun)))
/-! range -/
def rangeD (lo : Int) (n : Nat) : List D := (List.range n).map fun (i : Nat) => D.int (lo + i)
def itRange1 (fa : AX) : IX := fun sl S => (fa sl S).bind fun ds S1 => match ds with
  | [.int j] => if -(2 ^ 62) ≤ j ∧ j < 2 ^ 62 then .ok (rangeD 0 j.toNat, fun _ => True) S1 else .bad
  | _ => .bad
def itRange2 (fa : AX) : IX := fun sl S => (fa sl S).bind fun ds S1 => match ds with
  | [.int i, .int j] => if -(2 ^ 62) ≤ i ∧ i < 2 ^ 62 ∧ -(2 ^ 62) ≤ j ∧ j < 2 ^ 62 then .ok (rangeD i (j - i).toNat, fun _ => True) S1 else .bad
  | _ => .bad
theorem walk_range {K : PySem.W.Frag} {mg : Str → Option Value} {ρ : List Addr} {H : Hp} (lo : Int) (n : Nat) : IWalk K mg (Itr lo n) (rangeD lo n) (fun _ => True) ρ H := by
  refine ⟨fun i ρ' H' S' hi x w g => by show i < n; simpa [rangeD] using hi, fun ρ' H' S' x w g => by show n ≤ _; simp [rangeD], fun i ρ' H' S' v H2 hi x w g y => ?_⟩
  obtain ⟨rfl, ev⟩ := y
  have hi : i < n := by simpa [rangeD] using hi
  exact ⟨.int (lo + i), by simp [rangeD, hi], Ext.refl, w, by rw [ev]; exact mk_int⟩
theorem i_range1 (ha : EA X W [e] fa) (hg : Gl X "range") (hm : X.mg "range" = none) (hs : starEach [e] X.env = [(false, eval e X.env)] := by rfl) : EI X W tg (.Call (.Name "range" p) [e] [] pos) (itRange1 fa) := by
  refine PI.imp (pi_range1 hg hm ha hs) fun σ H R ⟨ρ, S, sl, w, rs, p⟩ => ⟨ρ, S, sl, w, rs, PostA.mono (PostI.bindA p) fun vs H1 ⟨ρ1, S1, ds, x1, w1, r1, p1⟩ => ?_⟩
  split at p1
  · rename_i j
    split at p1
    · rename_i hj
      obtain ⟨v, e1, r2⟩ := repL_one r1
      rw [rep_int r2] at e1
      exact ⟨j, e1, hj.1, hj.2, post_i p1 w1 (walk_range 0 _)⟩
    · exact p1.elim
  · exact p1.elim
theorem i_range2 (ha : EA X W [e, e2] fa) (hg : Gl X "range") (hm : X.mg "range" = none) (hs : starEach [e, e2] X.env = [(false, eval e X.env), (false, eval e2 X.env)] := by rfl) (hs2 : starEach [e2] X.env = [(false, eval e2 X.env)] := by rfl) : EI X W tg (.Call (.Name "range" p) [e, e2] [] pos) (itRange2 fa) := by
  refine PI.imp (pi_range2 hg hm ha hs hs2) fun σ H R ⟨ρ, S, sl, w, rs, p⟩ => ⟨ρ, S, sl, w, rs, PostA.mono (PostI.bindA p) fun vs H1 ⟨ρ1, S1, ds, x1, w1, r1, p1⟩ => ?_⟩
  split at p1
  · rename_i i j
    split at p1
    · rename_i hj
      obtain ⟨v, u, e1, r2, r3⟩ := repL_two r1
      rw [rep_int r2, rep_int r3] at e1
      exact ⟨i, j, e1, hj, post_i p1 w1 (walk_range i _)⟩
    · exact p1.elim
  · exact p1.elim
/-! zip, enumerate -/
def zipD (xs ys : List D) : List D := List.zipWith (fun x y => .tup [x, y]) xs ys
def itZip (fa : AX) : IX := fun sl S => (fa sl S).bind fun ds S1 => match ds with
  | [d, e] => (match srcD S1 d, srcD S1 e with
    | some xs, some ys => .ok (zipD xs ys, fun S2 => srcD S2 d = some xs ∧ srcD S2 e = some ys) S1
    | _, _ => .bad)
  | _ => .bad
theorem i_zip (ha : EA X W [e, e2] fa) (hg : Gl X "zip") (hm : X.mg "zip" = none)
    (hs : starEach [e, e2] X.env = (false, eval e X.env) :: starEach [e2] X.env := by rfl) (hpl : (backTo pos (starEach [e2] X.env)).any (·.1) = false := by rfl) : EI X W (.Tuple elts kk tpos) (.Call (.Name "zip" p) [e, e2] [] pos) (itZip fa) := by
  refine PI.imp (pi_zipU hg hm ha hs hpl) fun σ H R ⟨ρ, S, sl, w, rs, p⟩ => ⟨ρ, S, sl, w, rs, PostA.mono (PostI.bindA p) fun vs H1 ⟨ρ1, S1, ds, x1, w1, r1, p1⟩ => ?_⟩
  split at p1
  · rename_i d d'
    split at p1
    · rename_i xs ys ex ey
      obtain ⟨v, u, e1, r2, r3⟩ := repL_two r1
      obtain ⟨c, ec, hc⟩ := src_rep w1 r2 ex
      obtain ⟨c', ec', hc'⟩ := src_rep w1 r3 ey
      obtain ⟨us, h1, _⟩ := hc ρ1 H1 S1 xs Ext.refl w1 ex
      obtain ⟨us', h1', _⟩ := hc' ρ1 H1 S1 ys Ext.refl w1 ey
      refine ⟨c, c', us, us', by rw [e1, ec, ec'], h1, h1', post_i p1 w1 ?_⟩
      refine ⟨fun i ρ' H' S' hi x w g => ?_, fun ρ' H' S' x w g => ?_, fun i ρ' H' S' v H2 hi x w g y => ?_⟩
      · obtain ⟨vs, q1, t1⟩ := hc ρ' H' S' xs x w g.1
        obtain ⟨vs', q2, t2⟩ := hc' ρ' H' S' ys x w g.2
        simp only [zipD, List.length_zipWith] at hi
        have l1 := t1.len
        have l2 := t2.len
        exact ⟨vs, vs', vs[i]'(by omega), vs'[i]'(by omega), q1, q2, by simp, by simp⟩
      · obtain ⟨vs, q1, t1⟩ := hc ρ' H' S' xs x w g.1
        obtain ⟨vs', q2, t2⟩ := hc' ρ' H' S' ys x w g.2
        have l1 := t1.len
        have l2 := t2.len
        refine ⟨vs, vs', q1, q2, ?_⟩
        simp only [zipD, List.length_zipWith]
        omega
      · obtain ⟨vs, q1, t1⟩ := hc ρ' H' S' xs x w g.1
        obtain ⟨vs', q2, t2⟩ := hc' ρ' H' S' ys x w g.2
        obtain ⟨T, a, b, ev, hT, rfl, y1, y2⟩ := y
        obtain ⟨d1, g1, k1⟩ := t1.get' (y1 vs q1)
        obtain ⟨d2, g2, k2⟩ := t2.get' (y2 vs' q2)
        refine ⟨.tup [d1, d2], by simp [zipD, List.getElem?_zipWith, g1, g2], Ext.new' hT, w.new' hT, ?_⟩
        rw [Rep]
        exact ⟨T, _, ev, .inl ⟨w.nin hT, upd_same⟩, RepL.cons (k1.ext (Ext.new' hT)) (RepL.cons (k2.ext (Ext.new' hT)) RepL.nil)⟩
    · exact p1.elim
  · exact p1.elim
def enumD : Nat → List D → List D
  | _, [] => []
  | i, x :: xs => .tup [.int i, x] :: enumD (i + 1) xs
theorem enumD_len : ∀ (i : Nat) (xs : List D), (enumD i xs).length = xs.length
  | _, [] => rfl
  | i, x :: xs => by rw [enumD, List.length_cons, List.length_cons, enumD_len]
theorem enumD_get : ∀ (i : Nat) (xs : List D) (j : Nat), (enumD i xs)[j]? = xs[j]?.map fun x => .tup [.int ((i + j : Nat) : Int), x]
  | _, [], j => by simp [enumD]
  | i, x :: xs, 0 => by simp [enumD]
  | i, x :: xs, j + 1 => by
    rw [enumD, List.getElem?_cons_succ, List.getElem?_cons_succ, enumD_get]
    congr 2
    funext x
    congr 3
    omega
def itEnum (fa : AX) : IX := fun sl S => (fa sl S).bind fun ds S1 => match ds with
  | [d] => (match srcD S1 d with
    | some xs => .ok (enumD 0 xs, fun S2 => srcD S2 d = some xs) S1
    | _ => .bad)
  | _ => .bad
theorem i_enum (ha : EA X W [e] fa) (hg : Gl X "enumerate") (hm : X.mg "enumerate" = none) (hs : starEach [e] X.env = [(false, eval e X.env)] := by rfl) : EI X W (.Tuple elts kk tpos) (.Call (.Name "enumerate" p) [e] [] pos) (itEnum fa) := by
  refine PI.imp (pi_enumU hg hm ha hs) fun σ H R ⟨ρ, S, sl, w, rs, p⟩ => ⟨ρ, S, sl, w, rs, PostA.mono (PostI.bindA p) fun vs H1 ⟨ρ1, S1, ds, x1, w1, r1, p1⟩ => ?_⟩
  split at p1
  · rename_i d
    split at p1
    · rename_i xs ex
      obtain ⟨v, e1, r2⟩ := repL_one r1
      obtain ⟨c, ec, hc⟩ := src_rep w1 r2 ex
      obtain ⟨us, h1, _⟩ := hc ρ1 H1 S1 xs Ext.refl w1 ex
      refine ⟨c, us, by rw [e1, ec], h1, post_i p1 w1 ?_⟩
      refine ⟨fun i ρ' H' S' hi x w g => ?_, fun ρ' H' S' x w g => ?_, fun i ρ' H' S' v H2 hi x w g y => ?_⟩
      · obtain ⟨vs, q1, t1⟩ := hc ρ' H' S' xs x w g
        rw [enumD_len] at hi
        exact ⟨vs, vs[i]'(by rw [← t1.len]; exact hi), q1, by simp⟩
      · obtain ⟨vs, q1, t1⟩ := hc ρ' H' S' xs x w g
        exact ⟨vs, q1, by rw [enumD_len, t1.len]⟩
      · obtain ⟨vs, q1, t1⟩ := hc ρ' H' S' xs x w g
        obtain ⟨T, a, ev, hT, rfl, y1⟩ := y
        obtain ⟨d1, g1, k1⟩ := t1.get' (y1 vs q1)
        refine ⟨.tup [.int ((0 + i : Nat) : Int), d1], by rw [enumD_get, g1]; rfl, Ext.new' hT, w.new' hT, ?_⟩
        rw [Rep]
        exact ⟨T, _, ev, .inl ⟨w.nin hT, upd_same⟩, RepL.cons (by rw [Nat.zero_add]; exact mk_int) (RepL.cons (k1.ext (Ext.new' hT)) RepL.nil)⟩
    · exact p1.elim
  · exact p1.elim
end
end Z
/-! ZA: list comprehensions. -/
namespace Z
open PySem PySem.Spec L2

/-- the block's own slots forgotten -/
def wipeS (sl : Sl) : List Nat → Sl
  | [] => sl
  | v :: vs => (wipeS sl vs).set v none
theorem wipeS_len (sl : Sl) : ∀ vs, (wipeS sl vs).length = sl.length
  | [] => rfl
  | v :: vs => by rw [wipeS, List.length_set, wipeS_len]
theorem wipe_set {σ : L2.St} {i : Nat} {x : Option V} : ∀ {vs : List Nat}, i ∈ vs → wipe (σ.set i x) vs = wipe σ vs
  | v :: vs, h => by
    rw [wipe, wipe]
    by_cases hi : i = v
    · subst hi
      by_cases hv : i ∈ vs
      · rw [wipe_set hv]
      · have : ∀ ws : List Nat, i ∉ ws → wipe (σ.set i x) ws = (wipe σ ws).set i x := by
          intro ws
          induction ws with
          | nil => intro _; rfl
          | cons w ws ih =>
            intro hn
            rw [wipe, wipe, ih (fun q => hn (List.mem_cons_of_mem _ q))]
            exact List.set_comm _ _ (fun q => hn (by rw [q]; exact List.mem_cons_self))
        rw [this vs hv, List.set_set]
    · rw [wipe_set (by rcases List.mem_cons.mp h with q | q; exact absurd q hi; exact q)]
theorem wipe_wipe {σ : L2.St} : ∀ {vs us : List Nat}, (∀ v ∈ us, v ∈ vs) → wipe (wipe σ us) vs = wipe σ vs
  | vs, [], _ => rfl
  | vs, u :: us, h => by
    rw [show wipe σ (u :: us) = (wipe σ us).set u none from rfl, wipe_set (h u List.mem_cons_self)]
    exact wipe_wipe fun v hv => h v (List.mem_cons_of_mem _ hv)
theorem RSt.wipe {K : PySem.W.Frag} {mg : Str → Option Value} {ρ : List Addr} {H : Hp} {σ : L2.St} {sl : Sl} (r : RSt K mg ρ H σ sl) : ∀ vs : List Nat, RSt K mg ρ H (L2.wipe σ vs) (wipeS sl vs)
  | [] => r
  | v :: vs => by
    have ih := RSt.wipe r vs
    refine ⟨by rw [wipe_length, wipeS_len]; exact r.len, fun j d e => ?_⟩
    rw [wipeS] at e
    rw [L2.wipe]
    by_cases hj : v = j
    · subst hj
      by_cases hl : v < (wipeS sl vs).length
      · rw [List.getElem?_set_self hl] at e; cases e
      · rw [List.getElem?_eq_none (by simpa using hl)] at e; cases e
    · rw [List.getElem?_set_ne hj] at e ⊢
      exact ih.at_ j d e

/-! ### targets within the block -/
def trGw (K : PySem.W.Frag) (mg : Str → Option Value) (W : WX) (vs : List Nat) (ω : L2.St) (g : GX) : TG := fun v σ H Q => ∃ ρ S sl d, WOk K mg ρ H S ∧ RSt K mg ρ H σ sl ∧ Rep K mg ρ H d v ∧ L2.wipe σ vs = ω ∧ PostS K mg W ρ H ⟨fun σ' H' => L2.wipe σ' vs = ω → Q σ' H', fun _ _ => False, fun _ _ => False, fun _ _ => False⟩ (g d sl S)
def trGsw (K : PySem.W.Frag) (mg : Str → Option Value) (W : WX) (vs : List Nat) (ω : L2.St) (g : GXs) : TGs := fun v σ H Q => ∃ ρ S sl d, WOk K mg ρ H S ∧ RSt K mg ρ H σ sl ∧ RepL K mg ρ H d v ∧ L2.wipe σ vs = ω ∧ PostS K mg W ρ H ⟨fun σ' H' => L2.wipe σ' vs = ω → Q σ' H', fun _ _ => False, fun _ _ => False, fun _ _ => False⟩ (g d sl S)
def EGw (X : Cx) (W : WX) (vs : List Nat) (tg : Expr) (g : GX) : Prop := ∀ ω, PG X tg (trGw X.K X.mg W vs ω g)
def EGsw (X : Cx) (W : WX) (vs : List Nat) (tg : List Expr) (g : GXs) : Prop := ∀ ω, PGs X tg (trGsw X.K X.mg W vs ω g)
section
variable {X : Cx} {W : WX} {vs : List Nat} {pos : Pos}
theorem gw_name {i : Nat} {x : Str} (hN : X.N.Nodup) (hi : X.N[i]? = some x := by rfl) (hx : Loc X.env.scope x := by first | exact Or.inl rfl | exact Or.inr rfl) (hf : X.fn x = true ∨ X.env.scope.names.lookup x = some .local := by first | exact .inl rfl | exact .inr rfl) (hv : i ∈ vs := by decide) : EGw X W vs (.Name x pos) (gSet i) := fun ω =>
  PG.imp (pg_name hN hi hx hf) fun v σ H Q ⟨ρ, S, sl, d, w, rs, rv, ew, p⟩ => p _ ρ H Ext.refl w (rs.set rv i) (by rw [wipe_set hv]; exact ew)
theorem gsw_nil : EGsw X W vs [] gNilX := fun ω => PGs.imp pgs_nil fun v σ H Q ⟨ρ, S, sl, ds, w, rs, rv, ew, p⟩ => by
  cases ds with
  | nil =>
    rw [RepL] at rv
    exact ⟨rv, p _ ρ H Ext.refl w rs ew⟩
  | cons d r => exact p.elim
theorem gsw_cons {t : Expr} {ts : List Expr} {g : GX} {gs : GXs} (h : EGw X W vs t g) (hr : EGsw X W vs ts gs) (hs : (assignEach (t :: ts) X.env).map (·.2) = assign t X.env :: (assignEach ts X.env).map (·.2) := by rfl) : EGsw X W vs (t :: ts) (gConsX g gs) := fun ω =>
  PGs.imp (pgs_cons (h ω) (hr ω) hs) fun v σ H Q ⟨ρ, S, sl, ds, w, rs, rv, ew, p⟩ => by
    cases ds with
    | nil => exact p.elim
    | cons d r =>
      rw [RepL] at rv
      obtain ⟨v1, vr, e, h1, h2⟩ := rv
      subst e
      refine ⟨v1, vr, rfl, ρ, S, sl, d, w, rs, h1, ew, ?_⟩
      have p : PostS X.K X.mg W ρ H ⟨fun σ' H' => L2.wipe σ' vs = ω → Q σ' H', fun _ _ => False, fun _ _ => False, fun _ _ => False⟩ ((g d sl S).then (gs r)) := p
      cases q : g d sl S with
      | nx sl1 S1 =>
        rw [q] at p
        exact fun σ1 ρ1 H1 x1 w1 r1 e1 => ⟨ρ1, S1, sl1, r, w1, r1, h2.ext x1, e1, PostS.from x1 p⟩
      | bk sl1 S1 => rw [q] at p; exact p
      | ct sl1 S1 => rw [q] at p; exact p
      | rt d1 S1 => rw [q] at p; exact p
      | ex e1 sl1 S1 => rw [q] at p; exact p
      | bad => rw [q] at p; exact p
theorem gw_tup {es : List Expr} {k : Nat} {gs : GXs} {n : Nat} (hc : X.calm = true) (h : EGsw X W vs es gs) (hl : ∀ ds sl S, gs ds sl S ≠ .bad → ds.length = n) (hn : (assignEach es X.env).length = n := by rfl) (hst : (assignEach es X.env).findIdx? (·.1) = none := by rfl) : EGw X W vs (.Tuple es k pos) (gTupX gs) := fun ω =>
  PG.imp (pg_tup hc (h ω) hn hst) fun v σ H Q ⟨ρ, S, sl, d, w, rs, rv, ew, p⟩ => by
    cases d with
    | tup ds =>
      rw [Rep] at rv
      obtain ⟨a, us, e, t, r⟩ := rv
      have p : PostS X.K X.mg W ρ H ⟨fun σ' H' => L2.wipe σ' vs = ω → Q σ' H', fun _ _ => False, fun _ _ => False, fun _ _ => False⟩ (gs ds sl S) := p
      exact ⟨a, us, e, t.sq, by rw [← r.len]; exact hl ds sl S (fun q => by rw [q] at p; exact p), ρ, S, sl, ds, w, rs, r, ew, p⟩
    | _ => exact p.elim
/-! ### the tests -/
def bTrue : BX := fun _ S => .ok true S
def ETs (X : Cx) (W : WX) (ifs : List Expr) (f : BX) : Prop := PTs X ifs (trB X.K X.mg W f)
theorem PTs.imp {ifs : List Expr} {t t' : TT} (h : PTs X ifs t) (k : ∀ σ H Q, t' σ H Q → t σ H Q) : PTs X ifs t' := ⟨fun pins s σ H Q I q => h.run pins s σ H Q I (k σ H Q q)⟩
theorem ts_nil : ETs X W [] bTrue := PTs.imp pts_nil fun σ H Q ⟨ρ, S, sl, w, rs, p⟩ => p ρ H Ext.refl w
theorem ts_one {c : Expr} {f : BX} (h : EB X W c f) : ETs X W [c] f := pts_one h
end

/-! ### the loop -/
def WF : WX := fun _ _ _ _ => False
noncomputable def lcL (G : Store → Prop) (g : GX) (bt : BX) (fe : EX) (n : Nat) (sl : Sl) : List D → Store → Out Unit
  | [], S => open Classical in if G S then .ok () S else .bad
  | x :: xs, S => open Classical in if G S then (match g x sl S with
    | .nx sl1 S1 => (match bt sl1 S1 with
      | .ok true S2 => (match fe sl1 S2 with
        | .ok d S3 => (match S3[n]? with
          | some (.lst acc) => if acc.length < 1000000 then lcL G g bt fe n sl xs (S3.set n (.lst (acc ++ [d]))) else .bad
          | _ => .bad)
        | _ => .bad)
      | .ok false S2 => lcL G g bt fe n sl xs S2
      | _ => .bad)
    | _ => .bad) else .bad
/-- [fe for g in it if bt]: a new list by a handle -/
noncomputable def eLc (it : IX) (g : GX) (bt : BX) (fe : EX) (own : List Nat) : EX := fun sl S => (it sl S).bind fun p S1 => (lcL p.2 g bt fe S1.length (wipeS sl own) p.1 (S1 ++ [.lst []])).bind fun _ S2 => .ok (.ptr S1.length) S2
section
variable {X : Cx} {W : WX} {pos : Pos}
theorem lc_imp {it : IX} {g : GX} {bt : BX} {fe : EX} {own : List Nat} {K : PySem.W.Frag} {mg : Str → Option Value} {σ : L2.St} {H : Hp} {Q : VK} (h : trE K mg W (eLc it g bt fe own) σ H Q) :
    tLc (trI K mg W it) (trGw K mg WF own (L2.wipe σ own) g) (trB K mg WF bt) (trE K mg WF fe) own σ H Q := by
  obtain ⟨ρ, S, sl, w, rs, p⟩ := h
  refine ⟨ρ, S, sl, w, rs, ?_⟩
  have p : PostE K mg (fun C d H' => W C d σ H') ρ H Q ((it sl S).bind fun p S1 => (lcL p.2 g bt fe S1.length (wipeS sl own) p.1 (S1 ++ [.lst []])).bind fun _ S2 => .ok (.ptr S1.length) S2) := p
  cases q : it sl S with
  | bad => rw [q] at p; exact p
  | ex e S1 => rw [q] at p; exact p
  | ok pr S1 =>
    rw [q] at p
    obtain ⟨xs, G⟩ := pr
    intro ρ1 H1 J x1 w1 iw D hD
    have p1 : PostE K mg (fun C d H' => W C d σ H') ρ1 H1 Q ((lcL G g bt fe S1.length (wipeS sl own) xs (S1 ++ [.lst []])).bind fun _ S2 => .ok (.ptr S1.length) S2) := PostE.from x1 p
    have x2 : Ext ρ1 H1 (ρ1 ++ [D]) (upd H1 D (.lst [])) := Ext.hand hD
    have w2 : WOk K mg (ρ1 ++ [D]) (upd H1 D (.lst [])) (S1 ++ [.lst []]) := w1.hand hD ⟨[], upd_same, RepL.nil⟩
    have rw' : RSt K mg (ρ1 ++ [D]) (upd H1 D (.lst [])) (L2.wipe σ own) (wipeS sl own) := ((rs.ext x1).ext x2).wipe own
    have hDn : (ρ1 ++ [D])[S1.length]? = some D := by rw [← w1.len]; simp
    refine ⟨fun i m H' => i + m = xs.length ∧ ∃ ρ' S', Ext (ρ1 ++ [D]) (upd H1 D (.lst [])) ρ' H' ∧ WOk K mg ρ' H' S' ∧ PostE K mg (fun C d H' => W C d σ H') ρ' H' Q ((lcL G g bt fe S1.length (wipeS sl own) (xs.drop i) S').bind fun _ S2 => .ok (.ptr S1.length) S2),
      ⟨xs.length, by simp, ρ1 ++ [D], _, Ext.refl, w2, PostE.from x2 (by simpa using p1)⟩, ?_⟩
    rintro i m H3 ⟨hm, ρ3, S3, x3, w3, p3⟩
    cases m with
    | zero =>
      have hi : i = xs.length := by omega
      subst hi
      rw [List.drop_length, lcL] at p3
      by_cases hG : G S3
      · rw [if_pos hG] at p3
        refine .inl ⟨iw.stop ρ3 H3 S3 (x2.trans x3) w3 hG, ?_⟩
        exact post_ok (d := .ptr S1.length) p3 w3 (by rw [Rep]; exact ⟨D, rfl, x3.get hDn⟩)
      · rw [if_neg hG] at p3; exact p3.elim
    | succ m =>
      have hlt : i < xs.length := by omega
      have hd : xs.drop i = xs[i] :: xs.drop (i + 1) := (List.getElem_cons_drop hlt).symm
      rw [hd, lcL] at p3
      by_cases hG : G S3
      · rw [if_pos hG] at p3
        refine .inr ⟨iw.go i ρ3 H3 S3 hlt (x2.trans x3) w3 hG, fun H' => ∃ ρ' S', Ext (ρ1 ++ [D]) (upd H1 D (.lst [])) ρ' H' ∧ WOk K mg ρ' H' S' ∧ PostE K mg (fun C d H' => W C d σ H') ρ' H' Q ((lcL G g bt fe S1.length (wipeS sl own) (xs.drop (i + 1)) S').bind fun _ S2 => .ok (.ptr S1.length) S2), fun H' n => ⟨m, Nat.lt_succ_self m, by omega, n⟩, ?_⟩
        intro v H4 y
        obtain ⟨d, e, x4, w4, r4⟩ := iw.yld i ρ3 H3 S3 v H4 hlt (x2.trans x3) w3 hG y
        have ed : d = xs[i] := by rw [List.getElem?_eq_getElem hlt] at e; exact (Option.some.inj e).symm
        subst ed
        refine ⟨ρ3, S3, wipeS sl own, xs[i], w4, (rw'.ext (x3.trans x4)), r4, wipe_wipe (fun _ h => h), ?_⟩
        cases q1 : g xs[i] (wipeS sl own) S3 with
        | nx sl5 S5 =>
          rw [q1] at p3
          simp only at p3
          intro σ5 ρ5 H5 x5 w5 r5 e5
          refine ⟨e5, ρ5, S5, sl5, w5, r5, ?_⟩
          have x35 := (x3.trans x4).trans x5
          have p5 := PostE.from (x4.trans x5) p3
          cases q2 : bt sl5 S5 with
          | bad => rw [q2] at p5; exact p5.elim
          | ex e S6 => rw [q2] at p5; exact p5.elim
          | ok b S6 =>
            rw [q2] at p5
            intro ρ6 H6 x6 w6
            have p6 := PostE.from x6 p5
            cases b with
            | false =>
              rw [if_neg Bool.false_ne_true]
              exact ⟨ρ6, S6, x35.trans x6, w6, p6⟩
            | true =>
              rw [if_pos rfl]
              refine ⟨ρ6, S6, sl5, w6, r5.ext x6, ?_⟩
              simp only at p6
              cases q3 : fe sl5 S6 with
              | bad => rw [q3] at p6; exact p6.elim
              | ex e S7 => rw [q3] at p6; exact p6.elim
              | ok d7 S7 =>
                rw [q3] at p6
                intro v7 ρ7 H7 x7 w7 r7
                have p7 := PostE.from x7 p6
                simp only at p7
                have x37 := (x35.trans x6).trans x7
                have hDn7 := x37.get hDn
                split at p7
                · rename_i acc ea
                  split at p7
                  · rename_i hl
                    obtain ⟨us, h1, ra⟩ := w7.ob S1.length D _ hDn7 ea
                    refine ⟨us, h1, by rw [← ra.len]; have := line_of (n := acc.length + 1) (by omega); omega, ?_⟩
                    have hx : Ext ρ7 H7 ρ7 (upd H7 D (.lst (us ++ [v7]))) := Ext.putL hDn7
                    exact ⟨ρ7, _, x37.trans hx, w7.put (m := .lst (acc ++ [d7])) hDn7 ⟨_, upd_same, (ra.append (RepL.cons r7 RepL.nil)).ext hx⟩, PostE.from hx p7⟩
                  · exact p7.elim
                · exact p7.elim
        | bk sl4 S4 => rw [q1] at p3; exact p3.elim
        | ct sl4 S4 => rw [q1] at p3; exact p3.elim
        | rt d4 S4 => rw [q1] at p3; exact p3.elim
        | ex e4 sl4 S4 => rw [q1] at p3; exact p3.elim
        | bad => rw [q1] at p3; exact p3.elim
      · rw [if_neg hG] at p3; exact p3.elim
variable {elt tg iter : Expr} {ifs : List Expr} {scope : Scope} {own : List (Str × Nat)} {it : IX} {g : GX} {bt : BX} {fe : EX}
theorem tLc_mono {wi : TI} {g1 g2 : TG} {tt : TT} {te : TE} {vs : List Nat} {σ : L2.St} {H : Hp} {Q : VK} (k : ∀ x H' Q', g1 x (L2.wipe σ vs) H' Q' → g2 x (L2.wipe σ vs) H' Q') (kw : ∀ H R R', (∀ J H1, R J H1 → R' J H1) → wi σ H R → wi σ H R') (h : tLc wi g1 tt te vs σ H Q) : tLc wi g2 tt te vs σ H Q := by
  refine kw H _ _ (fun J H1 h D hD => ?_) h
  obtain ⟨W, h0, hs⟩ := h D hD
  refine ⟨W, h0, fun i m H' hw => ?_⟩
  rcases hs i m H' hw with h | ⟨hg, Nx, h1, h2⟩
  · exact .inl h
  · exact .inr ⟨hg, Nx, h1, fun x H2 y => k _ _ _ (h2 x H2 y)⟩
/-- targets for every state's rest -/
def trGa (K : PySem.W.Frag) (mg : Str → Option Value) (W : WX) (vs : List Nat) (g : GX) : TG := fun v σ H Q => trGw K mg W vs (L2.wipe σ vs) g v σ H Q
theorem EGw.all {X : Cx} {W : WX} {vs : List Nat} {tg : Expr} {g : GX} (h : EGw X W vs tg g) : PG X tg (trGa X.K X.mg W vs g) := ⟨fun pins s σ H v u Q I r q => (h (L2.wipe σ vs)).run pins s σ H v u Q I r q⟩
theorem trI_mono {K : PySem.W.Frag} {mg : Str → Option Value} {it : IX} {σ : L2.St} (H : Hp) (R R' : It → Hp → Prop) (k : ∀ J H1, R J H1 → R' J H1) (h : trI K mg W it σ H R) : trI K mg W it σ H R' := by
  obtain ⟨ρ, S, sl, w, rs, p⟩ := h
  refine ⟨ρ, S, sl, w, rs, ?_⟩
  cases q : it sl S with
  | bad => rw [q] at p; exact p
  | ex e S1 => rw [q] at p; exact p
  | ok pr S1 => rw [q] at p; exact fun ρ' H' J x w i => k _ _ (p ρ' H' J x w i)
theorem lc_imp' {K : PySem.W.Frag} {mg : Str → Option Value} {vs : List Nat} {σ : L2.St} {H : Hp} {Q : VK} (h : trE K mg W (eLc it g bt fe vs) σ H Q) : tLc (trI K mg W it) (trGa K mg WF vs g) (trB K mg WF bt) (trE K mg WF fe) vs σ H Q := by
  refine tLc_mono (fun x H' Q' q => ?_) (fun H R R' k h => trI_mono H R R' k h) (lc_imp h)
  unfold trGa
  rw [wipe_wipe (fun _ h => h)]
  exact q
theorem r_lc (hc : X.calm = true) (hN : X.N.Nodup) (ok : BlkOk X.N X.env.scope scope own) (hi : EI X W tg iter it)
    (hg : ∀ (s : Shared) (H : Hp) (C : Addr) (cl : List (Str × Addr)) (fp : List Addr), EGw (X.blk s H scope (compEnvC scope cl C X.env) fp) WF (own.map (·.2)) tg g) (ht : ∀ (s : Shared) (H : Hp) (C : Addr) (cl : List (Str × Addr)) (fp : List Addr), ETs (X.blk s H scope (compEnvC scope cl C X.env) fp) WF ifs bt)
    (he : ∀ (s : Shared) (H : Hp) (C : Addr) (cl : List (Str × Addr)) (fp : List Addr), E (X.blk s H scope (compEnvC scope cl C X.env) fp) WF elt fe) (hs : ∀ x, foldedSetIterable iter X.env x = pure x := by intro _; rfl) :
    E X W (.ListComp elt [⟨tg, iter, ifs, 0⟩] scope pos) (eLc it g bt fe (own.map (·.2))) :=
  PE.imp (pe_lc (tt := trB X.K X.mg WF bt) (te := trE X.K X.mg WF fe) hc hN hi ok (fun s H C cl fp => (hg s H C cl fp).all) ht he hs) fun σ H Q h => lc_imp' h
theorem s_setLc {i : Nat} {y : Str} {py spos : Pos} (hc : X.calm = true) (hN : X.N.Nodup) (ok : BlkOk X.N X.env.scope scope own)
    (hsw : swapsWith (.ListComp elt [⟨tg, iter, ifs, 0⟩] scope pos) (some (.Name y py)) spos.line X.env = pure true) (hi : EI X W tg iter it)
    (hg : ∀ (s : Shared) (H : Hp) (C : Addr) (cl : List (Str × Addr)) (fp : List Addr), EGw (X.blk s H scope (compEnvC scope cl C X.env) fp) WF (own.map (·.2)) tg g) (ht : ∀ (s : Shared) (H : Hp) (C : Addr) (cl : List (Str × Addr)) (fp : List Addr), ETs (X.blk s H scope (compEnvC scope cl C X.env) fp) WF ifs bt)
    (he : ∀ (s : Shared) (H : Hp) (C : Addr) (cl : List (Str × Addr)) (fp : List Addr), E (X.blk s H scope (compEnvC scope cl C X.env) fp) WF elt fe) (hy : X.N[i]? = some y := by rfl) (hyl : X.env.scope.names.lookup y = some .local := by rfl) (hs : ∀ x, foldedSetIterable iter X.env x = pure x := by intro _; rfl) :
    ES X W (.Assign [.Name y py] (.ListComp elt [⟨tg, iter, ifs, 0⟩] scope pos) spos) (sAsg (eLc it g bt fe (own.map (·.2))) (gSet i)) :=
  PS.imp (ps_setLc (tt := trB X.K X.mg WF bt) (te := trE X.K X.mg WF fe) hc hN hy hyl hsw hi ok (fun s H C cl fp => (hg s H C cl fp).all) ht he hs) fun D σ H ⟨ρ, S, sl, w, rs, p⟩ =>
    lc_imp' (Q := fun x H1 => gName i x σ H1 D.nx) ⟨ρ, S, sl, w, rs, PostE.mono (PostS.ofE rs p) fun v H1 ⟨ρ1, S1, d, w1, r1, rv, p1⟩ => p1 _ ρ1 H1 Ext.refl w1 (r1.set rv i)⟩

/-! ### an expression whose handles are given up -/
noncomputable def eFin (f : EX) : EX := fun sl S => fin S (f sl S)
theorem r_fin {e : Expr} {f : EX} (h : E X W e f) : E X W e (eFin f) := PE.imp h fun σ H Q ⟨ρ, S, sl, w, rs, p⟩ => ⟨ρ, S, sl, w, rs, fin_imp w p⟩
end
end Z
/-! ZB: sorted. -/
namespace Z
open PySem PySem.Spec L2 PyProof.Rows Za PySem.W

/-- by their keys -/
def sortBy {α : Type} (xs : List α) (ps : List PyData) : List α := ((xs.zip ps).mergeSort (dataLe false (·.2))).map (·.1)
def SrtOk (ps : List PyData) : Prop := AllAlike ps ∧ Sortable ps ∧ ps.length ≤ 1000000 ∧ ∀ d ∈ ps, d.depth ≤ 50
section
theorem map_sort {α β : Type} {f : α → β} {r : α → α → Bool} {s : β → β → Bool} (h : ∀ a b, r a b = s (f a) (f b)) (l : List α) : (l.mergeSort r).map f = (l.map f).mergeSort s := List.map_mergeSort fun a _ b _ => h a b
theorem zip_map_fst {α β γ : Type} : ∀ (xs : List α) (ys : List β) (zs : List γ), xs.length = ys.length → ((xs.zip ys).zip zs).map (fun p => (p.1.1, p.2)) = xs.zip zs
  | [], ys, zs, _ => by cases ys <;> rfl
  | x :: xs, [], zs, h => by simp at h
  | x :: xs, y :: ys, [], h => by simp
  | x :: xs, y :: ys, z :: zs, h => by
    simp only [List.zip_cons_cons, List.map_cons]
    rw [zip_map_fst xs ys zs (by simpa using h)]
theorem zip_map_snd {α β γ : Type} : ∀ (xs : List α) (ys : List β) (zs : List γ), xs.length = ys.length → ((xs.zip ys).zip zs).map (fun p => (p.1.2, p.2)) = ys.zip zs
  | [], [], zs, _ => by simp
  | [], y :: ys, zs, h => by simp at h
  | x :: xs, [], zs, h => by simp at h
  | x :: xs, y :: ys, [], h => by simp
  | x :: xs, y :: ys, z :: zs, h => by
    simp only [List.zip_cons_cons, List.map_cons]
    rw [zip_map_snd xs ys zs (by simpa using h)]
/-- two lists sorted by the same keys -/
theorem sort_both {α β : Type} {xs : List α} {ys : List β} {ps : List PyData} (h : xs.length = ys.length) :
    ∃ T : List ((α × β) × PyData), (∀ t ∈ T, t.1 ∈ xs.zip ys) ∧ sortBy xs ps = T.map (·.1.1) ∧ sortBy ys ps = T.map (·.1.2) := by
  refine ⟨((xs.zip ys).zip ps).mergeSort (dataLe false (·.2)), fun t ht => ?_, ?_, ?_⟩
  · have := (List.mergeSort_perm _ _).mem_iff.mp ht
    exact (List.of_mem_zip this).1
  · unfold sortBy
    rw [← zip_map_fst xs ys ps h, ← map_sort (r := dataLe false fun p : (α × β) × PyData => p.2) (s := dataLe false fun p : α × PyData => p.2) (fun a b => rfl), List.map_map]
    rfl
  · unfold sortBy
    rw [← zip_map_snd xs ys ps h, ← map_sort (r := dataLe false fun p : (α × β) × PyData => p.2) (s := dataLe false fun p : β × PyData => p.2) (fun a b => rfl), List.map_map]
    rfl
theorem sortBy_len {α : Type} (xs : List α) (ps : List PyData) : (sortBy xs ps).length = min xs.length ps.length := by
  unfold sortBy
  rw [List.length_map, List.length_mergeSort, List.length_zip]
end
section
variable {K : PySem.W.Frag} {mg : Str → Option Value} {ρ : List Addr} {H : Hp}
theorem repL_zip : ∀ {xs : List D} {vs : List V}, RepL K mg ρ H xs vs → ∀ p ∈ xs.zip vs, Rep K mg ρ H p.1 p.2
  | [], _, _, p, h => by simp at h
  | x :: xs, _, r, p, h => by
    rw [RepL] at r
    obtain ⟨v, r', e, h1, h2⟩ := r
    subst e
    rw [List.zip_cons_cons] at h
    rcases List.mem_cons.mp h with q | q
    · rw [q]; exact h1
    · exact repL_zip h2 p q
theorem repL_pairs {γ : Type} : ∀ {T : List ((D × V) × γ)}, (∀ t ∈ T, Rep K mg ρ H t.1.1 t.1.2) → RepL K mg ρ H (T.map (·.1.1)) (T.map (·.1.2))
  | [], _ => RepL.nil
  | t :: T, h => RepL.cons (h t List.mem_cons_self) (repL_pairs fun u hu => h u (List.mem_cons_of_mem _ hu))
theorem sortBy_rep {xs : List D} {vs : List V} {ps : List PyData} (r : RepL K mg ρ H xs vs) : RepL K mg ρ H (sortBy xs ps) (sortBy vs ps) := by
  obtain ⟨T, h1, h2, h3⟩ := sort_both (ps := ps) r.len
  rw [h2, h3]
  exact repL_pairs fun t ht => repL_zip r _ (h1 t ht)
end
theorem each_vals {its : List Value} : ∀ {vs : List V} {ps : List PyData}, Vals vs its → vs.length = ps.length → EachIs (fun (v : Value) (p : V × PyData) => RelV p.1 v) its (vs.zip ps)
  | [], ps, r, _ => by cases r; exact .nil
  | v :: vs, [], r, h => by simp at h
  | v :: vs, p :: ps, r, h => by
    cases r with
    | cons r1 r2 => exact .cons r1 (each_vals r2 (by simpa using h))
theorem each_reads {h : Heap} : ∀ {ps : List PyData} {its : List Value} {vs : List V} {as : List Addr}, vs.length = ps.length → ReadsAll h its ps as → EachIs (fun (v : Value) (p : V × PyData) => ∃ as, Reads h v p.2 as) its (vs.zip ps)
  | [], its, vs, as, hl, r => by
    cases r
    have : vs = [] := by simpa using hl
    subst this
    exact .nil
  | p :: ps, its, [], as, hl, r => by simp at hl
  | p :: ps, its, v :: vs, as, hl, r => by
    cases r with
    | cons h1 h2 => exact .cons ⟨_, h1⟩ (each_reads (by simpa using hl) h2)
theorem zip_snd {α β : Type} : ∀ {xs : List α} {ys : List β}, xs.length = ys.length → (xs.zip ys).map (·.2) = ys
  | [], [], _ => rfl
  | [], y :: ys, h => by simp at h
  | x :: xs, [], h => by simp at h
  | x :: xs, y :: ys, h => by simp [zip_snd (xs := xs) (ys := ys) (by simpa using h)]
theorem each_fst {out : List Value} : ∀ {l : List (V × PyData)}, EachIs (fun (v : Value) (p : V × PyData) => RelV p.1 v) out l → Vals (l.map (·.1)) out := by
  intro l e
  induction e with
  | nil => exact .nil
  | cons h1 _ ih => exact .cons h1 ih
section
variable {X : Cx}
/-- a list, by its items' data -/
def rSortL (K : PySem.W.Frag) : List V → Hp → VK → Prop := fun vs H Q => ∃ (a : Addr) (zs : List V) (ps : List PyData), vs = [.ref a] ∧ SqL K H a zs ∧ DpAll K H zs ps ∧ SrtOk ps ∧ ∀ p, H p = none → Q (.ref p) (upd H p (.lst (sortBy zs ps)))
theorem cr_sortL (hu : X.A.units + 64 < cLine) : CallR X (.builtin "sorted") (rSortL X.K) := by
  intro pins s σ H vs us Q I r h
  obtain ⟨a, zs, ps, rfl, hs, hd, ⟨o1, o2, o3, o4⟩, q⟩ := h
  obtain ⟨its, rv, hl, hz⟩ := I.list hs
  obtain ⟨u, rfl, ru⟩ := vals1 r
  obtain rfl : u = Value.ref a := ru
  obtain ⟨as, ra⟩ := Dp.readsAll I ps zs its hd rv
  have hlen : zs.length = ps.length := by
    have : ∀ {zs : List V} {ps : List PyData}, DpAll X.K H zs ps → zs.length = ps.length := fun {zs} => by
      induction zs with
      | nil => intro ps h; cases h; rfl
      | cons z zs ih => intro ps h; cases h with | cons _ h => simp [ih h]
    exact this hd
  refine sorted_data (bs := zs.zip ps) (enc := fun p => p.2) (R := fun v p => RelV p.1 v) hl.isList (each_vals rv hlen) (each_reads hlen ra) (by rw [zip_snd hlen]; exact o1) (by rw [zip_snd hlen]; exact o2) (by rw [List.length_zip, ← hlen, Nat.min_self]; exact hz) (fun b hb => ?_) fun out ho e => ?_
  · have hm : b.2 ∈ ps := by rw [← zip_snd hlen]; exact List.mem_map.mpr ⟨b, hb, rfl⟩
    have := o4 _ hm
    have e : X.A.units + 2 + b.2.depth ≤ X.A.units + 64 := by omega
    exact Nat.lt_of_le_of_lt e hu
  · obtain ⟨n, hn⟩ := sortedAll_at s.heap its (List.toArray out)
    have hv : Vals (sortBy zs ps) out := each_fst e
    have kp : ∀ b u, s.heap.get? b = some u → (sortedAll s.heap its (List.toArray out)).get? b = some u := fun b u => sortedAll_old
    exact ⟨.ref (s.heap.objs.size + 1), upd H (s.heap.objs.size + 1) (.lst (sortBy zs ps)), I.laid (t' := s.toks) kp (Nat.le_succ _) ⟨by rw [sortBy_len, ← hlen, Nat.min_self]; exact hz, out, n, hv, hn⟩, rfl, q _ (I.hok.fresh (Nat.le_succ _))⟩
/-- a text, by its signs -/
theorem sortable_strs (l : List Str) : Sortable (l.map PyData.str) := .inr fun d hd => by
  obtain ⟨x, _, rfl⟩ := List.mem_map.mp hd
  exact ⟨by nofun, by intros; nofun⟩
theorem alike_strs (l : List Str) : AllAlike (l.map PyData.str) := fun d hd d' hd' => by
  obtain ⟨x, _, rfl⟩ := List.mem_map.mp hd
  obtain ⟨y, _, rfl⟩ := List.mem_map.mp hd'
  simp [alike]
def signsS (x : Str) : List Str := x.cps.toList.map fun c => ⟨#[c]⟩
def rSortX : List V → Hp → VK → Prop := fun vs H Q => ∃ x : Str, vs = [.str x] ∧ x.length ≤ 1000000 ∧ ∀ p, H p = none → Q (.ref p) (upd H p (.lst (sortBy ((signsS x).map V.str) ((signsS x).map PyData.str))))
theorem cr_sortX (hc : X.calm = true) (hu : X.A.units + 64 < cLine) : CallR X (.builtin "sorted") rSortX := by
  intro pins s σ H vs us Q I r h
  obtain ⟨x, rfl, hx, q⟩ := h
  obtain ⟨u, rfl, ru⟩ := vals1 r
  obtain ⟨t, rfl⟩ := ru
  have hn : x.cps.size ≤ sizeLine := line_of hx
  refine PySem.Calls.call_function_entry kind_sorted plain_sorted entry_sorted (args_sorted1 _) ?_
  unfold Builtin.«sorted»
  refine wpAny_bind (m := checkCount "sorted" 1 1 _) (wpAny_pure ?_)
  refine wpAny_bind (wpAny_collect_str (A := X.A.in1) (I.ok.hd hc) x t (fun s' acc hk hg hd ho hacc => ?_) hn)
  obtain ⟨hp', g', d', tk', os'⟩ := s'
  obtain ⟨hp, g, d, tk, os⟩ := s
  simp only at hk hg hd ho
  subst hg hd ho
  have hl : acc.toList.length = x.cps.size := by rw [Array.length_toList]; exact hacc.1
  refine wpAny_bind (wpAny_newList ?_ (by rw [hl]; exact hn))
  have hsl : (signsS x).length = x.cps.size := by simp [signsS]
  have hrv : Vals ((signsS x).map V.str) acc.toList := by
    have : ∀ (n : Nat) (ys : List Str) (its : List Value), ys.length = its.length → (∀ (j : Nat) (v : Value), its[j]? = some v → ∃ (y : Str) (u : Tok), ys[j]? = some y ∧ v = Value.str y u) → Vals (ys.map V.str) its := fun _ ys => by
      induction ys with
      | nil => intro its h _; cases its with
        | nil => exact .nil
        | cons _ _ => simp at h
      | cons y ys ih => intro its h k; cases its with
        | nil => simp at h
        | cons v its =>
          obtain ⟨y', u, e, ev⟩ := k 0 v (by simp)
          simp at e
          subst e ev
          exact .cons ⟨u, rfl⟩ (ih its (by simpa using h) fun j w e => k (j + 1) w (by simpa using e))
    refine this 0 _ _ (by rw [hl, hsl]) fun j v e => ?_
    obtain ⟨c, u, e1, e2⟩ := hacc.2 j v (by rw [← Array.getElem?_toList]; exact e)
    exact ⟨⟨#[c]⟩, u, by simp [signsS, e1], e2⟩
  have ra : ∀ (h : Heap) (a : Addr) (ys : List Str) (its : List Value), Vals (ys.map V.str) its → EachIs (fun (v : Value) (p : V × PyData) => ∃ as, Reads h v p.2 as ∧ a ∉ as) its ((ys.map V.str).zip (ys.map PyData.str)) := fun h a ys => by
    induction ys with
    | nil => intro its r; cases r; exact .nil
    | cons y ys ih =>
      intro its r
      cases r with
      | cons r1 r2 =>
        obtain ⟨t, rfl⟩ := r1
        exact .cons ⟨[], Reads.str y t, by simp⟩ (ih _ r2)
  have hll : ((signsS x).map V.str).length = ((signsS x).map PyData.str).length := by simp
  refine wpAny_bind (wpAny_holding (list_sort_data (bs := ((signsS x).map V.str).zip ((signsS x).map PyData.str)) (enc := fun p => p.2) (R := fun v p => RelV p.1 v) (vs := acc.toList) (n := 0) (Heap.get?_push_size _ rfl) (each_vals hrv hll) ?_ ?_ ?_ ?_ ?_ fun out ho e => ?_))
  · exact ra _ _ _ _ hrv
  · rw [zip_snd hll]; exact alike_strs _
  · rw [zip_snd hll]; exact sortable_strs _
  · rw [List.length_zip, List.length_map, List.length_map, Nat.min_self, hsl]; exact hn
  · intro b hb
    have hm : b.2 ∈ (signsS x).map PyData.str := by rw [← zip_snd hll]; exact List.mem_map.mpr ⟨b, hb, rfl⟩
    obtain ⟨y, _, ey⟩ := List.mem_map.mp hm
    rw [← ey]
    have hd : (PyData.str y).depth = 0 := by simp [PyData.depth]
    refine Nat.lt_of_le_of_lt (m := X.A.units + 64) ?_ hu
    rw [hd]
    show X.A.units + 1 + 1 + 0 ≤ X.A.units + 64
    omega
  · have hv : Vals (sortBy ((signsS x).map V.str) ((signsS x).map PyData.str)) out := each_fst e
    have I1 : Inv X pins σ H { heap := hp', gens := g', drawn := d', toks := tk', os := os' } := I.kept (t' := tk') hk
    obtain ⟨n, hn'⟩ := sortedHeap_at (vs := acc.toList) (n := 0) (out := List.toArray out) (Heap.get?_push_size hp' (o := seqObj "list" acc.toList.toArray 0) rfl)
    refine wpAny_pure ⟨_, rfl, .ref hp'.objs.size, upd H hp'.objs.size (.lst (sortBy ((signsS x).map V.str) ((signsS x).map PyData.str))), ?_, rfl, q _ (I1.hok.fresh (Nat.le_refl _))⟩
    refine I1.laid (t' := tk') (fun b u e => ?_) (Nat.le_refl _) ⟨?_, out, n, hv, hn'⟩
    · have hb : b < hp'.objs.size := Heap.lt_size e
      rw [sortedHeap_old (Nat.ne_of_lt hb) (by rw [Heap.size_push]; exact Nat.lt_succ_of_lt hb)]
      exact Heap.get?_push_of_some _ e
    · rw [sortBy_len, List.length_map, List.length_map, Nat.min_self, hsl]
      exact hn
/-- sorted(..) of a list, a text: a new list by a handle -/
noncomputable def semSorted : SemL := fun ds S => match ds with
  | [.str x] => if x.length ≤ 1000000 then .ok (.ptr S.length) (S ++ [.lst (sortBy (signsD x) ((signsS x).map PyData.str))]) else .bad
  | [d] => (match asL S d with
    | some xs => (match toPL0 xs with
      | some ps => open Classical in if SrtOk ps then .ok (.ptr S.length) (S ++ [.lst (sortBy xs ps)]) else .bad
      | none => .bad)
    | none => .bad)
  | _ => .bad
theorem signsD_rep {K : PySem.W.Frag} {mg : Str → Option Value} {ρ : List Addr} {H : Hp} (x : Str) : RepL K mg ρ H (signsD x) ((signsS x).map V.str) := by
  unfold signsD signsS
  rw [List.map_map]
  exact mk_signs _
theorem d_sorted (hc : X.calm = true) (hu : X.A.units + 64 < cLine) : CallD X (.builtin "sorted") semSorted := by
  refine ⟨_, CallR.or (cr_sortL hu) (cr_sortX hc hu), fun Wp ρ H S ds xs Q w r p => ?_⟩
  match ds, r, p with
  | [], r, p => exact p.elim
  | d :: _ :: _, r, p => cases d <;> exact p.elim
  | [d], r, p =>
    obtain ⟨v, e, h1⟩ := repL_one r
    have go : ∀ (p : PostE X.K X.mg Wp ρ H Q (match asL S d with
        | some xs => (match toPL0 xs with
          | some ps => open Classical in if SrtOk ps then .ok (.ptr S.length) (S ++ [.lst (sortBy xs ps)]) else .bad
          | none => .bad)
        | none => .bad)), rSortL X.K xs H Q := fun p => by
      split at p
      · rename_i ys ey
        split at p
        · rename_i ps eps
          split at p
          · rename_i ho
            obtain ⟨a, vs, e1, h2, r2⟩ := asL_rep w h1 ey
            exact ⟨a, vs, ps, by rw [e, e1], .inl (.inl h2), toPL0_rep ys vs ps r2 eps, ho, fun q hq => post_lstH p w (sortBy_rep r2) hq⟩
          · exact p.elim
        · exact p.elim
      · exact p.elim
    cases d with
    | str x =>
      have p : PostE X.K X.mg Wp ρ H Q (if x.length ≤ 1000000 then .ok (.ptr S.length) (S ++ [.lst (sortBy (signsD x) ((signsS x).map PyData.str))]) else .bad) := p
      split at p
      · rename_i hl
        exact .inr ⟨x, by rw [e, rep_str h1], hl, fun q hq => post_lstH p w (sortBy_rep (signsD_rep x)) hq⟩
      · exact p.elim
    | _ => exact .inl (go p)
end
end Z
/-! ZC: defs, methods, classes, properties by data. -/
namespace Z
open PySem PySem.Spec L2

/-- a promise on data -/
def spZ (K : PySem.W.Frag) (mg : Str → Option Value) (g : SemL) : Sp := fun vs H Q E => ∃ ρ S ds, WOk K mg ρ H S ∧ RepL K mg ρ H ds vs ∧ PostE K mg E ρ H Q (g ds S)
abbrev FZ (P : Program) (w : World) (K : PySem.W.Frag) (mg : Str → Option Value) (base : Heap) (k : Nat) (f : Addr) (g : SemL) : Prop := FnR P w K mg base (L2.CX P w) k f (spZ K mg g)
/-- a def by its body, what it makes stays open -/
def defH (N : Nat) (body : SX) : SemL := fun ds S => (body (ds.map some ++ List.replicate (N - ds.length) none) S).out
section
variable {P : Program} {w : World} {K : PySem.W.Frag} {mg : Str → Option Value} {base : Heap}
theorem fn_okH {x qual : Str} {st : Stmt} {f : Addr} {fd : FuncData} {N ps : List Str} {k : Nat} {body : SX} (F : Fun K x qual st f fd) (Sc : FnScope N ps (defScope st))
    (hb : ∀ (cdv : Value) (A : Around) (outer : List Env) (s : Shared) (H : Hp) (E : XK), Room k (A.deeper (PyProof.Rows.envOfC qual (defScope st) s.heap.objs.size f cdv)) →
      ESs (cxOf (L2.CX P w) P w K mg base N qual (defScope st) f cdv A outer s H E) (fun c d _ H' => E c d H') (defBody st) body) :
    FnOk P w K mg base (L2.CX P w) (k + 1) f fd ps (spOf K mg ps.length (defH N.length body)) := by
  refine F.okX Sc (fun vs H Q E h => ?_) (fun cdv A outer s H vs Q E hr h => ?_)
  · obtain ⟨ρ, S, ds, hl, _, r, _⟩ := h
    rw [← r.len, hl]
  · obtain ⟨ρ, S, ds, hl, w0, r, p⟩ := h
    refine ⟨_, hb cdv A outer s H E hr, ρ, S, _, w0, rst_start r, ?_⟩
    have p : PostE K mg E ρ H Q (body (ds.map some ++ List.replicate (N.length - ds.length) none) S).out := p
    cases q : body (ds.map some ++ List.replicate (N.length - ds.length) none) S with
    | nx sl S' => rw [q] at p; exact fun σ' ρ' H' x w1 r1 => p .non ρ' H' x w1 (by rw [Rep])
    | rt d S' => rw [q] at p; exact p
    | ex e sl S' => rw [q] at p; exact fun C dd σ' ρ' H' x w1 _ r1 => p C dd ρ' H' x w1 r1
    | bk sl S' => rw [q] at p; exact p.elim
    | ct sl S' => rw [q] at p; exact p.elim
    | bad => rw [q] at p; exact p.elim
theorem fz_of {f : Addr} {fd : FuncData} {ps : List Str} {k n : Nat} {g : SemL} {dfs : List Value} {dvs : List V} {dds : List D} (F : FnOk P w K mg base (L2.CX P w) k f fd ps (spOf K mg n g)) (hb : Binds K fd ps dfs) (hd : Vals dvs dfs) (hdf : ∀ ρ H, RepL K mg ρ H dds dvs) : FZ P w K mg base k f (withD dds n g) :=
  (F.raw hb hd).imp fun vs H Q E ⟨ρ, S, ds, w0, r, p⟩ => by
    unfold withD at p
    split at p
    · rename_i hl
      exact ⟨ρ, S, ds ++ dds, hl, w0, r.append (hdf ρ H), p⟩
    · exact p.elim
/-- every argument is given -/
def arity (n : Nat) (g : SemL) : SemL := fun ds S => if ds.length = n then g ds S else .bad
theorem fz_of0 {f : Addr} {fd : FuncData} {ps : List Str} {k n : Nat} {g : SemL} (F : FnOk P w K mg base (L2.CX P w) k f fd ps (spOf K mg n g)) (hb : Binds K fd ps []) : FZ P w K mg base k f (arity n g) :=
  (F.raw hb .nil).imp fun vs H Q E ⟨ρ, S, ds, w0, r, p⟩ => by
    unfold arity at p
    split at p
    · rename_i hl
      exact ⟨ρ, S, ds, hl, w0, by rw [List.append_nil]; exact r, p⟩
    · exact p.elim
theorem FZ.as {f : Addr} {k : Nat} {g g' : SemL} (F : FZ P w K mg base k f g) (h : ∀ ds S, g' ds S = .bad ∨ g ds S = g' ds S) : FZ P w K mg base k f g' :=
  FnR.imp F fun vs H Q E ⟨ρ, S, ds, w0, r, p⟩ => ⟨ρ, S, ds, w0, r, by
    rcases h ds S with e | e
    · rw [e] at p; exact p.elim
    · rw [e]; exact p⟩
/-- def f(a, .., *v) -/
def starS (n : Nat) (g : SemL) : SemL := fun ds S => if n ≤ ds.length ∧ ds.length ≤ 1000000 then g (ds.take n ++ [.tup (ds.drop n)]) S else .bad
theorem fz_star {x qual pv : Str} {st : Stmt} {f : Addr} {fd : FuncData} {N ps : List Str} {k : Nat} {body : SX} (F : Fun K x qual st f fd) (Sc : FnScope N (ps ++ [pv]) (defScope st))
    (hbind : ∀ us rest : List Value, us.length = ps.length → bindArgs fd ⟨us ++ rest, []⟩ = (newTuple rest >>= fun t => pure (ps.zip us ++ [(pv, t)])))
    (hb : ∀ (cdv : Value) (A : Around) (outer : List Env) (s : Shared) (H : Hp) (E : XK), Room k (A.deeper (PyProof.Rows.envOfC qual (defScope st) s.heap.objs.size f cdv)) →
      ESs (cxOf (L2.CX P w) P w K mg base N qual (defScope st) f cdv A outer s H E) (fun c d _ H' => E c d H') (defBody st) body) :
    FZ P w K mg base (k + 1) f (starS ps.length (defS N.length body)) := by
  obtain ⟨oc, od, kV, doc, pm, an, cdv, ct, osl, rfl, lk, hcd⟩ := F.ex
  refine FnR.imp (StX.fn_star (sp := spOf K mg (ps.length + 1) (defS N.length body)) lk hcd Sc StX.cxUp hbind fun A outer s H vs Q E hr h => ?_) fun vs H Q E h => ?_
  · obtain ⟨ρ, S, ds, hl, w0, r, p⟩ := h
    refine ⟨_, hb cdv A outer s H E hr, ρ, S, _, w0, rst_start r, ?_⟩
    have p := fin_imp w0 p
    cases q : body (ds.map some ++ List.replicate (N.length - ds.length) none) S with
    | nx sl S' => rw [q] at p; exact fun σ' ρ' H' x w1 r1 => p .non ρ' H' x w1 (by rw [Rep])
    | rt d S' => rw [q] at p; exact p
    | ex e sl S' => rw [q] at p; exact fun C dd σ' ρ' H' x w1 _ r1 => p C dd ρ' H' x w1 r1
    | bk sl S' => rw [q] at p; exact p.elim
    | ct sl S' => rw [q] at p; exact p.elim
    | bad => rw [q] at p; exact p.elim
  · obtain ⟨ρ, S, ds, w0, r, p⟩ := h
    unfold starS at p
    split at p
    · rename_i hl
      have e := r.len
      refine ⟨vs.take ps.length, vs.drop ps.length, (List.take_append_drop _ _).symm, by rw [List.length_take]; omega, by rw [List.length_drop]; exact line_of (by omega), fun a ha => ?_⟩
      have x := Ext.new' (ρ := ρ) (o := .tup (vs.drop ps.length)) ha
      refine ⟨ρ, S, ds.take ps.length ++ [.tup (ds.drop ps.length)], by rw [List.length_append, List.length_take]; simp; omega, w0.new' ha, ((r.take _).ext x).append (RepL.cons ?_ RepL.nil), PostE.from x p⟩
      rw [Rep]
      exact ⟨a, _, rfl, .inl ⟨w0.nin ha, upd_same⟩, (r.drop _).ext x⟩
    · exact p.elim
end

/-! ### calls -/
theorem takesF {X : Cx} : Takes X WF := fun u s' ⟨_, _, _, _, _, _, _, _, _, _, _, _, _, _, _, _, w⟩ => w.elim
section
variable {X : Cx} {W : WX} {k : Nat} {f C : Addr} {g : SemL} {x m : Str} {p pos apos : Pos} {e o : Expr} {es : List Expr} {fa : AX} {fo fe : EX}
theorem run_fnR {pins : List (Addr × Obj)} {σ : L2.St} {H : Hp} {s : Shared} {Q : VK} {us : List Value} {vs : List V} {sp : Sp} {E : XK} (F : FnR X.prog X.w X.K X.mg X.base (L2.CX X.prog X.w) k f sp) (hr : Room k X.A) (hx : PassesAt (L2.CX X.prog X.w) X σ E) (I : Inv X pins σ H s) (r : Vals vs us) (h : sp vs H Q E) :
    wpAny (model X.prog X.w) X.A (PySem.call (.ref f) us) (EP X pins σ Q) X.xe s := by
  refine wpAny_call (codeAny_mono (F X.A X.stack s H us vs Q E hr I.env0 r h) fun r s' hq => ?_)
  cases r with
  | error e => exact hx pins H s e s' I hq
  | ok fl =>
    cases fl with
    | ret u => exact I.after hq
    | next => exact False.elim hq
    | brk => exact False.elim hq
    | cont => exact False.elim hq
theorem r_callZ (tk : Takes X W) (F : FZ X.prog X.w X.K X.mg X.base k f g) (hr : Room k X.A) (hm : X.mg x = some (.ref f)) (hk : PySem.W.keepIn X.K (.ref f) = true)
    (ha : EA X W (e :: es) fa) (hg : Gl X x := by rfl) (hdb : (x == ("__debug__" : Str)) = false := by decide) (he : starEach (e :: es) X.env = (false, eval e X.env) :: starEach es X.env := by rfl) (hpl : (backTo pos (starEach es X.env)).any (·.1) = false := by rfl) :
    E X W (.Call (.Name x p) (e :: es) [] pos) (eArgs g fa) := by
  refine ⟨fun pins s σ H Q I h => ?_⟩
  refine wpAny_Call_Name_kw (ld_glob I hg hm ?_ hdb)
  have h' := argsem_imp (k := fun vs H1 => spZ X.K X.mg g vs H1 Q (WE W σ)) h fun ρ S H1 ds vs w r p => ⟨ρ, S, ds, w, r, p⟩
  refine PySem.W.callWith_K (h₀ := X.base) I.ok.mod.kin hk (thn (ha.run pos pins s σ H _ I h') fun us s1 ⟨vs, H1, I1, r, q⟩ => ⟨I1.kIn, ?_⟩) he hpl
  exact run_fnR F hr (passAt tk σ) I1 r q
theorem r_callZ0 (tk : Takes X W) (F : FZ X.prog X.w X.K X.mg X.base k f g) (hr : Room k X.A) (hm : X.mg x = some (.ref f)) (hk : PySem.W.keepIn X.K (.ref f) = true)
    (hg : Gl X x := by rfl) (hdb : (x == ("__debug__" : Str)) = false := by decide) : E X W (.Call (.Name x p) [] [] pos) (eArgs g aNil) := by
  refine ⟨fun pins s σ H Q I h => ?_⟩
  refine wpAny_Call_Name_kw (ld_glob I hg hm ?_ hdb)
  obtain ⟨ρ, S, sl, w, r, p⟩ := h
  exact PySem.W.callWith_K0 I.kIn hk (run_fnR (us := []) (vs := []) F hr (passAt tk σ) I .nil ⟨ρ, S, [], w, RepL.nil, p⟩)
/-- a table by a class's name -/
def tabOf (tab : List (Str × SemL)) (c : Str) : Option SemL := tab.lookup c
def eMethZ (m : Str) (tab : List (Str × SemL)) (fo : EX) (fa : AX) : EX := fun sl S => (fo sl S).bind fun d S1 => match fldsOf S1 d with
  | some (c, ns, _) => if m ∈ ns then .bad else (match tabOf tab c with
    | some g => (fa sl S1).bind fun ds S2 => g (d :: ds) S2
    | none => .bad)
  | none => .bad
structure MethOk (X : Cx) (m : Str) (tab : List (Str × SemL)) : Prop where
  at_ : ∀ c g, tabOf tab c = some g → ∀ C, X.mg c = some (.ref C) → ∃ (f : Addr) (k : Nat), Cls X.K C ∧ Meth X.K C m f ∧ FZ X.prog X.w X.K X.mg X.base k f g ∧ Room k X.A
theorem meth_nil : MethOk X m [] := ⟨fun c g h => by cases h⟩
theorem meth_cons {c : Str} {C : Addr} {tab : List (Str × SemL)} (hm : X.mg c = some (.ref C)) (hc : Cls X.K C) (hM : Meth X.K C m f) (F : FZ X.prog X.w X.K X.mg X.base k f g) (hr : Room k X.A) (h : MethOk X m tab) : MethOk X m ((c, g) :: tab) := ⟨fun c' g' h' C' hm' => by
  unfold tabOf at h'
  rw [List.lookup_cons] at h'
  cases q : c' == c with
  | true =>
    rw [q] at h'
    cases h'
    have : c' = c := by simpa using q
    subst this
    rw [hm] at hm'
    cases hm'
    exact ⟨f, k, hc, hM, F, hr⟩
  | false =>
    rw [q] at h'
    exact h.at_ c' g' h' C' hm'⟩
theorem r_methZ {pl : Sem Bool} {tab : List (Str × SemL)} (tk : Takes X W) (ht : MethOk X m tab) (ho : E X W o fo) (ha : EA X W (e :: es) fa)
    (hst : starEach (e :: es) X.env = (false, eval e X.env) :: starEach es X.env := by rfl) (hpl : (backTo pos (starEach es X.env)).any (·.1) = false := by rfl)
    (hev : eval (.Call (.Attribute o m apos) (e :: es) [] pos) X.env = (do
      let ov ← eval o X.env
      standAt apos.atName
      let (f, first) ← holding [ov] (getMethod ov m pl)
      callWith pos f first (backTo pos (starEach (e :: es) X.env)) (backToKw pos (keywordEach [] X.env))) := by rfl) :
    E X W (.Call (.Attribute o m apos) (e :: es) [] pos) (eMethZ m tab fo fa) := by
  refine ⟨fun pins s σ H Q I h => ?_⟩
  obtain ⟨ρ, S, sl, w, rs, p⟩ := h
  refine PySem.W.methodCall_KW (pl := pl) (thn (ho.run pins s σ H _ I ⟨ρ, S, sl, w, rs, PostE.bindE p⟩) fun u s1 ⟨x, H1, I1, rx, ρ1, S1, d, x1, w1, r1, _, p1⟩ => ?_) hev
  split at p1
  · rename_i c ns vs ef
    split at p1
    · exact p1.elim
    · rename_i hmem
      split at p1
      · rename_i g eg
        obtain ⟨a, C, dx, fs, ex, hm, ea, hn, rl⟩ := flds_rep w1 r1 ef
        obtain ⟨f, k, hc, hM, F, hr⟩ := ht.at_ c g eg C hm
        subst ex
        obtain rfl : u = Value.ref a := rx
        refine getmeth_ok I1 ea hc hM (lookN_none hn hmem) ?_
        refine PySem.W.callWith_K (first := [.ref a]) (h₀ := X.base) I.ok.mod.kin hM.kp (thn (ha.run pos pins s1 σ H1 _ I1 ⟨ρ1, S1, sl, w1, rs.ext x1, PostA.bindE p1⟩) fun us s2 ⟨vs, H2, I2, r, ρ2, S2, ds, x2, w2, r2, _, p2⟩ => ⟨I2.kIn, ?_⟩) hst hpl
        exact run_fnR (us := .ref a :: us) (vs := .ref a :: vs) F hr (passAt tk σ) I2 (.cons rfl r) ⟨ρ2, S2, d :: ds, w2, RepL.cons (r1.ext x2) r2, p2⟩
      · exact p1.elim
  · exact p1.elim
theorem r_methZ0 {pl : Sem Bool} {tab : List (Str × SemL)} (tk : Takes X W) (ht : MethOk X m tab) (ho : E X W o fo)
    (hev : eval (.Call (.Attribute o m apos) [] [] pos) X.env = (do
      let ov ← eval o X.env
      standAt apos.atName
      let (f, first) ← holding [ov] (getMethod ov m pl)
      callWith pos f first (backTo pos (starEach [] X.env)) (backToKw pos (keywordEach [] X.env))) := by rfl) :
    E X W (.Call (.Attribute o m apos) [] [] pos) (eMethZ m tab fo aNil) := by
  refine ⟨fun pins s σ H Q I h => ?_⟩
  obtain ⟨ρ, S, sl, w, rs, p⟩ := h
  refine PySem.W.methodCall_KW (pl := pl) (thn (ho.run pins s σ H _ I ⟨ρ, S, sl, w, rs, PostE.bindE p⟩) fun u s1 ⟨x, H1, I1, rx, ρ1, S1, d, x1, w1, r1, _, p1⟩ => ?_) hev
  split at p1
  · rename_i c ns vs ef
    split at p1
    · exact p1.elim
    · rename_i hmem
      split at p1
      · rename_i g eg
        obtain ⟨a, C, dx, fs, ex, hm, ea, hn, rl⟩ := flds_rep w1 r1 ef
        obtain ⟨f, k, hc, hM, F, hr⟩ := ht.at_ c g eg C hm
        subst ex
        obtain rfl : u = Value.ref a := rx
        refine getmeth_ok I1 ea hc hM (lookN_none hn hmem) ?_
        exact PySem.W.callWith_K0 (first := [.ref a]) I1.kIn hM.kp (run_fnR (us := [.ref a]) (vs := [.ref a]) F hr (passAt tk σ) I1 (.cons rfl .nil) ⟨ρ1, S1, [d], w1, RepL.cons r1 RepL.nil, p1⟩)
      · exact p1.elim
  · exact p1.elim

/-! ### making -/
def makeS (c : Str) (g : SemL) : SemL := fun ds S1 => (g (.ptr S1.length :: ds) (S1 ++ [.ins c [] []])).bind fun d S2 => match d with
  | .non => .ok (.ptr S1.length) S2
  | _ => .bad
theorem run_makeZ {c : Str} {pins : List (Addr × Obj)} {σ : L2.St} {ρ : List Addr} {H : Hp} {S : Store} {ds : List D} {s : Shared} {Q : VK} {us : List Value} {vs : List V} {E : XK} (M : Mk X.K C f) (hmc : X.mg c = some (.ref C)) (F : FZ X.prog X.w X.K X.mg X.base k f g) (hr : Room (k + 1) X.A) (hx : PassesAt (L2.CX X.prog X.w) X σ E) (I : Inv X pins σ H s) (r : Vals vs us)
    (w0 : WOk X.K X.mg ρ H S) (rl : RepL X.K X.mg ρ H ds vs) (p : PostE X.K X.mg E ρ H Q (makeS c g ds S)) :
    wpAny (model X.prog X.w) X.A (PySem.call (.ref C) us) (EP X pins σ Q) X.xe s := by
  have hx1 : H (s.heap.objs.size + 1) = none := I.hok.fresh (Nat.le_succ _)
  have hd1 : H s.heap.objs.size = none := I.hok.fresh (Nat.le_refl _)
  have hne : s.heap.objs.size ≠ s.heap.objs.size + 1 := Nat.ne_of_lt (Nat.lt_succ_self _)
  have I2 := Inv.made (C := C) I
  have hx2 : (upd H s.heap.objs.size (.own (s.heap.objs.size + 1))) (s.heap.objs.size + 1) = none := by rw [upd_ne hne.symm]; exact hx1
  have x1 : Ext ρ H ρ (upd H s.heap.objs.size (.own (s.heap.objs.size + 1))) := Ext.new' hd1
  have w1 : WOk X.K X.mg ρ (upd H s.heap.objs.size (.own (s.heap.objs.size + 1))) S := w0.new' hd1
  have x2 := x1.trans (Ext.hand (o := .ins C s.heap.objs.size []) hx2)
  have w2 : WOk X.K X.mg (ρ ++ [s.heap.objs.size + 1]) (upd (upd H s.heap.objs.size (.own (s.heap.objs.size + 1))) (s.heap.objs.size + 1) (.ins C s.heap.objs.size [])) (S ++ [.ins c [] []]) := w1.hand hx2 ⟨C, s.heap.objs.size, [], hmc, upd_same, rfl, RepL.nil⟩
  have rp : Rep X.K X.mg (ρ ++ [s.heap.objs.size + 1]) (upd (upd H s.heap.objs.size (.own (s.heap.objs.size + 1))) (s.heap.objs.size + 1) (.ins C s.heap.objs.size [])) (.ptr S.length) (.ref (s.heap.objs.size + 1)) := by
    rw [Rep]
    exact ⟨_, rfl, by rw [← w0.len]; simp⟩
  have hq : spZ X.K X.mg g (.ref (s.heap.objs.size + 1) :: vs) (upd (upd H s.heap.objs.size (.own (s.heap.objs.size + 1))) (s.heap.objs.size + 1) (.ins C s.heap.objs.size [])) (fun v H2 => v = .non ∧ Q (.ref (s.heap.objs.size + 1)) H2) E := by
    refine ⟨_, _, .ptr S.length :: ds, w2, RepL.cons rp (rl.ext x2), ?_⟩
    have p' := PostE.bindE (PostE.from x2 p)
    refine PostE.mono p' fun v H3 ⟨ρ3, S3, d, x3, w3, r3, _, p3⟩ => ?_
    cases d with
    | non => exact ⟨rep_non r3, post_ok p3 w3 (rp.ext x3)⟩
    | _ => exact p3.elim
  refine wpAny_call (make_map (f := f) I.kIn M.makes M.init (beq_iff_eq.mp M.fn) (codeAny_mono (F _ X.stack _ _ (Value.ref (s.heap.objs.size + 1) :: us) _ _ E (hr.make C us []) (I2.env0.make C us []) (show Vals (V.ref (s.heap.objs.size + 1) :: vs) (Value.ref (s.heap.objs.size + 1) :: us) from .cons rfl r) hq) fun r s' hq' => ?_))
  cases r with
  | error e => exact hx pins _ _ e s' I2 hq'
  | ok fl =>
    cases fl with
    | ret u =>
      obtain ⟨v, H', I3, rv, ev, q3⟩ := I2.after hq'
      subst ev
      exact ⟨rv, ⟨V.ref (s.heap.objs.size + 1), H', I3, rfl, q3⟩⟩
    | next => exact False.elim hq'
    | brk => exact False.elim hq'
    | cont => exact False.elim hq'
theorem r_makeZ (tk : Takes X W) (M : Mk X.K C f) (F : FZ X.prog X.w X.K X.mg X.base k f g) (hr : Room (k + 1) X.A) (hm : X.mg x = some (.ref C)) (ha : EA X W (e :: es) fa) (hg : Gl X x := by rfl)
    (hdb : (x == ("__debug__" : Str)) = false := by decide) (he : starEach (e :: es) X.env = (false, eval e X.env) :: starEach es X.env := by rfl) (hpl : (backTo pos (starEach es X.env)).any (·.1) = false := by rfl) :
    E X W (.Call (.Name x p) (e :: es) [] pos) (eArgs (makeS x g) fa) := by
  refine ⟨fun pins s σ H Q I h => ?_⟩
  refine wpAny_Call_Name_kw (ld_glob I hg hm ?_ hdb)
  have h' := argsem_imp (k := fun vs H1 => ∃ ρ S ds, WOk X.K X.mg ρ H1 S ∧ RepL X.K X.mg ρ H1 ds vs ∧ PostE X.K X.mg (WE W σ) ρ H1 Q (makeS x g ds S)) h fun ρ S H1 ds vs w r p => ⟨ρ, S, ds, w, r, p⟩
  refine PySem.W.callWith_K (h₀ := X.base) I.ok.mod.kin M.kp (thn (ha.run pos pins s σ H _ I h') fun us s1 ⟨vs, H1, I1, r, ρ1, S1, ds, w1, rl, q⟩ => ⟨I1.kIn, ?_⟩) he hpl
  exact run_makeZ M hm F hr (passAt tk σ) I1 r w1 rl q
theorem r_makeZ0 (tk : Takes X W) (M : Mk X.K C f) (F : FZ X.prog X.w X.K X.mg X.base k f g) (hr : Room (k + 1) X.A) (hm : X.mg x = some (.ref C)) (hg : Gl X x := by rfl) (hdb : (x == ("__debug__" : Str)) = false := by decide) :
    E X W (.Call (.Name x p) [] [] pos) (eArgs (makeS x g) aNil) := by
  refine ⟨fun pins s σ H Q I h => ?_⟩
  refine wpAny_Call_Name_kw (ld_glob I hg hm ?_ hdb)
  obtain ⟨ρ, S, sl, w, r, p⟩ := h
  exact PySem.W.callWith_K0 I.kIn M.kp (run_makeZ (us := []) (vs := []) M hm F hr (passAt tk σ) I .nil w RepL.nil p)

/-! ### o.f = v -/
def putN (f : Str) (d : D) : List Str → List D → List Str × List D
  | n :: ns, v :: vs => if n = f then (n :: ns, d :: vs) else (n :: (putN f d ns vs).1, v :: (putN f d ns vs).2)
  | _, _ => ([f], [d])
theorem putN_rep {K : PySem.W.Frag} {mg : Str → Option Value} {ρ : List Addr} {H : Hp} {f : Str} {d : D} {v : V} (h : Rep K mg ρ H d v) : ∀ {fs : List (Str × V)} {ns : List Str} {ds : List D}, fs.map (·.1) = ns → RepL K mg ρ H ds (fs.map (·.2)) →
    (putF f v fs).map (·.1) = (putN f d ns ds).1 ∧ RepL K mg ρ H (putN f d ns ds).2 ((putF f v fs).map (·.2))
  | [], _, ds, e, r => by
    simp only [List.map_nil] at e r
    subst e
    exact ⟨by cases ds <;> rfl, by cases ds <;> exact RepL.cons h RepL.nil⟩
  | (n, u) :: fs, _, [], e, r => by simp only [List.map_cons] at r; rw [RepL] at r; cases r
  | (n, u) :: fs, _, d' :: ds, e, r => by
    simp only [List.map_cons] at e r
    subst e
    rw [RepL] at r
    obtain ⟨u', r', e', h1, h2⟩ := r
    injection e' with e1 e2
    subst e1 e2
    unfold putF putN
    by_cases q : n = f
    · rw [if_pos q, if_pos q]
      exact ⟨rfl, RepL.cons h h2⟩
    · rw [if_neg q, if_neg q]
      obtain ⟨i1, i2⟩ := putN_rep h (ns := fs.map (·.1)) rfl h2
      exact ⟨by rw [List.map_cons, i1], RepL.cons h1 i2⟩
def setF (cs : List Str) (f : Str) (o v : D) (S : Store) : Option Store := match o with
  | .ptr n => (match S[n]? with
    | some (.ins c ns vs) => if c ∈ cs ∧ ns.length < 1000 then some (S.set n (.ins c (putN f v ns vs).1 (putN f v ns vs).2)) else none
    | _ => none)
  | _ => none
def sFldZ (cs : List Str) (f : Str) (fv fo : EX) : SX := fun sl S => (fv sl S).toS sl fun v S1 => (fo sl S1).toS sl fun o S2 => match setF cs f o v S2 with
  | some S3 => .nx sl S3
  | none => .bad
theorem s_fldZ {cs : List Str} {fl : Str} {pos' : Pos} (hc : ∀ c ∈ cs, ∀ C, X.mg c = some (.ref C) → Cls X.K C ∧ NoAttr X.K C fl) (ho : E X W o fo) (hv : E X W e fe) (hs : swapsWith e (some (.Attribute o fl pos')) pos.line X.env = pure false := by rfl) :
    ES X W (.Assign [.Attribute o fl pos'] e pos) (sFldZ cs fl fe fo) := by
  refine PS.imp (ps_fld ho hv hs) fun D σ H ⟨ρ, S, sl, w, rs, p⟩ => ?_
  refine ⟨ρ, S, sl, w, rs, PostE.mono (PostS.ofEx rs p) fun y H1 ⟨ρ1, S1, v, x1, w1, rs1, r1, p1⟩ => ?_⟩
  refine ⟨ρ1, S1, sl, w1, rs1, PostE.mono (PostS.ofEx rs1 p1) fun x H2 ⟨ρ2, S2, o', x2, w2, rs2, r2, p2⟩ => ?_⟩
  unfold setF at p2
  split at p2
  · rename_i S3 e3
    split at e3
    · rename_i n
      split at e3
      · rename_i c ns vs en
        split at e3
        · rename_i hcs
          cases e3
          rw [Rep] at r2
          obtain ⟨a, ea, q⟩ := r2
          obtain ⟨C, dx, fs, hm, h1, hn, rl⟩ := w2.ob n a _ q en
          obtain ⟨k1, k2⟩ := hc c hcs.1 C hm
          have xp : Ext ρ2 H2 ρ2 (upd H2 a (.ins C dx (putF fl y fs))) := Ext.putL q
          obtain ⟨z1, z2⟩ := putN_rep (f := fl) (r1.ext x2) hn rl
          refine ⟨a, C, dx, fs, ea, h1, k1, k2, by rw [← hn, List.length_map] at hcs; exact hcs.2, ?_⟩
          exact p2 _ ρ2 _ xp (w2.put (m := .ins c (putN fl v ns vs).1 (putN fl v ns vs).2) q ⟨C, dx, _, hm, upd_same, z1, z2.ext xp⟩) (rs2.ext xp)
        · cases e3
      · cases e3
    · cases e3
  · exact p2.elim

/-! ### o.f by class: a field, a property, a constant -/
inductive AtK where
  | fld
  | prop (g : SemL)
  | con (d : D)
def eAttrZ (f : Str) (tab : List (Str × AtK)) (fo : EX) : EX := fun sl S => (fo sl S).bind fun d S1 => match fldsOf S1 d with
  | some (c, ns, vs) => (match tab.lookup c with
    | some .fld => (match lookN f ns vs with
      | some v => .ok v S1
      | none => .bad)
    | some (.prop g) => (match g [d] S1 with
      | .ok v S2 => .ok v S2
      | _ => .bad)
    | some (.con v) => if f ∈ ns then .bad else .ok v S1
    | none => .bad)
  | none => .bad
def AtOk (X : Cx) (f : Str) (C : Addr) : AtK → Prop
  | .fld => NoAttr X.K C f
  | .prop g => ∃ (p a : Addr) (k : Nat), PropOf X.K C f p a ∧ FZ X.prog X.w X.K X.mg X.base k a g ∧ Room (k + 1) X.A
  | .con d => ∃ (v : V) (u : Value), Con X.K C f v u ∧ ∀ ρ H, Rep X.K X.mg ρ H d v
structure AttrOk (X : Cx) (f : Str) (tab : List (Str × AtK)) : Prop where
  at_ : ∀ c t, tab.lookup c = some t → ∀ C, X.mg c = some (.ref C) → Cls X.K C ∧ AtOk X f C t
theorem attr_nil : AttrOk X m [] := ⟨fun c g h => by cases h⟩
theorem attr_cons {c : Str} {C : Addr} {t : AtK} {tab : List (Str × AtK)} (hm : X.mg c = some (.ref C)) (hc : Cls X.K C) (ha : AtOk X m C t) (h : AttrOk X m tab) : AttrOk X m ((c, t) :: tab) := ⟨fun c' g' h' C' hm' => by
  rw [List.lookup_cons] at h'
  cases q : c' == c with
  | true =>
    rw [q] at h'
    cases h'
    have : c' = c := by simpa using q
    subst this
    rw [hm] at hm'
    cases hm'
    exact ⟨hc, ha⟩
  | false =>
    rw [q] at h'
    exact h.at_ c' g' h' C' hm'⟩
theorem getprop_okZ {pins : List (Addr × Obj)} {σ : L2.St} {H : Hp} {s : Shared} {Q : VK} {b : Bool} {E' : Value → Shared → Prop} {fl : Str} {a dx p' : Addr} {fs : List (Str × V)} {sp : Sp} (I : Inv X pins σ H s) (ea : H a = some (.ins C dx fs)) (c : Cls X.K C) (hp : PropOf X.K C fl p' f)
    (F : FnR X.prog X.w X.K X.mg X.base (L2.CX X.prog X.w) k f sp) (hr : Room (k + 1) X.A) (h : sp [.ref a] H Q (fun _ _ _ => False)) :
    wpAny (model X.prog X.w) X.A (getAttr (.ref a) fl b) (EP X pins σ Q) E' s := by
  obtain ⟨mA, O, _, _, _, _⟩ := ins_get I.hok ea
  obtain ⟨od, J, _⟩ := O.look
  obtain ⟨rest, hrec⟩ := hp.rec_
  have I1 := I.tok (s.toks + 1)
  have hc : (PySem.W.clsIn X.K C).isSome = true := by
    obtain ⟨cd, hc, _⟩ := PySem.W.any_some c.hd
    rw [hc]
    rfl
  refine PySem.W.get_bind I.kIn J (PySem.W.plainGet_of (c.get fl)).1 (PySem.W.findObj_data hc hp.at_ hp.get hp.tak) (PySem.W.plainGet_of (c.get fl)).2 (wpAny_call (PySem.W.prop_get (s := { s with toks := s.toks + 1 }) I.kIn hrec ?_))
  refine codeAny_mono (F X.A.in1 X.stack { s with toks := s.toks + 1 } H [.ref a] [.ref a] Q (fun _ _ _ => False) hr.in1 I1.env0.in1 (.cons rfl .nil) h) fun r s' hq => ?_
  cases r with
  | error er => exact False.elim (passes_call (X := X.nox) (W := WF) takesF (fun _ _ _ _ z => z) pins σ H { s with toks := s.toks + 1 } er s' (I1.wish _) hq)
  | ok fl =>
    cases fl with
    | ret u =>
      obtain ⟨v, H', I3, rv, q3⟩ := I1.after hq
      show wpAny _ _ (handedOut u) _ _ _
      rw [PySem.W.handedOut_of (handed_of rv)]
      exact wpAny_pure ⟨v, H', I3, rv, q3⟩
    | next => exact False.elim hq
    | brk => exact False.elim hq
    | cont => exact False.elim hq
theorem r_attrZ {fl : Str} {tab : List (Str × AtK)} (ht : AttrOk X fl tab) (ho : E X W o fo) (hb : attributeBase o fl X.env (eval o X.env) = eval o X.env := by rfl) : E X W (.Attribute o fl pos) (eAttrZ fl tab fo) := by
  refine ⟨fun pins s σ H Q I h => ?_⟩
  obtain ⟨ρ, S, sl, w, rs, p⟩ := h
  refine attr_of hb (thn (ho.run pins s σ H _ I ⟨ρ, S, sl, w, rs, PostE.bindE p⟩) fun u s1 ⟨x, H1, I1, rx, ρ1, S1, d, x1, w1, r1, _, p1⟩ => ?_)
  split at p1
  · rename_i c ns vs ef
    obtain ⟨a, C, dx, fs, ex, hm, ea, hn, rl⟩ := flds_rep w1 r1 ef
    subst ex
    obtain rfl : u = Value.ref a := rx
    split at p1
    · rename_i et
      obtain ⟨hc, ha⟩ := ht.at_ c _ et C hm
      split at p1
      · rename_i v ev
        obtain ⟨v', h1, h2⟩ := lookN_rep hn rl ev
        exact getattr_ok I1 ea hc ha h1 fun u s2 I2 ru => ⟨v', H1, I2, ru, post_ok p1 w1 h2⟩
      · exact p1.elim
    · rename_i g et
      obtain ⟨hc, p', a', k, hp, F, hr⟩ := ht.at_ c _ et C hm
      refine getprop_okZ I1 ea hc hp F hr ⟨ρ1, S1, [d], w1, RepL.cons r1 RepL.nil, ?_⟩
      split at p1
      · rename_i v S2 eg
        rw [eg]
        exact fun v' ρ2 H2 x2 w2 r2 => p1 v' ρ2 H2 x2 w2 r2
      · exact p1.elim
    · rename_i v et
      obtain ⟨hc, v', u', hk, hr⟩ := ht.at_ c _ et C hm
      split at p1
      · exact p1.elim
      · rename_i hmem
        exact getcon_ok I1 ea hc hk (lookN_none hn hmem) fun s2 I2 => ⟨v', H1, I2, hk.rel, post_ok p1 w1 (hr ρ1 H1)⟩
    · exact p1.elim
  · exact p1.elim
end
end Z
/-! ZD: what the printed derivations use. -/
namespace Z
open PySem PySem.Spec L2

section
variable {X : Cx}
def addX : Sem2 := orS2 addI (orS2 addS (orS2 addL addT))
theorem d_addX : OpD X (binaryOp .Add) addX := d_addI.or (d_addS.or (d_addL.or d_addT))
def mulX : Sem2 := orS2 mulI mulL
def mulXH : Sem2 := orS2 mulI mulLH
theorem d_mulX : OpD X (binaryOp .Mult) mulX := d_mulI.or d_mulL
theorem d_mulXH : OpD X (binaryOp .Mult) mulXH := d_mulI.or d_mulLH
def ltX : Sem2 := orS2 ltI ltS
theorem d_ltX : OpD X (compareOp .Lt) ltX := d_ltI.or d_ltS
def inX : Sem2 := orS2 (inSg false) (orS2 (inDct false) (inSq false))
def ninX : Sem2 := orS2 (inSg true) (orS2 (inDct true) (inSq true))
theorem d_inX (hu : X.A.units + 64 < cLine) : OpD X (compareOp .In) inX := d_inSg.or ((d_inDct (Nat.lt_of_le_of_lt (Nat.add_le_add_left (by decide : 1 ≤ 64) _) hu)).or d_inSq)
theorem d_ninX (hu : X.A.units + 64 < cLine) : OpD X (compareOp .NotIn) ninX := d_notInSg.or ((d_notInDct (Nat.lt_of_le_of_lt (Nat.add_le_add_left (by decide : 1 ≤ 64) _) hu)).or d_notInSq)
def ixX : Sem2 := orS2 ixSeq ixDct
theorem d_ixX (hu : X.A.units + 64 < cLine) : IxD X ixX := d_ixSeq.or (d_ixDct (Nat.lt_of_le_of_lt (Nat.add_le_add_left (by decide : 1 ≤ 64) _) hu))
def lenX : SemL := orSL semLen semLenD
theorem d_lenX : CallD X (.builtin "len") lenX := d_len.or d_lenD
def isiX : SemL := orSL semIsi semIsiT
theorem d_isiX : CallD X (.builtin "isinstance") isiX := d_isi.or d_isiT
def dictX : SemL := orSL semDictD semDictP
theorem d_dictX (hc : X.calm = true) : CallD X (.type "dict") dictX := d_dictD.or (d_dictP hc)
def listX : SemL := semListOf
def listXH : SemL := semListOfH
theorem hu1 {A : Around} (hu : A.units + 64 < cLine) : A.units + 1 < cLine := Nat.lt_of_le_of_lt (Nat.add_le_add_left (by decide : 1 ≤ 64) _) hu
end
/-! ### name = [..], frozen -/
section
variable {X : Cx} {W : WX} {pos : Pos} {elt tg iter : Expr} {ifs : List Expr} {scope : Scope} {own : List (Str × Nat)} {it : IX} {g : GX} {bt : BX} {fe : EX}
theorem s_setLcF {i : Nat} {y : Str} {py spos : Pos} (hc : X.calm = true) (hN : X.N.Nodup) (ok : BlkOk X.N X.env.scope scope own)
    (hsw : swapsWith (.ListComp elt [⟨tg, iter, ifs, 0⟩] scope pos) (some (.Name y py)) spos.line X.env = pure true) (hi : EI X W tg iter it)
    (hg : ∀ (s : Shared) (H : Hp) (C : Addr) (cl : List (Str × Addr)) (fp : List Addr), EGw (X.blk s H scope (compEnvC scope cl C X.env) fp) WF (own.map (·.2)) tg g) (ht : ∀ (s : Shared) (H : Hp) (C : Addr) (cl : List (Str × Addr)) (fp : List Addr), ETs (X.blk s H scope (compEnvC scope cl C X.env) fp) WF ifs bt)
    (he : ∀ (s : Shared) (H : Hp) (C : Addr) (cl : List (Str × Addr)) (fp : List Addr), E (X.blk s H scope (compEnvC scope cl C X.env) fp) WF elt fe) (hy : X.N[i]? = some y := by rfl) (hyl : X.env.scope.names.lookup y = some .local := by rfl) (hs : ∀ x, foldedSetIterable iter X.env x = pure x := by intro _; rfl) :
    ES X W (.Assign [.Name y py] (.ListComp elt [⟨tg, iter, ifs, 0⟩] scope pos) spos) (sAsg (eFin (eLc it g bt fe (own.map (·.2)))) (gSet i)) :=
  PS.imp (ps_setLc (tt := trB X.K X.mg WF bt) (te := trE X.K X.mg WF fe) hc hN hy hyl hsw hi ok (fun s H C cl fp => (hg s H C cl fp).all) ht he hs) fun D σ H ⟨ρ, S, sl, w, rs, p⟩ =>
    lc_imp' (Q := fun x H1 => gName i x σ H1 D.nx) ⟨ρ, S, sl, w, rs, fin_imp w (PostE.mono (PostS.ofE (o := eFin (eLc it g bt fe (own.map (·.2))) sl S) rs p) fun v H1 ⟨ρ1, S1, d, w1, r1, rv, p1⟩ => p1 _ ρ1 H1 Ext.refl w1 (r1.set rv i))⟩
end

/-! ### globals that are constants -/
section
variable {X : Cx} {W : WX} {x : Str} {pos : Pos}
theorem r_gint {i : Int} (h : ∃ t, X.mg x = some (.int i t)) (hg : Gl X x := by rfl) (hd : (x == ("__debug__" : Str)) = false := by decide) : E X W (.Name x pos) (eLit (.int i)) := by
  obtain ⟨t, h⟩ := h
  exact r_glob (v := .int i) hg h ⟨t, rfl⟩ (fun _ _ => mk_int) hd
theorem r_gstr {i : Str} (h : ∃ t, X.mg x = some (.str i t)) (hg : Gl X x := by rfl) (hd : (x == ("__debug__" : Str)) = false := by decide) : E X W (.Name x pos) (eLit (.str i)) := by
  obtain ⟨t, h⟩ := h
  exact r_glob (v := .str i) hg h ⟨t, rfl⟩ (fun _ _ => mk_str) hd
end
/-! ### targets that end -/
def NxB (g : GX) : Prop := ∀ d sl S, (∃ sl' S', g d sl S = .nx sl' S') ∨ g d sl S = .bad
def NxBs (g : GXs) : Prop := ∀ d sl S, (∃ sl' S', g d sl S = .nx sl' S') ∨ g d sl S = .bad
theorem nx_nil : NxBs gNilX := fun d sl S => by cases d with | nil => exact .inl ⟨_, _, rfl⟩ | cons _ _ => exact .inr rfl
theorem nx_cons {g : GX} {gs : GXs} (h : NxB g) (hs : NxBs gs) : NxBs (gConsX g gs) := fun d sl S => by
  cases d with
  | nil => exact .inr rfl
  | cons x r =>
    show (∃ sl' S', (g x sl S).then (gs r) = _) ∨ (g x sl S).then (gs r) = _
    rcases h x sl S with ⟨sl', S', e⟩ | e
    · rw [e]; exact hs r sl' S'
    · rw [e]; exact .inr rfl
theorem nx_tup {gs : GXs} (hs : NxBs gs) : NxB (gTupX gs) := fun d sl S => by
  cases d with
  | tup xs => exact hs xs sl S
  | _ => exact .inr rfl
theorem len_consN {g : GX} {gs : GXs} {n : Nat} (hg : NxB g) (hr : ∀ ds sl S, gs ds sl S ≠ .bad → ds.length = n) : ∀ ds sl S, gConsX g gs ds sl S ≠ .bad → ds.length = n + 1 := len_cons hr hg
/-! ### name op= e, ints -/
def sAug (i : Nat) (op : Int → Int → Int) (fe : EX) : SX := fun sl S => match sl[i]? with
  | some (some (.int a)) => (fe sl S).toS sl fun e S1 => (match e with
    | .int b => .nx (sl.set i (some (.int (op a b)))) S1
    | _ => .bad)
  | _ => .bad
section
variable {X : Cx} {W : WX} {x : Str} {pos pos' : Pos} {e : Expr} {fe : EX}
theorem s_aug {i : Nat} {op : Operator} {g : Int → Int → Int} (hN : X.N.Nodup) (ho : PIp X op (ipI g)) (he : E X W e fe) (hi : X.N[i]? = some x := by rfl) (hx : Loc X.env.scope x := by first | exact Or.inl rfl | exact Or.inr rfl) (hf : X.fn x = true ∨ X.env.scope.names.lookup x = some .local := by first | exact .inl rfl | exact .inr rfl) :
    ES X W (.AugAssign (.Name x pos') op e pos) (sAug i g fe) := by
  refine PS.imp (ps_aug hN hi hx he ho hf) fun D σ H ⟨ρ, S, sl, w, rs, p⟩ => ?_
  unfold sAug at p
  split at p
  · rename_i a ea
    obtain ⟨v, e1, r1⟩ := rs.at_ i _ ea
    refine ⟨v, e1, ρ, S, sl, w, rs, PostE.mono (PostS.ofEx rs p) fun y H1 ⟨ρ1, S1, d, x1, w1, rs1, r2, p1⟩ => ?_⟩
    split at p1
    · rename_i b
      exact ⟨a, b, rep_int (r1), rep_int r2, p1 _ ρ1 H1 Ext.refl w1 (rs1.set (mk_int (i := g a b)) i)⟩
    · exact p1.elim
  · exact p.elim
end
/-! ### tables -/
section
variable {X : Cx} {f : Str}
theorem cls_nil : ∀ c ∈ ([] : List Str), ∀ C, X.mg c = some (.ref C) → Cls X.K C ∧ NoAttr X.K C f := fun c h => by cases h
theorem cls_cons {c : Str} {C : Addr} {cs : List Str} (hm : X.mg c = some (.ref C)) (hc : Cls X.K C) (hn : NoAttr X.K C f) (h : ∀ c ∈ cs, ∀ C, X.mg c = some (.ref C) → Cls X.K C ∧ NoAttr X.K C f) : ∀ c' ∈ c :: cs, ∀ C, X.mg c' = some (.ref C) → Cls X.K C ∧ NoAttr X.K C f := fun c' h' C' hm' => by
  rcases List.mem_cons.mp h' with e | e
  · subst e
    rw [hm] at hm'
    cases hm'
    exact ⟨hc, hn⟩
  · exact h c' e C' hm'
end
theorem fz_bad {P : Program} {w : World} {K : PySem.W.Frag} {mg : Str → Option Value} {base : Heap} {k : Nat} {f : Addr} : FZ P w K mg base k f (fun _ _ => .bad) := fun A outer s H us vs Q E hr e0 r ⟨_, _, _, _, _, p⟩ => p.elim
/-! ### the law's end -/
theorem cx_false {P : Program} {w : World} {outer : List Env} {H : Hp} {s : Shared} {e : Value} {s' : Shared} (h : L2.CX P w outer H s (fun _ _ _ => False) e s') : False := by
  obtain ⟨_, _, _, _, _, _, _, _, _, _, _, _, z⟩ := h
  exact z
theorem law_end {K : PySem.W.Frag} {mg : Str → Option Value} {H : Hp} {a : Addr} {ns : List Int} {g : SemL} (hS : SqL K H a (ns.map V.int)) (h : ∃ S, g [.scr ns] [] = .ok (.bl true) S) : spOf K mg 1 g [.ref a] H (fun v _ => v = .bl true) fun _ _ _ => False := by
  obtain ⟨S, e⟩ := h
  refine ⟨[], [], [.scr ns], rfl, ⟨rfl, List.nodup_nil, by simp, by simp⟩, RepL.cons ?_ RepL.nil, ?_⟩
  · rw [Rep]
    refine ⟨a, rfl, ?_⟩
    rcases hS with h | h
    · exact .inl ⟨by simp, h⟩
    · exact .inr h
  · rw [e]
    exact fun v ρ' H' _ _ r => rep_bl r
def spLaw (K : PySem.W.Frag) : Sp := fun vs H Q _ => ∃ (a : Addr) (ns : List Int), vs = [.ref a] ∧ SqL K H a (ns.map V.int) ∧ ns.length ≤ 63 ∧ ∀ H', Q (.bl true) H'
theorem law_fn {P : Program} {w : World} {K : PySem.W.Frag} {mg : Str → Option Value} {base : Heap} {k : Nat} {f : Addr} {fd : FuncData} {ps : List Str} {g : SemL} (F : FnOk P w K mg base (L2.CX P w) k f fd ps (spOf K mg 1 g)) (h : ∀ ns : List Int, ns.length ≤ 63 → ∃ S, g [.scr ns] [] = .ok (.bl true) S) :
    FnOk P w K mg base (L2.CX P w) k f fd ps (spLaw K) := F.imp fun vs H Q E ⟨a, ns, ev, hS, hl, q⟩ => by
  subst ev
  obtain ⟨ρ, S, ds, h1, h2, h3, h4⟩ := law_end (mg := mg) (H := H) hS (h ns hl)
  obtain ⟨S', e⟩ := h ns hl
  refine ⟨[], [], [.scr ns], rfl, ⟨rfl, List.nodup_nil, by simp, by simp⟩, RepL.cons ?_ RepL.nil, ?_⟩
  · rw [Rep]
    refine ⟨a, rfl, ?_⟩
    rcases hS with h | h
    · exact .inl ⟨by simp, h⟩
    · exact .inr h
  · rw [e]
    exact fun v ρ' H' _ _ r => by rw [rep_bl r]; exact q H'
theorem walkZ {l : PySem.W.OpenLaw} {q : Program} {loose : List Str} {XP : (Str → Option Value) → Heap → Prop} {YP : World → Heap → Prop} {d : DefRec} {K : Params → PySem.W.Frag} {k : Nat} {x : Str} (hn : l.most = some 63) (hdf : d.params.defaults = []) (hr : Room k callerA)
    (hY : ∀ (w : World) (h : Heap), YP w h → (K w.params).In h)
    (F : ∀ (w : World) (mg : Str → Option Value) (fa : Addr) (h : Heap), (K w.params).In h → h.Ns mainGlobals mg → mg d.name = some (.ref fa) →
      ∃ fd : FuncData, (∀ (s : Shared) (u : Value), BindsTo s fd ⟨[u], []⟩ [(x, u)]) ∧ ∀ base : Heap, (K w.params).In base → base.Ns mainGlobals mg → FnOk l.prog w (K w.params) mg base (L2.CX l.prog w) k fa fd [x] (spLaw (K w.params))) :
    PySem.W.WalkO q loose XP YP l.row.toRowW d [] (fun f vs => PySem.call f vs) :=
  L2.walk_of (n := 63) (k := k) (x := x) (CX := fun w => L2.CX l.prog w) (sp := fun w => spLaw (K w.params)) hn (by decide) hdf hr hY F (fun _ _ a ns hl _ hS => ⟨a, ns, rfl, hS, hl, fun _ => rfl⟩) fun _ _ _ _ _ z => cx_false z
end Z
/-! ZE: how the mirrors compute: plain equations. -/
namespace Z
open PySem PySem.Spec L2

@[simp] theorem bind_ok {α β : Type} (a : α) (S : Store) (k : α → Store → Out β) : (Out.ok a S).bind k = k a S := (rfl)
@[simp] theorem bind_bad {α β : Type} (k : α → Store → Out β) : (Out.bad : Out α).bind k = .bad := (rfl)
@[simp] theorem toS_ok {α : Type} (a : α) (S : Store) (sl : Sl) (k : α → Store → SO) : (Out.ok a S).toS sl k = k a S := (rfl)
@[simp] theorem toS_bad {α : Type} (sl : Sl) (k : α → Store → SO) : (Out.bad : Out α).toS sl k = .bad := (rfl)
@[simp] theorem then_nx (sl : Sl) (S : Store) (g : SX) : (SO.nx sl S).then g = g sl S := (rfl)
@[simp] theorem then_rt (d : D) (S : Store) (g : SX) : (SO.rt d S).then g = .rt d S := (rfl)
@[simp] theorem then_bk (sl : Sl) (S : Store) (g : SX) : (SO.bk sl S).then g = .bk sl S := (rfl)
@[simp] theorem then_ct (sl : Sl) (S : Store) (g : SX) : (SO.ct sl S).then g = .ct sl S := (rfl)
@[simp] theorem out_rt (d : D) (S : Store) : (SO.rt d S).out = .ok d S := (rfl)
@[simp] theorem out_nx (sl : Sl) (S : Store) : (SO.nx sl S).out = .ok .non S := (rfl)
@[simp] theorem shaped_int (i : Int) : SeqAt.shaped (.int i) = true := by simp [SeqAt.shaped, PyData.canLay0, PyData.depth]
theorem shaped_str {i : Str} (h : PyData.strOk i = true) : SeqAt.shaped (.str i) = true := by simp [SeqAt.shaped, PyData.canLay0, PyData.depth, h]
@[simp] theorem shaped_bool (i : Bool) : SeqAt.shaped (.bool i) = true := by simp [SeqAt.shaped, PyData.canLay0, PyData.depth]
@[simp] theorem eqD_int (i j : Int) (S : Store) : eqD false (.int i) (.int j) S = .ok (.bl (decide (i = j))) S := by
  simp [eqD, toP, toP0, PyData.eqv]
  rfl
@[simp] theorem neD_int (i j : Int) (S : Store) : eqD true (.int i) (.int j) S = .ok (.bl (!decide (i = j))) S := by
  simp [eqD, toP, toP0, PyData.eqv]
  rfl
@[simp] theorem addX_int (i j : Int) (S : Store) : addX (.int i) (.int j) S = .ok (.int (i + j)) S := (rfl)
@[simp] theorem subI_int (i j : Int) (S : Store) : subI (.int i) (.int j) S = .ok (.int (i - j)) S := (rfl)
@[simp] theorem ltX_int (i j : Int) (S : Store) : ltX (.int i) (.int j) S = .ok (.bl (decide (i < j))) S := (rfl)
@[simp] theorem leI_int (i j : Int) (S : Store) : leI (.int i) (.int j) S = .ok (.bl (decide (i ≤ j))) S := (rfl)
@[simp] theorem gtI_int (i j : Int) (S : Store) : gtI (.int i) (.int j) S = .ok (.bl (decide (j < i))) S := (rfl)
@[simp] theorem geI_int (i j : Int) (S : Store) : geI (.int i) (.int j) S = .ok (.bl (decide (j ≤ i))) S := (rfl)
theorem modI_int {i j : Int} (h : 0 < j) (S : Store) : modI (.int i) (.int j) S = .ok (.int (i % j)) S := by simp [modI, iiC, h]
theorem divI_int {i j : Int} (h : 0 < j) (h2 : j.natAbs.log2 < 9000) (S : Store) : divI (.int i) (.int j) S = .ok (.int (i / j)) S := by simp [divI, iiC, divB, h, h2]
theorem mulX_int {i j : Int} (h : i.natAbs.log2 + j.natAbs.log2 < 1000000) (S : Store) : mulX (.int i) (.int j) S = .ok (.int (i * j)) S := by
  simp [mulX, orS2, mulI, iiC, mulB, h]
theorem ix_ptr {S : Store} {n : Nat} {xs : List D} {i : Int} (h : S[n]? = some (.lst xs)) : ixX (.ptr n) (.int i) S = match atI xs i with
    | some x => .ok x S
    | none => .bad := by
  simp only [ixX, orS2, ixSeq, asS, asL, h]
  cases e : atI xs i with
  | some x => rfl
  | none => simp [ixDct, asD, h]
theorem ix_lst {S : Store} {xs : List D} {i : Int} : ixX (.lst xs) (.int i) S = match atI xs i with
    | some x => .ok x S
    | none => .bad := by
  simp only [ixX, orS2, ixSeq, asS, asL]
  cases e : atI xs i with
  | some x => rfl
  | none => simp [ixDct, asD]
theorem ix_tup {S : Store} {xs : List D} {i : Int} : ixX (.tup xs) (.int i) S = match atI xs i with
    | some x => .ok x S
    | none => .bad := by
  simp only [ixX, orS2, ixSeq, asS]
  cases e : atI xs i with
  | some x => rfl
  | none => simp [ixDct, asD]
/-! ### stores that only differ in what speaks of the old -/
structure Keep (S S1 : Store) : Prop where
  len : S1.length = S.length
  at_ : ∀ (i : Nat) (m : MO), S1[i]? = some m → S[i]? = some m ∨ underM S.length m = true
theorem Keep.refl (S : Store) : Keep S S := ⟨rfl, fun i m h => .inl h⟩
theorem Keep.trans {S S1 S2 : Store} (h : Keep S S1) (h' : Keep S1 S2) : Keep S S2 := ⟨h'.len.trans h.len, fun i m e => by
  rcases h'.at_ i m e with q | q
  · exact h.at_ i m q
  · rw [h.len] at q; exact .inr q⟩
theorem Keep.set {S : Store} {n : Nat} {m : MO} (h : underM S.length m = true) : Keep S (S.set n m) := ⟨by simp, fun i m' e => by
  by_cases q : n = i
  · subst q
    by_cases hi : n < S.length
    · rw [List.getElem?_set_self hi] at e
      cases e
      exact .inr h
    · rw [List.getElem?_eq_none (by simpa using hi)] at e; cases e
  · rw [List.getElem?_set_ne q] at e
    exact .inl e⟩
theorem Keep.closed {S S1 T : Store} (h : Keep S S1) : Closed S (S1 ++ T) := fun i m hi e => by
  rw [List.getElem?_append_left (by rw [h.len]; exact hi)] at e
  exact h.at_ i m e
theorem fin_keep {S S1 T : Store} {d d' : D} (h : Keep S S1) (hd : frzD (frzP (S1 ++ T) S.length 6) d = some d') : fin S (.ok d (S1 ++ T)) = .ok d' S1 := by
  simp only [fin, if_pos h.closed, hd]
  rw [← h.len, List.take_left']
  rfl
theorem fin_keep0 {S S1 : Store} {d d' : D} (h : Keep S S1) (hd : frzD (frzP S1 S.length 6) d = some d') : fin S (.ok d S1) = .ok d' S1 := by
  have := fin_keep (T := []) h (by rw [List.append_nil]; exact hd)
  rwa [List.append_nil] at this
/-- what has no handles stays -/
theorem frz_of {k : Nat} {S : Store} {f : Nat} {d : D} (h : under k d = true) : frzD (frzP S k f) d = some d := frz_under (fun n hn => frzP_lt hn) d h
theorem frzL_of {k : Nat} {S : Store} {f : Nat} {ds : List D} (h : underL k ds = true) : frzL (frzP S k f) ds = some ds := frz_underL (fun n hn => frzP_lt hn) ds h
theorem frz_lst {S1 : Store} {acc : List D} (h : underL S1.length acc = true) : frzD (frzP (S1 ++ [.lst acc]) S1.length 6) (.ptr S1.length) = some (.lst acc) := by
  rw [frzD, frzP, if_neg (Nat.lt_irrefl _)]
  rw [List.getElem?_append_right (Nat.le_refl _)]
  simp only [Nat.sub_self, List.getElem?_cons_zero]
  rw [frzL_of h]
  rfl
theorem fin_lst {S S1 : Store} {acc : List D} (h : Keep S S1) (hu : underL S.length acc = true) : fin S (.ok (.ptr S.length) (S1 ++ [.lst acc])) = .ok (.lst acc) S1 := by
  refine fin_keep h ?_
  rw [← h.len] at hu ⊢
  exact frz_lst hu
end Z
/-! ZF: what a mirror ends in: rules for plain laws. -/
namespace Z
open PySem PySem.Spec L2

/-! ### texts by their codes -/
abbrev tx (l : List Nat) : Str := ⟨l.toArray⟩
abbrev sg (c : Nat) : D := .str (tx [c])
@[simp] theorem tx_len (l : List Nat) : (tx l).length = l.length := by simp [Str.length]
theorem tx_eta (s : Str) : tx s.cps.toList = s := by cases s; simp [tx]
theorem tx_ind {P : Str → Prop} (h : ∀ l, P (tx l)) (s : Str) : P s := by rw [← tx_eta s]; exact h _
@[simp] theorem tx_inj {a b : List Nat} : tx a = tx b ↔ a = b := by simp [tx]
@[simp] theorem tx_app (a b : List Nat) : tx a ++ tx b = tx (a ++ b) := by
  show (⟨a.toArray ++ b.toArray⟩ : Str) = _
  simp [tx]
@[simp] theorem signsD_tx (l : List Nat) : signsD (tx l) = l.map sg := by simp [signsD, tx]
@[simp] theorem signsS_tx (l : List Nat) : signsS (tx l) = l.map fun c => tx [c] := by simp [signsS, tx]

/-- d is a bool with k -/
def isB (d : D) (k : Bool → Prop) : Prop := match d with
  | .bl b => k b
  | _ => False
@[simp] theorem isB_bl {b : Bool} {k : Bool → Prop} : isB (.bl b) k = k b := (rfl)
theorem isB_iff {d : D} {k : Bool → Prop} : isB d k ↔ ∃ b, d = .bl b ∧ k b := by cases d <;> simp [isB, -Bool.exists_bool]
/-- o is something with k -/
def isO {α : Type} (o : Option α) (k : α → Prop) : Prop := match o with
  | some a => k a
  | none => False
@[simp] theorem isO_some {α : Type} {a : α} {k : α → Prop} : isO (some a) k = k a := (rfl)
@[simp] theorem isO_none {α : Type} {k : α → Prop} : isO none k = False := (rfl)
/-! ### ends -/
@[irreducible] def We {α : Type} (o : Out α) (P : α → Store → Prop) (X : D → Store → Prop) : Prop := match o with
  | .ok a S => P a S
  | .ex e S => X e S
  | .bad => False
structure Q0 where
  nx : Sl → Store → Prop
  bk : Sl → Store → Prop
  ct : Sl → Store → Prop
  rt : D → Store → Prop
  ex : D → Sl → Store → Prop
@[irreducible] def Wo (o : SO) (Q : Q0) : Prop := match o with
  | .nx sl S => Q.nx sl S
  | .bk sl S => Q.bk sl S
  | .ct sl S => Q.ct sl S
  | .rt d S => Q.rt d S
  | .ex e sl S => Q.ex e sl S
  | .bad => False
section
variable {α β : Type} {P : α → Store → Prop} {X : D → Store → Prop} {Q : Q0} {S : Store} {sl : Sl}
@[simp] theorem we_ok {a : α} : We (.ok a S) P X = P a S := by unfold We; rfl
@[simp] theorem we_ex {e : D} : We (.ex e S : Out α) P X = X e S := by unfold We; rfl
@[simp] theorem we_bad : We (.bad : Out α) P X = False := by unfold We; rfl
theorem we_bind {o : Out α} {k : α → Store → Out β} {P : β → Store → Prop} : We (o.bind k) P X = We o (fun a S' => We (k a S') P X) X := by cases o <;> simp [Out.bind]
@[simp] theorem wo_nx : Wo (.nx sl S) Q = Q.nx sl S := by unfold Wo; rfl
@[simp] theorem wo_bk : Wo (.bk sl S) Q = Q.bk sl S := by unfold Wo; rfl
@[simp] theorem wo_ct : Wo (.ct sl S) Q = Q.ct sl S := by unfold Wo; rfl
@[simp] theorem wo_rt {d : D} : Wo (.rt d S) Q = Q.rt d S := by unfold Wo; rfl
@[simp] theorem wo_ex {e : D} : Wo (.ex e sl S) Q = Q.ex e sl S := by unfold Wo; rfl
@[simp] theorem wo_bad : Wo .bad Q = False := by unfold Wo; rfl
theorem wo_then {o : SO} {g : SX} : Wo (o.then g) Q = Wo o { Q with nx := fun sl' S' => Wo (g sl' S') Q } := by cases o <;> simp [SO.then]
theorem wo_toS {o : Out α} {k : α → Store → SO} : Wo (o.toS sl k) Q = We o (fun a S' => Wo (k a S') Q) (fun e S' => Q.ex e sl S') := by cases o <;> simp [Out.toS]
theorem We.mono {o : Out α} {P' : α → Store → Prop} {X' : D → Store → Prop} (h : We o P X) (hp : ∀ a S, P a S → P' a S) (hx : ∀ e S, X e S → X' e S) : We o P' X' := by
  cases o with
  | ok a S => rw [we_ok] at h ⊢; exact hp _ _ h
  | ex e S => rw [we_ex] at h ⊢; exact hx _ _ h
  | bad => rw [we_bad] at h; exact h.elim
theorem We.post {o : Out α} {P' : α → Store → Prop} (h : We o P X) (hp : ∀ a S, P a S → P' a S) : We o P' X := h.mono hp fun _ _ q => q
theorem Wo.mono {o : SO} {Q' : Q0} (h : Wo o Q) (h1 : ∀ sl S, Q.nx sl S → Q'.nx sl S) (h2 : ∀ sl S, Q.bk sl S → Q'.bk sl S) (h3 : ∀ sl S, Q.ct sl S → Q'.ct sl S) (h4 : ∀ d S, Q.rt d S → Q'.rt d S) (h5 : ∀ e sl S, Q.ex e sl S → Q'.ex e sl S) : Wo o Q' := by
  cases o with
  | nx sl S => rw [wo_nx] at h ⊢; exact h1 _ _ h
  | bk sl S => rw [wo_bk] at h ⊢; exact h2 _ _ h
  | ct sl S => rw [wo_ct] at h ⊢; exact h3 _ _ h
  | rt d S => rw [wo_rt] at h ⊢; exact h4 _ _ h
  | ex e sl S => rw [wo_ex] at h ⊢; exact h5 _ _ _ h
  | bad => rw [wo_bad] at h; exact h.elim
/-- the same end, told as an equation -/
theorem we_eq {o : Out α} {a : α} (h : o = .ok a S) (p : P a S) : We o P X := by rw [h, we_ok]; exact p
theorem We.get {o : Out α} (h : We o P (fun _ _ => False)) : ∃ a S, o = .ok a S ∧ P a S := by
  cases o with
  | ok a S => rw [we_ok] at h; exact ⟨a, S, rfl, h⟩
  | ex e S => rw [we_ex] at h; exact h.elim
  | bad => rw [we_bad] at h; exact h.elim

/-! ### statements -/
variable {f g : SX} {c : BX} {fe : EX} {fa : AX} {tg : GX}
@[simp] theorem w_sNil : Wo (sNil sl S) Q = Q.nx sl S := by unfold sNil; simp
@[simp] theorem w_sBad : Wo (sBad sl S) Q = False := by unfold sBad; simp
@[simp] theorem w_sBrk : Wo (sBrk sl S) Q = Q.bk sl S := by unfold sBrk; simp
@[simp] theorem w_sCnt : Wo (sCnt sl S) Q = Q.ct sl S := by unfold sCnt; simp
@[simp] theorem w_sSeq : Wo (sSeq f g sl S) Q = Wo (f sl S) { Q with nx := fun sl' S' => Wo (g sl' S') Q } := by unfold sSeq; exact wo_then
@[simp] theorem w_sExp : Wo (sExp fe sl S) Q = We (fe sl S) (fun _ S' => Q.nx sl S') (fun e S' => Q.ex e sl S') := by unfold sExp; rw [wo_toS]; simp only [wo_nx, wo_rt]
@[simp] theorem w_sRet : Wo (sRet fe sl S) Q = We (fe sl S) (fun d S' => Q.rt d S') (fun e S' => Q.ex e sl S') := by unfold sRet; rw [wo_toS]; simp only [wo_nx, wo_rt]
@[simp] theorem w_sRetN : Wo (sRetN sl S) Q = Q.rt .non S := by unfold sRetN; simp
@[simp] theorem w_sIf : Wo (sIf c f g sl S) Q = We (c sl S) (fun b S' => Wo (if b = true then f sl S' else g sl S') Q) (fun e S' => Q.ex e sl S') := by unfold sIf; exact wo_toS
@[simp] theorem w_sAsg : Wo (sAsg fe tg sl S) Q = We (fe sl S) (fun d S' => Wo (tg d sl S') Q) (fun e S' => Q.ex e sl S') := by unfold sAsg; exact wo_toS
theorem w_sPar {i j : Nat} : Wo (sPar i j fa sl S) Q = We (fa sl S) (fun ds S' => Wo (match ds with
  | [d, e] => .nx ((sl.set i (some d)).set j (some e)) S'
  | _ => .bad) Q) (fun e S' => Q.ex e sl S') := by unfold sPar; exact wo_toS
@[simp] theorem w_sPar2 {i j : Nat} {f1 f2 : EX} : Wo (sPar i j (aCons f1 (aCons f2 aNil)) sl S) Q = We (f1 sl S) (fun d S1 => We (f2 sl S1) (fun e S2 => Q.nx ((sl.set i (some d)).set j (some e)) S2) (fun e S' => Q.ex e sl S')) (fun e S' => Q.ex e sl S') := by
  rw [w_sPar]
  simp only [aCons, aNil, we_bind, we_ok, wo_nx]
theorem w_sFor {it : IX} : Wo (sFor it tg f sl S) Q = We (it sl S) (fun p S' => Wo (forL p.2 tg f p.1 sl S') Q) (fun e S' => Q.ex e sl S') := by unfold sFor; exact wo_toS
@[simp] theorem w_gSet {i : Nat} {d : D} : Wo (gSet i d sl S) Q = Q.nx (sl.set i (some d)) S := by unfold gSet; simp
@[simp] theorem w_gTup {gs : GXs} {ds : List D} : Wo (gTupX gs (.tup ds) sl S) Q = Wo (gs ds sl S) Q := by unfold gTupX; rfl
@[simp] theorem w_gCons {gs : GXs} {d : D} {r : List D} : Wo (gConsX tg gs (d :: r) sl S) Q = Wo (tg d sl S) { Q with nx := fun sl' S' => Wo (gs r sl' S') Q } := by unfold gConsX; exact wo_then
@[simp] theorem w_gNil : Wo (gNilX [] sl S) Q = Q.nx sl S := by unfold gNilX; simp
theorem w_gSub {fo fi : EX} {v : D} : Wo (gSubX fo fi v sl S) Q ↔ We (fo sl S) (fun o S1 => We (fi sl S1) (fun i S2 => match setD o i v S2 with
  | some S3 => Q.nx sl S3
  | none => False) (fun _ _ => False)) (fun _ _ => False) := by
  unfold gSubX
  cases fo sl S with
  | ok o S1 =>
    show Wo (match fi sl S1 with
      | .ok i S2 => (match setD o i v S2 with
        | some S3 => .nx sl S3
        | none => .bad)
      | _ => .bad) Q ↔ _
    rw [we_ok]
    cases fi sl S1 with
    | ok i S2 =>
      rw [we_ok]
      show Wo (match setD o i v S2 with
        | some S3 => .nx sl S3
        | none => .bad) Q ↔ _
      cases setD o i v S2 <;> simp
    | ex e S => simp
    | bad => simp
  | ex e S => simp
  | bad => simp
@[simp] theorem w_gSubI {fo fi : EX} {v : D} : Wo (gSubX fo fi v sl S) Q = We (fo sl S) (fun o S1 => We (fi sl S1) (fun i S2 => ∃ S3, setD o i v S2 = some S3 ∧ Q.nx sl S3) (fun _ _ => False)) (fun _ _ => False) := propext (w_gSub.trans ⟨fun h => h.post fun o S1 h => h.post fun i S2 h => by
    cases e : setD o i v S2 with
    | none => rw [e] at h; exact h.elim
    | some S3 => rw [e] at h; exact ⟨S3, rfl, h⟩, fun h => h.post fun o S1 h => h.post fun i S2 ⟨S3, e, h⟩ => by rw [e]; exact h⟩)
/-- a statement, then the rest, with a word between them -/
theorem wo_cut {f g : SX} {Q : Q0} (M : Sl → Store → Prop) (h : Wo (f sl S) { Q with nx := M }) (k : ∀ sl S, M sl S → Wo (g sl S) Q) : Wo (sSeq f g sl S) Q := by
  rw [w_sSeq]
  exact h.mono (fun sl S h => k sl S h) (fun _ _ h => h) (fun _ _ h => h) (fun _ _ h => h) (fun _ _ _ h => h)
/-! ### expressions -/
variable {P : D → Store → Prop} {PB : Bool → Store → Prop} {PA : List D → Store → Prop} {f1 f2 f3 : EX} {c1 c2 : BX} {fs : AX}
@[simp] theorem w_eLit {d : D} : We (eLit d sl S) P X = P d S := by unfold eLit; simp
@[simp] theorem w_eName {i : Nat} : We (eName i sl S) P X = ∃ d, sl[i]? = some (some d) ∧ P d S := by
  unfold eName
  cases e : sl[i]? with
  | none => simp
  | some o => cases o <;> simp
@[simp] theorem w_eBin {sem : Sem2} : We (eBin sem f1 f2 sl S) P X = We (f1 sl S) (fun d S1 => We (f2 sl S1) (fun e S2 => We (sem d e S2) P X) X) X := by simp only [eBin, we_bind]
@[simp] theorem w_eUn {sem : Sem1} : We (eUn sem f1 sl S) P X = We (f1 sl S) (fun d S1 => We (sem d S1) P X) X := by simp only [eUn, we_bind]
@[simp] theorem w_eArgs {sem : SemL} : We (eArgs sem fs sl S) P X = We (fs sl S) (fun ds S1 => We (sem ds S1) P X) X := by simp only [eArgs, we_bind]
@[simp] theorem w_aNil : We (aNil sl S) PA X = PA [] S := by unfold aNil; simp
@[simp] theorem w_aCons : We (aCons f1 fs sl S) PA X = We (f1 sl S) (fun d S1 => We (fs sl S1) (fun ds S2 => PA (d :: ds) S2) X) X := by simp only [aCons, we_bind, we_ok]
theorem w_bVal' : We (bVal f1 sl S) PB X = We (f1 sl S) (fun d S1 => isB d fun b => PB b S1) X := by
  simp only [bVal, we_bind]
  congr 1
  funext d S1
  cases d <;> simp [isB]
@[simp] theorem w_bVal : We (bVal f1 sl S) PB X = We (f1 sl S) (fun d S1 => isB d fun b => PB b S1) X := w_bVal'
@[simp] theorem w_bNot : We (bNot c1 sl S) PB X = We (c1 sl S) (fun b S1 => PB (!b) S1) X := by simp only [bNot, we_bind, we_ok]
@[simp] theorem w_bAnd : We (bAnd c1 c2 sl S) PB X = We (c1 sl S) (fun b S1 => if b = true then We (c2 sl S1) PB X else PB false S1) X := by
  simp only [bAnd, we_bind]
  congr 1
  funext b S1
  cases b <;> simp
@[simp] theorem w_bOr : We (bOr c1 c2 sl S) PB X = We (c1 sl S) (fun b S1 => if b = true then PB true S1 else We (c2 sl S1) PB X) X := by
  simp only [bOr, we_bind]
  congr 1
  funext b S1
  cases b <;> simp
@[simp] theorem w_eAnd : We (eAnd f1 f2 sl S) P X = We (f1 sl S) (fun d S1 => isB d fun b => if b = true then We (f2 sl S1) P X else P (.bl false) S1) X := by
  simp only [eAnd, we_bind]
  congr 1
  funext d S1
  cases d with
  | bl b => cases b <;> simp [isB]
  | _ => simp [isB]
@[simp] theorem w_eOr : We (eOr f1 f2 sl S) P X = We (f1 sl S) (fun d S1 => isB d fun b => if b = true then P (.bl true) S1 else We (f2 sl S1) P X) X := by
  simp only [eOr, we_bind]
  congr 1
  funext d S1
  cases d with
  | bl b => cases b <;> simp [isB]
  | _ => simp [isB]
@[simp] theorem w_eNot : We (eNot f1 sl S) P X = We (f1 sl S) (fun d S1 => isB d fun b => P (.bl (!b)) S1) X := by
  simp only [eNot, we_bind]
  congr 1
  funext d S1
  cases d <;> simp [isB]
@[simp] theorem w_eIf : We (eIf c1 f1 f2 sl S) P X = We (c1 sl S) (fun b S1 => if b = true then We (f1 sl S1) P X else We (f2 sl S1) P X) X := by
  simp only [eIf, we_bind]
  congr 1
  funext b S1
  cases b <;> simp
@[simp] theorem w_eChain {s1 s2 : Sem2} : We (eChain s1 s2 f1 f2 f3 sl S) P X = We (f1 sl S) (fun d S1 => We (f2 sl S1) (fun e S2 => We (s1 d e S2) (fun r S3 => isB r fun b => if b = true then We (f3 sl S3) (fun g S4 => We (s2 e g S4) P X) X else P (.bl false) S3) X) X) X := by
  simp only [eChain, we_bind]
  congr 1
  funext d S1
  congr 1
  funext e S2
  congr 1
  funext r S3
  cases r with
  | bl b => cases b <;> simp [we_bind, isB]
  | _ => simp [isB]
variable {PO : Option Int → Store → Prop} {fl fu : OX}
@[simp] theorem w_oNone : We (oNone sl S) PO X = PO none S := by unfold oNone; simp
@[simp] theorem w_oInt : We (oInt f1 sl S) PO X = We (f1 sl S) (fun d S1 => ∃ i, d = .int i ∧ PO (some i) S1) X := by
  simp only [oInt, we_bind]
  congr 1
  funext d S1
  cases d <;> simp
@[simp] theorem w_eSl {h : Bool} : We (eSl h f1 fl fu sl S) P X = We (f1 sl S) (fun d S1 => We (fl sl S1) (fun l S2 => We (fu sl S2) (fun u S3 => We (semSl h d l u S3) P X) X) X) X := by simp only [eSl, we_bind]
theorem w_eMet {ty : Store → D → Bool} {sem : SemM} : We (eMet ty sem f1 fs sl S) P X = We (f1 sl S) (fun d S1 => if ty S1 d = true then We (fs sl S1) (fun ds S2 => We (sem d ds S2) P X) X else False) X := by
  simp only [eMet, we_bind]
  congr 1
  funext d S1
  cases h : ty S1 d <;> simp [we_bind]
@[simp] theorem w_eMet_ {ty : Store → D → Bool} {sem : SemM} : We (eMet ty sem f1 fs sl S) P X = We (f1 sl S) (fun d S1 => ty S1 d = true ∧ We (fs sl S1) (fun ds S2 => We (sem d ds S2) P X) X) X := by
  rw [w_eMet]
  congr 1
  funext d S1
  cases h : ty S1 d <;> simp
theorem isO_iff {α : Type} {o : Option α} {k : α → Prop} : isO o k ↔ ∃ a, o = some a ∧ k a := by cases o <;> simp
@[simp] theorem w_eMethZ {m : Str} {tab : List (Str × SemL)} : We (eMethZ m tab f1 fs sl S) P X = We (f1 sl S) (fun d S1 => isO (fldsOf S1 d) fun p => m ∉ p.2.1 ∧ isO (tabOf tab p.1) fun g => We (fs sl S1) (fun ds S2 => We (g (d :: ds) S2) P X) X) X := by
  unfold eMethZ
  rw [we_bind]
  congr 1
  funext d S1
  cases e : fldsOf S1 d with
  | none => simp
  | some p =>
    obtain ⟨c, ns, vs⟩ := p
    dsimp only
    rw [isO_some]
    dsimp only
    by_cases hm : m ∈ ns
    · rw [if_pos hm]; simp [hm]
    · rw [if_neg hm]
      cases e2 : tabOf tab c with
      | none => simp
      | some g =>
        dsimp only
        rw [we_bind, isO_some]
        exact propext ⟨fun h => ⟨hm, h⟩, fun h => h.2⟩
/-- what stands at a field name -/
def attP (m : Str) (d : D) (ns : List Str) (vs : List D) (S1 : Store) (P : D → Store → Prop) : AtK → Prop
  | .fld => isO (lookN m ns vs) fun v => P v S1
  | .prop g => We (g [d] S1) P (fun _ _ => False)
  | .con v => m ∉ ns ∧ P v S1
@[simp] theorem attP_fld {m : Str} {d : D} {ns : List Str} {vs : List D} {S1 : Store} : attP m d ns vs S1 P .fld = isO (lookN m ns vs) fun v => P v S1 := (rfl)
@[simp] theorem attP_prop {m : Str} {d : D} {ns : List Str} {vs : List D} {S1 : Store} {g : SemL} : attP m d ns vs S1 P (.prop g) = We (g [d] S1) P (fun _ _ => False) := (rfl)
@[simp] theorem attP_con {m : Str} {d : D} {ns : List Str} {vs : List D} {S1 : Store} {v : D} : attP m d ns vs S1 P (.con v) = (m ∉ ns ∧ P v S1) := (rfl)
@[simp] theorem w_eAttr {m : Str} {tab : List (Str × AtK)} : We (eAttrZ m tab f1 sl S) P X = We (f1 sl S) (fun d S1 => isO (fldsOf S1 d) fun p => isO (tab.lookup p.1) fun t => attP m d p.2.1 p.2.2 S1 P t) X := by
  unfold eAttrZ
  rw [we_bind]
  congr 1
  funext d S1
  cases e : fldsOf S1 d with
  | none => simp
  | some p =>
    obtain ⟨c, ns, vs⟩ := p
    dsimp only
    rw [isO_some]
    dsimp only
    cases e2 : tab.lookup c with
    | none => simp
    | some t =>
      rw [isO_some]
      cases t with
      | fld =>
        dsimp only
        rw [attP_fld]
        cases lookN m ns vs <;> simp
      | prop g =>
        dsimp only
        rw [attP_prop]
        cases g [d] S1 <;> simp
      | con v =>
        dsimp only
        rw [attP_con]
        by_cases hm : m ∈ ns <;> simp [hm]
@[simp] theorem w_sFld {cs : List Str} {m : Str} : Wo (sFldZ cs m f1 f2 sl S) Q = We (f1 sl S) (fun v S1 => We (f2 sl S1) (fun o S2 => ∃ S3, setF cs m o v S2 = some S3 ∧ Q.nx sl S3) (fun e S' => Q.ex e sl S')) (fun e S' => Q.ex e sl S') := by
  simp only [sFldZ, wo_toS]
  congr 1
  funext d S1
  congr 1
  funext o S2
  cases setF cs m o d S2 <;> simp
@[simp] theorem w_arity {n : Nat} {g : SemL} {ds : List D} (h : ds.length = n) : arity n g ds S = g ds S := if_pos h
theorem w_starS {n : Nat} {g : SemL} {ds : List D} (h : n ≤ ds.length) (h2 : ds.length ≤ 1000000) : starS n g ds S = g (ds.take n ++ [.tup (ds.drop n)]) S := if_pos ⟨h, h2⟩
/-! ### a def's end -/
def FinP (S : Store) (P : D → Store → Prop) : D → Store → Prop := fun d S' => Closed S S' ∧ ∃ d', frzD (frzP S' S.length 6) d = some d' ∧ P d' (S'.take S.length)
theorem we_fin {o : Out D} : We (fin S o) P X = We o (FinP S P) (FinP S X) := by
  cases o with
  | bad => simp [fin]
  | ok d S' =>
    simp only [fin, we_ok, FinP]
    by_cases h : Closed S S'
    · rw [if_pos h]
      cases e : frzD (frzP S' S.length 6) d <;> simp [h]
    · rw [if_neg h]; simp [h]
  | ex d S' =>
    simp only [fin, we_ex, FinP]
    by_cases h : Closed S S'
    · rw [if_pos h]
      cases e : frzD (frzP S' S.length 6) d <;> simp [h]
    · rw [if_neg h]; simp [h]
/-- behind a body -/
def QF (S : Store) (P : D → Store → Prop) (X : D → Store → Prop) : Q0 := ⟨fun _ S' => FinP S P .non S', fun _ _ => False, fun _ _ => False, FinP S P, fun e _ S' => FinP S X e S'⟩
theorem we_out {o : SO} {P X : D → Store → Prop} : We o.out P X = Wo o ⟨fun _ S' => P .non S', fun _ _ => False, fun _ _ => False, P, fun e _ S' => X e S'⟩ := by cases o <;> simp [SO.out]
theorem we_defS {N : Nat} {body : SX} {ds : List D} : We (defS N body ds S) P X = Wo (body (ds.map some ++ List.replicate (N - ds.length) none) S) (QF S P X) := by
  unfold defS
  rw [we_fin, we_out]
  rfl
theorem we_defH {N : Nat} {body : SX} {ds : List D} : We (defH N body ds S) P X = Wo (body (ds.map some ++ List.replicate (N - ds.length) none) S) ⟨fun _ S' => P .non S', fun _ _ => False, fun _ _ => False, P, fun e _ S' => X e S'⟩ := we_out
@[simp] theorem qf_nx : (QF S P X).nx sl = FinP S P .non := (rfl)
@[simp] theorem qf_rt : (QF S P X).rt = FinP S P := (rfl)
@[simp] theorem qf_ex {e : D} : (QF S P X).ex e sl = FinP S X e := (rfl)
@[simp] theorem qf_bk : (QF S P X).bk sl S = False := (rfl)
@[simp] theorem qf_ct : (QF S P X).ct sl S = False := (rfl)
theorem Closed.self (S : Store) : Closed S S := fun i m _ h => .inl h
theorem finP_keep {S1 T : Store} {d d' : D} (h : Keep S S1) (hd : frzD (frzP (S1 ++ T) S.length 6) d = some d') (p : P d' S1) : FinP S P d (S1 ++ T) :=
  ⟨h.closed, d', hd, by rw [← h.len, List.take_left']; exact p; rfl⟩
theorem finP_keep0 {S1 : Store} {d : D} (h : Keep S S1) (hd : under S.length d = true) (p : P d S1) : FinP S P d S1 := by
  have := finP_keep (P := P) (T := []) h (d := d) (d' := d) (frz_of hd) p
  rwa [List.append_nil] at this
theorem finP_app {S1 T : Store} {d : D} (h : Keep S S1) (hd : under S.length d = true) (p : P d S1) : FinP S P d (S1 ++ T) := finP_keep h (frz_of hd) p
theorem finP_same {d : D} (hd : under S.length d = true) (p : P d S) : FinP S P d S := finP_keep0 (Keep.refl S) hd p
theorem finP_lst {S1 : Store} {acc : List D} (h : Keep S S1) (hu : underL S.length acc = true) (p : P (.lst acc) S1) : FinP S P (.ptr S1.length) (S1 ++ [.lst acc]) := by
  refine finP_keep h ?_ p
  rw [← h.len] at hu ⊢
  exact frz_lst hu
theorem finP_lstN {n : Nat} {S1 : Store} {acc : List D} (hn : n = S1.length) (h : Keep S S1) (hu : underL S.length acc = true) (p : P (.lst acc) S1) : FinP S P (.ptr n) (S1 ++ [.lst acc]) := by
  subst hn
  exact finP_lst h hu p
@[simp] theorem finP_bl {b : Bool} : FinP S P (.bl b) S = P (.bl b) S := propext ⟨fun ⟨_, d', h, p⟩ => by rw [frzD] at h; cases h; simpa using p, fun p => finP_same rfl p⟩
@[simp] theorem finP_int {i : Int} : FinP S P (.int i) S = P (.int i) S := propext ⟨fun ⟨_, d', h, p⟩ => by rw [frzD] at h; cases h; simpa using p, fun p => finP_same rfl p⟩
@[simp] theorem finP_str {i : Str} : FinP S P (.str i) S = P (.str i) S := propext ⟨fun ⟨_, d', h, p⟩ => by rw [frzD] at h; cases h; simpa using p, fun p => finP_same rfl p⟩
@[simp] theorem finP_non : FinP S P .non S = P .non S := propext ⟨fun ⟨_, d', h, p⟩ => by rw [frzD] at h; cases h; simpa using p, fun p => finP_same rfl p⟩
@[simp] theorem w_eFin {f : EX} : We (eFin f sl S) P X = We (f sl S) (FinP S P) (FinP S X) := we_fin
mutual
theorem under_mono {j k : Nat} (h : j ≤ k) : ∀ d, under j d = true → under k d = true
  | .non, _ => by simp [under]
  | .bl _, _ => by simp [under]
  | .int _, _ => by simp [under]
  | .str _, _ => by simp [under]
  | .ty _, _ => by simp [under]
  | .cls _, _ => by simp [under]
  | .scr _, _ => by simp [under]
  | .exc _ _ vs, q => by simp only [under] at q ⊢; exact underL_mono h vs q
  | .lam _ _, _ => by simp [under]
  | .lamc _ vs, q => by simp only [under] at q ⊢; exact underL_mono h vs q
  | .tup xs, q => by simp only [under] at q ⊢; exact underL_mono h xs q
  | .lst xs, q => by simp only [under] at q ⊢; exact underL_mono h xs q
  | .dct ks vs, q => by
    simp only [under, Bool.and_eq_true] at q ⊢
    exact ⟨underL_mono h ks q.1, underL_mono h vs q.2⟩
  | .ins _ _ vs, q => by simp only [under] at q ⊢; exact underL_mono h vs q
  | .ptr n, q => by
    simp only [under, decide_eq_true_eq] at q ⊢
    omega
theorem underL_mono {j k : Nat} (h : j ≤ k) : ∀ ds, underL j ds = true → underL k ds = true
  | [], _ => by simp [underL]
  | d :: ds, q => by
    simp only [underL, Bool.and_eq_true] at q ⊢
    exact ⟨under_mono h d q.1, underL_mono h ds q.2⟩
end
theorem underL_iff {k : Nat} : ∀ {ds : List D}, underL k ds = true ↔ ∀ d ∈ ds, under k d = true
  | [] => by simp [underL]
  | d :: ds => by simp [underL, Bool.and_eq_true, underL_iff (ds := ds)]
@[simp] theorem underL_app {k : Nat} {a b : List D} : underL k (a ++ b) = (underL k a && underL k b) := by
  induction a with
  | nil => simp [underL]
  | cons d a ih => simp [underL, ih, Bool.and_assoc]
theorem under_of {k : Nat} {d : D} (h : under 0 d = true) : under k d = true := under_mono (Nat.zero_le k) d h
theorem underL_of {k : Nat} {ds : List D} (h : underL 0 ds = true) : underL k ds = true := underL_mono (Nat.zero_le k) ds h
@[simp] theorem under_non {k : Nat} : under k .non = true := by simp [under]
@[simp] theorem under_bl {k : Nat} {b : Bool} : under k (.bl b) = true := by simp [under]
@[simp] theorem under_int {k : Nat} {b : Int} : under k (.int b) = true := by simp [under]
@[simp] theorem under_str {k : Nat} {b : Str} : under k (.str b) = true := by simp [under]
@[simp] theorem under_tup {k : Nat} {b : List D} : under k (.tup b) = underL k b := by simp [under]
@[simp] theorem under_lst {k : Nat} {b : List D} : under k (.lst b) = underL k b := by simp [under]
@[simp] theorem under_dct {k : Nat} {a b : List D} : under k (.dct a b) = (underL k a && underL k b) := by simp [under]
@[simp] theorem under_ins {k : Nat} {c : Str} {ns : List Str} {b : List D} : under k (.ins c ns b) = underL k b := by simp [under]
@[simp] theorem underL_nil {k : Nat} : underL k [] = true := by simp [underL]
@[simp] theorem underL_cons {k : Nat} {d : D} {ds : List D} : underL k (d :: ds) = (under k d && underL k ds) := by simp [underL]
end
section
variable {X : D → Store → Prop} {Q : Q0} {S : Store} {sl : Sl} {G : Store → Prop} {g : GX} {body : SX}
/-! ### loops -/
theorem wo_forL (I : List D → Sl → Store → Prop) : ∀ (xs pre : List D) (sl : Sl) (S : Store), I pre sl S →
    (∀ p x post sl S, pre ++ xs = p ++ x :: post → I p sl S → G S ∧ Wo (g x sl S) ⟨fun sl1 S1 => Wo (body sl1 S1) ⟨fun sl2 S2 => I (p ++ [x]) sl2 S2, Q.nx, fun sl2 S2 => I (p ++ [x]) sl2 S2, Q.rt, Q.ex⟩, fun _ _ => False, fun _ _ => False, fun _ _ => False, fun _ _ _ => False⟩) →
    (∀ sl S, I (pre ++ xs) sl S → G S ∧ Q.nx sl S) → Wo (forL G g body xs sl S) Q
  | [], pre, sl, S, h0, step, hend => by
    rw [List.append_nil] at hend
    obtain ⟨h1, h2⟩ := hend sl S h0
    simp only [forL, if_pos h1, wo_nx]
    exact h2
  | x :: xs, pre, sl, S, h0, step, hend => by
    obtain ⟨h1, h2⟩ := step pre x xs sl S rfl h0
    simp only [forL, if_pos h1]
    cases e : g x sl S with
    | nx sl1 S1 =>
      rw [e] at h2
      simp only [wo_nx] at h2
      dsimp only
      have hl : pre ++ x :: xs = (pre ++ [x]) ++ xs := by simp
      have next : ∀ sl2 S2, I (pre ++ [x]) sl2 S2 → Wo (forL G g body xs sl2 S2) Q := fun sl2 S2 hI =>
        wo_forL I xs (pre ++ [x]) sl2 S2 hI (fun p y post sl S he hp => step p y post sl S (by rw [hl]; exact he) hp) (fun sl S hI => hend sl S (by rw [hl]; exact hI))
      cases e2 : body sl1 S1 with
      | nx sl2 S2 => rw [e2, wo_nx] at h2; exact next _ _ h2
      | ct sl2 S2 => rw [e2, wo_ct] at h2; exact next _ _ h2
      | bk sl2 S2 => rw [e2, wo_bk] at h2; dsimp only; rw [wo_nx]; exact h2
      | rt d S2 => rw [e2, wo_rt] at h2; dsimp only; rw [wo_rt]; exact h2
      | ex e sl2 S2 => rw [e2, wo_ex] at h2; dsimp only; rw [wo_ex]; exact h2
      | bad => rw [e2, wo_bad] at h2; exact h2.elim
    | bk _ _ => rw [e, wo_bk] at h2; exact h2.elim
    | ct _ _ => rw [e, wo_ct] at h2; exact h2.elim
    | rt _ _ => rw [e, wo_rt] at h2; exact h2.elim
    | ex _ _ _ => rw [e, wo_ex] at h2; exact h2.elim
    | bad => rw [e, wo_bad] at h2; exact h2.elim
/-- a for: I of what was walked, the slots, the store -/
theorem wo_for {it : IX} {xs : List D} {S' : Store} (hit : it sl S = .ok (xs, G) S') (I : List D → Sl → Store → Prop) (h0 : I [] sl S')
    (step : ∀ p x post sl S, xs = p ++ x :: post → I p sl S → G S ∧ Wo (g x sl S) ⟨fun sl1 S1 => Wo (body sl1 S1) ⟨fun sl2 S2 => I (p ++ [x]) sl2 S2, Q.nx, fun sl2 S2 => I (p ++ [x]) sl2 S2, Q.rt, Q.ex⟩, fun _ _ => False, fun _ _ => False, fun _ _ => False, fun _ _ _ => False⟩)
    (hend : ∀ sl S, I xs sl S → G S ∧ Q.nx sl S) : Wo (sFor it g body sl S) Q := by
  rw [w_sFor, hit, we_ok]
  exact wo_forL I xs [] sl S' h0 step hend
theorem wo_whileL {c : BX} (I : Sl → Store → Prop) (μ : Sl → Store → Nat) (step : ∀ sl S, I sl S → We (c sl S) (fun b S1 => if b = true then Wo (body sl S1) ⟨fun sl2 S2 => I sl2 S2 ∧ μ sl2 S2 < μ sl S, Q.nx, fun sl2 S2 => I sl2 S2 ∧ μ sl2 S2 < μ sl S, Q.rt, Q.ex⟩ else Q.nx sl S1) (fun e S1 => Q.ex e sl S1)) :
    ∀ (n : Nat) (sl : Sl) (S : Store), I sl S → μ sl S < n → Wo (whileL c body n sl S) Q
  | 0, _, _, _, h => absurd h (Nat.not_lt_zero _)
  | n + 1, sl, S, hI, h => by
    have h2 := step sl S hI
    unfold whileL
    rw [wo_toS]
    refine h2.post fun b S1 hb => ?_
    cases b with
    | false => simpa using hb
    | true =>
      simp only [if_true] at hb ⊢
      cases e2 : body sl S1 with
      | nx sl2 S2 => rw [e2, wo_nx] at hb; exact wo_whileL I μ step n sl2 S2 hb.1 (Nat.lt_of_lt_of_le hb.2 (Nat.le_of_lt_succ h))
      | ct sl2 S2 => rw [e2, wo_ct] at hb; exact wo_whileL I μ step n sl2 S2 hb.1 (Nat.lt_of_lt_of_le hb.2 (Nat.le_of_lt_succ h))
      | bk sl2 S2 => rw [e2, wo_bk] at hb; dsimp only; rw [wo_nx]; exact hb
      | rt d S2 => rw [e2, wo_rt] at hb; dsimp only; rw [wo_rt]; exact hb
      | ex e sl2 S2 => rw [e2, wo_ex] at hb; dsimp only; rw [wo_ex]; exact hb
      | bad => rw [e2, wo_bad] at hb; exact hb.elim
/-- a while: I of the slots and the store, μ falls -/
theorem wo_while {c : BX} (I : Sl → Store → Prop) (μ : Sl → Store → Nat) (h0 : I sl S) (hμ : μ sl S < 1000000)
    (step : ∀ sl S, I sl S → We (c sl S) (fun b S1 => if b = true then Wo (body sl S1) ⟨fun sl2 S2 => I sl2 S2 ∧ μ sl2 S2 < μ sl S, Q.nx, fun sl2 S2 => I sl2 S2 ∧ μ sl2 S2 < μ sl S, Q.rt, Q.ex⟩ else Q.nx sl S1) (fun e S1 => Q.ex e sl S1)) : Wo (sWhile c body sl S) Q :=
  wo_whileL I μ step fuel sl S h0 hμ
/-- .. with the number told by I -/
theorem wo_whileN {c : BX} (I : Nat → Sl → Store → Prop) (step : ∀ k sl S, I k sl S → We (c sl S) (fun b S1 => if b = true then Wo (body sl S1) ⟨fun sl2 S2 => ∃ j, j < k ∧ I j sl2 S2, Q.nx, fun sl2 S2 => ∃ j, j < k ∧ I j sl2 S2, Q.rt, Q.ex⟩ else Q.nx sl S1) (fun e S1 => Q.ex e sl S1)) :
    ∀ (n k : Nat) (sl : Sl) (S : Store), I k sl S → k < n → Wo (whileL c body n sl S) Q
  | 0, _, _, _, _, h => absurd h (Nat.not_lt_zero _)
  | n + 1, k, sl, S, hI, h => by
    have h2 := step k sl S hI
    unfold whileL
    rw [wo_toS]
    refine h2.post fun b S1 hb => ?_
    cases b with
    | false => simpa using hb
    | true =>
      simp only [if_true] at hb ⊢
      cases e2 : body sl S1 with
      | nx sl2 S2 => rw [e2, wo_nx] at hb; obtain ⟨j, hj, hI2⟩ := hb; exact wo_whileN I step n j sl2 S2 hI2 (Nat.lt_of_lt_of_le hj (Nat.le_of_lt_succ h))
      | ct sl2 S2 => rw [e2, wo_ct] at hb; obtain ⟨j, hj, hI2⟩ := hb; exact wo_whileN I step n j sl2 S2 hI2 (Nat.lt_of_lt_of_le hj (Nat.le_of_lt_succ h))
      | bk sl2 S2 => rw [e2, wo_bk] at hb; dsimp only; rw [wo_nx]; exact hb
      | rt d S2 => rw [e2, wo_rt] at hb; dsimp only; rw [wo_rt]; exact hb
      | ex e sl2 S2 => rw [e2, wo_ex] at hb; dsimp only; rw [wo_ex]; exact hb
      | bad => rw [e2, wo_bad] at hb; exact hb.elim
theorem wo_whileK {c : BX} (k : Nat) (I : Nat → Sl → Store → Prop) (h0 : I k sl S) (hk : k < 1000000) (step : ∀ k sl S, I k sl S → We (c sl S) (fun b S1 => if b = true then Wo (body sl S1) ⟨fun sl2 S2 => ∃ j, j < k ∧ I j sl2 S2, Q.nx, fun sl2 S2 => ∃ j, j < k ∧ I j sl2 S2, Q.rt, Q.ex⟩ else Q.nx sl S1) (fun e S1 => Q.ex e sl S1)) : Wo (sWhile c body sl S) Q :=
  wo_whileN I step fuel k sl S h0 hk
/-! ### comprehensions -/
variable {bt : BX} {fe : EX} {n : Nat}
theorem we_lcL {PU : Unit → Store → Prop} {slw : Sl} (I : List D → List D → Store → Prop) (hn : ∀ p acc S, I p acc S → S.length = n ∧ acc.length ≤ p.length) : ∀ (xs pre acc : List D) (S : Store), (pre ++ xs).length ≤ 1000000 → I pre acc S →
    (∀ p x post acc S, pre ++ xs = p ++ x :: post → I p acc S → G (S ++ [.lst acc]) ∧ Wo (g x slw (S ++ [.lst acc])) ⟨fun sl1 S1 => We (bt sl1 S1) (fun b S2 => if b = true then We (fe sl1 S2) (fun d S3 => ∃ S4, S3 = S4 ++ [.lst acc] ∧ I (p ++ [x]) (acc ++ [d]) S4) (fun _ _ => False) else ∃ S4, S2 = S4 ++ [.lst acc] ∧ I (p ++ [x]) acc S4) (fun _ _ => False), fun _ _ => False, fun _ _ => False, fun _ _ => False, fun _ _ _ => False⟩) →
    (∀ acc S, I (pre ++ xs) acc S → G (S ++ [.lst acc]) ∧ PU () (S ++ [.lst acc])) → We (lcL G g bt fe n slw xs (S ++ [.lst acc])) PU X
  | [], pre, acc, S, hl, h0, step, hend => by
    rw [List.append_nil] at hend
    obtain ⟨h1, h2⟩ := hend acc S h0
    simp only [lcL, if_pos h1, we_ok]
    exact h2
  | x :: xs, pre, acc, S, hl, h0, step, hend => by
    obtain ⟨h1, h2⟩ := step pre x xs acc S rfl h0
    simp only [lcL, if_pos h1]
    have hll : pre ++ x :: xs = (pre ++ [x]) ++ xs := by simp
    have next : ∀ acc S2, I (pre ++ [x]) acc S2 → We (lcL G g bt fe n slw xs (S2 ++ [.lst acc])) PU X := fun acc S2 hI =>
      we_lcL I hn xs (pre ++ [x]) acc S2 (by rw [← hll]; exact hl) hI (fun p y post acc S he hp => step p y post acc S (by rw [hll]; exact he) hp) (fun acc S hI => hend acc S (by rw [hll]; exact hI))
    cases e : g x slw (S ++ [.lst acc]) with
    | nx sl1 S1 =>
      rw [e] at h2
      simp only [wo_nx] at h2
      dsimp only
      cases e2 : bt sl1 S1 with
      | ok b S2 =>
        rw [e2, we_ok] at h2
        cases b with
        | false =>
          simp only [Bool.false_eq_true, if_false] at h2
          obtain ⟨S4, rfl, h4⟩ := h2
          exact next acc S4 h4
        | true =>
          simp only [if_true] at h2
          cases e3 : fe sl1 S2 with
          | ok d S3 =>
            rw [e3, we_ok] at h2
            obtain ⟨S4, rfl, h4⟩ := h2
            obtain ⟨hn1, hn2⟩ := hn _ _ _ h4
            have hg : (S4 ++ [MO.lst acc])[n]? = some (.lst acc) := by rw [List.getElem?_append_right (by omega), hn1]; simp
            have hlt : acc.length < 1000000 := by
              have := (hn _ _ _ h0).2
              simp only [List.length_append, List.length_cons] at hl
              omega
            dsimp only
            rw [e3]
            dsimp only
            rw [hg]
            dsimp only
            rw [if_pos hlt]
            have hs : (S4 ++ [MO.lst acc]).set n (.lst (acc ++ [d])) = S4 ++ [MO.lst (acc ++ [d])] := by
              rw [List.set_append_right _ _ (by omega), hn1]; simp
            rw [hs]
            exact next _ S4 h4
          | ex _ _ => rw [e3, we_ex] at h2; exact h2.elim
          | bad => rw [e3, we_bad] at h2; exact h2.elim
      | ex _ _ => rw [e2, we_ex] at h2; exact h2.elim
      | bad => rw [e2, we_bad] at h2; exact h2.elim
    | bk _ _ => rw [e, wo_bk] at h2; exact h2.elim
    | ct _ _ => rw [e, wo_ct] at h2; exact h2.elim
    | rt _ _ => rw [e, wo_rt] at h2; exact h2.elim
    | ex _ _ _ => rw [e, wo_ex] at h2; exact h2.elim
    | bad => rw [e, wo_bad] at h2; exact h2.elim
/-- [fe for g in it if bt]: I of what was walked, what was made, the store without it -/
theorem we_lc {it : IX} {own : List Nat} {P : D → Store → Prop} {xs : List D} {S' : Store} (hit : it sl S = .ok (xs, G) S') (hl : xs.length ≤ 1000000) (I : List D → List D → Store → Prop) (hn : ∀ p acc S, I p acc S → S.length = S'.length ∧ acc.length ≤ p.length) (h0 : I [] [] S')
    (step : ∀ p x post acc S, xs = p ++ x :: post → I p acc S → G (S ++ [.lst acc]) ∧ Wo (g x (wipeS sl own) (S ++ [.lst acc])) ⟨fun sl1 S1 => We (bt sl1 S1) (fun b S2 => if b = true then We (fe sl1 S2) (fun d S3 => ∃ S4, S3 = S4 ++ [.lst acc] ∧ I (p ++ [x]) (acc ++ [d]) S4) (fun _ _ => False) else ∃ S4, S2 = S4 ++ [.lst acc] ∧ I (p ++ [x]) acc S4) (fun _ _ => False), fun _ _ => False, fun _ _ => False, fun _ _ => False, fun _ _ _ => False⟩)
    (hend : ∀ acc S, I xs acc S → G (S ++ [.lst acc]) ∧ P (.ptr S.length) (S ++ [.lst acc])) : We (eLc it g bt fe own sl S) P X := by
  unfold eLc
  rw [we_bind, hit, we_ok]
  show We ((lcL G g bt fe S'.length (wipeS sl own) xs (S' ++ [.lst []])).bind fun _ S2 => .ok (.ptr S'.length) S2) P X
  rw [we_bind]
  refine we_lcL I hn xs [] [] S' hl h0 step fun acc S hI => ?_
  obtain ⟨h1, h2⟩ := hend acc S hI
  rw [(hn _ _ _ hI).1] at h2
  exact ⟨h1, by rw [we_ok]; exact h2⟩
/-- a comprehension that draws nothing: its list -/
theorem we_lc_pure {it : IX} {own : List Nat} {P : D → Store → Prop} {xs : List D} (p : D → Bool) (φ : D → D) (hit : it sl S = .ok (xs, G) S) (hl : xs.length ≤ 1000000) (hG : ∀ acc, G (S ++ [.lst acc]))
    (step : ∀ x ∈ xs, ∀ acc, Wo (g x (wipeS sl own) (S ++ [.lst acc])) ⟨fun sl1 S1 => We (bt sl1 S1) (fun b S2 => b = p x ∧ if p x = true then We (fe sl1 S2) (fun d S3 => S3 = S ++ [.lst acc] ∧ d = φ x) (fun _ _ => False) else S2 = S ++ [.lst acc]) (fun _ _ => False), fun _ _ => False, fun _ _ => False, fun _ _ => False, fun _ _ _ => False⟩)
    (hend : P (.ptr S.length) (S ++ [.lst ((xs.filter p).map φ)])) : We (eLc it g bt fe own sl S) P X := by
  refine we_lc hit hl (fun pre acc S1 => S1 = S ∧ acc = (pre.filter p).map φ) (fun pre acc S1 h => ⟨by rw [h.1], by rw [h.2, List.length_map]; exact List.length_filter_le _ _⟩) ⟨rfl, rfl⟩ (fun pre x post acc S1 he h => ?_) (fun acc S1 h => ?_)
  · obtain ⟨hS1, rfl⟩ := h
    subst hS1
    refine ⟨hG _, (step x (by rw [he]; simp) _).mono (fun sl1 S1 h => h.post fun b S2 h => ?_) (fun _ _ h => h) (fun _ _ h => h) (fun _ _ h => h) (fun _ _ _ h => h)⟩
    obtain ⟨rfl, h⟩ := h
    split at h
    · rename_i hp
      rw [if_pos hp]
      exact h.post fun d S3 ⟨e1, e2⟩ => ⟨_, e1, rfl, by rw [e2]; simp [hp]⟩
    · rename_i hp
      rw [if_neg hp]
      exact ⟨_, h, rfl, by simp [hp]⟩
  · obtain ⟨rfl, rfl⟩ := h
    exact ⟨hG _, hend⟩
/-- .. as a value -/
theorem we_lcF_pure {it : IX} {own : List Nat} {P : D → Store → Prop} {xs : List D} (p : D → Bool) (φ : D → D) (hit : it sl S = .ok (xs, G) S) (hl : xs.length ≤ 1000000) (hG : ∀ acc, G (S ++ [.lst acc]))
    (step : ∀ x ∈ xs, ∀ acc, Wo (g x (wipeS sl own) (S ++ [.lst acc])) ⟨fun sl1 S1 => We (bt sl1 S1) (fun b S2 => b = p x ∧ if p x = true then We (fe sl1 S2) (fun d S3 => S3 = S ++ [.lst acc] ∧ d = φ x) (fun _ _ => False) else S2 = S ++ [.lst acc]) (fun _ _ => False), fun _ _ => False, fun _ _ => False, fun _ _ => False, fun _ _ _ => False⟩)
    (hu : ∀ x ∈ xs, p x = true → under S.length (φ x) = true)
    (hend : P (.lst ((xs.filter p).map φ)) S) : We (eLc it g bt fe own sl S) (FinP S P) X := by
  refine we_lc_pure p φ hit hl hG step (finP_lst (Keep.refl S) ?_ hend)
  rw [underL_iff]
  intro d hd
  obtain ⟨x, hx, rfl⟩ := List.mem_map.mp hd
  obtain ⟨h1, h2⟩ := List.mem_filter.mp hx
  exact hu x h1 h2
end
@[simp] theorem underL_sgs {k : Nat} {l : List Nat} : underL k (l.map sg) = true := by
  rw [underL_iff]
  intro d hd
  obtain ⟨c, _, rfl⟩ := List.mem_map.mp hd
  exact under_str
theorem filter_tt {α : Type} {l : List α} : l.filter (fun _ => true) = l := List.filter_eq_self.mpr fun _ _ => (rfl)
/-! ### what is walked -/
section
variable {S : Store} {sl : Sl}
theorem itAny_of {f : EX} {d : D} {S1 : Store} {xs : List D} (h : f sl S = .ok d S1) (hx : srcD S1 d = some xs) : itAny f sl S = .ok (xs, fun S2 => srcD S2 d = some xs) S1 := by
  unfold itAny
  rw [h]
  show itK d S1 = _
  unfold itK
  cases d <;> first | (simp [srcD, asS, asL] at hx; done) | (simp only [hx])
theorem itAny_dct {f : EX} {ks vs : List D} {S1 : Store} (h : f sl S = .ok (.dct ks vs) S1) : itAny f sl S = .ok (ks, fun _ => True) S1 := by
  unfold itAny
  rw [h]
  rfl
theorem itRange1_of {f : EX} {j : Int} {S1 : Store} (h : f sl S = .ok (.int j) S1) (h1 : 0 ≤ j) (h2 : j < 2 ^ 62) : itRange1 (aCons f aNil) sl S = .ok (rangeD 0 j.toNat, fun _ => True) S1 := by
  simp only [itRange1, aCons, aNil, h, bind_ok]
  rw [if_pos ⟨by omega, h2⟩]
theorem itZip_of {f1 f2 : EX} {d e : D} {S1 S2 : Store} {xs ys : List D} (h1 : f1 sl S = .ok d S1) (h2 : f2 sl S1 = .ok e S2) (hx : srcD S2 d = some xs) (hy : srcD S2 e = some ys) :
    itZip (aCons f1 (aCons f2 aNil)) sl S = .ok (zipD xs ys, fun S2 => srcD S2 d = some xs ∧ srcD S2 e = some ys) S2 := by
  simp only [itZip, aCons, aNil, h1, h2, bind_ok, hx, hy]
theorem itEnum_of {f1 : EX} {d : D} {S1 : Store} {xs : List D} (h1 : f1 sl S = .ok d S1) (hx : srcD S1 d = some xs) :
    itEnum (aCons f1 aNil) sl S = .ok (enumD 0 xs, fun S2 => srcD S2 d = some xs) S1 := by
  simp only [itEnum, aCons, aNil, h1, bind_ok, hx]
theorem eName_of {i : Nat} {d : D} (h : sl[i]? = some (some d)) : eName i sl S = .ok d S := by simp only [eName, h]
@[simp] theorem srcD_str (s : Str) : srcD S (.str s) = some (signsD s) := (rfl)
@[simp] theorem srcD_lst (xs : List D) : srcD S (.lst xs) = some xs := (rfl)
@[simp] theorem srcD_tup (xs : List D) : srcD S (.tup xs) = some xs := (rfl)
@[simp] theorem srcD_scr (xs : List Int) : srcD S (.scr xs) = some (xs.map .int) := (rfl)
theorem srcD_ptr {n : Nat} {xs : List D} (h : S[n]? = some (.lst xs)) : srcD S (.ptr n) = some xs := by simp [srcD, asS, asL, h]
@[simp] theorem asS_lst' (xs : List D) : asS S (.lst xs) = some xs := (rfl)
@[simp] theorem asS_tup' (xs : List D) : asS S (.tup xs) = some xs := (rfl)
@[simp] theorem asS_scr' (xs : List Int) : asS S (.scr xs) = some (xs.map .int) := (rfl)
@[simp] theorem asL_lst' (xs : List D) : asL S (.lst xs) = some xs := (rfl)
theorem asS_ptr {n : Nat} {xs : List D} (h : S[n]? = some (.lst xs)) : asS S (.ptr n) = some xs := by simp [asS, asL, h]
theorem asL_ptr {n : Nat} {xs : List D} (h : S[n]? = some (.lst xs)) : asL S (.ptr n) = some xs := by simp [asL, h]
end
end Z
/-! ZG: what the operators, the built-ins and the methods end in. -/
namespace Z
open PySem PySem.Spec L2

section
variable {S : Store} {P : D → Store → Prop} {X : D → Store → Prop}
@[simp] theorem atI_nat' {α : Type} (xs : List α) (k : Nat) : atI xs (k : Int) = xs[k]? := by
  unfold atI ixN
  by_cases h : k < xs.length
  · simp [h]
  · rw [if_pos (by omega), if_neg (by omega)]
    simp; omega
@[simp] theorem atI_0 {α : Type} (xs : List α) : atI xs 0 = xs[0]? := atI_nat' xs 0
@[simp] theorem atI_1 {α : Type} (xs : List α) : atI xs 1 = xs[1]? := atI_nat' xs 1
@[simp] theorem atI_2 {α : Type} (xs : List α) : atI xs 2 = xs[2]? := atI_nat' xs 2
@[simp] theorem atI_3 {α : Type} (xs : List α) : atI xs 3 = xs[3]? := atI_nat' xs 3
@[simp] theorem atI_4 {α : Type} (xs : List α) : atI xs 4 = xs[4]? := atI_nat' xs 4
@[simp] theorem atI_5 {α : Type} (xs : List α) : atI xs 5 = xs[5]? := atI_nat' xs 5
@[simp] theorem atI_6 {α : Type} (xs : List α) : atI xs 6 = xs[6]? := atI_nat' xs 6
@[simp] theorem atI_7 {α : Type} (xs : List α) : atI xs 7 = xs[7]? := atI_nat' xs 7
@[simp] theorem atI_8 {α : Type} (xs : List α) : atI xs 8 = xs[8]? := atI_nat' xs 8
theorem atI_mem {α : Type} {xs : List α} {i : Int} {x : α} (h : atI xs i = some x) : x ∈ xs := by
  unfold atI at h
  cases e : ixN xs.length i with
  | none => rw [e] at h; cases h
  | some j => rw [e] at h; exact List.mem_of_getElem? h
/-- the last -/
theorem atI_last {α : Type} {xs : List α} (h : xs ≠ []) : atI xs (-1) = some (xs.getLast h) := by
  have hp := List.length_pos_iff.mpr h
  unfold atI ixN
  rw [if_neg (by omega), if_pos (by omega)]
  simp only [Option.bind_some]
  rw [List.getLast_eq_getElem, List.getElem?_eq_some_iff]
  exact ⟨by omega, by congr 1; omega⟩
theorem orS2_l {f g : Sem2} {d e : D} {a : D} {S' : Store} (h : f d e S = .ok a S') : orS2 f g d e S = .ok a S' := by unfold orS2; rw [h]
theorem orS2_r {f g : Sem2} {d e : D} (h : f d e S = .bad) : orS2 f g d e S = g d e S := by unfold orS2; rw [h]
theorem orSL_l {f g : SemL} {d : List D} {a : D} {S' : Store} (h : f d S = .ok a S') : orSL f g d S = .ok a S' := by unfold orSL; rw [h]
theorem orSL_r {f g : SemL} {d : List D} (h : f d S = .bad) : orSL f g d S = g d S := by unfold orSL; rw [h]
/-! #### o[i] -/
@[simp] theorem w_ix_lst {xs : List D} {i : Int} : We (ixX (.lst xs) (.int i) S) P X = ∃ x, atI xs i = some x ∧ P x S := by
  rw [ix_lst]
  cases atI xs i <;> simp
@[simp] theorem w_ix_tup {xs : List D} {i : Int} : We (ixX (.tup xs) (.int i) S) P X = ∃ x, atI xs i = some x ∧ P x S := by
  rw [ix_tup]
  cases atI xs i <;> simp
theorem w_ix_ptr {n : Nat} {xs : List D} {i : Int} (h : S[n]? = some (.lst xs)) : We (ixX (.ptr n) (.int i) S) P X = ∃ x, atI xs i = some x ∧ P x S := by
  rw [ix_ptr h]
  cases atI xs i <;> simp
@[simp] theorem w_ix_str {l : List Nat} {i : Int} : We (ixX (.str (tx l)) (.int i) S) P X = (l.length ≤ 1000000 ∧ ∃ c, atI l i = some c ∧ P (sg c) S) := by
  by_cases h : l.length ≤ 1000000
  · cases e : atI l i with
    | none =>
      have : ixX (.str (tx l)) (.int i) S = .bad := by
        unfold ixX
        rw [orS2_r (by simp only [ixSeq]; rw [if_pos (by simpa using h)]; simp [e])]
        rfl
      rw [this]; simp
    | some c =>
      have : ixX (.str (tx l)) (.int i) S = .ok (sg c) S := by
        unfold ixX
        exact orS2_l (by simp only [ixSeq]; rw [if_pos (by simpa using h)]; simp [e])
      rw [this]; simp [h]
  · have : ixX (.str (tx l)) (.int i) S = .bad := by
      unfold ixX
      rw [orS2_r (by simp only [ixSeq]; rw [if_neg (by simpa using h)])]
      rfl
    rw [this]; simp [h]
theorem ixSeq_dct {ks vs : List D} {k : D} : ixSeq (.dct ks vs) k S = .bad := by
  cases k <;> simp [ixSeq, asS, asL]
@[simp] theorem w_ix_dct {ks vs : List D} {k : D} : We (ixX (.dct ks vs) k S) P X = ∃ y, keyD k = some y ∧ ∃ v, getK ks vs y = some v ∧ P v S := by
  have : ixX (.dct ks vs) k S = ixDct (.dct ks vs) k S := by unfold ixX; exact orS2_r ixSeq_dct
  rw [this]
  unfold ixDct asD
  cases e : keyD k with
  | none => simp
  | some y =>
    dsimp only
    cases e2 : getK ks vs y <;> simp [e2]
@[simp] theorem keyD_str {s : Str} : keyD (.str s) = some (.inr s) := (rfl)
@[simp] theorem keyD_int {s : Int} : keyD (.int s) = some (.inl s) := (rfl)
/-! #### len -/
@[simp] theorem w_len_str {l : List Nat} : We (lenX [.str (tx l)] S) P X = (l.length ≤ 1000000 ∧ P (.int l.length) S) := by
  by_cases h : l.length ≤ 1000000
  · have : lenX [.str (tx l)] S = .ok (.int l.length) S := by
      unfold lenX
      refine orSL_l ?_
      simp [semLen, h]
    rw [this]; simp [h]
  · have : lenX [.str (tx l)] S = .bad := by
      unfold lenX
      rw [orSL_r (by simp [semLen, h])]
      rfl
    rw [this]; simp [h]
@[simp] theorem len_tup {xs : List D} : lenX [.tup xs] S = .ok (.int xs.length) S := by simp [lenX, orSL, semLen, asS]
@[simp] theorem len_lst {xs : List D} : lenX [.lst xs] S = .ok (.int xs.length) S := by simp [lenX, orSL, semLen, asS, asL]
theorem len_ptr {n : Nat} {xs : List D} (h : S[n]? = some (.lst xs)) : lenX [.ptr n] S = .ok (.int xs.length) S := by simp [lenX, orSL, semLen, asS, asL, h]
@[simp] theorem len_dct {ks vs : List D} : lenX [.dct ks vs] S = .ok (.int ks.length) S := by simp [lenX, orSL, semLen, asS, asL, semLenD, asD]
/-! #### + -/
@[simp] theorem w_add_str {a b : List Nat} : We (addX (.str (tx a)) (.str (tx b)) S) P X = (a.length + b.length ≤ 1000000 ∧ P (.str (tx (a ++ b))) S) := by
  by_cases h : a.length + b.length ≤ 1000000
  · have : addX (.str (tx a)) (.str (tx b)) S = .ok (.str (tx (a ++ b))) S := by
      unfold addX
      rw [orS2_r (by rfl)]
      exact orS2_l (by simp [addS, h])
    rw [this]; simp [h]
  · have : addX (.str (tx a)) (.str (tx b)) S = .bad := by
      unfold addX
      rw [orS2_r (by rfl), orS2_r (by simp [addS, h]), orS2_r (by simp [addL, asL])]
      rfl
    rw [this]; simp [h]
@[simp] theorem w_add_lst {a b : List D} : We (addX (.lst a) (.lst b) S) P X = (a.length + b.length ≤ 1000000 ∧ P (.lst (a ++ b)) S) := by
  by_cases h : a.length + b.length ≤ 1000000
  · have : addX (.lst a) (.lst b) S = .ok (.lst (a ++ b)) S := by
      unfold addX
      rw [orS2_r (by rfl), orS2_r (by rfl)]
      exact orS2_l (by simp [addL, asL, h])
    rw [this]; simp [h]
  · have : addX (.lst a) (.lst b) S = .bad := by
      unfold addX
      rw [orS2_r (by rfl), orS2_r (by rfl), orS2_r (by simp [addL, asL, h])]
      rfl
    rw [this]; simp [h]
/-! #### in -/
theorem in_sg {neg : Bool} {c : Nat} {l : List Nat} : inSg neg (sg c) (.str (tx l)) S = .ok (.bl (if neg = true then !decide (c ∈ l) else decide (c ∈ l))) S := by
  simp only [inSg]
@[simp] theorem inX_sg {c : Nat} {l : List Nat} : inX (sg c) (.str (tx l)) S = .ok (.bl (decide (c ∈ l))) S := orS2_l (in_sg (neg := false))
@[simp] theorem ninX_sg {c : Nat} {l : List Nat} : ninX (sg c) (.str (tx l)) S = .ok (.bl (!decide (c ∈ l))) S := orS2_l (in_sg (neg := true))
theorem in_dct {neg : Bool} {k : D} {y : Key} {ks vs : List D} (h : keyD k = some y) : inDct neg k (.dct ks vs) S = .ok (.bl (if neg = true then !hasK ks y else hasK ks y)) S := by
  simp only [inDct, asD, h]
theorem inSg_dct {neg : Bool} {k : D} {ks vs : List D} : inSg neg k (.dct ks vs) S = .bad := by cases k <;> rfl
theorem inX_dct {k : D} {y : Key} {ks vs : List D} (h : keyD k = some y) : inX k (.dct ks vs) S = .ok (.bl (hasK ks y)) S := by
  unfold inX
  rw [orS2_r inSg_dct]
  exact orS2_l (in_dct (neg := false) h)
theorem ninX_dct {k : D} {y : Key} {ks vs : List D} (h : keyD k = some y) : ninX k (.dct ks vs) S = .ok (.bl (!hasK ks y)) S := by
  unfold ninX
  rw [orS2_r inSg_dct]
  exact orS2_l (in_dct (neg := true) h)
@[simp] theorem inX_dctS {s : Str} {ks vs : List D} : inX (.str s) (.dct ks vs) S = .ok (.bl (hasK ks (.inr s))) S := inX_dct rfl
@[simp] theorem ninX_dctS {s : Str} {ks vs : List D} : ninX (.str s) (.dct ks vs) S = .ok (.bl (!hasK ks (.inr s))) S := ninX_dct rfl
theorem inSg_sq {neg : Bool} {k e : D} {xs : List D} (h : asS S e = some xs) : inSg neg k e S = .bad := by
  cases e <;> first | (simp [asS, asL] at h; done) | (cases k <;> rfl)
theorem inDct_sq {neg : Bool} {k e : D} {xs : List D} (h : asS S e = some xs) : inDct neg k e S = .bad := by
  unfold inDct
  have : asD S e = none := by
    cases e with
    | ptr n =>
      simp only [asS, asL] at h
      split at h
      · rename_i ds e; simp [asD, e]
      · cases h
    | _ => first | rfl | (simp [asS, asL] at h; done)
  rw [this]
theorem ninX_sq {k e : D} {xs : List D} (h : asS S e = some xs) (hk : flatD k = true) (hx : xs.all flatD = true) : ninX k e S = .ok (.bl (!inD k xs)) S := by
  unfold ninX
  rw [orS2_r (inSg_sq h), orS2_r (inDct_sq h)]
  unfold inSq
  simp only [h]
  rw [if_pos ⟨hk, hx⟩]
  rfl
theorem inX_sq {k e : D} {xs : List D} (h : asS S e = some xs) (hk : flatD k = true) (hx : xs.all flatD = true) : inX k e S = .ok (.bl (inD k xs)) S := by
  unfold inX
  rw [orS2_r (inSg_sq h), orS2_r (inDct_sq h)]
  unfold inSq
  simp only [h]
  rw [if_pos ⟨hk, hx⟩]
  rfl
@[simp] theorem inD_sg {c : Nat} {l : List Nat} : inD (sg c) (l.map sg) = decide (c ∈ l) := by
  unfold inD
  induction l with
  | nil => rfl
  | cons x l ih =>
    rw [List.map_cons, List.any_cons, ih]
    have : eqF (sg x) (sg c) = decide (x = c) := by
      show ((tx [x]) == (tx [c])) = _
      by_cases h : x = c
      · subst h; simp
      · simp [h]
    rw [this]
    by_cases h : x = c
    · simp [h]
    · simp [h, Ne.symm h, eq_comm]
@[simp] theorem flat_sgs {l : List Nat} : (l.map sg).all flatD = true := by simp [List.all_eq_true, flatD]
@[simp] theorem flat_str {s : Str} : flatD (.str s) = true := (rfl)
@[simp] theorem flat_int {s : Int} : flatD (.int s) = true := (rfl)
/-! #### slices -/
theorem sIx_nat (n d k : Nat) : HT.sIx n d (some (k : Int)) = min k n := HT.sIx_nat n d k
@[simp] theorem cutS_from (l : List Nat) (k : Nat) : cutS (tx l) (some (k : Int)) none = tx (l.drop k) := by
  unfold cutS
  congr 1
  rw [HT.sIx_none, sIx_nat, tx_len]
  show ((l.drop (min k l.length)).take (l.length - min k l.length)).toArray = _
  rw [List.take_of_length_le (by simp)]
  by_cases h : k ≤ l.length
  · rw [Nat.min_eq_left h]
  · rw [Nat.min_eq_right (by omega), List.drop_length, List.drop_eq_nil_of_le (by omega)]
@[simp] theorem cutS_to (l : List Nat) (k : Nat) : cutS (tx l) none (some (k : Int)) = tx (l.take k) := by
  unfold cutS
  congr 1
  rw [HT.sIx_none, sIx_nat, tx_len]
  show ((l.drop 0).take (min k l.length - 0)).toArray = _
  rw [List.drop_zero, Nat.sub_zero]
  by_cases h : k ≤ l.length
  · rw [Nat.min_eq_left h]
  · rw [Nat.min_eq_right (by omega), List.take_length, List.take_of_length_le (by omega)]
@[simp] theorem cutS_mid (l : List Nat) (j k : Nat) : cutS (tx l) (some (j : Int)) (some (k : Int)) = tx ((l.take k).drop j) := by
  unfold cutS
  congr 1
  rw [sIx_nat, sIx_nat, tx_len]
  show ((l.drop (min j l.length)).take (min k l.length - min j l.length)).toArray = _
  rw [← List.drop_take]
  by_cases h : k ≤ l.length
  · rw [Nat.min_eq_left h]
    by_cases h2 : j ≤ l.length
    · rw [Nat.min_eq_left h2]
    · rw [Nat.min_eq_right (by omega), List.drop_eq_nil_of_le (by simp; omega), List.drop_eq_nil_of_le (by simp; omega)]
  · rw [Nat.min_eq_right (a := k) (by omega), List.take_length, List.take_of_length_le (i := k) (by omega)]
    by_cases h2 : j ≤ l.length
    · rw [Nat.min_eq_left h2]
    · rw [Nat.min_eq_right (a := j) (by omega), List.drop_length, List.drop_eq_nil_of_le (by omega)]
@[simp] theorem cutD_from (l : List D) (k : Nat) : cutD l (some (k : Int)) none = l.drop k := by
  unfold cutD
  rw [HT.sIx_none, sIx_nat]
  rw [List.take_of_length_le (by simp)]
  by_cases h : k ≤ l.length
  · rw [Nat.min_eq_left h]
  · rw [Nat.min_eq_right (by omega), List.drop_length, List.drop_eq_nil_of_le (by omega)]
@[simp] theorem cutD_to (l : List D) (k : Nat) : cutD l none (some (k : Int)) = l.take k := by
  unfold cutD
  rw [HT.sIx_none, sIx_nat, List.drop_zero, Nat.sub_zero]
  by_cases h : k ≤ l.length
  · rw [Nat.min_eq_left h]
  · rw [Nat.min_eq_right (by omega), List.take_length, List.take_of_length_le (by omega)]
@[simp] theorem cutD_63 (l : List D) : cutD l none (some 63) = l.take 63 := cutD_to l 63
@[simp] theorem cutS_from1 (l : List Nat) : cutS (tx l) (some 1) none = tx (l.drop 1) := cutS_from l 1
@[simp] theorem cutS_from2 (l : List Nat) : cutS (tx l) (some 2) none = tx (l.drop 2) := cutS_from l 2
@[simp] theorem cutS_to1 (l : List Nat) : cutS (tx l) none (some 1) = tx (l.take 1) := cutS_to l 1
@[simp] theorem cutS_12 (l : List Nat) : cutS (tx l) (some 1) (some 2) = tx ((l.take 2).drop 1) := cutS_mid l 1 2
@[simp] theorem w_sl_str {h : Bool} {l : List Nat} {lo hi : Option Int} : We (semSl h (.str (tx l)) lo hi S) P X = (l.length ≤ 1000000 ∧ P (.str (cutS (tx l) lo hi)) S) := by
  by_cases h : l.length ≤ 1000000 <;> simp [semSl, h]
@[simp] theorem sl_tup {h : Bool} {xs : List D} {lo hi : Option Int} : semSl h (.tup xs) lo hi S = .ok (.tup (cutD xs lo hi)) S := (rfl)
@[simp] theorem sl_lst {xs : List D} {lo hi : Option Int} : semSl false (.lst xs) lo hi S = .ok (.lst (cutD xs lo hi)) S := (rfl)
@[simp] theorem sl_scr {xs : List Int} {lo hi : Option Int} : semSl false (.scr xs) lo hi S = .ok (.lst (cutD (xs.map .int) lo hi)) S := (rfl)
/-! #### displays -/
@[simp] theorem w_semTup {ds : List D} : We (semTup ds S) P X = (ds.length ≤ 1000000 ∧ P (.tup ds) S) := by
  unfold semTup
  by_cases h : ds.length ≤ 1000000 <;> simp [h]
@[simp] theorem w_semLst {ds : List D} : We (semLst ds S) P X = (ds.length ≤ 1000000 ∧ P (.lst ds) S) := by
  unfold semLst
  by_cases h : ds.length ≤ 1000000 <;> simp [h]
@[simp] theorem w_semLstH {ds : List D} : We (semLstH ds S) P X = (ds.length ≤ 1000000 ∧ P (.ptr S.length) (S ++ [.lst ds])) := by
  unfold semLstH
  by_cases h : ds.length ≤ 1000000 <;> simp [h]
/-! #### all, any, list, tuple, int -/
@[simp] theorem boolsOf_mp {α : Type} {p : α → Bool} {xs : List α} : boolsOf (xs.map fun x => .bl (p x)) = some (xs.map p) := by
  induction xs with
  | nil => rfl
  | cons x xs ih => simp [boolsOf, ih]
@[simp] theorem all_lst {α : Type} {p : α → Bool} {xs : List α} : semAll [.lst (xs.map fun x => .bl (p x))] S = .ok (.bl (xs.all p)) S := by
  simp only [semAll, asL_lst', boolsOf_mp]
  simp [List.all_map, Function.comp_def]
theorem all_const {α : Type} {xs : List α} : semAll [.lst (xs.map fun _ => .bl true)] S = .ok (.bl true) S := by
  have := all_lst (S := S) (p := fun _ : α => true) (xs := xs)
  rw [this]
  congr 2
  rw [List.all_eq_true]
  intros
  rfl
@[simp] theorem any_lst {α : Type} {p : α → Bool} {xs : List α} : semAny [.lst (xs.map fun x => .bl (p x))] S = .ok (.bl (xs.any p)) S := by
  simp only [semAny, asL_lst', boolsOf_mp]
  simp [List.any_map, Function.comp_def]
@[simp] theorem listOf_lst {xs : List D} : semListOf [.lst xs] S = .ok (.lst xs) S := (rfl)
@[simp] theorem tupOf_lst {xs : List D} : semTupOf [.lst xs] S = .ok (.tup xs) S := (rfl)
@[simp] theorem tupOf_tup {xs : List D} : semTupOf [.tup xs] S = .ok (.tup xs) S := (rfl)
@[simp] theorem int_int {i : Int} : semInt [.int i] S = .ok (.int i) S := (rfl)
@[simp] theorem int_bl {b : Bool} : semInt [.bl b] S = .ok (.int (if b = true then 1 else 0)) S := (rfl)
/-! #### join, append -/
@[simp] theorem strsOf_mp {xs : List (List Nat)} : strsOf (xs.map fun l => .str (tx l)) = some (xs.map tx) := by
  induction xs with
  | nil => rfl
  | cons x xs ih => simp [strsOf, ih]
theorem glued_empty : ∀ xs : List (List Nat), Txt.join (tx []) (xs.map tx) = tx xs.flatten := fun xs => by
  unfold Txt.join
  rw [StrLaws.glued_eq_join]
  induction xs with
  | nil => rfl
  | cons a xs ih =>
    cases xs with
    | nil => simp [Str.join]
    | cons b r =>
      simp only [List.map_cons, Str.join] at ih ⊢
      rw [ih]
      simp
@[simp] theorem w_join {xs : List (List Nat)} {d : D} (h : asS S d = some (xs.map fun l => .str (tx l))) : We (semJoin (.str (tx [])) [d] S) P X = ((xs.map List.length).sum ≤ 1000000 ∧ P (.str (tx xs.flatten)) S) := by
  simp only [semJoin, h, strsOf_mp]
  rw [glued_empty]
  have e : (List.map (fun x => x.length) (List.map tx xs)).sum + (List.map tx xs).length * (tx []).length = (xs.map List.length).sum := by
    rw [tx_len]
    simp only [List.length_nil, Nat.mul_zero, Nat.add_zero, List.map_map]
    congr 1
  rw [e]
  by_cases h : (xs.map List.length).sum ≤ 1000000 <;> simp [h]
theorem sum_ones : ∀ l : List Nat, ((l.map fun c => [c]).map List.length).sum = l.length
  | [] => rfl
  | a :: l => by
    have := sum_ones l
    simp only [List.map_cons, List.sum_cons, List.length_cons, List.length_nil, this]
    omega
theorem flat_ones : ∀ l : List Nat, (l.map fun c => [c]).flatten = l
  | [] => rfl
  | a :: l => by simp [flat_ones l]
theorem w_joinSg {l : List Nat} {d : D} (h : asS S d = some (l.map sg)) : We (semJoin (.str (tx [])) [d] S) P X = (l.length ≤ 1000000 ∧ P (.str (tx l)) S) := by
  have := w_join (P := P) (X := X) (S := S) (xs := l.map fun c => [c]) (d := d) (by rw [h]; simp)
  rw [this]
  rw [sum_ones, flat_ones]
@[simp] theorem w_append {xs : List D} {e : D} : We (semAppend (.ptr S.length) [e] (S ++ [.lst xs])) P X = (xs.length < 1000000 ∧ P .non (S ++ [.lst (xs ++ [e])])) := by
  simp only [semAppend]
  rw [List.getElem?_append_right (Nat.le_refl _)]
  simp only [Nat.sub_self, List.getElem?_cons_zero]
  by_cases h : xs.length < 1000000 <;> simp [h]
theorem append_at {n : Nat} {xs : List D} {e : D} (h : S[n]? = some (.lst xs)) (hl : xs.length < 1000000) : semAppend (.ptr n) [e] S = .ok .non (S.set n (.lst (xs ++ [e]))) := by
  simp only [semAppend, h]
  rw [if_pos hl]
/-! #### isinstance -/
@[simp] theorem isKd_non_int : isKd .non "int" = some false := by decide
@[simp] theorem isKd_non_bool : isKd .non "bool" = some false := by decide
@[simp] theorem isKd_non_str : isKd .non "str" = some false := by decide
@[simp] theorem isKd_non_list : isKd .non "list" = some false := by decide
@[simp] theorem isKd_non_tuple : isKd .non "tuple" = some false := by decide
@[simp] theorem isKd_non_dict : isKd .non "dict" = some false := by decide
@[simp] theorem isKd_bl_int : isKd .bl "int" = some true := by decide
@[simp] theorem isKd_bl_bool : isKd .bl "bool" = some true := by decide
@[simp] theorem isKd_bl_str : isKd .bl "str" = some false := by decide
@[simp] theorem isKd_bl_list : isKd .bl "list" = some false := by decide
@[simp] theorem isKd_bl_tuple : isKd .bl "tuple" = some false := by decide
@[simp] theorem isKd_bl_dict : isKd .bl "dict" = some false := by decide
@[simp] theorem isKd_int_int : isKd .int "int" = some true := by decide
@[simp] theorem isKd_int_bool : isKd .int "bool" = some false := by decide
@[simp] theorem isKd_int_str : isKd .int "str" = some false := by decide
@[simp] theorem isKd_int_list : isKd .int "list" = some false := by decide
@[simp] theorem isKd_int_tuple : isKd .int "tuple" = some false := by decide
@[simp] theorem isKd_int_dict : isKd .int "dict" = some false := by decide
@[simp] theorem isKd_str_int : isKd .str "int" = some false := by decide
@[simp] theorem isKd_str_bool : isKd .str "bool" = some false := by decide
@[simp] theorem isKd_str_str : isKd .str "str" = some true := by decide
@[simp] theorem isKd_str_list : isKd .str "list" = some false := by decide
@[simp] theorem isKd_str_tuple : isKd .str "tuple" = some false := by decide
@[simp] theorem isKd_str_dict : isKd .str "dict" = some false := by decide
@[simp] theorem isKd_tup_int : isKd .tup "int" = some false := by decide
@[simp] theorem isKd_tup_bool : isKd .tup "bool" = some false := by decide
@[simp] theorem isKd_tup_str : isKd .tup "str" = some false := by decide
@[simp] theorem isKd_tup_list : isKd .tup "list" = some false := by decide
@[simp] theorem isKd_tup_tuple : isKd .tup "tuple" = some true := by decide
@[simp] theorem isKd_tup_dict : isKd .tup "dict" = some false := by decide
@[simp] theorem isKd_lst_int : isKd .lst "int" = some false := by decide
@[simp] theorem isKd_lst_bool : isKd .lst "bool" = some false := by decide
@[simp] theorem isKd_lst_str : isKd .lst "str" = some false := by decide
@[simp] theorem isKd_lst_list : isKd .lst "list" = some true := by decide
@[simp] theorem isKd_lst_tuple : isKd .lst "tuple" = some false := by decide
@[simp] theorem isKd_lst_dict : isKd .lst "dict" = some false := by decide
@[simp] theorem isKd_dct_int : isKd .dct "int" = some false := by decide
@[simp] theorem isKd_dct_bool : isKd .dct "bool" = some false := by decide
@[simp] theorem isKd_dct_str : isKd .dct "str" = some false := by decide
@[simp] theorem isKd_dct_list : isKd .dct "list" = some false := by decide
@[simp] theorem isKd_dct_tuple : isKd .dct "tuple" = some false := by decide
@[simp] theorem isKd_dct_dict : isKd .dct "dict" = some true := by decide
@[simp] theorem kdOf_non : kdOf S .non = some .non := (rfl)
@[simp] theorem kdOf_bl {b : Bool} : kdOf S (.bl b) = some .bl := (rfl)
@[simp] theorem kdOf_int {b : Int} : kdOf S (.int b) = some .int := (rfl)
@[simp] theorem kdOf_str {b : Str} : kdOf S (.str b) = some .str := (rfl)
@[simp] theorem kdOf_tup {b : List D} : kdOf S (.tup b) = some .tup := (rfl)
@[simp] theorem kdOf_lst {b : List D} : kdOf S (.lst b) = some .lst := (rfl)
@[simp] theorem kdOf_scr {b : List Int} : kdOf S (.scr b) = some .lst := (rfl)
@[simp] theorem kdOf_dct {a b : List D} : kdOf S (.dct a b) = some .dct := (rfl)
theorem kdOf_lstAt {n : Nat} {xs : List D} (h : S[n]? = some (.lst xs)) : kdOf S (.ptr n) = some .lst := by simp [kdOf, h]
@[simp] theorem w_isi_ty {d : D} {T : String} : We (isiX [d, .ty T] S) P X = isO (kdOf S d) fun k => isO (isKd k T) fun b => P (.bl b) S := by
  cases e : kdOf S d with
  | none =>
    have : isiX [d, .ty T] S = .bad := by
      unfold isiX
      rw [orSL_r (by simp [semIsi, e])]
      simp [semIsiT]
    rw [this]; simp
  | some k =>
    cases e2 : isKd k T with
    | none =>
      have : isiX [d, .ty T] S = .bad := by
        unfold isiX
        rw [orSL_r (by simp [semIsi, e, e2])]
        simp [semIsiT]
      rw [this]; simp [e2]
    | some b =>
      have : isiX [d, .ty T] S = .ok (.bl b) S := by
        unfold isiX
        exact orSL_l (by simp [semIsi, e, e2])
      rw [this]; simp [e2]
@[simp] theorem w_isi_tup {d : D} {ts : List D} : We (isiX [d, .tup ts] S) P X = isO (kdOf S d) fun k => isO (tysOf ts) fun Ts => isO (isKds k Ts) fun b => P (.bl b) S := by
  have e0 : isiX [d, .tup ts] S = semIsiT [d, .tup ts] S := by
    unfold isiX
    exact orSL_r (by simp [semIsi])
  rw [e0]
  simp only [semIsiT]
  cases e : kdOf S d with
  | none => simp
  | some k =>
    cases e1 : tysOf ts with
    | none => simp
    | some Ts =>
      dsimp only
      cases e2 : isKds k Ts <;> simp [e2]
@[simp] theorem tysOf_nil : tysOf [] = some [] := (rfl)
@[simp] theorem tysOf_cons {T : String} {r : List D} : tysOf (.ty T :: r) = (tysOf r).map (T :: ·) := (rfl)
@[simp] theorem isKds_nil {k : Kd} : isKds k [] = some false := (rfl)
@[simp] theorem isKds_cons {k : Kd} {T : String} {r : List String} : isKds k (T :: r) = (isKd k T).bind fun b => (isKds k r).map fun c => b || c := by
  simp only [isKds]
  cases isKd k T <;> cases isKds k r <;> rfl
/-! #### == of flat things -/
def okS (l : List Nat) : Prop := ∀ c ∈ l, c < 1114112
theorem okS_shaped {l : List Nat} (h : okS l) : SeqAt.shaped (.str (tx l)) = true := shaped_str (by
  unfold PyData.strOk
  simp
  exact h)
theorem eqD_str {a b : List Nat} (ha : okS a) (hb : okS b) : eqD false (.str (tx a)) (.str (tx b)) S = .ok (.bl (decide (a = b))) S := by
  simp [eqD, toP, toP0, PyData.eqv, okS_shaped ha, okS_shaped hb]
  by_cases h : a = b <;> simp [h]
theorem neD_str {a b : List Nat} (ha : okS a) (hb : okS b) : eqD true (.str (tx a)) (.str (tx b)) S = .ok (.bl (!decide (a = b))) S := by
  simp [eqD, toP, toP0, PyData.eqv, okS_shaped ha, okS_shaped hb]
  by_cases h : a = b <;> simp [h]
@[simp] theorem eqD_bl {a b : Bool} : eqD false (.bl a) (.bl b) S = .ok (.bl (decide (a = b))) S := by
  simp [eqD, toP, toP0, PyData.eqv]
  cases a <;> cases b <;> rfl
@[simp] theorem neD_bl {a b : Bool} : eqD true (.bl a) (.bl b) S = .ok (.bl (!decide (a = b))) S := by
  simp [eqD, toP, toP0, PyData.eqv]
  cases a <;> cases b <;> rfl
@[simp] theorem isN_is {d : D} {neg : Bool} : isN neg d .non S = .ok (.bl (if neg = true then !isNon d else isNon d)) S := (rfl)
@[simp] theorem isNon_non : isNon .non = true := (rfl)
@[simp] theorem isNon_bl {b : Bool} : isNon (.bl b) = false := (rfl)
@[simp] theorem isNon_int {b : Int} : isNon (.int b) = false := (rfl)
@[simp] theorem isNon_str {b : Str} : isNon (.str b) = false := (rfl)
@[simp] theorem isNon_tup {b : List D} : isNon (.tup b) = false := (rfl)
@[simp] theorem isNon_lst {b : List D} : isNon (.lst b) = false := (rfl)
/-! #### sorted -/
theorem sortBy_of {α : Type} (f : α → D) (k : α → PyData) (le : α → α → Bool) (l : List α) (h : ∀ a ∈ l, ∀ b ∈ l, le a b = !PySem.W.dataLt (k b) (k a)) : sortBy (l.map f) (l.map k) = (l.mergeSort le).map f := by
  unfold sortBy
  have e : (l.map f).zip (l.map k) = l.map fun a => (f a, k a) := by
    induction l with
    | nil => rfl
    | cons a l ih => simp [ih (fun a ha b hb => h a (List.mem_cons_of_mem _ ha) b (List.mem_cons_of_mem _ hb))]
  rw [e, ← List.map_mergeSort (f := fun a => (f a, k a)) (r := le) (fun a ha b hb => h a ha b hb), List.map_map]
  rfl
theorem dataLt_sg (a b : Nat) : PySem.W.dataLt (.str (tx [a])) (.str (tx [b])) = decide (a < b) := by
  rw [PySem.W.dataLt_str]
  simp [List.cons_lt_cons_iff]
theorem sort_sgs (l : List Nat) : sortBy (l.map sg) (l.map fun c => PyData.str (tx [c])) = (l.mergeSort fun a b => decide (a ≤ b)).map sg := by
  refine sortBy_of sg _ _ l fun a _ b _ => ?_
  rw [dataLt_sg]
  by_cases h : a ≤ b
  · simp [h]
  · simp [h]; omega
theorem sorted_str {l : List Nat} (h : l.length ≤ 1000000) : semSorted [.str (tx l)] S = .ok (.ptr S.length) (S ++ [.lst ((l.mergeSort fun a b => decide (a ≤ b)).map sg)]) := by
  simp only [semSorted]
  rw [if_pos (by simpa using h), signsD_tx, signsS_tx, List.map_map]
  have := sort_sgs l
  rw [← this]
  rfl
theorem srt_sgs {l : List Nat} (h : l.length ≤ 1000000) : SrtOk (l.map fun c => PyData.str (tx [c])) := by
  refine ⟨fun d hd d' hd' => ?_, .inr fun d hd => ?_, by simpa using h, fun d hd => ?_⟩
  · obtain ⟨c, _, rfl⟩ := List.mem_map.mp hd
    obtain ⟨c', _, rfl⟩ := List.mem_map.mp hd'
    simp [PySem.W.alike]
  · obtain ⟨c, _, rfl⟩ := List.mem_map.mp hd
    exact ⟨nofun, nofun⟩
  · obtain ⟨c, _, rfl⟩ := List.mem_map.mp hd
    simp [PyData.depth]
theorem toPL_sgs (l : List Nat) : toPL0 (l.map sg) = some (l.map fun c => PyData.str (tx [c])) := by
  induction l with
  | nil => rfl
  | cons c l ih => simp [toPL0, toP0, ih]
theorem sorted_sgs {l : List Nat} {d : D} (h : l.length ≤ 1000000) (hd : asL S d = some (l.map sg)) : semSorted [d] S = .ok (.ptr S.length) (S ++ [.lst ((l.mergeSort fun a b => decide (a ≤ b)).map sg)]) := by
  have e : semSorted [d] S = (match asL S d with
    | some xs => (match toPL0 xs with
      | some ps => open Classical in if SrtOk ps then .ok (.ptr S.length) (S ++ [.lst (sortBy xs ps)]) else .bad
      | none => .bad)
    | none => .bad) := by
    cases d <;> first | rfl | (simp [asL] at hd; done)
  rw [e, hd]
  dsimp only
  rw [toPL_sgs]
  dsimp only
  rw [if_pos (srt_sgs h), sort_sgs]
theorem w_sortedF {l : List Nat} {d : D} (h : l.length ≤ 1000000) (hd : asL S d = some (l.map sg)) (p : P (.lst ((l.mergeSort fun a b => decide (a ≤ b)).map sg)) S) : We (semSorted [d] S) (FinP S P) X :=
  we_eq (sorted_sgs h hd) (finP_lst (Keep.refl S) (by simp) p)
theorem w_sortedF_str {l : List Nat} (h : l.length ≤ 1000000) (p : P (.lst ((l.mergeSort fun a b => decide (a ≤ b)).map sg)) S) : We (semSorted [.str (tx l)] S) (FinP S P) X :=
  we_eq (sorted_str h) (finP_lst (Keep.refl S) (by simp) p)
/-! #### o[i] op= e, o[i] = e -/
theorem w_augSub {op : Int → Int → Int} {fo fi fe : EX} {sl : Sl} {Q : Q0} (h : We (fo sl S) (fun o S1 => We (fi sl S1) (fun i S2 => ∃ xs k a, asL S2 o = some xs ∧ i = .int k ∧ atI xs k = some (.int a) ∧ We (fe sl S2) (fun e S3 => ∃ b S4, e = .int b ∧ setD o i (.int (op a b)) S3 = some S4 ∧ Q.nx sl S4) (fun e S' => Q.ex e sl S')) (fun e S' => Q.ex e sl S')) (fun e S' => Q.ex e sl S')) : Wo (sAugSub op fo fi fe sl S) Q := by
  unfold sAugSub
  rw [wo_toS]
  refine h.post fun o S1 h => ?_
  rw [wo_toS]
  refine h.post fun i S2 h => ?_
  obtain ⟨xs, k, a, h1, rfl, h2, h3⟩ := h
  simp only [h1, h2]
  rw [wo_toS]
  refine h3.post fun e S3 h => ?_
  obtain ⟨b, S4, rfl, h4, h5⟩ := h
  simp only [h4, wo_nx]
  exact h5
theorem ixN_nat {n k : Nat} (h : k < n) : ixN n (k : Int) = some k := by
  unfold ixN
  rw [if_pos (by omega), if_pos (by omega)]
  simp
theorem setD_lst {n k : Nat} {xs : List D} {v : D} (h : S[n]? = some (.lst xs)) (hk : k < xs.length) : setD (.ptr n) (.int k) v S = some (S.set n (.lst (xs.set k v))) := by
  simp only [setD, h, ixN_nat hk]
@[simp] theorem fldsOf_ins {c : Str} {ns : List Str} {vs : List D} : fldsOf S (.ins c ns vs) = some (c, ns, vs) := (rfl)
theorem len_asL {d : D} {xs : List D} (h : asL S d = some xs) : lenX [d] S = .ok (.int xs.length) S := by
  cases d with
  | lst ys => cases h; exact len_lst
  | ptr n =>
    simp only [asL] at h
    split at h
    · rename_i ds e; cases h; exact len_ptr e
    · cases h
  | _ => cases h
theorem w_ix_asL {d : D} {xs : List D} {i : Int} (h : asL S d = some xs) : We (ixX d (.int i) S) P X = ∃ x, atI xs i = some x ∧ P x S := by
  cases d with
  | lst ys => cases h; exact w_ix_lst
  | ptr n =>
    simp only [asL] at h
    split at h
    · rename_i ds e; cases h; exact w_ix_ptr e
    · cases h
  | _ => cases h
theorem asS_asL {d : D} {xs : List D} (h : asL S d = some xs) : asS S d = some xs := by
  cases d with
  | lst ys => cases h; rfl
  | ptr n => exact h
  | _ => cases h
theorem srcD_asL {d : D} {xs : List D} (h : asL S d = some xs) : srcD S d = some xs := by
  cases d with
  | lst ys => cases h; rfl
  | ptr n => exact h
  | _ => cases h
theorem asL_app {d : D} {xs : List D} {T : Store} (h : asL S d = some xs) : asL (S ++ T) d = some xs := by
  cases d with
  | lst ys => exact h
  | ptr n =>
    simp only [asL] at h
    split at h
    · rename_i ds e
      cases h
      simp only [asL]
      rw [List.getElem?_append_left (List.getElem?_eq_some_iff.mp e).1, e]
    · cases h
  | _ => cases h
/-! #### a list of texts against the empty list -/
theorem ne_empty {xs : List (List Nat)} (h : ∀ x ∈ xs, okS x) : eqD true (.lst (xs.map fun l => .str (tx l))) (.lst []) S = .ok (.bl (!xs.isEmpty)) S := by
  have e1 : toPL0 (xs.map fun l => D.str (tx l)) = some (xs.map fun l => PyData.str (tx l)) := by
    clear h
    induction xs with
    | nil => rfl
    | cons x xs ih => simp [toPL0, toP0, ih]
  have e2 : SeqAt.shaped (.list (xs.map fun l => PyData.str (tx l))) = true := by
    have h1 : PyData.canLayAll0 (xs.map fun l => PyData.str (tx l)) = true ∧ PyData.depthAll (xs.map fun l => PyData.str (tx l)) = 0 := by
      clear e1
      induction xs with
      | nil => exact ⟨rfl, rfl⟩
      | cons x xs ih =>
        have h2 := ih fun y hy => h y (List.mem_cons_of_mem _ hy)
        have h3 := h x (List.mem_cons_self ..)
        have h4 : PyData.strOk (tx x) = true := by
          unfold PyData.strOk
          simp
          exact h3
        rw [List.map_cons, PyData.canLayAll0, PyData.depthAll, h2.1, h2.2]
        simp [PyData.canLay0, PyData.depth, h4]
    simp [SeqAt.shaped, PyData.canLay0, PyData.depth, h1.1, h1.2]
  simp only [eqD, toP, toP0, e1, toPL0, Option.map_some]
  rw [if_pos ⟨e2, by decide⟩]
  cases xs <;> rfl
end
end Z
/-! ZL: the defs that many laws share: the bag, draws, sameness, letters. -/
namespace Z
open PySem PySem.Spec L2

/-- _law_bag -/
noncomputable def m__law_bag : SX :=
  (sRet (eArgs semLstH (aCons (eArgs semListOf (aCons (eSl false (eName 0) oNone (oInt (eLit (.int 63)))) aNil)) (aCons (eLit (.int 0)) (aCons (eLit (.int 0)) (aCons (eLit (.int 5625)) aNil))))))
noncomputable def f__law_bag : SemL := arity 1 (defH 1 m__law_bag)
/-- _law_pick -/
noncomputable def m__law_pick : SX :=
  (sSeq (sIf (bAnd (bVal (eBin (eqD false) (eBin ixX (eName 0) (eLit (.int 2))) (eLit (.int 0)))) (bVal (eBin ltX (eBin ixX (eName 0) (eLit (.int 1))) (eArgs lenX (aCons (eBin ixX (eName 0) (eLit (.int 0))) aNil)))))
  (sSeq (sAsg (eBin ixX (eBin ixX (eName 0) (eLit (.int 0))) (eBin ixX (eName 0) (eLit (.int 1)))) (gSet 2))
  (sSeq (sAsg (eBin addX (eBin ixX (eName 0) (eLit (.int 1))) (eLit (.int 1))) (gSubX (eName 0) (eLit (.int 1))))
  (sIf (bVal (eBin geI (eName 2) (eBin powI (eLit (.int 10)) (eLit (.int 18)))))
  (sAsg (eName 2) (gSubX (eName 0) (eLit (.int 2))))
  (sAsg (eBin modI (eArgs semInt (aCons (eBin addX (eBin addX (eBin mulX (eBin ixX (eName 0) (eLit (.int 3))) (eLit (.int 48817))) (eBin mulX (eBin modI (eArgs semInt (aCons (eName 2) aNil)) (eLit (.int 2147483399))) (eLit (.int 9241)))) (eLit (.int 17))) aNil)) (eLit (.int 2147483563))) (gSubX (eName 0) (eLit (.int 3)))))))
  sNil)
  (sSeq (sIf (bVal (eBin gtI (eBin ixX (eName 0) (eLit (.int 2))) (eLit (.int 0))))
  (sSeq (sAsg (eBin modI (eArgs semInt (aCons (eBin ixX (eName 0) (eLit (.int 2))) aNil)) (eName 1)) (gSet 3))
  (sSeq (sAsg (eBin divI (eBin ixX (eName 0) (eLit (.int 2))) (eName 1)) (gSubX (eName 0) (eLit (.int 2))))
  (sRet (eName 3))))
  sNil)
  (sSeq (sAsg (eBin ixX (eName 0) (eLit (.int 3))) (gSet 4))
  (sSeq (sAsg (eBin modI (eArgs semInt (aCons (eBin addX (eBin addX (eBin mulX (eName 4) (eName 4)) (eBin mulX (eName 4) (eLit (.int 31013)))) (eLit (.int 1402361))) aNil)) (eLit (.int 2147483563))) (gSubX (eName 0) (eLit (.int 3))))
  (sRet (eBin modI (eArgs semInt (aCons (eBin addX (eBin divI (eBin ixX (eName 0) (eLit (.int 3))) (eLit (.int 71))) (eBin mulX (eBin modI (eArgs semInt (aCons (eBin ixX (eName 0) (eLit (.int 3))) aNil)) (eLit (.int 7907))) (eLit (.int 59)))) aNil)) (eName 1)))))))
noncomputable def f__law_pick : SemL := arity 2 (defS 5 m__law_pick)
/-- _law_of -/
noncomputable def m__law_of : SX :=
  (sRet (eBin ixX (eName 1) (eArgs f__law_pick (aCons (eName 0) (aCons (eArgs lenX (aCons (eName 1) aNil)) aNil)))))
noncomputable def f__law_of : SemL := arity 2 (defS 2 m__law_of)
/-- _law_same -/
noncomputable def m__law_same (again : SemL) : SX :=
  (sSeq (sIf (bVal (eArgs isiX (aCons (eName 1) (aCons (eArgs semTup (aCons (eLit (.ty "list")) (aCons (eLit (.ty "tuple")) aNil))) aNil))))
  (sSeq (sIf (bOr (bVal (eBin (eqD true) (eArgs isiX (aCons (eName 0) (aCons (eLit (.ty "list")) aNil))) (eArgs isiX (aCons (eName 1) (aCons (eLit (.ty "list")) aNil))))) (bVal (eBin (eqD true) (eArgs isiX (aCons (eName 0) (aCons (eLit (.ty "tuple")) aNil))) (eArgs isiX (aCons (eName 1) (aCons (eLit (.ty "tuple")) aNil))))))
  (sRet (eLit (.bl false)))
  sNil)
  (sRet (eAnd (eBin (eqD false) (eArgs lenX (aCons (eName 0) aNil)) (eArgs lenX (aCons (eName 1) aNil))) (eArgs semAll (aCons (eFin (eLc (itZip (aCons (eName 0) (aCons (eName 1) aNil))) (gTupX (gConsX (gSet 2) (gConsX (gSet 3) gNilX))) bTrue (eArgs again (aCons (eName 2) (aCons (eName 3) aNil))) [2, 3])) aNil)))))
  sNil)
  (sSeq (sIf (bOr (bVal (eBin (isN false) (eName 1) (eLit .non))) (bVal (eBin (isN false) (eName 0) (eLit .non))))
  (sRet (eAnd (eBin (isN false) (eName 1) (eLit .non)) (eBin (isN false) (eName 0) (eLit .non))))
  sNil)
  (sSeq (sIf (bOr (bVal (eBin (eqD true) (eArgs isiX (aCons (eName 0) (aCons (eLit (.ty "bool")) aNil))) (eArgs isiX (aCons (eName 1) (aCons (eLit (.ty "bool")) aNil))))) (bVal (eBin (eqD true) (eArgs isiX (aCons (eName 0) (aCons (eLit (.ty "int")) aNil))) (eArgs isiX (aCons (eName 1) (aCons (eLit (.ty "int")) aNil))))))
  (sRet (eLit (.bl false)))
  sNil)
  (sRet (eAnd (eBin (eqD false) (eArgs isiX (aCons (eName 0) (aCons (eLit (.ty "str")) aNil))) (eArgs isiX (aCons (eName 1) (aCons (eLit (.ty "str")) aNil)))) (eBin (eqD false) (eName 0) (eName 1)))))))
noncomputable def f__law_sameR : Nat → SemL
  | 0 => fun _ _ => .bad
  | k + 1 => arity 2 (defS 4 (m__law_same (f__law_sameR k)))
noncomputable def f__law_same : SemL := f__law_sameR 12
/-- _law_letters -/
noncomputable def m__law_letters : SX :=
  (sSeq (sAsg (eArgs semLstH aNil) (gSet 2))
  (sSeq (sFor (itRange1 (aCons (eName 1) aNil)) (gSet 3)
  (sSeq (sAsg (eFin (eLc (itAny (eLit (.str "abcdefghijklmnopqrstuvwxyz"))) (gSet 5) (bVal (eBin ninX (eName 5) (eName 2))) (eName 5) [5])) (gSet 4))
  (sExp (eMet tyLst semAppend (eName 2) (aCons (eArgs f__law_of (aCons (eName 0) (aCons (eName 4) aNil))) aNil)))))
  (sRet (eMet tyStr semJoin (eLit (.str "")) (aCons (eFin (eArgs semSorted (aCons (eName 2) aNil))) aNil)))))
noncomputable def f__law_letters : SemL := arity 2 (defS 6 m__law_letters)
def bagD (cs : List Int) (a g s : Int) : MO := .lst [.lst (cs.map .int), .int a, .int g, .int s]
theorem pick_great (cs : List Int) (a g sd : Int) (S : Store) (n : Nat) (many : Int) (hS : S[n]? = some (bagD cs a g sd)) (hb : 0 < g) (hm : 0 < many) (hm2 : many.natAbs.log2 < 9000) :
    (m__law_pick [some (.ptr n), some (.int many), none, none, none] S).out = .ok (.int (g % many)) (S.set n (bagD cs a (g / many) sd)) := by
  unfold bagD at hS ⊢
  have hg : ¬ (g = 0) := by omega
  have hn : n < S.length := (List.getElem?_eq_some_iff.mp hS).1
  simp [m__law_pick, sSeq, sIf, bAnd, bVal, eBin, eName, eLit, ix_ptr hS, atI, ixN, hg, sNil, hb, sAsg, eArgs, aCons, aNil, semInt, modI_int hm, divI_int hm hm2, gSet, gSubX, setD, hS, sRet]
theorem atI_nat {xs : List D} {i : Int} (h0 : 0 ≤ i) (h : i < xs.length) : atI xs i = xs[i.toNat]? := by
  simp [atI, ixN, h0, h]
theorem pick_cell (cs : List Int) (a sd c : Int) (S : Store) (n : Nat) (many : Int) (hS : S[n]? = some (bagD cs a 0 sd)) (ha : 0 ≤ a) (hl : a < cs.length) (hc : cs[a.toNat]? = some c) (hc2 : 1000000000000000000 ≤ c) (hm : 0 < many) (hm2 : many.natAbs.log2 < 9000) :
    (m__law_pick [some (.ptr n), some (.int many), none, none, none] S).out = .ok (.int (c % many)) (S.set n (bagD cs (a + 1) (c / many) sd)) := by
  unfold bagD at hS ⊢
  have hn : n < S.length := (List.getElem?_eq_some_iff.mp hS).1
  have hc0 : 0 < c := by omega
  have hix : ixX (.lst (cs.map .int)) (.int a) S = .ok (.int c) S := by rw [ix_lst, atI_nat ha (by simpa using hl)]; simp [hc]
  have hset : ∀ m m' : MO, (S.set n m).set n m' = S.set n m' := fun m m' => by simp
  have hget : ∀ m : MO, (S.set n m)[n]? = some m := fun m => List.getElem?_set_self hn
  have hpow : powI (.int 10) (.int 18) = fun S => .ok (.int 1000000000000000000) S := by funext S; rfl
  simp [m__law_pick, sSeq, sIf, bAnd, bVal, eBin, eName, eLit, ix_ptr hS, atI, ixN, sNil, sAsg, eArgs, aCons, aNil, semInt, modI_int hm, divI_int hm hm2, gSet, gSubX, setD, hS, sRet, len_lst, hl, hix, ix_ptr (hget _), hget, hpow, hc2, hc0]
theorem log_small {i : Int} (h : i.natAbs < 2 ^ 60) : i.natAbs.log2 < 60 := by
  by_cases h0 : i.natAbs = 0
  · rw [h0]; decide
  · exact (Nat.log2_lt h0).mpr h
theorem mulX_small {i j : Int} (S : Store) (h : i.natAbs < 2 ^ 60) (h2 : j.natAbs < 2 ^ 60) : mulX (.int i) (.int j) S = .ok (.int (i * j)) S := by
  have := log_small h
  have := log_small h2
  exact mulX_int (by omega) S
def mixA (sd c : Int) : Int := (sd * 48817 + c % 2147483399 * 9241 + 17) % 2147483563
def mixB (sd : Int) : Int := (sd * sd + sd * 31013 + 1402361) % 2147483563
def mixD (sd : Int) : Int := sd / 71 + sd % 7907 * 59
theorem mixB_lt (sd : Int) : 0 ≤ mixB sd ∧ mixB sd < 2147483563 := ⟨Int.emod_nonneg _ (by decide), Int.emod_lt_of_pos _ (by decide)⟩
theorem mixA_lt (sd c : Int) : 0 ≤ mixA sd c ∧ mixA sd c < 2147483563 := ⟨Int.emod_nonneg _ (by decide), Int.emod_lt_of_pos _ (by decide)⟩
theorem pick_seed (cs : List Int) (a sd : Int) (S : Store) (n : Nat) (many : Int) (hS : S[n]? = some (bagD cs a 0 sd)) (ha : 0 ≤ a) (hl : ¬ a < cs.length) (h0 : 0 ≤ sd) (h1 : sd < 2147483563) (hm : 0 < many) (hm2 : many.natAbs.log2 < 9000) :
    (m__law_pick [some (.ptr n), some (.int many), none, none, none] S).out = .ok (.int (mixD (mixB sd) % many)) (S.set n (bagD cs a 0 (mixB sd))) := by
  unfold bagD at hS ⊢
  have hn : n < S.length := (List.getElem?_eq_some_iff.mp hS).1
  have hset : ∀ m m' : MO, (S.set n m).set n m' = S.set n m' := fun m m' => by simp
  have hget : ∀ m : MO, (S.set n m)[n]? = some m := fun m => List.getElem?_set_self hn
  have q1 : ∀ S, mulX (.int sd) (.int sd) S = .ok (.int (sd * sd)) S := fun S => mulX_small S (by omega) (by omega)
  have q2 : ∀ S, mulX (.int sd) (.int 31013) S = .ok (.int (sd * 31013)) S := fun S => mulX_small S (by omega) (by decide)
  have z : ∀ x : Int, (x % 7907).natAbs < 2 ^ 60 := fun x => by omega
  have q3 : ∀ S x, mulX (.int (x % 7907)) (.int 59) S = .ok (.int (x % 7907 * 59)) S := fun S x => mulX_small S (z x) (by decide)
  have m1 : ∀ S x, modI (.int x) (.int 2147483563) S = .ok (.int (x % 2147483563)) S := fun S x => modI_int (by decide) S
  have m2 : ∀ S x, modI (.int x) (.int 7907) S = .ok (.int (x % 7907)) S := fun S x => modI_int (by decide) S
  have d1 : ∀ S x, divI (.int x) (.int 71) S = .ok (.int (x / 71)) S := fun S x => divI_int (by decide) (by decide) S
  simp [m__law_pick, sSeq, sIf, bAnd, bVal, eBin, eName, eLit, ix_ptr hS, atI, ixN, sNil, sAsg, eArgs, aCons, aNil, semInt, modI_int hm, gSet, gSubX, setD, hS, sRet, len_lst, hl, ix_ptr (hget _), hget, q1, q2, q3, m1, m2, d1, mixD, mixB]
theorem pick_mix (cs : List Int) (a sd c : Int) (S : Store) (n : Nat) (many : Int) (hS : S[n]? = some (bagD cs a 0 sd)) (ha : 0 ≤ a) (hl : a < cs.length) (hc : cs[a.toNat]? = some c) (hc2 : ¬ 1000000000000000000 ≤ c) (h0 : 0 ≤ sd) (h1 : sd < 2147483563) (hm : 0 < many) (hm2 : many.natAbs.log2 < 9000) :
    (m__law_pick [some (.ptr n), some (.int many), none, none, none] S).out = .ok (.int (mixD (mixB (mixA sd c)) % many)) (S.set n (bagD cs (a + 1) 0 (mixB (mixA sd c)))) := by
  unfold bagD at hS ⊢
  have hn : n < S.length := (List.getElem?_eq_some_iff.mp hS).1
  have hix : ixX (.lst (cs.map .int)) (.int a) S = .ok (.int c) S := by rw [ix_lst, atI_nat ha (by simpa using hl)]; simp [hc]
  have hset : ∀ m m' : MO, (S.set n m).set n m' = S.set n m' := fun m m' => by simp
  have hget : ∀ m : MO, (S.set n m)[n]? = some m := fun m => List.getElem?_set_self hn
  have hpow : powI (.int 10) (.int 18) = fun S => .ok (.int 1000000000000000000) S := by funext S; rfl
  have e := mixA_lt sd c
  have z : ∀ x : Int, (x % 7907).natAbs < 2 ^ 60 := fun x => by omega
  have z2 : ∀ x : Int, (x % 2147483399).natAbs < 2 ^ 60 := fun x => by omega
  have z3 : (mixA sd c).natAbs < 2 ^ 60 := by omega
  have q0 : ∀ S, mulX (.int sd) (.int 48817) S = .ok (.int (sd * 48817)) S := fun S => mulX_small S (by omega) (by decide)
  have q4 : ∀ S x, mulX (.int (x % 2147483399)) (.int 9241) S = .ok (.int (x % 2147483399 * 9241)) S := fun S x => mulX_small S (z2 x) (by decide)
  have q1 : ∀ S, mulX (.int (mixA sd c)) (.int (mixA sd c)) S = .ok (.int (mixA sd c * mixA sd c)) S := fun S => mulX_small S z3 z3
  have q2 : ∀ S, mulX (.int (mixA sd c)) (.int 31013) S = .ok (.int (mixA sd c * 31013)) S := fun S => mulX_small S z3 (by decide)
  have q3 : ∀ S x, mulX (.int (x % 7907)) (.int 59) S = .ok (.int (x % 7907 * 59)) S := fun S x => mulX_small S (z x) (by decide)
  have m1 : ∀ S x, modI (.int x) (.int 2147483563) S = .ok (.int (x % 2147483563)) S := fun S x => modI_int (by decide) S
  have m2 : ∀ S x, modI (.int x) (.int 7907) S = .ok (.int (x % 7907)) S := fun S x => modI_int (by decide) S
  have m3 : ∀ S x, modI (.int x) (.int 2147483399) S = .ok (.int (x % 2147483399)) S := fun S x => modI_int (by decide) S
  have d1 : ∀ S x, divI (.int x) (.int 71) S = .ok (.int (x / 71)) S := fun S x => divI_int (by decide) (by decide) S
  have fA : (sd * 48817 + c % 2147483399 * 9241 + 17) % 2147483563 = mixA sd c := rfl
  have fB : (mixA sd c * mixA sd c + mixA sd c * 31013 + 1402361) % 2147483563 = mixB (mixA sd c) := rfl
  simp [m__law_pick, sSeq, sIf, bAnd, bVal, eBin, eName, eLit, ix_ptr hS, atI, ixN, sNil, sAsg, eArgs, aCons, aNil, semInt, modI_int hm, gSet, gSubX, setD, hS, sRet, len_lst, hl, hix, ix_ptr (hget _), hget, hpow, hc2, q0, q1, q2, q3, q4, m1, m2, m3, d1, fA, fB, mixD]
theorem closed_set {S : Store} {n : Nat} {m : MO} (h : underM S.length m = true) : Closed S (S.set n m) := fun i m' hi e => by
  by_cases q : n = i
  · subst q
    rw [List.getElem?_set_self hi] at e
    cases e
    exact .inr h
  · rw [List.getElem?_set_ne q] at e
    exact .inl e
theorem underL_ints (k : Nat) : ∀ cs : List Int, underL k (cs.map .int) = true
  | [] => rfl
  | c :: cs => by rw [List.map_cons, underL, under, underL_ints k cs]; rfl
theorem under_bag (k : Nat) (cs : List Int) (a g s : Int) : underM k (bagD cs a g s) = true := by
  simp [bagD, underM, underL, under, underL_ints]
theorem fin_set {S : Store} {n : Nat} {m : MO} {d : D} (h : underM S.length m = true) (hd : ∀ g, frzD g d = some d) : fin S (.ok d (S.set n m)) = .ok d (S.set n m) := by
  simp only [fin, if_pos (closed_set h), hd]
  rw [show (S.set n m).take S.length = S.set n m from List.take_of_length_le (by simp)]
/-! ### the bag -/
structure BagAt (S : Store) (n : Nat) (cs : List Int) (a g s : Int) : Prop where
  at_ : S[n]? = some (bagD cs a g s)
  a0 : 0 ≤ a
  g0 : 0 ≤ g
  s0 : 0 ≤ s
  s1 : s < 2147483563
def IsBag (S : Store) (n : Nat) (cs : List Int) : Prop := ∃ a g s, BagAt S n cs a g s
/-- S' is S with another state of the bag -/
def Drawn (n : Nat) (cs : List Int) (S S' : Store) : Prop := IsBag S' n cs ∧ ∃ a g s, S' = S.set n (bagD cs a g s)
section
variable {S S' S'' T : Store} {n : Nat} {cs : List Int}
theorem IsBag.lt (h : IsBag S n cs) : n < S.length := by
  obtain ⟨a, g, s, h⟩ := h
  exact (List.getElem?_eq_some_iff.mp h.at_).1
theorem IsBag.app (h : IsBag S n cs) : IsBag (S ++ T) n cs := by
  obtain ⟨a, g, s, h⟩ := h
  exact ⟨a, g, s, by rw [List.getElem?_append_left (List.getElem?_eq_some_iff.mp h.at_).1]; exact h.at_, h.a0, h.g0, h.s0, h.s1⟩
theorem IsBag.of_app (h : IsBag (S ++ T) n cs) (hn : n < S.length) : IsBag S n cs := by
  obtain ⟨a, g, s, h⟩ := h
  exact ⟨a, g, s, by have := h.at_; rwa [List.getElem?_append_left hn] at this, h.a0, h.g0, h.s0, h.s1⟩
theorem Drawn.refl (h : IsBag S n cs) : Drawn n cs S S := by
  refine ⟨h, ?_⟩
  obtain ⟨a, g, s, h⟩ := h
  refine ⟨a, g, s, ?_⟩
  have := h.at_
  rw [List.getElem?_eq_some_iff] at this
  obtain ⟨hn, e⟩ := this
  rw [← e, List.set_getElem_self]
theorem Drawn.trans (h : Drawn n cs S S') (h' : Drawn n cs S' S'') : Drawn n cs S S'' := by
  obtain ⟨_, a, g, s, e⟩ := h
  obtain ⟨b, a', g', s', e'⟩ := h'
  exact ⟨b, a', g', s', by rw [e', e]; simp⟩
theorem Drawn.len (h : Drawn n cs S S') : S'.length = S.length := by
  obtain ⟨_, a, g, s, e⟩ := h
  rw [e]; simp
theorem Drawn.keep (h : Drawn n cs S S') : Keep S S' := by
  obtain ⟨_, a, g, s, e⟩ := h
  rw [e]
  exact Keep.set (under_bag _ _ _ _ _)
theorem Drawn.get (h : Drawn n cs S S') {i : Nat} (hi : i ≠ n) : S'[i]? = S[i]? := by
  obtain ⟨_, a, g, s, e⟩ := h
  rw [e, List.getElem?_set_ne (Ne.symm hi)]
/-- a draw beneath T -/
theorem Drawn.split (hB : IsBag S n cs) (h : Drawn n cs (S ++ T) S'') : ∃ S', S'' = S' ++ T ∧ Drawn n cs S S' := by
  obtain ⟨b, a, g, s, e⟩ := h
  refine ⟨S.set n (bagD cs a g s), by rw [e, List.set_append_left _ _ hB.lt], ?_, a, g, s, rfl⟩
  rw [e, List.set_append_left _ _ hB.lt] at b
  exact b.of_app (by simpa using hB.lt)
end
/-- h draws: it answers R, and changes the bag alone -/
def DF (n : Nat) (cs : List Int) (h : Store → Out D) (R : D → Prop) : Prop := ∀ S, IsBag S n cs → We (h S) (fun d S' => Drawn n cs S S' ∧ R d) (fun _ _ => False)
section
variable {n : Nat} {cs : List Int} {h : Store → Out D} {R : D → Prop} {S T : Store} {P : D → Store → Prop} {X : D → Store → Prop}
theorem DF.we (H : DF n cs h R) (hB : IsBag S n cs) (k : ∀ d S', R d → Drawn n cs S S' → P d S') : We (h S) P X := (H S hB).mono (fun d S' ⟨h1, h2⟩ => k d S' h2 h1) fun _ _ q => q.elim
theorem DF.app (H : DF n cs h R) (hB : IsBag S n cs) (k : ∀ d S', R d → Drawn n cs S S' → P d (S' ++ T)) : We (h (S ++ T)) P X := (H (S ++ T) hB.app).mono (fun d S'' ⟨h1, h2⟩ => by
  obtain ⟨S', e, h3⟩ := Drawn.split hB h1
  rw [e]
  exact k d S' h2 h3) fun _ _ q => q.elim
theorem DF.imp {R' : D → Prop} (H : DF n cs h R) (k : ∀ d, R d → R' d) : DF n cs h R' := fun S hB => (H S hB).post fun d S' ⟨h1, h2⟩ => ⟨h1, k d h2⟩
theorem fin_drawn {S S1 : Store} {d : D} (h : Drawn n cs S S1) (hd : under S.length d = true) (p : P d S1) : FinP S P d S1 := finP_keep0 h.keep hd p
theorem fin_drawnA {S S1 T : Store} {d : D} (h : Drawn n cs S S1) (hd : under S.length d = true) (p : P d S1) : FinP S P d (S1 ++ T) := finP_app h.keep hd p
theorem fin_drawnL {S S1 : Store} {acc : List D} (h : Drawn n cs S S1) (hu : underL S.length acc = true) (p : P (.lst acc) S1) : FinP S P (.ptr S1.length) (S1 ++ [.lst acc]) := finP_lst h.keep hu p
end
/-! ### draws -/
theorem pick_dfB {n : Nat} {cs : List Int} {many : Int} (hm : 0 < many) (hlog : many.natAbs.log2 < 9000) : DF n cs (f__law_pick [.ptr n, .int many]) (fun d => ∃ k : Nat, (k : Int) < many ∧ d = .int k) := fun S hB => by
  have hB0 := hB
  obtain ⟨a, g, s, hb⟩ := hB
  have hn : n < S.length := (List.getElem?_eq_some_iff.mp hb.at_).1
  have key : ∀ (x a' g' s' : Int), (m__law_pick [some (.ptr n), some (.int many), none, none, none] S).out = .ok (.int (x % many)) (S.set n (bagD cs a' g' s')) → 0 ≤ a' → 0 ≤ g' → 0 ≤ s' → s' < 2147483563 →
      We (f__law_pick [.ptr n, .int many] S) (fun d S' => Drawn n cs S S' ∧ ∃ k : Nat, (k : Int) < many ∧ d = .int k) (fun _ _ => False) := fun x a' g' s' e h1 h2 h3 h4 => by
    have hx := Int.emod_nonneg x (show many ≠ 0 by omega)
    refine we_eq (a := .int (x % many)) (S := S.set n (bagD cs a' g' s')) ?_ ⟨⟨⟨a', g', s', List.getElem?_set_self hn, h1, h2, h3, h4⟩, a', g', s', rfl⟩, (x % many).toNat, by rw [Int.toNat_of_nonneg hx]; exact Int.emod_lt_of_pos _ hm, by rw [Int.toNat_of_nonneg hx]⟩
    show fin S (m__law_pick [some (.ptr n), some (.int many), none, none, none] S).out = _
    rw [e]
    exact fin_set (under_bag _ _ _ _ _) fun g => by simp [frzD]
  by_cases hg : 0 < g
  · exact key g a (g / many) s (pick_great cs a g s S n many hb.at_ hg hm hlog) hb.a0 (Int.ediv_nonneg hb.g0 (by omega)) hb.s0 hb.s1
  · have hg0 : g = 0 := by have := hb.g0; omega
    have hat := hb.at_
    rw [hg0] at hat
    by_cases hl : a < cs.length
    · have ha := hb.a0
      obtain ⟨c, hc⟩ : ∃ c, cs[a.toNat]? = some c := ⟨cs[a.toNat]'(by omega), by simp⟩
      by_cases h18 : 1000000000000000000 ≤ c
      · exact key c (a + 1) (c / many) s (pick_cell cs a s c S n many hat ha hl hc h18 hm hlog) (by omega) (Int.ediv_nonneg (by omega) (by omega)) hb.s0 hb.s1
      · exact key _ (a + 1) 0 _ (pick_mix cs a s c S n many hat ha hl hc h18 hb.s0 hb.s1 hm hlog) (by omega) (by omega) (mixB_lt _).1 (mixB_lt _).2
    · exact key _ a 0 _ (pick_seed cs a s S n many hat hb.a0 hl hb.s0 hb.s1 hm hlog) hb.a0 (by omega) (mixB_lt _).1 (mixB_lt _).2
theorem pick_df {n : Nat} {cs : List Int} {many : Int} (hm : 0 < many) (hm2 : many < 1000000) : DF n cs (f__law_pick [.ptr n, .int many]) (fun d => ∃ k : Nat, (k : Int) < many ∧ d = .int k) :=
  pick_dfB hm (by
    have := log_small (i := many) (by omega)
    omega)
theorem we_def {N n : Nat} {body : SX} {ds : List D} {S : Store} {P X : D → Store → Prop} (hl : ds.length = n) (h : Wo (body (ds.map some ++ List.replicate (N - ds.length) none) S) (QF S P X)) : We (arity n (defS N body) ds S) P X := by
  rw [w_arity hl, we_defS]
  exact h
theorem we_defO {N n : Nat} {body : SX} {ds : List D} {S : Store} {P X : D → Store → Prop} (hl : ds.length = n) (h : Wo (body (ds.map some ++ List.replicate (N - ds.length) none) S) ⟨fun _ S' => P .non S', fun _ _ => False, fun _ _ => False, P, fun e _ S' => X e S'⟩) : We (arity n (defH N body) ds S) P X := by
  rw [w_arity hl, we_defH]
  exact h
theorem bag_start {P X : D → Store → Prop} (ns : List Int) (p : P (.ptr 0) [bagD (ns.take 63) 0 0 5625]) : We (f__law_bag [.scr ns] []) P X := by
  unfold f__law_bag
  refine we_defO rfl ?_
  simp [m__law_bag, ← List.map_take]
  exact p
theorem bag_is (ns : List Int) : IsBag [bagD (ns.take 63) 0 0 5625] 0 (ns.take 63) := ⟨0, 0, 5625, rfl, by decide, by decide, by decide, by decide⟩
/-- .. with tables below -/
theorem bag_startT {P X : D → Store → Prop} (ns : List Int) (T : Store) (p : P (.ptr T.length) (T ++ [bagD (ns.take 63) 0 0 5625])) : We (f__law_bag [.scr ns] T) P X := by
  unfold f__law_bag
  refine we_defO rfl ?_
  simp [m__law_bag, ← List.map_take]
  exact p
theorem bag_isT (ns : List Int) (T : Store) : IsBag (T ++ [bagD (ns.take 63) 0 0 5625]) T.length (ns.take 63) := ⟨0, 0, 5625, by simp, by decide, by decide, by decide, by decide⟩
/-- one of some -/
theorem of_df {n : Nat} {cs : List Int} {xs : List D} (hx : xs ≠ []) (hl : xs.length < 1000000) (hu : underL 0 xs = true) : DF n cs (f__law_of [.ptr n, .lst xs]) (fun d => d ∈ xs) := fun S hB => by
  have h0 : 0 < xs.length := List.length_pos_iff.mpr hx
  unfold f__law_of
  refine we_def rfl ?_
  simp [m__law_of]
  refine (pick_df (by omega) (by omega)).we hB fun d S' ⟨k, hk, e⟩ hD => ?_
  subst e
  have hk' : k < xs.length := by omega
  simp [hk']
  exact fin_drawn hD (under_of (underL_iff.mp hu _ (List.getElem_mem _))) ⟨hD, List.getElem_mem _⟩
/-- one sign of a text -/
theorem ofS_df {n : Nat} {cs : List Int} {l : List Nat} (hx : l ≠ []) (hl : l.length < 1000000) : DF n cs (f__law_of [.ptr n, .str (tx l)]) (fun d => ∃ c ∈ l, d = sg c) := fun S hB => by
  have h0 : 0 < l.length := List.length_pos_iff.mpr hx
  unfold f__law_of
  refine we_def rfl ?_
  simp [m__law_of]
  refine ⟨by omega, ?_⟩
  refine (pick_df (by omega) (by omega)).we hB fun d S' ⟨k, hk, e⟩ hD => ?_
  subst e
  have hk' : k < l.length := by omega
  simp [hk']
  exact ⟨by omega, fin_drawn hD (by simp) ⟨hD, _, List.getElem_mem _, rfl⟩⟩

/-- a comprehension that draws, every item stays: as a handle -/
theorem we_lc_drawH {n : Nat} {cs : List Int} {S S0 : Store} {sl : Sl} {it : IX} {G : Store → Prop} {g : GX} {fe : EX} {own : List Nat} {P X : D → Store → Prop} {xs : List D} (hB : IsBag S0 n cs) (hit : it sl S = .ok (xs, G) S0) (hl : xs.length ≤ 1000000) (hG : ∀ S' T, Drawn n cs S0 S' → G (S' ++ T)) (E : D → D → Prop)
    (step : ∀ x ∈ xs, ∀ S' acc, Drawn n cs S0 S' → Wo (g x (wipeS sl own) (S' ++ [.lst acc])) ⟨fun sl1 S1 => We (fe sl1 S1) (fun d S3 => ∃ S4, S3 = S4 ++ [.lst acc] ∧ Drawn n cs S' S4 ∧ E x d) (fun _ _ => False), fun _ _ => False, fun _ _ => False, fun _ _ => False, fun _ _ _ => False⟩)
    (hend : ∀ ys S', ys.length = xs.length → (∀ y ∈ ys, ∃ x ∈ xs, E x y) → Drawn n cs S0 S' → P (.ptr S'.length) (S' ++ [.lst ys])) : We (eLc it g bTrue fe own sl S) P X := by
  refine we_lc hit hl (fun pre acc S1 => Drawn n cs S0 S1 ∧ acc.length = pre.length ∧ ∀ y ∈ acc, ∃ x ∈ xs, E x y) (fun p acc S1 h => ⟨h.1.len, by omega⟩) ⟨Drawn.refl hB, rfl, by simp⟩ (fun p x post acc S1 he h => ⟨hG _ _ h.1, ?_⟩) fun acc S1 h => ⟨hG _ _ h.1, hend acc S1 h.2.1 h.2.2 h.1⟩
  have hx : x ∈ xs := by rw [he]; simp
  refine (step x hx S1 acc h.1).mono (fun sl1 S2 h2 => ?_) (fun _ _ h => h) (fun _ _ h => h) (fun _ _ h => h) (fun _ _ _ h => h)
  simp only [bTrue, we_ok, if_true]
  refine h2.post fun d S3 ⟨S4, e, hD, hd⟩ => ⟨S4, e, h.1.trans hD, by simp [h.2.1], fun y hy => ?_⟩
  rcases List.mem_append.mp hy with hy | hy
  · exact h.2.2 y hy
  · rw [List.mem_singleton.mp hy]; exact ⟨x, hx, hd⟩
/-- .. as a value -/
theorem we_lc_draw {n : Nat} {cs : List Int} {S S0 : Store} {sl : Sl} {it : IX} {G : Store → Prop} {g : GX} {fe : EX} {own : List Nat} {P X : D → Store → Prop} {xs : List D} (hD0 : Drawn n cs S S0) (hit : it sl S = .ok (xs, G) S0) (hl : xs.length ≤ 1000000) (hG : ∀ S' T, Drawn n cs S0 S' → G (S' ++ T)) (E : D → D → Prop)
    (step : ∀ x ∈ xs, ∀ S' acc, Drawn n cs S0 S' → Wo (g x (wipeS sl own) (S' ++ [.lst acc])) ⟨fun sl1 S1 => We (fe sl1 S1) (fun d S3 => ∃ S4, S3 = S4 ++ [.lst acc] ∧ Drawn n cs S' S4 ∧ E x d) (fun _ _ => False), fun _ _ => False, fun _ _ => False, fun _ _ => False, fun _ _ _ => False⟩)
    (hu : ∀ x d, E x d → under 0 d = true) (hend : ∀ ys S', ys.length = xs.length → (∀ y ∈ ys, ∃ x ∈ xs, E x y) → Drawn n cs S0 S' → P (.lst ys) S') : We (eLc it g bTrue fe own sl S) (FinP S P) X := by
  refine we_lc_drawH hD0.1 hit hl hG E step fun ys S' h1 h2 h3 => finP_lst (hD0.trans h3).keep (underL_of ?_) (hend ys S' h1 h2 h3)
  rw [underL_iff]
  exact fun d hd => let ⟨x, _, h⟩ := h2 d hd; hu x d h
/-! ### letters -/
def abc : List Nat := List.range' 97 26
@[simp] theorem lit_abc : (("abcdefghijklmnopqrstuvwxyz" : Str)) = tx abc := by decide +kernel
@[simp] theorem lit_empty : (("" : Str)) = tx [] := by decide +kernel
theorem mem_abc {c : Nat} : c ∈ abc ↔ 97 ≤ c ∧ c ≤ 122 := by
  unfold abc
  rw [List.mem_range'_1]
  omega
theorem abc_nodup : abc.Nodup := by decide
/-- small letters, each above the one before -/
structure Alpha (l : List Nat) : Prop where
  asc : l.Pairwise (· < ·)
  low : ∀ c ∈ l, c ∈ abc
theorem sort_asc {l : List Nat} (h : l.Nodup) : (l.mergeSort fun a b => decide (a ≤ b)).Pairwise (· < ·) := by
  have h1 : (l.mergeSort fun a b => decide (a ≤ b)).Pairwise (fun a b => decide (a ≤ b) = true) := List.pairwise_mergeSort (fun a b c h1 h2 => by simp at *; omega) (fun a b => by simp; omega) l
  have h2 : (l.mergeSort fun a b => decide (a ≤ b)).Nodup := (List.mergeSort_perm l _).nodup_iff.mpr h
  refine (h1.and h2).imp fun {a b} ⟨h3, h4⟩ => ?_
  have := of_decide_eq_true h3
  omega
theorem length_le_of {l m : List Nat} (h : l.Nodup) (hs : ∀ c ∈ l, c ∈ m) : l.length ≤ m.length := by
  induction l generalizing m with
  | nil => simp
  | cons a l ih =>
    have ha : a ∈ m := hs a (by simp)
    rw [List.nodup_cons] at h
    have := ih (m := m.erase a) h.2 fun c hc => by
      rw [List.mem_erase_of_ne (by rintro rfl; exact h.1 hc)]
      exact hs c (by simp [hc])
    rw [List.length_erase_of_mem ha] at this
    have := List.length_pos_of_mem ha
    simp only [List.length_cons]
    omega
theorem tyLst_at {S : Store} {n : Nat} {xs : List D} (h : S[n]? = some (.lst xs)) : tyLst S (.ptr n) = true := by simp [tyLst, asL, h]
theorem set_last {S : Store} {n : Nat} {a b : MO} (h : S.length = n) : (S ++ [a]).set n b = S ++ [b] := by
  subst h
  rw [List.set_append_right _ _ (Nat.le_refl _)]
  simp
theorem get_last {S : Store} {n : Nat} {a : MO} (h : S.length = n) : (S ++ [a])[n]? = some a := by
  subst h
  simp
theorem filter_sgs (p : Nat → Bool) (q : D → Bool) (h : ∀ c, q (sg c) = p c) (l : List Nat) : (l.map sg).filter q = (l.filter p).map sg := by
  induction l with
  | nil => rfl
  | cons c l ih =>
    rw [List.map_cons, List.filter_cons, List.filter_cons, h, ih]
    split <;> simp
theorem letters_df {n : Nat} {cs : List Int} {many : Nat} (hm : many ≤ 20) : DF n cs (f__law_letters [.ptr n, .int many]) (fun d => ∃ l, d = .str (tx l) ∧ l.length = many ∧ Alpha l) := fun S hB => by
  unfold f__law_letters
  refine we_def rfl ?_
  simp [m__law_letters]
  refine wo_for (itRange1_of (j := many) (eName_of rfl) (by omega) (by omega)) (fun pre sl S1 => ∃ x3 x4 x5 acc S0, sl = [some (.ptr n), some (.int many), some (.ptr S.length), x3, x4, x5] ∧ S1 = S0 ++ [.lst (acc.map sg)] ∧ Drawn n cs S S0 ∧ acc.length = pre.length ∧ acc.Nodup ∧ ∀ c ∈ acc, c ∈ abc) ⟨_, _, _, [], S, rfl, rfl, Drawn.refl hB, rfl, List.nodup_nil, by simp⟩ ?_ ?_
  · rintro p x post sl S1 he ⟨x3, x4, x5, acc, S0, rfl, rfl, hD, hl, hn, ha⟩
    have hlen := congrArg List.length he
    simp [rangeD] at hlen
    refine ⟨trivial, ?_⟩
    simp
    refine we_lcF_pure (xs := abc.map sg) (fun d => !inD d (acc.map sg)) id (itAny_of rfl (by simp)) (by simp [abc]) (fun _ => rfl) (fun x hx T => ?_) (fun x hx _ => ?_) ?_
    · obtain ⟨c, hc, rfl⟩ := List.mem_map.mp hx
      simp [wipeS]
      rw [ninX_sq (xs := acc.map sg) (asS_ptr (by rw [← hD.len]; simp)) rfl (by simp)]
      simp
    · obtain ⟨c, hc, rfl⟩ := List.mem_map.mp hx
      simp
    · have hS0 : (S0 ++ [MO.lst (acc.map sg)])[S.length]? = some (.lst (acc.map sg)) := get_last hD.len
      refine ⟨tyLst_at hS0, ?_⟩
      rw [List.map_id, filter_sgs (fun c => !decide (c ∈ acc)) _ (fun c => by simp)]
      have hne : ∃ c, c ∈ abc ∧ c ∉ acc := by
        refine Classical.byContradiction fun hc => ?_
        have h1 : abc.length ≤ acc.length := length_le_of abc_nodup fun c h => Classical.byContradiction fun h' => hc ⟨c, h, h'⟩
        have h2 : abc.length = 26 := by simp [abc]
        omega
      obtain ⟨c0, hc0, hc1⟩ := hne
      have hll : (abc.filter (fun c => !decide (c ∈ acc))).length ≤ 26 := Nat.le_trans (List.length_filter_le _ _) (by simp [abc])
      refine (of_df (by
        have : c0 ∈ abc.filter (fun c => !decide (c ∈ acc)) := by simp [hc0, hc1]
        intro h
        rw [List.map_eq_nil_iff] at h
        rw [h] at this; cases this) (by simp; omega) (by simp)).app hD.1 fun d S' hd hD' => ?_
      obtain ⟨c, hc, rfl⟩ := List.mem_map.mp hd
      simp at hc
      rw [append_at (xs := acc.map sg) (get_last (hD'.len.trans hD.len)) (by simp; omega)]
      simp
      refine ⟨acc ++ [c], S', by rw [set_last (hD'.len.trans hD.len)]; simp, hD.trans hD', by simp [hl], List.nodup_append.mpr ⟨hn, by simp, by rintro a h b hb rfl; simp at hb; subst hb; exact hc.2 h⟩, fun x hx => ?_⟩
      simp at hx
      rcases hx with hx | rfl
      · exact ha x hx
      · exact hc.1
  · rintro sl S1 ⟨x3, x4, x5, acc, S0, rfl, rfl, hD, hl, hn, ha⟩
    simp [rangeD] at hl
    refine ⟨trivial, ?_⟩
    simp [tyStr]
    refine w_sortedF (l := acc) (by omega) (asL_ptr (get_last hD.len)) ?_
    rw [w_joinSg (l := acc.mergeSort fun a b => decide (a ≤ b)) rfl]
    refine ⟨by simp; omega, fin_drawnA hD (by simp) ⟨hD, _, rfl, by simp; omega, sort_asc hn, fun c hc => ha c (by simpa using hc)⟩⟩

/-! ### sameness -/
mutual
/-- plain data of a depth at most k -/
def plain : Nat → D → Prop
  | _, .non => True
  | _, .bl _ => True
  | _, .int _ => True
  | _, .str s => okS s.cps.toList
  | k + 1, .tup xs => plainL k xs ∧ xs.length ≤ 1000000
  | k + 1, .lst xs => plainL k xs ∧ xs.length ≤ 1000000
  | _, _ => False
def plainL : Nat → List D → Prop
  | _, [] => True
  | k, d :: ds => plain k d ∧ plainL k ds
end
theorem plainL_iff {k : Nat} : ∀ {xs : List D}, plainL k xs ↔ ∀ x ∈ xs, plain k x
  | [] => by simp [plainL]
  | x :: xs => by simp [plainL, plainL_iff (xs := xs)]
@[simp] theorem plain_non {k : Nat} : plain k .non := by cases k <;> simp [plain]
@[simp] theorem plain_bl {k : Nat} {b : Bool} : plain k (.bl b) := by cases k <;> simp [plain]
@[simp] theorem plain_int {k : Nat} {b : Int} : plain k (.int b) := by cases k <;> simp [plain]
@[simp] theorem plain_str {k : Nat} {l : List Nat} : plain k (.str (tx l)) = okS l := by cases k <;> simp [plain]
theorem eq_of_we {α : Type} {o : Out α} {a : α} {S : Store} (h : We o (fun r S' => r = a ∧ S' = S) (fun _ _ => False)) : o = .ok a S := by
  obtain ⟨r, S', e, h1, h2⟩ := h.get
  rw [e, h1, h2]
theorem sameR_zero (k : Nat) (d : D) (S : Store) (h : plain 0 d) : f__law_sameR (k + 1) [d, d] S = .ok (.bl true) S := by
  refine eq_of_we ?_
  unfold f__law_sameR
  refine we_def rfl ?_
  cases d with
  | non => simp [m__law_same]
  | bl b => simp [m__law_same]
  | int i => simp [m__law_same]
  | str s =>
    rw [← tx_eta s] at h ⊢
    rw [plain_str] at h
    simp [m__law_same, eqD_str h h]
  | _ => simp [plain] at h
theorem same_refl : ∀ (k : Nat) (d : D) (S : Store), plain k d → f__law_sameR (k + 1) [d, d] S = .ok (.bl true) S := fun k => by
  induction k with
  | zero =>
    intro d S h
    exact sameR_zero 0 d S h
  | succ k ih =>
    intro d S h
    have seq : ∀ xs : List D, plainL k xs → xs.length ≤ 1000000 → ∀ d, d = .tup xs ∨ d = .lst xs → f__law_sameR (k + 1 + 1) [d, d] S = .ok (.bl true) S := fun xs hx hl d hd => by
      refine eq_of_we ?_
      rw [f__law_sameR]
      refine we_def rfl ?_
      have hz : (zipD xs xs) = xs.map fun x => .tup [x, x] := by
        unfold zipD
        rw [List.zipWith_self]
      have key : ∀ {P X X' : D → Store → Prop} {sl : Sl} {d : D}, P (.bl true) S → eName 0 sl S = .ok d S → eName 1 sl S = .ok d S → srcD S d = some xs → (∀ T, srcD (S ++ T) d = some xs) → sl.length = 4 →
          We (eLc (itZip (aCons (eName 0) (aCons (eName 1) aNil))) (gTupX (gConsX (gSet 2) (gConsX (gSet 3) gNilX))) bTrue (eArgs (f__law_sameR (k + 1)) (aCons (eName 2) (aCons (eName 3) aNil))) [2, 3] sl S) (FinP S fun d' S1 => We (semAll [d'] S1) P X) X' := fun {P X X' sl d} hP h1 h2 h3 h4 h5 => by
        have hit := itZip_of h1 h2 h3 h3
        rw [hz] at hit
        refine we_lcF_pure (xs := xs.map fun x => .tup [x, x]) (fun _ => true) (fun _ => .bl true) hit (by simpa using hl) (fun acc => ⟨h4 _, h4 _⟩) (fun x hx' T => ?_) (fun x hx _ => ?_) ?_
        · obtain ⟨y, hy, rfl⟩ := List.mem_map.mp hx'
          match sl, h5 with
          | [a, b, c, e], _ =>
            simp [wipeS, bTrue]
            rw [ih y _ (plainL_iff.mp hx y hy)]
            simp
        · simp
        · rw [all_const, we_ok]
          exact hP
      rcases hd with rfl | rfl
      · simp [m__law_same]
        refine key (d := .tup xs) ?_ ?_ ?_ ?_ ?_ ?_
        · simp
        · rfl
        · rfl
        · rfl
        · intro T; rfl
        · rfl
      · simp [m__law_same]
        refine key (d := .lst xs) ?_ ?_ ?_ ?_ ?_ ?_
        · simp
        · rfl
        · rfl
        · rfl
        · intro T; rfl
        · rfl
    cases d with
    | tup xs => rw [plain] at h; exact seq xs h.1 h.2 _ (.inl rfl)
    | lst xs => rw [plain] at h; exact seq xs h.1 h.2 _ (.inr rfl)
    | non => exact sameR_zero _ _ S plain_non
    | bl b => exact sameR_zero _ _ S plain_bl
    | int i => exact sameR_zero _ _ S plain_int
    | str s =>
      refine sameR_zero _ _ S ?_
      rw [← tx_eta s] at h ⊢
      rw [plain_str] at h ⊢
      exact h
    | _ => simp [plain] at h
end Z
/-! ZX0: an own exception whose __init__ says super().__init__(..), over the heap alone. -/
namespace ZX
open PySem PySem.W PySem.Calls PyProof.Rows PySem.Spec

/-- a def that closes over __class__, D its class -/
structure SupFn (prog : Program) (K : Frag) (f D : Addr) (qual : Str) (params : Arguments) (body : List Stmt) (scope : Scope) : Prop where
  ex : ∃ (oc : Value) (od : Option Addr) (name : Str) (kV doc pm : Value) (an : Option Addr) (cda cc : Addr) (ct : Value) (osl : Array (Option Value)),
     K.lookup f = some ⟨oc, od, .func (ksFn name qual params body scope .none kV doc pm an (.ref cda) ct cc), osl⟩ ∧ codeIn K (.ref cda) qual = true ∧
     (∃ ccl cdd ccs vs file tf, K.lookup cda = some ⟨ccl, cdd, .fields vs, ccs⟩ ∧ vs[2]? = some (.str file tf) ∧ ((prog.main.file : Str) == file) = true) ∧
     (∃ cl cld csl, K.lookup cc = some ⟨cl, cld, .cell (some (.ref D)), csl⟩)
  cls : ∃ cdD, clsIn K D = some cdD
  fn : (K.lookup f).map (·.cls) = some (.type "function")
/-- what all of it asks of the module -/
structure SupM (prog : Program) (K : Frag) (mg : Str → Option Value) (base : Heap) : Prop where
  mod : L2.Mod K mg base
  ms : mg "super" = none
  top : (prog.main.scope.names.lookup ("super" : Str)).isSome = false
  tp : nsIn K cStatics "thirdparty.any" = some none
/-- the scope of such a def -/
structure SupS (scope : Scope) (slf : Str) : Prop where
  ks : scope.names.lookup ("super" : Str) = some .globalImplicit
  kc : scope.names.lookup ("__class__" : Str) = some .free
  ka : scope.names.lookup slf = some .local
  kind : scope.kind = .function
  co : scope.isCoroutine = false
  gen : scope.isGenerator = false
  cell : ∀ x ∈ scope.names, x.2 ≠ .cell

section
variable {prog : Program} {w : World} {A : Around} {E : Value → Shared → Prop} {s : Shared} {K : Frag} {mg : Str → Option Value} {base : Heap} {L x C D f cc cda : Addr} {m : Str → Option Value} {ox : Obj} {odx : Option Obj} {slf : Str}
theorem node {body : List Stmt} {q : Str} {scope : Scope} {p0 p1 : Pos} {whole : Sem Value} {fd : FuncData} {ar : Arg} {vs : Array Value} {file : Str} {tf : Tok} {oc ccl cl : Value} {od cdd cld : Option Addr} {osl ccs csl : Array (Option Value)} {cdD : ClassData} {Q : Value → Shared → Prop}
    (M : SupM prog K mg base) (S : SupS scope ar.arg) (bk : ∀ b o, base.get? b = some o → s.heap.get? b = some o) (hn : s.heap.Ns L m)
    (hf : K.lookup f = some ⟨oc, od, .func fd, osl⟩) (hp : (fd.params.posonlyargs ++ fd.params.args).head? = some ar) (hv : m ar.arg = some (.ref x)) (I : InstAt s.heap x ox C odx)
    (hcode : K.lookup cda = some ⟨ccl, cdd, .fields vs, ccs⟩) (hvs : vs[2]? = some (.str file tf)) (hfile : ((prog.main.file : Str) == file) = true)
    (hcell : K.lookup cc = some ⟨cl, cld, .cell (some (.ref D)), csl⟩) (hD : clsIn K D = some cdD) (hsub : mroIn K C (.ref D) = some true)
    (h : ∀ h', h'.get? s.heap.objs.size = some (ks_superObj D x C) → (∀ b o, s.heap.get? b = some o → h'.get? b = some o) → Q (.ref s.heap.objs.size) { s with heap := h' }) :
    _root_.PySem.wpAt (model prog w) A (.func body (ksEnv q scope L f (.ref cda) cc)) (attributeBase (.Call (.Name "super" p0) [] [] p1) "__init__" (ksEnv q scope L f (.ref cda) cc) whole) Q E s := by
  have X : K.In s.heap := M.mod.kin.keeps bk
  obtain ⟨hh, g, d, t, os⟩ := s
  obtain ⟨oD, hD1, hD2⟩ : ∃ oD, hh.get? D = some oD ∧ oD.data = .cls cdD := by
    unfold clsIn at hD
    split at hD
    · rename_i c d cd' sl ho
      cases hD
      exact ⟨_, X _ _ ho, rfl⟩
    · cases hD
  obtain ⟨mb, hb1, hb2⟩ := M.mod.blt
  refine ks_wpAt_super_base (env := ksEnv q scope L f (.ref cda) cc) S.ks S.kc (by decide) rfl (X _ _ hf) rfl hp rfl (X _ _ hcode) rfl hvs hfile M.top ?_
  refine ks_loadName_global S.kind S.ks (loadGlobal_builtin (env := ksEnv q scope L f (.ref cda) cc) (M.mod.glob.keeps bk) M.ms (hb1.keeps bk) ((hb2 _ (by decide +kernel)).trans PyProof.Rows.Boot.«super») ⟨rfl, ?_⟩)
  refine wpAny_loadName_free S.kind S.kc rfl ⟨_, X _ _ hcell, rfl⟩ ?_
  refine wpAny_loadName_local S.kind S.ka hn hv ?_
  refine ks_wpAny_isType_cls hD1 hD2 ⟨rfl, ?_⟩
  refine ks_wpAny_call_super hD1 hD2 I.at_ I.cls (fun c e => ?_) (looks_mroIn X hsub) (fun h' e k => ?_)
  · have := I.no
    unfold notCls at this
    rw [e] at this
    exact Bool.noConfusion this
  · exact h _ e k
end

section
variable {prog : Program} {w : World} {A : Around} {E : Value → Shared → Prop} {s : Shared} {K : Frag} {mg : Str → Option Value} {base : Heap} {L x C D f : Addr} {m : Str → Option Value} {B i newId : String} {bmB : List Value}
/-- what the class of the exception says -/
structure ExC (K : Frag) (C : Addr) (bmB : List Value) (newId : String) : Prop where
  mkc : excInitIn K C bmB newId = true
  ov : excOver K C bmB = true
  cls : (clsIn K C).isSome = true
  sa : findIn K (.ref C) "__setattr__" = some (some (.builtin "object.__setattr__"))
abbrev exd (C t : Addr) (dd : Option Addr) : Obj := excObj C t dd .none
theorem inst_exc {h : Heap} {t : Addr} {dd : Option Addr} {od : Obj} (hx : h.get? x = some (exd C t dd)) (hd : ∀ d, dd = some d → h.get? d = some od) : InstAt h x (exd C t dd) C (match dd with | none => none | some _ => some od) := by
  refine ⟨hx, rfl, rfl, ?_⟩
  cases dd with
  | none => trivial
  | some d => exact hd d rfl

/-- super().__init__(e) where the next class is built in: the args are laid anew -/
theorem sup_bi {body : List Stmt} {q : Str} {scope : Scope} {p0 p1 p2 p4 p5 : Pos} {fd : FuncData} {ar : Arg} {cc cda : Addr} {vs : Array Value} {file : Str} {tf : Tok} {oc ccl cl : Value} {od cdd cld : Option Addr} {osl ccs csl : Array (Option Value)} {cdD : ClassData} {Q : Flow → Shared → Prop} {e : Expr} {Rv : Value → Prop} {t : Addr} {pl : Sem Bool}
    (KF : KxsFacts B i) (FB : ExcBaseFacts B newId i bmB) (M : SupM prog K mg base) (S : SupS scope ar.arg) (T : ExC K C bmB newId) (bk : ∀ b o, base.get? b = some o → s.heap.get? b = some o) (hn : s.heap.Ns L m)
    (hf : K.lookup f = some ⟨oc, od, .func fd, osl⟩) (hp : (fd.params.posonlyargs ++ fd.params.args).head? = some ar) (hv : m ar.arg = some (.ref x)) (hx : s.heap.get? x = some (exd C t none))
    (hcode : K.lookup cda = some ⟨ccl, cdd, .fields vs, ccs⟩) (hvs : vs[2]? = some (.str file tf)) (hfile : ((prog.main.file : Str) == file) = true)
    (hcell : K.lookup cc = some ⟨cl, cld, .cell (some (.ref D)), csl⟩) (hD : clsIn K D = some cdD) (hsub : mroIn K C (.ref D) = some true)
    (hm : ks_superIn K C D "__init__" = some (some (.builtin i))) (hB : subIn K (.ref C) (.type B) = some true)
    (he : ∀ (s1 : Shared) (Q1 : Value → Shared → Prop), s1.heap.Ns L m → (∀ v tk, Rv v → Q1 v { s1 with toks := tk }) → wpAny (model prog w) A (eval e (ksEnv q scope L f (.ref cda) cc)) Q1 E s1)
    (h : ∀ h' t' tk, (∀ b o, b ≠ x → s.heap.get? b = some o → h'.get? b = some o) → h'.get? x = some (exd C t' none) → Q .next { s with heap := h', toks := tk })
    (hs : swapsWith (.Call (.Attribute (.Call (.Name "super" p0) [] [] p1) "__init__" p2) [e] [] p4) none p5.line (ksEnv q scope L f (.ref cda) cc) = pure false)
    (hev : eval (.Call (.Attribute (.Call (.Name "super" p0) [] [] p1) "__init__" p2) [e] [] p4) (ksEnv q scope L f (.ref cda) cc) = (do
      let ov ← attributeBase (.Call (.Name "super" p0) [] [] p1) "__init__" (ksEnv q scope L f (.ref cda) cc) (eval (.Call (.Name "super" p0) [] [] p1) (ksEnv q scope L f (.ref cda) cc))
      standAt p2.atName
      let (g, first) ← holding [ov] (getMethod ov "__init__" pl)
      callWith p4 g first (backTo p4 (starEach [e] (ksEnv q scope L f (.ref cda) cc))) []))
    (hst : starEach [e] (ksEnv q scope L f (.ref cda) cc) = [(false, eval e (ksEnv q scope L f (.ref cda) cc))]) :
    _root_.PySem.wpAt (model prog w) A (.func body (ksEnv q scope L f (.ref cda) cc)) (exec (.Expr (.Call (.Attribute (.Call (.Name "super" p0) [] [] p1) "__init__" p2) [e] [] p4) p5) (ksEnv q scope L f (.ref cda) cc)) Q E s := by
  have X : K.In s.heap := M.mod.kin.keeps bk
  obtain ⟨cdC, hcC⟩ := Option.isSome_iff_exists.mp T.cls
  refine ks_wpAt_Expr_any ?_ (by unfold interactive; rw [show (ksEnv q scope L f (.ref cda) cc).scope.kind = .function from S.kind]; rfl) hs
  refine ks_wpAt_MethodCall ?_ hev
  refine node M S bk hn hf hp hv (inst_exc (od := default) hx (fun d z => by cases z)) hcode hvs hfile hcell hD hsub (fun h1 hso k1 => ?_)
  have hx1 := k1 _ _ hx
  have X1 : K.In h1 := X.keeps k1
  have I1 : InstAt h1 x (exd C t none) C none := inst_exc (od := default) hx1 (fun d z => by cases z)
  unfold ks_superIn at hm
  rw [hcC] at hm
  obtain ⟨hh, g, d, tk, os⟩ := s
  refine kxs_getMethod KF hso (looks_opaque X1 M.tp) (l₀ := cdC.mro) (fun A Q E s k q => wpAny_bind ((looks_clsIn X1 hcC) A _ E s k (wpAny_pure q))) rfl X1 hm (I1.type.andThen (looks_subIn X1 hB)) (ks_ne X1 I1 hcC) (by decide) ?_
  have k2 : ∀ b o, hh.get? b = some o → (h1.push (kxs_mw i x)).get? b = some o := fun b o e => Heap.get?_push_of_some _ (k1 b o e)
  have hw : (h1.push (kxs_mw i x)).get? h1.objs.size = some (kxs_mw i x) := Heap.get?_push_at rfl rfl
  have hn2 : (h1.push (kxs_mw i x)).Ns L m := by
    obtain ⟨oL, es, ep, hL, r⟩ := hn
    exact ⟨oL, es, ep, k2 _ _ hL, r⟩
  refine kxs_callWith (i := i) (x := x) (by rw [hst]; rfl) ?_
  rw [hst]
  refine evalArgs_plain (spliced_cons (he _ _ hn2 fun v tk2 rv => ?_))
  refine spliced_nil ⟨hw, ?_⟩
  have hx2 := k2 _ _ hx
  obtain ⟨nm, N', qn, bs, bm, hdct, sn, sub, ab, col, dd, k0, k1', k2', k3, k5, hC, hT⟩ := excInit_of (X.keeps k2) T.mkc
  refine wpAny_call (codeAny_of_tree ?_)
  show wpAny _ A.in1 (callAny (.ref _) ⟨[v], []⟩) _ _ _
  simp only [callAny]
  refine wpAny_bind (wpAny_load hw ?_)
  simp only [kxs_mw, show (Value.type "method-wrapper" == Value.type "method" || Value.type "method-wrapper" == Value.type "builtin_function_or_method" || Value.type "method-wrapper" == Value.type "method-wrapper") = true by decide, if_true]
  refine KFB.if_so (by decide) ?_
  refine wpAny_bind (check_bound_init FB.toExcCallFacts hC hx2 rfl ?_)
  refine wpAny_bind (wpAny_pure (wpAny_pure ?_))
  refine ⟨plainId_quiet FB.init.plain _, codeAny_builtin FB.initEntry ?_⟩
  refine exc_init_tree (cls := .ref C) (t0 := t) (dv := none) (c2 := .none) (c3 := .none) (b4 := .bool false) hx2 (by show 1 ≤ sizeLine; rw [sizeLine_eq]; omega) fun h' k e' t' => ?_
  exact h h' _ _ (fun b o hb e => k b o hb (k2 b o e)) e'
/-- super().__init__(e) where the next class has its own __init__ -/
theorem sup_own {body : List Stmt} {q : Str} {scope : Scope} {p0 p1 p2 p4 p5 : Pos} {fd : FuncData} {ar : Arg} {cc cda : Addr} {vs : Array Value} {file : Str} {tf : Tok} {oc ccl cl : Value} {od cdd cld : Option Addr} {osl ccs csl : Array (Option Value)} {cdD : ClassData} {Q : Flow → Shared → Prop} {e : Expr} {Rv : Value → Prop} {t : Addr} {pl : Sem Bool}
    (M : SupM prog K mg base) (S : SupS scope ar.arg) (T : ExC K C bmB newId) (bk : ∀ b o, base.get? b = some o → s.heap.get? b = some o) (hn : s.heap.Ns L m)
    (hf : K.lookup f = some ⟨oc, od, .func fd, osl⟩) (hp : (fd.params.posonlyargs ++ fd.params.args).head? = some ar) (hv : m ar.arg = some (.ref x)) (hx : s.heap.get? x = some (exd C t none)) {f2 : Addr} (hf2 : (K.lookup f2).map (·.cls) = some (.type "function")) (hfn2 : fnIn K f2 = true)
    (hcode : K.lookup cda = some ⟨ccl, cdd, .fields vs, ccs⟩) (hvs : vs[2]? = some (.str file tf)) (hfile : ((prog.main.file : Str) == file) = true)
    (hcell : K.lookup cc = some ⟨cl, cld, .cell (some (.ref D)), csl⟩) (hD : clsIn K D = some cdD) (hsub : mroIn K C (.ref D) = some true)
    (hm : ks_superIn K C D "__init__" = some (some (.ref f2)))
    (he : ∀ (s1 : Shared) (Q1 : Value → Shared → Prop), s1.heap.Ns L m → (∀ v tk, Rv v → Q1 v { s1 with toks := tk }) → wpAny (model prog w) A (eval e (ksEnv q scope L f (.ref cda) cc)) Q1 E s1)
    (h : ∀ h' tk v, Rv v → (∀ b o, s.heap.get? b = some o → h'.get? b = some o) → codeAny (model prog w) A (.call (.ref f2) ⟨[.ref x, v], []⟩) (fun r s' => match r with | .ok (.ret _) => Q .next s' | .ok _ => False | .error e => E e s') { s with heap := h', toks := tk })
    (hs : swapsWith (.Call (.Attribute (.Call (.Name "super" p0) [] [] p1) "__init__" p2) [e] [] p4) none p5.line (ksEnv q scope L f (.ref cda) cc) = pure false)
    (hev : eval (.Call (.Attribute (.Call (.Name "super" p0) [] [] p1) "__init__" p2) [e] [] p4) (ksEnv q scope L f (.ref cda) cc) = (do
      let ov ← attributeBase (.Call (.Name "super" p0) [] [] p1) "__init__" (ksEnv q scope L f (.ref cda) cc) (eval (.Call (.Name "super" p0) [] [] p1) (ksEnv q scope L f (.ref cda) cc))
      standAt p2.atName
      let (g, first) ← holding [ov] (getMethod ov "__init__" pl)
      callWith p4 g first (backTo p4 (starEach [e] (ksEnv q scope L f (.ref cda) cc))) []))
    (hst : starEach [e] (ksEnv q scope L f (.ref cda) cc) = [(false, eval e (ksEnv q scope L f (.ref cda) cc))]) :
    _root_.PySem.wpAt (model prog w) A (.func body (ksEnv q scope L f (.ref cda) cc)) (exec (.Expr (.Call (.Attribute (.Call (.Name "super" p0) [] [] p1) "__init__" p2) [e] [] p4) p5) (ksEnv q scope L f (.ref cda) cc)) Q E s := by
  have X : K.In s.heap := M.mod.kin.keeps bk
  obtain ⟨cdC, hcC⟩ := Option.isSome_iff_exists.mp T.cls
  refine ks_wpAt_Expr_any ?_ (by unfold interactive; rw [show (ksEnv q scope L f (.ref cda) cc).scope.kind = .function from S.kind]; rfl) hs
  refine ks_wpAt_MethodCall ?_ hev
  refine node M S bk hn hf hp hv (inst_exc (od := default) hx (fun d z => by cases z)) hcode hvs hfile hcell hD hsub (fun h1 hso k1 => ?_)
  have hx1 := k1 _ _ hx
  have X1 : K.In h1 := X.keeps k1
  have I1 : InstAt h1 x (exd C t none) C none := inst_exc (od := default) hx1 (fun d z => by cases z)
  unfold ks_superIn at hm
  rw [hcC] at hm
  obtain ⟨hh, g, d, tk, os⟩ := s
  obtain ⟨of, hof, hofc⟩ : ∃ of, h1.get? f2 = some of ∧ of.cls = .type "function" := by
    cases z : K.lookup f2 with
    | none => rw [z] at hf2; cases hf2
    | some of => rw [z] at hf2; exact ⟨of, X1 _ _ z, Option.some.inj hf2⟩
  refine ks_wpAny_getMethod_super hso (looks_opaque X1 M.tp) (l₀ := cdC.mro) (fun A Q E s k q => wpAny_bind ((looks_clsIn X1 hcC) A _ E s k (wpAny_pure q))) rfl X1 hm hof hofc (ks_ne X1 I1 hcC) (by decide) ?_
  have k2 : ∀ b o, hh.get? b = some o → (h1.push (methodObj (.ref f2) (.ref x))).get? b = some o := fun b o e => Heap.get?_push_of_some _ (k1 b o e)
  have hw : (h1.push (methodObj (.ref f2) (.ref x))).get? h1.objs.size = some (methodObj (.ref f2) (.ref x)) := Heap.get?_push_at rfl rfl
  have hn2 : (h1.push (methodObj (.ref f2) (.ref x))).Ns L m := by
    obtain ⟨oL, es, ep, hL, r⟩ := hn
    exact ⟨oL, es, ep, k2 _ _ hL, r⟩
  rw [hst]
  refine callWith_of (by rfl) (keeps_M (K := K) (q := h1.objs.size) (f := f2) (self := .ref x) hfn2) (evalArgs_plain (spliced_cons (he _ _ hn2 fun v tk2 rv => ?_)))
  refine spliced_nil ⟨⟨hw, X.keeps k2⟩, ?_⟩
  refine wpAny_call (ks_codeAny_call_bound hw (codeAny_mono (h _ _ v rv k2) fun r s' z => ?_))
  rcases r with x | (v | _ | _ | _) <;> first | exact z | exact z.elim

/-! ### self.name = v -/
variable {t dx : Addr} {name : Str} {v : Value} {m0 : Str → Option Value} {nl : List Str}
theorem st_new {Q : Unit → Shared → Prop} (SF : StoreFacts B bmB "object.__setattr__" "object") (X : K.In s.heap) (T : ExC K C bmB newId) (hx : s.heap.get? x = some (exd C t none)) (ha : findIn K (.ref C) name = some none) (hh : hasDictIn K C = true)
    (h : ∀ h' tk' dx, (∀ b o, b ≠ x → s.heap.get? b = some o → h'.get? b = some o) → s.heap.objs.size ≤ dx → h'.get? x = some (exd C t (some dx)) → h'.Ns1 dx (fun y => if y = name then some v else none) → Q () { s with heap := h', toks := tk' }) :
    wpAny (model prog w) A (setAttr (.ref x) name v) Q E s := by
  have ht : takerIn K C name = some none := by unfold takerIn; rw [ha]; rfl
  obtain ⟨cd, hc, hd'⟩ := any_some hh
  have hxl := Heap.lt_size hx
  have hxs : s.heap.objs.size ≠ x := Nat.ne_of_gt hxl
  have hne2 : x ≠ s.heap.objs.size := hxs.symm
  refine set_plain (od := none) X ⟨hx, rfl, rfl, trivial⟩ T.sa (osa_openX (od := none) (s := { s with toks := s.toks + 1 }) SF X ⟨hx, rfl, rfl, trivial⟩ T.ov ht fun b => ?_)
  refine wpAny_bind (wpAny_pure (wpAny_bind (instanceDict_exc (s := { s with toks := s.toks + 1 }) hx (looks_clsIn X hc) hd' ?_)))
  show wpAny _ _ (Builtin.ObjectAttr.storeInDict s.heap.objs.size (.str name s.toks) name v) _ _ _
  refine PySem.HandSPX.store_in_new ?_ ?_
  · exact ⟨dictOf [] 0, #[], 0, (Heap.get?_update_ne _ _ _ _ hxs).trans (Heap.get?_push_at rfl rfl), rfl, fun e he => absurd he (by simp), fun _ => rfl⟩
  · intro h' tk' hn' hs
    have hx₁ : (s.heap.push (dictOf [] 0)).get? x = some (exd C t none) := Heap.get?_push_of_some _ hx
    refine h h' tk' s.heap.objs.size (fun b o hb ho => ?_) (Nat.le_refl _) ?_ hn'
    · exact (hs.2 b (Nat.ne_of_lt (Heap.lt_size ho))).trans ((Heap.get?_update_ne _ _ _ _ hb).trans (Heap.get?_push_of_some _ ho))
    · exact (hs.2 x hxs.symm).trans (Heap.get?_update_self _ hx₁ rfl)
theorem st_old {Q : Unit → Shared → Prop} (SF : StoreFacts B bmB "object.__setattr__" "object") (X : K.In s.heap) (T : ExC K C bmB newId) (hx : s.heap.get? x = some (exd C t (some dx))) (hns : s.heap.Ns1 dx m0) (hw : Within m0 nl) (hz : nl.length ≤ 1000) (ha : findIn K (.ref C) name = some none) (hh : hasDictIn K C = true)
    (h : ∀ h' tk', (∀ b o, b ≠ dx → s.heap.get? b = some o → h'.get? b = some o) → h'.Ns1 dx (fun y => if y = name then some v else m0 y) → Q () { s with heap := h', toks := tk' }) :
    wpAny (model prog w) A (setAttr (.ref x) name v) Q E s := by
  have ht : takerIn K C name = some none := by unfold takerIn; rw [ha]; rfl
  obtain ⟨cd, hc, hd'⟩ := any_some hh
  obtain ⟨oD, esD, epD, hoD, hdD, _⟩ := hns.count hw
  refine set_plain (od := some oD) X ⟨hx, rfl, rfl, hoD⟩ T.sa (osa_openX (od := some oD) (s := { s with toks := s.toks + 1 }) SF X ⟨hx, rfl, rfl, hoD⟩ T.ov ht fun b => ?_)
  refine wpAny_bind (wpAny_pure (wpAny_bind (wpAny_bind (wpAny_loadPart hx (wpAny_bind (Looks.here (s := { s with toks := s.toks + 1 }) (looks_clsIn X hc) ?_))))))
  rw [hd']
  refine wpAny_pure (a := some dx) ?_
  refine PySem.OEX.store_in_old hns hw hz ?_
  intro h' tk' hn' hs
  exact h h' tk' (fun b o hb ho => (hs.2 b hb).trans ho) hn'
end

/-! ### the __init__ of an exception class, as a promise -/
open L2 (V Vals RelV RelO)
def InitOk (prog : Program) (w : World) (base : Heap) (k : Nat) (f C : Addr) (G : List V → Option (List (Str × V))) : Prop :=
  ∀ (A : Around) (s : Shared) (x t : Addr) (us : List Value) (vs : List V) (fs : List (Str × V)) (R : Result → Shared → Prop), A.depth + k < recursionLimit → (∀ b o, base.get? b = some o → s.heap.get? b = some o) → base.get? x = none → s.heap.get? x = some (exd C t none) → Vals vs us → G vs = some fs →
    (∀ h' tk t' dx m, (∀ b o, b ≠ x → s.heap.get? b = some o → h'.get? b = some o) → s.heap.objs.size ≤ dx → h'.get? x = some (exd C t' (some dx)) → h'.Ns1 dx m → (∀ g, RelO (fs.lookup g) (m g)) → R (.ok (.ret .none)) { s with heap := h', toks := tk }) →
    codeAny (model prog w) A (.call (.ref f) ⟨.ref x :: us, []⟩) R s

inductive Asgs (env : Env) (slf : Str) : List Stmt → List (Str × Str) → Prop
  | nil : Asgs env slf [] []
  | cons {p6 p7 p8 p9 : Pos} {f p : Str} {r : List Stmt} {l : List (Str × Str)} (hs : swapsWith (.Name p p8) (some (.Attribute (.Name slf p6) f p7)) p9.line env = pure false) (hk : env.kindOf p = some .local) (hd : (p == ("__debug__" : Str)) = false) (t : Asgs env slf r l) :
      Asgs env slf (.Assign [.Attribute (.Name slf p6) f p7] (.Name p p8) p9 :: r) ((f, p) :: l)

section
variable {prog : Program} {w : World} {A : Around} {E : Value → Shared → Prop} {K : Frag} {mg : Str → Option Value} {base : Heap} {L x C D f : Addr} {m : Str → Option Value} {B i newId : String} {bmB : List Value} {slf : Str}
/-- the assignments behind the first -/
theorem asgs_run {env : Env} {Q : Flow → Shared → Prop} {vof : Str → V} (SF : StoreFacts B bmB "object.__setattr__" "object") (KB : K.In base) (T : ExC K C bmB newId) (hh : hasDictIn K C = true) (hk : env.scope.kind = .function) (hL : env.locals = L) (hks : env.kindOf slf = some .local) (hds : (slf == ("__debug__" : Str)) = false)
    (hv : m slf = some (.ref x)) : ∀ {sts : List Stmt} {l : List (Str × Str)} {s : Shared} {t dx : Addr} {fs : List (Str × V)} {m0 : Str → Option Value}, Asgs env slf sts l → (∀ b o, base.get? b = some o → s.heap.get? b = some o ∧ b ≠ dx) → (∀ fp ∈ l, findIn K (.ref C) fp.1 = some none ∧ ∃ u, m fp.2 = some u ∧ RelV (vof fp.2) u) →
      s.heap.Ns L m → L ≠ dx → x ≠ dx → s.heap.get? x = some (exd C t (some dx)) → s.heap.Ns1 dx m0 → (∀ g, RelO (fs.lookup g) (m0 g)) → fs.length + l.length ≤ 900 →
      (∀ h' tk m', (∀ b o, b ≠ dx → s.heap.get? b = some o → h'.get? b = some o) → h'.get? x = some (exd C t (some dx)) → h'.Ns1 dx m' → (∀ g, RelO ((l.foldl (fun fs fp => (fp.1, vof fp.2) :: fs) fs).lookup g) (m' g)) → Q .next { s with heap := h', toks := tk }) →
      wpAny (model prog w) A (execs sts env) Q E s
  | _, _, s, t, dx, fs, m0, .nil, bk, _, hn, _, _, hx, hns, rel, _, h => by
    refine wpAny_execs_nil ?_
    exact h s.heap s.toks m0 (fun _ _ _ e => e) hx hns rel
  | _, _, s, t, dx, fs, m0, .cons (f := g) (p := p) (l := l) hs hkp hd tl, bk, hl, hn, hLd, hxd, hx, hns, rel, hlen, h => by
    obtain ⟨hf, u, hu, ru⟩ := hl (g, p) (List.mem_cons_self ..)
    refine wpAny_execs_cons (plainObj_wpAny_Assign_Attribute (wpAny_Name (wpAny_loadName_local hk hkp (by rw [hL]; exact hn) hu ?_) hd) hs)
    refine wpAny_Name (wpAny_loadName_local hk hks (by rw [hL]; exact hn) hv ?_) hds
    have X : K.In s.heap := KB.keeps fun b o e => (bk b o e).1
    have hw := L2.within_of rel
    refine st_old SF X T hx hns hw (by rw [List.length_map]; omega) hf hh fun h' tk' k hn' => ?_
    have rel' : ∀ y, RelO (((g, vof p) :: fs).lookup y) (if y = g then some u else m0 y) := L2.relO_put ru rel
    refine asgs_run SF KB T hh hk hL hks hds hv tl (fun b o e => ⟨k b o (bk b o e).2 (bk b o e).1, (bk b o e).2⟩) (fun fp hm => hl fp (List.mem_cons_of_mem _ hm)) ?_ hLd hxd (k x _ hxd hx) hn' rel' (by simp only [List.length_cons] at hlen ⊢; omega) (fun h2 tk2 m2 k2 e1 e2 e3 => h h2 tk2 m2 (fun b o hb e => k2 b o hb (k b o hb e)) e1 e2 e3)
    obtain ⟨oL, es, ep, hoL, r⟩ := hn
    exact ⟨oL, es, ep, k _ _ hLd hoL, r⟩
end

/-- how an expression of the __init__ reads: a parameter, a text -/
inductive Rd1 (env : Env) (vof : Str → V) : Expr → V → Prop
  | par {p : Str} {pos : Pos} (hk : env.kindOf p = some .local) (hd : (p == ("__debug__" : Str)) = false) : Rd1 env vof (.Name p pos) (vof p)
  | txt {x : Str} {j : Nat} {pos : Pos} : Rd1 env vof (.Constant (.str x) j pos) (.str x)
theorem Rd1.run {prog : Program} {w : World} {A : Around} {E : Value → Shared → Prop} {env : Env} {vof : Str → V} {e : Expr} {y : V} {L : Addr} {m : Str → Option Value} (r : Rd1 env vof e y) (hk : env.scope.kind = .function) (hL : env.locals = L) (hm : ∀ p, env.kindOf p = some .local → ∃ u, m p = some u ∧ RelV (vof p) u) {s1 : Shared} {Q1 : Value → Shared → Prop} (hn : s1.heap.Ns L m)
    (h : ∀ v tk, RelV y v → Q1 v { s1 with toks := tk }) : wpAny (model prog w) A (eval e env) Q1 E s1 := by
  cases r with
  | par hkp hd =>
    obtain ⟨u, hu, ru⟩ := hm _ hkp
    exact wpAny_Name (wpAny_loadName_local hk hkp (by rw [hL]; exact hn) hu (h u s1.toks ru)) hd
  | txt => exact wpAny_Constant_str (h _ _ ⟨_, rfl⟩)

section
variable {prog : Program} {w : World} {K : Frag} {mg : Str → Option Value} {base : Heap} {C D f : Addr} {B i newId : String} {bmB : List Value} {slf g qual : Str} {params : Arguments} {scope : Scope} {e0 e1 : Expr} {p0 p1 p2 p4 p5 p6 p7 p9 : Pos} {ps : List Str} {sts : List Stmt} {l : List (Str × Str)}
/-- the parameters, bound -/
structure ParOk (params : Arguments) (scope : Scope) (slf : Str) (ps : List Str) : Prop where
  head : (params.posonlyargs ++ params.args).head?.map (·.arg) = some slf
  loc : ∀ y ∈ slf :: ps, scope.names.lookup y = some .local
  only : ∀ y ∈ scope.names, y.2 = .local → y.1 ∈ slf :: ps
  nd : (slf :: ps).Nodup
  bind : ∀ (fd : FuncData) (us : List Value), fd.params = params → fd.defaults = .none → us.length = (slf :: ps).length → bindArgs fd ⟨us, []⟩ = pure ((slf :: ps).zip us)
theorem zip_lookup : ∀ {ps : List Str} {us : List Value} {vs : List V} {p : Str}, ps.Nodup → Vals vs us → us.length = ps.length → p ∈ ps → ∃ u v, (ps.zip us).lookup p = some u ∧ (ps.zip vs).lookup p = some v ∧ RelV v u := by
  intro ps
  induction ps with
  | nil => intro us vs p _ _ _ h; cases h
  | cons n ps ih =>
    intro us vs p nd r hl hm
    cases r with
    | nil => cases hl
    | @cons v u vs us rv r =>
      by_cases e : p = n
      · subst e
        exact ⟨u, v, by simp [List.lookup], by simp [List.lookup], rv⟩
      · have e' : (p == n) = false := by simpa using e
        obtain ⟨u', v', h1, h2, h3⟩ := ih (List.nodup_cons.mp nd).2 r (Nat.succ.inj hl) ((List.mem_cons.mp hm).resolve_left e)
        exact ⟨u', v', by simpa [List.lookup, e'] using h1, by simpa [List.lookup, e'] using h2, h3⟩
theorem lookup_rev : ∀ {ps : List Str} {us : List Value}, ps.Nodup → ∀ p, ((ps.zip us).reverse).lookup p = (ps.zip us).lookup p := by
  intro ps
  induction ps with
  | nil => intro us _ p; simp
  | cons n ps ih =>
    intro us nd p
    cases us with
    | nil => simp
    | cons u us =>
      have nd' := List.nodup_cons.mp nd
      rw [List.zip_cons_cons, List.reverse_cons, List.lookup_append, ih nd'.2]
      by_cases e : p = n
      · subst e
        have : (ps.zip us).lookup p = none := by
          cases q : (ps.zip us).lookup p with
          | none => rfl
          | some v => exact absurd (List.of_mem_zip (PySem.mem_of_lookup q)).1 nd'.1
        rw [this]
        simp [List.lookup]
      · have e' : (p == n) = false := by simpa using e
        cases q : (ps.zip us).lookup p <;> simp [List.lookup, e', q]

/-- the slots of the def, by value -/
def vofP (ps : List Str) (vs : List V) (p : Str) : V := ((ps.zip vs).lookup p).getD .non
/-- the text of super().__init__(e) is read as such -/
structure SupT (env : Env) (e : Expr) (p0 p1 p2 p4 p5 : Pos) : Prop where
  hs : swapsWith (.Call (.Attribute (.Call (.Name "super" p0) [] [] p1) "__init__" p2) [e] [] p4) none p5.line env = pure false
  hst : starEach [e] env = [(false, eval e env)]
  hev : ∃ pl : Sem Bool, eval (.Call (.Attribute (.Call (.Name "super" p0) [] [] p1) "__init__" p2) [e] [] p4) env = (do
      let ov ← attributeBase (.Call (.Name "super" p0) [] [] p1) "__init__" env (eval (.Call (.Name "super" p0) [] [] p1) env)
      standAt p2.atName
      let (g, first) ← holding [ov] (getMethod ov "__init__" pl)
      callWith p4 g first (backTo p4 (starEach [e] env)) [])
theorem zip_look {ps : List Str} {us : List Value} {vs : List V} (nd : ps.Nodup) (r : Vals vs us) (hl : us.length = ps.length) {p : Str} (hm : p ∈ ps) : ∃ u, ((ps.zip us).reverse).lookup p = some u ∧ RelV (vofP ps vs p) u := by
  obtain ⟨u, v, h1, h2, h3⟩ := zip_lookup nd r hl hm
  exact ⟨u, by rw [lookup_rev nd]; exact h1, by unfold vofP; rw [h2]; exact h3⟩
/-- __init__ over a built-in class: super().__init__(e0); self.g = e1 -/
theorem initBase (KF : KxsFacts B i) (FB : ExcBaseFacts B newId i bmB) (SF : StoreFacts B bmB "object.__setattr__" "object") (M : SupM prog K mg base)
    (FN : SupFn prog K f D qual params [.Expr (.Call (.Attribute (.Call (.Name "super" p0) [] [] p1) "__init__" p2) [e0] [] p4) p5, .Assign [.Attribute (.Name slf p6) g p7] e1 p9] scope)
    (S : SupS scope slf) (T : ExC K C bmB newId) (hh : hasDictIn K C = true) (P : ParOk params scope slf ps) (hsub : mroIn K C (.ref D) = some true) (hm : ks_superIn K C D "__init__" = some (some (.builtin i))) (hB : subIn K (.ref C) (.type B) = some true) (hg : findIn K (.ref C) g = some none)
    (hds : (slf == ("__debug__" : Str)) = false) (hT : ∀ env : Env, SupT env e0 p0 p1 p2 p4 p5) (hs : ∀ env : Env, swapsWith e1 (some (.Attribute (.Name slf p6) g p7)) p9.line env = pure false)
    {r0 r1 : (Str → V) → V} (h0 : ∀ (env : Env) (vof : Str → V), env.scope = scope → Rd1 env vof e0 (r0 vof)) (h1 : ∀ (env : Env) (vof : Str → V), env.scope = scope → Rd1 env vof e1 (r1 vof)) (hr1 : ∀ v1 v2 : Str → V, (∀ p ∈ ps, v1 p = v2 p) → r1 v1 = r1 v2) :
    InitOk prog w base 1 f C (fun vs => if vs.length = ps.length then some [(g, r1 (vofP ps vs))] else none) := by
  intro A s x t us vs fs R hdep bk hxb hx rv hG h
  dsimp only at hG
  split at hG
  · rename_i hl
    cases hG
    have hlu : us.length = ps.length := by rw [← rv.length]; exact hl
    obtain ⟨oc, od, name, kV, doc, pm, an, cda, cc, ct, osl, lk, hcd, ⟨ccl, cdd, ccs, vss, file, tf, lk2, hv2, hfile⟩, ⟨cl, cld, csl, lk3⟩⟩ := FN.ex
    obtain ⟨cdD, hD⟩ := FN.cls
    have X : K.In s.heap := M.mod.kin.keeps bk
    have lim : s.heap.NoLimit := M.mod.nolimit.keeps bk
    obtain ⟨ar, har, hars⟩ := Option.map_eq_some_iff.mp P.head
    refine ks_codeAny_call_defAt (binds := (slf :: ps).zip (.ref x :: us)) (by omega) (X _ _ lk) rfl lim (codeRec_of X hcd) rfl (BindsTo.of_eq (P.bind _ _ rfl rfl (by simp [hlu]))) S.cell (fun y hy => P.loc y.1 (List.of_mem_zip hy).1) (fun h₀ hns kp => ?_) S.co S.gen S.kind
    have hxs : x ≠ s.heap.objs.size := Nat.ne_of_lt (Heap.lt_size hx)
    have hz : ∀ {p : Str}, p ∈ slf :: ps → ∃ u, (((slf :: ps).zip (.ref x :: us)).reverse).lookup p = some u ∧ RelV (vofP (slf :: ps) (.ref x :: vs) p) u := fun {p} hp => zip_look P.nd (.cons (show RelV (.ref x) (.ref x) from rfl) rv) (by simp [hlu]) hp
    have hself : (((slf :: ps).zip (Value.ref x :: us)).reverse).lookup slf = some (.ref x) := by rw [lookup_rev P.nd]; simp [List.lookup]
    have hvof : ∀ p ∈ ps, vofP (slf :: ps) (.ref x :: vs) p = vofP ps vs p := fun p hp => by
      have : (p == slf) = false := by
        have := (List.nodup_cons.mp P.nd).1
        simp only [beq_eq_false_iff_ne, ne_eq]
        intro e; exact this (e ▸ hp)
      unfold vofP
      simp [List.lookup, this]
    have hx0 := kp _ _ hx
    refine ks_wpAt_execs_cons ?_
    show _root_.PySem.wpAt (model prog w) _ (.func _ (ksEnv qual scope s.heap.objs.size f (.ref cda) cc)) (exec _ (ksEnv qual scope s.heap.objs.size f (.ref cda) cc)) _ _ _
    obtain ⟨pl, hev⟩ := (hT (ksEnv qual scope s.heap.objs.size f (.ref cda) cc)).hev
    have hmL : ∀ p, (ksEnv qual scope s.heap.objs.size f (.ref cda) cc).kindOf p = some .local → ∃ u, (((slf :: ps).zip (Value.ref x :: us)).reverse).lookup p = some u ∧ RelV (vofP (slf :: ps) (.ref x :: vs) p) u := fun p hp => hz (P.only (p, .local) (PySem.mem_of_lookup hp) rfl)
    refine sup_bi (fd := ksFn name qual params _ scope .none kV doc pm an (.ref cda) ct cc) (ar := ar) (t := t) KF FB M (by rw [hars]; exact S) T (fun b o e => kp b o (bk b o e)) hns lk har (by rw [hars]; exact hself) hx0 lk2 hv2 hfile lk3 hD hsub hm hB (Rv := fun v => RelV (r0 (vofP (slf :: ps) (.ref x :: vs))) v)
      (fun s1 Q1 hn1 hq => (h0 (ksEnv qual scope s.heap.objs.size f (.ref cda) cc) _ rfl).run S.kind rfl hmL hn1 hq) (fun h' t' tk k hx' => ?_) (hT _).hs hev (hT _).hst
    have kL : s.heap.objs.size ≠ x := hxs.symm
    have hns' : h'.Ns s.heap.objs.size (fun y => ((slf :: ps).zip (Value.ref x :: us)).reverse.lookup y) := by
      obtain ⟨oL, es, ep, hL, r⟩ := hns
      exact ⟨oL, es, ep, k _ _ kL hL, r⟩
    refine ks_wpAt_execs_cons (wpAt_of_wpAny (plainObj_wpAny_Assign_Attribute ((h1 (ksEnv qual scope s.heap.objs.size f (.ref cda) cc) _ rfl).run S.kind rfl hmL hns' fun v tk2 rv1 => ?_) (hs _)))
    refine wpAny_Name (wpAny_loadName_local S.kind (P.loc slf (List.mem_cons_self ..)) hns' hself ?_) hds
    have bk' : ∀ b o, base.get? b = some o → h'.get? b = some o := fun b o e => k b o (fun z => by
      rw [z, hxb] at e
      cases e) (kp b o (bk b o e))
    refine st_new SF (M.mod.kin.keeps bk') T hx' hg hh fun h2 tk3 dx k2 hdx hx2 hn2 => ?_
    refine wpAt_of_wpAny (wpAny_execs_nil ?_)
    refine h h2 tk3 t' dx _ (fun b o hb e => k2 b o hb (k b o hb (kp b o e))) ?_ hx2 hn2 ?_
    · obtain ⟨oL, es, ep, hL, r⟩ := hns'
      exact Nat.le_trans (Nat.le_of_lt (Heap.lt_size hL)) hdx
    · have e1 : r1 (vofP (slf :: ps) (.ref x :: vs)) = r1 (vofP ps vs) := hr1 _ _ hvof
      rw [e1] at rv1
      exact L2.relO_put (fs := []) rv1 fun g => True.intro
  · cases hG

/-- __init__ over an own class: super().__init__(e0); self.f = p, .. -/
theorem initOwn {f2 : Addr} {G2 : List V → Option (List (Str × V))} {k : Nat} (F2 : InitOk prog w base k f2 C G2) (SF : StoreFacts B bmB "object.__setattr__" "object") (M : SupM prog K mg base)
    (FN : SupFn prog K f D qual params (.Expr (.Call (.Attribute (.Call (.Name "super" p0) [] [] p1) "__init__" p2) [e0] [] p4) p5 :: sts) scope)
    (S : SupS scope slf) (T : ExC K C bmB newId) (hh : hasDictIn K C = true) (P : ParOk params scope slf ps) (hsub : mroIn K C (.ref D) = some true) (hm : ks_superIn K C D "__init__" = some (some (.ref f2))) (hf2 : (K.lookup f2).map (·.cls) = some (.type "function")) (hfn2 : fnIn K f2 = true)
    (hds : (slf == ("__debug__" : Str)) = false) (hT : ∀ env : Env, SupT env e0 p0 p1 p2 p4 p5)
    {r0 : (Str → V) → V} (h0 : ∀ (env : Env) (vof : Str → V), env.scope = scope → Rd1 env vof e0 (r0 vof)) (hr0 : ∀ v1 v2 : Str → V, (∀ p ∈ ps, v1 p = v2 p) → r0 v1 = r0 v2)
    (ha : ∀ env : Env, env.scope = scope → Asgs env slf sts l) (hl : ∀ fp ∈ l, findIn K (.ref C) fp.1 = some none ∧ fp.2 ∈ ps) (hlen : l.length ≤ 100) (hG2 : ∀ vs fs, G2 vs = some fs → fs.length ≤ 800) :
    InitOk prog w base (k + 1) f C (fun vs => if vs.length = ps.length then (G2 [r0 (vofP ps vs)]).map (fun fs => l.foldl (fun fs fp => (fp.1, vofP ps vs fp.2) :: fs) fs) else none) := by
  intro A s x t us vs fs R hdep bk hxb hx rv hG h
  dsimp only at hG
  split at hG
  · rename_i hln
    obtain ⟨fs2, hfs2, hfs⟩ := Option.map_eq_some_iff.mp hG
    have hlu : us.length = ps.length := by rw [← rv.length]; exact hln
    obtain ⟨oc, od, name, kV, doc, pm, an, cda, cc, ct, osl, lk, hcd, ⟨ccl, cdd, ccs, vss, file, tf, lk2, hv2, hfile⟩, ⟨cl, cld, csl, lk3⟩⟩ := FN.ex
    obtain ⟨cdD, hD⟩ := FN.cls
    have X : K.In s.heap := M.mod.kin.keeps bk
    have lim : s.heap.NoLimit := M.mod.nolimit.keeps bk
    obtain ⟨ar, har, hars⟩ := Option.map_eq_some_iff.mp P.head
    refine ks_codeAny_call_defAt (binds := (slf :: ps).zip (.ref x :: us)) (by omega) (X _ _ lk) rfl lim (codeRec_of X hcd) rfl (BindsTo.of_eq (P.bind _ _ rfl rfl (by simp [hlu]))) S.cell (fun y hy => P.loc y.1 (List.of_mem_zip hy).1) (fun h₀ hns kp => ?_) S.co S.gen S.kind
    have hxs : x ≠ s.heap.objs.size := Nat.ne_of_lt (Heap.lt_size hx)
    have hz : ∀ {p : Str}, p ∈ slf :: ps → ∃ u, (((slf :: ps).zip (.ref x :: us)).reverse).lookup p = some u ∧ RelV (vofP (slf :: ps) (.ref x :: vs) p) u := fun {p} hp => zip_look P.nd (.cons (show RelV (.ref x) (.ref x) from rfl) rv) (by simp [hlu]) hp
    have hself : (((slf :: ps).zip (Value.ref x :: us)).reverse).lookup slf = some (.ref x) := by rw [lookup_rev P.nd]; simp [List.lookup]
    have hvof : ∀ p ∈ ps, vofP (slf :: ps) (.ref x :: vs) p = vofP ps vs p := fun p hp => by
      have : (p == slf) = false := by
        have := (List.nodup_cons.mp P.nd).1
        simp only [beq_eq_false_iff_ne, ne_eq]
        intro e; exact this (e ▸ hp)
      unfold vofP
      simp [List.lookup, this]
    have hx0 := kp _ _ hx
    refine ks_wpAt_execs_cons ?_
    show _root_.PySem.wpAt (model prog w) _ (.func _ (ksEnv qual scope s.heap.objs.size f (.ref cda) cc)) (exec _ (ksEnv qual scope s.heap.objs.size f (.ref cda) cc)) _ _ _
    obtain ⟨pl, hev⟩ := (hT (ksEnv qual scope s.heap.objs.size f (.ref cda) cc)).hev
    have hmL : ∀ p, (ksEnv qual scope s.heap.objs.size f (.ref cda) cc).kindOf p = some .local → ∃ u, (((slf :: ps).zip (Value.ref x :: us)).reverse).lookup p = some u ∧ RelV (vofP (slf :: ps) (.ref x :: vs) p) u := fun p hp => hz (P.only (p, .local) (PySem.mem_of_lookup hp) rfl)
    refine sup_own (fd := ksFn name qual params _ scope .none kV doc pm an (.ref cda) ct cc) (ar := ar) (t := t) M (by rw [hars]; exact S) T (fun b o e => kp b o (bk b o e)) hns lk har (by rw [hars]; exact hself) hx0 hf2 hfn2 lk2 hv2 hfile lk3 hD hsub hm (Rv := fun v => RelV (r0 (vofP (slf :: ps) (.ref x :: vs))) v)
      (fun s1 Q1 hn1 hq => (h0 (ksEnv qual scope s.heap.objs.size f (.ref cda) cc) _ rfl).run S.kind rfl hmL hn1 hq) (fun h' tk v rv0 kq => ?_) (hT _).hs hev (hT _).hst
    have e0' : r0 (vofP (slf :: ps) (.ref x :: vs)) = r0 (vofP ps vs) := hr0 _ _ hvof
    rw [e0'] at rv0
    have dd : (A.deeper (ksEnv qual scope s.heap.objs.size f (.ref cda) cc)).depth + k < recursionLimit := by
      show A.depth + 1 + k < _
      omega
    refine F2 _ _ x t [v] [r0 (vofP ps vs)] fs2 _ dd (fun b o e => kq b o (kp b o (bk b o e))) hxb (kq _ _ hx0) (.cons rv0 .nil) hfs2 fun h2 tk2 t' dx m k2 hdx hx2 hn2 rel => ?_
    have sz : s.heap.objs.size < h'.objs.size := by
      obtain ⟨oL, es, ep, hL, r⟩ := hns
      exact Heap.lt_size (kq _ _ hL)
    have hdx' : s.heap.objs.size < dx := Nat.lt_of_lt_of_le sz hdx
    have kL : s.heap.objs.size ≠ x := hxs.symm
    have hns' : h2.Ns s.heap.objs.size (fun y => ((slf :: ps).zip (Value.ref x :: us)).reverse.lookup y) := by
      obtain ⟨oL, es, ep, hL, r⟩ := hns
      exact ⟨oL, es, ep, k2 _ _ kL (kq _ _ hL), r⟩
    have nbx : ∀ {b : Addr} {o : Obj}, base.get? b = some o → b ≠ x := fun {b o} e z => by
      rw [z, hxb] at e
      cases e
    have hxd : x ≠ dx := Nat.ne_of_lt (Nat.lt_trans (Heap.lt_size hx) hdx')
    refine wpAt_of_wpAny (asgs_run (env := ksEnv qual scope s.heap.objs.size f (.ref cda) cc) (vof := vofP (slf :: ps) (.ref x :: vs)) (s := { s with heap := h2, toks := tk2 }) SF M.mod.kin T hh S.kind rfl (P.loc slf (List.mem_cons_self ..)) hds hself (ha _ rfl) (fun b o e => ⟨k2 b o (nbx e) (kq b o (kp b o (bk b o e))), Nat.ne_of_lt (Nat.lt_trans (Heap.lt_size (bk b o e)) hdx')⟩)
      (fun fp hm => ⟨(hl fp hm).1, hz (List.mem_cons_of_mem _ (hl fp hm).2)⟩) hns' (Nat.ne_of_lt hdx') hxd hx2 hn2 rel (by have := hG2 _ _ hfs2; omega) fun h3 tk3 m3 k3 hx3 hn3 rel3 => ?_)
    have hfold : ∀ (l' : List (Str × Str)) (fs : List (Str × V)), (∀ fp ∈ l', fp.2 ∈ ps) → l'.foldl (fun fs fp => (fp.1, vofP (slf :: ps) (.ref x :: vs) fp.2) :: fs) fs = l'.foldl (fun fs fp => (fp.1, vofP ps vs fp.2) :: fs) fs := by
      intro l'
      induction l' with
      | nil => intro fs _; rfl
      | cons fp l' ih =>
        intro fs hm
        rw [List.foldl_cons, List.foldl_cons, hvof _ (hm fp (List.mem_cons_self ..))]
        exact ih _ fun q hq => hm q (List.mem_cons_of_mem _ hq)
    rw [hfold l fs2 (fun fp hm => (hl fp hm).2), hfs] at rel3
    exact h h3 tk3 t' dx m3 (fun b o hb e => k3 b o (Nat.ne_of_lt (Nat.lt_trans (Heap.lt_size e) hdx')) (k2 b o hb (kq b o (kp b o e)))) (Nat.le_of_lt hdx') hx3 hn3 rel3
  · cases hG
end
end ZX
/-! ZX1: exceptions on data: made, read, asked, raised, caught. -/
namespace Z
open PySem PySem.Spec L2


/-- the exceptions of a class: its fields by the call's values -/
def excFs (tag : Str) (flds : List Str) (vs : List V) : List (Str × V) := (flds.zip vs).reverse ++ [(("tag" : Str), V.str tag)]
structure XMk (P : Program) (w : World) (K : PySem.W.Frag) (mg : Str → Option Value) (base : Heap) (c : Str) (C : Addr) (k : Nat) (tag : Str) (flds : List Str) : Prop where
  hm : mg c = some (.ref C)
  keep : PySem.W.keepIn K (.ref C) = true
  ex : L2.Mod K mg base → ∃ (B newId initId : String) (bmB : List Value) (fI : Addr), PySem.ExcBaseFacts B newId initId bmB ∧ PySem.W.excInitIn K C bmB newId = true ∧ PySem.W.findIn K (.ref C) "__init__" = some (some (.ref fI)) ∧ PySem.W.typeIn K (.ref fI) = some (.type "function") ∧
    ZX.InitOk P w base k fI C (fun vs => if vs.length = flds.length then some (excFs tag flds vs) else none)
  exC : PySem.W.subIn K (.ref C) (.type "BaseException") = some true
  tyC : PySem.W.typeIn K (.ref C) = some (.type "type")
theorem repL_rev {K : PySem.W.Frag} {mg : Str → Option Value} {ρ : List Addr} {H : Hp} : ∀ {ds : List D} {vs : List V}, RepL K mg ρ H ds vs → RepL K mg ρ H ds.reverse vs.reverse
  | [], _, h => by rw [RepL] at h; subst h; exact RepL.nil
  | d :: ds, _, h => by
    rw [RepL] at h
    obtain ⟨v, r, e, h1, h2⟩ := h
    subst e
    rw [List.reverse_cons, List.reverse_cons]
    exact (repL_rev h2).append (RepL.cons h1 RepL.nil)
theorem zipx_fst : ∀ {a : List Str} {b : List V}, b.length = a.length → (a.zip b).map (·.1) = a
  | [], [], _ => rfl
  | x :: a, y :: b, h => by simp [zipx_fst (a := a) (b := b) (by simpa using h)]
theorem zipx_snd : ∀ {a : List Str} {b : List V}, b.length = a.length → (a.zip b).map (·.2) = b
  | [], [], _ => rfl
  | x :: a, y :: b, h => by simp [zipx_snd (a := a) (b := b) (by simpa using h)]
theorem excFs_rep {K : PySem.W.Frag} {mg : Str → Option Value} {ρ : List Addr} {H : Hp} {tag : Str} {flds : List Str} {ds : List D} {vs : List V} (r : RepL K mg ρ H ds vs) (hl : ds.length = flds.length) : vs.length = flds.length ∧ (excFs tag flds vs).map (·.1) = flds.reverse ++ [("tag" : Str)] ∧ RepL K mg ρ H (ds.reverse ++ [D.str tag]) ((excFs tag flds vs).map (·.2)) := by
  have hv : vs.length = flds.length := by rw [← r.len]; exact hl
  refine ⟨hv, ?_, ?_⟩
  · unfold excFs
    rw [List.map_append, List.map_reverse, zipx_fst hv]; rfl
  · unfold excFs
    rw [List.map_append, List.map_reverse, zipx_snd hv]
    exact (repL_rev r).append (RepL.cons (by rw [Rep]) RepL.nil)

section
variable {X : Cx} {pins : List (Addr × Obj)} {σ : L2.St} {H : Hp} {s : Shared}
/-- two new things are laid -/
theorem inv_two {h' : Heap} {t' : Nat} {a d : Addr} {oa od : HO} (I : Inv X pins σ H s) (k : ∀ b o, s.heap.get? b = some o → h'.get? b = some o) (ha : s.heap.objs.size ≤ a) (hd : s.heap.objs.size ≤ d) (ne : a ≠ d)
    (na : ObjOk X.prog X.w (upd (upd H d od) a oa) h' a oa) (nd : ObjOk X.prog X.w (upd (upd H d od) a oa) h' d od) (ga : ∃ o, h'.get? a = some o) (gd : ∃ o, h'.get? d = some o) : Inv X pins σ (upd (upd H d od) a oa) { s with heap := h', toks := t' } := by
  have hna : H a = none := I.hok.fresh ha
  have hnd : H d = none := I.hok.fresh hd
  have lt : ∀ {b : Addr} {o : Obj}, s.heap.get? b = some o → b ≠ a ∧ b ≠ d := fun {b o} e => ⟨Nat.ne_of_lt (Nat.lt_of_lt_of_le (Heap.lt_size e) ha), Nat.ne_of_lt (Nat.lt_of_lt_of_le (Heap.lt_size e) hd)⟩
  have at_ : ∀ {b : Addr}, b ≠ a → b ≠ d → upd (upd H d od) a oa b = H b := fun {b} h1 h2 => by rw [upd_ne h1, upd_ne h2]
  have sm : ∀ {b : Addr} {u : HO}, H b = some u → upd (upd H d od) a oa b = some u := fun {b u} e => by rw [at_ (ne_of_none e hna) (ne_of_none e hnd)]; exact e
  refine I.un (t' := t') { keep := fun b o e n _ _ => k b o e, slot := fun b o e n _ _ => ⟨o.slots, k b o e⟩, free := fun b o e n _ => by rw [at_ (lt e).1 (lt e).2]; exact n, there := fun b o e _ => ⟨o, k b o e⟩, tups := fun b xs e => sm e, frzs := fun b o u e => sm e, tbls := fun b ps e => ⟨#[], by rw [sm e]; simp⟩ } fun b o e => ?_
  by_cases h1 : b = a
  · subst h1
    rw [upd_same] at e; cases e
    exact na
  · by_cases h2 : b = d
    · subst h2
      rw [upd_ne h1, upd_same] at e; cases e
      exact nd
    · rw [at_ h1 h2] at e
      exact (I.hok b o e).stay (fun c v _ q => k c v q) (fun c q => sm q) fun c xs q => sm q
/-- C(..) of an exception class, over the heap -/
theorem exc_core {c : Str} {C : Addr} {k : Nat} {tag : Str} {flds : List Str} {us : List Value} {vs : List V} {Q : Value → Shared → Prop} (M : XMk X.prog X.w X.K X.mg X.base c C k tag flds) (hr : Room (k + 1) X.A) (I : Inv X pins σ H s) (r : Vals vs us) (hl : vs.length = flds.length) (hz : flds.length ≤ 100)
    (h : ∀ a d h' tk' t' m, (∀ b o, s.heap.get? b = some o → h'.get? b = some o) → s.heap.objs.size ≤ a → s.heap.objs.size ≤ d → a ≠ d → h'.get? a = some (ZX.exd C t' (some d)) → h'.Ns1 d m → (∀ g, RelO ((excFs tag flds vs).lookup g) (m g)) → Q (.ref a) { s with heap := h', toks := tk' }) :
    wpAny (model X.prog X.w) X.A (call (.ref C) us) Q X.xe s := by
  obtain ⟨B, newId, initId, bmB, fI, FB, q, iC, tI, F⟩ := M.ex I.ok.mod
  obtain ⟨nm, N', qn, bs, bm, hdct, sn, sub, ab, col, dd, k0, k1, k2, k3, k5, hC, hT⟩ := PySem.W.excInit_of I.kIn q
  obtain ⟨hp, g, dr, tk, os⟩ := s
  have hus : us.length = flds.length := by rw [← r.length]; exact hl
  have kk : ∀ b o, hp.get? b = some o → ((hp.push (PySem.W.kdv_tup us)).push (PySem.HandSPX.excO C hp.objs.size)).get? b = some o := fun b o e => Heap.get?_push_of_some _ (Heap.get?_push_of_some _ e)
  have hget : ((hp.push (PySem.W.kdv_tup us)).push (PySem.HandSPX.excO C hp.objs.size)).get? (hp.objs.size + 1) = some (PySem.HandSPX.excO C hp.objs.size) := by heap_get
  have hsz : hp.objs.size + 1 + 1 = ((hp.push (PySem.W.kdv_tup us)).push (PySem.HandSPX.excO C hp.objs.size)).objs.size := by rw [Heap.size_push, Heap.size_push]
  have hbx : X.base.get? (hp.objs.size + 1) = none := by
    cases e : X.base.get? (hp.objs.size + 1) with
    | none => rfl
    | some o => exact absurd (Heap.lt_size (I.bk _ _ e)) (Nat.not_lt.mpr (Nat.le_succ _))
  have dep := (hr.make C us []).dp
  refine wpAny_call (PySem.HandSPX.call_own FB hT hC (PySem.W.looks_findIn I.kIn iC) (fun self => PySem.W.bind_fn I.kIn self tI) (by rw [hus, sizeLine_eq]; omega) ?_)
  refine F _ _ (hp.objs.size + 1) hp.objs.size us vs _ _ (by omega) (fun b o e => kk b o (I.bk b o e)) hbx hget r (if_pos hl) fun h' tk' t' dx m kq hdx hx hn rel => ?_
  refine ⟨rfl, ?_⟩
  have kold : ∀ b o, hp.get? b = some o → h'.get? b = some o := fun b o e => kq b o (Nat.ne_of_lt (Nat.lt_trans (Heap.lt_size e) (Nat.lt_succ_self _))) (kk b o e)
  have hdx' : hp.objs.size + 1 + 1 ≤ dx := by rw [hsz]; exact hdx
  exact h _ dx h' tk' t' m kold (Nat.le_succ _) (Nat.le_of_lt (Nat.lt_of_lt_of_le (Nat.lt_succ_of_lt (Nat.lt_succ_self _)) hdx')) (Nat.ne_of_lt hdx') hx hn rel
/-- .. held: the object and its dict, both new -/
theorem run_exc {c : Str} {C : Addr} {k : Nat} {tag : Str} {flds : List Str} {us : List Value} {vs : List V} {Q : Value → Shared → Prop} (M : XMk X.prog X.w X.K X.mg X.base c C k tag flds) (hr : Room (k + 1) X.A) (I : Inv X pins σ H s) (r : Vals vs us) (hl : vs.length = flds.length) (hz : flds.length ≤ 100)
    (h : ∀ a d s', H a = none → H d = none → a ≠ d → Inv X pins σ (upd (upd H d (.xd (excFs tag flds vs))) a (ExD a C d)) s' → Q (.ref a) s') :
    wpAny (model X.prog X.w) X.A (call (.ref C) us) Q X.xe s := by
  refine exc_core M hr I r hl hz fun a d h' tk' t' m kold ha hd ne hx hn rel => ?_
  have gd : ∃ o, h'.get? d = some o := by
    obtain ⟨o, es, ep, e, _⟩ := hn
    exact ⟨o, e⟩
  exact h a d _ (I.hok.fresh ha) (I.hok.fresh hd) ne (inv_two (t' := tk') (oa := ExD a C d) (od := .xd (excFs tag flds vs)) I kold ha hd ne ⟨⟨_, _, hx, ⟨rfl, rfl⟩, rfl⟩, ⟨_, hx⟩, fun h1 h2 ⟨oe, ws, e, z⟩ st => ⟨oe, ws, st _ e, z⟩⟩ ⟨m, hn, rel⟩ ⟨_, hx⟩ gd)
/-- .. raised: the object isn't tracked -/
theorem run_excM {c : Str} {C : Addr} {k : Nat} {tag : Str} {flds : List Str} {us : List Value} {vs : List V} {Q : XK} (M : XMk X.prog X.w X.K X.mg X.base c C k tag flds) (hr : Room (k + 1) X.A) (I : Inv X pins σ H s) (r : Vals vs us) (hl : vs.length = flds.length) (hz : flds.length ≤ 100)
    (h : ∀ d, H d = none → Q (.ref C) (some d) (upd H d (.xd (excFs tag flds vs)))) :
    wpAny (model X.prog X.w) X.A (call (.ref C) us) (MkP X pins σ Q) X.xe s := by
  refine exc_core M hr I r hl hz fun a d h' tk' t' m kold ha hd ne hx hn rel => ?_
  have hna : H a = none := I.hok.fresh ha
  have hnd : H d = none := I.hok.fresh hd
  obtain ⟨G, g1, g2⟩ := restrict h' fun b => decide (b ≠ a)
  have gk : ∀ b, b ≠ a → G.get? b = h'.get? b := fun b hb => g1 b (decide_eq_true hb)
  have ge : G.get? a = none := g2 a (by simp)
  have kG : ∀ b o, s.heap.get? b = some o → G.get? b = some o := fun b o e => by rw [gk b (Nat.ne_of_lt (Nat.lt_of_lt_of_le (Heap.lt_size e) ha))]; exact kold b o e
  have hG : ∀ b o, G.get? b = some o → h'.get? b = some o := fun b o e => by
    by_cases hb : b = a
    · rw [hb, ge] at e; cases e
    · rw [← gk b hb]; exact e
  have J : Inv X pins σ (upd H d (.xd (excFs tag flds vs))) { s with heap := G, toks := tk' } := I.laid (t' := tk') kG hd ⟨m, hn.at fun o y => (gk d (Ne.symm ne)).trans y, rel⟩
  exact ⟨a, _, _, { s with heap := G, toks := tk' }, _, .ref C, some d, rfl, J, hG, ge, hx, ⟨rfl, rfl⟩, rfl, rfl, by rw [upd_ne ne]; exact hna, rfl, J.bare, raises_own M.exC M.tyC, h d hnd⟩
end

/-! ### on data -/
def excS (c tag : Str) (flds : List Str) : SemL := fun ds S => if ds.length = flds.length then .ok (.exc c (flds.reverse ++ [("tag" : Str)]) (ds.reverse ++ [D.str tag])) S else .bad
section
variable {X : Cx} {W : WX} {k : Nat} {C : Addr} {x tag : Str} {flds : List Str} {p pos : Pos} {e : Expr} {es : List Expr} {fa : AX}
theorem post_exc {K : PySem.W.Frag} {mg : Str → Option Value} {ρ : List Addr} {H : Hp} {S : Store} {ds : List D} {vs : List V} {Q : VK} {E : Value → Option Addr → Hp → Prop} {a d : Addr} (hm : mg x = some (.ref C)) (w : WOk K mg ρ H S) (r : RepL K mg ρ H ds vs) (hl : ds.length = flds.length) (ha : H a = none) (hd : H d = none) (ne : a ≠ d)
    (p : PostE K mg E ρ H Q (.ok (.exc x (flds.reverse ++ [("tag" : Str)]) (ds.reverse ++ [D.str tag])) S)) : Q (.ref a) (upd (upd H d (.xd (excFs tag flds vs))) a (ExD a C d)) := by
  have x1 : Ext ρ H ρ (upd H d (.xd (excFs tag flds vs))) := Ext.new' hd
  have ha1 : upd H d (.xd (excFs tag flds vs)) a = none := by rw [upd_ne ne]; exact ha
  have x2 : Ext ρ H ρ (upd (upd H d (.xd (excFs tag flds vs))) a (ExD a C d)) := x1.trans (Ext.new' ha1)
  obtain ⟨_, e1, e2⟩ := excFs_rep (tag := tag) r hl
  refine p _ ρ _ x2 ((w.new' hd).new' ha1) ?_
  rw [Rep]
  exact ⟨a, C, d, _, rfl, w.nin ha, w.nin hd, hm, upd_same, by rw [upd_ne (Ne.symm ne), upd_same], e1, e2.ext x2⟩
theorem r_excZ (M : XMk X.prog X.w X.K X.mg X.base x C k tag flds) (hr : Room (k + 1) X.A) (hz : flds.length ≤ 100) (ha : EA X W (e :: es) fa) (hg : Gl X x := by rfl)
    (hdb : (x == ("__debug__" : Str)) = false := by decide) (he : starEach (e :: es) X.env = (false, eval e X.env) :: starEach es X.env := by rfl) (hpl : (backTo pos (starEach es X.env)).any (·.1) = false := by rfl) :
    E X W (.Call (.Name x p) (e :: es) [] pos) (eArgs (excS x tag flds) fa) := by
  refine ⟨fun pins s σ H Q I h => ?_⟩
  refine wpAny_Call_Name_kw (ld_glob I hg M.hm ?_ hdb)
  have h' := argsem_imp (k := fun vs H1 => ∃ ρ S ds, WOk X.K X.mg ρ H1 S ∧ RepL X.K X.mg ρ H1 ds vs ∧ PostE X.K X.mg (WE W σ) ρ H1 Q (excS x tag flds ds S)) h fun ρ S H1 ds vs w r p => ⟨ρ, S, ds, w, r, p⟩
  refine PySem.W.callWith_K (h₀ := X.base) I.ok.mod.kin M.keep (thn (ha.run pos pins s σ H _ I h') fun us s1 ⟨vs, H1, I1, r, ρ1, S1, ds, w1, rl, q⟩ => ⟨I1.kIn, ?_⟩) he hpl
  unfold excS at q
  split at q
  · rename_i hl
    exact run_exc M hr I1 r (by rw [← rl.len]; exact hl) hz fun a d s' na nd ne J => ⟨.ref a, _, J, rfl, post_exc M.hm w1 rl hl na nd ne q⟩
  · exact q.elim
theorem r_excZ0 (M : XMk X.prog X.w X.K X.mg X.base x C k tag []) (hr : Room (k + 1) X.A) (hg : Gl X x := by rfl) (hdb : (x == ("__debug__" : Str)) = false := by decide) :
    E X W (.Call (.Name x p) [] [] pos) (eArgs (excS x tag []) aNil) := by
  refine ⟨fun pins s σ H Q I h => ?_⟩
  refine wpAny_Call_Name_kw (ld_glob I hg M.hm ?_ hdb)
  obtain ⟨ρ, S, sl, w, rs, q⟩ := h
  exact PySem.W.callWith_K0 I.kIn M.keep (run_exc (us := []) (vs := []) M hr I .nil rfl (by decide) fun a d s' na nd ne J => ⟨.ref a, _, J, rfl, post_exc (flds := []) (ds := []) M.hm w RepL.nil rfl na nd ne q⟩)

/-! ### raise -/
def sRaise (f : EX) : SX := fun sl S => match f sl S with
  | .ok (.exc c ns ds) S' => .ex (.ins c ns ds) sl S'
  | .ok _ _ => .bad
  | .ex e S' => .ex e sl S'
  | .bad => .bad
theorem ex_exc {K : PySem.W.Frag} {mg : Str → Option Value} {ρ : List Addr} {H : Hp} {S : Store} {sl : Sl} {σ : L2.St} {ds : List D} {vs : List V} {Dd : Ends} {d : Addr} (hm : mg x = some (.ref C)) (w : WOk K mg ρ H S) (rs : RSt K mg ρ H σ sl) (r : RepL K mg ρ H ds vs) (hl : ds.length = flds.length) (hd : H d = none)
    (p : PostS K mg W ρ H Dd (.ex (.ins x (flds.reverse ++ [("tag" : Str)]) (ds.reverse ++ [D.str tag])) sl S)) : W (.ref C) (some d) σ (upd H d (.xd (excFs tag flds vs))) := by
  have x1 : Ext ρ H ρ (upd H d (.xd (excFs tag flds vs))) := Ext.new' hd
  obtain ⟨_, e1, e2⟩ := excFs_rep (tag := tag) r hl
  exact p _ _ σ ρ _ x1 (w.new' hd) (rs.ext x1) ⟨x, _, _, C, d, _, rfl, hm, rfl, rfl, w.nin hd, upd_same, e1, e2.ext x1⟩
theorem s_raiseZ (tk : Takes X W) (hc : X.calm = true) (M : XMk X.prog X.w X.K X.mg X.base x C k tag flds) (hr : Room (k + 1) X.A) (hz : flds.length ≤ 100) (ha : EA X W (e :: es) fa) {pr : Pos} (hg : Gl X x := by rfl)
    (hdb : (x == ("__debug__" : Str)) = false := by decide) (he : starEach (e :: es) X.env = (false, eval e X.env) :: starEach es X.env := by rfl) (hpl : (backTo pos (starEach es X.env)).any (·.1) = false := by rfl) :
    ES X W (.Raise (some (.Call (.Name x p) (e :: es) [] pos)) none pr) (sRaise (eArgs (excS x tag flds) fa)) := by
  refine PS.imp (ps_raise hc tk (t := fun σ H Q => trA X.K X.mg W fa σ H fun vs H1 => vs.length = flds.length ∧ ∀ d, H1 d = none → Q (.ref C) (some d) (upd H1 d (.xd (excFs tag flds vs)))) ?_) fun Dd σ H ⟨ρ, S, sl, w, rs, p⟩ => ?_
  · intro pins s σ H Q I h
    refine wpAny_Call_Name_kw (ld_glob I hg M.hm ?_ hdb)
    refine PySem.W.callWith_K (h₀ := X.base) I.ok.mod.kin M.keep (thn (ha.run pos pins s σ H _ I h) fun us s1 ⟨vs, H1, I1, r, hl, q⟩ => ⟨I1.kIn, ?_⟩) he hpl
    exact run_excM M hr I1 r hl hz q
  · refine ⟨ρ, S, sl, w, rs, ?_⟩
    unfold sRaise eArgs at p
    cases o : fa sl S with
    | ok ds S1 =>
      intro vs ρ1 H1 x1 w1 r1
      have p : PostS X.K X.mg W ρ H Dd (match excS x tag flds ds S1 with | .ok (.exc c ns ds) S' => .ex (.ins c ns ds) sl S' | .ok _ _ => .bad | .ex e S' => .ex e sl S' | .bad => .bad) := by
        rw [o] at p; exact p
      unfold excS at p
      by_cases hl : ds.length = flds.length
      · rw [if_pos hl] at p
        exact ⟨by rw [← r1.len]; exact hl, fun d hd => ex_exc M.hm w1 (rs.ext x1) r1 hl hd (PostS.from x1 p)⟩
      · rw [if_neg hl] at p
        exact p.elim
    | ex e S1 =>
      have p : PostS X.K X.mg W ρ H Dd (.ex e sl S1) := by rw [o] at p; exact p
      exact fun C dd ρ1 H1 x1 w1 r1 => p C dd σ ρ1 H1 x1 w1 (rs.ext x1) r1
    | bad => rw [o] at p; exact p.elim
theorem s_raiseZ0 (tk : Takes X W) (hc : X.calm = true) (M : XMk X.prog X.w X.K X.mg X.base x C k tag []) (hr : Room (k + 1) X.A) {pr : Pos} (hg : Gl X x := by rfl) (hdb : (x == ("__debug__" : Str)) = false := by decide) :
    ES X W (.Raise (some (.Call (.Name x p) [] [] pos)) none pr) (sRaise (eArgs (excS x tag []) aNil)) := by
  refine PS.imp (ps_raise hc tk (t := fun σ H Q => ∀ d, H d = none → Q (.ref C) (some d) (upd H d (.xd (excFs tag [] [])))) ?_) fun Dd σ H ⟨ρ, S, sl, w, rs, p⟩ => ?_
  · intro pins s σ H Q I h
    refine wpAny_Call_Name_kw (ld_glob I hg M.hm ?_ hdb)
    exact PySem.W.callWith_K0 I.kIn M.keep (run_excM (us := []) (vs := []) M hr I .nil rfl (by decide) h)
  · exact fun d hd => ex_exc (flds := []) (ds := []) M.hm w rs RepL.nil rfl hd p
end
end Z
/-! ZX2: try .. except T as n: the exception is held as a value in the suite. -/
namespace L2
open PySem PySem.Spec PyProof.Rows
section
variable {X : Cx} {pins : List (Addr × Obj)} {σ : St} {H : Hp} {sI s s' : Shared} {B : Heap}
/-- landed, and the exception's object is tracked -/
theorem Inv.landedT {a C d : Addr} {oe : Obj} {vs : Array Value} (I : Inv X pins σ H sI) (nb : ∀ b o, sI.heap.get? b = some o → b ∉ frs X.stack → B.get? b = some o) (st : B.StaysIn s'.heap) (up : sI.heap.UpToSlots s'.heap) (os : s'.os = sI.os) (ag : AllBare s'.gens)
    (ha : s'.heap.get? a = some oe) (hz : Zc (.ref C) (some d) oe) (hd : oe.data = .fields vs) (na : H a = none) (nB : B.get? a = none) (nf : a ∉ frs X.stack) : Inv X pins σ (upd H a (Z.ExD a C d)) s' := by
  have nI : sI.heap.get? a = none := by
    cases e : sI.heap.get? a with
    | none => rfl
    | some o => have := nb a o e nf; rw [nB] at this; cases this
  have ne : ∀ {b : Addr} {o : Obj}, sI.heap.get? b = some o → b ≠ a := fun {b o} e z => by rw [z, nI] at e; cases e
  have nH : ∀ {b : Addr} {u : HO}, H b = some u → b ≠ a := fun {b u} e z => by rw [z, na] at e; cases e
  have nff : ∀ b ∈ frs X.stack, ∀ o, sI.heap.get? b = some o → ∃ sl, s'.heap.get? b = some { o with slots := sl } := fun b hb o e => by
    obtain ⟨_, o', e', hd⟩ := I.stack.mem hb
    rw [e] at e'; cases e'
    exact up b o e hd
  have hok : HOk X.prog X.w (upd H a (Z.ExD a C d)) s'.heap := fun b o e => by
    by_cases hb : b = a
    · subst hb
      rw [upd_same] at e; cases e
      exact ⟨⟨oe, vs, ha, hz, hd⟩, ⟨oe, ha⟩, fun h1 h2 ⟨oe, ws, e, z⟩ st => ⟨oe, ws, st _ e, z⟩⟩
    · rw [upd_ne hb] at e
      exact (((I.inGround nb).kept st) b o e).stay (fun c v _ q => q) (fun c q => by rw [upd_ne (nH q)]; exact q) fun c xs q => by rw [upd_ne (nH q)]; exact q
  have J := I.call (ch := []) (h' := s'.heap) (g' := s'.gens) (t' := s'.toks) (d' := s'.drawn) (H' := upd H a (Z.ExD a C d))
    ⟨fun b o e _ hb _ => st b o (nb b o e hb), fun b o e _ hb _ => nff b hb o e, fun b o e n _ => by rw [upd_ne (ne e)]; exact n, fun b o e _ => by
      by_cases hb : b ∈ frs X.stack
      · obtain ⟨sl, q⟩ := nff b hb o e
        exact ⟨_, q⟩
      · exact ⟨o, st b o (nb b o e hb)⟩, fun b xs e => by rw [upd_ne (nH e)]; exact e, fun b o u e => by rw [upd_ne (nH e)]; exact e, fun b ps e => ⟨#[], by rw [upd_ne (nH e), e]; simp⟩⟩
    hok ag (fun _ z => nomatch z)
  obtain ⟨h, g, dr, t, os'⟩ := s'
  obtain rfl : os' = sI.os := os
  exact J
theorem Inv.suiteT (I : Inv X pins σ H s) (a : Addr) : Inv (X.suite a (X.pn ++ pins)) [] σ H s :=
  ⟨I.ok.suite _ _, I.os, I.bare, I.base, I.loc, I.cell, I.free, I.freeC, fun p hp => by
    have hp' : p ∈ (X.pn ++ pins) ++ [] := hp
    rw [List.append_nil] at hp'
    exact I.pin p hp', I.hok, I.len⟩
theorem Inv.unsuiteT {a : Addr} {pn' : List (Addr × Obj)} (I : Inv (X.suite a (X.pn ++ pins)) pn' σ H s) (ok : X.Ok) : Inv X pins σ H s :=
  ⟨ok, I.os, I.bare, I.base, I.loc, I.cell, I.free, I.freeC, fun p hp => I.pin p (List.mem_append_left _ hp), I.hok, I.len⟩
end
/-- the test of a clause: it gives a value, by which the exception is asked -/
def TestEv (X : Cx) (test : Expr) (cs : List Value) : Prop :=
  ∀ (a : Addr) (pn : List (Addr × Obj)) (σ : St) (H : Hp) (s : Shared) (cls : Value) (b : Bool) (Q : Value → Shared → Prop) (E : Value → Shared → Prop), Inv (X.suite a pn) [] σ H s → PySem.W.exmAny X.K cls cs = some b → PySem.W.Looks (model X.prog X.w) s.heap (typeOf (.ref a)) cls →
    (∀ c s', s'.os = s.os → s'.gens = s.gens → (∀ b o, s.heap.get? b = some o → s'.heap.get? b = some o) → PySem.W.Looks (model X.prog X.w) s'.heap (excMatches (.ref a) c) b → Q c s') → wpAny (model X.prog X.w) (X.A.mark (some (.ref a))) (eval test X.env) Q E s
section
variable {X : Cx}
theorem suite_glob {a : Addr} {pn : List (Addr × Obj)} {σ : St} {H : Hp} {s : Shared} {x : Str} {C : Value} {p : Pos} {Q E : Value → Shared → Prop} (I : Inv (X.suite a pn) [] σ H s) (hg : Gl X x) (hm : X.mg x = some C) (h : Q C s) (hd : (x == ("__debug__" : Str)) = false := by decide) :
    wpAny (model X.prog X.w) (X.A.mark (some (.ref a))) (eval (.Name x p) X.env) Q E s := ld_glob (X := X.suite a pn) I hg hm h hd
theorem test_name {x : Str} {C : Value} {p : Pos} (hg : Gl X x) (hm : X.mg x = some C) (hd : (x == ("__debug__" : Str)) = false := by decide) : TestEv X (.Name x p) [C] := by
  intro a pn σ H s cls b Q E I hb LT h
  obtain ⟨b1, d1, x1, y1, z1⟩ := PySem.W.exmAny_cons hb
  have y1 : some false = some d1 := y1
  cases y1
  rw [Bool.or_false] at z1
  subst z1
  exact suite_glob I hg hm (h C s rfl rfl (fun _ _ e => e) (PySem.W.exm_one (M := model X.prog X.w) I.kIn LT x1)) hd
theorem test_tup3 {x1 x2 x3 : Str} {C1 C2 C3 : Value} {p1 p2 p3 p : Pos} {k : _} (g1 : Gl X x1) (m1 : X.mg x1 = some C1) (g2 : Gl X x2) (m2 : X.mg x2 = some C2) (g3 : Gl X x3) (m3 : X.mg x3 = some C3)
    (he : ∀ A : Unit, starEach [.Name x1 p1, .Name x2 p2, .Name x3 p3] X.env = [(false, eval (.Name x1 p1) X.env), (false, eval (.Name x2 p2) X.env), (false, eval (.Name x3 p3) X.env)] := by intro _; rfl)
    (d1 : (x1 == ("__debug__" : Str)) = false := by decide) (d2 : (x2 == ("__debug__" : Str)) = false := by decide) (d3 : (x3 == ("__debug__" : Str)) = false := by decide) : TestEv X (.Tuple [.Name x1 p1, .Name x2 p2, .Name x3 p3] k p) [C1, C2, C3] := by
  intro a pn σ H s cls b Q E I hb LT h
  refine wpAny_Tuple_spliced ?_
  rw [he ()]
  refine Calls.spliced_cons (suite_glob I g1 m1 ?_ d1)
  refine Calls.spliced_cons (suite_glob I g2 m2 ?_ d2)
  refine Calls.spliced_cons (suite_glob I g3 m3 ?_ d3)
  refine Calls.spliced_nil ⟨by show 3 ≤ sizeLine; rw [sizeLine_eq]; omega, ?_⟩
  have k : ∀ b o, s.heap.get? b = some o → (s.heap.push { cls := .type "tuple", data := .seq [C1, C2, C3].toArray }).get? b = some o := fun b o e => Heap.get?_push_of_some _ e
  exact h _ _ rfl rfl k (PySem.W.exm_tup3 (I.kIn.keeps k) (LT.keeps k) (Heap.get?_push_size _ rfl) hb)
theorem test_tup2 {x1 x2 : Str} {C1 C2 : Value} {p1 p2 p : Pos} {k : _} (g1 : Gl X x1) (m1 : X.mg x1 = some C1) (g2 : Gl X x2) (m2 : X.mg x2 = some C2)
    (he : ∀ A : Unit, starEach [.Name x1 p1, .Name x2 p2] X.env = [(false, eval (.Name x1 p1) X.env), (false, eval (.Name x2 p2) X.env)] := by intro _; rfl)
    (d1 : (x1 == ("__debug__" : Str)) = false := by decide) (d2 : (x2 == ("__debug__" : Str)) = false := by decide) : TestEv X (.Tuple [.Name x1 p1, .Name x2 p2] k p) [C1, C2] := by
  intro a pn σ H s cls b Q E I hb LT h
  refine wpAny_Tuple_spliced ?_
  rw [he ()]
  refine Calls.spliced_cons (suite_glob I g1 m1 ?_ d1)
  refine Calls.spliced_cons (suite_glob I g2 m2 ?_ d2)
  refine Calls.spliced_nil ⟨by show 2 ≤ sizeLine; rw [sizeLine_eq]; omega, ?_⟩
  have k : ∀ b o, s.heap.get? b = some o → (s.heap.push { cls := .type "tuple", data := .seq [C1, C2].toArray }).get? b = some o := fun b o e => Heap.get?_push_of_some _ e
  exact h _ _ rfl rfl k (PySem.W.exm_tup2 (I.kIn.keeps k) (LT.keeps k) (Heap.get?_push_size _ rfl) hb)
end
/-- what the clause wishes of an exception of the body: slot i is n's -/
def wHold (K : PySem.W.Frag) (cs : List Value) (i : Nat) (ts : TS) (Wout : WX) (D : Ends) : WX := fun cls d σ H =>
  ∃ b C dd, cls = .ref C ∧ d = some dd ∧ PySem.W.exmAny K cls cs = some b ∧ (b = true → ∀ a, H a = none → ts { nx := fun σ' H' => D.nx (σ'.set i none) H', rt := D.rt, bk := fun σ' H' => D.bk (σ'.set i none) H', ct := fun σ' H' => D.ct (σ'.set i none) H' } (σ.set i (some (.ref a))) (upd H a (Z.ExD a C dd))) ∧
    (b = false → Wout cls d σ H)
theorem fly_keeps {B h h' : Heap} {l : List Env} {a : Addr} {Z : Obj → Prop} (k : ∀ b o, h.get? b = some o → h'.get? b = some o) (f : HandSPX.FlyingZ B l a Z h) : HandSPX.FlyingZ B l a Z h' := by
  obtain ⟨k1, k2, k3, oe, vs, T, oT, ts, he, hz, hd, h1, hnT, hTe, hT, hdT, h3⟩ := f
  exact ⟨fun b o e => k b o (k1 b o e), k2, k3.of_keeps fun b o e _ => ⟨o, k b o e, rfl⟩, oe, vs, T, oT, ts, k _ _ he, hz, hd, h1, hnT, hTe, k _ _ hT, hdT, h3⟩
section
variable {X : Cx} {n : Str} {cs : List Value} {i : Nat} {body suite : List Stmt} {b₀ : Stmt} {test : Expr} {pos pos' : Pos} {tb : WX → TS} {ts : TS} {Wout : WX}
theorem ps_try_hold (hs : X.stack = X.env :: X.outer) (hf : X.env.frame = some X.env.locals) (hN : X.N.Nodup) (hi : X.N[i]? = some n) (hln : X.env.kindOf n = some .local) (hc : TestEv X test cs) (tk : Takes X Wout)
    (hb : ∀ (W : WX) (pn : List (Addr × Obj)) (xe : Value → Shared → Prop), Takes (X.tr pn xe) W → PassesOwn (model X.prog X.w) X.A X.env xe → PSs (X.tr pn xe) body (tb W))
    (hsu : ∀ (a : Addr) (pn : List (Addr × Obj)), PSs (X.suite a pn) (b₀ :: suite) ts) :
    PS X (.Try body [.ExceptHandler (some test) (some n) (b₀ :: suite) pos'] [] [] pos) (fun D σ H => tb (wHold X.K cs i ts Wout D) D σ H) := by
  refine ⟨fun pins s σ H D I h => ?_⟩
  have ok := I.ok
  have hfr : X.A.frames = some (X.env :: X.outer) := by rw [ok.frames, hs]
  have hloc : Loc X.env.scope n := .inl hln
  refine wpAny_Try_except ?_
  refine wpAny_mono ((hb (wHold X.K cs i ts Wout D) (X.pn ++ pins) (fun e s₁ => wpAny (model X.prog X.w) X.A (noteFrame e X.env) (fun _ s₂ => wpAny (model X.prog X.w) X.A (setFlight e none) (fun _ s₃ =>
    wpAny (model X.prog X.w) X.A (handleBy e X.env [.ExceptHandler (some test) (some n) (b₀ :: suite) pos']) (SP X pins D) X.xe s₃) X.xe s₂) X.xe s₁) (fun u s' xx => ?_) PassesOwn.looking).run [] s σ H D (I.toTry _) h) (fun f s1 hsp => ?_) (fun e s1 he => he)
  · -- the catch
    obtain ⟨a, B, sI, pins', σ', H', cls, d, rfl, J', nb, up, sky, na, os, ag, b, C, dd, rfl, rfl, hb1, hyes, hno⟩ := xx
    have J : Inv X pins σ' H' sI := J'.ofTry ok
    have sky' : Sky B (X.env :: X.outer) a (Zc (.ref C) (some dd)) X.env.locals s'.heap := by rw [← hs]; exact sky
    show wpAny (model X.prog X.w) X.A (noteFrame (.ref a) X.env) _ _ _
    refine Sky.land Zc.steady hfr hf sky' fun h3 fl3 up3 => ?_
    have J3 : Inv X pins σ' H' { s' with heap := h3 } := J.landed nb fl3.1 (up.trans up3) os ag
    obtain ⟨oe3, vs3, he3, hz3, hd3⟩ := fl3.there
    have notFr : ∀ {h : Heap} {o : Obj} {vs : Array Value}, h.FunFrames B (X.env :: X.outer) → h.get? a = some o → o.data = .fields vs → a ∉ frs (X.env :: X.outer) := fun {h o vs} ff e dd hm => by
      obtain ⟨_, o', e', hnf⟩ := ff.mem hm
      rw [e] at e'; cases e'
      exact hnf _ dd
    have nfr := notFr fl3.2.2.1 he3 hd3
    have nfs : a ∉ frs X.stack := by rw [hs]; exact nfr
    have S3 : Inv (X.suite a (X.pn ++ pins)) [] σ' H' { s' with heap := h3 } := J3.suiteT a
    refine wpAny_handleBy_cons (codeAny_handlers_test ?_) (by intro q; cases q)
    have LT : PySem.W.Looks (model X.prog X.w) h3 (typeOf (.ref a)) (.ref C) := fun A Q E s k q => wpAny_typeOf_ref (k _ _ he3) (by rw [hz3.1]; exact q)
    refine hc a (X.pn ++ pins) σ' H' { s' with heap := h3 } (.ref C) b _ _ S3 hb1 LT fun c s3' os3 ag3 k3 LM => ?_
    have fl3' := fly_keeps k3 fl3
    have up3' : h3.UpToSlots s3'.heap := fun b o e _ => ⟨o.slots, k3 b o e⟩
    have osT : s3'.os = sI.os := os3.trans os
    have agT : AllBare s3'.gens := by rw [ag3]; exact ag
    refine LM.here ?_
    cases b with
    | true =>
      refine codeAny_handlers_suite_as ?_
      refine HandSPX.lands_againZ fl3' fun h4 fl4 up4 => ?_
      obtain ⟨oe4, vs4, he4, hz4, hd4⟩ := fl4.there
      have J4 : Inv X pins σ' (upd H' a (Z.ExD a C dd)) { s3' with heap := h4 } := J.landedT nb fl4.1 (((up.trans up3).trans up3').trans up4) osT agT he4 hz4 hd4 na fl4.2.1 nfs
      have S4 := J4.suiteT a
      refine store_ok (X := X.suite a (X.pn ++ pins)) (v := .ref a) S4 hN hi hloc rfl (fun s5 S5 => ?_) (.inr hln)
      refine wpAny_mono ((hsu a (X.pn ++ pins)).run [] s5 _ _ _ S5 (hyes rfl a na)) (fun f s6 hsp => ?_) (fun _ _ z => False.elim z)
      have end_ : ∀ {σ6 : St} {H6 : Hp} {Q : Shared → Prop}, Inv (X.suite a (X.pn ++ pins)) [] σ6 H6 s6 → (∀ s7, Inv X pins (σ6.set i none) H6 s7 → Q s7) →
          wpAny (model X.prog X.w) X.A (do bindName X.env n .none; unbindBehindTheSuite X.env n pos') (fun _ s7 => Q s7) X.xe s6 := fun {σ6 H6 Q} S6 hq => gone_ok (S6.unsuiteT ok) hN hi hln hq
      cases f with
      | next =>
        obtain ⟨σ6, H6, S6, q6⟩ := hsp
        exact end_ S6 fun s7 J7 => ⟨_, _, J7, q6⟩
      | brk =>
        obtain ⟨σ6, H6, S6, q6⟩ := hsp
        exact end_ S6 fun s7 J7 => ⟨_, _, J7, q6⟩
      | cont =>
        obtain ⟨σ6, H6, S6, q6⟩ := hsp
        exact end_ S6 fun s7 J7 => ⟨_, _, J7, q6⟩
      | ret u =>
        obtain ⟨v6, σ6, H6, S6, r6, q6⟩ := hsp
        exact end_ S6 fun s7 J7 => ⟨_, _, _, J7, r6, q6⟩
    | false =>
      show wpAny _ X.A (handleBy (.ref a) X.env []) _ _ _
      refine wpAny_handleBy_nil ?_
      obtain ⟨k1, k2, kk3, oe, vs, T, oT, ts', he, hz, hd, h1, hr⟩ := id fl3'
      unfold PySem.passOn
      refine wpAny_bind (wpAny_field he hd h1 ?_)
      rw [if_neg (show ¬ ((Value.ref T == Value.none) = true) from by simp)]
      have fin : wpAny (model X.prog X.w) X.A (setFlight (.ref a) X.env.frame) (fun _ s4 => wpAny (model X.prog X.w) X.A (throw (.ref a) : Sem Flow) (SP X pins D) X.xe s4) X.xe s3' := by
        rw [hf]
        refine HandSPX.setFlight_upZ fl3' fun h4 hh4 up4 => wpAny_throw (tk _ _ ?_)
        exact ⟨a, B, sI, pins, σ', H', .ref C, some dd, rfl, J, nb, ((up.trans up3).trans up3').trans up4, .inr (.inr (by rw [hs]; exact hh4)), na, osT, agT, hno rfl⟩
      first
        | exact wpAny_bind (wpAny_pure (wpAny_bind fin))
        | exact wpAny_bind fin
  · cases f with
    | next =>
      obtain ⟨σ', H', J', q⟩ := hsp
      exact wpAny_execs_nil ⟨σ', H', J'.ofTry ok, q⟩
    | brk =>
      obtain ⟨σ', H', J', q⟩ := hsp
      exact ⟨σ', H', J'.ofTry ok, q⟩
    | cont =>
      obtain ⟨σ', H', J', q⟩ := hsp
      exact ⟨σ', H', J'.ofTry ok, q⟩
    | ret u =>
      obtain ⟨v, σ', H', J', r, q⟩ := hsp
      exact ⟨v, σ', H', J'.ofTry ok, r, q⟩
end
end L2
/-! ZX3: on data: try, a held exception read and asked, defs called within an except suite. -/
namespace Z
open PySem PySem.Spec L2 PyProof.Rows

/-! ### defs called within an except suite -/
def FnT (P : Program) (w : World) (K : PySem.W.Frag) (mg : Str → Option Value) (base : Heap) (k : Nat) (f : Addr) (sp : Sp) : Prop :=
  ∀ (A : Around) (outer : List Env) (s : Shared) (H : Hp) (us : List Value) (vs : List V) (Q : VK) (E : XK), L2H.RoomH k A → Env0 P w K mg base A outer s H → Vals vs us → sp vs H Q E → codeAny (model P w) A (.call (.ref f) ⟨us, []⟩) (CR (L2.CX P w) outer P w H s Q E) s
abbrev FZT (P : Program) (w : World) (K : PySem.W.Frag) (mg : Str → Option Value) (base : Heap) (k : Nat) (f : Addr) (g : SemL) : Prop := FnT P w K mg base k f (spZ K mg g)
def cxT (CX : CXT) (P : Program) (w : World) (K : PySem.W.Frag) (mg : Str → Option Value) (base : Heap) (N : List Str) (qual : Str) (scope : Scope) (f : Addr) (cd : Value) (A : Around) (outer : List Env) (s : Shared) (H : Hp) (E : XK) : Cx :=
  { cxOf CX P w K mg base N qual scope f cd A outer s H E with calm := false }
theorem inv_startT {CX : CXT} {P : Program} {w : World} {K : PySem.W.Frag} {mg : Str → Option Value} {base : Heap} {N ps : List Str} {qual : Str} {scope : Scope} {f : Addr} {cd : Value} {A : Around} {outer : List Env} {s s1 : Shared} {H : Hp} {E : XK} {us : List Value} {vs : List V}
    (S : FnScope N ps scope) (e0 : Env0 P w K mg base A outer s H) (hl : vs.length = ps.length) (r : Vals vs us)
    (x : InCallC s s.heap.objs.size (bindL (envOfC qual scope s.heap.objs.size f cd).kindOf (ps.zip us) fun _ => none) (cellsFrom (s.heap.objs.size + 1) scope.names []) (bindC (envOfC qual scope s.heap.objs.size f cd).kindOf (ps.zip us) fun _ => none) s1) :
    Inv (cxT CX P w K mg base N qual scope f cd A outer s H E) [] (L2.start N vs) H s1 := by
  have hpl : ps.length ≤ N.length := by have := congrArg List.length S.pre; rw [List.length_take] at this; omega
  obtain ⟨h1, tk, rfl, hk⟩ := x.done
  have noA : ∀ b : Addr, b ∉ (cxT CX P w K mg base N qual scope f cd A outer s H E).ex := fun b z => absurd (show b ∈ ([] : List Addr) from z) (by simp)
  refine ⟨⟨e0.mod, S.kind, rfl, rfl, Nat.le_refl _, fun y z c h1 h2 => ?_, fun y hy => ?_, fun y c _ h => ?_, (fun z => Bool.noConfusion (show false = true from z)), Around.frames_deeper e0.frames, .inr ⟨rfl, rfl⟩, fun b z => absurd z (noA b), e0.bs, e0.bsz, fun b _ _ => noA b, fun b z => absurd z (noA b), e0.funs, e0.frf⟩,
    rfl, e0.bare, Un.kept hk, ⟨_, x.toInCall.ns, fun i y v h1 h2 h3 => ?_⟩, fun y c h => ⟨_, x.cell y c h⟩, e0.hok.fresh (Nat.le_refl _), fun y c h => ?_, fun q hq => ?_, e0.hok.kept hk, ?_⟩
  · exact name_of_addr x.apart (PySem.mem_of_lookup h1) (PySem.mem_of_lookup h2)
  · have hy : scope.names.lookup y = some .cell ∨ scope.names.lookup y = some .free := hy
    rcases hy with hy | hy
    · exact cell_has hy
    · exact absurd rfl (S.nofree _ (PySem.mem_of_lookup hy))
  · exact Nat.le_of_lt (x.above y c (PySem.mem_of_lookup h))
  · have hi : i < vs.length := by
      unfold L2.start at h2
      by_cases hi : i < vs.length
      · exact hi
      · rw [List.getElem?_append_right (by simpa using hi)] at h2
        rw [List.getElem?_replicate] at h2
        split at h2 <;> cases h2
    have ha : vs[i]? = some v := by
      unfold L2.start at h2
      rw [List.getElem?_append_left (by simpa using hi), List.getElem?_map] at h2
      cases e : vs[i]? with
      | none => rw [e] at h2; cases h2
      | some a => rw [e] at h2; cases h2; rfl
    obtain ⟨u, hu, rv⟩ := r.get ha
    have hp : ps[i]? = some y := by
      rw [← S.pre, List.getElem?_take_of_lt (by omega)]; exact h1
    have ndP : ps.Nodup := by rw [← S.pre]; exact S.nd.sublist (List.take_sublist _ _)
    refine ⟨u, rv, ?_⟩
    rcases S.par y (List.mem_of_getElem? hp) with k | k
    · exact .inl ⟨k, bindL_get ndP hp hu k⟩
    · obtain ⟨c, e⟩ := cell_has (n := s.heap.objs.size + 1) k
      refine .inr ⟨.inl k, c, e, ?_⟩
      have q := x.cell y c e
      rw [bindC_get ndP hp hu (by show scope.names.lookup y ≠ _; rw [k]; decide)] at q
      exact q
  · exact e0.hok.fresh (Nat.le_of_lt (x.above y c (PySem.mem_of_lookup h)))
  · exact absurd (show q ∈ ([] : List (Addr × Obj)) ++ [] from hq) (by simp)
  · unfold L2.start
    show _ = N.length
    rw [List.length_append, List.length_map, List.length_replicate]
    omega
section
variable {P : Program} {w : World} {K : PySem.W.Frag} {mg : Str → Option Value} {base : Heap}
theorem fz_hot {x qual : Str} {st : Stmt} {f : Addr} {fd : FuncData} {N ps : List Str} {k : Nat} {body : SX} (F : Fun K x qual st f fd) (Sc : FnScope N ps (defScope st)) (hbi : Binds K fd ps [])
    (hb : ∀ (cdv : Value) (A : Around) (outer : List Env) (s : Shared) (H : Hp) (E : XK), L2H.RoomH k (A.deeper (envOfC qual (defScope st) s.heap.objs.size f cdv)) →
      ESs (cxT (L2.CX P w) P w K mg base N qual (defScope st) f cdv A outer s H E) (fun c d _ H' => E c d H') (defBody st) body) :
    FZT P w K mg base (k + 1) f (arity ps.length (defS N.length body)) := by
  obtain ⟨oc, od, kV, doc, pm, an, cdv, ct, osl, rfl, lk, hcd⟩ := F.ex
  intro A outer s H us vs Q E hr e0 r ⟨ρ, S, ds, w0, rl, p⟩
  unfold arity at p
  split at p
  · rename_i hln
    have hl : vs.length = ps.length := by rw [← rl.len]; exact hln
    have hus : us.length = ps.length := by rw [← r.length]; exact hl
    have KX : K.In s.heap := e0.mod.kin.keeps fun b o e => (e0.bs b o e).1
    have lim : s.heap.NoLimit := e0.mod.nolimit.keeps fun b o e => (e0.bs b o e).1
    have hbd := hbi s us KX (by rw [List.append_nil]; exact hus)
    rw [List.append_nil] at hbd
    have hkind : ∀ y ∈ ps.zip us, (defScope st).names.lookup y.1 = some .local ∨ ((defScope st).names.lookup y.1 = some .cell ∧ ((cellsFrom (s.heap.objs.size + 1) (defScope st).names []).lookup y.1).isSome = true) := fun ⟨n, v⟩ hy => by
      rcases Sc.par n (List.of_mem_zip hy).1 with q | q
      · exact .inl q
      · exact .inr ⟨q, PySem.W.cellsFrom_some _ _ _ (.inl q)⟩
    refine codeAny_call_function hr.depth (KX _ _ lk) rfl Sc.co Sc.gen rfl (PySem.W.codeRec_of KX hcd) (hbd _ _ _ _ ?_)
    refine wpAny_newFunctionEnv_cells Sc.kind hkind fun env he s1 x => ?_
    subst he
    refine ⟨lim.keeps x.toInCall.keep, codeAny_func ?_⟩
    have I := inv_startT (CX := L2.CX P w) (E := E) (cd := cdv) (f := f) (qual := qual) Sc e0 hl r x
    have p := fin_imp w0 p
    refine wpAny_mono ((hb cdv A outer s H E (hr.deeper _)).run [] s1 (L2.start N vs) H { nx := fun _ H' => Q .non H', rt := Q } I ⟨ρ, S, _, w0, rst_start rl, ?_⟩) (fun fl s' hs => ?_) fun e s' hs => hs
    · cases q : body (ds.map some ++ List.replicate (N.length - ds.length) none) S with
      | nx sl S' => rw [q] at p; exact fun σ' ρ' H' x w1 r1 => p .non ρ' H' x w1 (by rw [Rep])
      | rt d S' => rw [q] at p; exact p
      | ex e sl S' => rw [q] at p; exact fun C dd σ' ρ' H' x w1 _ r1 => p C dd ρ' H' x w1 r1
      | bk sl S' => rw [q] at p; exact p.elim
      | ct sl S' => rw [q] at p; exact p.elim
      | bad => rw [q] at p; exact p.elim
    · have fin : ∀ {σ' : L2.St} {H' : Hp} {v : V} {u : Value}, Inv (cxT (L2.CX P w) P w K mg base N qual (defScope st) f cdv A outer s H E) [] σ' H' s' → RelV v u → Q v H' → CE outer P w H s Q u s' :=
        fun {σ' H' v u} J rv q => ⟨v, H', J.os, J.bare, J.base, J.hok, rv, q⟩
      cases fl with
      | ret u =>
        obtain ⟨v, σ', H', J, rv, q⟩ := hs
        exact fin J rv q
      | next =>
        obtain ⟨σ', H', J, q⟩ := hs
        exact fin (v := V.non) (u := Value.none) J rfl q
      | brk =>
        obtain ⟨_, _, _, q⟩ := hs
        exact False.elim q
      | cont =>
        obtain ⟨_, _, _, q⟩ := hs
        exact False.elim q
  · exact p.elim
end
section
variable {X : Cx} {W : WX} {k : Nat} {f : Addr} {g : SemL} {x : Str} {p pos : Pos} {e : Expr} {es : List Expr} {fa : AX}
theorem run_fnT {pins : List (Addr × Obj)} {σ : L2.St} {H : Hp} {s : Shared} {Q : VK} {us : List Value} {vs : List V} {sp : Sp} {E : XK} (F : FnT X.prog X.w X.K X.mg X.base k f sp) (hr : L2H.RoomH k X.A) (hx : PassesAt (L2.CX X.prog X.w) X σ E) (I : Inv X pins σ H s) (r : Vals vs us) (h : sp vs H Q E) :
    wpAny (model X.prog X.w) X.A (PySem.call (.ref f) us) (EP X pins σ Q) X.xe s := by
  refine wpAny_call (codeAny_mono (F X.A X.stack s H us vs Q E hr I.env0 r h) fun r s' hq => ?_)
  cases r with
  | error e => exact hx pins H s e s' I hq
  | ok fl =>
    cases fl with
    | ret u => exact I.after hq
    | next => exact False.elim hq
    | brk => exact False.elim hq
    | cont => exact False.elim hq
theorem r_callHot (tk : Takes X W) (F : FZT X.prog X.w X.K X.mg X.base k f g) (hr : L2H.RoomH k X.A) (hm : X.mg x = some (.ref f)) (hk : PySem.W.keepIn X.K (.ref f) = true)
    (ha : EA X W (e :: es) fa) (hg : Gl X x := by rfl) (hdb : (x == ("__debug__" : Str)) = false := by decide) (he : starEach (e :: es) X.env = (false, eval e X.env) :: starEach es X.env := by rfl) (hpl : (backTo pos (starEach es X.env)).any (·.1) = false := by rfl) :
    E X W (.Call (.Name x p) (e :: es) [] pos) (eArgs g fa) := by
  refine ⟨fun pins s σ H Q I h => ?_⟩
  refine wpAny_Call_Name_kw (ld_glob I hg hm ?_ hdb)
  have h' := argsem_imp (k := fun vs H1 => spZ X.K X.mg g vs H1 Q (WE W σ)) h fun ρ S H1 ds vs w r p => ⟨ρ, S, ds, w, r, p⟩
  refine PySem.W.callWith_K (h₀ := X.base) I.ok.mod.kin hk (thn (ha.run pos pins s σ H _ I h') fun us s1 ⟨vs, H1, I1, r, q⟩ => ⟨I1.kIn, ?_⟩) he hpl
  exact run_fnT F hr (passAt tk σ) I1 r q
end

/-! ### e.f of a held exception -/
def eXat (f : Str) (cs : List Str) (fo : EX) : EX := fun sl S => (fo sl S).bind fun d S1 => match d with
  | .exc c ns vs => if c ∈ cs then (match lookN f ns vs with
    | some v => .ok v S1
    | none => .bad) else .bad
  | _ => .bad
/-- the classes whose held instances have the field -/
def XatOk (X : Cx) (f : Str) (cs : List Str) : Prop := ∀ c ∈ cs, ∀ C, X.mg c = some (.ref C) → XfC X.K C ∧ PySem.W.findIn X.K (.ref C) f = some none
theorem r_xat {X : Cx} {W : WX} {f : Str} {cs : List Str} {o : Expr} {fo : EX} {pos : Pos} (ht : XatOk X f cs) (ho : E X W o fo) (hb : attributeBase o f X.env (eval o X.env) = eval o X.env := by rfl) : E X W (.Attribute o f pos) (eXat f cs fo) := by
  refine ⟨fun pins s σ H Q I h => ?_⟩
  obtain ⟨ρ, S, sl, w, rs, p⟩ := h
  refine attr_of hb (thn (ho.run pins s σ H _ I ⟨ρ, S, sl, w, rs, PostE.bindE p⟩) fun u s1 ⟨x, H1, I1, rx, ρ1, S1, d, x1, w1, r1, _, p1⟩ => ?_)
  cases d with
  | exc c ns vs =>
    dsimp only at p1
    split at p1
    · rename_i hc
      rw [Rep] at r1
      obtain ⟨a, C, dd, fs, ex, na, nd, hm, ha, hd, hn, rl⟩ := r1
      subst ex
      obtain rfl : u = Value.ref a := rx
      obtain ⟨T, hno⟩ := ht c hc C hm
      split at p1
      · rename_i v ev
        obtain ⟨v', h1, h2⟩ := lookN_rep hn rl ev
        obtain ⟨⟨oe, ws, he, hz, hdt⟩, _, _⟩ : ObjOk X.prog X.w H1 s1.heap a (.ext fun h => ∃ (oe : Obj) (vs : Array Value), h.get? a = some oe ∧ Zc (.ref C) (some dd) oe ∧ oe.data = .fields vs) := I1.hok a _ ha
        have hx : ObjOk X.prog X.w H1 s1.heap dd (.xd fs) := I1.hok dd _ hd
        obtain ⟨mA, hns, hr⟩ := hx
        obtain ⟨od, ho', hl⟩ := lookIn_ns hns
        obtain ⟨u', hu, ru⟩ := RelO.some_of (v := v') (o := mA f) (by rw [← h1]; exact hr f)
        have J : PySem.W.InstAt s1.heap a oe C (some od) := ⟨he, hz.1, by unfold PySem.W.notCls; rw [hdt] <;> rfl, by rw [hz.2]; exact ho'⟩
        exact HandSPX.exc_get I1.kIn J T.ga T.gg T.exC (PySem.W.findObj_own T.hdC hno rfl (by rw [hl, hu])) (handed_of ru) ⟨v', H1, I1.tok _, ru, post_ok p1 w1 h2⟩
      · exact p1.elim
    · exact p1.elim
  | _ => exact p1.elim

/-! ### try -/
def sTry (tab : List (Str × Bool)) (i : Nat) (fb fs : SX) : SX := fun sl S => match fb sl S with
  | .ex (.ins c ns ds) sl1 S1 => (match tab.lookup c with
    | some true => (match fs (sl1.set i (some (.exc c ns ds))) S1 with
      | .nx sl2 S2 => .nx (sl2.set i none) S2
      | .bk sl2 S2 => .bk (sl2.set i none) S2
      | .ct sl2 S2 => .ct (sl2.set i none) S2
      | .rt d S2 => .rt d S2
      | _ => .bad)
    | some false => .ex (.ins c ns ds) sl1 S1
    | none => .bad)
  | o => o
def TryOk (X : Cx) (cs : List Value) (tab : List (Str × Bool)) : Prop := ∀ c b, tab.lookup c = some b → ∀ C, X.mg c = some (.ref C) → PySem.W.exmAny X.K (.ref C) cs = some b
theorem RSt.setN {K : PySem.W.Frag} {mg : Str → Option Value} {ρ : List Addr} {H : Hp} {σ : L2.St} {sl : Sl} (r : RSt K mg ρ H σ sl) (i : Nat) : RSt K mg ρ H (σ.set i none) (sl.set i none) := by
  refine ⟨by simp [r.len], fun j d e => ?_⟩
  by_cases h : i = j
  · subst h
    by_cases hl : i < sl.length
    · rw [List.getElem?_set_self hl] at e; cases e
    · rw [List.getElem?_eq_none (by simpa using hl)] at e; cases e
  · rw [List.getElem?_set_ne h] at e
    obtain ⟨v, e1, e2⟩ := r.at_ j d e
    exact ⟨v, by rw [List.getElem?_set_ne h]; exact e1, e2⟩
theorem s_tryZ {X : Cx} {W : WX} {n : Str} {cs : List Value} {tab : List (Str × Bool)} {i : Nat} {body suite : List Stmt} {b₀ : Stmt} {test : Expr} {pos pos' : Pos} {fb fs : SX} (hs : X.stack = X.env :: X.outer) (hf : X.env.frame = some X.env.locals) (hN : X.N.Nodup) (hi : X.N[i]? = some n) (hln : X.env.kindOf n = some .local) (hc : TestEv X test cs) (tk : Takes X W) (ht : TryOk X cs tab)
    (hb : ∀ (W' : WX) (pn : List (Addr × Obj)) (xe : Value → Shared → Prop), Takes (X.tr pn xe) W' → ESs (X.tr pn xe) W' body fb)
    (hsu : ∀ (a : Addr) (pn : List (Addr × Obj)), ESs (X.suite a pn) WF (b₀ :: suite) fs) :
    ES X W (.Try body [.ExceptHandler (some test) (some n) (b₀ :: suite) pos'] [] [] pos) (sTry tab i fb fs) := by
  refine PS.imp (ps_try_hold (tb := fun W' => trS X.K X.mg W' fb) (ts := trS X.K X.mg WF fs) hs hf hN hi hln hc tk (fun W' pn xe tk' _ => hb W' pn xe tk') hsu) fun D σ H ⟨ρ, S, sl, w, rs, p⟩ => ?_
  refine ⟨ρ, S, sl, w, rs, ?_⟩
  unfold sTry at p
  cases o : fb sl S with
  | nx sl1 S1 => rw [o] at p; exact p
  | bk sl1 S1 => rw [o] at p; exact p
  | ct sl1 S1 => rw [o] at p; exact p
  | rt d S1 => rw [o] at p; exact p
  | bad => rw [o] at p; exact p.elim
  | ex e sl1 S1 =>
    rw [o] at p
    intro C dd σ1 ρ1 H1 x1 w1 rs1 r1
    obtain ⟨c, ns, ds, Ca, da, fs', rfl, hm, rfl, rfl, nd, hd, hn, rl⟩ := r1
    dsimp only at p
    cases q : tab.lookup c with
    | none => rw [q] at p; exact p.elim
    | some b =>
      refine ⟨b, Ca, da, rfl, rfl, ht c b q Ca hm, fun hbt a na => ?_, fun hbf => ?_⟩
      · subst hbt
        rw [q] at p
        dsimp only at p
        have hda : da ≠ a := fun z => by rw [z, na] at hd; cases hd
        have x2 : Ext ρ1 H1 ρ1 (upd H1 a (ExD a Ca da)) := Ext.new' na
        have w2 : WOk X.K X.mg ρ1 (upd H1 a (ExD a Ca da)) S1 := w1.new' na
        have rv : Rep X.K X.mg ρ1 (upd H1 a (ExD a Ca da)) (.exc c ns ds) (.ref a) := by
          rw [Rep]
          exact ⟨a, Ca, da, fs', rfl, w1.nin na, nd, hm, upd_same, by rw [upd_ne hda]; exact hd, hn, rl.ext x2⟩
        refine ⟨ρ1, S1, sl1.set i (some (.exc c ns ds)), w2, (rs1.ext x2).set rv i, ?_⟩
        have x3 := x1.trans x2
        cases o2 : fs (sl1.set i (some (.exc c ns ds))) S1 with
        | nx sl2 S2 => rw [o2] at p; exact fun σ' ρ' H' x w r => p _ ρ' H' (x3.trans x) w (r.setN i)
        | bk sl2 S2 => rw [o2] at p; exact fun σ' ρ' H' x w r => p _ ρ' H' (x3.trans x) w (r.setN i)
        | ct sl2 S2 => rw [o2] at p; exact fun σ' ρ' H' x w r => p _ ρ' H' (x3.trans x) w (r.setN i)
        | rt d S2 => rw [o2] at p; exact fun v ρ' H' x w r => p v ρ' H' (x3.trans x) w r
        | ex e sl2 S2 => rw [o2] at p; exact p.elim
        | bad => rw [o2] at p; exact p.elim
      · subst hbf
        rw [q] at p
        exact p _ _ σ1 ρ1 H1 x1 w1 rs1 ⟨c, ns, ds, Ca, da, fs', rfl, hm, rfl, rfl, nd, hd, hn, rl⟩
end Z
/-! ZX4: lambdas: cells tracked and let go. -/
namespace Z
open PySem PySem.Spec L2 PyProof.Rows

abbrev Cs := List (Addr × Obj)
def addC (cs : Cs) (H : Hp) : Hp := fun b => match cs.lookup b with
  | some o => some (.frz o (.own 0))
  | none => H b
def delC (cs : Cs) (H : Hp) : Hp := fun b => match cs.lookup b with
  | some _ => none
  | none => H b
theorem addC_in {cs : Cs} {H : Hp} {b : Addr} {o : Obj} (h : cs.lookup b = some o) : addC cs H b = some (.frz o (.own 0)) := by unfold addC; rw [h]
theorem addC_out {cs : Cs} {H : Hp} {b : Addr} (h : cs.lookup b = none) : addC cs H b = H b := by unfold addC; rw [h]
theorem delC_in {cs : Cs} {H : Hp} {b : Addr} {o : Obj} (h : cs.lookup b = some o) : delC cs H b = none := by unfold delC; rw [h]
theorem delC_out {cs : Cs} {H : Hp} {b : Addr} (h : cs.lookup b = none) : delC cs H b = H b := by unfold delC; rw [h]
/-- the cells stand in the heap, nobody tracks them -/
structure CsOk (cs : Cs) (fs : List Addr) (H : Hp) (h : Heap) : Prop where
  get : ∀ c o, cs.lookup c = some o → h.get? c = some o
  non : ∀ c o, cs.lookup c = some o → H c = none
  nofs : ∀ c o, cs.lookup c = some o → c ∉ fs
/-- the cells are tracked -/
def CsIn (cs : Cs) (H : Hp) : Prop := ∀ c o, cs.lookup c = some o → H c = some (.frz o (.own 0))
section
variable {P : Program} {w : World} {cs : Cs} {fs ρ : List Addr} {H H' H2 : Hp} {h h' : Heap} {K : PySem.W.Frag} {mg : Str → Option Value} {S : Store}
theorem CsOk.out (c : CsOk cs fs H h) {b : Addr} {u : HO} (e : H b = some u) : cs.lookup b = none := by
  cases q : cs.lookup b with
  | none => rfl
  | some o => rw [c.non b o q] at e; cases e
theorem CsIn.out (c : CsIn cs H) {b : Addr} {u : HO} (e : H b = some u) (n : ∀ o, u ≠ .frz o (.own 0)) : cs.lookup b = none := by
  cases q : cs.lookup b with
  | none => rfl
  | some o => rw [c b o q] at e; cases e; exact absurd rfl (n o)
theorem CsIn.out0 (c : CsIn cs H) {b : Addr} (e : H b = none) : cs.lookup b = none := by
  cases q : cs.lookup b with
  | none => rfl
  | some o => rw [c b o q] at e; cases e
theorem add_in : CsIn cs (addC cs H) := fun c o q => addC_in q
theorem ext_add (c : CsOk cs fs H h) : Ext ρ H ρ (addC cs H) := ⟨⟨[], by simp⟩, fun a x n => absurd x n, fun a o _ e => .inl (by rw [addC_out (c.out e)]; exact e)⟩
theorem wok_add (c : CsOk cs fs H h) (w : WOk K mg ρ H S) : WOk K mg ρ (addC cs H) S := by
  have eq : ∀ a ∈ ρ, addC cs H a = H a := fun a ha => by
    have t := w.tr a ha
    cases e : H a with
    | none => exact absurd e t
    | some u => rw [addC_out (c.out e), e]
  refine ⟨w.len, w.nd, fun a ha => by rw [eq a ha]; exact w.tr a ha, fun n a m e1 e2 => ?_⟩
  exact MRep.ext (ext_add c) (eq a (List.mem_of_getElem? e1)) (w.ob n a m e1 e2)
theorem hok_add (c : CsOk cs fs H h) (x : HOk P w H h) : HOk P w (addC cs H) h := fun b u e => by
  cases q : cs.lookup b with
  | some o =>
    rw [addC_in q] at e; cases e
    exact ⟨c.get b o q, o, c.get b o q⟩
  | none =>
    rw [addC_out q] at e
    exact (x b u e).stay (fun d v _ y => y) (fun d y => by rw [addC_out (c.out y)]; exact y) fun d xs y => by rw [addC_out (c.out y)]; exact y
theorem hok_del (c : CsIn cs H) (x : HOk P w H h) : HOk P w (delC cs H) h := fun b u e => by
  cases q : cs.lookup b with
  | some o => rw [delC_in q] at e; cases e
  | none =>
    rw [delC_out q] at e
    exact (x b u e).stay (fun d v _ y => y) (fun d y => by rw [delC_out (c.out y (by intros; nofun))]; exact y) fun d xs y => by rw [delC_out (c.out y (by intros; nofun))]; exact y
theorem kp_del (c : CsIn cs H) : Kp ρ H ρ (delC cs H) where
  rd := fun a u n1 n2 n r => ⟨n, by
    rcases r with r | ⟨o, r⟩
    · exact .inl (by rw [delC_out (c.out r (fun o e => n1 o _ e))]; exact r)
    · exact .inr ⟨o, by rw [delC_out (c.out r (fun o' e => by injection e with _ e2; exact n2 0 e2))]; exact r⟩⟩
  lst := fun a vs _ e => by rw [delC_out (c.out e (by intros; nofun))]; exact e
  tup := fun a vs _ e => by rw [delC_out (c.out e (by intros; nofun))]; exact e
  ins := fun a C dx fs _ e => by rw [delC_out (c.out e (by intros; nofun))]; exact e
  get := fun n a e => e
  ext := fun a φ n e => ⟨n, by rw [delC_out (c.out e (by intros; nofun))]; exact e⟩
  xd := fun a fs n e => ⟨n, by rw [delC_out (c.out e (by intros; nofun))]; exact e⟩
theorem rep_del (c : CsIn cs H) {d : D} {v : V} (n : noLc d = true) (r : Rep K mg ρ H d v) : Rep K mg ρ (delC cs H) d v := Rep.kp (kp_del c) d v (.inr n) r
theorem repL_del (c : CsIn cs H) {ds : List D} {vs : List V} (n : noLcL ds = true) (r : RepL K mg ρ H ds vs) : RepL K mg ρ (delC cs H) ds vs := RepL.kp (kp_del c) ds vs (.inr n) r
theorem mrep_del (c : CsIn cs H) {a : Addr} {m : MO} (n : noLcM m = true) (r : MRep K mg ρ H a m) : MRep K mg ρ (delC cs H) a m := by
  cases m with
  | lst ds =>
    obtain ⟨vs, h1, h2⟩ := r
    exact ⟨vs, by rw [delC_out (c.out h1 (by intros; nofun))]; exact h1, repL_del c n h2⟩
  | dct lk ks ds =>
    obtain ⟨kvs, h1, h2, h3⟩ := r
    have n : (noLcL ks && noLcL ds) = true := n
    rw [Bool.and_eq_true] at n
    refine ⟨kvs, ?_, repL_del c n.1 h2, repL_del c n.2 h3⟩
    cases lk with
    | true =>
      rw [if_pos rfl] at h1 ⊢
      rcases h1 with h1 | ⟨o, h1⟩
      · exact .inl (by rw [delC_out (c.out h1 (by intros; nofun))]; exact h1)
      · exact .inr ⟨o, by rw [delC_out (c.out h1 (by intros; nofun))]; exact h1⟩
    | false =>
      rw [if_neg Bool.false_ne_true] at h1 ⊢
      rw [delC_out (c.out h1 (by intros; nofun))]; exact h1
  | ins cl ns ds =>
    obtain ⟨C, dx, fs, h0, h1, h2, h3⟩ := r
    exact ⟨C, dx, fs, h0, by rw [delC_out (c.out h1 (by intros; nofun))]; exact h1, h2, repL_del c n h3⟩
  | tab P q =>
    obtain ⟨hP, ps, h1, h2, h3⟩ := r
    refine ⟨hP, ps, by rw [delC_out (c.out h1 (by intros; nofun))]; exact h1, h2, fun pos cv hc => ?_⟩
    obtain ⟨k, e1, nk, e2⟩ := h3 pos cv hc
    exact ⟨k, e1, nk, by unfold LamX.CodeO at e2 ⊢; rw [delC_out (c.out e2 (by intros; nofun))]; exact e2⟩
def noLcS (S : Store) : Bool := S.all noLcM
theorem wok_del (c : CsIn cs H) (nr : ∀ b o, cs.lookup b = some o → b ∉ ρ) (n : noLcS S = true) (w : WOk K mg ρ H S) : WOk K mg ρ (delC cs H) S := by
  refine ⟨w.len, w.nd, fun a ha => ?_, fun i a m e1 e2 => mrep_del c (List.all_eq_true.mp n m (List.mem_of_getElem? e2)) (w.ob i a m e1 e2)⟩
  cases q : cs.lookup a with
  | some o => exact absurd ha (nr a o q)
  | none => rw [delC_out q]; exact w.tr a ha
/-- behind a call that ran with the cells tracked -/
theorem un_del (c : CsOk cs fs H h) (x : HOk P w H2 h') (ci : CsIn cs H2) (u : Un fs [] (addC cs H) H2 h h') : Un fs [] H (delC cs H2) h h' where
  keep := fun b o e n hb hx => by
    cases q : cs.lookup b with
    | some oc =>
      have e2 := c.get b oc q
      rw [e2] at e
      obtain rfl : oc = o := Option.some.inj e
      exact (x b _ (ci b _ q)).1
    | none => exact u.keep b o e (by rw [addC_out q]; exact n) hb hx
  slot := fun b o e n hb hx => by
    cases q : cs.lookup b with
    | some oc => exact absurd hb (c.nofs b oc q)
    | none => exact u.slot b o e (by rw [addC_out q]; exact n) hb hx
  free := fun b o e n hx => by
    cases q : cs.lookup b with
    | some oc => exact delC_in q
    | none => rw [delC_out q]; exact u.free b o e (by rw [addC_out q]; exact n) hx
  there := u.there
  tups := fun b xs e => by rw [delC_out (c.out e)]; exact u.tups b xs (by rw [addC_out (c.out e)]; exact e)
  frzs := fun b o v e => by rw [delC_out (c.out e)]; exact u.frzs b o v (by rw [addC_out (c.out e)]; exact e)
  tbls := fun b ps e => by rw [delC_out (c.out e)]; exact u.tbls b ps (by rw [addC_out (c.out e)]; exact e)
theorem ext_del {ρ' : List Addr} (c : CsOk cs fs H h) (x : Ext ρ (addC cs H) ρ' H2) : Ext ρ H ρ' (delC cs H2) := by
  refine ⟨x.pre, fun a ha n => ?_, fun a o n e => ?_⟩
  · have q := x.new a ha n
    cases y : cs.lookup a with
    | some o => rw [addC_in y] at q; cases q
    | none => rw [addC_out y] at q; exact q
  · have y := c.out e
    rw [delC_out y]
    exact x.keep a o n (by rw [addC_out y]; exact e)
theorem ext_in {ρ' : List Addr} (nr : ∀ b o, cs.lookup b = some o → b ∉ ρ) (c : CsIn cs H) (x : Ext ρ H ρ' H2) : CsIn cs H2 ∧ ∀ b o, cs.lookup b = some o → b ∉ ρ' := ⟨fun b o q => x.kept (nr b o q) (c b o q) (by intros; nofun), fun b o q => x.nin (nr b o q) (c b o q)⟩
/-- around a lambda's run: the cells are let go and tracked again -/
theorem del_ok (c : CsIn cs H) (hf : ∀ b o, cs.lookup b = some o → b ∉ fs) (x : HOk P w H h) : CsOk cs fs (delC cs H) h := ⟨fun b o q => (x b _ (c b o q)).1, fun b o q => delC_in q, hf⟩
theorem add_del (c : CsIn cs H) : addC cs (delC cs H) = H := by
  funext b
  cases q : cs.lookup b with
  | some o => rw [addC_in q, c b o q]
  | none => rw [addC_out q, delC_out q]
theorem CsOk.un (c : CsOk cs fs H h) (u : Un fs [] H H' h h') : CsOk cs fs H' h' := ⟨fun b o q => u.keep b o (c.get b o q) (c.non b o q) (c.nofs b o q) (by simp), fun b o q => u.free b o (c.get b o q) (c.non b o q) (by simp), c.nofs⟩
theorem un_add (c : CsOk cs fs H h) (u : Un fs [] H H' h h') : Un fs [] (addC cs H) (addC cs H') h h' := by
  have c' := c.un u
  refine ⟨fun b o e n hb hx => ?_, fun b o e n hb hx => ?_, fun b o e n hx => ?_, u.there, fun b xs e => ?_, fun b o v e => ?_, fun b ps e => ?_⟩
  · have q := (add_in (cs := cs) (H := H)).out0 n
    rw [addC_out q] at n
    exact u.keep b o e n hb hx
  · have q := (add_in (cs := cs) (H := H)).out0 n
    rw [addC_out q] at n
    exact u.slot b o e n hb hx
  · have q := (add_in (cs := cs) (H := H)).out0 n
    rw [addC_out q] at n ⊢
    exact u.free b o e n hx
  · have q := (add_in (cs := cs) (H := H)).out e (by intros; nofun)
    rw [addC_out q] at e ⊢
    exact u.tups b xs e
  · cases q : cs.lookup b with
    | some oc => rw [addC_in q] at e ⊢; exact e
    | none => rw [addC_out q] at e ⊢; exact u.frzs b o v e
  · have q := (add_in (cs := cs) (H := H)).out e (by intros; nofun)
    rw [addC_out q] at e ⊢
    exact u.tbls b ps e
end
end Z
/-! ZX5: lambdas handed to a def. -/
namespace Z
open PySem PySem.Spec L2 PyProof.Rows

def slotAt (N : List Str) (sl : Sl) (n : Str) : Option D := ((N.zip sl).lookup n).bind id
theorem zip_at : ∀ {N : List Str} {sl : Sl} {n : Str} {d : Option D}, (N.zip sl).lookup n = some d → ∃ i : Nat, N[i]? = some n ∧ sl[i]? = some d
  | [], _, _, _, h => by simp at h
  | m :: N, [], _, _, h => by simp at h
  | m :: N, s :: sl, n, d, h => by
    rw [List.zip_cons_cons, List.lookup_cons] at h
    cases q : n == m with
    | true =>
      rw [q] at h
      cases h
      have : n = m := by simpa using q
      subst this
      exact ⟨0, rfl, rfl⟩
    | false =>
      rw [q] at h
      obtain ⟨i, h1, h2⟩ := zip_at h
      exact ⟨i + 1, by simpa using h1, by simpa using h2⟩
theorem slotAt_at {N : List Str} {sl : Sl} {n : Str} {d : D} (h : slotAt N sl n = some d) : ∃ i : Nat, N[i]? = some n ∧ sl[i]? = some (some d) := by
  unfold slotAt at h
  obtain ⟨x, h1, h2⟩ := Option.bind_eq_some_iff.mp h
  cases h2
  exact zip_at h1
def capsOf (N : List Str) (sl : Sl) : List Str → Option (List D)
  | [] => some []
  | n :: ns => match slotAt N sl n, capsOf N sl ns with
    | some d, some r => some (d :: r)
    | _, _ => none
/-- what a def of cells cn may hand on -/
def lamFit (cn : List Str) (κ : List (Str × Addr)) (T : LamText) (clo : List (Str × Addr)) : Prop := clo = cloFrom κ T.scope.names [] ∧ T.names.Nodup ∧ ∀ n ∈ T.names, n ∈ cn ∧ T.scope.names.lookup n = some .free
noncomputable section
open Classical in
mutual
def conv (cn N : List Str) (κ : List (Str × Addr)) (sl : Sl) : D → Option D
  | .lam T clo => if lamFit cn κ T clo then (capsOf N sl T.names).map (.lamc T) else none
  | .lst xs => (convL cn N κ sl xs).map .lst
  | .tup xs => (convL cn N κ sl xs).map .tup
  | d => some d
def convL (cn N : List Str) (κ : List (Str × Addr)) (sl : Sl) : List D → Option (List D)
  | [] => some []
  | d :: ds => match conv cn N κ sl d, convL cn N κ sl ds with
    | some a, some b => some (a :: b)
    | _, _ => none
end
end
section
variable {X : Cx} {pins : List (Addr × Obj)} {σ : L2.St} {H : Hp} {s : Shared}
/-- the def's cells, known -/
theorem cells_cs (I : Inv X pins σ H s) (hfn : ∀ x, X.fn x = true) : ∀ (cn : List Str), (∀ n ∈ cn, X.env.kindOf n = some .cell) → ∃ cs : Cs, CsOk cs (frs X.stack) H s.heap ∧ (∀ b o, cs.lookup b = some o → X.base.get? b = none) ∧ ∀ n ∈ cn, ∃ c o, X.env.cells.lookup n = some c ∧ cs.lookup c = some o
  | [], _ => ⟨([] : Cs), ⟨(fun c o h => by simp at h), (fun c o h => by simp at h), (fun c o h => by simp at h)⟩, (fun c o h => by simp at h), (fun n h => by simp at h)⟩
  | n :: cn, hk => by
    obtain ⟨cs, h1, h2, h3⟩ := cells_cs I hfn cn fun m hm => hk m (List.mem_cons_of_mem _ hm)
    obtain ⟨c, hc⟩ := I.ok.has n (.inl (hk n (List.mem_cons_self ..)))
    obtain ⟨v, o, ho, hd⟩ := I.cell n c hc
    have habove := I.ok.cab n c (hfn n) hc
    have nL := I.cne n c hc
    have nfs : c ∉ frs X.stack := fun hm => by
      rcases List.mem_cons.mp (I.stkSub c hm) with e | e
      · exact nL e
      · obtain ⟨_, o', ho', _⟩ := I.ok.funs.mem e
        exact absurd (Nat.lt_of_lt_of_le (Heap.lt_size ho') habove) (Nat.lt_irrefl _)
    have nb : X.base.get? c = none := by
      cases q : X.base.get? c with
      | none => rfl
      | some o' => exact absurd (Nat.lt_of_lt_of_le (Heap.lt_size q) (Nat.le_trans I.ok.bsz habove)) (Nat.lt_irrefl _)
    have cons : ∀ {b : Addr} {u : Obj}, ((c, o) :: cs).lookup b = some u → (b = c ∧ u = o) ∨ cs.lookup b = some u := fun {b u} h => by
      rw [List.lookup_cons] at h
      cases q : b == c with
      | true => rw [q] at h; cases h; exact .inl ⟨by simpa using q, rfl⟩
      | false => rw [q] at h; exact .inr h
    refine ⟨(c, o) :: cs, ⟨fun b u h => ?_, fun b u h => ?_, fun b u h => ?_⟩, fun b u h => ?_, fun m hm => ?_⟩
    · rcases cons h with ⟨rfl, rfl⟩ | h
      · exact ho
      · exact h1.get b u h
    · rcases cons h with ⟨rfl, rfl⟩ | h
      · exact I.freeC n _ hc
      · exact h1.non b u h
    · rcases cons h with ⟨rfl, rfl⟩ | h
      · exact nfs
      · exact h1.nofs b u h
    · rcases cons h with ⟨rfl, rfl⟩ | h
      · exact nb
      · exact h2 b u h
    · rcases List.mem_cons.mp hm with rfl | hm
      · exact ⟨c, o, hc, by simp [List.lookup]⟩
      · obtain ⟨c', o', e1, e2⟩ := h3 m hm
        refine ⟨c', ?_⟩
        by_cases q : c' = c
        · subst q
          exact ⟨o, e1, by simp [List.lookup]⟩
        · have q' : (c' == c) = false := by simpa using q
          exact ⟨o', e1, by simp [List.lookup, q', e2]⟩
theorem caps_cells {ρ : List Addr} {S : Store} {sl : Sl} {cs : Cs} {cn : List Str} {clo : List (Str × Addr)} {T : LamText} (I : Inv X pins σ H s) (w : WOk X.K X.mg ρ H S) (rs : RSt X.K X.mg ρ H σ sl) (c : CsOk cs (frs X.stack) H s.heap) (hk : ∀ n ∈ cn, X.env.kindOf n = some .cell) (hcn : ∀ n ∈ cn, ∃ c o, X.env.cells.lookup n = some c ∧ cs.lookup c = some o)
    (hclo : clo = cloFrom X.env.cells T.scope.names []) : ∀ {ns : List Str} {caps : List D}, ns.Nodup → (∀ n ∈ ns, n ∈ cn ∧ T.scope.names.lookup n = some .free) → capsOf X.N sl ns = some caps → ∃ vs, CellsAt ρ (addC cs H) clo ns vs ∧ RepL X.K X.mg ρ (addC cs H) caps vs
  | [], caps, _, _, h => by cases h; exact ⟨[], rfl, RepL.nil⟩
  | n :: ns, caps, nd, hn, h => by
    rw [capsOf] at h
    split at h
    · rename_i d r ed er
      cases h
      obtain ⟨vs, h1, h2⟩ := caps_cells I w rs c hk hcn hclo (List.nodup_cons.mp nd).2 (fun m hm => hn m (List.mem_cons_of_mem _ hm)) er
      obtain ⟨hnc, hfree⟩ := hn n (List.mem_cons_self ..)
      obtain ⟨i, e1, e2⟩ := slotAt_at ed
      obtain ⟨v, ev, rv⟩ := rs.at_ i d e2
      obtain ⟨ca, o, hl, ho⟩ := hcn n hnc
      obtain ⟨m, hns, hloc⟩ := I.loc
      obtain ⟨u, ru, lk⟩ := hloc i n v e1 ev (.inr (.inl (hk n hnc)))
      have hcell : s.heap.IsCell ca (some u) := by
        rcases lk with ⟨k, _⟩ | ⟨_, c', e', z⟩
        · rw [hk n hnc] at k; cases k
        · rw [hl] at e'; cases e'; exact z
      obtain ⟨o', ho', hd'⟩ := hcell
      have hoo : o' = o := by
        have := c.get ca o ho
        rw [this] at ho'; cases ho'; rfl
      subst hoo
      have hclk : clo.lookup n = some ca := by
        have hmem := cloFrom_has (cells := X.env.cells) (acc := []) (PySem.mem_of_lookup hfree)
        rw [hl, Option.getD_some, ← hclo] at hmem
        obtain ⟨c2, hc2⟩ := mem_lookup hmem
        rw [hc2]
        rcases cloFrom_mem (by rw [← hclo]; exact PySem.mem_of_lookup hc2) with hm | ⟨_, e⟩
        · cases hm
        · rw [e, hl]; rfl
      have nr : ca ∉ ρ := w.nin (c.non ca _ ho)
      have hdist : ∀ m ∈ ns, clo.lookup m ≠ some ca := fun m hm e => by
        rcases cloFrom_mem (by rw [← hclo]; exact PySem.mem_of_lookup e) with h0 | ⟨_, e'⟩
        · cases h0
        · obtain ⟨ca', o', hl', _⟩ := hcn m (hn m (List.mem_cons_of_mem _ hm)).1
          rw [hl', Option.getD_some] at e'
          subst e'
          have := I.ok.inj m n ca hl' hl
          subst this
          exact (List.nodup_cons.mp nd).1 hm
      exact ⟨v :: vs, ⟨v, vs, ca, _, u, rfl, hclk, nr, addC_in ho, hd', ru, hdist, h1⟩, RepL.cons (rv.ext (ext_add c)) h2⟩
    · cases h
mutual
theorem conv_rep {ρ : List Addr} {S : Store} {sl : Sl} {cs : Cs} {cn : List Str} (I : Inv X pins σ H s) (w : WOk X.K X.mg ρ H S) (rs : RSt X.K X.mg ρ H σ sl) (c : CsOk cs (frs X.stack) H s.heap) (hk : ∀ n ∈ cn, X.env.kindOf n = some .cell) (hcn : ∀ n ∈ cn, ∃ c o, X.env.cells.lookup n = some c ∧ cs.lookup c = some o) :
    ∀ (d d' : D) (v : V), conv cn X.N X.env.cells sl d = some d' → Rep X.K X.mg ρ H d v → Rep X.K X.mg ρ (addC cs H) d' v
  | .lam T clo, d', v, e, r => by
    rw [conv] at e
    split at e
    · rename_i hf
      obtain ⟨caps, e1, e2⟩ := Option.map_eq_some_iff.mp e
      subst e2
      obtain ⟨vs, h1, h2⟩ := caps_cells I w rs c hk hcn hf.1 hf.2.1 hf.2.2 e1
      rw [Rep] at r
      obtain ⟨f, ev, hl⟩ := r
      rw [Rep]
      exact ⟨f, clo, vs, ev, hl.kp (ext_add c).kp, h1, h2⟩
    · cases e
  | .lst xs, d', v, e, r => by
    rw [conv] at e
    obtain ⟨ys, e1, e2⟩ := Option.map_eq_some_iff.mp e
    subst e2
    rw [Rep] at r ⊢
    obtain ⟨a, vs, ev, t, rl⟩ := r
    exact ⟨a, vs, ev, t.kp (ext_add c).kp, convL_rep I w rs c hk hcn xs ys vs e1 rl⟩
  | .tup xs, d', v, e, r => by
    rw [conv] at e
    obtain ⟨ys, e1, e2⟩ := Option.map_eq_some_iff.mp e
    subst e2
    rw [Rep] at r ⊢
    obtain ⟨a, vs, ev, t, rl⟩ := r
    exact ⟨a, vs, ev, t.kp (ext_add c).kp, convL_rep I w rs c hk hcn xs ys vs e1 rl⟩
  | .non, d', v, e, r => by rw [conv] at e; all_goals (first | (cases e; exact r.ext (ext_add c)) | (intros; contradiction))
  | .bl _, d', v, e, r => by rw [conv] at e; all_goals (first | (cases e; exact r.ext (ext_add c)) | (intros; contradiction))
  | .int _, d', v, e, r => by rw [conv] at e; all_goals (first | (cases e; exact r.ext (ext_add c)) | (intros; contradiction))
  | .str _, d', v, e, r => by rw [conv] at e; all_goals (first | (cases e; exact r.ext (ext_add c)) | (intros; contradiction))
  | .ty _, d', v, e, r => by rw [conv] at e; all_goals (first | (cases e; exact r.ext (ext_add c)) | (intros; contradiction))
  | .cls _, d', v, e, r => by rw [conv] at e; all_goals (first | (cases e; exact r.ext (ext_add c)) | (intros; contradiction))
  | .dct _ _, d', v, e, r => by rw [conv] at e; all_goals (first | (cases e; exact r.ext (ext_add c)) | (intros; contradiction))
  | .ins _ _ _, d', v, e, r => by rw [conv] at e; all_goals (first | (cases e; exact r.ext (ext_add c)) | (intros; contradiction))
  | .ptr _, d', v, e, r => by rw [conv] at e; all_goals (first | (cases e; exact r.ext (ext_add c)) | (intros; contradiction))
  | .scr _, d', v, e, r => by rw [conv] at e; all_goals (first | (cases e; exact r.ext (ext_add c)) | (intros; contradiction))
  | .exc _ _ _, d', v, e, r => by rw [conv] at e; all_goals (first | (cases e; exact r.ext (ext_add c)) | (intros; contradiction))
  | .lamc _ _, d', v, e, r => by rw [conv] at e; all_goals (first | (cases e; exact r.ext (ext_add c)) | (intros; contradiction))
theorem convL_rep {ρ : List Addr} {S : Store} {sl : Sl} {cs : Cs} {cn : List Str} (I : Inv X pins σ H s) (w : WOk X.K X.mg ρ H S) (rs : RSt X.K X.mg ρ H σ sl) (c : CsOk cs (frs X.stack) H s.heap) (hk : ∀ n ∈ cn, X.env.kindOf n = some .cell) (hcn : ∀ n ∈ cn, ∃ c o, X.env.cells.lookup n = some c ∧ cs.lookup c = some o) :
    ∀ (ds ds' : List D) (vs : List V), convL cn X.N X.env.cells sl ds = some ds' → RepL X.K X.mg ρ H ds vs → RepL X.K X.mg ρ (addC cs H) ds' vs
  | [], ds', vs, e, r => by rw [convL] at e; cases e; rw [RepL] at r; subst r; exact RepL.nil
  | d :: ds, ds', vs, e, r => by
    rw [convL] at e
    split at e
    · rename_i a b ea eb
      cases e
      rw [RepL] at r
      obtain ⟨v, rr, ev, h1, h2⟩ := r
      subst ev
      exact RepL.cons (conv_rep I w rs c hk hcn d a v ea h1) (convL_rep I w rs c hk hcn ds b rr eb h2)
    · cases e
end
end

/-! ### f(e, ..) where lambdas are handed on -/
noncomputable def callL (cn N : List Str) (κ : List (Str × Addr)) (g : SemL) (fa : AX) : EX := fun sl S => (fa sl S).bind fun ds S1 => match convL cn N κ sl ds with
  | some ds' => (match g ds' S1 with
    | .ok d S2 => if noLc d = true ∧ noLcS S2 = true then .ok d S2 else .bad
    | _ => .bad)
  | none => .bad
section
variable {X : Cx} {W : WX} {k : Nat} {f : Addr} {g : SemL} {x : Str} {p pos : Pos} {e : Expr} {es : List Expr} {fa : AX} {cn : List Str}
theorem env0_add {pins : List (Addr × Obj)} {σ : L2.St} {H : Hp} {s : Shared} {cs : Cs} (I : Inv X pins σ H s) (c : CsOk cs (frs X.stack) H s.heap) (hb : ∀ b o, cs.lookup b = some o → X.base.get? b = none) : Env0 X.prog X.w X.K X.mg X.base X.A X.stack s (addC cs H) := by
  have e0 := I.env0
  refine ⟨e0.frames, e0.mod, fun b o q => ⟨(e0.bs b o q).1, ?_⟩, e0.bsz, e0.funs, fun b hm => ?_, hok_add c e0.hok, e0.bare⟩
  · cases y : cs.lookup b with
    | some u => have := hb b u y; rw [this] at q; cases q
    | none => rw [addC_out y]; exact (e0.bs b o q).2
  · cases y : cs.lookup b with
    | some u => exact absurd hm (c.nofs b u y)
    | none => rw [addC_out y]; exact e0.frf b hm
theorem r_callL (F : FZ X.prog X.w X.K X.mg X.base k f g) (hr : Room k X.A) (hm : X.mg x = some (.ref f)) (hk : PySem.W.keepIn X.K (.ref f) = true) (hfn : ∀ x, X.fn x = true) (hcn : ∀ n ∈ cn, X.env.kindOf n = some .cell)
    (ha : EA X W (e :: es) fa) (hg : Gl X x := by rfl) (hdb : (x == ("__debug__" : Str)) = false := by decide) (he : starEach (e :: es) X.env = (false, eval e X.env) :: starEach es X.env := by rfl) (hpl : (backTo pos (starEach es X.env)).any (·.1) = false := by rfl) :
    E X W (.Call (.Name x p) (e :: es) [] pos) (callL cn X.N X.env.cells g fa) := by
  refine ⟨fun pins s σ H Q I h => ?_⟩
  refine wpAny_Call_Name_kw (ld_glob I hg hm ?_ hdb)
  obtain ⟨ρ, S, sl, w, rs, p⟩ := h
  refine PySem.W.callWith_K (h₀ := X.base) I.ok.mod.kin hk (thn (ha.run pos pins s σ H (fun vs H1 => ∃ ρ1 S1 ds, Ext ρ H ρ1 H1 ∧ WOk X.K X.mg ρ1 H1 S1 ∧ RepL X.K X.mg ρ1 H1 ds vs ∧ PostE X.K X.mg (WE W σ) ρ1 H1 Q (match convL cn X.N X.env.cells sl ds with
    | some ds' => (match g ds' S1 with
      | .ok d S2 => if noLc d = true ∧ noLcS S2 = true then .ok d S2 else .bad
      | _ => .bad)
    | none => .bad)) I ⟨ρ, S, sl, w, rs, PostA.mono (PostA.bindE p) fun vs H1 ⟨ρ1, S1, ds, x1, w1, r1, _, p1⟩ => ⟨ρ1, S1, ds, x1, w1, r1, p1⟩⟩) fun us s1 ⟨vs, H1, I1, r, ρ1, S1, ds, x1, w1, rl, q⟩ => ⟨I1.kIn, ?_⟩) he hpl
  have rs1 := rs.ext x1
  obtain ⟨cs, c, hcb, hcn'⟩ := cells_cs I1 hfn cn hcn
  cases ec : convL cn X.N X.env.cells sl ds with
  | none => rw [ec] at q; exact q.elim
  | some ds' =>
    rw [ec] at q
    dsimp only at q
    cases eg : g ds' S1 with
    | bad => rw [eg] at q; exact q.elim
    | ex _ _ => rw [eg] at q; exact q.elim
    | ok d S2 =>
      rw [eg] at q
      dsimp only at q
      by_cases hn : noLc d = true ∧ noLcS S2 = true
      · rw [if_pos hn] at q
        have rl' := convL_rep I1 w1 rs1 c hcn hcn' ds ds' vs ec rl
        have nr : ∀ b o, cs.lookup b = some o → b ∉ ρ1 := fun b o y => w1.nin (c.non b o y)
        have hsp : spZ X.K X.mg g vs (addC cs H1) (fun v H2 => ∃ ρ2, Ext ρ1 (addC cs H1) ρ2 H2 ∧ WOk X.K X.mg ρ2 H2 S2 ∧ Rep X.K X.mg ρ2 H2 d v) (fun _ _ _ => False) := by
          refine ⟨ρ1, S1, ds', wok_add c w1, rl', ?_⟩
          rw [eg]
          exact fun v ρ2 H2 x2 w2 r2 => ⟨ρ2, x2, w2, r2⟩
        refine wpAny_call (codeAny_mono (F X.A X.stack s1 (addC cs H1) us vs _ (fun _ _ _ => False) hr (env0_add I1 c hcb) r hsp) fun r s' hq => ?_)
        cases r with
        | error er => exact (cx_false hq).elim
        | ok fl =>
          cases fl with
          | ret u =>
            obtain ⟨v, H2, os2, bare2, un2, hok2, rv, ρ2, x2, w2, r2⟩ := hq
            obtain ⟨ci, nr2⟩ := ext_in nr add_in x2
            refine I1.after ⟨v, delC cs H2, os2, bare2, un_del c hok2 ci un2, hok_del ci hok2, rv, ?_⟩
            exact q v ρ2 (delC cs H2) (ext_del c x2) (wok_del ci nr2 hn.2 w2) (rep_del ci hn.1 r2)
          | next => exact False.elim hq
          | brk => exact False.elim hq
          | cont => exact False.elim hq
      · rw [if_neg hn] at q; exact q.elim
end
end Z
/-! ZX6: a lambda that was handed on is called. -/
namespace Z
open PySem PySem.Spec L2 PyProof.Rows

/-- the cells of the names, untracked -/
def CellsH (H : Hp) (h : Heap) (clo : List (Str × Addr)) : List Str → List V → Prop
  | [], vs => vs = []
  | n :: ns, vs => ∃ v r c o u, vs = v :: r ∧ clo.lookup n = some c ∧ H c = none ∧ h.get? c = some o ∧ o.data = .cell (some u) ∧ RelV v u ∧ (∀ m ∈ ns, clo.lookup m ≠ some c) ∧ CellsH H h clo ns r
def DfH (h : Heap) (dvs : List V) (dV : Value) : Prop := (dvs = [] ∧ dV = .none) ∨ (dvs ≠ [] ∧ ∃ (t : Addr) (us : List Value), dV = .ref t ∧ Vals dvs us ∧ IsTup h t us.toArray)
/-- what a lambda's text keeps, called with its captured values -/
def LamOk (P : Program) (w : World) (K : PySem.W.Frag) (mg : Str → Option Value) (base : Heap) (k : Nat) (T : LamText) (l : SemL) : Prop :=
  ∀ (A : Around) (outer : List Env) (s : Shared) (H : Hp) (f c' : Addr) (clo : List (Str × Addr)) (pm doc dV ctv : Value) (ρ : List Addr) (S : Store) (caps : List D) (vs : List V) (Q : VK) (E : XK), Room k A → Env0 P w K mg base A outer s H →
    s.heap.get? f = some (PySem.W.kdv_obj "<lambda>" T.qual T.params (.expr T.body) T.scope clo dV doc pm c' ctv) → (∃ (oc : Obj) (ws : Array Value) (t : Tok), s.heap.get? c' = some oc ∧ oc.data = .fields ws ∧ ws[1]? = some (.str T.qual t)) → DfH s.heap T.dvs dV → CellsH H s.heap clo T.names vs → (∃ κ, clo = cloFrom κ T.scope.names []) →
    WOk K mg ρ H S → RepL K mg ρ H caps vs → PostE K mg E ρ H Q (l caps S) → codeAny (model P w) A (.call (.ref f) ⟨[], []⟩) (CR (L2.CX P w) outer P w H s Q E) s
/-- x() of a lambda -/
def callLc (L : LamText → Option SemL) (i : Nat) : EX := fun sl S => match sl[i]? with
  | some (some (.lamc T caps)) => (match L T with
    | some l => if noLcS S = true ∧ noLcL caps = true then l caps S else .bad
    | none => .bad)
  | _ => .bad
section
variable {H : Hp} {h : Heap} {ρ : List Addr} {clo : List (Str × Addr)}
/-- the known cells, as a list -/
theorem cells_list {P : Program} {w : World} (x : HOk P w H h) : ∀ {ns : List Str} {vs : List V}, CellsAt ρ H clo ns vs → ∃ cs : Cs, CsIn cs H ∧ (∀ b o, cs.lookup b = some o → b ∉ ρ) ∧ ∀ n ∈ ns, ∃ c o, clo.lookup n = some c ∧ cs.lookup c = some o
  | [], _, _ => ⟨([] : Cs), (fun c o q => by simp at q), (fun c o q => by simp at q), (fun n q => by simp at q)⟩
  | n :: ns, _, ⟨v, r, c, o, u, e, h1, n1, h2, h3, h4, hd, h5⟩ => by
    obtain ⟨cs, a1, a2, a3⟩ := cells_list x h5
    have cons : ∀ {b : Addr} {y : Obj}, ((c, o) :: cs).lookup b = some y → (b = c ∧ y = o) ∨ cs.lookup b = some y := fun {b y} q => by
      rw [List.lookup_cons] at q
      cases z : b == c with
      | true => rw [z] at q; cases q; exact .inl ⟨by simpa using z, rfl⟩
      | false => rw [z] at q; exact .inr q
    refine ⟨(c, o) :: cs, fun b y q => ?_, fun b y q => ?_, fun m hm => ?_⟩
    · rcases cons q with ⟨rfl, rfl⟩ | q
      · exact h2
      · exact a1 b y q
    · rcases cons q with ⟨rfl, rfl⟩ | q
      · exact n1
      · exact a2 b y q
    · rcases List.mem_cons.mp hm with rfl | hm
      · exact ⟨c, o, h1, by simp [List.lookup]⟩
      · obtain ⟨c2, o2, e1, e2⟩ := a3 m hm
        refine ⟨c2, ?_⟩
        by_cases z : c2 = c
        · subst z; exact ⟨o, e1, by simp [List.lookup]⟩
        · have z' : (c2 == c) = false := by simpa using z
          exact ⟨o2, e1, by simp [List.lookup, z', e2]⟩
theorem cells_h {P : Program} {w : World} {cs : Cs} (x : HOk P w H h) (ci : CsIn cs H) : ∀ {ns : List Str} {vs : List V}, (∀ n ∈ ns, ∃ c o, clo.lookup n = some c ∧ cs.lookup c = some o) → CellsAt ρ H clo ns vs → CellsH (delC cs H) h clo ns vs
  | [], _, _, hc => hc
  | n :: ns, _, hcs, ⟨v, r, c, o, u, e, h1, n1, h2, h3, h4, hd, h5⟩ => by
    obtain ⟨c2, o2, e1, e2⟩ := hcs n (List.mem_cons_self ..)
    rw [h1] at e1; cases e1
    exact ⟨v, r, c, o, u, e, h1, delC_in e2, (x c _ h2).1, h3, h4, hd, cells_h x ci (fun m hm => hcs m (List.mem_cons_of_mem _ hm)) h5⟩
end
section
variable {P : Program} {w : World} {cs : Cs} {fs ρ ρ' : List Addr} {H H' : Hp} {h h' B : Heap}
theorem ub_add (c : CsOk cs fs H h) (u : UB fs H H' h B h') : UB fs (addC cs H) (addC cs H') h B h' := by
  refine ⟨fun b o e n hb => ?_, fun b o e hb => u.slot b o e hb, fun b o e n => ?_, u.there, fun b xs e => ?_, fun b o v e => ?_, fun b ps e => ?_⟩
  · have q := (add_in (cs := cs) (H := H)).out0 n
    rw [addC_out q] at n
    exact u.keep b o e n hb
  · have q := (add_in (cs := cs) (H := H)).out0 n
    rw [addC_out q] at n ⊢
    exact u.free b o e n
  · have q := (add_in (cs := cs) (H := H)).out e (by intros; nofun)
    rw [addC_out q] at e ⊢
    exact u.tups b xs e
  · cases q : cs.lookup b with
    | some oc => rw [addC_in q] at e ⊢; exact e
    | none => rw [addC_out q] at e ⊢; exact u.frzs b o v e
  · have q := (add_in (cs := cs) (H := H)).out e (by intros; nofun)
    rw [addC_out q] at e ⊢
    exact u.tbls b ps e
/-- behind a lambda's run, seen with the cells -/
theorem ext_readd (ci : CsIn cs H) (nr : ∀ b o, cs.lookup b = some o → b ∉ ρ) (hn : ∀ b o, cs.lookup b = some o → b ∉ ρ') (x : Ext ρ (delC cs H) ρ' H') : Ext ρ H ρ' (addC cs H') := by
  refine ⟨x.pre, fun a ha n => ?_, fun a o n e => ?_⟩
  · have q := x.new a ha n
    cases y : cs.lookup a with
    | some o => exact absurd ha (hn a o y)
    | none => rw [delC_out y] at q; exact q
  · cases y : cs.lookup a with
    | some oc => rw [ci a oc y] at e; cases e; exact .inl (addC_in y)
    | none => rw [addC_out y]; exact x.keep a o n (by rw [delC_out y]; exact e)
end
section
variable {X : Cx} {W : WX} {k i : Nat} {a : Str} {p1 p2 : Pos} {L : LamText → Option SemL}
theorem r_lamc (tk : Takes X W) (hL : ∀ T l, L T = some l → LamOk X.prog X.w X.K X.mg X.base k T l) (hr : Room k X.A) (hN : X.N[i]? = some a) (hv : Vis X.env.scope a) (hd : (a == ("__debug__" : Str)) = false := by decide) (hcd : (a == ("__classdict__" : Str)) = false := by decide) :
    E X W (.Call (.Name a p1) [] [] p2) (callLc L i) := by
  refine ⟨fun pins s σ H Q I h => ?_⟩
  obtain ⟨ρ, S, sl, w, rs, p⟩ := h
  unfold callLc at p
  split at p
  · rename_i T caps esl
    split at p
    · rename_i l el
      split at p
      · rename_i hn
        obtain ⟨v, ev, rv⟩ := rs.at_ i _ esl
        rw [Rep] at rv
        obtain ⟨f, clo, vs, e, ⟨nf, hκ, pm, doc, dV, ctv, c', hfo, nc', hco, hdf⟩, hcl, rl⟩ := rv
        subst e
        refine wpAny_Call_Name_kw (thn ((pe_var (pos := p1) (i := i) hN hv hd hcd).run pins s σ H (fun v H1 => v = .ref f ∧ H1 = H) I ⟨.ref f, ev, rfl, rfl⟩) fun u s1 ⟨v, H1, I1, r1, q1⟩ => ?_)
        obtain ⟨ev', eH⟩ := q1
        subst ev'
        subst eH
        obtain rfl : u = Value.ref f := r1
        have of1 : s1.heap.get? f = some (PySem.W.kdv_obj "<lambda>" T.qual T.params (.expr T.body) T.scope clo dV doc pm c' ctv) := (I1.hok f _ hfo).1
        obtain ⟨cs, ci, nr, hcs⟩ := cells_list I1.hok hcl
        have nofs : ∀ b o, cs.lookup b = some o → b ∉ frs X.stack := fun b o y hm => by
          have := I1.stkFree b hm
          rw [ci b o y] at this; cases this
        have cok := del_ok ci nofs I1.hok
        have e0 : Env0 X.prog X.w X.K X.mg X.base X.A X.stack s1 (delC cs H1) := by
          have z := I1.env0
          refine ⟨z.frames, z.mod, fun b o q => ⟨(z.bs b o q).1, ?_⟩, z.bsz, z.funs, fun b hm => ?_, hok_del ci z.hok, z.bare⟩
          · cases y : cs.lookup b with
            | some u => exact delC_in y
            | none => rw [delC_out y]; exact (z.bs b o q).2
          · cases y : cs.lookup b with
            | some u => exact delC_in y
            | none => rw [delC_out y]; exact z.frf b hm
        have hcode : ∃ (oc : Obj) (ws : Array Value) (t : Tok), s1.heap.get? c' = some oc ∧ oc.data = .fields ws ∧ ws[1]? = some (.str T.qual t) := (I1.hok c' _ hco).1
        have hdf' : DfH s1.heap T.dvs dV := by
          rcases hdf with ⟨h1, h2⟩ | ⟨h1, t, h2, _, h3⟩
          · exact .inl ⟨h1, h2⟩
          · obtain ⟨_, us, ru, ht⟩ : ObjOk X.prog X.w H1 s1.heap t (.tup T.dvs) := I1.hok t _ h3
            exact .inr ⟨h1, t, us, h2, ru, ht⟩
        refine PySem.W.callWith_F0 ⟨_, _, _, _, of1⟩ ?_
        have back : ∀ {ρ2 : List Addr} {S2 : Store} {H2 : Hp}, (∀ b o, cs.lookup b = some o → H2 b = none) → Ext ρ (delC cs H1) ρ2 H2 → WOk X.K X.mg ρ2 H2 S2 → Ext ρ H1 ρ2 (addC cs H2) ∧ Ext ρ2 H2 ρ2 (addC cs H2) ∧ WOk X.K X.mg ρ2 (addC cs H2) S2 := fun {ρ2 S2 H2} hno x2 w2 => by
          have cO : ∀ {h3 : Heap}, (∀ c o, cs.lookup c = some o → h3.get? c = some o) → CsOk cs [] H2 h3 := fun {h3} hg => ⟨hg, hno, fun c o _ => by simp⟩
          have c3 : CsOk cs [] H2 s1.heap := cO cok.get
          exact ⟨ext_readd ci nr (fun b o y => w2.nin (hno b o y)) x2, ext_add c3, wok_add c3 w2⟩
        have hrun := hL T l el X.A X.stack s1 (delC cs H1) f c' clo pm doc dV ctv ρ S caps vs
          (fun v H2 => ∃ ρ2 S2 d, l caps S = .ok d S2 ∧ Ext ρ (delC cs H1) ρ2 H2 ∧ WOk X.K X.mg ρ2 H2 S2 ∧ Rep X.K X.mg ρ2 H2 d v)
          (fun C dd H2 => ∃ ρ2 S2 d, l caps S = .ex d S2 ∧ Ext ρ (delC cs H1) ρ2 H2 ∧ WOk X.K X.mg ρ2 H2 S2 ∧ ExRep X.K X.mg ρ2 H2 d C dd) hr e0 of1 hcode hdf' (cells_h I1.hok ci hcs hcl) hκ (wok_del ci nr hn.1 w) (repL_del ci hn.2 rl) (by
            cases o : l caps S with
            | ok d S2 => exact fun v ρ2 H2 x2 w2 r2 => ⟨ρ2, S2, d, rfl, x2, w2, r2⟩
            | ex d S2 => exact fun C dd ρ2 H2 x2 w2 r2 => ⟨ρ2, S2, d, rfl, x2, w2, r2⟩
            | bad => rw [o] at p; exact p.elim)
        refine wpAny_call (codeAny_mono hrun fun r s' hq => ?_)
        cases r with
        | ok fl =>
          cases fl with
          | ret u =>
            obtain ⟨v, H2, os2, bare2, un2, hok2, rv2, ρ2, S2, d, eo, x2, w2, r2⟩ := hq
            have c2 := cok.un un2
            obtain ⟨b1, b2, b3⟩ := back c2.non x2 w2
            rw [eo] at p
            have un3 : Un (frs X.stack) [] H1 (addC cs H2) s1.heap s'.heap := by
              have z := un_add cok un2
              rw [add_del ci] at z
              exact z
            exact I1.after ⟨v, addC cs H2, os2, bare2, un3, hok_add c2 hok2, rv2, p v ρ2 _ b1 b3 (r2.ext b2)⟩
          | next => exact False.elim hq
          | brk => exact False.elim hq
          | cont => exact False.elim hq
        | error er =>
          obtain ⟨ea, B, H2, cls, dd, rfl, fly, hokB, ub, na, os2, bare2, ρ2, S2, d, eo, x2, w2, r2⟩ := hq
          have hno : ∀ b o, cs.lookup b = some o → H2 b = none := fun b o y => ub.free b o (cok.get b o y) (cok.non b o y)
          have gB : ∀ b o, cs.lookup b = some o → B.get? b = some o := fun b o y => ub.keep b o (cok.get b o y) (cok.non b o y) (nofs b o y)
          obtain ⟨b1, b2, b3⟩ := back hno x2 w2
          rw [eo] at p
          have ub3 : UB (frs X.stack) H1 (addC cs H2) s1.heap B s'.heap := by
            have z := ub_add cok ub
            rw [add_del ci] at z
            exact z
          have nea : cs.lookup ea = none := by
            cases y : cs.lookup ea with
            | none => rfl
            | some o =>
              have := gB ea o y
              rw [fly.2.1] at this; cases this
          have cB : CsOk cs [] H2 B := ⟨gB, hno, fun c o _ => by simp⟩
          refine passAt tk σ pins H1 s1 _ s' I1 ⟨ea, B, addC cs H2, cls, dd, rfl, fly, hok_add cB hokB, ub3, by rw [addC_out nea]; exact na, os2, bare2, ?_⟩
          refine p cls dd ρ2 _ b1 b3 ?_
          obtain ⟨c0, ns0, ds0, Ca, da, fs0, e1, e2, e3, e4, e5, e6, e7, e8⟩ := r2
          have hda : cs.lookup da = none := by
            cases y : cs.lookup da with
            | none => rfl
            | some o => rw [hno da o y] at e6; cases e6
          exact ⟨c0, ns0, ds0, Ca, da, fs0, e1, e2, e3, e4, e5, by rw [addC_out hda]; exact e6, e7, e8.ext b2⟩
      · exact p.elim
    · exact p.elim
  · exact p.elim
end
end Z
/-! ZX7: a lambda by its body. -/
namespace Z
open PySem PySem.Spec L2 PyProof.Rows

/-- a lambda's text: its captured names, its parameters' names -/
structure LamWf (T : LamText) (locs : List Str) : Prop where
  kind : T.scope.kind = .function
  co : T.scope.isCoroutine = false
  gen : T.scope.isGenerator = false
  nocell : ∀ y ∈ T.scope.names, y.2 ≠ .cell
  free : ∀ n ∈ T.names, T.scope.names.lookup n = some .free
  all : ∀ y ∈ T.scope.names, y.2 = .free → y.1 ∈ T.names
  loc : ∀ n ∈ locs, T.scope.names.lookup n = some .local
  nd : (T.names ++ locs).Nodup
  len : locs.length = T.dvs.length
  bind : ∀ (s : Shared) (clo : List (Str × Addr)) (pm doc cdv ctv dV : Value), DfH s.heap T.dvs dV → ∃ us, Vals T.dvs us ∧ BindsTo s (PySem.W.kdv_fn "<lambda>" T.qual T.params (.expr T.body) T.scope clo dV doc pm cdv ctv) ⟨[], []⟩ (locs.zip us)
abbrev lamE (T : LamText) (L f c' : Addr) (clo : List (Str × Addr)) : Env := PySem.W.envX T.qual T.scope L f (.ref c') clo
/-- the context of the lambda's body -/
def cxL (P : Program) (w : World) (K : PySem.W.Frag) (mg : Str → Option Value) (base : Heap) (T : LamText) (locs : List Str) (A : Around) (outer : List Env) (s : Shared) (H : Hp) (E : XK) (f c' : Addr) (clo : List (Str × Addr)) : Cx where
  prog := P
  w := w
  K := K
  mg := mg
  base := base
  A := A.deeper (lamE T s.heap.objs.size f c' clo)
  N := T.names ++ locs
  s_0 := s
  H_0 := H
  env := lamE T s.heap.objs.size f c' clo
  outer := outer
  stack := lamE T s.heap.objs.size f c' clo :: outer
  ex := []
  fn := fun _ => false
  calm := true
  pn := []
  xe := fun e s' => wpAny (model P w) (A.deeper (lamE T s.heap.objs.size f c' clo)) (leaving (lamE T s.heap.objs.size f c' clo) e) (fun _ s'' => L2.CX P w outer H s E e s'') (fun e' s'' => L2.CX P w outer H s E e' s'') s'
theorem cellsH_at {H : Hp} {h : Heap} {clo : List (Str × Addr)} : ∀ {ns : List Str} {vs : List V}, CellsH H h clo ns vs → ns.length = vs.length ∧ (∀ (i : Nat) n v, ns[i]? = some n → vs[i]? = some v → ∃ c o u, clo.lookup n = some c ∧ H c = none ∧ h.get? c = some o ∧ o.data = .cell (some u) ∧ RelV v u) ∧ (∀ n ∈ ns, ∃ c o u, clo.lookup n = some c ∧ H c = none ∧ h.get? c = some o ∧ o.data = .cell (some u)) ∧ ∀ x ∈ ns, ∀ y ∈ ns, ∀ c, clo.lookup x = some c → clo.lookup y = some c → x = y
  | [], vs, e => by
    have e : vs = [] := e
    subst e
    exact ⟨rfl, fun i n v q => by simp at q, fun n q => by simp at q, fun x q => by simp at q⟩
  | n :: ns, _, ⟨v, r, c, o, u, e, h1, h2, h3, h4, h5, hd, hc⟩ => by
    subst e
    obtain ⟨a1, a2, a3, a4⟩ := cellsH_at hc
    refine ⟨by simp [a1], fun i m y q1 q2 => ?_, fun m hm => ?_, fun x hx y hy c2 e1 e2 => ?_⟩
    · cases i with
      | zero => simp at q1 q2; subst q1 q2; exact ⟨c, o, u, h1, h2, h3, h4, h5⟩
      | succ i => exact a2 i m y (by simpa using q1) (by simpa using q2)
    · rcases List.mem_cons.mp hm with rfl | hm
      · exact ⟨c, o, u, h1, h2, h3, h4⟩
      · exact a3 m hm
    · rcases List.mem_cons.mp hx with zx | hx2
      · subst zx
        rcases List.mem_cons.mp hy with zy | hy2
        · exact zy.symm
        · rw [h1] at e1; cases e1
          exact absurd e2 (hd y hy2)
      · rcases List.mem_cons.mp hy with zy | hy2
        · subst zy
          rw [h1] at e2; cases e2
          exact absurd e1 (hd x hx2)
        · exact a4 x hx2 y hy2 c2 e1 e2
section
variable {P : Program} {w : World} {K : PySem.W.Frag} {mg : Str → Option Value} {base : Heap} {T : LamText} {locs : List Str} {k : Nat} {fl : EX}
theorem lam_inv {A : Around} {outer : List Env} {s : Shared} {H : Hp} {E : XK} {f c' : Addr} {clo : List (Str × Addr)} {vs : List V} {us : List Value} {h₁ : Heap} {tk : Nat} (L : LamWf T locs) (e0 : Env0 P w K mg base A outer s H) (hd : A.handled = none) (hc : CellsH H s.heap clo T.names vs) (hκ : ∃ κ, clo = cloFrom κ T.scope.names []) (ru : Vals T.dvs us)
    (hns : h₁.Ns s.heap.objs.size fun y => (locs.zip us).reverse.lookup y) (kp : ∀ b o, s.heap.get? b = some o → h₁.get? b = some o) : Inv (cxL P w K mg base T locs A outer s H E f c' clo) [] ((vs ++ T.dvs).map some) H { s with heap := h₁, toks := tk } := by
  obtain ⟨hl, hat, hall, hinj⟩ := cellsH_at hc
  have inN : ∀ {x : Str} {c : Addr}, clo.lookup x = some c → x ∈ T.names := fun {x c} e => by
    obtain ⟨κ, eκ⟩ := hκ
    rcases cloFrom_mem (by rw [← eκ]; exact PySem.mem_of_lookup e) with hm | ⟨hm, _⟩
    · cases hm
    · exact L.all _ hm rfl
  have noA : ∀ b : Addr, b ∉ (cxL P w K mg base T locs A outer s H E f c' clo).ex := fun b z => absurd (show b ∈ ([] : List Addr) from z) (by simp)
  refine ⟨⟨e0.mod, L.kind, rfl, rfl, Nat.le_refl _, fun y z c e1 e2 => hinj y (inN e1) z (inN e2) c e1 e2, fun y hy => ?_, fun y c z _ => ?_, fun _ => hd, Around.frames_deeper e0.frames, .inr ⟨rfl, rfl⟩, fun b z => absurd z (noA b), e0.bs, e0.bsz, fun b _ _ => noA b,
      fun b z => absurd z (noA b), e0.funs, e0.frf⟩,
    rfl, e0.bare, Un.kept kp, ⟨_, hns, fun i y v e1 e2 e3 => ?_⟩, fun y c e => ?_, e0.hok.fresh (Nat.le_refl _), fun y c e => ?_, fun q hq => absurd (show q ∈ ([] : List (Addr × Obj)) ++ [] from hq) (by simp), e0.hok.kept kp, ?_⟩
  · have hy : T.scope.names.lookup y = some .cell ∨ T.scope.names.lookup y = some .free := hy
    rcases hy with hy | hy
    · exact absurd rfl (L.nocell _ (PySem.mem_of_lookup hy))
    · obtain ⟨c, o, u, q, _⟩ := hall y (L.all _ (PySem.mem_of_lookup hy) rfl)
      exact ⟨c, q⟩
  · exact absurd (show false = true from z) (by simp)
  · have e1 : (T.names ++ locs)[i]? = some y := e1
    have e2 : ((vs ++ T.dvs).map some)[i]? = some (some v) := e2
    rw [List.getElem?_map] at e2
    obtain ⟨v', e2, e4⟩ := Option.map_eq_some_iff.mp e2
    cases e4
    by_cases hi : i < T.names.length
    · rw [List.getElem?_append_left hi] at e1
      rw [List.getElem?_append_left (by rw [← hl]; exact hi)] at e2
      obtain ⟨c, o, u, q1, q2, q3, q4, q5⟩ := hat i y v e1 e2
      exact ⟨u, q5, .inr ⟨.inr (L.free y (List.mem_of_getElem? e1)), c, q1, o, kp _ _ q3, q4⟩⟩
    · rw [List.getElem?_append_right (by omega)] at e1
      rw [List.getElem?_append_right (by rw [← hl]; omega)] at e2
      rw [← hl] at e2
      have hm := List.mem_of_getElem? e1
      have nd : locs.Nodup := (List.nodup_append.mp L.nd).2.1
      obtain ⟨u, hu, ru'⟩ := ru.get e2
      refine ⟨u, ru', .inl ⟨L.loc y hm, ?_⟩⟩
      show (locs.zip us).reverse.lookup y = some u
      rw [ZX.lookup_rev nd]
      obtain ⟨u2, v2, z1, z2, z3⟩ := ZX.zip_lookup nd ru (by rw [← ru.length, L.len]) hm
      have hidx : ∀ {locs : List Str} {us : List Value} {j : Nat}, locs.Nodup → locs[j]? = some y → us[j]? = some u → (locs.zip us).lookup y = some u := by
        intro locs
        induction locs with
        | nil => intro us j _ q; simp at q
        | cons n locs ih =>
          intro us j nd q1 q2
          cases us with
          | nil => simp at q2
          | cons u0 us =>
            cases j with
            | zero => simp at q1 q2; subst q1 q2; simp [List.lookup]
            | succ j =>
              have q1 : locs[j]? = some y := by simpa using q1
              have ne : (y == n) = false := by
                simp only [beq_eq_false_iff_ne, ne_eq]
                rintro rfl
                exact (List.nodup_cons.mp nd).1 (List.mem_of_getElem? q1)
              rw [List.zip_cons_cons, List.lookup_cons, ne]
              exact ih (List.nodup_cons.mp nd).2 q1 (by simpa using q2)
      exact hidx nd e1 hu
  · obtain ⟨c2, o, u, q1, q2, q3, q4⟩ := hall y (inN e)
    have e : clo.lookup y = some c := e
    rw [e] at q1; cases q1
    exact ⟨some u, o, kp _ _ q3, q4⟩
  · obtain ⟨c2, o, u, q1, q2, q3, q4⟩ := hall y (inN e)
    have e : clo.lookup y = some c := e
    rw [e] at q1; cases q1
    exact q2
  · show ((vs ++ T.dvs).map some).length = (T.names ++ locs).length
    simp [hl, L.len]
/-- the lambda's reading: its captured values, then its parameters' -/
noncomputable def lamF (dds : List D) (fl : EX) : SemL := fun caps S => fin S (fl ((caps ++ dds).map some) S)
theorem lam_ok {dds : List D} (L : LamWf T locs) (hdd : ∀ ρ H, RepL K mg ρ H dds T.dvs)
    (hb : ∀ (A : Around) (outer : List Env) (s : Shared) (H : Hp) (E : XK) (f c' : Addr) (clo : List (Str × Addr)), Room k (A.deeper (lamE T s.heap.objs.size f c' clo)) → Z.E (cxL P w K mg base T locs A outer s H E f c' clo) (fun c d _ H' => E c d H') T.body fl) :
    LamOk P w K mg base (k + 1) T (lamF dds fl) := by
  intro A outer s H f c' clo pm doc dV ctv ρ S caps vs Q E hr e0 hf hcd hdf hc hκ w0 rl p
  obtain ⟨oc, ws, t, hoc, hdc, hvc⟩ := hcd
  obtain ⟨us, ru, hbd⟩ := L.bind s clo pm doc (.ref c') ctv dV hdf
  have lim : s.heap.NoLimit := e0.mod.nolimit.keeps fun b o e => (e0.bs b o e).1
  refine PySem.W.kla_callFunE hr.depth hf rfl L.co L.gen rfl ⟨c', oc, ws, t, rfl, hoc, hdc, hvc⟩ (hbd _ _ _ _ ?_)
  refine wpAny_newFunctionEnv L.nocell (fun y hy => L.loc y.1 (List.of_mem_zip hy).1) (fun h₁ hns hsb => ⟨lim.fresh _ hsb, ?_⟩) L.kind
  show codeAny _ _ (.expr T.body (lamE T s.heap.objs.size f c' clo)) _ _
  have kp : ∀ b o, s.heap.get? b = some o → h₁.get? b = some o := fun b o e => hsb.extBut b o (Nat.ne_of_lt (Heap.lt_size e)) (Heap.get?_push_of_some _ e)
  have J := lam_inv (E := E) (f := f) (c' := c') (tk := s.toks + (locs.zip us).length) L e0 hr.hd hc hκ ru hns kp
  have p := fin_imp w0 p
  refine PySem.W.kla_codeExpr (wpAny_mono ((hb A outer s H E f c' clo (hr.deeper _)).run [] _ _ H Q J ⟨ρ, S, (caps ++ dds).map some, w0, ⟨?_, fun i d e => ?_⟩, p⟩) (fun v s' hq => ?_) fun e s' hq => hq)
  · simp [rl.len, (hdd ρ H).len]
  · rw [List.getElem?_map] at e
    obtain ⟨d', e1, e2⟩ := Option.map_eq_some_iff.mp e
    cases e2
    obtain ⟨v, h1, h2⟩ := (rl.append (hdd ρ H)).get e1
    exact ⟨v, by rw [List.getElem?_map, h1]; rfl, h2⟩
  · obtain ⟨w', H', J', rv, q⟩ := hq
    exact ⟨w', H', J'.os, J'.bare, J'.base, J'.hok, rv, q⟩
end
end Z
/-! ZX8: a lambda is made. -/
namespace Z
open PySem PySem.Spec L2 PyProof.Rows
section
variable {X : Cx} {pins : List (Addr × Obj)} {σ : L2.St} {H : Hp} {s : Shared}
/-- the function's object is made: its code object is new, or found in the table -/
theorem lam_tail {ρ : List Addr} {S : Store} {ti : Nat} {c P : Addr} {q : Str} {params : Arguments} {body : Expr} {scope : Scope} {pos : Pos} {ln : Nat} {dV : Value} {E : Value → Shared → Prop} {Q : Value → Shared → Prop} (I : Inv X pins σ H s) (TB : LamX.TabB X.base X.mg c P) (hcode : X.env.code = .ref c)
    (w : WOk X.K X.mg ρ H S) (hS : S[ti]? = some (.tab P q)) (hfree : ∀ y ∈ scope.names, y.2 = .free → ∃ c, X.env.cells.lookup y.1 = some c)
    (h : ∀ (f c' : Addr) (pm doc ctv : Value) (H1 : Hp) (s' : Shared), Inv X pins σ (upd H1 f (XO f (PySem.W.kdv_obj "<lambda>" q params (.expr body) scope (cloFrom X.env.cells scope.names []) dV doc pm c' ctv))) s' → H1 f = none → Ext ρ H ρ H1 → WOk X.K X.mg ρ H1 S → c' ∉ ρ → H1 c' = some (LamX.CodeO c' q) → Q (.ref f) s') :
    wpAny (model X.prog X.w) X.A (makeTail "<lambda>" q params (.expr body) scope X.env dV .none none pos ln) Q E s := by
  obtain ⟨a, hρ⟩ : ∃ a, ρ[ti]? = some a := by
    have hl := (List.getElem?_eq_some_iff.mp hS).1
    rw [← w.len] at hl
    exact ⟨ρ[ti], List.getElem?_eq_getElem hl⟩
  obtain ⟨hP0, ps, hP, ht, ha⟩ := w.ob ti a _ hρ hS
  subst hP0
  have hPρ : a ∈ ρ := List.mem_of_getElem? hρ
  have bP : s.heap.BuiltinsAt X.mg a := TB.bm.keeps I.bk
  have hP' : s.heap.get? a = some { cls := .none, data := .fields ps } := I.hok a _ hP
  cases hc : codeAmong pos ps.toList with
  | none =>
    refine PySem.W.kdv_makeTail (mg := X.mg) (c := c) (P := a) (ps := ps) (closure_ok hfree) I.ok.glob (I.mod.glob.keeps I.bk) hcode (TB.code.keeps I.bk) hP' ht hc TB.gP bP fun c' ctv doc h' tk hx hge hlt hrec htb => ?_
    obtain ⟨c2, oc, vs, t, e2, hoc, hd, hv⟩ := hrec
    cases e2
    have nC : H c' = none := I.hok.fresh hge
    have I1 := LamX.inv_table (t' := tk) (more := #[rawInt pos.line, rawInt pos.col, .ref c']) (h' := h') (q := q) I hP (fun b o hb e => hx b o hb e) htb hge ⟨oc, vs, t, hoc, hd, hv⟩
    have nPc : a ≠ c' := ne_of_none hP nC
    have hE : Ext ρ H ρ (upd (upd H a (.tbl (ps ++ #[rawInt pos.line, rawInt pos.col, .ref c']))) c' (LamX.CodeO c' q)) := ⟨⟨[], by simp⟩, fun b x n => absurd x n, fun b o n e => .inl (by
      have nb : b ≠ a := fun z => n (by rw [z]; exact hPρ)
      rw [upd_ne (ne_of_none e nC), upd_ne nb]; exact e)⟩
    have eL : (ps ++ #[rawInt pos.line, rawInt pos.col, .ref c']).toList = ps.toList ++ [rawInt pos.line, rawInt pos.col, .ref c'] := by simp
    have ncρ : c' ∉ ρ := w.nin nC
    have w1 : WOk X.K X.mg ρ (upd (upd H a (.tbl (ps ++ #[rawInt pos.line, rawInt pos.col, .ref c']))) c' (LamX.CodeO c' q)) S := by
      have at_ : ∀ b ∈ ρ, b ≠ a → upd (upd H a (.tbl (ps ++ #[rawInt pos.line, rawInt pos.col, .ref c']))) c' (LamX.CodeO c' q) b = H b := fun b hb n => by
        have nb : b ≠ c' := fun z => ncρ (by rw [← z]; exact hb)
        rw [upd_ne nb, upd_ne n]
      refine ⟨w.len, w.nd, fun b hb => ?_, fun n b m e1 e2 => ?_⟩
      · by_cases z : b = a
        · rw [z, upd_ne nPc, upd_same]; simp
        · rw [at_ b hb z]; exact w.tr b hb
      · by_cases z : b = a
        · subst z
          have hn : n = ti := by
            have l1 := List.getElem?_eq_some_iff.mp e1
            have l2 := List.getElem?_eq_some_iff.mp hρ
            obtain ⟨a1, b1⟩ := l1
            obtain ⟨a2, b2⟩ := l2
            exact (List.getElem_inj (h₀ := a1) (h₁ := a2) w.nd).mp (b1.trans b2.symm)
          subst hn
          rw [hS] at e2
          cases e2
          refine ⟨rfl, _, by rw [upd_ne nPc, upd_same], by rw [eL]; exact PySem.TriplesOk_snoc _ _ _ _ ht, fun p' cv hcv => ?_⟩
          rw [eL] at hcv
          rcases LamX.among_app _ ht hcv with z | z
          · obtain ⟨c0, e1, n0, e3⟩ := ha p' cv z
            exact ⟨c0, e1, n0, hE.kept n0 e3 (by intros; nofun)⟩
          · exact ⟨c', z, ncρ, upd_same⟩
        · exact MRep.ext hE (at_ b (List.mem_of_getElem? e1) z) (w.ob n b m e1 e2)
    have n1 : h'.objs.size ≠ c' := Nat.ne_of_gt hlt
    have hsz : s.heap.objs.size ≤ h'.objs.size := Nat.le_trans hge (Nat.le_of_lt hlt)
    have n2 : h'.objs.size ≠ a := Nat.ne_of_gt (Nat.lt_of_lt_of_le (Heap.lt_size hP') hsz)
    have hget : (h'.push (PySem.W.kdv_obj "<lambda>" q params (.expr body) scope (cloFrom X.env.cells scope.names []) dV doc ((X.mg "__name__").getD .none) c' ctv)).get? h'.objs.size = some (PySem.W.kdv_obj "<lambda>" q params (.expr body) scope (cloFrom X.env.cells scope.names []) dV doc ((X.mg "__name__").getD .none) c' ctv) := Heap.get?_push_size _ rfl
    have I2 := I1.laid (t' := tk) (a := h'.objs.size) (o := XO h'.objs.size (PySem.W.kdv_obj "<lambda>" q params (.expr body) scope (cloFrom X.env.cells scope.names []) dV doc ((X.mg "__name__").getD .none) c' ctv)) (h' := h'.push (PySem.W.kdv_obj "<lambda>" q params (.expr body) scope (cloFrom X.env.cells scope.names []) dV doc ((X.mg "__name__").getD .none) c' ctv)) (fun b o e => Heap.get?_push_of_some _ e) (Nat.le_refl _) ⟨hget, ⟨_, hget⟩, fun h1 h2 e st => st _ e⟩
    exact h h'.objs.size c' _ doc ctv _ _ I2 (by rw [upd_ne n1, upd_ne n2]; exact I.hok.fresh hsz) hE w1 ncρ upd_same
  | some cv =>
    obtain ⟨c', e, ncρ, hco⟩ := ha pos cv hc
    subst e
    refine PySem.W.kdv_makeTailHit (mg := X.mg) (c := c) (P := a) (ps := ps) (closure_ok hfree) I.ok.glob (I.mod.glob.keeps I.bk) hcode (TB.code.keeps I.bk) hP' ht hc bP fun ctv doc h' tk hx hsz => ?_
    have hget : (h'.push (PySem.W.kdv_obj "<lambda>" q params (.expr body) scope (cloFrom X.env.cells scope.names []) dV doc ((X.mg "__name__").getD .none) c' ctv)).get? h'.objs.size = some (PySem.W.kdv_obj "<lambda>" q params (.expr body) scope (cloFrom X.env.cells scope.names []) dV doc ((X.mg "__name__").getD .none) c' ctv) := Heap.get?_push_size _ rfl
    have I1 : Inv X pins σ H { s with heap := h', toks := tk } := I.kept hx
    have I2 := I1.laid (t' := tk) (a := h'.objs.size) (o := XO h'.objs.size (PySem.W.kdv_obj "<lambda>" q params (.expr body) scope (cloFrom X.env.cells scope.names []) dV doc ((X.mg "__name__").getD .none) c' ctv)) (h' := h'.push (PySem.W.kdv_obj "<lambda>" q params (.expr body) scope (cloFrom X.env.cells scope.names []) dV doc ((X.mg "__name__").getD .none) c' ctv)) (fun b o e => Heap.get?_push_of_some _ e) (Nat.le_refl _) ⟨hget, ⟨_, hget⟩, fun h1 h2 e st => st _ e⟩
    exact h h'.objs.size c' _ doc ctv H _ I2 (I.hok.fresh hsz) Ext.refl w ncρ hco

/-- a lambda, its text told -/
def eLam (ti : Nat) (P : Addr) (κ : List (Str × Addr)) (T : LamText) : EX := fun _ S => match S[ti]? with
  | some (.tab P' q) => open Classical in if P' = P ∧ q = T.qual then .ok (.lam T (cloFrom κ T.scope.names [])) S else .bad
  | _ => .bad
variable {W : WX} {ti : Nat} {c P : Addr} {T : LamText} {pos : Pos}
/-- lambda: e -/
theorem r_lam0 (TB : LamX.TabB X.base X.mg c P) (hcode : X.env.code = .ref c) (hq : T.qual = X.env.qual ++ "<lambda>") (hdv : T.dvs = []) (hdef : defaultsOf T.params X.env = ([], [])) (hfree : ∀ y ∈ T.scope.names, y.2 = .free → X.env.kindOf y.1 = some .cell) :
    E X W (.Lambda T.params T.body T.scope pos) (eLam ti P X.env.cells T) := by
  refine ⟨fun pins s σ H Q I h => ?_⟩
  obtain ⟨ρ, S, sl, w, rs, p⟩ := h
  unfold eLam at p
  split at p
  · rename_i P' q eS
    split at p
    · rename_i hpq
      obtain ⟨rfl, rfl⟩ := hpq
      refine PySem.W.kla_eval hdef ?_
      rw [makeFunction_eq]
      simp only [List.zip_nil_right, List.filterMap_nil, List.isEmpty_nil, if_true, pure_bind]
      rw [← hq]
      refine lam_tail I TB hcode w eS (fun y hy e => I.ok.has _ (.inl (hfree y hy e))) fun f c' pm doc ctv H1 s' J nf x1 w1 nc hco => ?_
      have x2 : Ext ρ H1 ρ (upd H1 f (XO f (PySem.W.kdv_obj "<lambda>" T.qual T.params (.expr T.body) T.scope (cloFrom X.env.cells T.scope.names []) .none doc pm c' ctv))) := Ext.new' nf
      have hcf : c' ≠ f := fun z => by rw [z, nf] at hco; cases hco
      refine ⟨.ref f, _, J, rfl, p _ ρ _ (x1.trans x2) (w1.new' nf) ?_⟩
      rw [Rep]
      exact ⟨f, rfl, w1.nin nf, ⟨_, rfl⟩, pm, doc, .none, ctv, c', upd_same, nc, by rw [upd_ne hcf]; exact hco, .inl ⟨hdv, rfl⟩⟩
    · exact p.elim
  · exact p.elim
/-- lambda p=i: e -/
theorem r_lam1 {i : Int} {j : Nat} {p0 : Pos} (TB : LamX.TabB X.base X.mg c P) (hcode : X.env.code = .ref c) (hq : T.qual = X.env.qual ++ "<lambda>") (hdv : T.dvs = [V.int i]) (hd : T.params.defaults = [.Constant (.int i) j p0]) (hk : T.params.kw_defaults = []) (hfree : ∀ y ∈ T.scope.names, y.2 = .free → X.env.kindOf y.1 = some .cell) :
    E X W (.Lambda T.params T.body T.scope pos) (eLam ti P X.env.cells T) := by
  refine ⟨fun pins s σ H Q I h => ?_⟩
  obtain ⟨ρ, S, sl, w, rs, p⟩ := h
  unfold eLam at p
  split at p
  · rename_i P' q eS
    split at p
    · rename_i hpq
      obtain ⟨rfl, rfl⟩ := hpq
      refine PySem.W.kdv_lam (by rw [hd]; rfl) hk ?_
      rw [hd]
      refine PySem.W.kdv_all1 (wpAny_Constant_int (PySem.W.kdv_all0 ?_))
      rw [makeFunction_eq]
      simp only [List.zip_nil_right, List.filterMap_nil, List.isEmpty_nil, List.isEmpty_cons, Bool.false_eq_true, if_true, if_false, pure_bind]
      rw [← hq]
      refine wpAny_bind (wpAny_newTextTuple ?_)
      have hn : H s.heap.objs.size = none := I.hok.fresh (Nat.le_refl _)
      have hget : (s.heap.push { cls := .type "tuple", data := .seq [Value.int i s.toks].toArray }).get? s.heap.objs.size = some { cls := .type "tuple", data := .seq [Value.int i s.toks].toArray } := Heap.get?_push_size _ rfl
      have It : Inv X pins σ (upd H s.heap.objs.size (.tup [V.int i])) { s with heap := s.heap.push { cls := .type "tuple", data := .seq [Value.int i s.toks].toArray }, toks := s.toks + 1 } :=
        I.laid (t' := s.toks + 1) (fun b o e => Heap.get?_push_of_some _ e) (Nat.le_refl _) ⟨by rw [sizeLine_eq]; show 1 ≤ _; omega, [Value.int i s.toks], .cons ⟨_, rfl⟩ .nil, ⟨_, hget, rfl, _, rfl⟩⟩
      have xt : Ext ρ H ρ (upd H s.heap.objs.size (.tup [V.int i])) := Ext.new' hn
      have wt := w.new' (o := .tup [V.int i]) hn
      have ntρ : s.heap.objs.size ∉ ρ := w.nin hn
      refine lam_tail It TB hcode wt eS (fun y hy e => I.ok.has _ (.inl (hfree y hy e))) fun f c' pm doc ctv H1 s' J nf x1 w1 nc hco => ?_
      have x2 : Ext ρ H1 ρ (upd H1 f (XO f (PySem.W.kdv_obj "<lambda>" T.qual T.params (.expr T.body) T.scope (cloFrom X.env.cells T.scope.names []) (.ref s.heap.objs.size) doc pm c' ctv))) := Ext.new' nf
      have hcf : c' ≠ f := fun z => by rw [z, nf] at hco; cases hco
      have ht1 : H1 s.heap.objs.size = some (.tup [V.int i]) := x1.kept ntρ upd_same (by intros; nofun)
      have htf : s.heap.objs.size ≠ f := fun z => by rw [z, nf] at ht1; cases ht1
      refine ⟨.ref f, _, J, rfl, p _ ρ _ ((xt.trans x1).trans x2) (w1.new' nf) ?_⟩
      rw [Rep]
      exact ⟨f, rfl, w1.nin nf, ⟨_, rfl⟩, pm, doc, .ref s.heap.objs.size, ctv, c', upd_same, nc, by rw [upd_ne hcf]; exact hco, .inr ⟨by rw [hdv]; simp, _, rfl, ntρ, by rw [upd_ne htf, hdv]; exact ht1⟩⟩
    · exact p.elim
  · exact p.elim
end
end Z
/-! ZX9: the law's start with a table of code objects. -/
namespace Z
open PySem PySem.Spec L2 PyProof.Rows
theorem wok_tab1 {K : PySem.W.Frag} {mg : Str → Option Value} {H : Hp} {P : Addr} {q : Str} (hP : H P = some (.tbl #[])) : WOk K mg [P] H [.tab P q] := by
  refine ⟨rfl, by simp, fun a ha => ?_, fun n a m e1 e2 => ?_⟩
  · rw [List.mem_singleton.mp ha, hP]; simp
  · cases n with
    | succ n => simp at e1
    | zero =>
      simp at e1 e2
      subst e1 e2
      exact ⟨rfl, #[], hP, True.intro, fun pos cv hc => by
        have z : codeAmong pos [] = some cv := hc
        simp [codeAmong] at z⟩
def spLawT (K : PySem.W.Frag) (P : Addr) : Sp := fun vs H Q _ => ∃ (a : Addr) (ns : List Int), vs = [.ref a] ∧ SqL K H a (ns.map V.int) ∧ ns.length ≤ 63 ∧ H P = some (.tbl #[]) ∧ ∀ H', Q (.bl true) H'
theorem law_fnT {P : Program} {w : World} {K : PySem.W.Frag} {mg : Str → Option Value} {base : Heap} {k : Nat} {f T : Addr} {q : Str} {fd : FuncData} {ps : List Str} {g : SemL} (F : FnOk P w K mg base (L2.CX P w) k f fd ps (spOf K mg 1 g)) (h : ∀ ns : List Int, ns.length ≤ 63 → ∃ S, g [.scr ns] [.tab T q] = .ok (.bl true) S) :
    FnOk P w K mg base (L2.CX P w) k f fd ps (spLawT K T) := F.imp fun vs H Q E ⟨a, ns, ev, hS, hl, hT, hq⟩ => by
  subst ev
  obtain ⟨S', e⟩ := h ns hl
  refine ⟨[T], [.tab T q], [.scr ns], rfl, wok_tab1 hT, RepL.cons ?_ RepL.nil, ?_⟩
  · rw [Rep]
    refine ⟨a, rfl, ?_⟩
    rcases hS with h1 | h1
    · refine .inl ⟨fun hm => ?_, h1⟩
      have ea := List.mem_singleton.mp hm
      subst ea
      rcases h1 with h1 | ⟨o, h1⟩ <;> (rw [hT] at h1; cases h1)
    · exact .inr h1
  · rw [e]
    exact fun v ρ' H' _ _ r => by rw [rep_bl r]; exact hq H'
end Z
/-! ZXa: the plain calculus of exceptions and lambdas. -/
namespace Z
open PySem L2
section
variable {Q : Q0} {sl : Sl} {S : Store} {P : D → Store → Prop} {X : D → Store → Prop}
/-- what the suite's end is worth behind the clause -/
def suiteQ (i : Nat) (Q : Q0) : Q0 := ⟨fun sl S => Q.nx (sl.set i none) S, fun sl S => Q.bk (sl.set i none) S, fun sl S => Q.ct (sl.set i none) S, Q.rt, fun _ _ _ => False⟩
def catchQ (tab : List (Str × Bool)) (i : Nat) (fs : SX) (Q : Q0) (e : D) (sl : Sl) (S : Store) : Prop := match e with
  | .ins c ns ds => match tab.lookup c with
    | some true => Wo (fs (sl.set i (some (.exc c ns ds))) S) (suiteQ i Q)
    | some false => Q.ex (.ins c ns ds) sl S
    | none => False
  | e => Q.ex e sl S
theorem w_try {tab : List (Str × Bool)} {i : Nat} {fb fs : SX} (h : Wo (fb sl S) { Q with ex := catchQ tab i fs Q }) : Wo (sTry tab i fb fs sl S) Q := by
  unfold sTry
  unfold Wo at h ⊢
  cases o : fb sl S with
  | nx sl1 S1 => rw [o] at h; exact h
  | bk sl1 S1 => rw [o] at h; exact h
  | ct sl1 S1 => rw [o] at h; exact h
  | rt d S1 => rw [o] at h; exact h
  | bad => rw [o] at h; exact h
  | ex e sl1 S1 =>
    rw [o] at h
    have h : catchQ tab i fs Q e sl1 S1 := h
    cases e with
    | ins c ns ds =>
      unfold catchQ at h
      dsimp only at h ⊢
      cases q : tab.lookup c with
      | none => rw [q] at h; exact h.elim
      | some b =>
        rw [q] at h
        cases b with
        | false => exact h
        | true =>
          have h : Wo (fs (sl1.set i (some (.exc c ns ds))) S1) (suiteQ i Q) := h
          dsimp only
          unfold Wo at h
          cases o2 : fs (sl1.set i (some (.exc c ns ds))) S1 <;> (rw [o2] at h; exact h)
    | _ => exact h
theorem w_raise {f : EX} (h : We (f sl S) (fun d S' => match d with | .exc c ns ds => Q.ex (.ins c ns ds) sl S' | _ => False) (fun e S' => Q.ex e sl S')) : Wo (sRaise f sl S) Q := by
  unfold sRaise
  unfold We at h
  unfold Wo
  cases o : f sl S with
  | ok d S1 =>
    rw [o] at h
    cases d <;> exact h
  | ex e S1 => rw [o] at h; exact h
  | bad => rw [o] at h; exact h
end
end Z
/-! ZH: further built-ins: sum, abs, max, min, bool, str, dict of a tuple, x[::-1]. -/
namespace Z
open PySem PySem.Spec L2
section
variable {X : Cx}
def intsOf : List D → Option (List Int)
  | [] => some []
  | .int i :: r => (intsOf r).map (i :: ·)
  | _ :: _ => none
theorem intsOf_some : ∀ {xs : List D} {ns : List Int}, intsOf xs = some ns → xs = ns.map .int
  | [], ns, h => by cases h; rfl
  | .int i :: r, ns, h => by
    unfold intsOf at h
    obtain ⟨ms, h1, h2⟩ := Option.map_eq_some_iff.mp h
    subst h2
    rw [intsOf_some h1]; rfl
  | .non :: r, ns, h => by cases h
  | .bl _ :: r, ns, h => by cases h
  | .str _ :: r, ns, h => by cases h
  | .ty _ :: r, ns, h => by cases h
  | .cls _ :: r, ns, h => by cases h
  | .tup _ :: r, ns, h => by cases h
  | .lst _ :: r, ns, h => by cases h
  | .dct _ _ :: r, ns, h => by cases h
  | .ins _ _ _ :: r, ns, h => by cases h
  | .ptr _ :: r, ns, h => by cases h
  | .scr _ :: r, ns, h => by cases h
  | .exc _ _ _ :: r, ns, h => by cases h
  | .lam _ _ :: r, ns, h => by cases h
  | .lamc _ _ :: r, ns, h => by cases h
theorem repL_intsV {K : PySem.W.Frag} {mg : Str → Option Value} {ρ : List Addr} {H : Hp} : ∀ {ns : List Int} {vs : List V}, RepL K mg ρ H (ns.map D.int) vs → vs = ns.map V.int
  | [], vs, h => by rw [List.map_nil, RepL] at h; exact h
  | n :: ns, vs, h => by
    rw [List.map_cons, RepL] at h
    obtain ⟨v, r, e, h1, h2⟩ := h
    rw [e, rep_int h1, repL_intsV h2]; rfl
def semSum : SemL := fun ds S => match ds with
  | [d] => (match asL S d with
    | some xs => (match intsOf xs with
      | some ns => .ok (.int ns.sum) S
      | none => .bad)
    | none => .bad)
  | _ => .bad
theorem d_sum (hc : X.calm = true) : CallD X (.builtin "sum") semSum := by
  refine ⟨_, cr_sum hc, fun Wp ρ H S ds xs Q w r p => ?_⟩
  unfold semSum at p
  split at p
  · rename_i d
    split at p
    · rename_i ys ey
      split at p
      · rename_i ns en
        obtain ⟨v, e, h1⟩ := repL_one r
        obtain ⟨a, vs, e1, h3, r1⟩ := asL_rep w h1 ey
        rw [intsOf_some en] at r1
        refine ⟨a, ns, by rw [e, e1], .inl (.inl ?_), post_ok p w mk_int⟩
        rw [← repL_intsV r1]
        exact h3
      · exact p.elim
    · exact p.elim
  · exact p.elim
def semAbs : SemL := fun ds S => match ds with
  | [.int i] => .ok (.int (if i < 0 then -i else i)) S
  | _ => .bad
theorem d_abs : CallD X (.builtin "abs") semAbs := by
  refine ⟨_, call_abs, fun Wp ρ H S ds xs Q w r p => ?_⟩
  unfold semAbs at p
  split at p
  · obtain ⟨v, e, h1⟩ := repL_one r
    rw [rep_int h1] at e
    exact ⟨_, e, post_ok p w mk_int⟩
  · exact p.elim
def semBool : SemL := fun ds S => match ds with
  | [.int i] => .ok (.bl (i != 0)) S
  | [.bl b] => .ok (.bl b) S
  | _ => .bad
theorem d_bool : CallD X (.type "bool") semBool := by
  refine ⟨_, call_bool1, fun Wp ρ H S ds xs Q w r p => ?_⟩
  unfold semBool at p
  split at p
  · obtain ⟨v, e, h1⟩ := repL_one r
    rw [rep_int h1] at e
    exact .inl ⟨_, e, post_ok p w mk_bl⟩
  · obtain ⟨v, e, h1⟩ := repL_one r
    rw [rep_bl h1] at e
    exact .inr ⟨_, e, post_ok p w mk_bl⟩
  · exact p.elim
def semStr : SemL := fun ds S => match ds with
  | [.int i] => if i.natAbs.log2 < 1920 then .ok (.str (toString i)) S else .bad
  | _ => .bad
theorem d_str : CallD X (.type "str") semStr := by
  refine ⟨_, call_str_int, fun Wp ρ H S ds xs Q w r p => ?_⟩
  unfold semStr at p
  split at p
  · split at p
    · rename_i h
      obtain ⟨v, e, h1⟩ := repL_one r
      rw [rep_int h1] at e
      exact ⟨_, e, h, post_ok p w mk_str⟩
    · exact p.elim
  · exact p.elim
/-! ### max, min of two -/
def semMax2 : SemL := fun ds S => match ds with
  | [.int i, .int j] => .ok (.int (if j > i then j else i)) S
  | _ => .bad
def semMin2 : SemL := fun ds S => match ds with
  | [.int i, .int j] => .ok (.int (if j < i then j else i)) S
  | _ => .bad
theorem d_max2 (hc : X.calm = true) : CallD X (.builtin "max") semMax2 := by
  refine ⟨_, call_max2 hc, fun Wp ρ H S ds xs Q w r p => ?_⟩
  unfold semMax2 at p
  split at p
  · obtain ⟨v, u, e, h1, h2⟩ := repL_two r
    rw [rep_int h1, rep_int h2] at e
    exact ⟨_, _, e, post_ok p w mk_int⟩
  · exact p.elim
theorem d_min2 (hc : X.calm = true) : CallD X (.builtin "min") semMin2 := by
  refine ⟨_, call_min2 hc, fun Wp ρ H S ds xs Q w r p => ?_⟩
  unfold semMin2 at p
  split at p
  · obtain ⟨v, u, e, h1, h2⟩ := repL_two r
    rw [rep_int h1, rep_int h2] at e
    exact ⟨_, _, e, post_ok p w mk_int⟩
  · exact p.elim
end
/-! ### .. of two texts -/
section
variable {prog : Program} {w : World} {A : Around} {E : Value → Shared → Prop} {s : Shared}
def twoS (x y : Str) (i : Nat) : Str := if i = 0 then x else y
theorem pairS_at {x y : Str} {t u : Tok} {i : Nat} {v : Value} (h : (#[Value.str x t, Value.str y u] : Array Value)[i]? = some v) : ∃ q, v = .str (twoS x y i) q := by
  match i, h with
  | 0, h => simp at h; exact ⟨t, h.symm⟩
  | 1, h => simp at h; exact ⟨u, h.symm⟩
  | i + 2, h => simp at h
theorem cmpS_gt {x y : Str} {t u : Tok} : CmpOf prog w A .Gt (fun i v => (#[Value.str x t, Value.str y u] : Array Value)[i]? = some v) (fun i j => decide ((twoS x y j).cps.toList < (twoS x y i).cps.toList)) := fun i j vi vj s Q E hi hj h => by
  obtain ⟨q1, rfl⟩ := pairS_at hi
  obtain ⟨q2, rfl⟩ := pairS_at hj
  exact PySem.P.gt_str (A := A) h
theorem cmpS_lt {x y : Str} {t u : Tok} : CmpOf prog w A .Lt (fun i v => (#[Value.str x t, Value.str y u] : Array Value)[i]? = some v) (fun i j => decide ((twoS x y i).cps.toList < (twoS x y j).cps.toList)) := fun i j vi vj s Q E hi hj h => by
  obtain ⟨q1, rfl⟩ := pairS_at hi
  obtain ⟨q2, rfl⟩ := pairS_at hj
  exact PyProof.Rows.lt_str (A := A) h
/-- the larger, the smaller of two values by a comparison that needs no heap -/
theorem two_core {a b : Value} {bt : Nat → Nat → Bool} {Q : Value → Shared → Prop} (hh : A.handled = none) {op : CmpOp} (hc : CmpOf prog w A.in1 op (fun i v => (#[a, b] : Array Value)[i]? = some v) bt)
    (h : ∀ h' tk, (∀ c o, s.heap.get? c = some o → h'.get? c = some o) → Q (if bt 1 0 = true then b else a) { s with heap := h', toks := tk }) :
    wpAny (model prog w) A.in1 (pyIter (.ref s.heap.objs.size)) (fun it s₂ => ∃ I fp wr n P St bt, it = .ref I ∧ Walks prog w A.in1 I fp wr n P St ∧ St 0 s₂.heap ∧ (∀ b ∈ fp, b < s₂.heap.objs.size) ∧ 0 < n ∧ CmpOf prog w A.in1 op P bt ∧
      ∀ v h' tk, P (argBest bt (n - 1)) v → (∀ b o, b ∉ wr → s₂.heap.get? b = some o → h'.get? b = some o) → Q v { s₂ with heap := h', toks := tk }) E
      { s with heap := s.heap.push { cls := .type "tuple", data := .seq #[a, b] } } := by
  have hT : (s.heap.push { cls := .type "tuple", data := .seq #[a, b] }).IsTuple s.heap.objs.size #[a, b] := ⟨_, Heap.get?_push_size _ rfl, rfl, 0, rfl⟩
  have hsz : (s.heap.push { cls := .type "tuple", data := .seq #[a, b] }).objs.size = s.heap.objs.size + 1 := Heap.size_push ..
  refine wpAny_pyIter_tuple hT ?_
  refine ⟨_, [_, s.heap.objs.size], [_], _, _, _, bt, rfl, Walks.tuple (A := A.in1) hh _ s.heap.objs.size (Nat.ne_of_lt (hsz ▸ Nat.lt_succ_self _)) #[a, b], ⟨⟨_, Heap.get?_push_size _ rfl, rfl, rfl⟩, hT.push _⟩, fun c hcm => ?_, Nat.zero_lt_succ _, hc, fun v h' tk hP hk => ?_⟩
  · show c < ((s.heap.push _).push _).objs.size
    rw [Heap.size_push]
    rcases List.mem_cons.mp hcm with e | hcm
    · rw [e]; exact Nat.lt_succ_self _
    · rw [List.mem_singleton.mp hcm, hsz]
      exact Nat.lt_succ_of_lt (Nat.lt_succ_self _)
  · have old : ∀ c o, s.heap.get? c = some o → h'.get? c = some o := fun c o e => hk c o (fun hm => by
      have h1 := Heap.lt_size e
      rw [List.mem_singleton.mp hm] at h1
      exact absurd (Nat.lt_trans (Nat.lt_succ_self _) (hsz ▸ h1)) (Nat.lt_irrefl _)) (Heap.get?_push_of_some _ (Heap.get?_push_of_some _ e))
    have hv : v = if bt 1 0 = true then b else a := by
      by_cases q : bt 1 0 = true
      · have e1 : argBest bt 1 = 1 := by simp [argBest, q]
        have e : (#[a, b] : Array Value)[1]? = some v := e1 ▸ hP
        rw [if_pos q]
        simpa using e.symm
      · have e1 : argBest bt 1 = 0 := by simp [argBest, q]
        have e : (#[a, b] : Array Value)[0]? = some v := e1 ▸ hP
        rw [if_neg q]
        simpa using e.symm
    rw [hv]
    exact h h' tk old
end
section
variable {X : Cx}
def gtS (x y : Str) : Bool := decide (x.cps.toList < y.cps.toList)
def semMaxS : SemL := fun ds S => match ds with
  | [.str i, .str j] => .ok (.str (if gtS i j = true then j else i)) S
  | _ => .bad
def semMinS : SemL := fun ds S => match ds with
  | [.str i, .str j] => .ok (.str (if gtS j i = true then j else i)) S
  | _ => .bad
theorem call_maxS (hc : X.calm = true) : CallR X (.builtin "max") (fun xs H Q => ∃ i j, xs = [.str i, .str j] ∧ Q (.str (if gtS i j = true then j else i)) H) := by
  intro pins s σ H xs us Q I r h
  obtain ⟨i, j, rfl, q⟩ := h
  obtain ⟨u, w', rfl, ⟨t, rfl⟩, ⟨t', rfl⟩⟩ := vals2 r
  refine call_max_two (two_core (I.ok.hd hc) cmpS_gt fun h' tk k => ⟨_, H, I.kept k, ?_, q⟩)
  show L2.RelV _ (if decide ((twoS i j 0).cps.toList < (twoS i j 1).cps.toList) = true then _ else _)
  show L2.RelV _ (if gtS i j = true then _ else _)
  split
  · exact ⟨_, rfl⟩
  · exact ⟨_, rfl⟩
theorem call_minS (hc : X.calm = true) : CallR X (.builtin "min") (fun xs H Q => ∃ i j, xs = [.str i, .str j] ∧ Q (.str (if gtS j i = true then j else i)) H) := by
  intro pins s σ H xs us Q I r h
  obtain ⟨i, j, rfl, q⟩ := h
  obtain ⟨u, w', rfl, ⟨t, rfl⟩, ⟨t', rfl⟩⟩ := vals2 r
  refine call_min_two (two_core (I.ok.hd hc) cmpS_lt fun h' tk k => ⟨_, H, I.kept k, ?_, q⟩)
  show L2.RelV _ (if gtS j i = true then _ else _)
  split
  · exact ⟨_, rfl⟩
  · exact ⟨_, rfl⟩
theorem d_maxS (hc : X.calm = true) : CallD X (.builtin "max") semMaxS := by
  refine ⟨_, call_maxS hc, fun Wp ρ H S ds xs Q w r p => ?_⟩
  unfold semMaxS at p
  split at p
  · obtain ⟨v, u, e, h1, h2⟩ := repL_two r
    rw [rep_str h1, rep_str h2] at e
    exact ⟨_, _, e, post_ok p w mk_str⟩
  · exact p.elim
theorem d_minS (hc : X.calm = true) : CallD X (.builtin "min") semMinS := by
  refine ⟨_, call_minS hc, fun Wp ρ H S ds xs Q w r p => ?_⟩
  unfold semMinS at p
  split at p
  · obtain ⟨v, u, e, h1, h2⟩ := repL_two r
    rw [rep_str h1, rep_str h2] at e
    exact ⟨_, _, e, post_ok p w mk_str⟩
  · exact p.elim
end
/-! ### the least of a list of alike data -/
section
variable {prog : Program} {w : World} {A : Around} {R : Result → Shared → Prop} {I : Addr} {fp wr : List Addr} {n : Nat} {P : Nat → Value → Prop} {St : Nat → Heap → Prop}
/-- what stood in h0 stands -/
def Stands (h0 h : Heap) : Prop := ∀ b o, h0.get? b = some o → h.get? b = some o
/-- i's value is less than j's, wherever h0 stands -/
def CmpIn (prog : Program) (w : World) (A : Around) (h0 : Heap) (P : Nat → Value → Prop) (bt : Nat → Nat → Bool) : Prop :=
  ∀ (i j : Nat) (vi vj : Value) (s : Shared) (Q E : Value → Shared → Prop), P i vi → P j vj → Stands h0 s.heap → Q (.bool (bt i j)) s → wpAny (model prog w) A (richCompare .Lt vi vj) Q E s
theorem loop_name : (toString "min" ++ toString ".loop" : String) = "min.loop" := by decide
theorem min_turns (W : Walks prog w A.in1 I fp wr n P St) {h0 : Heap} {bt : Nat → Nat → Bool} (cmp : CmpIn prog w A.in1 h0 P bt) {T : Addr} (nT : T ∉ fp) (wr0 : ∀ b ∈ wr, h0.get? b = none) (T0 : h0.get? T = none) :
    ∀ (m k : Nat) (s : Shared) (best : Value) (c : Nat), n = k + 1 + m → Stands h0 s.heap → St (k + 1) s.heap → P (argBest bt k) best → s.heap.get? T = some { cls := .type "list", dict := none, data := .seq #[best, best] c, slots := #[] } →
      (∀ v h' tk, P (argBest bt (n - 1)) v → Stands h0 h' → R (.ok (.ret v)) { s with heap := h', toks := tk }) → codeAny (model prog w) A (.builtin "min.loop" ⟨[.ref I, .none, .ref T], []⟩) R s := by
  have nTw : T ∉ wr := fun q => nT (W.sub _ q)
  have put : ∀ {h h' : Heap} {g : Array Value → Array Value}, Stands h0 h → (∀ b o, b ∉ wr → h.get? b = some o → h'.get? b = some o) → Stands h0 (h'.update T (Obj.mapSeq g)) := fun {h h' g} st k b o e => by
    have hb : T ≠ b := fun q => by rw [← q, T0] at e; cases e
    refine (Heap.get?_update_other _ _ hb).trans (k b o (fun q => ?_) (st b o e))
    rw [wr0 b q] at e; cases e
  have keep : ∀ {h h' : Heap}, Stands h0 h → (∀ b o, b ∉ wr → h.get? b = some o → h'.get? b = some o) → Stands h0 h' := fun {h h'} st k b o e => k b o (fun q => by rw [wr0 b q] at e; cases e) (st b o e)
  intro m
  induction m with
  | zero =>
    intro k s best c hn st hst hP hT hR
    refine codeAny_builtin PySem.F.entry_min_loop ?_
    rw [Around.under_plainId PySem.F.plain_min_loop ⟨[.ref I, .none, .ref T], []⟩]
    show wpAny _ A.in1 (seqItems? (.ref T) >>= _) _ _ _
    refine wpAny_bind (wpAny_seqItems hT rfl ?_)
    show wpAny _ A.in1 (tryCatch (pyNext (.ref I)) _ >>= _) _ _ _
    refine wpAny_bind (wpAny_tryCatch (W.done s _ _ (by rw [hn, Nat.add_zero]; exact hst) fun h' tk kp => ?_))
    show wpAny _ A.in1 (updateSeq T (fun _ => #[]) >>= _) _ _ _
    refine wpAny_bind (wpAny_updateSeq (kp T _ nTw hT) rfl (wpAny_bind (wpAny_letGo (wpAny_pure (hR best _ tk ?_ (put st kp))))))
    rw [hn]; exact hP
  | succ m ih =>
    intro k s best c hn st hst hP hT hR
    refine codeAny_builtin PySem.F.entry_min_loop ?_
    rw [Around.under_plainId PySem.F.plain_min_loop ⟨[.ref I, .none, .ref T], []⟩]
    show wpAny _ A.in1 (seqItems? (.ref T) >>= _) _ _ _
    refine wpAny_bind (wpAny_seqItems hT rfl ?_)
    show wpAny _ A.in1 (tryCatch (pyNext (.ref I)) _ >>= _) _ _ _
    refine wpAny_bind (wpAny_tryCatch (W.item (k + 1) s _ _ (by omega) hst fun v h' tk hv hst' kp => ?_))
    have hT' := kp T _ nTw hT
    show wpAny _ A.in1 (tryCatch (holding [v, v] (richCompare .Lt v best >>= _)) _ >>= _) _ _ _
    refine wpAny_bind (wpAny_tryCatch (wpAny_holding (wpAny_bind (cmp (k + 1) (argBest bt k) v best _ _ _ hv hP (keep st kp) ?_))))
    refine wpAny_bind (wpAny_holding (wpAny_truthy_bool (wpAny_bind (wpAny_letGo (wpAny_pure ?_)))))
    cases hb : bt (k + 1) (argBest bt k) with
    | true =>
      rw [if_pos rfl]
      refine wpAny_bind ?_
      refine wpAny_updateSeq hT' rfl (wpAny_bind (wpAny_letGo ?_))
      rw [loop_name]
      refine wpAny_pure ⟨plainId_quiet PySem.F.plain_min_loop _, ih (k + 1) _ v _ (by omega) (put st kp) (W.frame _ _ _ hst' fun b hbf o e => (Heap.get?_update_other _ _ (fun q : T = b => nT (q ▸ hbf))).trans e) ?_ (Heap.get?_update_self _ hT' rfl) fun v' h2 t2 h3 h4 => hR v' h2 t2 h3 h4⟩
      show P (argBest bt (k + 1)) v
      simp only [argBest, hb, if_true]; exact hv
    | false =>
      rw [if_neg Bool.false_ne_true]
      refine wpAny_bind (wpAny_letGo ?_)
      rw [loop_name]
      refine wpAny_pure ⟨plainId_quiet PySem.F.plain_min_loop _, ih (k + 1) _ best c (by omega) (keep st kp) hst' ?_ hT' fun v' h2 t2 h3 h4 => hR v' h2 t2 h3 h4⟩
      show P (argBest bt (k + 1)) best
      simp only [argBest, hb, Bool.false_eq_true, if_false]; exact hP
theorem min_list {E : Value → Shared → Prop} {s : Shared} {l : Addr} {its : List Value} {bt : Nat → Nat → Bool} {Q : Value → Shared → Prop} (hh : A.handled = none) (hl : s.heap.IsList l its.toArray) (hne : 0 < its.length)
    (cmp : CmpIn prog w A.in1 s.heap (fun i v => its.toArray[i]? = some v) bt) (h : ∀ v h' tk, its[argBest bt (its.length - 1)]? = some v → Stands s.heap h' → Q v { s with heap := h', toks := tk }) :
    wpAny (model prog w) A (PySem.call (.builtin "min") [.ref l]) Q E s := by
  have hll : l < s.heap.objs.size := by obtain ⟨_, e, _⟩ := hl; exact Heap.lt_size e
  refine call_function_tree PySem.F.kind_min PySem.F.plain_min PySem.F.entry_min (PySem.F.args_min1 _) ?_
  show wpAny _ A.in1 (Builtin.Builtins.bindParams "min" ["key", "default"] 0 ⟨[], []⟩ >>= _) _ _ _
  refine wpAny_bind (wpAny_of_eq (show Builtin.Builtins.bindParams "min" ["key", "default"] 0 ⟨[], []⟩ = pure [none, none] from rfl) (wpAny_bind (wpAny_pure (wpAny_bind (wpAny_pyIter_list hl ?_)))))
  refine wpAny_bind (wpAny_newObj_type ?_)
  rw [loop_name]
  have e1 : (s.heap.push { cls := .type "list_iterator", data := .fields #[.ref l, .int 0 0] }).objs.size = s.heap.objs.size + 1 := Heap.size_push ..
  have W := Walks.list (prog := prog) (w := w) (A := A.in1) hh s.heap.objs.size l (Nat.ne_of_lt hll) its.toArray
  have st0 : ∀ {o : Obj}, Stands s.heap ((s.heap.push { cls := .type "list_iterator", data := .fields #[.ref l, .int 0 0] }).push o) := fun b o e => Heap.get?_push_of_some _ (Heap.get?_push_of_some _ e)
  have f1 : s.heap.get? s.heap.objs.size = none := Heap.get?_none_of_le (Nat.le_refl _)
  have f2 : s.heap.get? (s.heap.push { cls := .type "list_iterator", data := .fields #[.ref l, .int 0 0] }).objs.size = none := Heap.get?_none_of_le (by rw [e1]; exact Nat.le_succ _)
  have hI0 : ((s.heap.push { cls := .type "list_iterator", data := .fields #[.ref l, .int 0 0] }).push { cls := .type "list", data := .seq #[] }).IsListIter s.heap.objs.size l 0 := ⟨_, Heap.get?_push_of_some _ (Heap.get?_push_size _ rfl), rfl, rfl⟩
  have hl0 : ((s.heap.push { cls := .type "list_iterator", data := .fields #[.ref l, .int 0 0] }).push { cls := .type "list", data := .seq #[] }).IsList l its.toArray := (hl.push _).push _
  have nT : (s.heap.push { cls := .type "list_iterator", data := .fields #[.ref l, .int 0 0] }).objs.size ∉ [s.heap.objs.size, l] := fun q => by
    rw [e1] at q
    rcases List.mem_cons.mp q with q | q
    · exact absurd q (Nat.succ_ne_self _)
    · rw [List.mem_singleton] at q
      exact absurd (q ▸ hll) (Nat.not_lt.mpr (Nat.le_succ _))
  refine wpAny_pure ⟨plainId_quiet PySem.F.plain_min_loop _, codeAny_builtin PySem.F.entry_min_loop ?_⟩
  rw [Around.under_plainId PySem.F.plain_min_loop _]
  show wpAny _ A.in1 (seqItems? (.ref (s.heap.push { cls := .type "list_iterator", data := .fields #[.ref l, .int 0 0] }).objs.size) >>= _) _ _ _
  refine wpAny_bind (wpAny_seqItems (Heap.get?_push_size _ rfl) rfl ?_)
  show wpAny _ A.in1 (tryCatch (pyNext (.ref s.heap.objs.size)) _ >>= _) _ _ _
  refine wpAny_bind (wpAny_tryCatch (W.item 0 _ _ _ (by simpa using hne) ⟨hI0, hl0⟩ fun v h' tk hv hst kp => ?_))
  have nTw : (s.heap.push { cls := .type "list_iterator", data := .fields #[.ref l, .int 0 0] }).objs.size ∉ [s.heap.objs.size] := fun q => nT (W.sub _ q)
  have hT := kp _ _ nTw (Heap.get?_push_size _ rfl)
  show wpAny _ A.in1 (updateSeq (s.heap.push { cls := .type "list_iterator", data := .fields #[.ref l, .int 0 0] }).objs.size (fun _ => #[v, v]) >>= _) _ _ _
  refine wpAny_bind ?_
  refine wpAny_updateSeq hT rfl ?_
  rw [loop_name]
  have st1 : Stands s.heap (h'.update (s.heap.push { cls := .type "list_iterator", data := .fields #[.ref l, .int 0 0] }).objs.size (Obj.mapSeq fun _ => #[v, v])) := fun b o e => by
    have hb : (s.heap.push { cls := .type "list_iterator", data := .fields #[.ref l, .int 0 0] }).objs.size ≠ b := fun q => by rw [← q, f2] at e; cases e
    refine (Heap.get?_update_other _ _ hb).trans (kp b o (fun q => ?_) (st0 b o e))
    rw [List.mem_singleton.mp q, f1] at e; cases e
  refine wpAny_pure ⟨plainId_quiet PySem.F.plain_min_loop _, min_turns W cmp nT (fun b hb => by rw [List.mem_singleton.mp hb]; exact f1) f2 (its.length - 1) 0 _ v _ (by simp; omega) st1 (W.frame _ _ _ hst fun b hbf o e => (Heap.get?_update_other _ _ (fun q => nT (by rw [q]; exact hbf))).trans e) hv (Heap.get?_update_self _ hT rfl) fun v' h2 t2 h3 h4 => ?_⟩
  refine h v' h2 t2 ?_ h4
  have : its.toArray[argBest bt (its.length - 1)]? = some v' := by simpa using h3
  simpa using this
end
end Z
/-! ZY0: operators of own classes by their special methods; isinstance of own classes. -/
namespace PySem.W
open PySem PySem.Calls PyProof.Rows Builtin
section
variable {prog : Program} {w : World} {A : Around} {E : Value → Shared → Prop} {s : Shared} {K : Frag} {x C f : Addr} {ox : Obj} {od : Option Obj} {T : String}
theorem zy_neg {M : Model} {Q : Value → Shared → Prop} (X : K.In s.heap) (I : InstAt s.heap x ox C od) (hs : findIn K (.ref C) "__neg__" = some (some (.ref f))) (hf : isFn K (.ref f) = true)
    (h : wpAny M A (call (.ref f) [.ref x]) Q E s) : wpAny M A (unaryOp .USub (.ref x)) Q E s := by
  unfold unaryOp
  refine wpAny_holding ?_
  exact wpAny_bind (special_fn X I hs (beq_iff_eq.mp hf) (wpAny_mono h (fun _ _ z => wpAny_pure z) fun _ _ z => z))
theorem zy_tru {M : Model} {Q : Bool → Shared → Prop} (X : K.In s.heap) (I : InstAt s.heap x ox C od) (hs : findIn K (.ref C) "__bool__" = some (some (.ref f))) (hf : isFn K (.ref f) = true)
    (h : wpAny M A (call (.ref f) [.ref x]) (fun r s' => ∃ b, r = .bool b ∧ Q b s') E s) : wpAny M A (truthy (.ref x)) Q E s := by
  unfold truthy
  have one : wpAny M A (callSpecial? (.ref x) (Str.ofString "__bool__")) (fun r s' => ∃ b, r = some (.bool b) ∧ Q b s') E s :=
    special_fn X I hs (beq_iff_eq.mp hf) (wpAny_mono h (fun v s' hv => by obtain ⟨b, rfl, hq⟩ := hv; exact ⟨b, rfl, hq⟩) fun _ _ e => e)
  refine wpAny_bind (m := callSpecial? (.ref x) (Str.ofString "__bool__")) (wpAny_mono one (fun r s' hr => ?_) fun _ _ e => e)
  obtain ⟨b, rfl, hq⟩ := hr
  exact wpAny_pure hq
/-- a op b where b's type is built in -/
theorem zy_binT {op : Operator} {b : Value} {fo ro rc : Option Value} {Q : Value → Shared → Prop} (X : K.In s.heap) (I : InstAt s.heap x ox C od) (hb : Looks (model prog w) s.heap (typeOf b) (.type T)) (hc : selfFirst K C = true)
    (hs : findIn K (.ref C) (PySem.dunder op.info.2) = some (some (.ref f))) (hf : isFn K (.ref f) = true) (hr : findIn K (.ref C) (dunderR op.info.2) = some rc) (hp : rc = none ∨ ∃ g : Addr, rc = some (.ref g))
    (h1 : findIn K (.type T) (PySem.dunder op.info.2) = some fo) (h2 : findIn K (.type T) (dunderR op.info.2) = some ro) (hsub : subIn K (.type T) (.ref C) = some false)
    (h : wpAny (model prog w) A (call (.ref f) [.ref x, b]) (CmpBack Q) E s) : wpAny (model prog w) A (binaryOp op (.ref x) b) Q E s := by
  obtain ⟨cd, rest, hcd, hm⟩ := ksp_first hc
  rcases hi : op.info with ⟨sym, nm'⟩
  rw [hi] at hs hr h1 h2
  dsimp only at hs hr h1 h2
  have one := ksp_try X I hs hf h
  obtain ⟨hh, g, d, tt, os⟩ := s
  have L1 : Looks (model prog w) hh (typeOf (.ref x)) (.ref C) := I.type
  have L2 : Looks (model prog w) hh (typeOf b) (.type T) := hb
  have L3 : Looks (model prog w) hh (fillsNumberSlot (.ref C) nm') true := fills_K X hcd hm hs
  have L4 : Looks (model prog w) hh (fillsNumberSlot (.type T) nm') ((fo.isSome && !isSeqSlot fo) || (ro.isSome && !isSeqSlot ro)) := ksp_fillsT X h1 h2
  have L5 : Looks (model prog w) hh (isSubtype (.type T) (.ref C)) false := looks_subIn X hsub
  have L6 : Looks (model prog w) hh (numberSlotInPython (.ref C) nm') true := ksp_inPy X hs hr hp
  have L7 : Looks (model prog w) hh (numberSlotInPython (.type T) nm') false := Looks.of_pure rfl
  have L8 : Looks (model prog w) hh (typeLookup (.type T) (dunderR nm')) ro := looks_findIn X h2
  generalize ((fo.isSome && !isSeqSlot fo) || (ro.isSome && !isSeqSlot ro)) = right at L4
  have hne : (Value.ref C == Value.type T) = false := Bool.eq_false_iff.mpr fun q => by cases beq_iff_eq.mp q
  simp only [binaryOp, hi]
  refine wpAny_holding (wpAny_bind ?_)
  unfold binaryOp1
  refine wpAny_bind (L1.at (wpAny_bind (L2.at (wpAny_bind (L3.at ?_)))))
  simp only [hne, Bool.false_eq_true, if_false]
  cases right with
  | false =>
    ksp_lk
    refine wpAny_mono one (fun r s' hr' => ?_) fun _ _ e => e
    obtain ⟨v, rfl, hq⟩ := hr'
    ksp_lk
    exact hq
  | true =>
    ksp_lk
    refine wpAny_mono one (fun r s' hr' => ?_) fun _ _ e => e
    obtain ⟨v, rfl, hq⟩ := hr'
    ksp_lk
    exact hq
/-- a op b of one class -/
theorem zy_binC {op : Operator} {b : Value} {Q : Value → Shared → Prop} (X : K.In s.heap) (I : InstAt s.heap x ox C od) (hb : Looks (model prog w) s.heap (typeOf b) (.ref C)) (hc : selfFirst K C = true)
    (hs : findIn K (.ref C) (PySem.dunder op.info.2) = some (some (.ref f))) (hf : isFn K (.ref f) = true)
    (h : wpAny (model prog w) A (call (.ref f) [.ref x, b]) (CmpBack Q) E s) : wpAny (model prog w) A (binaryOp op (.ref x) b) Q E s := by
  obtain ⟨cd, rest, hcd, hm⟩ := ksp_first hc
  unfold binaryOp
  refine wpAny_holding (wpAny_bind ?_)
  unfold binaryOp1
  refine wpAny_bind (I.type.here (wpAny_bind (hb.here (wpAny_bind ((fills_K X hcd hm hs).here ?_)))))
  simp only [beq_self_eq_true, if_true]
  refine wpAny_bind (wpAny_pure ?_)
  simp only [Bool.and_false, Bool.false_eq_true, if_false, Bool.false_and]
  refine wpAny_bind (wpAny_pure ?_)
  simp only [Bool.false_eq_true, if_false]
  refine wpAny_bind (m := tryMethod (.ref x) _ b) ?_
  unfold tryMethod
  refine wpAny_bind (special_fn X I hs (beq_iff_eq.mp hf) (wpAny_mono h (fun v s' hv => ?_) fun _ _ e => e))
  cases v <;> first | exact hv.elim | exact wpAny_pure (wpAny_pure (wpAny_pure hv))
/-- a cmp b by a's method -/
theorem zy_cmp {op : CmpOp} {b tb : Value} {Q : Value → Shared → Prop} (hu : A.units < cLine) (X : K.In s.heap) (I : InstAt s.heap x ox C od) (hb : Looks (model prog w) s.heap (typeOf b) tb) (hn : notFirst K C tb = true)
    (hs : findIn K (.ref C) (cmpInfo op).2.1 = some (some (.ref f))) (hf : isFn K (.ref f) = true)
    (h : wpAny (model prog w) A (call (.ref f) [.ref x, b]) (CmpBack Q) E s) : wpAny (model prog w) A (richCompare op (.ref x) b) Q E s := by
  have one : wpAny (model prog w) A (tryCompare (.ref x) (cmpInfo op).2.1 b) (fun r s' => ∃ v, r = some v ∧ Q v s') E s := by
    unfold tryCompare
    refine wpAny_bind (ifBound_K X I hs hf (wpAny_mono h (fun v s' hv => ?_) fun _ _ e => e))
    cases v <;> first | exact hv.elim | exact wpAny_pure ⟨_, rfl, hv⟩
  unfold richCompare
  simp only [oneThing_ref]
  refine wpAny_holding (wpAny_bind (wpAny_cRoomFor hu ?_))
  refine wpAny_bind (I.type.here (wpAny_bind (hb.here ?_)))
  split
  · rename_i q
    have e : subIn K tb (.ref C) = some false := by
      rcases Bool.or_eq_true_iff.mp hn with e | e
      · rw [beq_iff_eq.mp e] at q; simp at q
      · exact beq_iff_eq.mp e
    refine wpAny_bind ((looks_subIn X e).here ?_)
    simp only [Bool.false_eq_true, if_false]
    refine wpAny_bind (wpAny_mono one (fun r s' z => ?_) fun _ _ e => e)
    obtain ⟨v, rfl, hq⟩ := z
    exact wpAny_pure hq
  · refine wpAny_bind (wpAny_pure ?_)
    simp only [Bool.false_eq_true, if_false]
    refine wpAny_bind (wpAny_mono one (fun r s' z => ?_) fun _ _ e => e)
    obtain ⟨v, rfl, hq⟩ := z
    exact wpAny_pure hq
/-- what object.__ne__ does with an own __eq__ -/
theorem zy_ne_body {b : Value} {Q : Fin → Shared → Prop} (hu : A.units < cLine) (X : K.In s.heap) (I : InstAt s.heap x ox C od) (hs : findIn K (.ref C) "__eq__" = some (some (.ref f))) (hf : isFn K (.ref f) = true)
    (h : wpAny (model prog w) A (call (.ref f) [.ref x, b]) (fun v s' => ∃ r, v = .bool r ∧ Q (.done (.ret (.bool (!r)))) s') E s) : wpAny (model prog w) A (Builtin.«object.__ne__» ⟨[.ref x, b], []⟩) Q E s := by
  have one : wpAny (model prog w) A (callSpecialIfBound? (.ref x) (Str.ofString "__eq__") [b]) (fun r s' => ∃ v, r = some (.bool v) ∧ Q (.done (.ret (.bool (!v)))) s') E s :=
    ifBound_K X I hs hf (wpAny_mono h (fun v s' hv => by obtain ⟨r, rfl, hq⟩ := hv; exact ⟨r, rfl, hq⟩) fun _ _ e => e)
  unfold Builtin.«object.__ne__»
  repeat (first
    | with_reducible refine wpAny_cRoomFor hu ?_
    | (refine wpAny_bind (m := callSpecialIfBound? (.ref x) (Str.ofString "__eq__") [b])
        (wpAny_mono one (fun r s' hr => by
          obtain ⟨b, rfl, hq⟩ := hr
          repeat (first | exact hq | exact wpAny_pure hq | exact wpAny_truthy_bool hq | (refine wpAny_bind (m := truthy (.bool _)) (wpAny_truthy_bool ?_)) | wp_step)) fun _ _ e => e))
    | wp_step)
theorem zy_boundNe {M : Model} {args : List Value} {Q : Option Value → Shared → Prop} (I : InstAt s.heap x ox C od) (X : K.In s.heap) (hne : findIn K (.ref C) "__ne__" = some (some (.builtin "object.__ne__")))
    (h : wpAny M A (call (.builtin "object.__ne__") (.ref x :: args)) (fun v => Q (some v)) E s) : wpAny M A (callSpecialIfBound? (.ref x) "__ne__" args) Q E s := by
  simp only [callSpecialIfBound?, bindSpecialIfBound?]
  refine wpAny_holding (wpAny_bind (wpAny_bind (wpAny_bind (I.type.here ((looks_findIn X hne).here ?_)))))
  refine wpAny_bind (wpAny_askSetting (wpAny_ite ?_))
  have fin : wpAny M A (call (.builtin "object.__ne__") ([.ref x] ++ args) >>= fun v => pure (some v)) Q E s := wpAny_bind (wpAny_mono h (fun v s' h' => wpAny_pure h') fun _ _ h' => h')
  split
  · exact wpAny_bind (wpAny_of_eq (F.cmp_object.ne.bind _) (wpAny_pure (by exact fin)))
  · exact wpAny_tryCatch (wpAny_bind (wpAny_of_eq (F.cmp_object.ne.bind _) (wpAny_pure (by exact fin))))
/-- a != b where a's class has its own __eq__ and no __ne__ -/
theorem zy_ne {b tb : Value} {Q : Value → Shared → Prop} (hu : A.units + 1 < cLine) (X : K.In s.heap) (I : InstAt s.heap x ox C od) (hb : Looks (model prog w) s.heap (typeOf b) tb) (hn : notFirst K C tb = true)
    (hs : findIn K (.ref C) "__eq__" = some (some (.ref f))) (hf : isFn K (.ref f) = true) (hne : findIn K (.ref C) "__ne__" = some (some (.builtin "object.__ne__"))) (hm : mroIn K C (.type "object") = some true)
    (h : wpAny (model prog w) A.in1 (call (.ref f) [.ref x, b]) (fun v s' => ∃ r, v = .bool r ∧ Q (.bool (!r)) s') E s) : wpAny (model prog w) A (richCompare .NotEq (.ref x) b) Q E s := by
  have body : wpAny (model prog w) A (call (.builtin "object.__ne__") [.ref x, b]) (fun v s' => ∃ r : Bool, v = .bool r ∧ Q (.bool r) s') E s :=
    wpAny_call (codeAny_call_builtin F.cmp_object.ne.plain F.cmpEntry_ne (check_slot F.cmpKind_ne F.cmpSplit_ne (I.type.andThen (looks_mroIn X hm)) (F.cmpArgs_ne _ _)
      (zy_ne_body (A := A.in1) (Nat.lt_of_le_of_lt (Nat.le_refl _) hu) X I hs hf (wpAny_mono h (fun v s' hv => by obtain ⟨r, rfl, hq⟩ := hv; exact ⟨r, rfl, _, rfl, hq⟩) fun _ _ e => e))))
  have one : wpAny (model prog w) A (tryCompare (.ref x) "__ne__" b) (fun r s' => ∃ v, r = some v ∧ Q v s') E s := by
    unfold tryCompare
    refine wpAny_bind (zy_boundNe I X hne (wpAny_mono body (fun v s' hv => ?_) fun _ _ e => e))
    obtain ⟨r, rfl, hq⟩ := hv
    exact wpAny_pure ⟨_, rfl, hq⟩
  unfold richCompare
  simp only [oneThing_ref]
  refine wpAny_holding (wpAny_bind (wpAny_cRoomFor (Nat.lt_of_succ_lt hu) ?_))
  refine wpAny_bind (I.type.here (wpAny_bind (hb.here ?_)))
  split
  · rename_i q
    have e : subIn K tb (.ref C) = some false := by
      rcases Bool.or_eq_true_iff.mp hn with e | e
      · rw [beq_iff_eq.mp e] at q; simp at q
      · exact beq_iff_eq.mp e
    refine wpAny_bind ((looks_subIn X e).here ?_)
    simp only [Bool.false_eq_true, if_false]
    refine wpAny_bind (wpAny_mono one (fun r s' z => ?_) fun _ _ e => e)
    obtain ⟨v, rfl, hq⟩ := z
    exact wpAny_pure hq
  · refine wpAny_bind (wpAny_pure ?_)
    simp only [Bool.false_eq_true, if_false]
    refine wpAny_bind (wpAny_mono one (fun r s' z => ?_) fun _ _ e => e)
    obtain ⟨v, rfl, hq⟩ := z
    exact wpAny_pure hq
theorem zy_len {Q : Value → Shared → Prop} (X : K.In s.heap) (I : InstAt s.heap x ox C od) (hs : findIn K (.ref C) "__len__" = some (some (.ref f))) (hf : isFn K (.ref f) = true)
    (h : wpAny (model prog w) A.in1 (call (.ref f) [.ref x]) (LenBack Q) E s) : wpAny (model prog w) A (call (.builtin "len") [.ref x]) Q E s := by
  refine Calls.call_function_entry kind_len plain_len entry_len (args_len1 _) ?_
  unfold Builtin.«len»
  refine wpAny_bind (m := oneArg "len" _) (wpAny_pure ?_)
  refine wpAny_bind (m := callSpecial? (.ref x) (Str.ofString "__len__")) (special_fn X I hs (beq_iff_eq.mp hf) (wpAny_mono h (fun r s' hr => ?_) fun _ _ y => y))
  cases r <;> first | exact hr.elim | skip
  rename_i n u
  obtain ⟨⟨h0, h1⟩, hq⟩ := hr
  refine wpAny_bind (wpAny_holding (wpAny_pure ?_))
  refine wpAny_bind (wpAny_letGo ?_)
  show wpAny _ _ (if n < 0 then _ else _) _ _ _
  rw [if_neg (by omega)]
  show wpAny _ _ (if n ≥ 2 ^ 63 then _ else _) _ _ _
  rw [if_neg (by omega)]
  exact wpAny_bind (wpAny_mkInt (wpAny_pure ⟨_, rfl, hq⟩))
theorem zy_repr {Q : Value → Shared → Prop} (hu : A.in1.units < cLine) (X : K.In s.heap) (I : InstAt s.heap x ox C od) (hs : findIn K (.ref C) "__repr__" = some (some (.ref f))) (hf : isFn K (.ref f) = true)
    (h : wpAny (model prog w) A.in1 (call (.ref f) [.ref x]) (StrBack Q) E s) : wpAny (model prog w) A (call (.builtin "repr") [.ref x]) Q E s := by
  refine Calls.call_function_entry PySem.F.kind_repr PySem.F.plain_repr PySem.F.entry_repr (PySem.F.args_repr1 _) ?_
  unfold Builtin.«repr»
  refine wpAny_bind (m := oneArg "repr" _) (wpAny_pure ?_)
  refine wpAny_bind (wpAny_cRoomFor hu ?_)
  refine wpAny_bind (wpAny_bind (I.type.here ((looks_findIn X hs).here ?_)))
  show wpAny _ _ (if (some (Value.ref f)).isNone = true then _ else _) _ _ _
  rw [if_neg (by simp)]
  refine wpAny_bind (m := callSpecialIfBound? (.ref x) (Str.ofString "__repr__") _) (ifBound_K X I hs hf (wpAny_mono h (fun r s' hr => ?_) fun _ _ y => y))
  cases r <;> first | exact hr.elim | skip
  refine wpAny_bind (wpAny_isInstance (typeIs_str _ _ _) isSubtype_str_str ?_)
  first
    | exact wpAny_pure ⟨_, rfl, hr⟩
    | (rw [if_pos rfl]; exact wpAny_pure ⟨_, rfl, hr⟩)
    | (simp only [if_true]; exact wpAny_pure ⟨_, rfl, hr⟩)
end
end PySem.W
/-! ZY1: operators that may raise, and own classes' operators, by data. -/
namespace Z
open PySem PySem.Spec L2 PyProof.Rows

/-- an operator by data that may raise -/
structure OpW (X : Cx) (W : WX) (f : Value → Value → Sem Value) (sem : Sem2) : Prop where
  go : ∀ (pins : List (Addr × Obj)) (s : Shared) (σ : L2.St) (ρ : List Addr) (H : Hp) (S : Store) (d e : D) (x y : V) (v u : Value) (Q : VK), Inv X pins σ H s → RelV x v → RelV y u → WOk X.K X.mg ρ H S → Rep X.K X.mg ρ H d x → Rep X.K X.mg ρ H e y →
    PostE X.K X.mg (fun C dd H' => W C dd σ H') ρ H Q (sem d e S) → wpAny (model X.prog X.w) X.A (f v u) (EP X pins σ Q) X.xe s
structure UnW (X : Cx) (W : WX) (f : Value → Sem Value) (sem : Sem1) : Prop where
  go : ∀ (pins : List (Addr × Obj)) (s : Shared) (σ : L2.St) (ρ : List Addr) (H : Hp) (S : Store) (d : D) (x : V) (v : Value) (Q : VK), Inv X pins σ H s → RelV x v → WOk X.K X.mg ρ H S → Rep X.K X.mg ρ H d x →
    PostE X.K X.mg (fun C dd H' => W C dd σ H') ρ H Q (sem d S) → wpAny (model X.prog X.w) X.A (f v) (EP X pins σ Q) X.xe s
structure CallW (X : Cx) (W : WX) (f : Value) (sem : SemL) : Prop where
  go : ∀ (pins : List (Addr × Obj)) (s : Shared) (σ : L2.St) (ρ : List Addr) (H : Hp) (S : Store) (ds : List D) (xs : List V) (us : List Value) (Q : VK), Inv X pins σ H s → Vals xs us → WOk X.K X.mg ρ H S → RepL X.K X.mg ρ H ds xs →
    PostE X.K X.mg (fun C dd H' => W C dd σ H') ρ H Q (sem ds S) → wpAny (model X.prog X.w) X.A (call f us) (EP X pins σ Q) X.xe s
/-- a value's truth -/
abbrev SemB := D → Store → Out Bool
structure TruW (X : Cx) (W : WX) (sem : SemB) : Prop where
  go : ∀ (pins : List (Addr × Obj)) (s : Shared) (σ : L2.St) (ρ : List Addr) (H : Hp) (S : Store) (d : D) (x : V) (v : Value) (Q : Bool → Hp → Prop), Inv X pins σ H s → RelV x v → WOk X.K X.mg ρ H S → Rep X.K X.mg ρ H d x →
    PostB X.K X.mg (fun C dd H' => W C dd σ H') ρ H Q (sem d S) → wpAny (model X.prog X.w) X.A (truthy v) (TP X pins σ Q) X.xe s
def orSB (f g : SemB) : SemB := fun d S => match f d S with
  | .bad => g d S
  | r => r
section
variable {X : Cx} {W : WX} {a b : Expr} {fa fb : EX} {pos : Pos}
theorem OpD.w {f : Value → Value → Sem Value} {sem : Sem2} (h : OpD X f sem) : OpW X W f sem := ⟨fun pins s σ ρ H S d e x y v u Q I rv ru w rx ry p => by
  obtain ⟨r, o, g⟩ := h.go
  exact o pins s σ H x y v u Q I rv ru (g _ ρ H S d e x y Q w rx ry p)⟩
theorem UnD.w {f : Value → Sem Value} {sem : Sem1} (h : UnD X f sem) : UnW X W f sem := ⟨fun pins s σ ρ H S d x v Q I rv w rx p => by
  obtain ⟨r, o, g⟩ := h.go
  exact o pins s σ H x v Q I rv (g _ ρ H S d x Q w rx p)⟩
theorem CallD.w {f : Value} {sem : SemL} (h : CallD X f sem) : CallW X W f sem := ⟨fun pins s σ ρ H S ds xs us Q I rv w rx p => by
  obtain ⟨r, o, g⟩ := h.go
  exact o pins s σ H xs us Q I rv (g _ ρ H S ds xs Q w rx p)⟩
theorem OpW.or {f : Value → Value → Sem Value} {s t : Sem2} (h : OpW X W f s) (h' : OpW X W f t) : OpW X W f (orS2 s t) := ⟨fun pins s0 σ ρ H S d e x y v u Q I rv ru w rx ry p => by
  unfold orS2 at p
  cases q : s d e S with
  | bad => rw [q] at p; exact h'.go pins s0 σ ρ H S d e x y v u Q I rv ru w rx ry p
  | ok a b => rw [q] at p; exact h.go pins s0 σ ρ H S d e x y v u Q I rv ru w rx ry (by rw [q]; exact p)
  | ex a b => rw [q] at p; exact h.go pins s0 σ ρ H S d e x y v u Q I rv ru w rx ry (by rw [q]; exact p)⟩
theorem UnW.or {f : Value → Sem Value} {s t : Sem1} (h : UnW X W f s) (h' : UnW X W f t) : UnW X W f (orS1 s t) := ⟨fun pins s0 σ ρ H S d x v Q I rv w rx p => by
  unfold orS1 at p
  cases q : s d S with
  | bad => rw [q] at p; exact h'.go pins s0 σ ρ H S d x v Q I rv w rx p
  | ok a b => rw [q] at p; exact h.go pins s0 σ ρ H S d x v Q I rv w rx (by rw [q]; exact p)
  | ex a b => rw [q] at p; exact h.go pins s0 σ ρ H S d x v Q I rv w rx (by rw [q]; exact p)⟩
theorem CallW.or {f : Value} {s t : SemL} (h : CallW X W f s) (h' : CallW X W f t) : CallW X W f (orSL s t) := ⟨fun pins s0 σ ρ H S d x v Q I rv w rx p => by
  unfold orSL at p
  cases q : s d S with
  | bad => rw [q] at p; exact h'.go pins s0 σ ρ H S d x v Q I rv w rx p
  | ok a b => rw [q] at p; exact h.go pins s0 σ ρ H S d x v Q I rv w rx (by rw [q]; exact p)
  | ex a b => rw [q] at p; exact h.go pins s0 σ ρ H S d x v Q I rv w rx (by rw [q]; exact p)⟩
theorem TruW.or {s t : SemB} (h : TruW X W s) (h' : TruW X W t) : TruW X W (orSB s t) := ⟨fun pins s0 σ ρ H S d x v Q I rv w rx p => by
  unfold orSB at p
  cases q : s d S with
  | bad => rw [q] at p; exact h'.go pins s0 σ ρ H S d x v Q I rv w rx p
  | ok a b => rw [q] at p; exact h.go pins s0 σ ρ H S d x v Q I rv w rx (by rw [q]; exact p)
  | ex a b => rw [q] at p; exact h.go pins s0 σ ρ H S d x v Q I rv w rx (by rw [q]; exact p)⟩
/-- two values, then the operator -/
theorem bin_run {f : Value → Value → Sem Value} {sem : Sem2} (ho : OpW X W f sem) (ha : E X W a fa) (hb : E X W b fb) {pins : List (Addr × Obj)} {s : Shared} {σ : L2.St} {H : Hp} {Q : VK} (I : Inv X pins σ H s) (h : trE X.K X.mg W (eBin sem fa fb) σ H Q) {R : Value → Shared → Prop}
    (k : ∀ v u s2, wpAny (model X.prog X.w) X.A (f v u) (EP X pins σ Q) X.xe s2 → wpAny (model X.prog X.w) X.A (f v u) R X.xe s2) :
    wpAny (model X.prog X.w) X.A (eval a X.env) (fun v s₁ => wpAny (model X.prog X.w) X.A (eval b X.env) (fun u s₂ => wpAny (model X.prog X.w) X.A (f v u) R X.xe s₂) X.xe s₁) X.xe s := by
  obtain ⟨ρ, S, sl, w, rs, p⟩ := h
  refine thn (ha.run pins s σ H _ I ⟨ρ, S, sl, w, rs, PostE.bindE p⟩) fun v s1 ⟨x, H1, I1, r1, ρ1, S1, d, x1, w1, rd, _, p1⟩ => ?_
  refine thn (hb.run pins s1 σ H1 _ I1 ⟨ρ1, S1, sl, w1, rs.ext x1, PostE.bindE p1⟩) fun u s2 ⟨y, H2, I2, r2, ρ2, S2, e, x2, w2, re, _, p2⟩ => ?_
  exact k v u s2 (ho.go pins s2 σ ρ2 H2 S2 d e x y v u Q I2 r1 r2 w2 (rd.ext x2) re p2)
theorem r_binW {op : Operator} {sem : Sem2} (ho : OpW X W (binaryOp op) sem) (ha : E X W a fa) (hb : E X W b fb) : E X W (.BinOp a op b pos) (eBin sem fa fb) :=
  ⟨fun pins s σ H Q I h => wpAny_BinOp (bin_run ho ha hb I h fun _ _ _ z => z)⟩
theorem r_cmpW {op : CmpOp} {sem : Sem2} (ho : OpW X W (compareOp op) sem) (ha : E X W a fa) (hb : E X W b fb) (hm : behindInMarks op b = false := by first | exact nomark _ | rfl) : E X W (.Compare a [op] [b] pos) (eBin sem fa fb) :=
  ⟨fun pins s σ H Q I h => wpAny_Compare1 (bin_run ho ha hb I h fun _ _ _ z => z) hm⟩
theorem b_cmpW {op : CmpOp} {sem : Sem2} (ho : OpW X W (compareOp op) sem) (ha : E X W a fa) (hb : E X W b fb) (hm : behindInMarks op b = false := by first | exact nomark _ | rfl) : EB X W (.Compare a [op] [b] pos) (bVal (eBin sem fa fb)) := by
  refine ⟨fun pins s σ H Q I h => ?_⟩
  obtain ⟨ρ, S, sl, w, rs, p⟩ := h
  have p' := PostE.bindB p
  refine wpAny_isTrue_Compare1 (bin_run (Q := fun v H1 => ∃ k, v = .bl k ∧ Q k H1) ho ha hb I ⟨ρ, S, sl, w, rs, PostE.mono p' fun v H1 ⟨ρ1, S1, d, x1, w1, r1, _, p1⟩ => ?_⟩ fun v u s2 z => thn z fun c s3 ⟨x, H3, I3, r3, k, e, q3⟩ => ?_) hm
  · cases d with
    | bl k =>
      rw [Rep] at r1
      exact ⟨k, r1, p1 ρ1 H1 Ext.refl w1⟩
    | _ => exact p1.elim
  · subst e
    cases r3
    exact wpAny_truthy_bool ⟨H3, I3, q3⟩
theorem r_unW {op : UnaryOp} {sem : Sem1} (ho : UnW X W (unaryOp op) sem) (ha : E X W a fa) : E X W (.UnaryOp op a pos) (eUn sem fa) := by
  refine ⟨fun pins s σ H Q I h => ?_⟩
  obtain ⟨ρ, S, sl, w, rs, p⟩ := h
  exact UnaryOp_ (thn (ha.run pins s σ H _ I ⟨ρ, S, sl, w, rs, PostE.bindE p⟩) fun v s1 ⟨x, H1, I1, r1, ρ1, S1, d, x1, w1, rd, _, p1⟩ => ho.go pins s1 σ ρ1 H1 S1 d x v Q I1 r1 w1 rd p1)
/-- a test by a value's truth -/
def bTru (sem : SemB) (f : EX) : BX := fun sl S => (f sl S).bind sem
theorem b_tru {sem : SemB} (ht : TruW X W sem) (ha : E X W a fa) (he : ∀ whole, isTrue a X.env whole = (do let v ← whole; standAt a.pos; holding [v] (truthy v)) := by intro _; rfl) : EB X W a (bTru sem fa) := by
  refine ⟨fun pins s σ H Q I h => ?_⟩
  obtain ⟨ρ, S, sl, w, rs, p⟩ := h
  refine isTrue_plain (thn (ha.run pins s σ H _ I ⟨ρ, S, sl, w, rs, PostE.bindB p⟩) fun v s1 ⟨x, H1, I1, r1, ρ1, S1, d, x1, w1, rd, _, p1⟩ => ?_) (he _)
  exact ht.go pins s1 σ ρ1 H1 S1 d x v Q I1 r1 w1 rd p1
theorem r_callBW {x : Str} {id : String} {sem : SemL} {p : Pos} {e : Expr} {es : List Expr} {f : AX} (hc : CallW X W (.builtin id) sem) (hg : Gl X x) (hm : X.mg x = none) (hv : bootBuiltins x = some (.builtin id)) (ha : EA X W (e :: es) f) (hn : x ≠ "__name__" := by decide) (hdb : (x == ("__debug__" : Str)) = false := by decide)
    (he : starEach (e :: es) X.env = (false, eval e X.env) :: starEach es X.env := by rfl) (hpl : (backTo pos (starEach es X.env)).any (·.1) = false := by rfl) : E X W (.Call (.Name x p) (e :: es) [] pos) (eArgs sem f) := by
  refine ⟨fun pins s σ H Q I h => ?_⟩
  obtain ⟨ρ, S, sl, w, rs, q⟩ := h
  refine wpAny_Call_Name_kw (ld_blt I hg hm hv ?_ hn hdb)
  exact PyProof.Rows.callWith_builtin1 (thn (ha.run pos pins s σ H _ I ⟨ρ, S, sl, w, rs, PostA.bindE q⟩) fun us s1 ⟨vs, H1, I1, r1, ρ1, S1, ds, x1, w1, rd, _, p1⟩ => hc.go pins s1 σ ρ1 H1 S1 ds vs us Q I1 r1 w1 rd p1) he hpl
theorem r_callTW {x : Str} {T : String} {sem : SemL} {p : Pos} {e : Expr} {es : List Expr} {f : AX} (hc : CallW X W (.type T) sem) (hg : Gl X x) (hm : X.mg x = none) (hv : bootBuiltins x = some (.type T)) (ha : EA X W (e :: es) f) (hn : x ≠ "__name__" := by decide) (hdb : (x == ("__debug__" : Str)) = false := by decide)
    (he : starEach (e :: es) X.env = (false, eval e X.env) :: starEach es X.env := by rfl) (hpl : (backTo pos (starEach es X.env)).any (·.1) = false := by rfl) : E X W (.Call (.Name x p) (e :: es) [] pos) (eArgs sem f) := by
  refine ⟨fun pins s σ H Q I h => ?_⟩
  obtain ⟨ρ, S, sl, w, rs, q⟩ := h
  refine wpAny_Call_Name_kw (ld_blt I hg hm hv ?_ hn hdb)
  exact PyProof.Rows.callWith_type1 (thn (ha.run pos pins s σ H _ I ⟨ρ, S, sl, w, rs, PostA.bindE q⟩) fun us s1 ⟨vs, H1, I1, r1, ρ1, S1, ds, x1, w1, rd, _, p1⟩ => hc.go pins s1 σ ρ1 H1 S1 ds vs us Q I1 r1 w1 rd p1) he hpl
/-! ### own classes' operators -/
theorem not_ni {x : V} {v : Value} {P : Value → Shared → Prop} {s' : Shared} (r : RelV x v) (h : P v s') : PySem.W.CmpBack P v s' := by
  cases x with
  | non => cases r; exact h
  | bl b => cases r; exact h
  | int i => obtain ⟨t, rfl⟩ := r; exact h
  | str i => obtain ⟨t, rfl⟩ := r; exact h
  | byt i => obtain ⟨t, rfl⟩ := r; exact h
  | flt i => obtain ⟨t, rfl⟩ := r; exact h
  | ref a => cases r; exact h
  | ty n => cases r; exact h
theorem inst_of {pins : List (Addr × Obj)} {s : Shared} {σ : L2.St} {H : Hp} {p C dx : Addr} {fs : List (Str × V)} (I : Inv X pins σ H s) (ea : H p = some (.ins C dx fs)) : ∃ ox od, PySem.W.InstAt s.heap p ox C od := by
  obtain ⟨mA, O, _, _, _, _⟩ := ins_get I.hok ea
  obtain ⟨od, J, _⟩ := O.look
  exact ⟨_, _, J⟩
/-- the built-in types at the right of an own operator -/
theorem kd_look (op : Operator) (h : op = .Add ∨ op = .Sub ∨ op = .Mult) (k : Kd) : (fastLookup k.name (PySem.dunder op.info.2)).isSome = true ∧ (fastLookup k.name (dunderR op.info.2)).isSome = true := by
  rcases h with rfl | rfl | rfl <;> cases k <;> exact ⟨by kernel_rfl, by kernel_rfl⟩
theorem kd_slots (op : Operator) (h : op = .Add ∨ op = .Sub ∨ op = .Mult) (K : PySem.W.Frag) (k : Kd) : ∃ fo ro, PySem.W.findIn K (.type k.name) (PySem.dunder op.info.2) = some fo ∧ PySem.W.findIn K (.type k.name) (dunderR op.info.2) = some ro := by
  obtain ⟨h1, h2⟩ := kd_look op h k
  obtain ⟨fo, e1⟩ := Option.isSome_iff_exists.mp h1
  obtain ⟨ro, e2⟩ := Option.isSome_iff_exists.mp h2
  exact ⟨fo, ro, e1, e2⟩
theorem kd_sub (K : PySem.W.Frag) (k : Kd) (C : Addr) : PySem.W.subIn K (.type k.name) (.ref C) = some false := by
  cases k <;> first | rfl | kernel_rfl
/-- a def run one builtin deeper -/
theorem run_fnR1 {k : Nat} {f : Addr} {pins : List (Addr × Obj)} {σ : L2.St} {H : Hp} {s : Shared} {Q : VK} {us : List Value} {vs : List V} {sp : Sp} {E : XK} (F : FnR X.prog X.w X.K X.mg X.base (L2.CX X.prog X.w) k f sp) (hr : Room (k + 1) X.A) (hx : PassesAt (L2.CX X.prog X.w) X σ E) (I : Inv X pins σ H s) (r : Vals vs us) (h : sp vs H Q E) :
    wpAny (model X.prog X.w) X.A.in1 (PySem.call (.ref f) us) (EP X pins σ Q) X.xe s := by
  refine wpAny_call (codeAny_mono (F X.A.in1 X.stack s H us vs Q E hr.in1 I.env0.in1 r h) fun r s' hq => ?_)
  cases r with
  | error e => exact hx pins H s e s' I hq
  | ok fl =>
    cases fl with
    | ret u => exact I.after hq
    | next => exact False.elim hq
    | brk => exact False.elim hq
    | cont => exact False.elim hq
/-- what may stand at the right: one of the same class, or of a built-in type -/
def okRt (S : Store) (c : Str) (e : D) : Bool := match fldsOf S e with
  | some (c', _, _) => decide (c' = c)
  | none => (kdOf S e).isSome
structure OwnOp (X : Cx) (op : Operator) (tab : List (Str × SemL)) : Prop where
  at_ : ∀ c g, tabOf tab c = some g → ∀ C, X.mg c = some (.ref C) → ∃ (f : Addr) (k : Nat), Meth X.K C (PySem.dunder op.info.2) f ∧ PySem.W.selfFirst X.K C = true ∧ PySem.W.findIn X.K (.ref C) (dunderR op.info.2) = some none ∧ FZ X.prog X.w X.K X.mg X.base k f g ∧ Room k X.A
theorem ownop_nil {op : Operator} : OwnOp X op [] := ⟨fun c g h => by cases h⟩
theorem ownop_cons {op : Operator} {c : Str} {C f : Addr} {k : Nat} {g : SemL} {tab : List (Str × SemL)} (hm : X.mg c = some (.ref C)) (hM : Meth X.K C (PySem.dunder op.info.2) f) (sf : PySem.W.selfFirst X.K C = true) (hr : PySem.W.findIn X.K (.ref C) (dunderR op.info.2) = some none) (F : FZ X.prog X.w X.K X.mg X.base k f g) (hk : Room k X.A) (h : OwnOp X op tab) : OwnOp X op ((c, g) :: tab) := ⟨fun c' g' h' C' hm' => by
  unfold tabOf at h'
  rw [List.lookup_cons] at h'
  cases q : c' == c with
  | true =>
    rw [q] at h'
    cases h'
    have : c' = c := by simpa using q
    subst this
    rw [hm] at hm'
    cases hm'
    exact ⟨f, k, hM, sf, hr, F, hk⟩
  | false =>
    rw [q] at h'
    exact h.at_ c' g' h' C' hm'⟩
def ownOp (tab : List (Str × SemL)) : Sem2 := fun d e S => match fldsOf S d with
  | some (c, _, _) => (match tabOf tab c with
    | some g => if okRt S c e = true then g [d, e] S else .bad
    | none => .bad)
  | none => .bad
theorem ow_op {op : Operator} {tab : List (Str × SemL)} (tk : Takes X W) (h : op = .Add ∨ op = .Sub ∨ op = .Mult) (ht : OwnOp X op tab) : OpW X W (binaryOp op) (ownOp tab) := ⟨fun pins s σ ρ H S d e x y v u Q I rv ru w rd re p => by
  unfold ownOp at p
  split at p
  · rename_i c ns vs ef
    split at p
    · rename_i g eg
      split at p
      · rename_i ok
        obtain ⟨a, C, dx, fs, ex, hm, ea, hn, rl⟩ := flds_rep w rd ef
        obtain ⟨f, k, hM, sf, hr, F, hk⟩ := ht.at_ c g eg C hm
        subst ex
        obtain rfl : v = Value.ref a := rv
        obtain ⟨ox, od, J⟩ := inst_of I ea
        have run : wpAny (model X.prog X.w) X.A (PySem.call (.ref f) [.ref a, u]) (PySem.W.CmpBack (EP X pins σ Q)) X.xe s :=
          wpAny_mono (run_fnR (us := [.ref a, u]) (vs := [.ref a, y]) F hk (passAt tk σ) I (.cons rfl (.cons ru .nil)) ⟨ρ, S, [d, e], w, RepL.cons rd (RepL.cons re RepL.nil), p⟩) (fun v' s' ⟨z, H', I', rz, q⟩ => not_ni rz ⟨z, H', I', rz, q⟩) fun _ _ z => z
        unfold okRt at ok
        split at ok
        · rename_i c' ns' vs' ef'
          have hc : c' = c := of_decide_eq_true ok
          subst hc
          obtain ⟨b, C', dx', fs', ex', hm', eb, _, _⟩ := flds_rep w re ef'
          rw [hm] at hm'
          cases hm'
          subst ex'
          obtain rfl : u = Value.ref b := ru
          obtain ⟨ob, odb, Jb⟩ := inst_of I eb
          exact PySem.W.zy_binC I.kIn J Jb.type sf hM.at_ hM.fn run
        · obtain ⟨kk, hkk⟩ := Option.isSome_iff_exists.mp ok
          obtain ⟨fo, ro, e1, e2⟩ := kd_slots op h X.K kk
          obtain ⟨P, Z, pz, _⟩ := kit_of I ru (kd_rep w re hkk)
          exact PySem.W.zy_binT I.kIn J (Z.ty _ _ I.kIn pz) sf hM.at_ hM.fn hr (.inl rfl) e1 e2 (kd_sub _ kk C) run
      · exact p.elim
    · exact p.elim
  · exact p.elim⟩
/-! -o, truth, ==, != -/
structure OwnM (X : Cx) (m : Str) (j : Nat) (tab : List (Str × SemL)) : Prop where
  at_ : ∀ c g, tabOf tab c = some g → ∀ C, X.mg c = some (.ref C) → ∃ (f : Addr) (k : Nat), Meth X.K C m f ∧ FZ X.prog X.w X.K X.mg X.base k f g ∧ Room (k + j) X.A
theorem ownm_nil {m : Str} {j : Nat} : OwnM X m j [] := ⟨fun c g h => by cases h⟩
theorem ownm_cons {m : Str} {j : Nat} {c : Str} {C f : Addr} {k : Nat} {g : SemL} {tab : List (Str × SemL)} (hm : X.mg c = some (.ref C)) (hM : Meth X.K C m f) (F : FZ X.prog X.w X.K X.mg X.base k f g) (hk : Room (k + j) X.A) (h : OwnM X m j tab) : OwnM X m j ((c, g) :: tab) := ⟨fun c' g' h' C' hm' => by
  unfold tabOf at h'
  rw [List.lookup_cons] at h'
  cases q : c' == c with
  | true =>
    rw [q] at h'
    cases h'
    have : c' = c := by simpa using q
    subst this
    rw [hm] at hm'
    cases hm'
    exact ⟨f, k, hM, F, hk⟩
  | false =>
    rw [q] at h'
    exact h.at_ c' g' h' C' hm'⟩
def own1 (tab : List (Str × SemL)) : Sem1 := fun d S => match fldsOf S d with
  | some (c, _, _) => (match tabOf tab c with
    | some g => g [d] S
    | none => .bad)
  | none => .bad
theorem ow_neg {tab : List (Str × SemL)} (tk : Takes X W) (ht : OwnM X "__neg__" 0 tab) : UnW X W (unaryOp .USub) (own1 tab) := ⟨fun pins s σ ρ H S d x v Q I rv w rd p => by
  unfold own1 at p
  split at p
  · rename_i c ns vs ef
    split at p
    · rename_i g eg
      obtain ⟨a, C, dx, fs, ex, hm, ea, hn, rl⟩ := flds_rep w rd ef
      obtain ⟨f, k, hM, F, hk⟩ := ht.at_ c g eg C hm
      subst ex
      obtain rfl : v = Value.ref a := rv
      obtain ⟨ox, od, J⟩ := inst_of I ea
      exact PySem.W.zy_neg I.kIn J hM.at_ hM.fn (run_fnR (us := [.ref a]) (vs := [.ref a]) F hk (passAt tk σ) I (.cons rfl .nil) ⟨ρ, S, [d], w, RepL.cons rd RepL.nil, p⟩)
    · exact p.elim
  · exact p.elim⟩
def asB : D → Store → Out Bool := fun r S => match r with
  | .bl b => .ok b S
  | _ => .bad
def truPl : SemB := asB
theorem ow_truPl : TruW X W truPl := ⟨fun pins s σ ρ H S d x v Q I rv w rd p => by
  cases d with
  | bl b =>
    rw [rep_bl rd] at rv
    cases rv
    exact wpAny_truthy_bool ⟨H, I, p ρ H Ext.refl w⟩
  | _ => exact p.elim⟩
def ownTru (tab : List (Str × SemL)) : SemB := fun d S => (own1 tab d S).bind asB
theorem ow_tru {tab : List (Str × SemL)} (tk : Takes X W) (ht : OwnM X "__bool__" 0 tab) : TruW X W (ownTru tab) := ⟨fun pins s σ ρ H S d x v Q I rv w rd p => by
  have p := PostE.bindB p
  unfold own1 at p
  split at p
  · rename_i c ns vs ef
    split at p
    · rename_i g eg
      obtain ⟨a, C, dx, fs, ex, hm, ea, hn, rl⟩ := flds_rep w rd ef
      obtain ⟨f, k, hM, F, hk⟩ := ht.at_ c g eg C hm
      subst ex
      obtain rfl : v = Value.ref a := rv
      obtain ⟨ox, od, J⟩ := inst_of I ea
      refine PySem.W.zy_tru I.kIn J hM.at_ hM.fn (wpAny_mono (run_fnR (us := [.ref a]) (vs := [.ref a]) F hk (passAt tk σ) I (.cons rfl .nil) ⟨ρ, S, [d], w, RepL.cons rd RepL.nil, p⟩) (fun v' s' ⟨z, H', I', rz, ρ1, S1, dd, x1, w1, r1, _, p1⟩ => ?_) fun _ _ z => z)
      cases dd with
      | bl b =>
        rw [rep_bl r1] at rz
        cases rz
        exact ⟨b, rfl, H', I', p1 ρ1 H' Ext.refl w1⟩
      | _ => exact p1.elim
    · exact p.elim
  · exact p.elim⟩
/-- what may stand at the right of == -/
def okRtE (oth : List Str) (S : Store) (e : D) : Bool := match fldsOf S e with
  | some (c', _, _) => decide (c' ∈ oth)
  | none => (kdOf S e).isSome
structure OwnEq (X : Cx) (oth : List Str) (tab : List (Str × SemL)) : Prop where
  at_ : ∀ c g, tabOf tab c = some g → ∀ C, X.mg c = some (.ref C) → (∀ c' ∈ oth, ∀ C', X.mg c' = some (.ref C') → PySem.W.notFirst X.K C (.ref C') = true) ∧ PySem.W.findIn X.K (.ref C) "__ne__" = some (some (.builtin "object.__ne__")) ∧ PySem.W.mroIn X.K C (.type "object") = some true
theorem okRtE_first {oth : List Str} {tab : List (Str × SemL)} {c : Str} {g : SemL} {C : Addr} (ht : OwnEq X oth tab) (eg : tabOf tab c = some g) (hm : X.mg c = some (.ref C)) {pins : List (Addr × Obj)} {s : Shared} {σ : L2.St} {ρ : List Addr} {H : Hp} {S : Store} {e : D} {y : V} {u : Value} (I : Inv X pins σ H s) (ru : RelV y u) (w : WOk X.K X.mg ρ H S) (re : Rep X.K X.mg ρ H e y) (ok : okRtE oth S e = true) :
    ∃ tb, PySem.W.Looks (model X.prog X.w) s.heap (typeOf u) tb ∧ PySem.W.notFirst X.K C tb = true := by
  obtain ⟨h1, _⟩ := ht.at_ c g eg C hm
  unfold okRtE at ok
  split at ok
  · rename_i c' ns' vs' ef'
    obtain ⟨b, C', dx', fs', ex', hm', eb, _, _⟩ := flds_rep w re ef'
    subst ex'
    obtain rfl : u = Value.ref b := ru
    obtain ⟨ob, odb, Jb⟩ := inst_of I eb
    exact ⟨_, Jb.type, h1 c' (of_decide_eq_true ok) C' hm'⟩
  · obtain ⟨kk, hkk⟩ := Option.isSome_iff_exists.mp ok
    obtain ⟨P, Z, pz, _⟩ := kit_of I ru (kd_rep w re hkk)
    refine ⟨_, Z.ty _ _ I.kIn pz, ?_⟩
    unfold PySem.W.notFirst
    rw [kd_sub]
    simp
def ownEq (neg : Bool) (oth : List Str) (tab : List (Str × SemL)) : Sem2 := fun d e S => match fldsOf S d with
  | some (c, _, _) => (match tabOf tab c with
    | some g => if okRtE oth S e = true then (g [d, e] S).bind (fun r S' => match r with
      | .bl b => .ok (.bl (if neg = true then !b else b)) S'
      | _ => .bad) else .bad
    | none => .bad)
  | none => .bad
theorem ow_eq {oth : List Str} {tab : List (Str × SemL)} (tk : Takes X W) (hu : X.A.units < cLine) (h1 : OwnM X "__eq__" 0 tab) (ht : OwnEq X oth tab) : OpW X W (compareOp .Eq) (ownEq false oth tab) := ⟨fun pins s σ ρ H S d e x y v u Q I rv ru w rd re p => by
  unfold ownEq at p
  split at p
  · rename_i c ns vs ef
    split at p
    · rename_i g eg
      split at p
      · rename_i ok
        obtain ⟨a, C, dx, fs, ex, hm, ea, hn, rl⟩ := flds_rep w rd ef
        obtain ⟨f, k, hM, F, hk⟩ := h1.at_ c g eg C hm
        subst ex
        obtain rfl : v = Value.ref a := rv
        obtain ⟨ox, od, J⟩ := inst_of I ea
        obtain ⟨tb, L, nf⟩ := okRtE_first ht eg hm I ru w re ok
        refine PySem.W.zy_cmp (op := .Eq) hu I.kIn J L nf hM.at_ hM.fn (wpAny_mono (run_fnR (us := [.ref a, u]) (vs := [.ref a, y]) F hk (passAt tk σ) I (.cons rfl (.cons ru .nil)) ⟨ρ, S, [d, e], w, RepL.cons rd (RepL.cons re RepL.nil), PostE.bindE p⟩) (fun v' s' ⟨z, H', I', rz, ρ1, S1, dd, x1, w1, r1, _, p1⟩ => ?_) fun _ _ z => z)
        refine not_ni rz ⟨z, H', I', rz, ?_⟩
        cases dd with
        | bl b => exact p1 z ρ1 H' Ext.refl w1 r1
        | _ => exact p1.elim
      · exact p.elim
    · exact p.elim
  · exact p.elim⟩
theorem ow_ne {oth : List Str} {tab : List (Str × SemL)} (tk : Takes X W) (hu : X.A.units + 1 < cLine) (h1 : OwnM X "__eq__" 1 tab) (ht : OwnEq X oth tab) : OpW X W (compareOp .NotEq) (ownEq true oth tab) := ⟨fun pins s σ ρ H S d e x y v u Q I rv ru w rd re p => by
  unfold ownEq at p
  split at p
  · rename_i c ns vs ef
    split at p
    · rename_i g eg
      split at p
      · rename_i ok
        obtain ⟨a, C, dx, fs, ex, hm, ea, hn, rl⟩ := flds_rep w rd ef
        obtain ⟨f, k, hM, F, hk⟩ := h1.at_ c g eg C hm
        obtain ⟨_, hne, hob⟩ := ht.at_ c g eg C hm
        subst ex
        obtain rfl : v = Value.ref a := rv
        obtain ⟨ox, od, J⟩ := inst_of I ea
        obtain ⟨tb, L, nf⟩ := okRtE_first ht eg hm I ru w re ok
        refine PySem.W.zy_ne hu I.kIn J L nf hM.at_ hM.fn hne hob (wpAny_mono (run_fnR1 (us := [.ref a, u]) (vs := [.ref a, y]) F hk (passAt tk σ) I (.cons rfl (.cons ru .nil)) ⟨ρ, S, [d, e], w, RepL.cons rd (RepL.cons re RepL.nil), PostE.bindE p⟩) (fun v' s' ⟨z, H', I', rz, ρ1, S1, dd, x1, w1, r1, _, p1⟩ => ?_) fun _ _ z => z)
        cases dd with
        | bl b =>
          rw [rep_bl r1] at rz
          cases rz
          exact ⟨b, rfl, .bl (!b), H', I', rfl, p1 (.bl (!b)) ρ1 H' Ext.refl w1 mk_bl⟩
        | _ => exact p1.elim
      · exact p.elim
    · exact p.elim
  · exact p.elim⟩
/-! len(o), repr(o) -/
def ownC1 (ck : D → Bool) (tab : List (Str × SemL)) : SemL := fun ds S => match ds with
  | [d] => (own1 tab d S).bind (fun r S' => if ck r = true then .ok r S' else .bad)
  | _ => .bad
def ckLen : D → Bool
  | .int n => decide (0 ≤ n ∧ n < 2 ^ 63)
  | _ => false
def ckStr : D → Bool
  | .str _ => true
  | _ => false
theorem ow_len {tab : List (Str × SemL)} (tk : Takes X W) (ht : OwnM X "__len__" 1 tab) : CallW X W (.builtin "len") (ownC1 ckLen tab) := ⟨fun pins s σ ρ H S ds xs us Q I rv w rd p => by
  unfold ownC1 at p
  split at p
  · rename_i d
    obtain ⟨x, ex, r⟩ := repL_one rd
    subst ex
    obtain ⟨u, hu, rx⟩ := Vals.get (i := 0) rv rfl
    have hus : us = [u] := by
      cases rv with
      | cons r1 r2 => cases r2; simp at hu; rw [hu]
    subst hus
    have p := PostE.bindE p
    unfold own1 at p
    split at p
    · rename_i c ns vs ef
      split at p
      · rename_i g eg
        obtain ⟨a, C, dx, fs, ex, hm, ea, hn, rl⟩ := flds_rep w r ef
        obtain ⟨f, k, hM, F, hk⟩ := ht.at_ c g eg C hm
        subst ex
        obtain rfl : u = Value.ref a := rx
        obtain ⟨ox, od, J⟩ := inst_of I ea
        refine PySem.W.zy_len I.kIn J hM.at_ hM.fn (wpAny_mono (run_fnR1 (us := [.ref a]) (vs := [.ref a]) F hk (passAt tk σ) I (.cons rfl .nil) ⟨ρ, S, [d], w, RepL.cons r RepL.nil, p⟩) (fun v' s' ⟨z, H', I', rz, ρ1, S1, dd, x1, w1, r1, _, p1⟩ => ?_) fun _ _ z => z)
        split at p1
        · rename_i ck
          cases dd with
          | int n =>
            have ck : 0 ≤ n ∧ n < 2 ^ 63 := of_decide_eq_true ck
            have e := rep_int r1
            subst e
            obtain ⟨t, rfl⟩ := rz
            exact ⟨ck, .int n, H', I'.tok _, ⟨_, rfl⟩, p1 (.int n) ρ1 H' Ext.refl w1 mk_int⟩
          | _ => cases ck
        · exact p1.elim
      · exact p.elim
    · exact p.elim
  · exact p.elim⟩
theorem ow_repr {tab : List (Str × SemL)} (tk : Takes X W) (hu : X.A.in1.units < cLine) (ht : OwnM X "__repr__" 1 tab) : CallW X W (.builtin "repr") (ownC1 ckStr tab) := ⟨fun pins s σ ρ H S ds xs us Q I rv w rd p => by
  unfold ownC1 at p
  split at p
  · rename_i d
    obtain ⟨x, ex, r⟩ := repL_one rd
    subst ex
    obtain ⟨u, hu', rx⟩ := Vals.get (i := 0) rv rfl
    have hus : us = [u] := by
      cases rv with
      | cons r1 r2 => cases r2; simp at hu'; rw [hu']
    subst hus
    have p := PostE.bindE p
    unfold own1 at p
    split at p
    · rename_i c ns vs ef
      split at p
      · rename_i g eg
        obtain ⟨a, C, dx, fs, ex, hm, ea, hn, rl⟩ := flds_rep w r ef
        obtain ⟨f, k, hM, F, hk⟩ := ht.at_ c g eg C hm
        subst ex
        obtain rfl : u = Value.ref a := rx
        obtain ⟨ox, od, J⟩ := inst_of I ea
        refine PySem.W.zy_repr hu I.kIn J hM.at_ hM.fn (wpAny_mono (run_fnR1 (us := [.ref a]) (vs := [.ref a]) F hk (passAt tk σ) I (.cons rfl .nil) ⟨ρ, S, [d], w, RepL.cons r RepL.nil, p⟩) (fun v' s' ⟨z, H', I', rz, ρ1, S1, dd, x1, w1, r1, _, p1⟩ => ?_) fun _ _ z => z)
        split at p1
        · rename_i ck
          cases dd with
          | str n =>
            have e := rep_str r1
            subst e
            obtain ⟨t, rfl⟩ := rz
            exact ⟨.str n, H', I', ⟨_, rfl⟩, p1 (.str n) ρ1 H' Ext.refl w1 mk_str⟩
          | _ => cases ck
        · exact p1.elim
      · exact p.elim
    · exact p.elim
  · exact p.elim⟩
/-! isinstance(x, C) of own classes -/
structure InsT (K : PySem.W.Frag) (C : Addr) : Prop where
  cl : Cls K C
  ha : PySem.W.findIn K (.ref C) "__class__" = some (some (.builtin "object.__class__"))
  ob : PySem.W.mroIn K C (.type "object") = some true
theorem cls_get (K : PySem.W.Frag) : PySem.W.specialIn K (.builtin "object.__class__") "__get__" = some (some (.builtin "getset_descriptor.__get__")) := by kernel_rfl
theorem cls_takes (K : PySem.W.Frag) : PySem.W.takesIn K (.builtin "object.__class__") = some true := by kernel_rfl
theorem InsT.ty {K : PySem.W.Frag} {C a dx : Addr} {H : Hp} {fs : List (Str × V)} (t : InsT K C) (e : H a = some (.ins C dx fs)) : TyX K H (.ref a) (.ref C) := .base (.ins e t.cl t.ha (cls_get K) (cls_takes K) t.ob)
/-- D: the classes that are below it, the classes that are not -/
structure IsiOk (X : Cx) (tab : List (Str × List Str × List Str)) : Prop where
  at_ : ∀ D yes no, tab.lookup D = some (yes, no) → ∀ DC, X.mg D = some (.ref DC) → ((PySem.W.clsIn X.K DC).isSome && PySem.W.typeIn X.K (.ref DC) == some (.type "type")) = true ∧
    (∀ c ∈ yes, ∀ C, X.mg c = some (.ref C) → InsT X.K C ∧ PySem.W.kitOne X.K (.ref C) (.ref DC) = some true) ∧ (∀ c ∈ no, ∀ C, X.mg c = some (.ref C) → InsT X.K C ∧ PySem.W.kitOne X.K (.ref C) (.ref DC) = some false)
def isiO (tab : List (Str × List Str × List Str)) : SemL := fun ds S => match ds with
  | [d, .cls D] => (match tab.lookup D with
    | some (yes, no) => (match fldsOf S d with
      | some (c, _, _) => if c ∈ yes then .ok (.bl true) S else if c ∈ no then .ok (.bl false) S else .bad
      | none => if (kdOf S d).isSome = true then .ok (.bl false) S else .bad)
    | none => .bad)
  | _ => .bad
theorem kit_kd {K : PySem.W.Frag} {DC : Addr} (h : ((PySem.W.clsIn K DC).isSome && PySem.W.typeIn K (.ref DC) == some (.type "type")) = true) (k : Kd) : PySem.W.kitOne K (.type k.name) (.ref DC) = some false := by
  unfold PySem.W.kitOne
  rw [if_neg (by simp)]
  unfold PySem.W.kitCls
  dsimp only
  rw [if_pos h]
  exact kd_sub K k DC
theorem ow_isi {tab : List (Str × List Str × List Str)} (ht : IsiOk X tab) : CallD X (.builtin "isinstance") (isiO tab) := by
  refine ⟨_, call_isi, fun Wp ρ H S ds xs Q w r p => ?_⟩
  unfold isiO at p
  split at p
  · rename_i d D
    split at p
    · rename_i yes no ey
      rw [RepL] at r
      obtain ⟨v, r', e, h1, h2⟩ := r
      rw [RepL] at h2
      obtain ⟨u, r2, e2, h3, h4⟩ := h2
      rw [RepL] at h4
      subst h4 e2 e
      rw [Rep] at h3
      obtain ⟨DC, hD, eu⟩ := h3
      subst eu
      obtain ⟨a1, a2, a3⟩ := ht.at_ D yes no ey DC hD
      split at p
      · rename_i c ns vs ef
        obtain ⟨a, C, dx, fs, ex, hm, ea, hn, rl⟩ := flds_rep w h1 ef
        subst ex
        split at p
        · rename_i hy
          obtain ⟨t, kk⟩ := a2 c hy C hm
          exact ⟨.ref a, .ref DC, _, .ref DC, true, rfl, .own DC, t.ty ea, kk, post_ok p w mk_bl⟩
        · split at p
          · rename_i hy
            obtain ⟨t, kk⟩ := a3 c hy C hm
            exact ⟨.ref a, .ref DC, _, .ref DC, false, rfl, .own DC, t.ty ea, kk, post_ok p w mk_bl⟩
          · exact p.elim
      · split at p
        · rename_i hk
          obtain ⟨kk, hkk⟩ := Option.isSome_iff_exists.mp hk
          exact ⟨v, .ref DC, _, .ref DC, false, rfl, .own DC, kd_rep w h1 hkk, kit_kd a1 kk, post_ok p w mk_bl⟩
        · exact p.elim
    · exact p.elim
  · exact p.elim
end
end Z
/-! ZY2: defs with defaults; calls with keywords. -/
namespace Z
open PySem PySem.Spec L2 PyProof.Rows

theorem Fun.d {K : PySem.W.Frag} {x qual : Str} {st : Stmt} {f : Addr} {fd : FuncData} (F : Fun K x qual st f fd) : FunD K x qual (defArgs st) (defBody st) (defScope st) [] [] f fd := by
  obtain ⟨oc, od, kV, doc, pm, an, cdv, ct, osl, e, lk, hcd⟩ := F.ex
  exact ⟨⟨oc, od, .none, kV, doc, pm, an, cdv, ct, osl, e, lk, hcd, .inl ⟨rfl, rfl⟩, .inl rfl⟩, F.kp⟩
theorem fund_mk {K : PySem.W.Frag} {x qual : Str} {st : Stmt} {f : Addr} {oc : Value} {od an : Option Addr} {osl : Array (Option Value)} {dV kV doc pm cdv ct : Value} {dvs : List V} {kws : List (Str × V)} (l : K.lookup f = some ⟨oc, od, .func (PySem.W.fnOf x qual (defArgs st) (defBody st) (defScope st) dV kV doc pm an cdv ct), osl⟩)
    (c : PySem.W.codeIn K cdv qual = true) (k : PySem.W.keepIn K (.ref f) = true) (hd : DflV K dV dvs) (hk : KwdV K kV kws) : FunD K x qual (defArgs st) (defBody st) (defScope st) dvs kws f (PySem.W.fnOf x qual (defArgs st) (defBody st) (defScope st) dV kV doc pm an cdv ct) := ⟨⟨oc, od, dV, kV, doc, pm, an, cdv, ct, osl, rfl, l, c, hd, hk⟩, k⟩
/-- one default -/
theorem dfl_one {K : PySem.W.Frag} {T : Addr} {oc : Value} {od : Option Addr} {u : Value} {n : Nat} {osl : Array (Option Value)} {v : V} (h : K.lookup T = some ⟨oc, od, .seq #[u] n, osl⟩) (r : RelV v u) : DflV K (.ref T) [v] := .inr ⟨by simp, T, _, [u], n, rfl, h, rfl, .cons r .nil⟩
theorem kwd_one {K : PySem.W.Frag} {A : Addr} {x : Str} {u : Value} {v : V} (h : PySem.W.nsIn K A x = some (some u)) (r : RelV v u) : KwdV K (.ref A) [(x, v)] := .inr ⟨A, rfl, fun q hq => by
  rw [List.mem_singleton.mp hq]
  exact ⟨u, h, r⟩⟩
theorem kwd_nil {K : PySem.W.Frag} {u : Value} : KwdV K u [] := .inl rfl
theorem dfl_nil {K : PySem.W.Frag} : DflV K .none [] := .inl ⟨rfl, rfl⟩

section
variable {P : Program} {w : World} {K : PySem.W.Frag} {mg : Str → Option Value} {base : Heap}
theorem spOf_body {N ps : List Str} {qual : Str} {scope : Scope} {f : Addr} {A : Around} {outer : List Env} {s : Shared} {k : Nat} {st : List Stmt} {body : SX} {cdv : Value}
    (hb : ∀ (H : Hp) (E : XK), ESs (cxOf (L2.CX P w) P w K mg base N qual scope f cdv A outer s H E) (fun c d _ H' => E c d H') st body) {H : Hp} {vs : List V} {Q : VK} {E : XK} (h : spOf K mg ps.length (defS N.length body) vs H Q E) :
    ∃ t, PSs (cxOf (L2.CX P w) P w K mg base N qual scope f cdv A outer s H E) st t ∧ t { nx := fun _ H' => Q .non H', rt := Q } (L2.start N vs) H := by
  obtain ⟨ρ, S, ds, hl, w0, r, p⟩ := h
  refine ⟨_, hb H E, ρ, S, _, w0, rst_start r, ?_⟩
  have p := fin_imp w0 p
  cases q : body (ds.map some ++ List.replicate (N.length - ds.length) none) S with
  | nx sl S' => rw [q] at p; exact fun σ' ρ' H' x w1 r1 => p .non ρ' H' x w1 (by rw [Rep])
  | rt d S' => rw [q] at p; exact p
  | ex e sl S' => rw [q] at p; exact fun C dd σ' ρ' H' x w1 _ r1 => p C dd ρ' H' x w1 r1
  | bk sl S' => rw [q] at p; exact p.elim
  | ct sl S' => rw [q] at p; exact p.elim
  | bad => rw [q] at p; exact p.elim
theorem spOf_bodyH {N ps : List Str} {qual : Str} {scope : Scope} {f : Addr} {A : Around} {outer : List Env} {s : Shared} {k : Nat} {st : List Stmt} {body : SX} {cdv : Value}
    (hb : ∀ (H : Hp) (E : XK), ESs (cxOf (L2.CX P w) P w K mg base N qual scope f cdv A outer s H E) (fun c d _ H' => E c d H') st body) {H : Hp} {vs : List V} {Q : VK} {E : XK} (h : spOf K mg ps.length (defH N.length body) vs H Q E) :
    ∃ t, PSs (cxOf (L2.CX P w) P w K mg base N qual scope f cdv A outer s H E) st t ∧ t { nx := fun _ H' => Q .non H', rt := Q } (L2.start N vs) H := by
  obtain ⟨ρ, S, ds, hl, w0, r, p⟩ := h
  refine ⟨_, hb H E, ρ, S, _, w0, rst_start r, ?_⟩
  have p : PostE K mg E ρ H Q (body (ds.map some ++ List.replicate (N.length - ds.length) none) S).out := p
  cases q : body (ds.map some ++ List.replicate (N.length - ds.length) none) S with
  | nx sl S' => rw [q] at p; exact fun σ' ρ' H' x w1 r1 => p .non ρ' H' x w1 (by rw [Rep])
  | rt d S' => rw [q] at p; exact p
  | ex e sl S' => rw [q] at p; exact fun C dd σ' ρ' H' x w1 _ r1 => p C dd ρ' H' x w1 r1
  | bk sl S' => rw [q] at p; exact p.elim
  | ct sl S' => rw [q] at p; exact p.elim
  | bad => rw [q] at p; exact p.elim
theorem spOf_len {n : Nat} {g : SemL} (vs : List V) (H : Hp) (Q : VK) (E : XK) (h : spOf K mg n g vs H Q E) : vs.length = n := by
  obtain ⟨ρ, S, ds, hl, _, r, _⟩ := h
  rw [← r.len, hl]
/-- a def whose code object is told -/
theorem fn_okD {x qual : Str} {params : Arguments} {stb : List Stmt} {scope : Scope} {dvs : List V} {kws : List (Str × V)} {f : Addr} {fd : FuncData} {N ps : List Str} {k : Nat} {body : SX} (F : FunD K x qual params stb scope dvs kws f fd) (Sc : FnScope N ps scope)
    (hb : ∀ (A : Around) (outer : List Env) (s : Shared) (H : Hp) (E : XK), Room k (A.deeper (envOfC qual scope s.heap.objs.size f fd.code)) →
      ESs (cxOf (L2.CX P w) P w K mg base N qual scope f fd.code A outer s H E) (fun c d _ H' => E c d H') stb body) :
    FnOk P w K mg base (L2.CX P w) (k + 1) f fd ps (spOf K mg ps.length (defS N.length body)) := by
  obtain ⟨oc, od, dV, kV, doc, pm, an, cdv, ct, osl, rfl, lk, hcd, _, _⟩ := F.ex
  exact fn_of lk hcd Sc spOf_len fun A outer s H vs Q E hr h => spOf_body (ps := ps) (k := k) (fun H E => hb A outer s H E hr) h
theorem fn_okHD {x qual : Str} {params : Arguments} {stb : List Stmt} {scope : Scope} {dvs : List V} {kws : List (Str × V)} {f : Addr} {fd : FuncData} {N ps : List Str} {k : Nat} {body : SX} (F : FunD K x qual params stb scope dvs kws f fd) (Sc : FnScope N ps scope)
    (hb : ∀ (A : Around) (outer : List Env) (s : Shared) (H : Hp) (E : XK), Room k (A.deeper (envOfC qual scope s.heap.objs.size f fd.code)) →
      ESs (cxOf (L2.CX P w) P w K mg base N qual scope f fd.code A outer s H E) (fun c d _ H' => E c d H') stb body) :
    FnOk P w K mg base (L2.CX P w) (k + 1) f fd ps (spOf K mg ps.length (defH N.length body)) := by
  obtain ⟨oc, od, dV, kV, doc, pm, an, cdv, ct, osl, rfl, lk, hcd, _, _⟩ := F.ex
  exact fn_of lk hcd Sc spOf_len fun A outer s H vs Q E hr h => spOf_bodyH (ps := ps) (k := k) (fun H E => hb A outer s H E hr) h
/-- all arguments, or all but those with defaults -/
def defsS (n : Nat) (dds : List D) (g : SemL) : SemL := fun ds S => if ds.length = n then g ds S else if ds.length + dds.length = n then g (ds ++ dds) S else .bad
theorem fz_of2 {f : Addr} {fd : FuncData} {ps : List Str} {k n : Nat} {g : SemL} {dvs : List V} {dds : List D} (F : FnOk P w K mg base (L2.CX P w) k f fd ps (spOf K mg n g)) (h0 : Binds K fd ps []) (h1 : ∃ ds, Vals dvs ds ∧ Binds K fd ps ds) (hdf : ∀ ρ H, RepL K mg ρ H dds dvs) : FZ P w K mg base k f (defsS n dds g) := by
  obtain ⟨dfs, hd, hb⟩ := h1
  intro A outer s H us vs Q E hr e0 r ⟨ρ, S, ds, w0, rd, p⟩
  unfold defsS at p
  split at p
  · rename_i hl
    exact (F.raw h0 .nil) A outer s H us vs Q E hr e0 r ⟨ρ, S, ds, hl, w0, by rw [List.append_nil]; exact rd, p⟩
  · split at p
    · rename_i hl
      exact (F.raw hb hd) A outer s H us vs Q E hr e0 r ⟨ρ, S, ds ++ dds, by simpa using hl, w0, rd.append (hdf ρ H), p⟩
    · exact p.elim
/-! ### by keywords -/
def pickL {α : Type} (ix : List Nat) (xs : List α) : List α := ix.filterMap fun i => xs[i]?
theorem pickL_rep {ρ : List Addr} {H : Hp} {ds : List D} {vs : List V} (r : RepL K mg ρ H ds vs) : ∀ ix : List Nat, RepL K mg ρ H (pickL ix ds) (pickL ix vs)
  | [] => RepL.nil
  | i :: ix => by
    have ih := pickL_rep r ix
    unfold pickL at ih ⊢
    rw [List.filterMap_cons, List.filterMap_cons]
    cases e : ds[i]? with
    | some d =>
      obtain ⟨v, e2, q⟩ := r.get e
      rw [e2]
      exact RepL.cons q ih
    | none =>
      have e2 : vs[i]? = none := by
        rw [List.getElem?_eq_none_iff] at e ⊢
        rw [← r.len]; exact e
      rw [e2]
      exact ih
theorem pickL_vals {vs : List V} {us : List Value} (r : Vals vs us) : ∀ ix : List Nat, Vals (pickL ix vs) (pickL ix us)
  | [] => .nil
  | i :: ix => by
    have ih := pickL_vals r ix
    unfold pickL at ih ⊢
    rw [List.filterMap_cons, List.filterMap_cons]
    cases e : vs[i]? with
    | some d =>
      obtain ⟨v, e2, q⟩ := r.get e
      rw [e2]
      exact .cons q ih
    | none =>
      have e2 : us[i]? = none := by
        rw [List.getElem?_eq_none_iff] at e ⊢
        rw [← r.length]; exact e
      rw [e2]
      exact ih
def FnRK (P : Program) (w : World) (K : PySem.W.Frag) (mg : Str → Option Value) (base : Heap) (CX : CXT) (k : Nat) (f : Addr) (n : Nat) (ks : List Str) (sp : Sp) : Prop :=
  ∀ (A : Around) (outer : List Env) (s : Shared) (H : Hp) (us ws : List Value) (vs zs : List V) (Q : VK) (E : XK), Room k A → Env0 P w K mg base A outer s H → Vals vs us → Vals zs ws → us.length = n → ws.length = ks.length → sp (vs ++ zs) H Q E →
    codeAny (model P w) A (.call (.ref f) ⟨us, ks.zip ws⟩) (CR CX outer P w H s Q E) s
abbrev FZK (P : Program) (w : World) (K : PySem.W.Frag) (mg : Str → Option Value) (base : Heap) (k : Nat) (f : Addr) (n : Nat) (ks : List Str) (g : SemL) : Prop := FnRK P w K mg base (L2.CX P w) k f n ks (spZ K mg g)
/-- n written values, m by keywords, the defaults: in the parameters' order -/
def kwS (n m N : Nat) (ix : List Nat) (dds : List D) (g : SemL) : SemL := fun ds S => if ds.length = n + m ∧ (pickL ix (ds ++ dds)).length = N then g (pickL ix (ds ++ dds)) S else .bad
theorem fzk_of {f : Addr} {fd : FuncData} {ps ks : List Str} {k n N : Nat} {ix : List Nat} {g : SemL} {dvs : List V} {dds : List D} {its : List Value} (F : FnOk P w K mg base (L2.CX P w) k f fd ps (spOf K mg N g))
    (hb : KBn K fd ps n ks (fun us ws => pickL ix (us ++ ws ++ its)) (fun vs zs => pickL ix (vs ++ zs ++ dvs))) (hdf : ∀ ρ H, RepL K mg ρ H dds dvs) : FZK P w K mg base k f n ks (kwS n ks.length N ix dds g) := by
  intro A outer s H us ws vs zs Q E hr e0 r rz l1 l2 ⟨ρ, S, ds, w0, rd, p⟩
  unfold kwS at p
  split at p
  · rename_i hl
    have KX : K.In s.heap := e0.mod.kin.keeps fun b o e => (e0.bs b o e).1
    exact F.run A outer s H ⟨us, ks.zip ws⟩ _ _ Q E hr e0 (hb.to s us ws KX l1 l2) (hb.rel r rz) ⟨ρ, S, _, hl.2, w0, pickL_rep (rd.append (hdf ρ H)) ix, p⟩
  · exact p.elim
/-- no defaults are needed -/
theorem kbn0 {x qual : Str} {params : Arguments} {stb : List Stmt} {scope : Scope} {dvs : List V} {kws : List (Str × V)} {f : Addr} {fd : FuncData} {ps ks : List Str} {n : Nat} {ix : List Nat} (F : FunD K x qual params stb scope dvs kws f fd)
    (h : ∀ (dV kV doc pm : Value) (an : Option Addr) (cdv ct : Value) (us ws : List Value), us.length = n → ws.length = ks.length → bindArgs (PySem.W.fnOf x qual params stb scope dV kV doc pm an cdv ct) ⟨us, ks.zip ws⟩ = pure (ps.zip (pickL ix (us ++ ws ++ [])))) :
    KBn K fd ps n ks (fun us ws => pickL ix (us ++ ws ++ [])) (fun vs zs => pickL ix (vs ++ zs ++ [])) := by
  obtain ⟨oc, od, dV, kV, doc, pm, an, cdv, ct, osl, rfl, lk, hcd, hD, hK⟩ := F.ex
  exact ⟨fun s us ws _ l1 l2 => .of_eq (h dV kV doc pm an cdv ct us ws l1 l2), fun r rz => pickL_vals ((r.append rz).append .nil) ix⟩
theorem kbn0N {x qual : Str} {params : Arguments} {stb : List Stmt} {scope : Scope} {kws : List (Str × V)} {f : Addr} {fd : FuncData} {ps ks : List Str} {n : Nat} {ix : List Nat} (F : FunD K x qual params stb scope [] kws f fd)
    (h : ∀ (kV doc pm : Value) (an : Option Addr) (cdv ct : Value) (us ws : List Value), us.length = n → ws.length = ks.length → bindArgs (PySem.W.fnOf x qual params stb scope .none kV doc pm an cdv ct) ⟨us, ks.zip ws⟩ = pure (ps.zip (pickL ix (us ++ ws ++ [])))) :
    KBn K fd ps n ks (fun us ws => pickL ix (us ++ ws ++ [])) (fun vs zs => pickL ix (vs ++ zs ++ [])) := by
  obtain ⟨oc, od, dV, kV, doc, pm, an, cdv, ct, osl, rfl, lk, hcd, hD, hK⟩ := F.ex
  rcases hD with ⟨_, rfl⟩ | ⟨e, _⟩
  · exact ⟨fun s us ws _ l1 l2 => .of_eq (h kV doc pm an cdv ct us ws l1 l2), fun r rz => pickL_vals ((r.append rz).append .nil) ix⟩
  · exact absurd rfl e
/-- with the defaults (a tuple) -/
theorem kbn1 {x qual : Str} {params : Arguments} {stb : List Stmt} {scope : Scope} {dvs : List V} {kws : List (Str × V)} {f : Addr} {fd : FuncData} {ps ks : List Str} {n : Nat} {ix : List Nat} (F : FunD K x qual params stb scope dvs kws f fd) (hd : dvs ≠ [])
    (h : ∀ (T : Addr) (kV doc pm : Value) (an : Option Addr) (cdv ct : Value) (us its ws : List Value), us.length = n → its.length = dvs.length → ws.length = ks.length →
      ∃ k, bindArgs (PySem.W.fnOf x qual params stb scope (.ref T) kV doc pm an cdv ct) ⟨us, ks.zip ws⟩ = seqItems? (.ref T) >>= k ∧ k (some its.toArray) = pure (ps.zip (pickL ix (us ++ ws ++ its)))) :
    ∃ its : List Value, KBn K fd ps n ks (fun us ws => pickL ix (us ++ ws ++ its)) (fun vs zs => pickL ix (vs ++ zs ++ dvs)) :=
  F.kbindsD n ks (fun us its ws => pickL ix (us ++ ws ++ its)) hd (fun r1 r2 r3 => pickL_vals ((r1.append r3).append r2) ix) h
end
/-! ### calls with keywords -/
section
variable {X : Cx} {W : WX}
def EK (X : Cx) (W : WX) (kws : List Keyword) (f : AX) : Prop := PK X kws (trA X.K X.mg W f)
theorem PK.imp {kws : List Keyword} {t t' : TA} (h : PK X kws t) (k : ∀ σ H Q, t' σ H Q → t σ H Q) : PK X kws t' := ⟨fun pos pins s σ H Q I q => h.run pos pins s σ H Q I (k σ H Q q)⟩
theorem k_nil : EK X W [] aNil := PK.imp pk_nil fun σ H Q ⟨ρ, S, sl, w, rs, p⟩ => p [] ρ H Ext.refl w RepL.nil
theorem k_cons {nm : Option Str} {e : Expr} {kpos : Pos} {kws : List Keyword} {f : EX} {g : AX} (ha : E X W e f) (hr : EK X W kws g) : EK X W (⟨nm, e, kpos⟩ :: kws) (aCons f g) :=
  PK.imp (pk_cons ha hr) fun σ H Q h => args_imp h
/-- positional arguments, then those by keywords -/
def eArgsK (g : SemL) (fa fk : AX) : EX := fun sl S => (fa sl S).bind fun ds S1 => (fk sl S1).bind fun es S2 => g (ds ++ es) S2
variable {k n : Nat} {f C : Addr} {g : SemL} {x m : Str} {p pos apos : Pos} {e o : Expr} {es : List Expr} {fa fk : AX} {fo fe : EX} {ks : List Str} {kws : List Keyword}
theorem run_fnRK {pins : List (Addr × Obj)} {σ : L2.St} {H : Hp} {s : Shared} {Q : VK} {us ws : List Value} {vs zs : List V} {sp : Sp} {E : XK} (F : FnRK X.prog X.w X.K X.mg X.base (L2.CX X.prog X.w) k f n ks sp) (hr : Room k X.A) (hx : PassesAt (L2.CX X.prog X.w) X σ E) (I : Inv X pins σ H s) (r : Vals vs us) (rz : Vals zs ws) (l1 : us.length = n) (l2 : ws.length = ks.length) (h : sp (vs ++ zs) H Q E) :
    wpAny (model X.prog X.w) X.A (PySem.call (.ref f) us (ks.zip ws)) (EP X pins σ Q) X.xe s := by
  refine wpAny_call (codeAny_mono (F X.A X.stack s H us ws vs zs Q E hr I.env0 r rz l1 l2 h) fun r s' hq => ?_)
  cases r with
  | error e => exact hx pins H s e s' I hq
  | ok fl =>
    cases fl with
    | ret u => exact I.after hq
    | next => exact False.elim hq
    | brk => exact False.elim hq
    | cont => exact False.elim hq
/-- checked numbers of arguments -/
def kwC (n m : Nat) (g : SemL) : SemL := fun ds S => if ds.length = n + m then g ds S else .bad
/-- x(e, .., k = v, ..) -/
def eCallK (n m : Nat) (g : SemL) (fa fk : AX) : EX := fun sl S => (fa sl S).bind fun ds S1 => (fk sl S1).bind fun es S2 => if ds.length = n ∧ es.length = m then g (ds ++ es) S2 else .bad
theorem r_callK (tk : Takes X W) (F : FZK X.prog X.w X.K X.mg X.base k f n ks g) (hr : Room k X.A) (hm : X.mg x = some (.ref f)) (hk : PySem.W.keepIn X.K (.ref f) = true)
    (ha : EA X W (e :: es) fa) (hkw : EK X W kws fk) (hg : Gl X x := by rfl) (hall : (backToKw pos (keywordEach kws X.env)).all (·.1.isSome) = true := by rfl) (hks : (backToKw pos (keywordEach kws X.env)).filterMap (·.1) = ks := by rfl) (hdb : (x == ("__debug__" : Str)) = false := by decide)
    (he : starEach (e :: es) X.env = (false, eval e X.env) :: starEach es X.env := by rfl) (hpl : ((backTo pos (starEach (e :: es) X.env)).any (·.1) || (backToKw pos (keywordEach kws X.env)).any (·.1.isNone)) = false := by rfl) :
    E X W (.Call (.Name x p) (e :: es) kws pos) (eCallK n ks.length g fa fk) := by
  refine ⟨fun pins s σ H Q I h => ?_⟩
  obtain ⟨ρ, S, sl, w, rs, q⟩ := h
  refine wpAny_Call_Name_kw (ld_glob I hg hm ?_ hdb)
  refine PySem.W.callWith_KW (h₀ := X.base) I.ok.mod.kin hk hall (thn (ha.run pos pins s σ H _ I ⟨ρ, S, sl, w, rs, PostA.bindE q⟩) fun us s1 ⟨vs, H1, I1, r, ρ1, S1, ds, x1, w1, rd, _, p1⟩ => ?_) hpl he
  refine thn (hkw.run pos pins s1 σ H1 _ I1 ⟨ρ1, S1, sl, w1, rs.ext x1, PostA.bindE p1⟩) fun ws s2 ⟨zs, H2, I2, rz, ρ2, S2, es', x2, w2, re, _, p2⟩ => ⟨I2.kIn, ?_⟩
  rw [hks]
  split at p2
  · rename_i hl
    exact run_fnRK (us := us) F hr (passAt tk σ) I2 r rz (by rw [← r.length, ← rd.len, hl.1]) (by rw [← rz.length, ← re.len, hl.2]) ⟨ρ2, S2, _, w2, (rd.ext x2).append re, p2⟩
  · exact p2.elim
/-- x(k = v, ..) -/
theorem r_callK0 (tk : Takes X W) (F : FZK X.prog X.w X.K X.mg X.base k f 0 ks g) (hr : Room k X.A) (hm : X.mg x = some (.ref f)) (hk : PySem.W.keepIn X.K (.ref f) = true)
    (hkw : EK X W kws fk) (hg : Gl X x := by rfl) (hall : (backToKw pos (keywordEach kws X.env)).all (·.1.isSome) = true := by rfl) (hks : (backToKw pos (keywordEach kws X.env)).filterMap (·.1) = ks := by rfl) (hdb : (x == ("__debug__" : Str)) = false := by decide)
    (hpl : ((backTo pos (starEach [] X.env)).any (·.1) || (backToKw pos (keywordEach kws X.env)).any (·.1.isNone)) = false := by rfl) :
    E X W (.Call (.Name x p) [] kws pos) (eCallK 0 ks.length g aNil fk) := by
  refine ⟨fun pins s σ H Q I h => ?_⟩
  obtain ⟨ρ, S, sl, w, rs, q⟩ := h
  refine wpAny_Call_Name_kw (ld_glob I hg hm ?_ hdb)
  refine PySem.W.callWith_KW0 (h₀ := X.base) I.ok.mod.kin hk hall ?_ hpl
  refine thn (hkw.run pos pins s σ H _ I ⟨ρ, S, sl, w, rs, PostA.bindE q⟩) fun ws s2 ⟨zs, H2, I2, rz, ρ2, S2, es', x2, w2, re, _, p2⟩ => ⟨I2.kIn, ?_⟩
  rw [hks]
  split at p2
  · rename_i hl
    exact run_fnRK (us := []) (vs := []) F hr (passAt tk σ) I2 .nil rz rfl (by rw [← rz.length, ← re.len, hl.2]) ⟨ρ2, S2, _, w2, re, p2⟩
  · exact p2.elim
/-! methods -/
structure MethK (X : Cx) (m : Str) (n : Nat) (ks : List Str) (tab : List (Str × SemL)) : Prop where
  at_ : ∀ c g, tabOf tab c = some g → ∀ C, X.mg c = some (.ref C) → ∃ (f : Addr) (k : Nat), Cls X.K C ∧ Meth X.K C m f ∧ FZK X.prog X.w X.K X.mg X.base k f (n + 1) ks g ∧ Room k X.A
theorem methk_nil : MethK X m n ks [] := ⟨fun c g h => by cases h⟩
theorem methk_cons {c : Str} {C : Addr} {tab : List (Str × SemL)} (hm : X.mg c = some (.ref C)) (hc : Cls X.K C) (hM : Meth X.K C m f) (F : FZK X.prog X.w X.K X.mg X.base k f (n + 1) ks g) (hr : Room k X.A) (h : MethK X m n ks tab) : MethK X m n ks ((c, g) :: tab) := ⟨fun c' g' h' C' hm' => by
  unfold tabOf at h'
  rw [List.lookup_cons] at h'
  cases q : c' == c with
  | true =>
    rw [q] at h'
    cases h'
    have : c' = c := by simpa using q
    subst this
    rw [hm] at hm'
    cases hm'
    exact ⟨f, k, hc, hM, F, hr⟩
  | false =>
    rw [q] at h'
    exact h.at_ c' g' h' C' hm'⟩
/-- o.m(e, .., k = v, ..) -/
def eMethK (m : Str) (n mm : Nat) (tab : List (Str × SemL)) (fo : EX) (fa fk : AX) : EX := fun sl S => (fo sl S).bind fun d S1 => match fldsOf S1 d with
  | some (c, ns, _) => if m ∈ ns then .bad else (match tabOf tab c with
    | some g => (fa sl S1).bind fun ds S2 => (fk sl S2).bind fun es S3 => if ds.length = n ∧ es.length = mm then g (d :: (ds ++ es)) S3 else .bad
    | none => .bad)
  | none => .bad
theorem r_methK {pl : Sem Bool} {tab : List (Str × SemL)} (tk : Takes X W) (ht : MethK X m n ks tab) (ho : E X W o fo) (ha : EA X W (e :: es) fa) (hkw : EK X W kws fk)
    (hall : (backToKw pos (keywordEach kws X.env)).all (·.1.isSome) = true := by rfl) (hks : (backToKw pos (keywordEach kws X.env)).filterMap (·.1) = ks := by rfl)
    (hst : starEach (e :: es) X.env = (false, eval e X.env) :: starEach es X.env := by rfl) (hpl : ((backTo pos (starEach (e :: es) X.env)).any (·.1) || (backToKw pos (keywordEach kws X.env)).any (·.1.isNone)) = false := by rfl)
    (hev : eval (.Call (.Attribute o m apos) (e :: es) kws pos) X.env = (do
      let ov ← eval o X.env
      standAt apos.atName
      let (f, first) ← holding [ov] (getMethod ov m pl)
      callWith pos f first (backTo pos (starEach (e :: es) X.env)) (backToKw pos (keywordEach kws X.env))) := by rfl) :
    E X W (.Call (.Attribute o m apos) (e :: es) kws pos) (eMethK m n ks.length tab fo fa fk) := by
  refine ⟨fun pins s σ H Q I h => ?_⟩
  obtain ⟨ρ, S, sl, w, rs, p⟩ := h
  refine PySem.W.methodCall_KW (pl := pl) (thn (ho.run pins s σ H _ I ⟨ρ, S, sl, w, rs, PostE.bindE p⟩) fun u s1 ⟨x, H1, I1, rx, ρ1, S1, d, x1, w1, r1, _, p1⟩ => ?_) hev
  split at p1
  · rename_i c ns vs ef
    split at p1
    · exact p1.elim
    · rename_i hmem
      split at p1
      · rename_i g eg
        obtain ⟨a, C, dx, fs, ex, hm, ea, hn, rl⟩ := flds_rep w1 r1 ef
        obtain ⟨f, k, hc, hM, F, hr⟩ := ht.at_ c g eg C hm
        subst ex
        obtain rfl : u = Value.ref a := rx
        refine getmeth_ok I1 ea hc hM (lookN_none hn hmem) ?_
        refine PySem.W.callWith_KW (first := [.ref a]) (h₀ := X.base) I.ok.mod.kin hM.kp hall (thn (ha.run pos pins s1 σ H1 _ I1 ⟨ρ1, S1, sl, w1, rs.ext x1, PostA.bindE p1⟩) fun us s2 ⟨vs, H2, I2, r, ρ2, S2, ds, x2, w2, r2, _, p2⟩ => ?_) hpl hst
        refine thn (hkw.run pos pins s2 σ H2 _ I2 ⟨ρ2, S2, sl, w2, (rs.ext x1).ext x2, PostA.bindE p2⟩) fun ws s3 ⟨zs, H3, I3, rz, ρ3, S3, es', x3, w3, re, _, p3⟩ => ⟨I3.kIn, ?_⟩
        rw [hks]
        split at p3
        · rename_i hl
          exact run_fnRK (us := .ref a :: us) (vs := .ref a :: vs) F hr (passAt tk σ) I3 (.cons rfl r) rz (by rw [List.length_cons, ← r.length, ← r2.len, hl.1]) (by rw [← rz.length, ← re.len, hl.2]) ⟨ρ3, S3, d :: (ds ++ es'), w3, RepL.cons ((r1.ext x2).ext x3) ((r2.ext x3).append re), p3⟩
        · exact p3.elim
      · exact p1.elim
  · exact p1.elim
theorem r_methK0 {pl : Sem Bool} {tab : List (Str × SemL)} (tk : Takes X W) (ht : MethK X m 0 ks tab) (ho : E X W o fo) (hkw : EK X W kws fk)
    (hall : (backToKw pos (keywordEach kws X.env)).all (·.1.isSome) = true := by rfl) (hks : (backToKw pos (keywordEach kws X.env)).filterMap (·.1) = ks := by rfl)
    (hpl : ((backTo pos (starEach [] X.env)).any (·.1) || (backToKw pos (keywordEach kws X.env)).any (·.1.isNone)) = false := by rfl)
    (hev : eval (.Call (.Attribute o m apos) [] kws pos) X.env = (do
      let ov ← eval o X.env
      standAt apos.atName
      let (f, first) ← holding [ov] (getMethod ov m pl)
      callWith pos f first (backTo pos (starEach [] X.env)) (backToKw pos (keywordEach kws X.env))) := by rfl) :
    E X W (.Call (.Attribute o m apos) [] kws pos) (eMethK m 0 ks.length tab fo aNil fk) := by
  refine ⟨fun pins s σ H Q I h => ?_⟩
  obtain ⟨ρ, S, sl, w, rs, p⟩ := h
  refine PySem.W.methodCall_KW (pl := pl) (thn (ho.run pins s σ H _ I ⟨ρ, S, sl, w, rs, PostE.bindE p⟩) fun u s1 ⟨x, H1, I1, rx, ρ1, S1, d, x1, w1, r1, _, p1⟩ => ?_) hev
  split at p1
  · rename_i c ns vs ef
    split at p1
    · exact p1.elim
    · rename_i hmem
      split at p1
      · rename_i g eg
        obtain ⟨a, C, dx, fs, ex, hm, ea, hn, rl⟩ := flds_rep w1 r1 ef
        obtain ⟨f, k, hc, hM, F, hr⟩ := ht.at_ c g eg C hm
        subst ex
        obtain rfl : u = Value.ref a := rx
        refine getmeth_ok I1 ea hc hM (lookN_none hn hmem) ?_
        refine PySem.W.callWith_KW0 (first := [.ref a]) (h₀ := X.base) I.ok.mod.kin hM.kp hall ?_ hpl
        have p1 : PostE X.K X.mg (fun C d H' => W C d σ H') ρ1 H1 Q ((fk sl S1).bind fun es S3 => if ([] : List D).length = 0 ∧ es.length = ks.length then g (d :: ([] ++ es)) S3 else .bad) := p1
        refine thn (hkw.run pos pins s1 σ H1 _ I1 ⟨ρ1, S1, sl, w1, rs.ext x1, PostA.bindE p1⟩) fun ws s3 ⟨zs, H3, I3, rz, ρ3, S3, es', x3, w3, re, _, p3⟩ => ⟨I3.kIn, ?_⟩
        rw [hks]
        split at p3
        · rename_i hl
          exact run_fnRK (us := [.ref a]) (vs := [.ref a]) F hr (passAt tk σ) I3 (.cons rfl .nil) rz rfl (by rw [← rz.length, ← re.len, hl.2]) ⟨ρ3, S3, d :: es', w3, RepL.cons (r1.ext x3) re, p3⟩
        · exact p3.elim
      · exact p1.elim
  · exact p1.elim
end
end Z
/-! ZY3: making by keywords, f-strings, a, b, c = .., unpacking lists. -/
namespace Z
open PySem PySem.Spec L2 PyProof.Rows

section
variable {X : Cx} {W : WX} {k n : Nat} {f C : Addr} {g : SemL} {x m : Str} {p pos apos : Pos} {e o : Expr} {es : List Expr} {fa fk : AX} {fo fe : EX} {ks : List Str} {kws : List Keyword}
theorem run_makeK {c : Str} {pins : List (Addr × Obj)} {σ : L2.St} {ρ : List Addr} {H : Hp} {S : Store} {ds es : List D} {s : Shared} {Q : VK} {us ws : List Value} {vs zs : List V} {E : XK} (M : Mk X.K C f) (hmc : X.mg c = some (.ref C)) (F : FZK X.prog X.w X.K X.mg X.base k f (n + 1) ks g) (hr : Room (k + 1) X.A) (hx : PassesAt (L2.CX X.prog X.w) X σ E) (I : Inv X pins σ H s) (r : Vals vs us) (rz : Vals zs ws)
    (l1 : us.length = n) (l2 : ws.length = ks.length) (w0 : WOk X.K X.mg ρ H S) (rl : RepL X.K X.mg ρ H (ds ++ es) (vs ++ zs)) (p : PostE X.K X.mg E ρ H Q (makeS c g (ds ++ es) S)) :
    wpAny (model X.prog X.w) X.A (PySem.call (.ref C) us (ks.zip ws)) (EP X pins σ Q) X.xe s := by
  have hx1 : H (s.heap.objs.size + 1) = none := I.hok.fresh (Nat.le_succ _)
  have hd1 : H s.heap.objs.size = none := I.hok.fresh (Nat.le_refl _)
  have hne : s.heap.objs.size ≠ s.heap.objs.size + 1 := Nat.ne_of_lt (Nat.lt_succ_self _)
  have I2 := Inv.made (C := C) I
  have hx2 : (upd H s.heap.objs.size (.own (s.heap.objs.size + 1))) (s.heap.objs.size + 1) = none := by rw [upd_ne hne.symm]; exact hx1
  have x1 : Ext ρ H ρ (upd H s.heap.objs.size (.own (s.heap.objs.size + 1))) := Ext.new' hd1
  have w1 : WOk X.K X.mg ρ (upd H s.heap.objs.size (.own (s.heap.objs.size + 1))) S := w0.new' hd1
  have x2 := x1.trans (Ext.hand (o := .ins C s.heap.objs.size []) hx2)
  have w2 : WOk X.K X.mg (ρ ++ [s.heap.objs.size + 1]) (upd (upd H s.heap.objs.size (.own (s.heap.objs.size + 1))) (s.heap.objs.size + 1) (.ins C s.heap.objs.size [])) (S ++ [.ins c [] []]) := w1.hand hx2 ⟨C, s.heap.objs.size, [], hmc, upd_same, rfl, RepL.nil⟩
  have rp : Rep X.K X.mg (ρ ++ [s.heap.objs.size + 1]) (upd (upd H s.heap.objs.size (.own (s.heap.objs.size + 1))) (s.heap.objs.size + 1) (.ins C s.heap.objs.size [])) (.ptr S.length) (.ref (s.heap.objs.size + 1)) := by
    rw [Rep]
    exact ⟨_, rfl, by rw [← w0.len]; simp⟩
  have hq : spZ X.K X.mg g ((.ref (s.heap.objs.size + 1) :: vs) ++ zs) (upd (upd H s.heap.objs.size (.own (s.heap.objs.size + 1))) (s.heap.objs.size + 1) (.ins C s.heap.objs.size [])) (fun v H2 => v = .non ∧ Q (.ref (s.heap.objs.size + 1)) H2) E := by
    refine ⟨_, _, .ptr S.length :: (ds ++ es), w2, RepL.cons rp (rl.ext x2), ?_⟩
    have p' := PostE.bindE (PostE.from x2 p)
    refine PostE.mono p' fun v H3 ⟨ρ3, S3, d, x3, w3, r3, _, p3⟩ => ?_
    cases d with
    | non => exact ⟨rep_non r3, post_ok p3 w3 (rp.ext x3)⟩
    | _ => exact p3.elim
  refine wpAny_call (make_map (f := f) I.kIn M.makes M.init (beq_iff_eq.mp M.fn) (codeAny_mono (F _ X.stack _ _ (Value.ref (s.heap.objs.size + 1) :: us) ws _ _ _ E (hr.make C us (ks.zip ws)) (I2.env0.make C us (ks.zip ws)) (show Vals (V.ref (s.heap.objs.size + 1) :: vs) (Value.ref (s.heap.objs.size + 1) :: us) from .cons rfl r) rz (by rw [List.length_cons, l1]) l2 hq) fun r s' hq' => ?_))
  cases r with
  | error e => exact hx pins _ _ e s' I2 hq'
  | ok fl =>
    cases fl with
    | ret u =>
      obtain ⟨v, H', I3, rv, ev, q3⟩ := I2.after hq'
      subst ev
      exact ⟨rv, ⟨V.ref (s.heap.objs.size + 1), H', I3, rfl, q3⟩⟩
    | next => exact False.elim hq'
    | brk => exact False.elim hq'
    | cont => exact False.elim hq'
/-- C(e, .., k = v, ..) -/
theorem r_makeK (tk : Takes X W) (M : Mk X.K C f) (F : FZK X.prog X.w X.K X.mg X.base k f (n + 1) ks g) (hr : Room (k + 1) X.A) (hm : X.mg x = some (.ref C)) (ha : EA X W (e :: es) fa) (hkw : EK X W kws fk) (hg : Gl X x := by rfl)
    (hall : (backToKw pos (keywordEach kws X.env)).all (·.1.isSome) = true := by rfl) (hks : (backToKw pos (keywordEach kws X.env)).filterMap (·.1) = ks := by rfl) (hdb : (x == ("__debug__" : Str)) = false := by decide)
    (he : starEach (e :: es) X.env = (false, eval e X.env) :: starEach es X.env := by rfl) (hpl : ((backTo pos (starEach (e :: es) X.env)).any (·.1) || (backToKw pos (keywordEach kws X.env)).any (·.1.isNone)) = false := by rfl) :
    E X W (.Call (.Name x p) (e :: es) kws pos) (eCallK n ks.length (makeS x g) fa fk) := by
  refine ⟨fun pins s σ H Q I h => ?_⟩
  obtain ⟨ρ, S, sl, w, rs, q⟩ := h
  refine wpAny_Call_Name_kw (ld_glob I hg hm ?_ hdb)
  refine PySem.W.callWith_KW (h₀ := X.base) I.ok.mod.kin M.kp hall (thn (ha.run pos pins s σ H _ I ⟨ρ, S, sl, w, rs, PostA.bindE q⟩) fun us s1 ⟨vs, H1, I1, r, ρ1, S1, ds, x1, w1, rd, _, p1⟩ => ?_) hpl he
  refine thn (hkw.run pos pins s1 σ H1 _ I1 ⟨ρ1, S1, sl, w1, rs.ext x1, PostA.bindE p1⟩) fun ws s2 ⟨zs, H2, I2, rz, ρ2, S2, es', x2, w2, re, _, p2⟩ => ⟨I2.kIn, ?_⟩
  rw [hks]
  split at p2
  · rename_i hl
    exact run_makeK (us := us) (ds := ds) M hm F hr (passAt tk σ) I2 r rz (by rw [← r.length, ← rd.len, hl.1]) (by rw [← rz.length, ← re.len, hl.2]) w2 ((rd.ext x2).append re) p2
  · exact p2.elim
/-- C(k = v, ..) -/
theorem r_makeK0 (tk : Takes X W) (M : Mk X.K C f) (F : FZK X.prog X.w X.K X.mg X.base k f 1 ks g) (hr : Room (k + 1) X.A) (hm : X.mg x = some (.ref C)) (hkw : EK X W kws fk) (hg : Gl X x := by rfl)
    (hall : (backToKw pos (keywordEach kws X.env)).all (·.1.isSome) = true := by rfl) (hks : (backToKw pos (keywordEach kws X.env)).filterMap (·.1) = ks := by rfl) (hdb : (x == ("__debug__" : Str)) = false := by decide)
    (hpl : ((backTo pos (starEach [] X.env)).any (·.1) || (backToKw pos (keywordEach kws X.env)).any (·.1.isNone)) = false := by rfl) :
    E X W (.Call (.Name x p) [] kws pos) (eCallK 0 ks.length (makeS x g) aNil fk) := by
  refine ⟨fun pins s σ H Q I h => ?_⟩
  obtain ⟨ρ, S, sl, w, rs, q⟩ := h
  refine wpAny_Call_Name_kw (ld_glob I hg hm ?_ hdb)
  refine PySem.W.callWith_KW0 (h₀ := X.base) I.ok.mod.kin M.kp hall ?_ hpl
  refine thn (hkw.run pos pins s σ H _ I ⟨ρ, S, sl, w, rs, PostA.bindE q⟩) fun ws s2 ⟨zs, H2, I2, rz, ρ2, S2, es', x2, w2, re, _, p2⟩ => ⟨I2.kIn, ?_⟩
  rw [hks]
  split at p2
  · rename_i hl
    exact run_makeK (n := 0) (us := []) (vs := []) (ds := []) M hm F hr (passAt tk σ) I2 .nil rz rfl (by rw [← rz.length, ← re.len, hl.2]) w2 re p2
  · exact p2.elim
/-! ### f-strings -/
def semFmt : Sem1 := fun d S => match d with
  | .str y => if y.length ≤ 1000000 then .ok (.str y) S else .bad
  | .int i => if i.natAbs.log2 < 1920 then .ok (.str (toString i)) S else .bad
  | _ => .bad
theorem r_fmt (he : E X W e fe) : E X W (.FormattedValue e (-1) none pos) (eUn semFmt fe) := PE.imp (pe_fmt he) fun σ H Q h => un_imp (g := fun _ => semFmt) h fun ρ S sl H1 d v w _ rv p => by
  cases d with
  | str y =>
    unfold semFmt at p
    dsimp only at p
    split at p
    · rename_i hl
      exact .inl ⟨y, rep_str rv, line_of hl, post_ok p w mk_str⟩
    · exact p.elim
  | int i =>
    unfold semFmt at p
    dsimp only at p
    split at p
    · rename_i hl
      exact .inr ⟨i, rep_int rv, hl, post_ok p w mk_str⟩
    · exact p.elim
  | _ => exact p.elim
def joinGo : List EX → Str → Sl → Store → Out D
  | [], acc, _, S => .ok (.str acc) S
  | f :: fs, acc, sl, S => (f sl S).bind fun d S1 => match d with
    | .str y => if (acc ++ y).length ≤ 1000000 then joinGo fs (acc ++ y) sl S1 else .bad
    | _ => .bad
def eJoin (fs : List EX) : EX := fun sl S => joinGo fs Str.empty sl S
inductive EJ (X : Cx) (W : WX) : List Expr → List EX → Prop where
  | nil : EJ X W [] []
  | cons {e : Expr} {f : EX} {es : List Expr} {fs : List EX} (h : E X W e f) (r : EJ X W es fs) : EJ X W (e :: es) (f :: fs)
theorem EJ.pj {es : List Expr} {fs : List EX} (h : EJ X W es fs) : PJ X es (fs.map (trE X.K X.mg W)) := by
  induction h with
  | nil => exact .nil
  | cons h _ ih => exact .cons h ih
theorem join_imp : ∀ {fs : List EX} {acc : Str} {σ : L2.St} {H : Hp} {Q : VK}, trE X.K X.mg W (joinGo fs acc) σ H Q → tJs (fs.map (trE X.K X.mg W)) acc σ H fun out H1 => Q (.str out) H1
  | [], acc, σ, H, Q, ⟨ρ, S, sl, w, rs, p⟩ => post_ok (d := .str acc) p w mk_str
  | f :: fs, acc, σ, H, Q, ⟨ρ, S, sl, w, rs, p⟩ => by
    refine ⟨ρ, S, sl, w, rs, PostE.mono (PostE.bindE p) fun v H1 ⟨ρ1, S1, d, x1, w1, r1, _, p1⟩ => ?_⟩
    cases d with
    | str y =>
      dsimp only at p1
      split at p1
      · rename_i hl
        exact ⟨y, rep_str r1, line_of hl, join_imp ⟨ρ1, S1, sl, w1, rs.ext x1, p1⟩⟩
      · exact p1.elim
    | _ => exact p1.elim
theorem r_fstr {v1 v2 : Expr} {rest : List Expr} {fs : List EX} (h : EJ X W (v1 :: v2 :: rest) fs) : E X W (.JoinedStr (v1 :: v2 :: rest) pos) (eJoin fs) := PE.imp (pe_joined h.pj) fun σ H Q h => join_imp h
theorem r_fstr1 (he : E X W e fe) : E X W (.JoinedStr [e] pos) fe := pe_joined1 he
/-! ### a, b, c = x, y, z -/
def sPar3 (i j l : Nat) (f : AX) : SX := fun sl S => (f sl S).toS sl fun ds S' => match ds with
  | [d, e, g] => .nx (((sl.set i (some d)).set j (some e)).set l (some g)) S'
  | _ => .bad
theorem s_par3 {i j l : Nat} {x y z : Str} {a b c : Expr} {fa : AX} {px py pz pt : Pos} {kt k2 pt2} (hc : X.calm = true) (hN : X.N.Nodup) (ha : EA X W [a, b, c] fa) (hi : X.N[i]? = some x := by rfl) (hj : X.N[j]? = some y := by rfl) (hl : X.N[l]? = some z := by rfl) (hij : i ≠ j := by decide) (hil : i ≠ l := by decide) (hjl : j ≠ l := by decide)
    (hx : X.env.scope.names.lookup x = some .local := by rfl) (hy : X.env.scope.names.lookup y = some .local := by rfl) (hz : X.env.scope.names.lookup z = some .local := by rfl)
    (hw : swappedStores [.Tuple [.Name x px, .Name y py, .Name z pz] kt pt] (.Tuple [a, b, c] k2 pt2) X.env = pure (some [x, y, z]) := by rfl)
    (hs : swapsWithSole [.Tuple [.Name x px, .Name y py, .Name z pz] kt pt] (.Tuple [a, b, c] k2 pt2) pos.line X.env = pure false := by rfl) :
    ES X W (.Assign [.Tuple [.Name x px, .Name y py, .Name z pz] kt pt] (.Tuple [a, b, c] k2 pt2) pos) (sPar3 i j l fa) :=
  PS.imp (ps_par3 hc hN hi hj hl hij hil hjl hx hy hz ha hw hs) fun D σ H ⟨ρ, S, sl, w, rs, p⟩ => ⟨ρ, S, sl, w, rs, PostA.mono (PostS.ofA rs p) fun vs H1 ⟨ρ1, S1, ds, w1, r1, rv, p1⟩ => by
    match ds, rv, p1 with
    | [d, e, g], rv, p1 =>
      rw [RepL] at rv
      obtain ⟨v, r, e1, h1, h2⟩ := rv
      rw [RepL] at h2
      obtain ⟨u, r2, e2, h3, h4⟩ := h2
      rw [RepL] at h4
      obtain ⟨t, r3, e3, h5, h6⟩ := h4
      rw [RepL] at h6
      subst h6 e3 e2 e1
      exact ⟨v, u, t, rfl, post_nx p1 w1 (((r1.set h1 i).set h3 j).set h5 l)⟩
    | [], _, p1 => exact p1.elim
    | [_], _, p1 => exact p1.elim
    | [_, _], _, p1 => exact p1.elim
    | _ :: _ :: _ :: _ :: _, _, p1 => exact p1.elim⟩
/-! ### a, b, .. = a list -/
def gLstX (gs : GXs) : GX := fun d sl S => match asL S d with
  | some ds => gs ds sl S
  | none => .bad
theorem g_lst {es : List Expr} {k : Nat} {gs : GXs} {n : Nat} (hc : X.calm = true) (h : EGs X W es gs) (hl : ∀ ds sl S, gs ds sl S ≠ .bad → ds.length = n) (hn : (assignEach es X.env).length = n := by rfl) (hst : (assignEach es X.env).findIdx? (·.1) = none := by rfl) : EG X W (.Tuple es k pos) (gLstX gs) :=
  PG.imp (pg_unl hc h hn hst) fun v σ H Q ⟨ρ, S, sl, d, w, rs, rv, p⟩ => by
    unfold gLstX at p
    split at p
    · rename_i ds hd
      obtain ⟨a, vs, e, ha, r⟩ := asL_rep w rv hd
      exact ⟨a, vs, e, .inl (.inl ha), by rw [← r.len]; exact hl ds sl S (fun q => by rw [q] at p; exact p), ρ, S, sl, ds, w, rs, r, p⟩
    · exact p.elim
theorem nx_lst {gs : GXs} (hs : NxBs gs) : NxB (gLstX gs) := fun d sl S => by
  unfold gLstX
  split
  · exact hs _ sl S
  · exact .inr rfl
end
end Z
/-! ZY4: what printed derivations with exceptions and lambdas use. -/
namespace ZX
open PySem PySem.W PySem.Calls PyProof.Rows PySem.Spec
open L2 (V Vals RelV RelO)
theorem vofP_same : ∀ {ps : List Str} {vs : List V}, ps.Nodup → vs.length = ps.length → ps.map (fun f => (f, vofP ps vs f)) = ps.zip vs := by
  have core : ∀ (ps : List Str) (vs : List V), ps.Nodup → vs.length = ps.length → ∀ f v, (f, v) ∈ ps.zip vs → vofP ps vs f = v := by
    intro ps
    induction ps with
    | nil => intro vs _ _ f v h; simp at h
    | cons p ps ih =>
      intro vs hn hl f v h
      cases vs with
      | nil => simp at hl
      | cons u vs =>
        rw [List.zip_cons_cons] at h
        rcases List.mem_cons.mp h with e | h
        · cases e
          simp [vofP, List.lookup]
        · have hf : f ∈ ps := (List.of_mem_zip h).1
          have ne : f ≠ p := fun e => (List.nodup_cons.mp hn).1 (e ▸ hf)
          have r := ih vs (List.nodup_cons.mp hn).2 (by simpa using hl) f v h
          unfold vofP at r ⊢
          rw [List.zip_cons_cons, List.lookup_cons, beq_eq_false_iff_ne.mpr ne]
          exact r
  intro ps vs hn hl
  have : ∀ (l : List Str) (ws : List V), l.length = ws.length → (∀ f v, (f, v) ∈ l.zip ws → vofP ps vs f = v) → l.map (fun f => (f, vofP ps vs f)) = l.zip ws := by
    intro l
    induction l with
    | nil => intro ws _ _; simp
    | cons a l ih =>
      intro ws h1 h2
      cases ws with
      | nil => simp at h1
      | cons b ws =>
        rw [List.map_cons, List.zip_cons_cons, h2 a b (by simp), ih ws (by simpa using h1) fun f v h => h2 f v (by simp [h])]
  exact this ps vs hl.symm (core ps vs hn hl)
theorem foldl_own {f : Str → V} : ∀ (l : List Str) (fs : List (Str × V)), (l.map fun p => (p, p)).foldl (fun fs fp => (fp.1, f fp.2) :: fs) fs = (l.map fun p => (p, f p)).reverse ++ fs
  | [], fs => rfl
  | a :: l, fs => by rw [List.map_cons, List.foldl_cons, foldl_own l, List.map_cons, List.reverse_cons, List.append_assoc]; rfl
theorem InitOk.cast {prog : Program} {w : World} {base : Heap} {k : Nat} {f C : Addr} {G G' : List V → Option (List (Str × V))} (h : InitOk prog w base k f C G) (e : ∀ vs, G' vs = G vs) : InitOk prog w base k f C G' := by
  have : G' = G := funext e
  rw [this]; exact h
theorem InitOk.mono {prog : Program} {w : World} {base : Heap} {j k : Nat} {f C : Addr} {G : List V → Option (List (Str × V))} (h : InitOk prog w base j f C G) (e : j ≤ k) : InitOk prog w base k f C G :=
  fun A s x t us vs fs R hd => h A s x t us vs fs R (by omega)
/-- what __init__(self, tag): self.tag = tag keeps -/
def G1 : List V → Option (List (Str × V)) := fun vs => if vs.length = 1 then some [("tag", vofP ["tag"] vs "tag")] else none
theorem own_eq {tag : Str} {flds : List Str} (hn : flds.Nodup) (vs : List V) :
    (if vs.length = flds.length then some (Z.excFs tag flds vs) else none) = (if vs.length = flds.length then (G1 [.str tag]).map (fun fs => (flds.map fun p => (p, p)).foldl (fun fs fp => (fp.1, vofP flds vs fp.2) :: fs) fs) else none) := by
  by_cases h : vs.length = flds.length
  · rw [if_pos h, if_pos h]
    unfold G1 Z.excFs
    have e1 : (if [V.str tag].length = 1 then some [(("tag" : Str), vofP ["tag"] [V.str tag] "tag")] else none) = some [(("tag" : Str), V.str tag)] := by simp [vofP, List.lookup]
    rw [e1, Option.map_some, foldl_own, vofP_same hn h]
  · rw [if_neg h, if_neg h]
end ZX
namespace Z
open PySem PySem.Spec L2 PyProof.Rows

/-! ### defs that make lambdas -/
section
variable {P : Program} {w : World} {K : PySem.W.Frag} {mg : Str → Option Value} {base : Heap}
/-- a def by its body; the body may speak of its own cells -/
theorem fn_okT {x qual : Str} {params : Arguments} {stb : List Stmt} {scope : Scope} {dvs : List V} {kws : List (Str × V)} {f : Addr} {fd : FuncData} {N ps : List Str} {k : Nat} {body : List (Str × Addr) → SX} (F : FunD K x qual params stb scope dvs kws f fd) (Sc : FnScope N ps scope)
    (hb : ∀ (A : Around) (outer : List Env) (s : Shared) (H : Hp) (E : XK), Room k (A.deeper (envOfC qual scope s.heap.objs.size f fd.code)) →
      ESs (cxOf (L2.CX P w) P w K mg base N qual scope f fd.code A outer s H E) (fun c d _ H' => E c d H') stb (body (cellsFrom (s.heap.objs.size + 1) scope.names []))) :
    FnOk P w K mg base (L2.CX P w) (k + 1) f fd ps (fun vs H Q E => ∀ κ, spOf K mg ps.length (defS N.length (body κ)) vs H Q E) := by
  obtain ⟨oc, od, dV, kV, doc, pm, an, cdv, ct, osl, rfl, lk, hcd, _, _⟩ := F.ex
  exact fn_of lk hcd Sc (fun vs H Q E h => spOf_len vs H Q E (h [])) fun A outer s H vs Q E hr h => spOf_body (ps := ps) (k := k) (fun H E => hb A outer s H E hr) (h _)
/-- the same whatever the cells are -/
noncomputable def allK (g : List (Str × Addr) → SemL) : SemL := fun ds S => open Classical in if ∃ o, ∀ κ, g κ ds S = o then g [] ds S else .bad
theorem allK_eq {g : List (Str × Addr) → SemL} {ds : List D} {S : Store} {o : Out D} (h : ∀ κ, g κ ds S = o) : allK g ds S = o := by
  unfold allK
  rw [if_pos ⟨o, h⟩]
  exact h []
theorem fz_all {f : Addr} {fd : FuncData} {ps : List Str} {k n : Nat} {g : List (Str × Addr) → SemL} (F : FnOk P w K mg base (L2.CX P w) k f fd ps (fun vs H Q E => ∀ κ, spOf K mg n (g κ) vs H Q E)) (hb : Binds K fd ps []) : FZ P w K mg base k f (arity n (allK g)) :=
  (F.raw hb .nil).imp fun vs H Q E ⟨ρ, S, ds, w0, r, p⟩ κ => by
    unfold arity at p
    split at p
    · rename_i hl
      refine ⟨ρ, S, ds, hl, w0, by rw [List.append_nil]; exact r, ?_⟩
      unfold allK at p
      split at p
      · rename_i h
        obtain ⟨o, ho⟩ := h
        rw [ho κ, ← ho []]
        exact p
      · exact p.elim
    · exact p.elim
end
/-! ### the law's start with tables -/
def tabsOf (cs : List (Addr × Str)) : Store := cs.map fun c => .tab c.1 c.2
theorem wok_tabs {K : PySem.W.Frag} {mg : Str → Option Value} {H : Hp} {cs : List (Addr × Str)} (nd : (cs.map (·.1)).Nodup) (hP : ∀ c ∈ cs, H c.1 = some (.tbl #[])) : WOk K mg (cs.map (·.1)) H (tabsOf cs) := by
  refine ⟨by simp [tabsOf], nd, fun a ha => ?_, fun n a m e1 e2 => ?_⟩
  · obtain ⟨c, hc, rfl⟩ := List.mem_map.mp ha
    rw [hP c hc]; simp
  · unfold tabsOf at e2
    rw [List.getElem?_map] at e1 e2
    obtain ⟨c, hc, rfl⟩ := Option.map_eq_some_iff.mp e1
    rw [hc] at e2
    cases e2
    exact ⟨rfl, #[], hP c (List.mem_of_getElem? hc), True.intro, fun pos cv hc => by
      have z : codeAmong pos [] = some cv := hc
      simp [codeAmong] at z⟩
theorem law_startT {K : PySem.W.Frag} {mg : Str → Option Value} {H : Hp} {cs : List (Addr × Str)} {a : Addr} {ns : List Int} {g : SemL} (nd : (cs.map (·.1)).Nodup) (hP : ∀ c ∈ cs, H c.1 = some (.tbl #[])) (hS : SqL K H a (ns.map V.int)) (h : ∃ S, g [.scr ns] (tabsOf cs) = .ok (.bl true) S) : spOf K mg 1 g [.ref a] H (fun v _ => v = .bl true) fun _ _ _ => False := by
  obtain ⟨S', e⟩ := h
  refine ⟨cs.map (·.1), tabsOf cs, [.scr ns], rfl, wok_tabs nd hP, RepL.cons ?_ RepL.nil, ?_⟩
  · rw [Rep]
    refine ⟨a, rfl, ?_⟩
    rcases hS with h1 | h1
    · refine .inl ⟨fun hm => ?_, h1⟩
      obtain ⟨c, hc, ea⟩ := List.mem_map.mp hm
      subst ea
      rcases h1 with h1 | ⟨o, h1⟩ <;> (rw [hP c hc] at h1; cases h1)
    · exact .inr h1
  · rw [e]
    exact fun v ρ' H' _ _ r => rep_bl r
/-- what the head gives, with tables: cs code objects, their tables, their names -/
theorem walkT {l : PySem.W.OpenLaw} {q : Program} {loose : List Str} {XP : (Str → Option Value) → Heap → Prop} {K : Params → PySem.W.Frag} {as : List Addr} {e : ∀ P, as = (K P).map (·.1)} {ts : List Addr} {d : DefRec} {k : Nat} {x : Str} (hn : l.most = some 63) (hdf : d.params.defaults = []) (hr : Room k callerA)
    (F : ∀ (w : World) (mg : Str → Option Value) (fa : Addr) (h : Heap), (∀ P ∈ ts, h.get? P = some (PySem.W.tabObj #[])) → (K w.params).In h → h.Ns mainGlobals mg → mg d.name = some (.ref fa) → LamX.LawAtS l w (K w.params) (L2.CX l.prog w) k 63 x mg fa h) :
    PySem.W.WalkO q loose XP (PySem.W.kmHook K as e ts).says l.row.toRowW d [] (fun f vs => PySem.call f vs) :=
  LamX.walk_ofTs (n := 63) (k := k) (x := x) (K := K) (CX := fun w => L2.CX l.prog w) hn (by decide) hdf hr (fun w h Y => PySem.W.km_in_of Y) (fun w mg fa h Y KX G hm => F w mg fa h (PySem.W.km_tabs_of Y) KX G hm) fun _ _ _ _ _ z => cx_false z
/-! ### lambdas' texts -/
def bodyS : Stmt → List Stmt
  | .FunctionDef _ _ b .. => b
  | .If _ b .. => b
  | .For _ _ b .. => b
  | .While _ b .. => b
  | .Try b .. => b
  | _ => []
def elseS : Stmt → List Stmt
  | .If _ _ b .. => b
  | _ => []
def nthS (l : List Stmt) (i : Nat) : Stmt := l.getD i (.Pass ⟨0, 0, 0, 0⟩)
def valS : Stmt → Expr
  | .Assign _ v _ => v
  | .Return (some v) _ => v
  | .Expr v _ => v
  | .If v .. => v
  | _ => .Constant .none 0 ⟨0, 0, 0, 0⟩
def nthE (l : List Expr) (i : Nat) : Expr := l.getD i (.Constant .none 0 ⟨0, 0, 0, 0⟩)
/-- the i-th part of an expression -/
def kidE : Expr → Nat → Expr
  | .List es _, i => nthE es i
  | .Tuple es _ _, i => nthE es i
  | .Call _ es _ _, i => nthE es i
  | .BinOp a _ b _, i => if i = 0 then a else b
  | .UnaryOp _ a _, _ => a
  | .BoolOp _ es _, i => nthE es i
  | .Compare a _ es _, i => if i = 0 then a else nthE es (i - 1)
  | .IfExp c a b _, i => if i = 0 then c else if i = 1 then a else b
  | .Subscript a b _, i => if i = 0 then a else b
  | _, _ => .Constant .none 0 ⟨0, 0, 0, 0⟩
def lamParams : Expr → Arguments
  | .Lambda a _ _ _ => a
  | _ => ⟨[], [], none, [], [], none, []⟩
def lamBody : Expr → Expr
  | .Lambda _ b _ _ => b
  | e => e
def lamScope (d : Scope) : Expr → Scope
  | .Lambda _ _ s _ => s
  | _ => d
theorem lam_bind0 {T : LamText} (hd : T.dvs = []) (h : ∀ (clo : List (Str × Addr)) (pm doc cdv ctv : Value), bindArgs (PySem.W.kdv_fn "<lambda>" T.qual T.params (.expr T.body) T.scope clo .none doc pm cdv ctv) ⟨[], []⟩ = pure []) (s : Shared) (clo : List (Str × Addr)) (pm doc cdv ctv dV : Value) (D : DfH s.heap T.dvs dV) :
    ∃ us, Vals T.dvs us ∧ BindsTo s (PySem.W.kdv_fn "<lambda>" T.qual T.params (.expr T.body) T.scope clo dV doc pm cdv ctv) ⟨[], []⟩ (([] : List Str).zip us) := by
  rcases D with ⟨_, rfl⟩ | ⟨n, _⟩
  · exact ⟨[], by rw [hd]; exact .nil, .of_eq (h clo pm doc cdv ctv)⟩
  · exact absurd hd n
theorem lam_bind1 {T : LamText} {v : V} {y : Str} (hd : T.dvs = [v]) (h : ∀ (clo : List (Str × Addr)) (t : Addr) (pm doc cdv ctv u : Value), ∃ k, bindArgs (PySem.W.kdv_fn "<lambda>" T.qual T.params (.expr T.body) T.scope clo (.ref t) doc pm cdv ctv) ⟨[], []⟩ = seqItems? (.ref t) >>= k ∧ k (some #[u]) = pure [(y, u)]) (s : Shared) (clo : List (Str × Addr)) (pm doc cdv ctv dV : Value) (D : DfH s.heap T.dvs dV) :
    ∃ us, Vals T.dvs us ∧ BindsTo s (PySem.W.kdv_fn "<lambda>" T.qual T.params (.expr T.body) T.scope clo dV doc pm cdv ctv) ⟨[], []⟩ ([y].zip us) := by
  rcases D with ⟨e, _⟩ | ⟨n, t, us, rfl, r, T'⟩
  · rw [hd] at e; cases e
  · rw [hd] at r
    cases r with
    | cons r1 r2 =>
      cases r2
      rename_i u
      obtain ⟨k, e1, e2⟩ := h clo t pm doc cdv ctv u
      obtain ⟨o, ho, hc, m, hs⟩ := T'
      refine ⟨[u], by rw [hd]; exact .cons r1 .nil, ?_⟩
      exact BindsTo.of_defaults (T := t) rfl ho hs e1 e2
end Z
/-! ZY5: tables for printed derivations. -/
namespace Z
open PySem PySem.Spec L2 PyProof.Rows
section
variable {X : Cx} {W : WX}
def eBad : EX := fun _ _ => .bad
theorem r_bad {e : Expr} : E X W e eBad := ⟨fun pins s σ H Q I ⟨ρ, S, sl, w, r, p⟩ => p.elim⟩
theorem try_nil {cs : List Value} : TryOk X cs [] := fun c b h => by cases h
theorem try_cons {cs : List Value} {c : Str} {C : Addr} {b : Bool} {tab : List (Str × Bool)} (hm : X.mg c = some (.ref C)) (h : PySem.W.exmAny X.K (.ref C) cs = some b) (r : TryOk X cs tab) : TryOk X cs ((c, b) :: tab) := fun c' b' h' C' hm' => by
  rw [List.lookup_cons] at h'
  cases q : c' == c with
  | true =>
    rw [q] at h'
    cases h'
    have : c' = c := by simpa using q
    subst this
    rw [hm] at hm'
    cases hm'
    exact h
  | false =>
    rw [q] at h'
    exact r c' b' h' C' hm'
theorem xat_nil {f : Str} : XatOk X f [] := fun c h => by cases h
theorem xat_cons {f c : Str} {C : Addr} {cs : List Str} (hm : X.mg c = some (.ref C)) (h : XfC X.K C) (hf : PySem.W.findIn X.K (.ref C) f = some none) (r : XatOk X f cs) : XatOk X f (c :: cs) := fun c' h' C' hm' => by
  rcases List.mem_cons.mp h' with e | e
  · subst e
    rw [hm] at hm'
    cases hm'
    exact ⟨h, hf⟩
  · exact r c' e C' hm'
theorem hcn_nil : ∀ n ∈ ([] : List Str), X.env.kindOf n = some .cell := fun n h => by cases h
theorem hcn_cons {n : Str} {l : List Str} (h : X.env.kindOf n = some .cell) (r : ∀ m ∈ l, X.env.kindOf m = some .cell) : ∀ m ∈ n :: l, X.env.kindOf m = some .cell := fun m hm => by
  rcases List.mem_cons.mp hm with e | e
  · rw [e]; exact h
  · exact r m e
theorem RoomH.hot {k j : Nat} {A : Around} (r : Room k A) (h : j ≤ k) {x : Option Value} : L2H.RoomH j (A.mark x) := ⟨by have := r.dp; show A.depth + 3 * j + 5 < _; omega, by have := r.un; show A.units + 16 * j + 200 < _; omega⟩
theorem hotU {k : Nat} {A : Around} (r : L2H.RoomH k A) : A.units + 64 < cLine := by have := r.un; omega
/-! own classes below others -/
theorem isi_nil : IsiOk X [] := ⟨fun D y n h => by cases h⟩
theorem isi_cons {D : Str} {DC : Addr} {yes no : List Str} {tab : List (Str × List Str × List Str)} (hm : X.mg D = some (.ref DC)) (h1 : ((PySem.W.clsIn X.K DC).isSome && PySem.W.typeIn X.K (.ref DC) == some (.type "type")) = true)
    (h2 : ∀ c ∈ yes, ∀ C, X.mg c = some (.ref C) → InsT X.K C ∧ PySem.W.kitOne X.K (.ref C) (.ref DC) = some true) (h3 : ∀ c ∈ no, ∀ C, X.mg c = some (.ref C) → InsT X.K C ∧ PySem.W.kitOne X.K (.ref C) (.ref DC) = some false) (r : IsiOk X tab) : IsiOk X ((D, yes, no) :: tab) := ⟨fun D' y n h' C' hm' => by
  rw [List.lookup_cons] at h'
  cases q : D' == D with
  | true =>
    rw [q] at h'
    cases h'
    have : D' = D := by simpa using q
    subst this
    rw [hm] at hm'
    cases hm'
    exact ⟨h1, h2, h3⟩
  | false =>
    rw [q] at h'
    exact r.at_ D' y n h' C' hm'⟩
theorem ici_nil {DC : Addr} {b : Bool} : ∀ c ∈ ([] : List Str), ∀ C, X.mg c = some (.ref C) → InsT X.K C ∧ PySem.W.kitOne X.K (.ref C) (.ref DC) = some b := fun c h => by cases h
theorem ici_cons {DC C : Addr} {b : Bool} {c : Str} {l : List Str} (hm : X.mg c = some (.ref C)) (t : InsT X.K C) (h : PySem.W.kitOne X.K (.ref C) (.ref DC) = some b) (r : ∀ c ∈ l, ∀ C, X.mg c = some (.ref C) → InsT X.K C ∧ PySem.W.kitOne X.K (.ref C) (.ref DC) = some b) : ∀ c' ∈ c :: l, ∀ C, X.mg c' = some (.ref C) → InsT X.K C ∧ PySem.W.kitOne X.K (.ref C) (.ref DC) = some b := fun c' h' C' hm' => by
  rcases List.mem_cons.mp h' with e | e
  · subst e
    rw [hm] at hm'
    cases hm'
    exact ⟨t, h⟩
  · exact r c' e C' hm'
/-! == of own classes: which classes may stand at the right -/
theorem oeq_nil {oth : List Str} : OwnEq X oth [] := ⟨fun c g h => by cases h⟩
theorem oeq_cons {oth : List Str} {c : Str} {C : Addr} {g : SemL} {tab : List (Str × SemL)} (hm : X.mg c = some (.ref C)) (h1 : ∀ c' ∈ oth, ∀ C', X.mg c' = some (.ref C') → PySem.W.notFirst X.K C (.ref C') = true) (h2 : PySem.W.findIn X.K (.ref C) "__ne__" = some (some (.builtin "object.__ne__"))) (h3 : PySem.W.mroIn X.K C (.type "object") = some true) (r : OwnEq X oth tab) : OwnEq X oth ((c, g) :: tab) := ⟨fun c' g' h' C' hm' => by
  unfold tabOf at h'
  rw [List.lookup_cons] at h'
  cases q : c' == c with
  | true =>
    rw [q] at h'
    have : c' = c := by simpa using q
    subst this
    rw [hm] at hm'
    cases hm'
    exact ⟨h1, h2, h3⟩
  | false =>
    rw [q] at h'
    exact r.at_ c' g' h' C' hm'⟩
theorem onf_nil {C : Addr} : ∀ c' ∈ ([] : List Str), ∀ C', X.mg c' = some (.ref C') → PySem.W.notFirst X.K C (.ref C') = true := fun c h => by cases h
theorem onf_cons {C D : Addr} {c : Str} {l : List Str} (hm : X.mg c = some (.ref D)) (h : PySem.W.notFirst X.K C (.ref D) = true) (r : ∀ c' ∈ l, ∀ C', X.mg c' = some (.ref C') → PySem.W.notFirst X.K C (.ref C') = true) : ∀ c' ∈ c :: l, ∀ C', X.mg c' = some (.ref C') → PySem.W.notFirst X.K C (.ref C') = true := fun c' h' C' hm' => by
  rcases List.mem_cons.mp h' with e | e
  · subst e
    rw [hm] at hm'
    cases hm'
    exact h
  · exact r c' e C' hm'
end
theorem bind_star0 {B : List Value → Sem (List (Str × Value))} {pv : Str} (h0 : B [] = (newTuple [] >>= fun t => pure [(pv, t)])) (h1 : ∀ r rs, B (r :: rs) = (newTuple (r :: rs) >>= fun t => pure [(pv, t)])) :
    ∀ us rest : List Value, us.length = ([] : List Str).length → B (us ++ rest) = (newTuple rest >>= fun t => pure (([] : List Str).zip us ++ [(pv, t)]))
  | [], [], _ => h0
  | [], r :: rs, _ => h1 r rs
/-! ### the lambdas of a text -/
noncomputable def consL (T : LamText) (l : SemL) (L : LamText → Option SemL) : LamText → Option SemL := fun T' => open Classical in if T' = T then some l else L T'
def nilL : LamText → Option SemL := fun _ => none
section
variable {P : Program} {w : World} {K : PySem.W.Frag} {mg : Str → Option Value} {base : Heap}
def LOk (P : Program) (w : World) (K : PySem.W.Frag) (mg : Str → Option Value) (base : Heap) (k : Nat) (L : LamText → Option SemL) : Prop := ∀ T l, L T = some l → LamOk P w K mg base k T l
theorem LamOk.mono {j k : Nat} {T : LamText} {l : SemL} (h : LamOk P w K mg base j T l) (e : j ≤ k) : LamOk P w K mg base k T l := fun A outer s H f c' clo pm doc dV ctv ρ S caps vs Q E hr => h A outer s H f c' clo pm doc dV ctv ρ S caps vs Q E (hr.mono e)
theorem lok_nil {k : Nat} : LOk P w K mg base k nilL := fun T l h => by cases h
theorem lok_cons {j k : Nat} {T : LamText} {l : SemL} {L : LamText → Option SemL} (h : LamOk P w K mg base j T l) (e : j ≤ k) (r : LOk P w K mg base k L) : LOk P w K mg base k (consL T l L) := fun T' l' h' => by
  unfold consL at h'
  split at h'
  · rename_i q
    cases h'
    subst q
    exact h.mono e
  · exact r T' l' h'
end
theorem consL_same {T : LamText} {l : SemL} {L : LamText → Option SemL} : consL T l L T = some l := if_pos rfl
theorem consL_ne {T T' : LamText} {l : SemL} {L : LamText → Option SemL} (h : T'.id ≠ T.id) : consL T l L T' = L T' := if_neg fun e => h (by rw [e])
end Z
/-! ZY6: bool(x) of own classes. -/
namespace PySem.W
open PySem PySem.Calls PyProof.Rows
section
variable {prog : Program} {w : World} {A : Around} {E : Value → Shared → Prop} {s : Shared}
theorem zy_new_bool (x : Value) : MeetsIn prog w (Builtin.«bool.__new__» ⟨[.type "bool", x], []⟩) (fun A R s => wpAny (model prog w) A.in1 (truthy x) (fun b s' => R (.ok (.ret (.bool b))) s') (fun e s' => R (.error e) s') s) :=
  MeetsIn.of_wp fun A R s hs => by
    have f1 := PySem.F.conv_sub_bool
    repeat (any_goals (first | assumption | (refine wpAny_mono hs (fun b s' hb => ?_) fun _ _ z => z) | wp_step))
    all_goals first | exact ⟨_, rfl, hb⟩ | exact ⟨_, rfl, by assumption⟩ | skip
/-- bool(x) asks x's truth, two calls deep -/
theorem zy_bool {x : Value} {Q : Value → Shared → Prop} (h : wpAny (model prog w) A.in1.in1 (truthy x) (fun b s' => Q (.bool b) s') E s) : wpAny (model prog w) A (call (.type "bool") [x]) Q E s := by
  have T := PySem.F.called_bool
  obtain ⟨c0, tl0, e1⟩ := T.mro
  have e2 := T.made; have e3 := T.sub; have e4 := T.notType; have e5 := T.canCreate
  refine wpAny_call (codeAny_of_tree (show wpAny _ _ (callAny (.type "bool") _) _ _ _ from wpAny_pure ⟨Code.quiet_builtin _ (by decide +kernel), codeAny_builtin PySem.F.entry_type_call ?_⟩))
  rw [Around.under_plain (weight_type_call_type "bool" [x] []) (units_type_call_type "bool" [x] [])]
  repeat (any_goals (first | assumption | wp_step))
  refine codeAny_mono (codeAny_call_builtin T.plain PySem.F.entry_bool_new (wpAny_of_eq (PySem.F.newCall_bool_1 x) (zy_new_bool (prog := prog) (w := w) x A.in1 (wants (fun o s1 => ∃ b, o = .bool b ∧ Q o s1) E) s (wpAny_mono h (fun b s' hb => ⟨b, rfl, hb⟩) fun _ _ z => z)))) fun r s1 hr => ?_
  cases r with
  | error e => exact hr
  | ok fl =>
    cases fl <;> first | exact hr.elim | skip
    rename_i obj
    obtain ⟨b, rfl, hq⟩ := hr
    have e6 := T.init.lookup; have e7 := T.init.bind (Value.bool b)
    repeat (any_goals (first | assumption | wp_step))
    refine codeAny_mono (codeAny_call_builtin T.init.plain PySem.F.entry_object_init (T.init.check _ _ _ _ _ _ _ _ rfl (PySem.F.args_object_init_2 (.bool b) x) (object_init_meets T.init.lookup T.made PySem.F.newNe_bool prog w A.in1 (wants (fun r s2 => r = .none ∧ Q (.bool b) s2) E) s1 ⟨rfl, rfl, hq⟩))) fun r2 s2 hr2 => ?_
    cases r2 with
    | error e => exact hr2
    | ok fl2 =>
      cases fl2 <;> first | exact hr2.elim | skip
      obtain ⟨rfl, hq⟩ := hr2
      repeat (any_goals (first | assumption | wp_step))
end
end PySem.W
namespace Z
open PySem PySem.Spec L2
section
variable {X : Cx} {W : WX}
theorem run_fnR2 {k : Nat} {f : Addr} {pins : List (Addr × Obj)} {σ : L2.St} {H : Hp} {s : Shared} {Q : VK} {us : List Value} {vs : List V} {sp : Sp} {E : XK} (F : FnR X.prog X.w X.K X.mg X.base (L2.CX X.prog X.w) k f sp) (hr : Room (k + 2) X.A) (hx : PassesAt (L2.CX X.prog X.w) X σ E) (I : Inv X pins σ H s) (r : Vals vs us) (h : sp vs H Q E) :
    wpAny (model X.prog X.w) X.A.in1.in1 (PySem.call (.ref f) us) (EP X pins σ Q) X.xe s := by
  refine wpAny_call (codeAny_mono (F X.A.in1.in1 X.stack s H us vs Q E (Room.in1 (k := k) (Room.in1 (k := k + 1) hr)) I.env0.in1.in1 r h) fun r s' hq => ?_)
  cases r with
  | error e => exact hx pins H s e s' I hq
  | ok fl =>
    cases fl <;> first | exact False.elim hq | exact I.after hq
def ckBl : D → Bool
  | .bl _ => true
  | _ => false
theorem ow_bool {tab : List (Str × SemL)} (tk : Takes X W) (ht : OwnM X "__bool__" 2 tab) : CallW X W (.type "bool") (ownC1 ckBl tab) := ⟨fun pins s σ ρ H S ds xs us Q I rv w rd p => by
  unfold ownC1 at p
  split at p
  · rename_i d
    obtain ⟨x, ex, r⟩ := repL_one rd
    subst ex
    obtain ⟨u, hu', rx⟩ := Vals.get (i := 0) rv rfl
    have hus : us = [u] := by
      cases rv with
      | cons r1 r2 => cases r2; simp at hu'; rw [hu']
    subst hus
    have p := PostE.bindE p
    unfold own1 at p
    split at p
    · rename_i c ns vs ef
      split at p
      · rename_i g eg
        obtain ⟨a, C, dx, fs, ex, hm, ea, hn, rl⟩ := flds_rep w r ef
        obtain ⟨f, k, hM, F, hk⟩ := ht.at_ c g eg C hm
        subst ex
        obtain rfl : u = Value.ref a := rx
        obtain ⟨ox, od, J⟩ := inst_of I ea
        refine PySem.W.zy_bool (PySem.W.zy_tru I.kIn J hM.at_ hM.fn (wpAny_mono (run_fnR2 (us := [.ref a]) (vs := [.ref a]) F hk (passAt tk σ) I (.cons rfl .nil) ⟨ρ, S, [d], w, RepL.cons r RepL.nil, p⟩) (fun v' s' ⟨z, H', I', rz, ρ1, S1, dd, x1, w1, r1, _, p1⟩ => ?_) fun _ _ z => z))
        split at p1
        · rename_i ck
          cases dd with
          | bl b =>
            rw [rep_bl r1] at rz
            cases rz
            exact ⟨b, rfl, .bl b, H', I', rfl, p1 (.bl b) ρ1 H' Ext.refl w1 mk_bl⟩
          | _ => cases ck
        · exact p1.elim
      · exact p.elim
    · exact p.elim
  · exact p.elim⟩
theorem hw0 {A : Around} (h : A.units + 64 < cLine) : A.units < cLine := by omega
theorem hw1 {A : Around} (h : A.units + 64 < cLine) : A.units + 1 < cLine := by omega
theorem hw3 {A : Around} (h : A.units + 64 < cLine) : A.in1.units < cLine := by
  show A.units + 1 < cLine
  omega
end
end Z
/-! ZP: the plain calculus of the further combinators. -/
namespace Z
open PySem PySem.Spec L2

theorem char_inj {a b : Char} (h : a.toNat = b.toNat) : a = b := Char.ext (UInt32.toNat_inj.mp h)
@[simp] theorem ofString_inj {a b : String} : Str.ofString a = Str.ofString b ↔ a = b := by
  constructor
  · intro h
    rw [Str.ofString_eq_toList, Str.ofString_eq_toList] at h
    have h2 : a.toList.map Char.toNat = b.toList.map Char.toNat := by
      have := congrArg (fun s : Str => s.cps.toList) h
      simpa using this
    have h3 : a.toList = b.toList := List.map_inj_right (fun x y h => char_inj h) |>.mp h2
    exact String.toList_inj.mp h3
  · rintro rfl; rfl
theorem okS_lit (a : String) : okS (Str.ofString a).cps.toList := by
  rw [Str.ofString_eq_toList]
  intro c hc
  simp at hc
  obtain ⟨d, _, rfl⟩ := hc
  have := d.valid
  have h2 : d.toNat = d.val.toNat := rfl
  unfold UInt32.isValidChar Nat.isValidChar at this
  omega
theorem lit_tx (a : String) : Str.ofString a = tx (Str.ofString a).cps.toList := (tx_eta _).symm
@[simp] theorem plain_lit {k : Nat} {a : String} : Z.plain k (.str (Str.ofString a)) = True := by
  have := okS_lit a
  cases k <;> simp [Z.plain, this]
@[simp] theorem eqD_lit {neg : Bool} {a b : String} {S : Store} : eqD neg (.str (Str.ofString a)) (.str (Str.ofString b)) S = .ok (.bl (if neg = true then !decide (a = b) else decide (a = b))) S := by
  have e : (tx (Str.ofString a).cps.toList = tx (Str.ofString b).cps.toList) = (a = b) := by rw [← lit_tx, ← lit_tx]; simp
  have e2 : ((Str.ofString a).cps.toList = (Str.ofString b).cps.toList) = (a = b) := by rw [← e]; simp
  cases neg
  · rw [lit_tx a, lit_tx b, eqD_str (okS_lit a) (okS_lit b)]; simp [e2, ← Array.toList_inj]
  · rw [lit_tx a, lit_tx b, neD_str (okS_lit a) (okS_lit b)]; simp [e2, ← Array.toList_inj]
theorem ex_of_we {α : Type} {o : Out α} {e : D} {S : Store} (h : We o (fun _ _ => False) (fun d S' => d = e ∧ S' = S)) : o = .ex e S := by
  cases o with
  | ok a S' => rw [we_ok] at h; exact h.elim
  | ex e' S' => rw [we_ex] at h; obtain ⟨rfl, rfl⟩ := h; rfl
  | bad => rw [we_bad] at h; exact h.elim
section
variable {sl : Sl} {S : Store} {P : D → Store → Prop} {PB : Bool → Store → Prop} {X : D → Store → Prop} {Q : Q0} {f1 f2 : EX} {fa fk : AX} {fb fs : SX}
@[simp] theorem orS2_int {g : Sem2} {i j : Int} {d : D} {S' : Store} {f : Sem2} (h : f (.int i) (.int j) S = .ok d S') : orS2 f g (.int i) (.int j) S = .ok d S' := orS2_l h
@[simp] theorem w_eCallK {n m : Nat} {g : SemL} : We (eCallK n m g fa fk sl S) P X = We (fa sl S) (fun ds S1 => We (fk sl S1) (fun es S2 => (ds.length = n ∧ es.length = m) ∧ We (g (ds ++ es) S2) P X) X) X := by
  unfold eCallK
  rw [we_bind]; congr 1; funext ds S1
  rw [we_bind]; congr 1; funext es S2
  by_cases h : ds.length = n ∧ es.length = m
  · rw [if_pos h]; simp [h]
  · rw [if_neg h]; simp only [h, false_and, we_bad]
@[simp] theorem w_eMethK {m : Str} {n mm : Nat} {tab : List (Str × SemL)} : We (eMethK m n mm tab f1 fa fk sl S) P X = We (f1 sl S) (fun d S1 => isO (fldsOf S1 d) fun p => m ∉ p.2.1 ∧ isO (tabOf tab p.1) fun g => We (fa sl S1) (fun ds S2 => We (fk sl S2) (fun es S3 => (ds.length = n ∧ es.length = mm) ∧ We (g (d :: (ds ++ es)) S3) P X) X) X) X := by
  unfold eMethK
  rw [we_bind]; congr 1; funext d S1
  cases e : fldsOf S1 d with
  | none => simp
  | some p =>
    obtain ⟨c, ns, vs⟩ := p
    simp only [isO_some]
    by_cases h : m ∈ ns
    · simp [h]
    · rw [if_neg h]
      simp only [h, not_false_iff, true_and]
      cases e2 : tabOf tab c with
      | none => simp
      | some g =>
        simp only [isO_some]
        rw [we_bind]; congr 1; funext ds S2
        rw [we_bind]; congr 1; funext es S3
        by_cases h2 : ds.length = n ∧ es.length = mm
        · rw [if_pos h2]; simp [h2]
        · rw [if_neg h2]; simp only [h2, false_and, we_bad]
@[simp] theorem w_bTru {sem : SemB} : We (bTru sem f1 sl S) PB X = We (f1 sl S) (fun d S1 => We (sem d S1) PB X) X := by unfold bTru; rw [we_bind]
@[simp] theorem tru_bl {t : SemB} {b : Bool} : orSB truPl t (.bl b) S = .ok b S := (rfl)
@[simp] theorem tru_ins {t : SemB} {c : Str} {ns : List Str} {vs : List D} : orSB truPl t (.ins c ns vs) S = t (.ins c ns vs) S := (rfl)
theorem tru_ptr {t : SemB} {n : Nat} : orSB truPl t (.ptr n) S = t (.ptr n) S := (rfl)
@[simp] theorem own1_ins {tab : List (Str × SemL)} {c : Str} {ns : List Str} {vs : List D} : own1 tab (.ins c ns vs) S = match tabOf tab c with
    | some g => g [.ins c ns vs] S
    | none => .bad := (rfl)
@[simp] theorem tabOf_cons {c d : Str} {g : SemL} {tab : List (Str × SemL)} : tabOf ((c, g) :: tab) d = if d = c then some g else tabOf tab d := by
  unfold tabOf
  rw [List.lookup_cons]
  by_cases h : d = c
  · subst h; simp
  · rw [if_neg h, beq_eq_false_iff_ne.mpr h]
@[simp] theorem tabOf_nil {d : Str} : tabOf [] d = none := (rfl)
@[simp] theorem w_ownTru {tab : List (Str × SemL)} {d : D} : We (ownTru tab d S) PB X = We (own1 tab d S) (fun r S' => isB r fun b => PB b S') X := by
  unfold ownTru
  rw [we_bind]; congr 1; funext r S'
  cases r <;> simp [asB, isB]
/-! operators of own classes -/
@[simp] theorem w_ownOp_ins {tab : List (Str × SemL)} {c : Str} {ns : List Str} {vs : List D} {e : D} : We (ownOp tab (.ins c ns vs) e S) P X = isO (tabOf tab c) fun g => okRt S c e = true ∧ We (g [.ins c ns vs, e] S) P X := by
  unfold ownOp
  simp only [fldsOf_ins]
  cases h : tabOf tab c with
  | none => simp
  | some g =>
    simp only [isO_some]
    by_cases h2 : okRt S c e = true
    · rw [if_pos h2]; simp [h2]
    · rw [if_neg h2]; simp [h2]
@[simp] theorem okRt_ins {c c' : Str} {ns : List Str} {vs : List D} : okRt S c (.ins c' ns vs) = decide (c' = c) := (rfl)
@[simp] theorem okRt_int {c : Str} {i : Int} : okRt S c (.int i) = true := (rfl)
@[simp] theorem okRt_str {c : Str} {i : Str} : okRt S c (.str i) = true := (rfl)
@[simp] theorem okRt_non {c : Str} : okRt S c .non = true := (rfl)
@[simp] theorem okRt_bl {c : Str} {b : Bool} : okRt S c (.bl b) = true := (rfl)
@[simp] theorem okRt_tup {c : Str} {b : List D} : okRt S c (.tup b) = true := (rfl)
@[simp] theorem okRt_lst {c : Str} {b : List D} : okRt S c (.lst b) = true := (rfl)
@[simp] theorem addX_ins {c : Str} {ns : List Str} {vs : List D} {e : D} {g : Sem2} : orS2 addX g (.ins c ns vs) e S = g (.ins c ns vs) e S := orS2_r (by cases e <;> rfl)
@[simp] theorem subI_ins {c : Str} {ns : List Str} {vs : List D} {e : D} {g : Sem2} : orS2 subI g (.ins c ns vs) e S = g (.ins c ns vs) e S := orS2_r (by cases e <;> rfl)
@[simp] theorem mulX_ins {c : Str} {ns : List Str} {vs : List D} {e : D} {g : Sem2} : orS2 mulX g (.ins c ns vs) e S = g (.ins c ns vs) e S := orS2_r (by cases e <;> rfl)
@[simp] theorem negI_ins {c : Str} {ns : List Str} {vs : List D} {g : Sem1} : orS1 negI g (.ins c ns vs) S = g (.ins c ns vs) S := (rfl)
theorem own_none {tab : List (Str × SemL)} {d e : D} (h : fldsOf S d = none) : ownOp tab d e S = .bad := by unfold ownOp; rw [h]
theorem orS2_bad {f g : Sem2} {d e : D} (h : g d e S = .bad) : orS2 f g d e S = f d e S := by
  unfold orS2
  rw [h]
  cases f d e S <;> rfl
@[simp] theorem ownOp_int {f : Sem2} {tab : List (Str × SemL)} {i : Int} {e : D} : orS2 f (ownOp tab) (.int i) e S = f (.int i) e S := orS2_bad (own_none rfl)
@[simp] theorem ownOp_str {f : Sem2} {tab : List (Str × SemL)} {i : Str} {e : D} : orS2 f (ownOp tab) (.str i) e S = f (.str i) e S := orS2_bad (own_none rfl)
@[simp] theorem ownOp_lst {f : Sem2} {tab : List (Str × SemL)} {i : List D} {e : D} : orS2 f (ownOp tab) (.lst i) e S = f (.lst i) e S := orS2_bad (own_none rfl)
@[simp] theorem ownOp_tup {f : Sem2} {tab : List (Str × SemL)} {i : List D} {e : D} : orS2 f (ownOp tab) (.tup i) e S = f (.tup i) e S := orS2_bad (own_none rfl)
/-! == -/
@[simp] theorem w_ownEq_ins {neg : Bool} {oth : List Str} {tab : List (Str × SemL)} {c : Str} {ns : List Str} {vs : List D} {e : D} : We (ownEq neg oth tab (.ins c ns vs) e S) P X = isO (tabOf tab c) fun g => okRtE oth S e = true ∧ We (g [.ins c ns vs, e] S) (fun r S' => isB r fun b => P (.bl (if neg = true then !b else b)) S') X := by
  unfold ownEq
  simp only [fldsOf_ins]
  cases h : tabOf tab c with
  | none => simp
  | some g =>
    simp only [isO_some]
    by_cases h2 : okRtE oth S e = true
    · rw [if_pos h2, we_bind]
      simp only [h2, true_and]
      congr 1; funext r S'
      cases r <;> simp [isB]
    · rw [if_neg h2]; simp [h2]
theorem ownEq_none {neg : Bool} {oth : List Str} {tab : List (Str × SemL)} {d e : D} (h : fldsOf S d = none) : ownEq neg oth tab d e S = .bad := by unfold ownEq; rw [h]
@[simp] theorem ownEq_int {f : Sem2} {neg : Bool} {oth : List Str} {tab : List (Str × SemL)} {i : Int} {e : D} : orS2 f (ownEq neg oth tab) (.int i) e S = f (.int i) e S := orS2_bad (ownEq_none rfl)
@[simp] theorem ownEq_str {f : Sem2} {neg : Bool} {oth : List Str} {tab : List (Str × SemL)} {i : Str} {e : D} : orS2 f (ownEq neg oth tab) (.str i) e S = f (.str i) e S := orS2_bad (ownEq_none rfl)
@[simp] theorem ownEq_tup {f : Sem2} {neg : Bool} {oth : List Str} {tab : List (Str × SemL)} {i : List D} {e : D} : orS2 f (ownEq neg oth tab) (.tup i) e S = f (.tup i) e S := orS2_bad (ownEq_none rfl)
@[simp] theorem ownEq_lst {f : Sem2} {neg : Bool} {oth : List Str} {tab : List (Str × SemL)} {i : List D} {e : D} : orS2 f (ownEq neg oth tab) (.lst i) e S = f (.lst i) e S := orS2_bad (ownEq_none rfl)
@[simp] theorem ownEq_bl {f : Sem2} {neg : Bool} {oth : List Str} {tab : List (Str × SemL)} {i : Bool} {e : D} : orS2 f (ownEq neg oth tab) (.bl i) e S = f (.bl i) e S := orS2_bad (ownEq_none rfl)
@[simp] theorem ownEq_non {f : Sem2} {neg : Bool} {oth : List Str} {tab : List (Str × SemL)} {e : D} : orS2 f (ownEq neg oth tab) .non e S = f .non e S := orS2_bad (ownEq_none rfl)
@[simp] theorem eqD_ins {neg : Bool} {c : Str} {ns : List Str} {vs : List D} {e : D} {g : Sem2} : orS2 (eqD neg) g (.ins c ns vs) e S = g (.ins c ns vs) e S := orS2_r (by unfold eqD; simp [toP, toP0])
@[simp] theorem okRtE_ins {oth : List Str} {c' : Str} {ns : List Str} {vs : List D} : okRtE oth S (.ins c' ns vs) = decide (c' ∈ oth) := (rfl)
@[simp] theorem okRtE_int {oth : List Str} {i : Int} : okRtE oth S (.int i) = true := (rfl)
@[simp] theorem okRtE_str {oth : List Str} {i : Str} : okRtE oth S (.str i) = true := (rfl)
@[simp] theorem okRtE_non {oth : List Str} : okRtE oth S .non = true := (rfl)
@[simp] theorem okRtE_bl {oth : List Str} {i : Bool} : okRtE oth S (.bl i) = true := (rfl)
@[simp] theorem okRtE_tup {oth : List Str} {i : List D} : okRtE oth S (.tup i) = true := (rfl)
@[simp] theorem okRtE_lst {oth : List Str} {i : List D} : okRtE oth S (.lst i) = true := (rfl)
@[simp] theorem w_ownC1 {ck : D → Bool} {tab : List (Str × SemL)} {d : D} : We (ownC1 ck tab [d] S) P X = We (own1 tab d S) (fun r S' => ck r = true ∧ P r S') X := by
  unfold ownC1
  rw [we_bind]; congr 1; funext r S'
  by_cases h : ck r = true
  · simp [h]
  · simp [h]
@[simp] theorem ckStr_str {s : Str} : ckStr (.str s) = true := (rfl)
@[simp] theorem isiO_ins {tab : List (Str × List Str × List Str)} {c : Str} {ns : List Str} {vs : List D} {D' : Str} : isiO tab [.ins c ns vs, .cls D'] S = match tab.lookup D' with
    | some (yes, no) => if c ∈ yes then .ok (.bl true) S else if c ∈ no then .ok (.bl false) S else .bad
    | none => .bad := (rfl)
theorem isiO_kd {tab : List (Str × List Str × List Str)} {d : D} {D' : Str} (h : fldsOf S d = none) (hk : (kdOf S d).isSome = true) : isiO tab [d, .cls D'] S = match tab.lookup D' with
    | some _ => .ok (.bl false) S
    | none => .bad := by
  unfold isiO
  simp only
  cases e : tab.lookup D' with
  | none => simp
  | some p =>
    obtain ⟨yes, no⟩ := p
    simp only [h, if_pos hk]
/-! f-strings, unpacking -/
@[simp] theorem fmt_str {l : List Nat} : We (semFmt (.str (tx l)) S) P X = (l.length ≤ 1000000 ∧ P (.str (tx l)) S) := by
  unfold semFmt
  simp only [tx_len]
  by_cases h : l.length ≤ 1000000
  · simp [h]
  · simp [h]
@[simp] theorem fmt_int {i : Int} : We (semFmt (.int i) S) P X = (i.natAbs.log2 < 1920 ∧ P (.str (toString i)) S) := by
  unfold semFmt
  by_cases h : i.natAbs.log2 < 1920
  · simp [h]
  · simp [h]
@[simp] theorem w_sPar3 {i j l : Nat} {f3 : EX} : Wo (sPar3 i j l (aCons f1 (aCons f2 (aCons f3 aNil))) sl S) Q = We (f1 sl S) (fun d S1 => We (f2 sl S1) (fun e S2 => We (f3 sl S2) (fun g S3 => Q.nx (((sl.set i (some d)).set j (some e)).set l (some g)) S3) (fun e S' => Q.ex e sl S')) (fun e S' => Q.ex e sl S')) (fun e S' => Q.ex e sl S') := by
  unfold sPar3
  rw [wo_toS]
  simp
@[simp] theorem w_gLst {gs : GXs} {ds : List D} : Wo (gLstX gs (.lst ds) sl S) Q = Wo (gs ds sl S) Q := by unfold gLstX; rfl
/-! exceptions -/
def isX (d : D) (k : Str → List Str → List D → Prop) : Prop := match d with
  | .exc c ns ds => k c ns ds
  | _ => False
@[simp] theorem isX_exc {c : Str} {ns : List Str} {ds : List D} {k : Str → List Str → List D → Prop} : isX (.exc c ns ds) k = k c ns ds := (rfl)
@[simp] theorem w_sRaise {f : EX} : Wo (sRaise f sl S) Q = We (f sl S) (fun d S' => isX d fun c ns ds => Q.ex (.ins c ns ds) sl S') (fun e S' => Q.ex e sl S') := by
  unfold sRaise
  cases o : f sl S with
  | ok d S1 => cases d <;> simp [isX]
  | ex e S1 => simp
  | bad => simp
@[simp] theorem w_excS {c tag : Str} {flds : List Str} {ds : List D} : We (excS c tag flds ds S) P X = (ds.length = flds.length ∧ P (.exc c (flds.reverse ++ [("tag" : Str)]) (ds.reverse ++ [D.str tag])) S) := by
  unfold excS
  by_cases h : ds.length = flds.length
  · simp [h]
  · simp [h]
@[simp] theorem suiteQ_rt {i : Nat} : (suiteQ i Q).rt = Q.rt := (rfl)
@[simp] theorem suiteQ_nx {i : Nat} : (suiteQ i Q).nx sl S = Q.nx (sl.set i none) S := (rfl)
@[simp] theorem suiteQ_bk {i : Nat} : (suiteQ i Q).bk sl S = Q.bk (sl.set i none) S := (rfl)
@[simp] theorem suiteQ_ct {i : Nat} : (suiteQ i Q).ct sl S = Q.ct (sl.set i none) S := (rfl)
@[simp] theorem suiteQ_ex {i : Nat} {e : D} : (suiteQ i Q).ex e sl S = False := (rfl)
@[simp] theorem w_sTry {tab : List (Str × Bool)} {i : Nat} : Wo (sTry tab i fb fs sl S) Q = Wo (fb sl S) { Q with ex := catchQ tab i fs Q } := by
  unfold sTry
  cases o : fb sl S with
  | nx sl1 S1 => simp
  | bk sl1 S1 => simp
  | ct sl1 S1 => simp
  | rt d S1 => simp
  | bad => simp
  | ex e sl1 S1 =>
    simp only [wo_ex]
    cases e with
    | ins c ns ds =>
      unfold catchQ
      dsimp only
      cases q : tab.lookup c with
      | none => simp
      | some b =>
        cases b with
        | false => simp
        | true =>
          dsimp only
          cases o2 : fs (sl1.set i (some (.exc c ns ds))) S1 <;> simp [suiteQ]
    | _ => simp [catchQ]
@[simp] theorem w_eXat {f : Str} {cs : List Str} : We (eXat f cs f1 sl S) P X = We (f1 sl S) (fun d S1 => isX d fun c ns vs => c ∈ cs ∧ isO (lookN f ns vs) fun v => P v S1) X := by
  unfold eXat
  rw [we_bind]; congr 1; funext d S1
  cases d with
  | exc c ns vs =>
    simp only [isX_exc]
    by_cases h : c ∈ cs
    · simp only [if_pos h, h, true_and]
      cases lookN f ns vs <;> simp
    · simp [h]
  | _ => simp [isX]
@[simp] theorem w_eBad : We (eBad sl S) P X = False := by unfold eBad; simp
/-! lambdas -/
theorem convL_c {cn N : List Str} {κ : List (Str × Addr)} {d a : D} {ds b : List D} (h : conv cn N κ sl d = some a) (h2 : convL cn N κ sl ds = some b) : convL cn N κ sl (d :: ds) = some (a :: b) := by rw [convL, h, h2]
theorem convL_n {cn N : List Str} {κ : List (Str × Addr)} : convL cn N κ sl [] = some [] := by rw [convL]
theorem conv_lst {cn N : List Str} {κ : List (Str × Addr)} {ds b : List D} (h : convL cn N κ sl ds = some b) : conv cn N κ sl (.lst ds) = some (.lst b) := by rw [conv, h]; rfl
theorem conv_tup {cn N : List Str} {κ : List (Str × Addr)} {ds b : List D} (h : convL cn N κ sl ds = some b) : conv cn N κ sl (.tup ds) = some (.tup b) := by rw [conv, h]; rfl
@[simp] theorem w_callL {cn N : List Str} {κ : List (Str × Addr)} {g : SemL} : We (callL cn N κ g fa sl S) P X = We (fa sl S) (fun ds S1 => isO (convL cn N κ sl ds) fun ds' => We (g ds' S1) (fun d S2 => (noLc d = true ∧ noLcS S2 = true) ∧ P d S2) (fun _ _ => False)) X := by
  unfold callL
  rw [we_bind]; congr 1; funext ds S1
  cases e : convL cn N κ sl ds with
  | none => simp
  | some ds' =>
    simp only [isO_some]
    cases g ds' S1 with
    | ok d S2 =>
      simp only [we_ok]
      by_cases h : noLc d = true ∧ noLcS S2 = true
      · rw [if_pos h]; simp [h]
      · rw [if_neg h]; simp only [we_bad, h, false_and]
    | ex e S2 => simp
    | bad => simp
@[simp] theorem w_eLam {ti : Nat} {Pa : Addr} {κ : List (Str × Addr)} {T : LamText} : We (eLam ti Pa κ T sl S) P X = (S[ti]? = some (.tab Pa T.qual) ∧ P (.lam T (cloFrom κ T.scope.names [])) S) := by
  unfold eLam
  apply propext
  constructor
  · intro h
    split at h
    · rename_i P' q e
      split at h
      · rename_i hq
        obtain ⟨rfl, rfl⟩ := hq
        rw [we_ok] at h
        exact ⟨e, h⟩
      · rw [we_bad] at h; exact h.elim
    · rw [we_bad] at h; exact h.elim
  · intro ⟨e, h⟩
    rw [e]
    dsimp only
    rw [if_pos ⟨rfl, rfl⟩, we_ok]
    exact h
theorem w_callLc {L : LamText → Option SemL} {i : Nat} {T : LamText} {caps : List D} {l : SemL} (h1 : sl[i]? = some (some (.lamc T caps))) (h2 : L T = some l) (h3 : noLcS S = true) (h4 : noLcL caps = true) : We (callLc L i sl S) P X = We (l caps S) P X := by
  unfold callLc
  rw [h1]
  dsimp only
  rw [h2]
  dsimp only
  rw [if_pos ⟨h3, h4⟩]
theorem we_lamF {dds : List D} {fl : EX} {caps : List D} : We (lamF dds fl caps S) P X = We (fl ((caps ++ dds).map some) S) (FinP S P) (FinP S X) := we_fin
theorem conv_lam {cn N : List Str} {κ : List (Str × Addr)} {T : LamText} {caps : List D} (h1 : T.names.Nodup) (h2 : ∀ n ∈ T.names, n ∈ cn ∧ T.scope.names.lookup n = some .free) (h3 : capsOf N sl T.names = some caps) : conv cn N κ sl (.lam T (cloFrom κ T.scope.names [])) = some (.lamc T caps) := by
  rw [conv, if_pos ⟨rfl, h1, h2⟩, h3]
  rfl
@[simp] theorem w_defsS {n : Nat} {dds ds : List D} {g : SemL} (h : ds.length = n) : defsS n dds g ds S = g ds S := if_pos h
theorem defsS_less {n : Nat} {dds ds : List D} {g : SemL} (h : ds.length ≠ n) (h2 : ds.length + dds.length = n) : defsS n dds g ds S = g (ds ++ dds) S := by unfold defsS; rw [if_neg h, if_pos h2]
theorem kwS_eq {n m N : Nat} {ix : List Nat} {dds ds : List D} {g : SemL} (h : ds.length = n + m ∧ (pickL ix (ds ++ dds)).length = N) : kwS n m N ix dds g ds S = g (pickL ix (ds ++ dds)) S := if_pos h
end
end Z
/-! ZR: ratios: the mirrors of the program's and of the laws' fractions, and what they compute. -/
namespace Z
open PySem PySem.Spec L2

/-- common_divisor -/
noncomputable def m_common_divisor : SX :=
  (sSeq (sPar 0 1 (aCons (eArgs semAbs (aCons (eName 0) aNil)) (aCons (eArgs semAbs (aCons (eName 1) aNil)) aNil)))
  (sSeq (sWhile (bVal (eBin gtI (eName 1) (eLit (.int 0))))
  (sPar 0 1 (aCons (eName 1) (aCons (eBin modI (eName 0) (eName 1)) aNil))))
  (sRet (eName 0))))
noncomputable def f_common_divisor : SemL := arity 2 (defS 2 m_common_divisor)
/-- is_whole -/
noncomputable def m_is_whole : SX :=
  (sRet (eAnd (eArgs isiX (aCons (eName 0) (aCons (eLit (.ty "int")) aNil))) (eNot (eArgs isiX (aCons (eName 0) (aCons (eLit (.ty "bool")) aNil))))))
noncomputable def f_is_whole : SemL := arity 1 (defS 1 m_is_whole)
/-- Ratio.__init__ -/
noncomputable def m_Ratio___init__ : SX :=
  (sSeq (sIf (bNot (bVal (eArgs f_is_whole (aCons (eName 1) aNil))))
  (sRaise (eArgs (excS "InvalidRatio" "InvalidRatio" ["value"]) (aCons (eName 1) aNil)))
  sNil)
  (sSeq (sIf (bOr (bNot (bVal (eArgs f_is_whole (aCons (eName 2) aNil)))) (bVal (eBin (eqD false) (eName 2) (eLit (.int 0)))))
  (sRaise (eArgs (excS "InvalidRatio" "InvalidRatio" ["value"]) (aCons (eName 2) aNil)))
  sNil)
  (sSeq (sAsg (eArgs f_common_divisor (aCons (eName 1) (aCons (eName 2) aNil))) (gSet 3))
  (sSeq (sFldZ ["Ratio"] "own_top" (eIf (bVal (eBin gtI (eName 2) (eLit (.int 0)))) (eBin divI (eName 1) (eName 3)) (eBin divI (eUn negI (eName 1)) (eName 3))) (eName 0))
  (sFldZ ["Ratio"] "own_bottom" (eBin divI (eArgs semAbs (aCons (eName 2) aNil)) (eName 3)) (eName 0))))))
noncomputable def f_Ratio___init__ : SemL := defsS 3 [(.int 1)] (defS 4 m_Ratio___init__)
/-- ratio_of -/
noncomputable def m_ratio_of : SX :=
  (sSeq (sIf (bVal (eArgs (isiO [("Ratio", ["Ratio"], [])]) (aCons (eName 0) (aCons (eLit (.cls "Ratio")) aNil))))
  (sRet (eName 0))
  sNil)
  (sRet (eFin (eArgs (makeS "Ratio" f_Ratio___init__) (aCons (eName 0) aNil)))))
noncomputable def f_ratio_of : SemL := arity 1 (defS 1 m_ratio_of)
/-- Ratio.__add__ -/
noncomputable def m_Ratio___add__ : SX :=
  (sSeq (sAsg (eArgs f_ratio_of (aCons (eName 1) aNil)) (gSet 2))
  (sRet (eFin (eArgs (makeS "Ratio" f_Ratio___init__) (aCons (eBin addX (eBin mulX (eAttrZ "own_top" [("Ratio", .fld)] (eName 0)) (eAttrZ "own_bottom" [("Ratio", .fld)] (eName 2))) (eBin mulX (eAttrZ "own_top" [("Ratio", .fld)] (eName 2)) (eAttrZ "own_bottom" [("Ratio", .fld)] (eName 0)))) (aCons (eBin mulX (eAttrZ "own_bottom" [("Ratio", .fld)] (eName 0)) (eAttrZ "own_bottom" [("Ratio", .fld)] (eName 2))) aNil))))))
noncomputable def f_Ratio___add__ : SemL := arity 2 (defS 3 m_Ratio___add__)
/-- Ratio.__mul__ -/
noncomputable def m_Ratio___mul__ : SX :=
  (sSeq (sAsg (eArgs f_ratio_of (aCons (eName 1) aNil)) (gSet 2))
  (sRet (eFin (eArgs (makeS "Ratio" f_Ratio___init__) (aCons (eBin mulX (eAttrZ "own_top" [("Ratio", .fld)] (eName 0)) (eAttrZ "own_top" [("Ratio", .fld)] (eName 2))) (aCons (eBin mulX (eAttrZ "own_bottom" [("Ratio", .fld)] (eName 0)) (eAttrZ "own_bottom" [("Ratio", .fld)] (eName 2))) aNil))))))
noncomputable def f_Ratio___mul__ : SemL := arity 2 (defS 3 m_Ratio___mul__)
/-- Ratio.__neg__ -/
noncomputable def m_Ratio___neg__ : SX :=
  (sRet (eFin (eArgs (makeS "Ratio" f_Ratio___init__) (aCons (eUn negI (eAttrZ "own_top" [("Ratio", .fld)] (eName 0))) (aCons (eAttrZ "own_bottom" [("Ratio", .fld)] (eName 0)) aNil)))))
noncomputable def f_Ratio___neg__ : SemL := arity 1 (defS 1 m_Ratio___neg__)
/-- Ratio.__sub__ -/
noncomputable def m_Ratio___sub__ : SX :=
  (sSeq (sAsg (eArgs f_ratio_of (aCons (eName 1) aNil)) (gSet 2))
  (sRet (eFin (eArgs (makeS "Ratio" f_Ratio___init__) (aCons (eBin subI (eBin mulX (eAttrZ "own_top" [("Ratio", .fld)] (eName 0)) (eAttrZ "own_bottom" [("Ratio", .fld)] (eName 2))) (eBin mulX (eAttrZ "own_top" [("Ratio", .fld)] (eName 2)) (eAttrZ "own_bottom" [("Ratio", .fld)] (eName 0)))) (aCons (eBin mulX (eAttrZ "own_bottom" [("Ratio", .fld)] (eName 0)) (eAttrZ "own_bottom" [("Ratio", .fld)] (eName 2))) aNil))))))
noncomputable def f_Ratio___sub__ : SemL := arity 2 (defS 3 m_Ratio___sub__)
/-- Ratio.is_below -/
noncomputable def m_Ratio_is_below : SX :=
  (sSeq (sAsg (eArgs f_ratio_of (aCons (eName 1) aNil)) (gSet 2))
  (sRet (eBin ltX (eBin mulX (eAttrZ "own_top" [("Ratio", .fld)] (eName 0)) (eAttrZ "own_bottom" [("Ratio", .fld)] (eName 2))) (eBin mulX (eAttrZ "own_top" [("Ratio", .fld)] (eName 2)) (eAttrZ "own_bottom" [("Ratio", .fld)] (eName 0))))))
noncomputable def f_Ratio_is_below : SemL := arity 2 (defS 3 m_Ratio_is_below)
noncomputable def fk_Ratio_is_below_0 : SemL := kwS 1 1 2 [0, 1] [] (defS 3 m_Ratio_is_below)
/-- _law_gcd -/
noncomputable def m__law_gcd : SX :=
  (sSeq (sPar 2 3 (aCons (eArgs semAbs (aCons (eName 0) aNil)) (aCons (eArgs semAbs (aCons (eName 1) aNil)) aNil)))
  (sSeq (sWhile (bVal (eBin gtI (eName 3) (eLit (.int 0))))
  (sPar 2 3 (aCons (eName 3) (aCons (eBin modI (eArgs semInt (aCons (eName 2) aNil)) (eName 3)) aNil))))
  (sRet (eName 2))))
noncomputable def f__law_gcd : SemL := arity 2 (defS 4 m__law_gcd)
/-- _law_frac -/
noncomputable def m__law_frac : SX :=
  (sSeq (sAsg (eArgs f__law_gcd (aCons (eName 0) (aCons (eName 1) aNil))) (gSet 2))
  (sRet (eIf (bVal (eBin gtI (eName 1) (eLit (.int 0)))) (eArgs semTup (aCons (eBin divI (eName 0) (eName 2)) (aCons (eBin divI (eName 1) (eName 2)) aNil))) (eArgs semTup (aCons (eBin subI (eLit (.int 0)) (eBin divI (eName 0) (eName 2))) (aCons (eBin subI (eLit (.int 0)) (eBin divI (eName 1) (eName 2))) aNil))))))
noncomputable def f__law_frac : SemL := arity 2 (defS 3 m__law_frac)
/-- Ratio.bottom -/
noncomputable def m_Ratio_bottom : SX :=
  (sRet (eAttrZ "own_bottom" [("Ratio", .fld)] (eName 0)))
noncomputable def f_Ratio_bottom : SemL := arity 1 (defS 1 m_Ratio_bottom)
/-- Ratio.top -/
noncomputable def m_Ratio_top : SX :=
  (sRet (eAttrZ "own_top" [("Ratio", .fld)] (eName 0)))
noncomputable def f_Ratio_top : SemL := arity 1 (defS 1 m_Ratio_top)
/-- _law_pair -/
noncomputable def m__law_pair : SX :=
  (sRet (eIf (bVal (eArgs (isiO [("Ratio", ["Ratio"], [])]) (aCons (eName 0) (aCons (eLit (.cls "Ratio")) aNil)))) (eArgs semTup (aCons (eAttrZ "top" [("Ratio", .prop f_Ratio_top)] (eName 0)) (aCons (eAttrZ "bottom" [("Ratio", .prop f_Ratio_bottom)] (eName 0)) aNil))) (eLit .non)))
noncomputable def f__law_pair : SemL := arity 1 (defS 1 m__law_pair)
/-- _law_plus -/
noncomputable def m__law_plus : SX :=
  (sRet (eArgs f__law_frac (aCons (eBin addX (eBin mulX (eBin ixX (eName 0) (eLit (.int 0))) (eBin ixX (eName 1) (eLit (.int 1)))) (eBin mulX (eBin ixX (eName 1) (eLit (.int 0))) (eBin ixX (eName 0) (eLit (.int 1))))) (aCons (eBin mulX (eBin ixX (eName 0) (eLit (.int 1))) (eBin ixX (eName 1) (eLit (.int 1)))) aNil))))
noncomputable def f__law_plus : SemL := arity 2 (defS 2 m__law_plus)
/-- Ratio.__eq__ -/
noncomputable def m_Ratio___eq__ : SX :=
  (sRet (eAnd (eArgs (isiO [("Ratio", ["Ratio"], [])]) (aCons (eName 1) (aCons (eLit (.cls "Ratio")) aNil))) (eAnd (eBin (eqD false) (eAttrZ "own_top" [("Ratio", .fld)] (eName 0)) (eAttrZ "own_top" [("Ratio", .fld)] (eName 1))) (eBin (eqD false) (eAttrZ "own_bottom" [("Ratio", .fld)] (eName 0)) (eAttrZ "own_bottom" [("Ratio", .fld)] (eName 1))))))
noncomputable def f_Ratio___eq__ : SemL := arity 2 (defS 2 m_Ratio___eq__)
/-- Ratio.__bool__ -/
noncomputable def m_Ratio___bool__ : SX :=
  (sRet (eArgs semBool (aCons (eAttrZ "own_top" [("Ratio", .fld)] (eName 0)) aNil)))
noncomputable def f_Ratio___bool__ : SemL := arity 1 (defS 1 m_Ratio___bool__)
/-- Ratio.over -/
noncomputable def m_Ratio_over : SX :=
  (sSeq (sAsg (eArgs f_ratio_of (aCons (eName 1) aNil)) (gSet 2))
  (sSeq (sIf (bNot (bTru (orSB truPl (ownTru [("Ratio", f_Ratio___bool__)])) (eName 2)))
  (sRaise (eArgs (excS "InvalidRatio" "InvalidRatio" ["value"]) (aCons (eName 1) aNil)))
  sNil)
  (sRet (eFin (eArgs (makeS "Ratio" f_Ratio___init__) (aCons (eBin mulX (eAttrZ "own_top" [("Ratio", .fld)] (eName 0)) (eAttrZ "own_bottom" [("Ratio", .fld)] (eName 2))) (aCons (eBin mulX (eAttrZ "own_bottom" [("Ratio", .fld)] (eName 0)) (eAttrZ "own_top" [("Ratio", .fld)] (eName 2))) aNil)))))))
noncomputable def f_Ratio_over : SemL := arity 2 (defS 3 m_Ratio_over)
noncomputable def fk_Ratio_over_0 : SemL := kwS 1 1 2 [0, 1] [] (defS 3 m_Ratio_over)
/-- total -/
noncomputable def m_total : SX :=
  (sSeq (sAsg (eFin (eArgs (makeS "Ratio" f_Ratio___init__) (aCons (eLit (.int 0)) aNil))) (gSet 1))
  (sSeq (sFor (itAny (eName 0)) (gSet 2)
  (sAsg (eFin (eBin (orS2 addX (ownOp [("Ratio", f_Ratio___add__)])) (eName 1) (eName 2))) (gSet 1)))
  (sRet (eName 1))))
noncomputable def f_total : SemL := starS 0 (defS 3 m_total)
/-- _law_ratio -/
noncomputable def m__law_ratio : SX :=
  (sRet (eFin (eArgs (makeS "Ratio" f_Ratio___init__) (aCons (eBin ixX (eName 0) (eLit (.int 0))) (aCons (eBin ixX (eName 0) (eLit (.int 1))) aNil)))))
noncomputable def f__law_ratio : SemL := arity 1 (defS 1 m__law_ratio)
/-- _law_times -/
noncomputable def m__law_times : SX :=
  (sRet (eArgs f__law_frac (aCons (eBin mulX (eBin ixX (eName 0) (eLit (.int 0))) (eBin ixX (eName 1) (eLit (.int 0)))) (aCons (eBin mulX (eBin ixX (eName 0) (eLit (.int 1))) (eBin ixX (eName 1) (eLit (.int 1)))) aNil))))
noncomputable def f__law_times : SemL := arity 2 (defS 2 m__law_times)
theorem finP_eq {S : Store} {P : D → Store → Prop} {d : D} (h : under S.length d = true) : FinP S P d S = P d S := propext ⟨fun ⟨_, d', e, p⟩ => by
    rw [frz_of h] at e; cases e; simpa using p, fun p => finP_same h p⟩
/-! ### sizes -/
def Bd (n : Nat) (x : Int) : Prop := x.natAbs < 2 ^ n
theorem Bd.mono {n m : Nat} {x : Int} (h : Bd n x) (hl : n ≤ m) : Bd m x := Nat.lt_of_lt_of_le h (Nat.pow_le_pow_right (by decide) hl)
theorem Bd.log {n : Nat} {x : Int} (h : Bd n x) (hn : 0 < n) : x.natAbs.log2 < n := by
  by_cases h0 : x.natAbs = 0
  · rw [h0]; simpa using hn
  · exact (Nat.log2_lt h0).mpr h
theorem Bd.mul {n m : Nat} {x y : Int} (h : Bd n x) (h2 : Bd m y) : Bd (n + m) (x * y) := by
  unfold Bd at *
  rw [Int.natAbs_mul, Nat.pow_add]
  by_cases q : y.natAbs = 0
  · rw [q, Nat.mul_zero]; exact Nat.mul_pos (Nat.pow_pos (by decide)) (Nat.pow_pos (by decide))
  · exact Nat.mul_lt_mul_of_lt_of_le h (Nat.le_of_lt h2) (Nat.pow_pos (by decide))
theorem Bd.add {n m : Nat} {x y : Int} (h : Bd n x) (h2 : Bd m y) : Bd (n + m + 1) (x + y) := by
  have a := h.mono (Nat.le_add_right n m)
  have b := h2.mono (Nat.le_add_left m n)
  unfold Bd at *
  rw [Nat.pow_succ]
  omega
theorem Bd.neg {n : Nat} {x : Int} (h : Bd n x) : Bd n (-x) := by unfold Bd at *; omega
theorem Bd.sub {n m : Nat} {x y : Int} (h : Bd n x) (h2 : Bd m y) : Bd (n + m + 1) (x - y) := by
  rw [Int.sub_eq_add_neg]; exact h.add h2.neg
theorem Bd.of_le {n : Nat} {x y : Int} (h : Bd n x) (h2 : y.natAbs ≤ x.natAbs) : Bd n y := Nat.lt_of_le_of_lt h2 h
theorem mulB_of {n m : Nat} {x y : Int} (S : Store) (h : Bd n x) (h2 : Bd m y) (hn : 0 < n) (hm : 0 < m) (hl : n + m ≤ 1000000) : mulX (.int x) (.int y) S = .ok (.int (x * y)) S := by
  have := h.log hn
  have := h2.log hm
  exact mulX_int (by omega) S
/-! ### Euclid -/
theorem euclid_step {a b k : Nat} (hb : 0 < b) (hab : b ≤ a) (h : a * b < 2 ^ k) : ∃ j, j < k ∧ b * (a % b) < 2 ^ j := by
  have hk : 0 < k := by
    rcases Nat.eq_zero_or_pos k with rfl | h'
    · have : 0 < a * b := Nat.mul_pos (by omega) hb
      simp at h; omega
    · exact h'
  refine ⟨k - 1, by omega, ?_⟩
  have h1 : 2 * (a % b) ≤ a := by
    have h2 := Nat.mod_lt a hb
    have h3 : a % b + b ≤ a := by
      have := Nat.div_add_mod a b
      have h5 : 0 < a / b := Nat.div_pos hab hb
      have h6 : b * 1 ≤ b * (a / b) := Nat.mul_le_mul_left b h5
      omega
    omega
  have h2 : 2 * (b * (a % b)) ≤ a * b := by
    calc 2 * (b * (a % b)) = (2 * (a % b)) * b := by rw [← Nat.mul_assoc, Nat.mul_comm 2 b, Nat.mul_assoc, Nat.mul_comm]
    _ ≤ a * b := Nat.mul_le_mul_right b h1
  have h3 : 2 ^ k = 2 * 2 ^ (k - 1) := by
    conv => lhs; rw [show k = (k - 1) + 1 by omega]
    rw [Nat.pow_succ, Nat.mul_comm]
  omega
/-- the pair, k steps before the end -/
def EuI (g : Nat) (k : Nat) (a b : Int) : Prop := ∃ m n : Nat, a = m ∧ b = n ∧ Nat.gcd m n = g ∧ ((n ≤ m ∧ m * n < 2 ^ k) ∨ (1 ≤ k ∧ m < n ∧ m * n < 2 ^ (k - 1)))
theorem EuI.step {g k : Nat} {a b : Int} (h : EuI g k a b) (hb : 0 < b) : ∃ j, j < k ∧ EuI g j b (a % b) := by
  obtain ⟨m, n, rfl, rfl, hg, h⟩ := h
  have hn : 0 < n := by omega
  have e : ((m : Int) % (n : Int)) = ((m % n : Nat) : Int) := by simp
  have hg' : Nat.gcd n (m % n) = g := by rw [← hg, Nat.gcd_comm m n, Nat.gcd_rec n m, Nat.gcd_comm]
  rcases h with ⟨h1, h2⟩ | ⟨h0, h1, h2⟩
  · obtain ⟨j, hj, h3⟩ := euclid_step hn h1 h2
    exact ⟨j, hj, n, m % n, rfl, e, hg', .inl ⟨Nat.le_of_lt (Nat.mod_lt _ hn), h3⟩⟩
  · refine ⟨k - 1, by omega, n, m % n, rfl, e, hg', .inl ⟨Nat.le_of_lt (Nat.mod_lt _ hn), ?_⟩⟩
    rw [Nat.mod_eq_of_lt h1, Nat.mul_comm]; exact h2
theorem EuI.start {n m : Nat} {p q : Int} (h : Bd n p) (h2 : Bd m q) : EuI (Int.gcd p q) (n + m + 1) (if p < 0 then -p else p) (if q < 0 then -q else q) := by
  have e : ∀ x : Int, (if x < 0 then -x else x) = (x.natAbs : Int) := fun x => by split <;> omega
  refine ⟨p.natAbs, q.natAbs, e p, e q, rfl, ?_⟩
  have h3 : p.natAbs * q.natAbs < 2 ^ (n + m) := by have := h.mul h2; unfold Bd at this; rwa [Int.natAbs_mul] at this
  by_cases q' : q.natAbs ≤ p.natAbs
  · exact .inl ⟨q', Nat.lt_of_lt_of_le h3 (Nat.pow_le_pow_right (by decide) (by omega))⟩
  · exact .inr ⟨by omega, by omega, by simpa using h3⟩
theorem EuI.nn {g k : Nat} {a b : Int} (h : EuI g k a b) : 0 ≤ b := by
  obtain ⟨m, n, rfl, rfl, _⟩ := h; omega
theorem EuI.last {g k : Nat} {a b : Int} (h : EuI g k a b) (hb : ¬ 0 < b) : a = g := by
  obtain ⟨m, n, rfl, rfl, hg, _⟩ := h
  have : n = 0 := by omega
  subst this
  rw [← hg]; simp
theorem cd_eq {p q : Int} {n m : Nat} (hp : Bd n p) (hq : Bd m q) (hl : n + m < 900000) (S : Store) : f_common_divisor [.int p, .int q] S = .ok (.int (Int.gcd p q)) S := by
  refine eq_of_we ?_
  unfold f_common_divisor
  refine we_def rfl ?_
  simp [m_common_divisor, semAbs]
  refine wo_whileK (n + m + 1) (fun k sl S1 => S1 = S ∧ ∃ a b, sl = [some (.int a), some (.int b)] ∧ EuI (Int.gcd p q) k a b) ⟨rfl, _, _, rfl, EuI.start hp hq⟩ (by omega) ?_
  rintro k sl S1 ⟨rfl, a, b, rfl, h⟩
  by_cases hb : 0 < b
  · simp [hb, modI_int hb]
    obtain ⟨j, h1, h2⟩ := h.step hb
    exact ⟨j, h1, _, _, ⟨rfl, rfl⟩, h2⟩
  · simp [hb]
    exact h.last hb
theorem lgcd_eq {p q : Int} {n m : Nat} (hp : Bd n p) (hq : Bd m q) (hl : n + m < 900000) (S : Store) : f__law_gcd [.int p, .int q] S = .ok (.int (Int.gcd p q)) S := by
  refine eq_of_we ?_
  unfold f__law_gcd
  refine we_def rfl ?_
  simp [m__law_gcd, semAbs]
  refine wo_whileK (n + m + 1) (fun k sl S1 => S1 = S ∧ ∃ a b, sl = [some (.int p), some (.int q), some (.int a), some (.int b)] ∧ EuI (Int.gcd p q) k a b) ⟨rfl, _, _, rfl, EuI.start hp hq⟩ (by omega) ?_
  rintro k sl S1 ⟨rfl, a, b, rfl, h⟩
  by_cases hb : 0 < b
  · simp [hb, modI_int hb, semInt]
    obtain ⟨j, h1, h2⟩ := h.step hb
    exact ⟨j, h1, _, _, ⟨rfl, rfl⟩, h2⟩
  · simp [hb]
    exact h.last hb
/-! ### lowest terms -/
def num (p q : Int) : Int := if 0 < q then p / (Int.gcd p q : Int) else (-p) / (Int.gcd p q : Int)
def den (p q : Int) : Int := (q.natAbs : Int) / (Int.gcd p q : Int)
theorem gcd_pos {p q : Int} (hq : q ≠ 0) : 0 < (Int.gcd p q : Int) := by
  have := Int.gcd_pos_of_ne_zero_right p hq
  omega
theorem den_pos {p q : Int} (hq : q ≠ 0) : 0 < den p q := by
  unfold den
  have h := gcd_pos (p := p) hq
  refine Int.ediv_pos_of_pos_of_dvd (by omega) (by omega) ?_
  have := Int.gcd_dvd_right p q
  exact Int.dvd_natAbs.mpr this
theorem natAbs_ediv_le' {x : Int} {g : Int} (hg : 0 < g) (hd : g ∣ x) : (x / g).natAbs ≤ x.natAbs := by
  obtain ⟨k, rfl⟩ := hd
  rw [Int.mul_ediv_cancel_left _ (by omega), Int.natAbs_mul]
  exact Nat.le_mul_of_pos_left _ (by omega)
theorem Bd.num {n : Nat} {p q : Int} (h : Bd n p) (hq : q ≠ 0) : Bd n (Z.num p q) := by
  unfold Z.num
  have hg := gcd_pos (p := p) hq
  have hd : (Int.gcd p q : Int) ∣ p := Int.gcd_dvd_left p q
  split
  · exact h.of_le (natAbs_ediv_le' hg hd)
  · exact h.neg.of_le (natAbs_ediv_le' hg (Int.dvd_neg.mpr hd))
theorem Bd.den {n : Nat} {p q : Int} (h : Bd n q) (hq : q ≠ 0) : Bd n (Z.den p q) := by
  unfold Z.den
  have hg := gcd_pos (p := p) hq
  refine Bd.of_le (x := q) h ?_
  refine Nat.le_trans (natAbs_ediv_le' hg ?_) (by simp)
  exact Int.dvd_natAbs.mpr (Int.gcd_dvd_right p q)
theorem gcd_bd {n : Nat} {p q : Int} (h : Bd n q) (hq : q ≠ 0) : Bd n (Int.gcd p q : Int) := by
  refine h.of_le ?_
  have := Nat.le_of_dvd (by omega) (Int.gcd_dvd_natAbs_right p q)
  simpa using this
def fracD (p q : Int) : D := .tup [.int (num p q), .int (den p q)]
theorem frac_eq {p q : Int} {n m : Nat} (hp : Bd n p) (hq : Bd m q) (hl : n + m < 8000) (hm : 0 < m) (h0 : q ≠ 0) (S : Store) : f__law_frac [.int p, .int q] S = .ok (fracD p q) S := by
  refine eq_of_we ?_
  unfold f__law_frac
  refine we_def rfl ?_
  have hg := gcd_pos (p := p) h0
  have hgl := (gcd_bd (p := p) hq h0).log hm
  have e1 : ∀ i S, divI (.int i) (.int (Int.gcd p q)) S = .ok (.int (i / (Int.gcd p q : Int))) S := fun i S => divI_int hg (by omega) S
  simp [m__law_frac, lgcd_eq hp hq (by omega)]
  by_cases q0 : 0 < q
  · have ea : (q.natAbs : Int) = q := by omega
    simp [q0, e1, fracD, num, den, ea]
    exact finP_same (by simp) ⟨rfl, rfl⟩
  · have ea : (q.natAbs : Int) = -q := by omega
    simp [q0, e1, fracD, num, den, ea, Int.neg_ediv_of_dvd (Int.gcd_dvd_left p q), Int.neg_ediv_of_dvd (Int.gcd_dvd_right p q)]
    exact finP_same (by simp) ⟨rfl, rfl⟩

/-! ### the program's ratios -/
theorem frz_ins {S1 : Store} {c : Str} {ns : List Str} {vs : List D} (h : underL S1.length vs = true) : frzD (frzP (S1 ++ [.ins c ns vs]) S1.length 6) (.ptr S1.length) = some (.ins c ns vs) := by
  rw [frzD, frzP, if_neg (Nat.lt_irrefl _)]
  rw [List.getElem?_append_right (Nat.le_refl _)]
  simp only [Nat.sub_self, List.getElem?_cons_zero]
  rw [frzL_of h]
  rfl
theorem finP_ins {S S1 : Store} {P : D → Store → Prop} {c : Str} {ns : List Str} {vs : List D} (h : Keep S S1) (hu : underL S.length vs = true) (p : P (.ins c ns vs) S1) : FinP S P (.ptr S1.length) (S1 ++ [.ins c ns vs]) := by
  refine finP_keep h ?_ p
  rw [← h.len] at hu ⊢
  exact frz_ins hu
theorem setF_at {cs : List Str} {f c : Str} {n : Nat} {v : D} {S : Store} {ns : List Str} {vs : List D} (h : S[n]? = some (.ins c ns vs)) (hc : c ∈ cs) (hn : ns.length < 1000) : setF cs f (.ptr n) v S = some (S.set n (.ins c (putN f v ns vs).1 (putN f v ns vs).2)) := by
  simp only [setF, h]
  rw [if_pos ⟨hc, hn⟩]
theorem whole_int (i : Int) (S : Store) : f_is_whole [.int i] S = .ok (.bl true) S := by
  refine eq_of_we ?_
  unfold f_is_whole
  refine we_def rfl ?_
  simp [m_is_whole]
/-- no whole number, and a value that isinstance answers for -/
def notW : D → Bool
  | .non => true
  | .bl _ => true
  | .str _ => true
  | .tup _ => true
  | .lst _ => true
  | _ => false
theorem whole_not {d : D} (h : notW d = true) (S : Store) : f_is_whole [d] S = .ok (.bl false) S := by
  refine eq_of_we ?_
  unfold f_is_whole
  refine we_def rfl ?_
  cases d <;> first | (simp [notW] at h; done) | simp [m_is_whole]
@[simp] theorem neg_int (i : Int) (S : Store) : negI (.int i) S = .ok (.int (-i)) S := (rfl)
def ratD (p q : Int) : D := .ins "Ratio" ["own_top", "own_bottom"] [.int p, .int q]
@[simp] theorem under_ratD {k : Nat} {p q : Int} : under k (ratD p q) = true := by simp [ratD]
@[simp] theorem under_fracD {k : Nat} {p q : Int} : under k (fracD p q) = true := by simp [fracD]
theorem put_top {v : D} : putN "own_top" v [] [] = ((["own_top"] : List Str), [v]) := by simp [putN]
theorem put_bottom {v u : D} : putN "own_bottom" v ["own_top"] [u] = ((["own_top", "own_bottom"] : List Str), [u, v]) := by
  simp only [putN]
  rw [if_neg (by decide)]
theorem init_ok {p q : Int} {n m : Nat} (hp : Bd n p) (hq : Bd m q) (hl : n + m < 8000) (hm : 0 < m) (h0 : q ≠ 0) (S : Store) {P X : D → Store → Prop} (hP : P .non (S ++ [.ins "Ratio" ["own_top", "own_bottom"] [.int (num p q), .int (den p q)]])) :
    We (defS 4 m_Ratio___init__ [.ptr S.length, .int p, .int q] (S ++ [.ins "Ratio" [] []])) P X := by
  refine we_defS.mpr ?_
  have hg := gcd_pos (p := p) h0
  have hgl := (gcd_bd (p := p) hq h0).log hm
  have e1 : ∀ i S, divI (.int i) (.int (Int.gcd p q)) S = .ok (.int (i / (Int.gcd p q : Int))) S := fun i S => divI_int hg (by omega) S
  have ea : (if q < 0 then -q else q) = (q.natAbs : Int) := by split <;> omega
  have hkeep := Keep.set (S := S ++ [.ins "Ratio" [] []]) (n := S.length) (m := .ins "Ratio" ["own_top", "own_bottom"] [.int (num p q), .int (den p q)]) (by simp [underM])
  rw [set_last rfl] at hkeep
  by_cases q0 : 0 < q
  · simp [m_Ratio___init__, whole_int, h0, cd_eq hp hq (by omega), q0, e1, semAbs, ea]
    refine ⟨_, setF_at (c := "Ratio") (ns := []) (vs := []) (by simp) (by simp) (by simp), _, setF_at (c := "Ratio") (ns := ["own_top"]) (vs := [.int (p / (Int.gcd p q : Int))]) (by simp [put_top]) (by simp) (by simp), ?_⟩
    rw [set_last rfl, set_last rfl]
    simp only [put_top, put_bottom]
    have : num p q = p / (Int.gcd p q : Int) := by simp [num, q0]
    rw [← this]
    exact finP_keep0 hkeep (by simp) hP
  · simp [m_Ratio___init__, whole_int, h0, cd_eq hp hq (by omega), q0, e1, semAbs, ea]
    refine ⟨_, setF_at (c := "Ratio") (ns := []) (vs := []) (by simp) (by simp) (by simp), _, setF_at (c := "Ratio") (ns := ["own_top"]) (vs := [.int ((-p) / (Int.gcd p q : Int))]) (by simp [put_top]) (by simp) (by simp), ?_⟩
    rw [set_last rfl, set_last rfl]
    simp only [put_top, put_bottom]
    have : num p q = (-p) / (Int.gcd p q : Int) := by simp [num, q0]
    rw [← this]
    exact finP_keep0 hkeep (by simp) hP

/-- a refused value -/
def exR (v : D) : D := .ins "InvalidRatio" ["value", "tag"] [v, .str "InvalidRatio"]
@[simp] theorem under_exR {k : Nat} {v : D} : under k (exR v) = under k v := by simp [exR]
section
variable {S : Store} {P X : D → Store → Prop} {p q : Int} {n m : Nat}
theorem make_ok (hp : Bd n p) (hq : Bd m q) (hl : n + m < 8000) (hm : 0 < m) (h0 : q ≠ 0) (h : P (ratD (num p q) (den p q)) S) : We (makeS "Ratio" f_Ratio___init__ [.int p, .int q] S) (FinP S P) X := by
  unfold makeS
  rw [we_bind]
  unfold f_Ratio___init__
  rw [w_defsS (by simp)]
  refine init_ok hp hq hl hm h0 S ?_
  simp
  exact finP_ins (Keep.refl S) (by simp) h
theorem num1 : num p 1 = p := by simp [num]
theorem den1 : den p 1 = 1 := by simp [den]
theorem make_ok1 (hp : Bd n p) (hl : n < 7990) (h : P (ratD p 1) S) : We (makeS "Ratio" f_Ratio___init__ [.int p] S) (FinP S P) X := by
  unfold makeS
  rw [we_bind]
  unfold f_Ratio___init__
  rw [defsS_less (by simp) (by simp)]
  refine init_ok hp (m := 1) (q := 1) (by unfold Bd; decide) (by omega) (by decide) (by decide) S ?_
  simp
  rw [num1, den1]
  exact finP_ins (Keep.refl S) (by simp) h
theorem make_ex (hv : notW v = true) (hu : under S.length v = true) (h : X (exR v) S) : We (makeS "Ratio" f_Ratio___init__ [v] S) P (FinP S X) := by
  unfold makeS
  rw [we_bind]
  unfold f_Ratio___init__
  rw [defsS_less (by simp) (by simp)]
  refine we_defS.mpr ?_
  simp [m_Ratio___init__, whole_not hv]
  refine finP_keep0 (Keep.refl _) ?_ ?_
  · simp; exact under_mono (by omega) _ hu
  · exact finP_app (Keep.refl S) (by simpa [exR] using hu) h
theorem make_ex2 (hv : notW v = true) (hu : under S.length v = true) (h : X (exR v) S) : We (makeS "Ratio" f_Ratio___init__ [.int p, v] S) P (FinP S X) := by
  unfold makeS
  rw [we_bind]
  unfold f_Ratio___init__
  rw [w_defsS (by simp)]
  refine we_defS.mpr ?_
  simp [m_Ratio___init__, whole_not hv, whole_int]
  refine finP_keep0 (Keep.refl _) ?_ ?_
  · simp; exact under_mono (by omega) _ hu
  · exact finP_app (Keep.refl S) (by simpa [exR] using hu) h
theorem make_exA {u : D} (hv : notW v = true) (hu : under S.length v = true) (h : X (exR v) S) : We (makeS "Ratio" f_Ratio___init__ [v, u] S) P (FinP S X) := by
  unfold makeS
  rw [we_bind]
  unfold f_Ratio___init__
  rw [w_defsS (by simp)]
  refine we_defS.mpr ?_
  simp [m_Ratio___init__, whole_not hv]
  refine finP_keep0 (Keep.refl _) ?_ ?_
  · simp; exact under_mono (by omega) _ hu
  · exact finP_app (Keep.refl S) (by simpa [exR] using hu) h
@[simp] theorem flds_rat : fldsOf S (ratD p q) = some (("Ratio" : Str), (["own_top", "own_bottom"] : List Str), ([.int p, .int q] : List D)) := (rfl)
@[simp] theorem look_top {u v : D} : lookN "own_top" ["own_top", "own_bottom"] [u, v] = some u := by simp [lookN]
@[simp] theorem look_bottom {u v : D} : lookN "own_bottom" ["own_top", "own_bottom"] [u, v] = some v := by
  simp only [lookN]
  rw [if_neg (by decide)]
  simp
@[simp] theorem isi_rat {t : List (Str × List Str × List Str)} : isiO (("Ratio", ["Ratio"], []) :: t) [ratD p q, .cls "Ratio"] S = .ok (.bl true) S := by
  unfold ratD
  rw [isiO_ins]
  simp
theorem isi_int {t : List (Str × List Str × List Str)} {i : Int} : isiO (("Ratio", ["Ratio"], []) :: t) [.int i, .cls "Ratio"] S = .ok (.bl false) S := by
  rw [isiO_kd rfl rfl]
  simp
theorem isi_notW {t : List (Str × List Str × List Str)} {d : D} (h : notW d = true) : isiO (("Ratio", ["Ratio"], []) :: t) [d, .cls "Ratio"] S = .ok (.bl false) S := by
  rw [isiO_kd (by cases d <;> first | rfl | (simp [notW] at h; done)) (by cases d <;> first | rfl | (simp [notW] at h; done))]
  simp
theorem ratio_of_rat : f_ratio_of [ratD p q] S = .ok (ratD p q) S := by
  refine eq_of_we ?_
  unfold f_ratio_of
  refine we_def rfl ?_
  simp [m_ratio_of]
  exact finP_same (by simp) ⟨rfl, rfl⟩
theorem ratio_of_int (hp : Bd n p) (hl : n < 7990) : f_ratio_of [.int p] S = .ok (ratD p 1) S := by
  refine eq_of_we ?_
  unfold f_ratio_of
  refine we_def rfl ?_
  simp [m_ratio_of, isi_int]
  exact make_ok1 hp hl (finP_same (by simp) ⟨rfl, rfl⟩)
theorem ratio_of_ex {v : D} (hv : notW v = true) (hu : under S.length v = true) : f_ratio_of [v] S = .ex (exR v) S := by
  refine ex_of_we ?_
  unfold f_ratio_of
  refine we_def rfl ?_
  simp [m_ratio_of, isi_notW hv]
  exact make_ex hv hu (finP_same (by simpa using hu) ⟨rfl, rfl⟩)
end
/-- an integer or a ratio -/
inductive IsR : D → Int → Int → Prop
  | int (i : Int) : IsR (.int i) i 1
  | rat (p q : Int) : IsR (ratD p q) p q
theorem IsR.of {d : D} {p q : Int} (h : IsR d p q) {n : Nat} (hp : Bd n p) (hl : n < 7990) {S : Store} : f_ratio_of [d] S = .ok (ratD p q) S := by
  cases h with
  | int => exact ratio_of_int hp hl
  | rat => exact ratio_of_rat

/-- a fraction in lowest terms, of a size -/
structure LT (n : Nat) (p q : Int) : Prop where
  up : Bd n p
  dn : Bd n q
  pos : 0 < q
  one : Int.gcd p q = 1
theorem LT.mono {n m : Nat} {p q : Int} (h : LT n p q) (hl : n ≤ m) : LT m p q := ⟨h.up.mono hl, h.dn.mono hl, h.pos, h.one⟩
theorem LT.num {n : Nat} {p q : Int} (h : LT n p q) : Z.num p q = p := by simp [Z.num, h.pos, h.one]
theorem LT.den {n : Nat} {p q : Int} (h : LT n p q) : Z.den p q = q := by
  have := h.pos
  have e : (q.natAbs : Int) = q := by omega
  simp [Z.den, h.one, e]
theorem gcd_num_den {p q : Int} (hq : q ≠ 0) : Int.gcd (num p q) (den p q) = 1 := by
  have hg : 0 < Int.gcd p q := Int.gcd_pos_of_ne_zero_right p hq
  have e := Int.gcd_ediv_gcd_ediv_gcd hg
  have h1 : (Int.gcd p q : Int) ∣ p := Int.gcd_dvd_left p q
  have h2 : (Int.gcd p q : Int) ∣ q := Int.gcd_dvd_right p q
  unfold num den
  by_cases q0 : 0 < q
  · have ea : (q.natAbs : Int) = q := by omega
    rw [if_pos q0, ea]; exact e
  · have ea : (q.natAbs : Int) = -q := by omega
    rw [if_neg q0, ea, Int.neg_ediv_of_dvd h1, Int.neg_ediv_of_dvd h2, Int.gcd_neg, Int.neg_gcd]; exact e
theorem LT.of {n m : Nat} {p q : Int} (hp : Bd n p) (hq : Bd m q) (h0 : q ≠ 0) : LT (n + m) (Z.num p q) (Z.den p q) :=
  ⟨(hp.num h0).mono (Nat.le_add_right n m), (hq.den h0).mono (Nat.le_add_left m n), den_pos h0, gcd_num_den h0⟩
theorem LT.whole {n : Nat} {p : Int} (h : Bd n p) : LT (n + 1) p 1 := ⟨h.mono (Nat.le_succ n), by unfold Bd; exact Nat.one_lt_two_pow (by omega), by decide, by simp⟩
theorem LT.neg {n : Nat} {p q : Int} (h : LT n p q) : LT n (-p) q := ⟨h.up.neg, h.dn, h.pos, by rw [Int.neg_gcd]; exact h.one⟩
theorem LT.posn {n : Nat} {p q : Int} (h : LT n p q) : 0 < n := by
  rcases Nat.eq_zero_or_pos n with rfl | h'
  · have := h.dn; have := h.pos; unfold Bd at *; omega
  · exact h'
section
variable {S : Store} {P X : D → Store → Prop} {p q p' q' : Int} {n : Nat} {d : D}
abbrev numA (p q p' q' : Int) : Int := num (p * q' + p' * q) (q * q')
abbrev denA (p q p' q' : Int) : Int := den (p * q' + p' * q) (q * q')
theorem mul_ne {a b : Int} (h : 0 < a) (h2 : 0 < b) : a * b ≠ 0 := by have := Int.mul_pos h h2; omega
theorem LT.add {m : Nat} (h : LT n p q) (h' : LT m p' q') : LT (3 * (n + m) + 1) (numA p q p' q') (denA p q p' q') :=
  (LT.of (((h.up.mul h'.dn).add (h'.up.mul h.dn))) (h.dn.mul h'.dn) (mul_ne h.pos h'.pos)).mono (by omega)
theorem add_eq (h : LT n p q) (h' : LT n p' q') (hr : IsR d p' q') (hl : n ≤ 1000) : f_Ratio___add__ [ratD p q, d] S = .ok (ratD (numA p q p' q') (denA p q p' q')) S := by
  refine eq_of_we ?_
  unfold f_Ratio___add__
  refine we_def rfl ?_
  have hn := h.posn
  simp [m_Ratio___add__, hr.of h'.up (by omega), mulB_of _ h.up h'.dn hn hn (by omega), mulB_of _ h'.up h.dn hn hn (by omega), mulB_of _ h.dn h'.dn hn hn (by omega)]
  exact make_ok ((h.up.mul h'.dn).add (h'.up.mul h.dn)) (h.dn.mul h'.dn) (by omega) (by omega) (mul_ne h.pos h'.pos) (finP_same (by simp) ⟨rfl, rfl⟩)
abbrev numS (p q p' q' : Int) : Int := num (p * q' - p' * q) (q * q')
abbrev denS (p q p' q' : Int) : Int := den (p * q' - p' * q) (q * q')
theorem numS_eq : numS p q p' q' = numA p q (0 - p') q' := by
  unfold numS numA
  rw [show p * q' - p' * q = p * q' + (0 - p') * q by simp [Int.sub_eq_add_neg, Int.neg_mul]]
theorem denS_eq : denS p q p' q' = denA p q (0 - p') q' := by
  unfold denS denA
  rw [show p * q' - p' * q = p * q' + (0 - p') * q by simp [Int.sub_eq_add_neg, Int.neg_mul]]
theorem sub_eq (h : LT n p q) (h' : LT n p' q') (hr : IsR d p' q') (hl : n ≤ 1000) : f_Ratio___sub__ [ratD p q, d] S = .ok (ratD (numS p q p' q') (denS p q p' q')) S := by
  refine eq_of_we ?_
  unfold f_Ratio___sub__
  refine we_def rfl ?_
  have hn := h.posn
  simp [m_Ratio___sub__, hr.of h'.up (by omega), mulB_of _ h.up h'.dn hn hn (by omega), mulB_of _ h'.up h.dn hn hn (by omega), mulB_of _ h.dn h'.dn hn hn (by omega)]
  exact make_ok ((h.up.mul h'.dn).sub (h'.up.mul h.dn)) (h.dn.mul h'.dn) (by omega) (by omega) (mul_ne h.pos h'.pos) (finP_same (by simp) ⟨rfl, rfl⟩)
abbrev numM (p q p' q' : Int) : Int := num (p * p') (q * q')
abbrev denM (p q p' q' : Int) : Int := den (p * p') (q * q')
theorem LT.mul {m : Nat} (h : LT n p q) (h' : LT m p' q') : LT (2 * (n + m)) (numM p q p' q') (denM p q p' q') :=
  (LT.of (h.up.mul h'.up) (h.dn.mul h'.dn) (mul_ne h.pos h'.pos)).mono (by omega)
theorem mul_eq (h : LT n p q) (h' : LT n p' q') (hr : IsR d p' q') (hl : n ≤ 1000) : f_Ratio___mul__ [ratD p q, d] S = .ok (ratD (numM p q p' q') (denM p q p' q')) S := by
  refine eq_of_we ?_
  unfold f_Ratio___mul__
  refine we_def rfl ?_
  have hn := h.posn
  simp [m_Ratio___mul__, hr.of h'.up (by omega), mulB_of _ h.up h'.up hn hn (by omega), mulB_of _ h.dn h'.dn hn hn (by omega)]
  exact make_ok (h.up.mul h'.up) (h.dn.mul h'.dn) (by omega) (by omega) (mul_ne h.pos h'.pos) (finP_same (by simp) ⟨rfl, rfl⟩)
theorem neg_eq (h : LT n p q) (hl : n ≤ 1000) : f_Ratio___neg__ [ratD p q] S = .ok (ratD (-p) q) S := by
  refine eq_of_we ?_
  unfold f_Ratio___neg__
  refine we_def rfl ?_
  have hn := h.posn
  have hq := h.pos
  simp [m_Ratio___neg__]
  refine make_ok h.up.neg h.dn (by omega) (by omega) (by omega) (finP_same (by simp) ⟨?_, rfl⟩)
  rw [h.neg.num, h.neg.den]
theorem below_core (h : LT n p q) (h' : LT n p' q') (hr : IsR d p' q') (hl : n ≤ 1000) : defS 3 m_Ratio_is_below [ratD p q, d] S = .ok (.bl (decide (p * q' < p' * q))) S := by
  refine eq_of_we ?_
  refine we_defS.mpr ?_
  have hn := h.posn
  simp [m_Ratio_is_below, hr.of h'.up (by omega), mulB_of _ h.up h'.dn hn hn (by omega), mulB_of _ h'.up h.dn hn hn (by omega)]
theorem below_eq (h : LT n p q) (h' : LT n p' q') (hr : IsR d p' q') (hl : n ≤ 1000) : f_Ratio_is_below [ratD p q, d] S = .ok (.bl (decide (p * q' < p' * q))) S := by
  unfold f_Ratio_is_below
  rw [w_arity (by simp)]; exact below_core h h' hr hl
theorem belowk_eq (h : LT n p q) (h' : LT n p' q') (hr : IsR d p' q') (hl : n ≤ 1000) : fk_Ratio_is_below_0 [ratD p q, d] S = .ok (.bl (decide (p * q' < p' * q))) S := by
  unfold fk_Ratio_is_below_0
  rw [kwS_eq (by simp [pickL])]; exact below_core h h' hr hl
@[simp] theorem bool_eq : f_Ratio___bool__ [ratD p q] S = .ok (.bl (p != 0)) S := by
  refine eq_of_we ?_
  unfold f_Ratio___bool__
  refine we_def rfl ?_
  simp [m_Ratio___bool__, semBool]
@[simp] theorem rtop_eq : f_Ratio_top [ratD p q] S = .ok (.int p) S := by
  refine eq_of_we ?_
  unfold f_Ratio_top
  refine we_def rfl ?_
  simp [m_Ratio_top]
@[simp] theorem rbottom_eq : f_Ratio_bottom [ratD p q] S = .ok (.int q) S := by
  refine eq_of_we ?_
  unfold f_Ratio_bottom
  refine we_def rfl ?_
  simp [m_Ratio_bottom]
def pairD (p q : Int) : D := .tup [.int p, .int q]
@[simp] theorem under_pairD {k : Nat} {p q : Int} : under k (pairD p q) = true := by simp [pairD]
theorem fracD_eq : fracD p q = pairD (num p q) (den p q) := rfl
@[simp] theorem pair_eq : f__law_pair [ratD p q] S = .ok (pairD p q) S := by
  refine eq_of_we ?_
  unfold f__law_pair
  refine we_def rfl ?_
  simp [m__law_pair, pairD]
  exact finP_same (by simp) ⟨rfl, rfl⟩
@[simp] theorem req_eq : f_Ratio___eq__ [ratD p q, ratD p' q'] S = .ok (.bl (decide (p = p' ∧ q = q'))) S := by
  refine eq_of_we ?_
  unfold f_Ratio___eq__
  refine we_def rfl ?_
  by_cases h : p = p'
  · simp [m_Ratio___eq__, h]
  · simp [m_Ratio___eq__, h]
@[simp] theorem tru_rat {t : SemB} : orSB truPl t (ratD p q) S = t (ratD p q) S := (rfl)
@[simp] theorem own1_rat {tab : List (Str × SemL)} : own1 tab (ratD p q) S = match tabOf tab "Ratio" with
    | some g => g [ratD p q] S
    | none => .bad := (rfl)
@[simp] theorem addX_rat {e : D} {g : Sem2} : orS2 addX g (ratD p q) e S = g (ratD p q) e S := addX_ins
@[simp] theorem subI_rat {e : D} {g : Sem2} : orS2 subI g (ratD p q) e S = g (ratD p q) e S := subI_ins
@[simp] theorem mulX_rat {e : D} {g : Sem2} : orS2 mulX g (ratD p q) e S = g (ratD p q) e S := mulX_ins
@[simp] theorem negI_rat {g : Sem1} : orS1 negI g (ratD p q) S = g (ratD p q) S := negI_ins
@[simp] theorem eqD_rat {neg : Bool} {e : D} {g : Sem2} : orS2 (eqD neg) g (ratD p q) e S = g (ratD p q) e S := eqD_ins
@[simp] theorem ownOp_rat {tab : List (Str × SemL)} {e : D} : We (ownOp tab (ratD p q) e S) P X = isO (tabOf tab "Ratio") fun g => okRt S "Ratio" e = true ∧ We (g [ratD p q, e] S) P X := w_ownOp_ins
@[simp] theorem okRt_rat {c : Str} : okRt S c (ratD p q) = decide ("Ratio" = c) := (rfl)
@[simp] theorem ownEq_rat {neg : Bool} {oth : List Str} {tab : List (Str × SemL)} {e : D} : We (ownEq neg oth tab (ratD p q) e S) P X = isO (tabOf tab "Ratio") fun g => okRtE oth S e = true ∧ We (g [ratD p q, e] S) (fun r S' => isB r fun b => P (.bl (if neg = true then !b else b)) S') X := w_ownEq_ins
@[simp] theorem okRtE_rat {oth : List Str} : okRtE oth S (ratD p q) = decide (("Ratio" : Str) ∈ oth) := (rfl)
theorem over_core (h : LT n p q) (h' : LT n p' q') (hr : IsR d p' q') (hl : n ≤ 1000) (h0 : p' ≠ 0) : defS 3 m_Ratio_over [ratD p q, d] S = .ok (ratD (num (p * q') (q * p')) (den (p * q') (q * p'))) S := by
  refine eq_of_we ?_
  refine we_defS.mpr ?_
  have hn := h.posn
  have hq := h.pos
  simp [m_Ratio_over, hr.of h'.up (by omega), h0, mulB_of _ h.up h'.dn hn hn (by omega), mulB_of _ h.dn h'.up hn hn (by omega)]
  refine make_ok (h.up.mul h'.dn) (h.dn.mul h'.up) (by omega) (by omega) (by rw [ne_eq, Int.mul_eq_zero]; omega) ?_
  exact finP_same (by simp) ⟨rfl, rfl⟩
theorem over_zero (h' : LT n 0 q') (hr : IsR d 0 q') (hl : n ≤ 1000) (hu : under S.length d = true) : defS 3 m_Ratio_over [ratD p q, d] S = .ex (exR d) S := by
  refine ex_of_we ?_
  refine we_defS.mpr ?_
  simp [m_Ratio_over, hr.of h'.up (by omega)]
  exact finP_same (by simpa [exR] using hu) ⟨rfl, rfl⟩
theorem over_odd (hv : notW d = true) (hu : under S.length d = true) : defS 3 m_Ratio_over [ratD p q, d] S = .ex (exR d) S := by
  refine ex_of_we ?_
  refine we_defS.mpr ?_
  simp [m_Ratio_over, ratio_of_ex hv hu]
  exact finP_same (by simpa [exR] using hu) ⟨rfl, rfl⟩
theorem over_eq : f_Ratio_over [ratD p q, d] S = defS 3 m_Ratio_over [ratD p q, d] S := by unfold f_Ratio_over; rw [w_arity (by simp)]
theorem overk_eq : fk_Ratio_over_0 [ratD p q, d] S = defS 3 m_Ratio_over [ratD p q, d] S := by unfold fk_Ratio_over_0; rw [kwS_eq (by simp [pickL])]; rfl
/-! the law's own fractions -/
theorem plus_eq (h : LT n p q) (h' : LT n p' q') (hl : n ≤ 1000) : f__law_plus [pairD p q, pairD p' q'] S = .ok (pairD (numA p q p' q') (denA p q p' q')) S := by
  refine eq_of_we ?_
  unfold f__law_plus
  refine we_def rfl ?_
  have hn := h.posn
  simp [m__law_plus, pairD, mulB_of _ h.up h'.dn hn hn (by omega), mulB_of _ h'.up h.dn hn hn (by omega), mulB_of _ h.dn h'.dn hn hn (by omega)]
  rw [frac_eq ((h.up.mul h'.dn).add (h'.up.mul h.dn)) (h.dn.mul h'.dn) (by omega) (by omega) (mul_ne h.pos h'.pos)]
  simp
  exact finP_same (by simp) ⟨rfl, rfl⟩
theorem times_eq (h : LT n p q) (h' : LT n p' q') (hl : n ≤ 1000) : f__law_times [pairD p q, pairD p' q'] S = .ok (pairD (numM p q p' q') (denM p q p' q')) S := by
  refine eq_of_we ?_
  unfold f__law_times
  refine we_def rfl ?_
  have hn := h.posn
  simp [m__law_times, pairD, mulB_of _ h.up h'.up hn hn (by omega), mulB_of _ h.dn h'.dn hn hn (by omega)]
  rw [frac_eq (h.up.mul h'.up) (h.dn.mul h'.dn) (by omega) (by omega) (mul_ne h.pos h'.pos)]
  simp
  exact finP_same (by simp) ⟨rfl, rfl⟩
theorem lratio_eq (h : LT n p q) (hl : n ≤ 1000) : f__law_ratio [pairD p q] S = .ok (ratD p q) S := by
  refine eq_of_we ?_
  unfold f__law_ratio
  refine we_def rfl ?_
  have hn := h.posn
  have hq := h.pos
  simp [m__law_ratio, pairD]
  refine make_ok h.up h.dn (by omega) (by omega) (by omega) (finP_same (by simp) ⟨?_, rfl⟩)
  rw [h.num, h.den]
end

theorem okRt_isR {S : Store} {d : D} {p q : Int} (h : IsR d p q) : okRt S "Ratio" d = true := by cases h <;> simp
theorem okRt_notW {S : Store} {c : Str} {d : D} (h : notW d = true) : okRt S c d = true := by cases d <;> first | rfl | (simp [notW] at h; done)
theorem add_odd {S : Store} {p q : Int} {v : D} (hv : notW v = true) (hu : under S.length v = true) : f_Ratio___add__ [ratD p q, v] S = .ex (exR v) S := by
  refine ex_of_we ?_
  unfold f_Ratio___add__
  refine we_def rfl ?_
  simp [m_Ratio___add__, ratio_of_ex hv hu]
  exact finP_same (by simpa using hu) ⟨rfl, rfl⟩
theorem LT.zero : LT 1 0 1 := ⟨by unfold Bd; decide, by unfold Bd; decide, by decide, by decide⟩
/-- A k: the sum of the first k -/
structure Sums (ds : List D) (A : Nat → Int × Int) (n : Nat) : Prop where
  zero : A 0 = (0, 1)
  step : ∀ k, k < n → ∃ d p q, ds[k]? = some d ∧ IsR d p q ∧ LT 1000 p q ∧ LT 1000 (A k).1 (A k).2 ∧ A (k + 1) = (numA (A k).1 (A k).2 p q, denA (A k).1 (A k).2 p q)
theorem total_ok {ds : List D} {A : Nat → Int × Int} {n : Nat} (h : Sums ds A n) (hn : n = ds.length) (hl : ds.length ≤ 1000) (hu : underL 0 ds = true) (S : Store) : f_total ds S = .ok (ratD (A n).1 (A n).2) S := by
  subst hn
  refine eq_of_we ?_
  unfold f_total
  rw [w_starS (by simp) (by omega), we_defS]
  simp [m_total]
  refine make_ok1 (n := 1) (by unfold Bd; decide) (by decide) ?_
  have h0 := h.zero
  refine wo_for (itAny_of (eName_of rfl) (xs := ds) (by simp)) (fun pre sl S1 => S1 = S ∧ ∃ x2, sl = [some (.tup ds), some (ratD (A pre.length).1 (A pre.length).2), x2]) ⟨rfl, _, by rw [List.length_nil, h0]⟩ ?_ ?_
  · rintro pre x post sl S1 he ⟨rfl, x2, rfl⟩
    refine ⟨by simp, ?_⟩
    obtain ⟨d, p, q, h1, h2, h3, h4, h5⟩ := h.step pre.length (by rw [he]; simp)
    have hd : d = x := by rw [he] at h1; simpa using h1.symm
    subst hd
    simp [okRt_isR h2, add_eq h4 h3 h2 (by omega)]
    rw [h5]
    exact finP_same (by simp) ⟨rfl, rfl⟩
  · rintro sl S1 ⟨rfl, x2, rfl⟩
    refine ⟨by simp, ?_⟩
    simp
    exact finP_same (by simp) ⟨rfl, rfl⟩
theorem total_ex {ds : List D} {A : Nat → Int × Int} {k : Nat} {v : D} (h : Sums ds A k) (hk : ds[k]? = some v) (hv : notW v = true) (hu0 : under 0 v = true) (hl : ds.length ≤ 1000) (hu : underL 0 ds = true) (S : Store) : f_total ds S = .ex (exR v) S := by
  refine ex_of_we ?_
  have hkl : k < ds.length := (List.getElem?_eq_some_iff.mp hk).1
  unfold f_total
  rw [w_starS (by simp) (by omega), we_defS]
  simp [m_total]
  refine make_ok1 (n := 1) (by unfold Bd; decide) (by decide) ?_
  have h0 := h.zero
  refine wo_for (itAny_of (eName_of rfl) (xs := ds) (by simp)) (fun pre sl S1 => pre.length ≤ k ∧ S1 = S ∧ ∃ x2, sl = [some (.tup ds), some (ratD (A pre.length).1 (A pre.length).2), x2]) ⟨by simp, rfl, _, by rw [List.length_nil, h0]⟩ ?_ ?_
  · rintro pre x post sl S1 he ⟨hp, rfl, x2, rfl⟩
    refine ⟨by simp, ?_⟩
    by_cases hpk : pre.length = k
    · have hd : x = v := by rw [he, ← hpk] at hk; simpa using hk
      subst hd
      simp [okRt_notW hv, add_odd hv (under_of hu0)]
      refine finP_same (by simpa using under_of hu0) ?_
      exact finP_same (by simpa using under_of hu0) ⟨rfl, rfl⟩
    · obtain ⟨d, p, q, h1, h2, h3, h4, h5⟩ := h.step pre.length (by omega)
      have hd : d = x := by rw [he] at h1; simpa using h1.symm
      subst hd
      simp [okRt_isR h2, add_eq h4 h3 h2 (by omega)]
      rw [h5]
      exact finP_same (by simp) ⟨by omega, rfl, rfl⟩
  · rintro sl S1 ⟨hp, _⟩
    omega
@[simp] theorem finP_rat {S : Store} {P : D → Store → Prop} {p q : Int} : FinP S P (ratD p q) S = P (ratD p q) S := finP_eq under_ratD
@[simp] theorem finP_pair {S : Store} {P : D → Store → Prop} {p q : Int} : FinP S P (pairD p q) S = P (pairD p q) S := finP_eq under_pairD
@[simp] theorem ix_pair0 {S : Store} {p q : Int} : ixX (pairD p q) (.int 0) S = .ok (.int p) S := rfl
@[simp] theorem ix_pair1 {S : Store} {p q : Int} : ixX (pairD p q) (.int 1) S = .ok (.int q) S := rfl
theorem tup_pair {a b : Int} : (.tup [.int a, .int b] : D) = pairD a b := rfl
end Z
/-! ZS: texts of numbers. -/
namespace Z
open PySem PySem.Spec L2
theorem digits_len : ∀ (k fuel n : Nat) (ds : List Char), n < 2 ^ k → (Nat.toDigitsCore 10 fuel n ds).length ≤ ds.length + (k + 1)
  | k, 0, n, ds, h => by simp [Nat.toDigitsCore]
  | k, fuel + 1, n, ds, h => by
    unfold Nat.toDigitsCore
    simp only
    split
    · simp
    · rename_i h0
      match k, h with
      | 0, h => simp at h; subst h; simp at h0
      | k + 1, h =>
        have h2 : n / 10 < 2 ^ k := by rw [Nat.pow_succ] at h; omega
        have := digits_len k fuel (n / 10) (Nat.digitChar (n % 10) :: ds) h2
        simp at this ⊢
        omega
theorem repr_len {k n : Nat} (h : n < 2 ^ k) : (Nat.repr n).length ≤ k + 1 := by
  have := digits_len k (n + 1) n [] h
  simpa [Nat.repr, Nat.toDigits] using this
/-- the signs of a number's text -/
def dg (i : Int) : List Nat := (Str.ofString (toString i)).cps.toList
@[simp] theorem str_dg (i : Int) : Str.ofString (toString i) = tx (dg i) := lit_tx _
theorem dg_len {k : Nat} {i : Int} (h : Bd k i) : (dg i).length ≤ k + 2 := by
  have e : (dg i).length = (toString i).length := by
    have := PyProof.Rows.ofString_len (toString i)
    unfold dg
    simpa [Str.length] using this
  rw [e]
  cases i with
  | ofNat m =>
    have := repr_len (k := k) (n := m) (by unfold Bd at h; simpa using h)
    show (Nat.repr m).length ≤ _
    omega
  | negSucc m =>
    have := repr_len (k := k) (n := m + 1) (by unfold Bd at h; simpa using h)
    show ("-" ++ Nat.repr (m + 1)).length ≤ _
    have h1 : "-".length = 1 := by decide
    rw [String.length_append]
    omega
theorem dg_ok (i : Int) : okS (dg i) := okS_lit _

def isS (d : D) (k : List Nat → Prop) : Prop := match d with
  | .str y => k y.cps.toList
  | _ => False
@[simp] theorem isS_tx {l : List Nat} {k : List Nat → Prop} : isS (.str (tx l)) k = k l := by simp [isS, tx]
section
variable {sl : Sl} {S : Store} {P X : D → Store → Prop}
theorem w_joinNil {acc : List Nat} : We (joinGo [] (tx acc) sl S) P X = P (.str (tx acc)) S := by rw [joinGo]; simp
theorem w_joinCons {f : EX} {fs : List EX} {acc : List Nat} : We (joinGo (f :: fs) (tx acc) sl S) P X = We (f sl S) (fun d S1 => isS d fun l => acc.length + l.length ≤ 1000000 ∧ We (joinGo fs (tx (acc ++ l)) sl S1) P X) X := by
  rw [joinGo, we_bind]; congr 1; funext d S1
  cases d with
  | str y =>
    obtain ⟨l, rfl⟩ : ∃ l, y = tx l := ⟨_, (tx_eta y).symm⟩
    rw [isS_tx]
    simp only [tx_app, tx_len, List.length_append]
    by_cases h : acc.length + l.length ≤ 1000000
    · rw [if_pos h]; simp [h]
    · rw [if_neg h]; simp [h]
  | _ => simp [isS]
theorem empty_tx : Str.empty = tx [] := rfl
@[simp] theorem w_eJoin {fs : List EX} : We (eJoin fs sl S) P X = We (joinGo fs (tx []) sl S) P X := by unfold eJoin; rw [empty_tx]
@[simp] theorem lit_slash : Str.ofString "/" = tx [47] := by decide +kernel
def lR : List Nat := [82, 97, 116, 105, 111, 40]
@[simp] theorem lit_R : Str.ofString "Ratio(" = tx lR := by decide +kernel
@[simp] theorem lit_E : Str.ofString ")" = tx [41] := by decide +kernel
/-- the text of a fraction -/
def ratT (p q : Int) : List Nat := if q = 1 then dg p else dg p ++ 47 :: dg q
/-- Ratio.text -/
noncomputable def m_Ratio_text : SX :=
  (sRet (eIf (bVal (eBin (eqD false) (eAttrZ "own_bottom" [("Ratio", .fld)] (eName 0)) (eLit (.int 1)))) (eArgs semStr (aCons (eAttrZ "own_top" [("Ratio", .fld)] (eName 0)) aNil)) (eJoin [(eUn semFmt (eAttrZ "own_top" [("Ratio", .fld)] (eName 0))), (eLit (.str "/")), (eUn semFmt (eAttrZ "own_bottom" [("Ratio", .fld)] (eName 0)))])))
noncomputable def f_Ratio_text : SemL := arity 1 (defS 1 m_Ratio_text)
/-- Ratio.__repr__ -/
noncomputable def m_Ratio___repr__ : SX :=
  (sRet (eJoin [(eLit (.str "Ratio(")), (eUn semFmt (eMethZ "text" [("Ratio", f_Ratio_text)] (eName 0) aNil)), (eLit (.str ")"))]))
noncomputable def f_Ratio___repr__ : SemL := arity 1 (defS 1 m_Ratio___repr__)
/-- _law_frac_text -/
noncomputable def m__law_frac_text : SX :=
  (sRet (eIf (bVal (eBin (eqD false) (eBin ixX (eName 0) (eLit (.int 1))) (eLit (.int 1)))) (eArgs semStr (aCons (eBin ixX (eName 0) (eLit (.int 0))) aNil)) (eBin addX (eBin addX (eArgs semStr (aCons (eBin ixX (eName 0) (eLit (.int 0))) aNil)) (eLit (.str "/"))) (eArgs semStr (aCons (eBin ixX (eName 0) (eLit (.int 1))) aNil)))))
noncomputable def f__law_frac_text : SemL := arity 1 (defS 1 m__law_frac_text)
/-- _law_field -/
noncomputable def m__law_field : SX :=
  (sSeq (sIf (bVal (eBin inX (eXat "tag" ["InvalidRatio"] (eName 0)) (eArgs semTup (aCons (eLit (.str "InvalidRatio")) (aCons (eLit (.str "InvalidWorld")) (aCons (eLit (.str "InvalidElement")) (aCons (eLit (.str "InvalidStep")) (aCons (eLit (.str "InvalidLimit")) aNil))))))))
  (sRet (eXat "value" ["InvalidRatio"] (eName 0)))
  sNil)
  (sSeq (sIf (bVal (eBin inX (eXat "tag" ["InvalidRatio"] (eName 0)) (eArgs semTup (aCons (eLit (.str "InvalidName")) (aCons (eLit (.str "WrongKind")) (aCons (eLit (.str "CircularName")) (aCons (eLit (.str "UnknownName")) aNil)))))))
  (sRet eBad)
  sNil)
  (sSeq (sIf (bVal (eBin inX (eXat "tag" ["InvalidRatio"] (eName 0)) (eArgs semTup (aCons (eLit (.str "InvalidPlan")) (aCons (eLit (.str "EmptyLoop")) aNil)))))
  (sRet eBad)
  sNil)
  (sSeq (sIf (bVal (eBin inX (eXat "tag" ["InvalidRatio"] (eName 0)) (eArgs semTup (aCons (eLit (.str "TooMany")) (aCons (eLit (.str "CapacityExceeded")) aNil)))))
  (sRet eBad)
  sNil)
  (sSeq (sIf (bVal (eBin inX (eXat "tag" ["InvalidRatio"] (eName 0)) (eArgs semTup (aCons (eLit (.str "InvalidText")) (aCons (eLit (.str "InvalidProgram")) aNil)))))
  (sRet (eIf (bVal (eBin (eqD false) (eXat "tag" ["InvalidRatio"] (eName 0)) (eLit (.str "InvalidText")))) eBad eBad))
  sNil)
  (sSeq (sIf (bVal (eBin inX (eXat "tag" ["InvalidRatio"] (eName 0)) (eArgs semTup (aCons (eLit (.str "InUse")) (aCons (eLit (.str "Breaks")) aNil)))))
  (sRet (eIf (bVal (eBin (eqD false) (eXat "tag" ["InvalidRatio"] (eName 0)) (eLit (.str "InUse")))) eBad (eArgs semTup (aCons eBad (aCons eBad aNil)))))
  sNil)
  (sSeq (sIf (bVal (eBin inX (eXat "tag" ["InvalidRatio"] (eName 0)) (eArgs semTup (aCons (eLit (.str "InvalidCommand")) (aCons (eLit (.str "InvalidPage")) aNil)))))
  (sRet (eIf (bVal (eBin (eqD false) (eXat "tag" ["InvalidRatio"] (eName 0)) (eLit (.str "InvalidCommand")))) eBad eBad))
  sNil)
  (sRet (eIf (bVal (eBin (eqD false) (eXat "tag" ["InvalidRatio"] (eName 0)) (eLit (.str "InvalidReader")))) eBad (eLit .non))))))))))
noncomputable def f__law_field : SemL := arity 1 (defS 1 m__law_field)
variable {p q : Int} {n : Nat}
theorem ratT_len (hp : Bd n p) (hq : Bd n q) : (ratT p q).length ≤ 2 * n + 5 := by
  have := dg_len hp
  have := dg_len hq
  unfold ratT
  split <;> simp <;> omega
theorem ratT_ok : okS (ratT p q) := by
  unfold ratT
  split
  · exact dg_ok p
  · intro c hc
    simp at hc
    rcases hc with hc | rfl | hc
    · exact dg_ok p c hc
    · decide
    · exact dg_ok q c hc
theorem semStr_int {i : Int} (h : Bd n i) (hl : n ≤ 1000) : semStr [.int i] S = .ok (.str (tx (dg i))) S := by
  have : i.natAbs.log2 < 1920 := by have := (h.mono (show n ≤ n + 1 by omega)).log (by omega); omega
  unfold semStr
  simp only [if_pos this]
  rw [← str_dg]
theorem semFmt_int {i : Int} (h : Bd n i) (hl : n ≤ 1000) : semFmt (.int i) S = .ok (.str (tx (dg i))) S := by
  have : i.natAbs.log2 < 1920 := by have := (h.mono (show n ≤ n + 1 by omega)).log (by omega); omega
  unfold semFmt
  simp only [if_pos this]
  rw [← str_dg]
theorem text_eq (h : LT n p q) (hl : n ≤ 1000) : f_Ratio_text [ratD p q] S = .ok (.str (tx (ratT p q))) S := by
  refine eq_of_we ?_
  unfold f_Ratio_text
  refine we_def rfl ?_
  have i1 := dg_len h.up
  have i2 := dg_len h.dn
  by_cases h1 : q = 1
  · simp [m_Ratio_text, h1, semStr_int h.up hl, ratT]
  · simp [m_Ratio_text, h1, w_joinCons, w_joinNil, semFmt_int h.up hl, semFmt_int h.dn hl, ratT]
    omega
theorem repr_eq (h : LT n p q) (hl : n ≤ 1000) : f_Ratio___repr__ [ratD p q] S = .ok (.str (tx (lR ++ ratT p q ++ [41]))) S := by
  refine eq_of_we ?_
  unfold f_Ratio___repr__
  refine we_def rfl ?_
  have i1 := ratT_len h.up h.dn
  have i2 : lR.length = 6 := rfl
  simp [m_Ratio___repr__, w_joinCons, w_joinNil, text_eq h hl, i2]
  omega
theorem ltext_eq (h : LT n p q) (hl : n ≤ 1000) : f__law_frac_text [pairD p q] S = .ok (.str (tx (ratT p q))) S := by
  refine eq_of_we ?_
  unfold f__law_frac_text
  refine we_def rfl ?_
  have i1 := dg_len h.up
  have i2 := dg_len h.dn
  by_cases h1 : q = 1
  · simp [m__law_frac_text, h1, semStr_int h.up hl, ratT]
  · simp [m__law_frac_text, h1, semStr_int h.up hl, semStr_int h.dn hl, ratT]
    omega

/-! ### exactness -/
theorem num_zero {p q : Int} (hq : q ≠ 0) : num p q = 0 ↔ p = 0 := by
  have hg := gcd_pos (p := p) hq
  have hd : (Int.gcd p q : Int) ∣ p := Int.gcd_dvd_left p q
  unfold num
  split
  · constructor
    · intro h
      have := Int.ediv_mul_cancel hd
      rw [h] at this
      omega
    · rintro rfl; simp
  · constructor
    · intro h
      have := Int.ediv_mul_cancel (Int.dvd_neg.mpr hd)
      rw [h] at this
      omega
    · rintro rfl; simp
theorem cross {p q : Int} (hq : 0 < q) : num p q * q = p * den p q := by
  have hg := gcd_pos (p := p) (show q ≠ 0 by omega)
  have hd : (Int.gcd p q : Int) ∣ p := Int.gcd_dvd_left p q
  have hd2 : (Int.gcd p q : Int) ∣ q := Int.gcd_dvd_right p q
  have ea : (q.natAbs : Int) = q := by omega
  unfold num den
  rw [if_pos hq, ea]
  obtain ⟨a, ha⟩ := hd
  obtain ⟨b, hb⟩ := hd2
  generalize (Int.gcd p q : Int) = g at *
  subst ha hb
  rw [Int.mul_ediv_cancel_left _ (by omega), Int.mul_ediv_cancel_left _ (by omega), Int.mul_comm g b, Int.mul_comm g a, Int.mul_assoc, Int.mul_comm g b]
theorem gcd_scale {p q s : Int} (hs : 0 < s) : (Int.gcd (p * s) (q * s) : Int) = Int.gcd p q * s := by
  have := Int.gcd_mul_right p s q
  rw [this, Int.natCast_mul, show ((s.natAbs : Nat) : Int) = s by omega]
theorem num_scale {p q s : Int} (hs : 0 < s) (hq : q ≠ 0) : num (p * s) (q * s) = num p q := by
  unfold num
  rw [gcd_scale hs]
  have hg := gcd_pos (p := p) hq
  by_cases h : 0 < q
  · rw [if_pos (Int.mul_pos h hs), if_pos h, Int.mul_ediv_mul_of_pos_left _ _ hs]
  · have h' : ¬ 0 < q * s := by
      intro h2
      exact h (Int.pos_of_mul_pos_left h2 hs)
    rw [if_neg h', if_neg h, ← Int.neg_mul, Int.mul_ediv_mul_of_pos_left _ _ hs]
theorem den_scale {p q s : Int} (hs : 0 < s) : den (p * s) (q * s) = den p q := by
  unfold den
  rw [gcd_scale hs, Int.natAbs_mul]
  have : ((q.natAbs * s.natAbs : Nat) : Int) = (q.natAbs : Int) * s := by
    rw [Int.natCast_mul]
    congr 1
    omega
  rw [this, Int.mul_ediv_mul_of_pos_left _ _ hs]
/-! ### askers, lambdas -/
def vtup (v : D) : D := .tup [.str "value", v]
def itup (v : D) : D := .tup [.str "InvalidRatio", v]
theorem field_eq (v : D) (hu : under S.length v = true) : f__law_field [.exc "InvalidRatio" ["value", "tag"] [v, .str "InvalidRatio"]] S = .ok v S := by
  refine eq_of_we ?_
  unfold f__law_field
  refine we_def rfl ?_
  have e : inX (.str "InvalidRatio") (.tup [.str "InvalidRatio", .str "InvalidWorld", .str "InvalidElement", .str "InvalidStep", .str "InvalidLimit"]) S = .ok (.bl true) S := by
    rw [inX_sq (xs := [.str "InvalidRatio", .str "InvalidWorld", .str "InvalidElement", .str "InvalidStep", .str "InvalidLimit"]) rfl rfl rfl]; rfl
  have e1 : ∀ a b : D, lookN "tag" ["value", "tag"] [a, b] = some b := fun a b => by
    simp only [lookN]
    rw [if_neg (by decide)]
    simp
  have e2 : ∀ a b : D, lookN "value" ["value", "tag"] [a, b] = some a := fun a b => by simp [lookN]
  simp [m__law_field, e, e1, e2]
  exact finP_same hu ⟨rfl, rfl⟩
noncomputable def whyM (L : LamText → Option SemL) : SX :=
  (sTry [("InvalidRatio", true)] 1
  (sRet (eArgs semTup (aCons (eLit (.str "value")) (aCons (callLc L 0) aNil))))
  (sRet (eArgs semTup (aCons (eXat "tag" ["InvalidRatio"] (eName 1)) (aCons (eArgs f__law_field (aCons (eName 1) aNil)) aNil)))))
noncomputable def whyF (L : LamText → Option SemL) : SemL := arity 1 (defS 2 (whyM L))
variable {T : LamText} {caps : List D} {l : SemL} {v : D} {L : LamText → Option SemL}
theorem why_ok (hL : L T = some l) (hS : noLcS S = true) (hc : noLcL caps = true) (h : l caps S = .ok v S) (hu : under S.length v = true) : whyF L [.lamc T caps] S = .ok (vtup v) S := by
  refine eq_of_we ?_
  unfold whyF
  refine we_def rfl ?_
  simp [whyM]
  rw [w_callLc rfl hL hS hc, h, we_ok]
  exact finP_same (by simpa using hu) ⟨rfl, rfl⟩
theorem why_ex (hL : L T = some l) (hS : noLcS S = true) (hc : noLcL caps = true) (h : l caps S = .ex (exR v) S) (hu : under S.length v = true) : whyF L [.lamc T caps] S = .ok (itup v) S := by
  refine eq_of_we ?_
  unfold whyF
  refine we_def rfl ?_
  have e1 : ∀ a b : D, lookN "tag" ["value", "tag"] [a, b] = some b := fun a b => by
    simp only [lookN]
    rw [if_neg (by decide)]
    simp
  simp [whyM]
  rw [w_callLc rfl hL hS hc, h, we_ex]
  simp [exR, catchQ, e1, field_eq v hu]
  exact finP_same (by simpa using hu) ⟨rfl, rfl⟩
theorem plain_pair {k : Nat} {p q : Int} : Z.plain (k + 1) (pairD p q) := by simp [pairD, Z.plain, plainL]
theorem plain_vtup {k : Nat} {v : D} (h : Z.plain (k + 1) v) : Z.plain (k + 2) (vtup v) := by
  simp [vtup, Z.plain, plainL, h, okS_lit]
theorem plain_itup {k : Nat} {v : D} (h : Z.plain (k + 1) v) : Z.plain (k + 2) (itup v) := by
  simp [itup, Z.plain, plainL, h, okS_lit]
theorem same_eq {d : D} (h : Z.plain 11 d) : f__law_same [d, d] S = .ok (.bl true) S := same_refl 11 d S h
theorem noLc_pair {p q : Int} : noLc (pairD p q) = true := by simp [pairD, noLc, noLcL]
theorem noLc_rat {p q : Int} : noLc (ratD p q) = true := by simp [ratD, noLc, noLcL]
theorem plainB (bs : List Bool) (hl : bs.length ≤ 1000 := by simp) : Z.plain 11 (.lst (bs.map .bl)) := by
  rw [Z.plain]
  refine ⟨plainL_iff.mpr fun x hx => ?_, by simp; omega⟩
  obtain ⟨y, _, rfl⟩ := List.mem_map.mp hx
  simp
theorem noLcL_ints : ∀ cs : List Int, noLcL (cs.map .int) = true
  | [] => rfl
  | c :: cs => by rw [List.map_cons, noLcL, noLcL_ints cs]; rfl
theorem noLc_bag {cs : List Int} {a g s : Int} : noLcM (bagD cs a g s) = true := by simp [bagD, noLcM, noLcL, noLc, noLcL_ints]
theorem noLcS_drawn {n : Nat} {cs : List Int} {S S' : Store} (h : noLcS S = true) (hD : Drawn n cs S S') : noLcS S' = true := by
  obtain ⟨_, a, g, s, rfl⟩ := hD
  unfold noLcS at *
  rw [List.all_eq_true] at *
  intro x hx
  rcases List.mem_or_eq_of_mem_set hx with hx | rfl
  · exact h x hx
  · exact noLc_bag
theorem noLcS_app {S : Store} {m : MO} (h : noLcS S = true) (h2 : noLcM m = true) : noLcS (S ++ [m]) = true := by
  simp [noLcS] at *
  exact ⟨h, h2⟩
/-- a list of askers, each refused or told -/
noncomputable def whysM (L : LamText → Option SemL) : SX :=
  (sRet (eFin (eLc (itAny (eName 0)) (gSet 1) bTrue (eArgs (whyF L) (aCons (eName 1) aNil)) [1])))
noncomputable def whysF (L : LamText → Option SemL) : SemL := arity 1 (defS 2 (whysM L))
theorem whys_eq {xs ys : List D} (hS : noLcS S = true) (hl : xs.length = ys.length) (hx : xs.length ≤ 1000) (hw : ∀ i x y, xs[i]? = some x → ys[i]? = some y → ∀ S, noLcS S = true → (∃ T, S = T ++ [.lst (ys.take i)]) → whyF L [x] S = .ok y S) (hy : ∀ y ∈ ys, under 0 y = true ∧ noLc y = true) (hs : ∀ x ∈ xs, under 0 x = true) :
    whysF L [.lst xs] S = .ok (.lst ys) S := by
  refine eq_of_we ?_
  unfold whysF
  refine we_def rfl ?_
  simp [whysM]
  have hnl : ∀ k, noLcL (ys.take k) = true := fun k => by
    have : ∀ zs : List D, (∀ z ∈ zs, noLc z = true) → noLcL zs = true := fun zs => by
      induction zs with
      | nil => intro _; rfl
      | cons z zs ih => intro h; rw [noLcL, h z (by simp), ih fun y hy => h y (by simp [hy])]; rfl
    exact this _ fun z hz => (hy z (List.mem_of_mem_take hz)).2
  have hu : underL S.length ys = true := underL_iff.mpr fun y h => under_of (hy y h).1
  refine we_lc (xs := xs) (itAny_of (eName_of rfl) (by simp)) (by omega) (fun pre acc S1 => S1 = S ∧ acc = ys.take pre.length) (fun p acc S1 h => ⟨by rw [h.1], by rw [h.2]; simp; omega⟩) ⟨rfl, by simp⟩ (fun pre x post acc S1 he hI => ⟨by simp, ?_⟩) fun acc S1 hI => ⟨by simp, ?_⟩
  · obtain ⟨rfl, rfl⟩ := hI
    have hlen := congrArg List.length he
    simp at hlen
    have hi : pre.length < ys.length := by omega
    have h1 : xs[pre.length]? = some x := by rw [he]; simp
    have h2 : ys[pre.length]? = some (ys[pre.length]'hi) := by simp
    have hS2 : noLcS (S1 ++ [MO.lst (ys.take pre.length)]) = true := noLcS_app hS (hnl _)
    simp [wipeS, bTrue, hw _ _ _ h1 h2 _ hS2 ⟨_, rfl⟩]
  · obtain ⟨rfl, rfl⟩ := hI
    rw [hl, List.take_length]
    exact finP_lst (Keep.refl _) hu (finP_same (by simpa using hu) ⟨rfl, rfl⟩)
end
end Z
namespace K02
open PySem PySem.Spec L2 Z PyProof.Rows
def top (i : Nat) : Stmt := PySem.Challenge.pw_waysagree_k02_ratios_made.main.body.getD i (.Pass ⟨0, 0, 0, 0⟩)
abbrev s_Ratio___bool__ : Stmt := inClass (top 15) 12
abbrev s_Ratio___eq__ : Stmt := inClass (top 15) 11
abbrev s_common_divisor : Stmt := top 13
abbrev s_is_whole : Stmt := top 10
abbrev s_Ratio___init__ : Stmt := inClass (top 15) 0
abbrev s_Ratio_text : Stmt := inClass (top 15) 4
abbrev s_Ratio___repr__ : Stmt := inClass (top 15) 13
abbrev s_Ratio_bottom : Stmt := inClass (top 15) 3
abbrev s_Ratio_top : Stmt := inClass (top 15) 2
abbrev s__law_bag : Stmt := top 18
abbrev s__law_gcd : Stmt := top 25
abbrev s__law_frac : Stmt := top 26
abbrev s__law_frac_text : Stmt := top 27
abbrev s__law_pick : Stmt := top 19
abbrev s__law_of : Stmt := top 20
abbrev s__law_same : Stmt := top 21
abbrev s__law_field : Stmt := top 22
abbrev s__law_why : Stmt := top 23
abbrev s__law_whys : Stmt := top 24
abbrev s_law : Stmt := top 28
def T_law_0 : LamText := ⟨0, lamParams (kidE (valS (nthS (bodyS (nthS (defBody s_law) 1)) 11)) 0), lamBody (kidE (valS (nthS (bodyS (nthS (defBody s_law) 1)) 11)) 0), lamScope (defScope s_law) (kidE (valS (nthS (bodyS (nthS (defBody s_law) 1)) 11)) 0), "law.<locals>.<lambda>", [], ["_law_odd", "_law_late"]⟩
def T_law_1 : LamText := ⟨1, lamParams (kidE (valS (nthS (bodyS (nthS (defBody s_law) 1)) 11)) 1), lamBody (kidE (valS (nthS (bodyS (nthS (defBody s_law) 1)) 11)) 1), lamScope (defScope s_law) (kidE (valS (nthS (bodyS (nthS (defBody s_law) 1)) 11)) 1), "law.<locals>.<lambda>", [(V.int 0)], ["_law_up", "_law_late"]⟩
def T_law_2 : LamText := ⟨2, lamParams (kidE (valS (nthS (bodyS (nthS (defBody s_law) 1)) 11)) 2), lamBody (kidE (valS (nthS (bodyS (nthS (defBody s_law) 1)) 11)) 2), lamScope (defScope s_law) (kidE (valS (nthS (bodyS (nthS (defBody s_law) 1)) 11)) 2), "law.<locals>.<lambda>", [(V.int 0)], ["_law_late", "_law_share"]⟩
noncomputable def fk_Ratio___init___0 : SemL := kwS 1 1 3 [0, 1, 2] [(.int 1)] (defS 4 m_Ratio___init__)
noncomputable def fk_Ratio___init___1 : SemL := kwS 1 2 3 [0, 2, 1] [(.int 1)] (defS 4 m_Ratio___init__)
/-- a lambda of law -/
noncomputable def l_law_0 : SemL := lamF [] (eFin (eArgs (makeS "Ratio" f_Ratio___init__) (aCons (eName 0) (aCons (eName 1) aNil))))
/-- a lambda of law -/
noncomputable def l_law_1 : SemL := lamF [(.int 0)] (eFin (eArgs (makeS "Ratio" f_Ratio___init__) (aCons (eName 0) (aCons (eName 1) aNil))))
/-- a lambda of law -/
noncomputable def l_law_2 : SemL := lamF [(.int 0)] (eFin (eCallK 0 2 (makeS "Ratio" fk_Ratio___init___1) aNil (aCons (eName 0) (aCons (eName 1) aNil))))
noncomputable def lamTab (Ps : Nat → Addr) : LamText → Option SemL := consL T_law_0 l_law_0 (consL T_law_1 l_law_1 (consL T_law_2 l_law_2 (nilL)))
/-- _law_why -/
noncomputable def m__law_why (Ps : Nat → Addr) : SX :=
  (sTry [("InvalidRatio", true)] 1
  (sRet (eArgs semTup (aCons (eLit (.str "value")) (aCons (callLc (lamTab Ps) 0) aNil))))
  (sRet (eArgs semTup (aCons (eXat "tag" ["InvalidRatio"] (eName 1)) (aCons (eArgs f__law_field (aCons (eName 1) aNil)) aNil)))))
noncomputable def f__law_why (Ps : Nat → Addr) : SemL := arity 1 (defS 2 (m__law_why Ps))
/-- _law_whys -/
noncomputable def m__law_whys (Ps : Nat → Addr) : SX :=
  (sRet (eFin (eLc (itAny (eName 0)) (gSet 1) bTrue (eArgs (f__law_why Ps) (aCons (eName 1) aNil)) [1])))
noncomputable def f__law_whys (Ps : Nat → Addr) : SemL := arity 1 (defS 2 (m__law_whys Ps))
/-- law -/
noncomputable def m_law (Ps : Nat → Addr) (κ : List (Str × Addr)) : SX :=
  (sSeq (sAsg (eArgs f__law_bag (aCons (eName 0) aNil)) (gSet 1))
  (sSeq (sFor (itRange1 (aCons (eLit (.int 8)) aNil)) (gSet 2)
  (sSeq (sAsg (eArgs f__law_of (aCons (eName 1) (aCons (eArgs semLst (aCons (eLit (.int 5)) (aCons (eLit (.int 100)) (aCons (eBin powI (eLit (.int 10)) (eLit (.int 14))) aNil)))) aNil))) (gSet 3))
  (sSeq (sAsg (eArgs semTup (aCons (eBin addX (eLit (.int 1)) (eArgs f__law_pick (aCons (eName 1) (aCons (eName 3) aNil)))) (aCons (eBin subI (eArgs f__law_pick (aCons (eName 1) (aCons (eBin mulX (eLit (.int 2)) (eName 3)) aNil))) (eName 3)) (aCons (eBin addX (eLit (.int 1)) (eArgs f__law_pick (aCons (eName 1) (aCons (eName 3) aNil)))) aNil)))) (gTupX (gConsX (gSet 4) (gConsX (gSet 5) (gConsX (gSet 6) gNilX)))))
  (sSeq (sAsg (eArgs f__law_of (aCons (eName 1) (aCons (eArgs semLst (aCons (eName 6) (aCons (eBin subI (eLit (.int 0)) (eName 6)) aNil))) aNil))) (gSet 6))
  (sSeq (sAsg (eArgs f__law_frac (aCons (eBin mulX (eName 5) (eName 4)) (aCons (eBin mulX (eName 6) (eName 4)) aNil))) (gSet 7))
  (sSeq (sAsg (eFin (eArgs (makeS "Ratio" f_Ratio___init__) (aCons (eBin mulX (eName 5) (eName 4)) (aCons (eBin mulX (eName 6) (eName 4)) aNil)))) (gSet 8))
  (sSeq (sAsg (eArgs semLst (aCons (eAttrZ "top" [("Ratio", .prop f_Ratio_top)] (eName 8)) (aCons (eAttrZ "bottom" [("Ratio", .prop f_Ratio_bottom)] (eName 8)) (aCons (eMethZ "text" [("Ratio", f_Ratio_text)] (eName 8) aNil) (aCons (eArgs (ownC1 ckStr [("Ratio", f_Ratio___repr__)]) (aCons (eName 8) aNil)) (aCons (eArgs (orSL semBool (ownC1 ckBl [("Ratio", f_Ratio___bool__)])) (aCons (eName 8) aNil)) aNil)))))) (gSet 9))
  (sSeq (sIf (bNot (bTru (orSB truPl (ownTru [("Ratio", f_Ratio___bool__)])) (eArgs f__law_same (aCons (eName 9) (aCons (eArgs semLst (aCons (eBin ixX (eName 7) (eLit (.int 0))) (aCons (eBin ixX (eName 7) (eLit (.int 1))) (aCons (eArgs f__law_frac_text (aCons (eName 7) aNil)) (aCons (eBin addX (eBin addX (eLit (.str "Ratio(")) (eArgs f__law_frac_text (aCons (eName 7) aNil))) (eLit (.str ")"))) (aCons (eBin (orS2 (eqD true) (ownEq true ["Ratio"] [("Ratio", f_Ratio___eq__)])) (eName 5) (eLit (.int 0))) aNil)))))) aNil)))))
  (sRet (eLit (.bl false)))
  sNil)
  (sSeq (sAsg (eFin (eCallK 0 1 (makeS "Ratio" fk_Ratio___init___0) aNil (aCons (eName 5) aNil))) (gSet 10))
  (sSeq (sAsg (eArgs semLst (aCons (eBin (orS2 (eqD false) (ownEq false ["Ratio"] [("Ratio", f_Ratio___eq__)])) (eName 8) (eFin (eArgs (makeS "Ratio" f_Ratio___init__) (aCons (eName 5) (aCons (eName 6) aNil))))) (aCons (eBin (orS2 (eqD true) (ownEq true ["Ratio"] [("Ratio", f_Ratio___eq__)])) (eName 8) (eFin (eArgs (makeS "Ratio" f_Ratio___init__) (aCons (eName 5) (aCons (eName 6) aNil))))) (aCons (eBin (orS2 (eqD false) (ownEq false ["Ratio"] [("Ratio", f_Ratio___eq__)])) (eName 8) (eFin (eArgs (makeS "Ratio" f_Ratio___init__) (aCons (eBin addX (eBin ixX (eName 7) (eLit (.int 0))) (eLit (.int 1))) (aCons (eBin ixX (eName 7) (eLit (.int 1))) aNil))))) (aCons (eBin (orS2 (eqD false) (ownEq false ["Ratio"] [("Ratio", f_Ratio___eq__)])) (eName 10) (eName 5)) aNil))))) (gSet 11))
  (sSeq (sIf (bOr (bNot (bTru (orSB truPl (ownTru [("Ratio", f_Ratio___bool__)])) (eArgs f__law_same (aCons (eName 11) (aCons (eArgs semLst (aCons (eLit (.bl true)) (aCons (eLit (.bl false)) (aCons (eLit (.bl false)) (aCons (eLit (.bl false)) aNil))))) aNil))))) (bNot (bTru (orSB truPl (ownTru [("Ratio", f_Ratio___bool__)])) (eArgs f__law_same (aCons (eArgs semLst (aCons (eAttrZ "top" [("Ratio", .prop f_Ratio_top)] (eName 10)) (aCons (eAttrZ "bottom" [("Ratio", .prop f_Ratio_bottom)] (eName 10)) aNil))) (aCons (eArgs semLst (aCons (eName 5) (aCons (eLit (.int 1)) aNil))) aNil))))))
  (sRet (eLit (.bl false)))
  sNil)
  (sSeq (sAsg (eArgs semTup (aCons (eArgs f__law_of (aCons (eName 1) (aCons (eArgs semLst (aCons (eLit .non) (aCons (eLit (.str "1")) (aCons (eLit (.bl true)) (aCons (eArgs semTup (aCons (eLit (.int 1)) aNil)) (aCons (eArgs semLst (aCons (eLit (.int 2)) aNil)) aNil)))))) aNil))) (aCons (eArgs f__law_of (aCons (eName 1) (aCons (eArgs semLst (aCons (eLit (.int 0)) (aCons (eLit .non) (aCons (eLit (.str "2")) (aCons (eLit (.bl false)) (aCons (eArgs semTup (aCons (eLit (.int 0)) aNil)) aNil)))))) aNil))) aNil))) (gTupX (gConsX (gSet 12) (gConsX (gSet 13) gNilX))))
  (sSeq (sAsg (eArgs semLst (aCons (eLam 0 (Ps 0) κ T_law_0) (aCons (eLam 0 (Ps 0) κ T_law_1) (aCons (eLam 0 (Ps 0) κ T_law_2) aNil)))) (gSet 14))
  (sSeq (sIf (bNot (bTru (orSB truPl (ownTru [("Ratio", f_Ratio___bool__)])) (eArgs f__law_same (aCons (callL ["_law_odd", "_law_late", "_law_up", "_law_share"] ["_law_script", "_law_bag_here", "_law_turn", "_law_wide", "_law_share", "_law_up", "_law_down", "_law_due", "_law_found", "_law_told", "_law_whole", "_law_same_here", "_law_odd", "_law_late", "_law_asks", "_law_other"] κ (f__law_whys Ps) (aCons (eName 14) aNil)) (aCons (eArgs semLst (aCons (eArgs semTup (aCons (eLit (.str "InvalidRatio")) (aCons (eName 12) aNil))) (aCons (eArgs semTup (aCons (eLit (.str "InvalidRatio")) (aCons (eName 13) aNil))) (aCons (eArgs semTup (aCons (eLit (.str "InvalidRatio")) (aCons (eName 13) aNil))) aNil)))) aNil)))))
  (sRet (eLit (.bl false)))
  sNil)
  (sIf (bTru (orSB truPl (ownTru [("Ratio", f_Ratio___bool__)])) (eArgs semAny (aCons (eFin (eLc (itAny (eArgs semLst (aCons (eLit .non) (aCons (eName 7) (aCons (eMethZ "text" [("Ratio", f_Ratio_text)] (eName 8) aNil) (aCons (eLit (.bl true)) aNil)))))) (gSet 15) bTrue (eBin (orS2 (eqD false) (ownEq false ["Ratio"] [("Ratio", f_Ratio___eq__)])) (eName 8) (eName 15)) [15])) aNil)))
  (sRet (eLit (.bl false)))
  sNil)))))))))))))))
  (sRet (eAnd (eNot (eArgs (orSL semBool (ownC1 ckBl [("Ratio", f_Ratio___bool__)])) (aCons (eFin (eArgs (makeS "Ratio" f_Ratio___init__) (aCons (eLit (.int 0)) (aCons (eBin subI (eLit (.int 0)) (eLit (.int 5))) aNil)))) aNil))) (eArgs f__law_same (aCons (eArgs semLst (aCons (eAttrZ "top" [("Ratio", .prop f_Ratio_top)] (eFin (eArgs (makeS "Ratio" f_Ratio___init__) (aCons (eLit (.int 0)) (aCons (eBin subI (eLit (.int 0)) (eLit (.int 5))) aNil))))) (aCons (eAttrZ "bottom" [("Ratio", .prop f_Ratio_bottom)] (eFin (eArgs (makeS "Ratio" f_Ratio___init__) (aCons (eLit (.int 0)) (aCons (eBin subI (eLit (.int 0)) (eLit (.int 5))) aNil))))) aNil))) (aCons (eArgs semLst (aCons (eLit (.int 0)) (aCons (eLit (.int 1)) aNil))) aNil)))))))
theorem sc_Ratio___bool__ : FnScope ["self"] ["self"] (defScope s_Ratio___bool__) := ⟨rfl, rfl, rfl, by decide +kernel, rfl, by decide +kernel, by decide +kernel⟩
theorem sc_Ratio___eq__ : FnScope ["self", "other"] ["self", "other"] (defScope s_Ratio___eq__) := ⟨rfl, rfl, rfl, by decide +kernel, rfl, by decide +kernel, by decide +kernel⟩
theorem sc_common_divisor : FnScope ["one", "other"] ["one", "other"] (defScope s_common_divisor) := ⟨rfl, rfl, rfl, by decide +kernel, rfl, by decide +kernel, by decide +kernel⟩
theorem sc_is_whole : FnScope ["value"] ["value"] (defScope s_is_whole) := ⟨rfl, rfl, rfl, by decide +kernel, rfl, by decide +kernel, by decide +kernel⟩
theorem sc_Ratio___init__ : FnScope ["self", "top", "bottom", "share"] ["self", "top", "bottom"] (defScope s_Ratio___init__) := ⟨rfl, rfl, rfl, by decide +kernel, rfl, by decide +kernel, by decide +kernel⟩
theorem sc_Ratio_text : FnScope ["self"] ["self"] (defScope s_Ratio_text) := ⟨rfl, rfl, rfl, by decide +kernel, rfl, by decide +kernel, by decide +kernel⟩
theorem sc_Ratio___repr__ : FnScope ["self"] ["self"] (defScope s_Ratio___repr__) := ⟨rfl, rfl, rfl, by decide +kernel, rfl, by decide +kernel, by decide +kernel⟩
theorem sc_Ratio_bottom : FnScope ["self"] ["self"] (defScope s_Ratio_bottom) := ⟨rfl, rfl, rfl, by decide +kernel, rfl, by decide +kernel, by decide +kernel⟩
theorem sc_Ratio_top : FnScope ["self"] ["self"] (defScope s_Ratio_top) := ⟨rfl, rfl, rfl, by decide +kernel, rfl, by decide +kernel, by decide +kernel⟩
theorem sc__law_bag : FnScope ["_law_script"] ["_law_script"] (defScope s__law_bag) := ⟨rfl, rfl, rfl, by decide +kernel, rfl, by decide +kernel, by decide +kernel⟩
theorem sc__law_gcd : FnScope ["_law_one", "_law_other", "_law_high", "_law_low"] ["_law_one", "_law_other"] (defScope s__law_gcd) := ⟨rfl, rfl, rfl, by decide +kernel, rfl, by decide +kernel, by decide +kernel⟩
theorem sc__law_frac : FnScope ["_law_up", "_law_down", "_law_share"] ["_law_up", "_law_down"] (defScope s__law_frac) := ⟨rfl, rfl, rfl, by decide +kernel, rfl, by decide +kernel, by decide +kernel⟩
theorem sc__law_frac_text : FnScope ["_law_pair"] ["_law_pair"] (defScope s__law_frac_text) := ⟨rfl, rfl, rfl, by decide +kernel, rfl, by decide +kernel, by decide +kernel⟩
theorem sc__law_pick : FnScope ["_law_bag_here", "_law_many", "_law_cell", "_law_digit", "_law_seed"] ["_law_bag_here", "_law_many"] (defScope s__law_pick) := ⟨rfl, rfl, rfl, by decide +kernel, rfl, by decide +kernel, by decide +kernel⟩
theorem sc__law_of : FnScope ["_law_bag_here", "_law_some"] ["_law_bag_here", "_law_some"] (defScope s__law_of) := ⟨rfl, rfl, rfl, by decide +kernel, rfl, by decide +kernel, by decide +kernel⟩
theorem sc__law_same : FnScope ["_law_found", "_law_due", "_law_a", "_law_b"] ["_law_found", "_law_due"] (defScope s__law_same) := ⟨rfl, rfl, rfl, by decide +kernel, rfl, by decide +kernel, by decide +kernel⟩
theorem sc__law_field : FnScope ["_law_e"] ["_law_e"] (defScope s__law_field) := ⟨rfl, rfl, rfl, by decide +kernel, rfl, by decide +kernel, by decide +kernel⟩
theorem sc__law_why : FnScope ["_law_ask", "_law_e"] ["_law_ask"] (defScope s__law_why) := ⟨rfl, rfl, rfl, by decide +kernel, rfl, by decide +kernel, by decide +kernel⟩
theorem sc__law_whys : FnScope ["_law_asks", "_law_ask"] ["_law_asks"] (defScope s__law_whys) := ⟨rfl, rfl, rfl, by decide +kernel, rfl, by decide +kernel, by decide +kernel⟩
theorem sc_law : FnScope ["_law_script", "_law_bag_here", "_law_turn", "_law_wide", "_law_share", "_law_up", "_law_down", "_law_due", "_law_found", "_law_told", "_law_whole", "_law_same_here", "_law_odd", "_law_late", "_law_asks", "_law_other"] ["_law_script"] (defScope s_law) := ⟨rfl, rfl, rfl, by decide +kernel, rfl, by decide +kernel, by decide +kernel⟩
theorem lw_law_0 : LamWf T_law_0 [] := ⟨rfl, rfl, rfl, by decide +kernel, by decide +kernel, by decide +kernel, by decide +kernel, by decide +kernel, rfl, (lam_bind0 rfl fun _ _ _ _ _ => rfl)⟩
theorem lw_law_1 : LamWf T_law_1 ["_law_a"] := ⟨rfl, rfl, rfl, by decide +kernel, by decide +kernel, by decide +kernel, by decide +kernel, by decide +kernel, rfl, (lam_bind1 rfl fun _ _ _ _ _ _ _ => ⟨_, rfl, rfl⟩)⟩
theorem lw_law_2 : LamWf T_law_2 ["_law_b"] := ⟨rfl, rfl, rfl, by decide +kernel, by decide +kernel, by decide +kernel, by decide +kernel, by decide +kernel, rfl, (lam_bind1 rfl fun _ _ _ _ _ _ _ => ⟨_, rfl, rfl⟩)⟩
/-- what the walk asks of the written part -/
structure Tx (K : PySem.W.Frag) (mg : Str → Option Value) (a_common_divisor a_is_whole a__law_bag a__law_gcd a__law_frac a__law_frac_text a__law_pick a__law_of a__law_same a__law_field a__law_why a__law_whys a_law C_Ratio a_Ratio___bool__ a_Ratio___eq__ a_Ratio___init__ a_Ratio_text a_Ratio___repr__ a_Ratio_bottom a_Ratio_top p_Ratio_bottom p_Ratio_top C_WayError C_Missing C_InvalidRatio C_NothingLeft : Addr) : Prop where
  m_common_divisor : mg "common_divisor" = some (.ref a_common_divisor)
  k_common_divisor : PySem.W.keepIn K (.ref a_common_divisor) = true
  m_is_whole : mg "is_whole" = some (.ref a_is_whole)
  k_is_whole : PySem.W.keepIn K (.ref a_is_whole) = true
  m__law_bag : mg "_law_bag" = some (.ref a__law_bag)
  k__law_bag : PySem.W.keepIn K (.ref a__law_bag) = true
  m__law_gcd : mg "_law_gcd" = some (.ref a__law_gcd)
  k__law_gcd : PySem.W.keepIn K (.ref a__law_gcd) = true
  m__law_frac : mg "_law_frac" = some (.ref a__law_frac)
  k__law_frac : PySem.W.keepIn K (.ref a__law_frac) = true
  m__law_frac_text : mg "_law_frac_text" = some (.ref a__law_frac_text)
  k__law_frac_text : PySem.W.keepIn K (.ref a__law_frac_text) = true
  m__law_pick : mg "_law_pick" = some (.ref a__law_pick)
  k__law_pick : PySem.W.keepIn K (.ref a__law_pick) = true
  m__law_of : mg "_law_of" = some (.ref a__law_of)
  k__law_of : PySem.W.keepIn K (.ref a__law_of) = true
  m__law_same : mg "_law_same" = some (.ref a__law_same)
  k__law_same : PySem.W.keepIn K (.ref a__law_same) = true
  m__law_field : mg "_law_field" = some (.ref a__law_field)
  k__law_field : PySem.W.keepIn K (.ref a__law_field) = true
  m__law_why : mg "_law_why" = some (.ref a__law_why)
  k__law_why : PySem.W.keepIn K (.ref a__law_why) = true
  m__law_whys : mg "_law_whys" = some (.ref a__law_whys)
  k__law_whys : PySem.W.keepIn K (.ref a__law_whys) = true
  m_law : mg "law" = some (.ref a_law)
  k_law : PySem.W.keepIn K (.ref a_law) = true
  m_Ratio : mg "Ratio" = some (.ref C_Ratio)
  cl_Ratio : Cls K C_Ratio
  mk_Ratio : Mk K C_Ratio a_Ratio___init__
  na_Ratio_own_bottom : NoAttr K C_Ratio "own_bottom"
  na_Ratio_own_top : NoAttr K C_Ratio "own_top"
  me_Ratio___bool__ : Meth K C_Ratio "__bool__" a_Ratio___bool__
  me_Ratio___eq__ : Meth K C_Ratio "__eq__" a_Ratio___eq__
  me_Ratio___repr__ : Meth K C_Ratio "__repr__" a_Ratio___repr__
  me_Ratio_text : Meth K C_Ratio "text" a_Ratio_text
  it_Ratio : InsT K C_Ratio
  ne_Ratio : PySem.W.findIn K (.ref C_Ratio) "__ne__" = some (some (.builtin "object.__ne__"))
  ob_Ratio : PySem.W.mroIn K C_Ratio (.type "object") = some true
  nf_Ratio_Ratio : PySem.W.notFirst K C_Ratio (.ref C_Ratio) = true
  pr_Ratio_bottom : PropOf K C_Ratio "bottom" p_Ratio_bottom a_Ratio_bottom
  pr_Ratio_top : PropOf K C_Ratio "top" p_Ratio_top a_Ratio_top
  kt_Ratio_Ratio : PySem.W.kitOne K (.ref C_Ratio) (.ref C_Ratio) = some true
  ty_Ratio : ((PySem.W.clsIn K C_Ratio).isSome && PySem.W.typeIn K (.ref C_Ratio) == some (.type "type")) = true
  m_WayError : mg "WayError" = some (.ref C_WayError)
  m_Missing : mg "Missing" = some (.ref C_Missing)
  m_InvalidRatio : mg "InvalidRatio" = some (.ref C_InvalidRatio)
  m_NothingLeft : mg "NothingLeft" = some (.ref C_NothingLeft)
  xf_InvalidRatio : XfC K C_InvalidRatio
  xn_InvalidRatio_tag : PySem.W.findIn K (.ref C_InvalidRatio) "tag" = some none
  xn_InvalidRatio_value : PySem.W.findIn K (.ref C_InvalidRatio) "value" = some none
  tr_InvalidRatio_WayError_Missing_NothingLeft : PySem.W.exmAny K (.ref C_InvalidRatio) [.ref C_WayError, .ref C_Missing, .ref C_NothingLeft] = some true
  b_abs : mg "abs" = none
  b_all : mg "all" = none
  b_any : mg "any" = none
  b_bool : mg "bool" = none
  b_int : mg "int" = none
  b_isinstance : mg "isinstance" = none
  b_len : mg "len" = none
  b_list : mg "list" = none
  b_range : mg "range" = none
  b_repr : mg "repr" = none
  b_str : mg "str" = none
  b_tuple : mg "tuple" = none
  b_zip : mg "zip" = none
section
variable {P : Program} {w : World} {K : PySem.W.Frag} {mg : Str → Option Value} {base : Heap} {a_common_divisor a_is_whole a__law_bag a__law_gcd a__law_frac a__law_frac_text a__law_pick a__law_of a__law_same a__law_field a__law_why a__law_whys a_law C_Ratio a_Ratio___bool__ a_Ratio___eq__ a_Ratio___init__ a_Ratio_text a_Ratio___repr__ a_Ratio_bottom a_Ratio_top p_Ratio_bottom p_Ratio_top C_WayError C_Missing C_InvalidRatio C_NothingLeft : Addr}
theorem o_Ratio___bool__ (T : Tx K mg a_common_divisor a_is_whole a__law_bag a__law_gcd a__law_frac a__law_frac_text a__law_pick a__law_of a__law_same a__law_field a__law_why a__law_whys a_law C_Ratio a_Ratio___bool__ a_Ratio___eq__ a_Ratio___init__ a_Ratio_text a_Ratio___repr__ a_Ratio_bottom a_Ratio_top p_Ratio_bottom p_Ratio_top C_WayError C_Missing C_InvalidRatio C_NothingLeft) {fd : FuncData} (F : FunD K "__bool__" "Ratio.__bool__" (defArgs s_Ratio___bool__) (defBody s_Ratio___bool__) (defScope s_Ratio___bool__) [] [] a_Ratio___bool__ fd)  : FnOk P w K mg base (L2.CX P w) 1 a_Ratio___bool__ fd ["self"] (spOf K mg 1 (defS 1 (m_Ratio___bool__))) := by
  refine fn_okD (N := ["self"]) F sc_Ratio___bool__ (k := 0) (body := m_Ratio___bool__) fun A outer s H E hr => ?_
  have tk : Takes (cxOf (L2.CX P w) P w K mg base ["self"] "Ratio.__bool__" (defScope s_Ratio___bool__) a_Ratio___bool__ fd.code A outer s H E) (fun c d _ H' => E c d H') := takes_of rfl rfl rfl rfl
  have hp : PassesOwn (model P w) (cxOf (L2.CX P w) P w K mg base ["self"] "Ratio.__bool__" (defScope s_Ratio___bool__) a_Ratio___bool__ fd.code A outer s H E).A (cxOf (L2.CX P w) P w K mg base ["self"] "Ratio.__bool__" (defScope s_Ratio___bool__) a_Ratio___bool__ fd.code A outer s H E).env (cxOf (L2.CX P w) P w K mg base ["self"] "Ratio.__bool__" (defScope s_Ratio___bool__) a_Ratio___bool__ fd.code A outer s H E).xe := passes_of rfl
  unfold m_Ratio___bool__
  exact (s_one (s_ret (r_callT d_bool rfl T.b_bool PyProof.Rows.boot_bool (a_cons (r_attrZ (attr_cons T.m_Ratio T.cl_Ratio T.na_Ratio_own_top attr_nil) (r_name (i := 0))) a_nil))))
theorem d_Ratio___bool__ {fd : FuncData} (F : FunD K "__bool__" "Ratio.__bool__" (defArgs s_Ratio___bool__) (defBody s_Ratio___bool__) (defScope s_Ratio___bool__) [] [] a_Ratio___bool__ fd) (O : FnOk P w K mg base (L2.CX P w) 1 a_Ratio___bool__ fd ["self"] (spOf K mg 1 (defS 1 (m_Ratio___bool__)))) : FZ P w K mg base 1 a_Ratio___bool__ f_Ratio___bool__ := fz_of0 O (F.bindsN (ps := ["self"]) fun _ _ _ _ _ _ us hl => match us, hl with | [_], _ => rfl)
theorem o_Ratio___eq__ (T : Tx K mg a_common_divisor a_is_whole a__law_bag a__law_gcd a__law_frac a__law_frac_text a__law_pick a__law_of a__law_same a__law_field a__law_why a__law_whys a_law C_Ratio a_Ratio___bool__ a_Ratio___eq__ a_Ratio___init__ a_Ratio_text a_Ratio___repr__ a_Ratio_bottom a_Ratio_top p_Ratio_bottom p_Ratio_top C_WayError C_Missing C_InvalidRatio C_NothingLeft) {fd : FuncData} (F : FunD K "__eq__" "Ratio.__eq__" (defArgs s_Ratio___eq__) (defBody s_Ratio___eq__) (defScope s_Ratio___eq__) [] [] a_Ratio___eq__ fd)  : FnOk P w K mg base (L2.CX P w) 1 a_Ratio___eq__ fd ["self", "other"] (spOf K mg 2 (defS 2 (m_Ratio___eq__))) := by
  refine fn_okD (N := ["self", "other"]) F sc_Ratio___eq__ (k := 0) (body := m_Ratio___eq__) fun A outer s H E hr => ?_
  have tk : Takes (cxOf (L2.CX P w) P w K mg base ["self", "other"] "Ratio.__eq__" (defScope s_Ratio___eq__) a_Ratio___eq__ fd.code A outer s H E) (fun c d _ H' => E c d H') := takes_of rfl rfl rfl rfl
  have hp : PassesOwn (model P w) (cxOf (L2.CX P w) P w K mg base ["self", "other"] "Ratio.__eq__" (defScope s_Ratio___eq__) a_Ratio___eq__ fd.code A outer s H E).A (cxOf (L2.CX P w) P w K mg base ["self", "other"] "Ratio.__eq__" (defScope s_Ratio___eq__) a_Ratio___eq__ fd.code A outer s H E).env (cxOf (L2.CX P w) P w K mg base ["self", "other"] "Ratio.__eq__" (defScope s_Ratio___eq__) a_Ratio___eq__ fd.code A outer s H E).xe := passes_of rfl
  unfold m_Ratio___eq__
  exact (s_one (s_ret (r_and (r_callB (ow_isi (isi_cons T.m_Ratio T.ty_Ratio (ici_cons T.m_Ratio T.it_Ratio T.kt_Ratio_Ratio ici_nil) ici_nil isi_nil)) rfl T.b_isinstance PyProof.Rows.boot_isinstance (a_cons (r_name (i := 1)) (a_cons (r_cls rfl T.m_Ratio) a_nil))) (r_and (r_cmp (d_eq hr.units) (r_attrZ (attr_cons T.m_Ratio T.cl_Ratio T.na_Ratio_own_top attr_nil) (r_name (i := 0))) (r_attrZ (attr_cons T.m_Ratio T.cl_Ratio T.na_Ratio_own_top attr_nil) (r_name (i := 1)))) (r_one (r_cmp (d_eq hr.units) (r_attrZ (attr_cons T.m_Ratio T.cl_Ratio T.na_Ratio_own_bottom attr_nil) (r_name (i := 0))) (r_attrZ (attr_cons T.m_Ratio T.cl_Ratio T.na_Ratio_own_bottom attr_nil) (r_name (i := 1)))))))))
theorem d_Ratio___eq__ {fd : FuncData} (F : FunD K "__eq__" "Ratio.__eq__" (defArgs s_Ratio___eq__) (defBody s_Ratio___eq__) (defScope s_Ratio___eq__) [] [] a_Ratio___eq__ fd) (O : FnOk P w K mg base (L2.CX P w) 1 a_Ratio___eq__ fd ["self", "other"] (spOf K mg 2 (defS 2 (m_Ratio___eq__)))) : FZ P w K mg base 1 a_Ratio___eq__ f_Ratio___eq__ := fz_of0 O (F.bindsN (ps := ["self", "other"]) fun _ _ _ _ _ _ us hl => match us, hl with | [_, _], _ => rfl)
theorem o_common_divisor (T : Tx K mg a_common_divisor a_is_whole a__law_bag a__law_gcd a__law_frac a__law_frac_text a__law_pick a__law_of a__law_same a__law_field a__law_why a__law_whys a_law C_Ratio a_Ratio___bool__ a_Ratio___eq__ a_Ratio___init__ a_Ratio_text a_Ratio___repr__ a_Ratio_bottom a_Ratio_top p_Ratio_bottom p_Ratio_top C_WayError C_Missing C_InvalidRatio C_NothingLeft) {fd : FuncData} (F : FunD K "common_divisor" "common_divisor" (defArgs s_common_divisor) (defBody s_common_divisor) (defScope s_common_divisor) [] [] a_common_divisor fd)  : FnOk P w K mg base (L2.CX P w) 1 a_common_divisor fd ["one", "other"] (spOf K mg 2 (defS 2 (m_common_divisor))) := by
  refine fn_okD (N := ["one", "other"]) F sc_common_divisor (k := 0) (body := m_common_divisor) fun A outer s H E hr => ?_
  have tk : Takes (cxOf (L2.CX P w) P w K mg base ["one", "other"] "common_divisor" (defScope s_common_divisor) a_common_divisor fd.code A outer s H E) (fun c d _ H' => E c d H') := takes_of rfl rfl rfl rfl
  have hp : PassesOwn (model P w) (cxOf (L2.CX P w) P w K mg base ["one", "other"] "common_divisor" (defScope s_common_divisor) a_common_divisor fd.code A outer s H E).A (cxOf (L2.CX P w) P w K mg base ["one", "other"] "common_divisor" (defScope s_common_divisor) a_common_divisor fd.code A outer s H E).env (cxOf (L2.CX P w) P w K mg base ["one", "other"] "common_divisor" (defScope s_common_divisor) a_common_divisor fd.code A outer s H E).xe := passes_of rfl
  unfold m_common_divisor
  exact (s_cons (s_par (i := 0) (j := 1) rfl sc_common_divisor.nd (a_cons (r_callB d_abs rfl T.b_abs PyProof.Rows.boot_abs (a_cons (r_name (i := 0)) a_nil)) (a_cons (r_callB d_abs rfl T.b_abs PyProof.Rows.boot_abs (a_cons (r_name (i := 1)) a_nil)) a_nil)))
  (s_cons (s_while hp (b_cmp d_gtI (r_name (i := 1)) r_int)
  (s_one (s_par (i := 0) (j := 1) rfl sc_common_divisor.nd (a_cons (r_name (i := 1)) (a_cons (r_bin d_modI (r_name (i := 0)) (r_name (i := 1))) a_nil)))))
  (s_one (s_ret (r_name (i := 0))))))
theorem d_common_divisor {fd : FuncData} (F : FunD K "common_divisor" "common_divisor" (defArgs s_common_divisor) (defBody s_common_divisor) (defScope s_common_divisor) [] [] a_common_divisor fd) (O : FnOk P w K mg base (L2.CX P w) 1 a_common_divisor fd ["one", "other"] (spOf K mg 2 (defS 2 (m_common_divisor)))) : FZ P w K mg base 1 a_common_divisor f_common_divisor := fz_of0 O (F.bindsN (ps := ["one", "other"]) fun _ _ _ _ _ _ us hl => match us, hl with | [_, _], _ => rfl)
theorem o_is_whole (T : Tx K mg a_common_divisor a_is_whole a__law_bag a__law_gcd a__law_frac a__law_frac_text a__law_pick a__law_of a__law_same a__law_field a__law_why a__law_whys a_law C_Ratio a_Ratio___bool__ a_Ratio___eq__ a_Ratio___init__ a_Ratio_text a_Ratio___repr__ a_Ratio_bottom a_Ratio_top p_Ratio_bottom p_Ratio_top C_WayError C_Missing C_InvalidRatio C_NothingLeft) {fd : FuncData} (F : FunD K "is_whole" "is_whole" (defArgs s_is_whole) (defBody s_is_whole) (defScope s_is_whole) [] [] a_is_whole fd)  : FnOk P w K mg base (L2.CX P w) 1 a_is_whole fd ["value"] (spOf K mg 1 (defS 1 (m_is_whole))) := by
  refine fn_okD (N := ["value"]) F sc_is_whole (k := 0) (body := m_is_whole) fun A outer s H E hr => ?_
  have tk : Takes (cxOf (L2.CX P w) P w K mg base ["value"] "is_whole" (defScope s_is_whole) a_is_whole fd.code A outer s H E) (fun c d _ H' => E c d H') := takes_of rfl rfl rfl rfl
  have hp : PassesOwn (model P w) (cxOf (L2.CX P w) P w K mg base ["value"] "is_whole" (defScope s_is_whole) a_is_whole fd.code A outer s H E).A (cxOf (L2.CX P w) P w K mg base ["value"] "is_whole" (defScope s_is_whole) a_is_whole fd.code A outer s H E).env (cxOf (L2.CX P w) P w K mg base ["value"] "is_whole" (defScope s_is_whole) a_is_whole fd.code A outer s H E).xe := passes_of rfl
  unfold m_is_whole
  exact (s_one (s_ret (r_and (r_callB d_isiX rfl T.b_isinstance PyProof.Rows.boot_isinstance (a_cons (r_name (i := 0)) (a_cons (r_ty rfl T.b_int PyProof.Rows.boot_int) a_nil))) (r_one (r_not (r_callB d_isiX rfl T.b_isinstance PyProof.Rows.boot_isinstance (a_cons (r_name (i := 0)) (a_cons (r_ty rfl T.b_bool PyProof.Rows.boot_bool) a_nil))))))))
theorem d_is_whole {fd : FuncData} (F : FunD K "is_whole" "is_whole" (defArgs s_is_whole) (defBody s_is_whole) (defScope s_is_whole) [] [] a_is_whole fd) (O : FnOk P w K mg base (L2.CX P w) 1 a_is_whole fd ["value"] (spOf K mg 1 (defS 1 (m_is_whole)))) : FZ P w K mg base 1 a_is_whole f_is_whole := fz_of0 O (F.bindsN (ps := ["value"]) fun _ _ _ _ _ _ us hl => match us, hl with | [_], _ => rfl)
theorem o_Ratio___init__ (T : Tx K mg a_common_divisor a_is_whole a__law_bag a__law_gcd a__law_frac a__law_frac_text a__law_pick a__law_of a__law_same a__law_field a__law_why a__law_whys a_law C_Ratio a_Ratio___bool__ a_Ratio___eq__ a_Ratio___init__ a_Ratio_text a_Ratio___repr__ a_Ratio_bottom a_Ratio_top p_Ratio_bottom p_Ratio_top C_WayError C_Missing C_InvalidRatio C_NothingLeft) {fd : FuncData} (F : FunD K "__init__" "Ratio.__init__" (defArgs s_Ratio___init__) (defBody s_Ratio___init__) (defScope s_Ratio___init__) [(V.int 1)] [] a_Ratio___init__ fd) (Z_common_divisor : FZ P w K mg base 1 a_common_divisor f_common_divisor) (Z_is_whole : FZ P w K mg base 1 a_is_whole f_is_whole) (X_InvalidRatio : XMk P w K mg base "InvalidRatio" C_InvalidRatio 2 "InvalidRatio" ["value"]) : FnOk P w K mg base (L2.CX P w) 4 a_Ratio___init__ fd ["self", "top", "bottom"] (spOf K mg 3 (defS 4 (m_Ratio___init__))) := by
  refine fn_okD (N := ["self", "top", "bottom", "share"]) F sc_Ratio___init__ (k := 3) (body := m_Ratio___init__) fun A outer s H E hr => ?_
  have tk : Takes (cxOf (L2.CX P w) P w K mg base ["self", "top", "bottom", "share"] "Ratio.__init__" (defScope s_Ratio___init__) a_Ratio___init__ fd.code A outer s H E) (fun c d _ H' => E c d H') := takes_of rfl rfl rfl rfl
  have hp : PassesOwn (model P w) (cxOf (L2.CX P w) P w K mg base ["self", "top", "bottom", "share"] "Ratio.__init__" (defScope s_Ratio___init__) a_Ratio___init__ fd.code A outer s H E).A (cxOf (L2.CX P w) P w K mg base ["self", "top", "bottom", "share"] "Ratio.__init__" (defScope s_Ratio___init__) a_Ratio___init__ fd.code A outer s H E).env (cxOf (L2.CX P w) P w K mg base ["self", "top", "bottom", "share"] "Ratio.__init__" (defScope s_Ratio___init__) a_Ratio___init__ fd.code A outer s H E).xe := passes_of rfl
  unfold m_Ratio___init__
  exact (s_cons (s_if (b_not (b_val (r_callZ tk Z_is_whole (hr.mono (by omega)) T.m_is_whole T.k_is_whole (a_cons (r_name (i := 1)) a_nil))))
  (s_one (s_raiseZ tk rfl X_InvalidRatio (hr.mono (by omega)) (by decide) (a_cons (r_name (i := 1)) a_nil)))
  s_nil)
  (s_cons (s_if (EW.eb (w_or (b_not (b_val (r_callZ tk Z_is_whole (hr.mono (by omega)) T.m_is_whole T.k_is_whole (a_cons (r_name (i := 2)) a_nil)))) (w_or1 (b_cmp (d_eq hr.units) (r_name (i := 2)) r_int))))
  (s_one (s_raiseZ tk rfl X_InvalidRatio (hr.mono (by omega)) (by decide) (a_cons (r_name (i := 2)) a_nil)))
  s_nil)
  (s_cons (s_set (i := 3) sc_Ratio___init__.nd (r_callZ tk Z_common_divisor (hr.mono (by omega)) T.m_common_divisor T.k_common_divisor (a_cons (r_name (i := 1)) (a_cons (r_name (i := 2)) a_nil))))
  (s_cons (s_fldZ (cls_cons T.m_Ratio T.cl_Ratio T.na_Ratio_own_top cls_nil) (r_name (i := 0)) (r_if (b_cmp d_gtI (r_name (i := 2)) r_int) (r_bin d_divI (r_name (i := 1)) (r_name (i := 3))) (r_bin d_divI (r_un d_negI (r_name (i := 1))) (r_name (i := 3)))))
  (s_one (s_fldZ (cls_cons T.m_Ratio T.cl_Ratio T.na_Ratio_own_bottom cls_nil) (r_name (i := 0)) (r_bin d_divI (r_callB d_abs rfl T.b_abs PyProof.Rows.boot_abs (a_cons (r_name (i := 2)) a_nil)) (r_name (i := 3)))))))))
theorem d_Ratio___init__ {fd : FuncData} (F : FunD K "__init__" "Ratio.__init__" (defArgs s_Ratio___init__) (defBody s_Ratio___init__) (defScope s_Ratio___init__) [(V.int 1)] [] a_Ratio___init__ fd) (O : FnOk P w K mg base (L2.CX P w) 4 a_Ratio___init__ fd ["self", "top", "bottom"] (spOf K mg 3 (defS 4 (m_Ratio___init__)))) : FZ P w K mg base 4 a_Ratio___init__ f_Ratio___init__ := by
  have h0 : Binds K fd ["self", "top", "bottom"] [] := by
    obtain ⟨ds, hd, hb⟩ := (F.binds1 (ps := ["self", "top", "bottom"]) 3 1 (by simp) rfl fun _ _ _ _ _ _ _ us its hl hd => match us, hl, its, hd with | [_, _, _], _, [_], _ => ⟨_, rfl, rfl⟩)
    cases hd
    exact hb
  have h1 := (F.binds1 (ps := ["self", "top", "bottom"]) 2 0 (by simp) rfl fun _ _ _ _ _ _ _ us its hl hd => match us, hl, its, hd with | [_, _], _, [_], _ => ⟨_, rfl, rfl⟩)
  exact fz_of2 O h0 h1 (fun ρ H => RepL.cons mk_int (RepL.nil))
theorem dk_Ratio___init___0 {fd : FuncData} (F : FunD K "__init__" "Ratio.__init__" (defArgs s_Ratio___init__) (defBody s_Ratio___init__) (defScope s_Ratio___init__) [(V.int 1)] [] a_Ratio___init__ fd) (O : FnOk P w K mg base (L2.CX P w) 4 a_Ratio___init__ fd ["self", "top", "bottom"] (spOf K mg 3 (defS 4 (m_Ratio___init__)))) : FZK P w K mg base 4 a_Ratio___init__ 1 ["top"] fk_Ratio___init___0 := by
  obtain ⟨its, hb⟩ := kbn1 (ps := ["self", "top", "bottom"]) (ks := ["top"]) (n := 1) (ix := [0, 1, 2]) F (by simp) fun _ _ _ _ _ _ _ us its ws h1 h2 h3 => match us, h1, its, h2, ws, h3 with | [_], _, [_], _, [_], _ => ⟨_, rfl, rfl⟩
  exact fzk_of O hb fun ρ H => RepL.cons mk_int (RepL.nil)
theorem dk_Ratio___init___1 {fd : FuncData} (F : FunD K "__init__" "Ratio.__init__" (defArgs s_Ratio___init__) (defBody s_Ratio___init__) (defScope s_Ratio___init__) [(V.int 1)] [] a_Ratio___init__ fd) (O : FnOk P w K mg base (L2.CX P w) 4 a_Ratio___init__ fd ["self", "top", "bottom"] (spOf K mg 3 (defS 4 (m_Ratio___init__)))) : FZK P w K mg base 4 a_Ratio___init__ 1 ["bottom", "top"] fk_Ratio___init___1 := by
  obtain ⟨its, hb⟩ := kbn1 (ps := ["self", "top", "bottom"]) (ks := ["bottom", "top"]) (n := 1) (ix := [0, 2, 1]) F (by simp) fun _ _ _ _ _ _ _ us its ws h1 h2 h3 => match us, h1, its, h2, ws, h3 with | [_], _, [_], _, [_, _], _ => ⟨_, rfl, rfl⟩
  exact fzk_of O hb fun ρ H => RepL.cons mk_int (RepL.nil)
theorem o_Ratio_text (T : Tx K mg a_common_divisor a_is_whole a__law_bag a__law_gcd a__law_frac a__law_frac_text a__law_pick a__law_of a__law_same a__law_field a__law_why a__law_whys a_law C_Ratio a_Ratio___bool__ a_Ratio___eq__ a_Ratio___init__ a_Ratio_text a_Ratio___repr__ a_Ratio_bottom a_Ratio_top p_Ratio_bottom p_Ratio_top C_WayError C_Missing C_InvalidRatio C_NothingLeft) {fd : FuncData} (F : FunD K "text" "Ratio.text" (defArgs s_Ratio_text) (defBody s_Ratio_text) (defScope s_Ratio_text) [] [] a_Ratio_text fd)  : FnOk P w K mg base (L2.CX P w) 1 a_Ratio_text fd ["self"] (spOf K mg 1 (defS 1 (m_Ratio_text))) := by
  refine fn_okD (N := ["self"]) F sc_Ratio_text (k := 0) (body := m_Ratio_text) fun A outer s H E hr => ?_
  have tk : Takes (cxOf (L2.CX P w) P w K mg base ["self"] "Ratio.text" (defScope s_Ratio_text) a_Ratio_text fd.code A outer s H E) (fun c d _ H' => E c d H') := takes_of rfl rfl rfl rfl
  have hp : PassesOwn (model P w) (cxOf (L2.CX P w) P w K mg base ["self"] "Ratio.text" (defScope s_Ratio_text) a_Ratio_text fd.code A outer s H E).A (cxOf (L2.CX P w) P w K mg base ["self"] "Ratio.text" (defScope s_Ratio_text) a_Ratio_text fd.code A outer s H E).env (cxOf (L2.CX P w) P w K mg base ["self"] "Ratio.text" (defScope s_Ratio_text) a_Ratio_text fd.code A outer s H E).xe := passes_of rfl
  unfold m_Ratio_text
  exact (s_one (s_ret (r_if (b_cmp (d_eq hr.units) (r_attrZ (attr_cons T.m_Ratio T.cl_Ratio T.na_Ratio_own_bottom attr_nil) (r_name (i := 0))) r_int) (r_callT d_str rfl T.b_str PyProof.Rows.boot_str (a_cons (r_attrZ (attr_cons T.m_Ratio T.cl_Ratio T.na_Ratio_own_top attr_nil) (r_name (i := 0))) a_nil)) (r_fstr (.cons (r_fmt (r_attrZ (attr_cons T.m_Ratio T.cl_Ratio T.na_Ratio_own_top attr_nil) (r_name (i := 0)))) (.cons r_str (.cons (r_fmt (r_attrZ (attr_cons T.m_Ratio T.cl_Ratio T.na_Ratio_own_bottom attr_nil) (r_name (i := 0)))) .nil)))))))
theorem d_Ratio_text {fd : FuncData} (F : FunD K "text" "Ratio.text" (defArgs s_Ratio_text) (defBody s_Ratio_text) (defScope s_Ratio_text) [] [] a_Ratio_text fd) (O : FnOk P w K mg base (L2.CX P w) 1 a_Ratio_text fd ["self"] (spOf K mg 1 (defS 1 (m_Ratio_text)))) : FZ P w K mg base 1 a_Ratio_text f_Ratio_text := fz_of0 O (F.bindsN (ps := ["self"]) fun _ _ _ _ _ _ us hl => match us, hl with | [_], _ => rfl)
theorem o_Ratio___repr__ (T : Tx K mg a_common_divisor a_is_whole a__law_bag a__law_gcd a__law_frac a__law_frac_text a__law_pick a__law_of a__law_same a__law_field a__law_why a__law_whys a_law C_Ratio a_Ratio___bool__ a_Ratio___eq__ a_Ratio___init__ a_Ratio_text a_Ratio___repr__ a_Ratio_bottom a_Ratio_top p_Ratio_bottom p_Ratio_top C_WayError C_Missing C_InvalidRatio C_NothingLeft) {fd : FuncData} (F : FunD K "__repr__" "Ratio.__repr__" (defArgs s_Ratio___repr__) (defBody s_Ratio___repr__) (defScope s_Ratio___repr__) [] [] a_Ratio___repr__ fd) (Z_Ratio_text : FZ P w K mg base 1 a_Ratio_text f_Ratio_text) : FnOk P w K mg base (L2.CX P w) 2 a_Ratio___repr__ fd ["self"] (spOf K mg 1 (defS 1 (m_Ratio___repr__))) := by
  refine fn_okD (N := ["self"]) F sc_Ratio___repr__ (k := 1) (body := m_Ratio___repr__) fun A outer s H E hr => ?_
  have tk : Takes (cxOf (L2.CX P w) P w K mg base ["self"] "Ratio.__repr__" (defScope s_Ratio___repr__) a_Ratio___repr__ fd.code A outer s H E) (fun c d _ H' => E c d H') := takes_of rfl rfl rfl rfl
  have hp : PassesOwn (model P w) (cxOf (L2.CX P w) P w K mg base ["self"] "Ratio.__repr__" (defScope s_Ratio___repr__) a_Ratio___repr__ fd.code A outer s H E).A (cxOf (L2.CX P w) P w K mg base ["self"] "Ratio.__repr__" (defScope s_Ratio___repr__) a_Ratio___repr__ fd.code A outer s H E).env (cxOf (L2.CX P w) P w K mg base ["self"] "Ratio.__repr__" (defScope s_Ratio___repr__) a_Ratio___repr__ fd.code A outer s H E).xe := passes_of rfl
  unfold m_Ratio___repr__
  exact (s_one (s_ret (r_fstr (.cons r_str (.cons (r_fmt (r_methZ0 tk (meth_cons T.m_Ratio T.cl_Ratio T.me_Ratio_text Z_Ratio_text (hr.mono (by omega)) meth_nil) (r_name (i := 0)))) (.cons r_str .nil))))))
theorem d_Ratio___repr__ {fd : FuncData} (F : FunD K "__repr__" "Ratio.__repr__" (defArgs s_Ratio___repr__) (defBody s_Ratio___repr__) (defScope s_Ratio___repr__) [] [] a_Ratio___repr__ fd) (O : FnOk P w K mg base (L2.CX P w) 2 a_Ratio___repr__ fd ["self"] (spOf K mg 1 (defS 1 (m_Ratio___repr__)))) : FZ P w K mg base 2 a_Ratio___repr__ f_Ratio___repr__ := fz_of0 O (F.bindsN (ps := ["self"]) fun _ _ _ _ _ _ us hl => match us, hl with | [_], _ => rfl)
theorem o_Ratio_bottom (T : Tx K mg a_common_divisor a_is_whole a__law_bag a__law_gcd a__law_frac a__law_frac_text a__law_pick a__law_of a__law_same a__law_field a__law_why a__law_whys a_law C_Ratio a_Ratio___bool__ a_Ratio___eq__ a_Ratio___init__ a_Ratio_text a_Ratio___repr__ a_Ratio_bottom a_Ratio_top p_Ratio_bottom p_Ratio_top C_WayError C_Missing C_InvalidRatio C_NothingLeft) {fd : FuncData} (F : FunD K "bottom" "Ratio.bottom" (defArgs s_Ratio_bottom) (defBody s_Ratio_bottom) (defScope s_Ratio_bottom) [] [] a_Ratio_bottom fd)  : FnOk P w K mg base (L2.CX P w) 1 a_Ratio_bottom fd ["self"] (spOf K mg 1 (defS 1 (m_Ratio_bottom))) := by
  refine fn_okD (N := ["self"]) F sc_Ratio_bottom (k := 0) (body := m_Ratio_bottom) fun A outer s H E hr => ?_
  have tk : Takes (cxOf (L2.CX P w) P w K mg base ["self"] "Ratio.bottom" (defScope s_Ratio_bottom) a_Ratio_bottom fd.code A outer s H E) (fun c d _ H' => E c d H') := takes_of rfl rfl rfl rfl
  have hp : PassesOwn (model P w) (cxOf (L2.CX P w) P w K mg base ["self"] "Ratio.bottom" (defScope s_Ratio_bottom) a_Ratio_bottom fd.code A outer s H E).A (cxOf (L2.CX P w) P w K mg base ["self"] "Ratio.bottom" (defScope s_Ratio_bottom) a_Ratio_bottom fd.code A outer s H E).env (cxOf (L2.CX P w) P w K mg base ["self"] "Ratio.bottom" (defScope s_Ratio_bottom) a_Ratio_bottom fd.code A outer s H E).xe := passes_of rfl
  unfold m_Ratio_bottom
  exact (s_one (s_ret (r_attrZ (attr_cons T.m_Ratio T.cl_Ratio T.na_Ratio_own_bottom attr_nil) (r_name (i := 0)))))
theorem d_Ratio_bottom {fd : FuncData} (F : FunD K "bottom" "Ratio.bottom" (defArgs s_Ratio_bottom) (defBody s_Ratio_bottom) (defScope s_Ratio_bottom) [] [] a_Ratio_bottom fd) (O : FnOk P w K mg base (L2.CX P w) 1 a_Ratio_bottom fd ["self"] (spOf K mg 1 (defS 1 (m_Ratio_bottom)))) : FZ P w K mg base 1 a_Ratio_bottom f_Ratio_bottom := fz_of0 O (F.bindsN (ps := ["self"]) fun _ _ _ _ _ _ us hl => match us, hl with | [_], _ => rfl)
theorem o_Ratio_top (T : Tx K mg a_common_divisor a_is_whole a__law_bag a__law_gcd a__law_frac a__law_frac_text a__law_pick a__law_of a__law_same a__law_field a__law_why a__law_whys a_law C_Ratio a_Ratio___bool__ a_Ratio___eq__ a_Ratio___init__ a_Ratio_text a_Ratio___repr__ a_Ratio_bottom a_Ratio_top p_Ratio_bottom p_Ratio_top C_WayError C_Missing C_InvalidRatio C_NothingLeft) {fd : FuncData} (F : FunD K "top" "Ratio.top" (defArgs s_Ratio_top) (defBody s_Ratio_top) (defScope s_Ratio_top) [] [] a_Ratio_top fd)  : FnOk P w K mg base (L2.CX P w) 1 a_Ratio_top fd ["self"] (spOf K mg 1 (defS 1 (m_Ratio_top))) := by
  refine fn_okD (N := ["self"]) F sc_Ratio_top (k := 0) (body := m_Ratio_top) fun A outer s H E hr => ?_
  have tk : Takes (cxOf (L2.CX P w) P w K mg base ["self"] "Ratio.top" (defScope s_Ratio_top) a_Ratio_top fd.code A outer s H E) (fun c d _ H' => E c d H') := takes_of rfl rfl rfl rfl
  have hp : PassesOwn (model P w) (cxOf (L2.CX P w) P w K mg base ["self"] "Ratio.top" (defScope s_Ratio_top) a_Ratio_top fd.code A outer s H E).A (cxOf (L2.CX P w) P w K mg base ["self"] "Ratio.top" (defScope s_Ratio_top) a_Ratio_top fd.code A outer s H E).env (cxOf (L2.CX P w) P w K mg base ["self"] "Ratio.top" (defScope s_Ratio_top) a_Ratio_top fd.code A outer s H E).xe := passes_of rfl
  unfold m_Ratio_top
  exact (s_one (s_ret (r_attrZ (attr_cons T.m_Ratio T.cl_Ratio T.na_Ratio_own_top attr_nil) (r_name (i := 0)))))
theorem d_Ratio_top {fd : FuncData} (F : FunD K "top" "Ratio.top" (defArgs s_Ratio_top) (defBody s_Ratio_top) (defScope s_Ratio_top) [] [] a_Ratio_top fd) (O : FnOk P w K mg base (L2.CX P w) 1 a_Ratio_top fd ["self"] (spOf K mg 1 (defS 1 (m_Ratio_top)))) : FZ P w K mg base 1 a_Ratio_top f_Ratio_top := fz_of0 O (F.bindsN (ps := ["self"]) fun _ _ _ _ _ _ us hl => match us, hl with | [_], _ => rfl)
theorem o__law_bag (T : Tx K mg a_common_divisor a_is_whole a__law_bag a__law_gcd a__law_frac a__law_frac_text a__law_pick a__law_of a__law_same a__law_field a__law_why a__law_whys a_law C_Ratio a_Ratio___bool__ a_Ratio___eq__ a_Ratio___init__ a_Ratio_text a_Ratio___repr__ a_Ratio_bottom a_Ratio_top p_Ratio_bottom p_Ratio_top C_WayError C_Missing C_InvalidRatio C_NothingLeft) {fd : FuncData} (F : FunD K "_law_bag" "_law_bag" (defArgs s__law_bag) (defBody s__law_bag) (defScope s__law_bag) [] [] a__law_bag fd)  : FnOk P w K mg base (L2.CX P w) 1 a__law_bag fd ["_law_script"] (spOf K mg 1 (defH 1 (m__law_bag))) := by
  refine fn_okHD (N := ["_law_script"]) F sc__law_bag (k := 0) (body := m__law_bag) fun A outer s H E hr => ?_
  have tk : Takes (cxOf (L2.CX P w) P w K mg base ["_law_script"] "_law_bag" (defScope s__law_bag) a__law_bag fd.code A outer s H E) (fun c d _ H' => E c d H') := takes_of rfl rfl rfl rfl
  have hp : PassesOwn (model P w) (cxOf (L2.CX P w) P w K mg base ["_law_script"] "_law_bag" (defScope s__law_bag) a__law_bag fd.code A outer s H E).A (cxOf (L2.CX P w) P w K mg base ["_law_script"] "_law_bag" (defScope s__law_bag) a__law_bag fd.code A outer s H E).env (cxOf (L2.CX P w) P w K mg base ["_law_script"] "_law_bag" (defScope s__law_bag) a__law_bag fd.code A outer s H E).xe := passes_of rfl
  unfold m__law_bag
  exact (s_one (s_ret (r_lstH (a_cons (r_callT d_listOf rfl T.b_list PyProof.Rows.boot_list (a_cons (r_sl (r_name (i := 0)) o_none (o_int r_int)) a_nil)) (a_cons r_int (a_cons r_int (a_cons r_int a_nil)))))))
theorem d__law_bag {fd : FuncData} (F : FunD K "_law_bag" "_law_bag" (defArgs s__law_bag) (defBody s__law_bag) (defScope s__law_bag) [] [] a__law_bag fd) (O : FnOk P w K mg base (L2.CX P w) 1 a__law_bag fd ["_law_script"] (spOf K mg 1 (defH 1 (m__law_bag)))) : FZ P w K mg base 1 a__law_bag f__law_bag := fz_of0 O (F.bindsN (ps := ["_law_script"]) fun _ _ _ _ _ _ us hl => match us, hl with | [_], _ => rfl)
theorem o__law_gcd (T : Tx K mg a_common_divisor a_is_whole a__law_bag a__law_gcd a__law_frac a__law_frac_text a__law_pick a__law_of a__law_same a__law_field a__law_why a__law_whys a_law C_Ratio a_Ratio___bool__ a_Ratio___eq__ a_Ratio___init__ a_Ratio_text a_Ratio___repr__ a_Ratio_bottom a_Ratio_top p_Ratio_bottom p_Ratio_top C_WayError C_Missing C_InvalidRatio C_NothingLeft) {fd : FuncData} (F : FunD K "_law_gcd" "_law_gcd" (defArgs s__law_gcd) (defBody s__law_gcd) (defScope s__law_gcd) [] [] a__law_gcd fd)  : FnOk P w K mg base (L2.CX P w) 1 a__law_gcd fd ["_law_one", "_law_other"] (spOf K mg 2 (defS 4 (m__law_gcd))) := by
  refine fn_okD (N := ["_law_one", "_law_other", "_law_high", "_law_low"]) F sc__law_gcd (k := 0) (body := m__law_gcd) fun A outer s H E hr => ?_
  have tk : Takes (cxOf (L2.CX P w) P w K mg base ["_law_one", "_law_other", "_law_high", "_law_low"] "_law_gcd" (defScope s__law_gcd) a__law_gcd fd.code A outer s H E) (fun c d _ H' => E c d H') := takes_of rfl rfl rfl rfl
  have hp : PassesOwn (model P w) (cxOf (L2.CX P w) P w K mg base ["_law_one", "_law_other", "_law_high", "_law_low"] "_law_gcd" (defScope s__law_gcd) a__law_gcd fd.code A outer s H E).A (cxOf (L2.CX P w) P w K mg base ["_law_one", "_law_other", "_law_high", "_law_low"] "_law_gcd" (defScope s__law_gcd) a__law_gcd fd.code A outer s H E).env (cxOf (L2.CX P w) P w K mg base ["_law_one", "_law_other", "_law_high", "_law_low"] "_law_gcd" (defScope s__law_gcd) a__law_gcd fd.code A outer s H E).xe := passes_of rfl
  unfold m__law_gcd
  exact (s_cons (s_par (i := 2) (j := 3) rfl sc__law_gcd.nd (a_cons (r_callB d_abs rfl T.b_abs PyProof.Rows.boot_abs (a_cons (r_name (i := 0)) a_nil)) (a_cons (r_callB d_abs rfl T.b_abs PyProof.Rows.boot_abs (a_cons (r_name (i := 1)) a_nil)) a_nil)))
  (s_cons (s_while hp (b_cmp d_gtI (r_name (i := 3)) r_int)
  (s_one (s_par (i := 2) (j := 3) rfl sc__law_gcd.nd (a_cons (r_name (i := 3)) (a_cons (r_bin d_modI (r_callT d_int rfl T.b_int PyProof.Rows.boot_int (a_cons (r_name (i := 2)) a_nil)) (r_name (i := 3))) a_nil)))))
  (s_one (s_ret (r_name (i := 2))))))
theorem d__law_gcd {fd : FuncData} (F : FunD K "_law_gcd" "_law_gcd" (defArgs s__law_gcd) (defBody s__law_gcd) (defScope s__law_gcd) [] [] a__law_gcd fd) (O : FnOk P w K mg base (L2.CX P w) 1 a__law_gcd fd ["_law_one", "_law_other"] (spOf K mg 2 (defS 4 (m__law_gcd)))) : FZ P w K mg base 1 a__law_gcd f__law_gcd := fz_of0 O (F.bindsN (ps := ["_law_one", "_law_other"]) fun _ _ _ _ _ _ us hl => match us, hl with | [_, _], _ => rfl)
theorem o__law_frac (T : Tx K mg a_common_divisor a_is_whole a__law_bag a__law_gcd a__law_frac a__law_frac_text a__law_pick a__law_of a__law_same a__law_field a__law_why a__law_whys a_law C_Ratio a_Ratio___bool__ a_Ratio___eq__ a_Ratio___init__ a_Ratio_text a_Ratio___repr__ a_Ratio_bottom a_Ratio_top p_Ratio_bottom p_Ratio_top C_WayError C_Missing C_InvalidRatio C_NothingLeft) {fd : FuncData} (F : FunD K "_law_frac" "_law_frac" (defArgs s__law_frac) (defBody s__law_frac) (defScope s__law_frac) [] [] a__law_frac fd) (Z__law_gcd : FZ P w K mg base 1 a__law_gcd f__law_gcd) : FnOk P w K mg base (L2.CX P w) 2 a__law_frac fd ["_law_up", "_law_down"] (spOf K mg 2 (defS 3 (m__law_frac))) := by
  refine fn_okD (N := ["_law_up", "_law_down", "_law_share"]) F sc__law_frac (k := 1) (body := m__law_frac) fun A outer s H E hr => ?_
  have tk : Takes (cxOf (L2.CX P w) P w K mg base ["_law_up", "_law_down", "_law_share"] "_law_frac" (defScope s__law_frac) a__law_frac fd.code A outer s H E) (fun c d _ H' => E c d H') := takes_of rfl rfl rfl rfl
  have hp : PassesOwn (model P w) (cxOf (L2.CX P w) P w K mg base ["_law_up", "_law_down", "_law_share"] "_law_frac" (defScope s__law_frac) a__law_frac fd.code A outer s H E).A (cxOf (L2.CX P w) P w K mg base ["_law_up", "_law_down", "_law_share"] "_law_frac" (defScope s__law_frac) a__law_frac fd.code A outer s H E).env (cxOf (L2.CX P w) P w K mg base ["_law_up", "_law_down", "_law_share"] "_law_frac" (defScope s__law_frac) a__law_frac fd.code A outer s H E).xe := passes_of rfl
  unfold m__law_frac
  exact (s_cons (s_set (i := 2) sc__law_frac.nd (r_callZ tk Z__law_gcd (hr.mono (by omega)) T.m__law_gcd T.k__law_gcd (a_cons (r_name (i := 0)) (a_cons (r_name (i := 1)) a_nil))))
  (s_one (s_ret (r_if (b_cmp d_gtI (r_name (i := 1)) r_int) (r_tup (a_cons (r_bin d_divI (r_name (i := 0)) (r_name (i := 2))) (a_cons (r_bin d_divI (r_name (i := 1)) (r_name (i := 2))) a_nil))) (r_tup (a_cons (r_bin d_subI r_int (r_bin d_divI (r_name (i := 0)) (r_name (i := 2)))) (a_cons (r_bin d_subI r_int (r_bin d_divI (r_name (i := 1)) (r_name (i := 2)))) a_nil)))))))
theorem d__law_frac {fd : FuncData} (F : FunD K "_law_frac" "_law_frac" (defArgs s__law_frac) (defBody s__law_frac) (defScope s__law_frac) [] [] a__law_frac fd) (O : FnOk P w K mg base (L2.CX P w) 2 a__law_frac fd ["_law_up", "_law_down"] (spOf K mg 2 (defS 3 (m__law_frac)))) : FZ P w K mg base 2 a__law_frac f__law_frac := fz_of0 O (F.bindsN (ps := ["_law_up", "_law_down"]) fun _ _ _ _ _ _ us hl => match us, hl with | [_, _], _ => rfl)
theorem o__law_frac_text (T : Tx K mg a_common_divisor a_is_whole a__law_bag a__law_gcd a__law_frac a__law_frac_text a__law_pick a__law_of a__law_same a__law_field a__law_why a__law_whys a_law C_Ratio a_Ratio___bool__ a_Ratio___eq__ a_Ratio___init__ a_Ratio_text a_Ratio___repr__ a_Ratio_bottom a_Ratio_top p_Ratio_bottom p_Ratio_top C_WayError C_Missing C_InvalidRatio C_NothingLeft) {fd : FuncData} (F : FunD K "_law_frac_text" "_law_frac_text" (defArgs s__law_frac_text) (defBody s__law_frac_text) (defScope s__law_frac_text) [] [] a__law_frac_text fd)  : FnOk P w K mg base (L2.CX P w) 1 a__law_frac_text fd ["_law_pair"] (spOf K mg 1 (defS 1 (m__law_frac_text))) := by
  refine fn_okD (N := ["_law_pair"]) F sc__law_frac_text (k := 0) (body := m__law_frac_text) fun A outer s H E hr => ?_
  have tk : Takes (cxOf (L2.CX P w) P w K mg base ["_law_pair"] "_law_frac_text" (defScope s__law_frac_text) a__law_frac_text fd.code A outer s H E) (fun c d _ H' => E c d H') := takes_of rfl rfl rfl rfl
  have hp : PassesOwn (model P w) (cxOf (L2.CX P w) P w K mg base ["_law_pair"] "_law_frac_text" (defScope s__law_frac_text) a__law_frac_text fd.code A outer s H E).A (cxOf (L2.CX P w) P w K mg base ["_law_pair"] "_law_frac_text" (defScope s__law_frac_text) a__law_frac_text fd.code A outer s H E).env (cxOf (L2.CX P w) P w K mg base ["_law_pair"] "_law_frac_text" (defScope s__law_frac_text) a__law_frac_text fd.code A outer s H E).xe := passes_of rfl
  unfold m__law_frac_text
  exact (s_one (s_ret (r_if (b_cmp (d_eq hr.units) (r_ix (d_ixX hr.units) (r_name (i := 0)) r_int) r_int) (r_callT d_str rfl T.b_str PyProof.Rows.boot_str (a_cons (r_ix (d_ixX hr.units) (r_name (i := 0)) r_int) a_nil)) (r_bin d_addX (r_bin d_addX (r_callT d_str rfl T.b_str PyProof.Rows.boot_str (a_cons (r_ix (d_ixX hr.units) (r_name (i := 0)) r_int) a_nil)) r_str) (r_callT d_str rfl T.b_str PyProof.Rows.boot_str (a_cons (r_ix (d_ixX hr.units) (r_name (i := 0)) r_int) a_nil))))))
theorem d__law_frac_text {fd : FuncData} (F : FunD K "_law_frac_text" "_law_frac_text" (defArgs s__law_frac_text) (defBody s__law_frac_text) (defScope s__law_frac_text) [] [] a__law_frac_text fd) (O : FnOk P w K mg base (L2.CX P w) 1 a__law_frac_text fd ["_law_pair"] (spOf K mg 1 (defS 1 (m__law_frac_text)))) : FZ P w K mg base 1 a__law_frac_text f__law_frac_text := fz_of0 O (F.bindsN (ps := ["_law_pair"]) fun _ _ _ _ _ _ us hl => match us, hl with | [_], _ => rfl)
theorem o__law_pick (T : Tx K mg a_common_divisor a_is_whole a__law_bag a__law_gcd a__law_frac a__law_frac_text a__law_pick a__law_of a__law_same a__law_field a__law_why a__law_whys a_law C_Ratio a_Ratio___bool__ a_Ratio___eq__ a_Ratio___init__ a_Ratio_text a_Ratio___repr__ a_Ratio_bottom a_Ratio_top p_Ratio_bottom p_Ratio_top C_WayError C_Missing C_InvalidRatio C_NothingLeft) {fd : FuncData} (F : FunD K "_law_pick" "_law_pick" (defArgs s__law_pick) (defBody s__law_pick) (defScope s__law_pick) [] [] a__law_pick fd)  : FnOk P w K mg base (L2.CX P w) 1 a__law_pick fd ["_law_bag_here", "_law_many"] (spOf K mg 2 (defS 5 (m__law_pick))) := by
  refine fn_okD (N := ["_law_bag_here", "_law_many", "_law_cell", "_law_digit", "_law_seed"]) F sc__law_pick (k := 0) (body := m__law_pick) fun A outer s H E hr => ?_
  have tk : Takes (cxOf (L2.CX P w) P w K mg base ["_law_bag_here", "_law_many", "_law_cell", "_law_digit", "_law_seed"] "_law_pick" (defScope s__law_pick) a__law_pick fd.code A outer s H E) (fun c d _ H' => E c d H') := takes_of rfl rfl rfl rfl
  have hp : PassesOwn (model P w) (cxOf (L2.CX P w) P w K mg base ["_law_bag_here", "_law_many", "_law_cell", "_law_digit", "_law_seed"] "_law_pick" (defScope s__law_pick) a__law_pick fd.code A outer s H E).A (cxOf (L2.CX P w) P w K mg base ["_law_bag_here", "_law_many", "_law_cell", "_law_digit", "_law_seed"] "_law_pick" (defScope s__law_pick) a__law_pick fd.code A outer s H E).env (cxOf (L2.CX P w) P w K mg base ["_law_bag_here", "_law_many", "_law_cell", "_law_digit", "_law_seed"] "_law_pick" (defScope s__law_pick) a__law_pick fd.code A outer s H E).xe := passes_of rfl
  unfold m__law_pick
  exact (s_cons (s_if (EW.eb (w_and (b_cmp (d_eq hr.units) (r_ix (d_ixX hr.units) (r_name (i := 0)) r_int) r_int) (w_and1 (b_cmp d_ltX (r_ix (d_ixX hr.units) (r_name (i := 0)) r_int) (r_callB d_lenX rfl T.b_len PySem.boot_len (a_cons (r_ix (d_ixX hr.units) (r_name (i := 0)) r_int) a_nil))))))
  (s_cons (s_set (i := 2) sc__law_pick.nd (r_ix (d_ixX hr.units) (r_ix (d_ixX hr.units) (r_name (i := 0)) r_int) (r_ix (d_ixX hr.units) (r_name (i := 0)) r_int)))
  (s_cons (s_asg (r_bin d_addX (r_ix (d_ixX hr.units) (r_name (i := 0)) r_int) r_int) (g_sub (hu1 hr.units) (r_name (i := 0)) r_int) (nx_sub _ _))
  (s_one (s_if (b_cmp d_geI (r_name (i := 2)) (r_bin d_powI r_int r_int))
  (s_one (s_asg (r_name (i := 2)) (g_sub (hu1 hr.units) (r_name (i := 0)) r_int) (nx_sub _ _)))
  (s_one (s_asg (r_bin d_modI (r_callT d_int rfl T.b_int PyProof.Rows.boot_int (a_cons (r_bin d_addX (r_bin d_addX (r_bin d_mulX (r_ix (d_ixX hr.units) (r_name (i := 0)) r_int) r_int) (r_bin d_mulX (r_bin d_modI (r_callT d_int rfl T.b_int PyProof.Rows.boot_int (a_cons (r_name (i := 2)) a_nil)) r_int) r_int)) r_int) a_nil)) r_int) (g_sub (hu1 hr.units) (r_name (i := 0)) r_int) (nx_sub _ _)))))))
  s_nil)
  (s_cons (s_if (b_cmp d_gtI (r_ix (d_ixX hr.units) (r_name (i := 0)) r_int) r_int)
  (s_cons (s_set (i := 3) sc__law_pick.nd (r_bin d_modI (r_callT d_int rfl T.b_int PyProof.Rows.boot_int (a_cons (r_ix (d_ixX hr.units) (r_name (i := 0)) r_int) a_nil)) (r_name (i := 1))))
  (s_cons (s_asg (r_bin d_divI (r_ix (d_ixX hr.units) (r_name (i := 0)) r_int) (r_name (i := 1))) (g_sub (hu1 hr.units) (r_name (i := 0)) r_int) (nx_sub _ _))
  (s_one (s_ret (r_name (i := 3))))))
  s_nil)
  (s_cons (s_set (i := 4) sc__law_pick.nd (r_ix (d_ixX hr.units) (r_name (i := 0)) r_int))
  (s_cons (s_asg (r_bin d_modI (r_callT d_int rfl T.b_int PyProof.Rows.boot_int (a_cons (r_bin d_addX (r_bin d_addX (r_bin d_mulX (r_name (i := 4)) (r_name (i := 4))) (r_bin d_mulX (r_name (i := 4)) r_int)) r_int) a_nil)) r_int) (g_sub (hu1 hr.units) (r_name (i := 0)) r_int) (nx_sub _ _))
  (s_one (s_ret (r_bin d_modI (r_callT d_int rfl T.b_int PyProof.Rows.boot_int (a_cons (r_bin d_addX (r_bin d_divI (r_ix (d_ixX hr.units) (r_name (i := 0)) r_int) r_int) (r_bin d_mulX (r_bin d_modI (r_callT d_int rfl T.b_int PyProof.Rows.boot_int (a_cons (r_ix (d_ixX hr.units) (r_name (i := 0)) r_int) a_nil)) r_int) r_int)) a_nil)) (r_name (i := 1)))))))))
theorem d__law_pick {fd : FuncData} (F : FunD K "_law_pick" "_law_pick" (defArgs s__law_pick) (defBody s__law_pick) (defScope s__law_pick) [] [] a__law_pick fd) (O : FnOk P w K mg base (L2.CX P w) 1 a__law_pick fd ["_law_bag_here", "_law_many"] (spOf K mg 2 (defS 5 (m__law_pick)))) : FZ P w K mg base 1 a__law_pick f__law_pick := fz_of0 O (F.bindsN (ps := ["_law_bag_here", "_law_many"]) fun _ _ _ _ _ _ us hl => match us, hl with | [_, _], _ => rfl)
theorem o__law_of (T : Tx K mg a_common_divisor a_is_whole a__law_bag a__law_gcd a__law_frac a__law_frac_text a__law_pick a__law_of a__law_same a__law_field a__law_why a__law_whys a_law C_Ratio a_Ratio___bool__ a_Ratio___eq__ a_Ratio___init__ a_Ratio_text a_Ratio___repr__ a_Ratio_bottom a_Ratio_top p_Ratio_bottom p_Ratio_top C_WayError C_Missing C_InvalidRatio C_NothingLeft) {fd : FuncData} (F : FunD K "_law_of" "_law_of" (defArgs s__law_of) (defBody s__law_of) (defScope s__law_of) [] [] a__law_of fd) (Z__law_pick : FZ P w K mg base 1 a__law_pick f__law_pick) : FnOk P w K mg base (L2.CX P w) 2 a__law_of fd ["_law_bag_here", "_law_some"] (spOf K mg 2 (defS 2 (m__law_of))) := by
  refine fn_okD (N := ["_law_bag_here", "_law_some"]) F sc__law_of (k := 1) (body := m__law_of) fun A outer s H E hr => ?_
  have tk : Takes (cxOf (L2.CX P w) P w K mg base ["_law_bag_here", "_law_some"] "_law_of" (defScope s__law_of) a__law_of fd.code A outer s H E) (fun c d _ H' => E c d H') := takes_of rfl rfl rfl rfl
  have hp : PassesOwn (model P w) (cxOf (L2.CX P w) P w K mg base ["_law_bag_here", "_law_some"] "_law_of" (defScope s__law_of) a__law_of fd.code A outer s H E).A (cxOf (L2.CX P w) P w K mg base ["_law_bag_here", "_law_some"] "_law_of" (defScope s__law_of) a__law_of fd.code A outer s H E).env (cxOf (L2.CX P w) P w K mg base ["_law_bag_here", "_law_some"] "_law_of" (defScope s__law_of) a__law_of fd.code A outer s H E).xe := passes_of rfl
  unfold m__law_of
  exact (s_one (s_ret (r_ix (d_ixX hr.units) (r_name (i := 1)) (r_callZ tk Z__law_pick (hr.mono (by omega)) T.m__law_pick T.k__law_pick (a_cons (r_name (i := 0)) (a_cons (r_callB d_lenX rfl T.b_len PySem.boot_len (a_cons (r_name (i := 1)) a_nil)) a_nil))))))
theorem d__law_of {fd : FuncData} (F : FunD K "_law_of" "_law_of" (defArgs s__law_of) (defBody s__law_of) (defScope s__law_of) [] [] a__law_of fd) (O : FnOk P w K mg base (L2.CX P w) 2 a__law_of fd ["_law_bag_here", "_law_some"] (spOf K mg 2 (defS 2 (m__law_of)))) : FZ P w K mg base 2 a__law_of f__law_of := fz_of0 O (F.bindsN (ps := ["_law_bag_here", "_law_some"]) fun _ _ _ _ _ _ us hl => match us, hl with | [_, _], _ => rfl)
theorem d__law_same (T : Tx K mg a_common_divisor a_is_whole a__law_bag a__law_gcd a__law_frac a__law_frac_text a__law_pick a__law_of a__law_same a__law_field a__law_why a__law_whys a_law C_Ratio a_Ratio___bool__ a_Ratio___eq__ a_Ratio___init__ a_Ratio_text a_Ratio___repr__ a_Ratio_bottom a_Ratio_top p_Ratio_bottom p_Ratio_top C_WayError C_Missing C_InvalidRatio C_NothingLeft) {fd : FuncData} (F : FunD K "_law_same" "_law_same" (defArgs s__law_same) (defBody s__law_same) (defScope s__law_same) [] [] a__law_same fd)  : ∀ k, FZ P w K mg base (k + 1) a__law_same (f__law_sameR k)
  | 0 => fz_bad
  | k + 1 => by
    have ZR := d__law_same T F  k
    have hrec : k + 1 ≤ k + 1 := Nat.le_refl _
    refine fz_of0 (fn_okD (N := ["_law_found", "_law_due", "_law_a", "_law_b"]) F sc__law_same (k := k + 1) (body := m__law_same (f__law_sameR k)) fun A outer s H E hr => ?_) (F.bindsN (ps := ["_law_found", "_law_due"]) fun _ _ _ _ _ _ us hl => match us, hl with | [_, _], _ => rfl)
    have tk : Takes (cxOf (L2.CX P w) P w K mg base ["_law_found", "_law_due", "_law_a", "_law_b"] "_law_same" (defScope s__law_same) a__law_same fd.code A outer s H E) (fun c d _ H' => E c d H') := takes_of rfl rfl rfl rfl
    have hp : PassesOwn (model P w) (cxOf (L2.CX P w) P w K mg base ["_law_found", "_law_due", "_law_a", "_law_b"] "_law_same" (defScope s__law_same) a__law_same fd.code A outer s H E).A (cxOf (L2.CX P w) P w K mg base ["_law_found", "_law_due", "_law_a", "_law_b"] "_law_same" (defScope s__law_same) a__law_same fd.code A outer s H E).env (cxOf (L2.CX P w) P w K mg base ["_law_found", "_law_due", "_law_a", "_law_b"] "_law_same" (defScope s__law_same) a__law_same fd.code A outer s H E).xe := passes_of rfl
    unfold m__law_same
    exact (s_cons (s_if (b_val (r_callB d_isiX rfl T.b_isinstance PyProof.Rows.boot_isinstance (a_cons (r_name (i := 1)) (a_cons (r_tup (a_cons (r_ty rfl T.b_list PyProof.Rows.boot_list) (a_cons (r_ty rfl T.b_tuple PyProof.Rows.boot_tuple) a_nil))) a_nil))))
    (s_cons (s_if (EW.eb (w_or (b_cmp (d_ne hr.units) (r_callB d_isiX rfl T.b_isinstance PyProof.Rows.boot_isinstance (a_cons (r_name (i := 0)) (a_cons (r_ty rfl T.b_list PyProof.Rows.boot_list) a_nil))) (r_callB d_isiX rfl T.b_isinstance PyProof.Rows.boot_isinstance (a_cons (r_name (i := 1)) (a_cons (r_ty rfl T.b_list PyProof.Rows.boot_list) a_nil)))) (w_or1 (b_cmp (d_ne hr.units) (r_callB d_isiX rfl T.b_isinstance PyProof.Rows.boot_isinstance (a_cons (r_name (i := 0)) (a_cons (r_ty rfl T.b_tuple PyProof.Rows.boot_tuple) a_nil))) (r_callB d_isiX rfl T.b_isinstance PyProof.Rows.boot_isinstance (a_cons (r_name (i := 1)) (a_cons (r_ty rfl T.b_tuple PyProof.Rows.boot_tuple) a_nil)))))))
    (s_one (s_ret r_bl))
    s_nil)
    (s_one (s_ret (r_and (r_cmp (d_eq hr.units) (r_callB d_lenX rfl T.b_len PySem.boot_len (a_cons (r_name (i := 0)) a_nil)) (r_callB d_lenX rfl T.b_len PySem.boot_len (a_cons (r_name (i := 1)) a_nil))) (r_one (r_callB (d_all rfl) rfl T.b_all PyProof.Rows.boot_all (a_cons (r_fin (r_lc (own := [("_law_a", 2), ("_law_b", 3)]) rfl sc__law_same.nd (blkOk_by (by rfl)) (i_zip (a_cons (r_name (i := 0)) (a_cons (r_name (i := 1)) a_nil)) rfl T.b_zip) (fun _ _ _ _ _ => (gw_tup rfl (gsw_cons (gw_name sc__law_same.nd (i := 2)) (gsw_cons (gw_name sc__law_same.nd (i := 3)) gsw_nil)) (len_consN (nx_set 2) (len_consN (nx_set 3) len_nil)))) (fun _ _ _ _ _ => ts_nil) (fun _ _ _ _ _ => (r_callZ takesF ZR (hr.mono hrec) T.m__law_same T.k__law_same (a_cons (r_name (i := 2)) (a_cons (r_name (i := 3)) a_nil)))))) a_nil)))))))
    s_nil)
    (s_cons (s_if (EW.eb (w_or (b_cmp d_isN (r_name (i := 1)) r_non) (w_or1 (b_cmp d_isN (r_name (i := 0)) r_non))))
    (s_one (s_ret (r_and (r_cmp d_isN (r_name (i := 1)) r_non) (r_one (r_cmp d_isN (r_name (i := 0)) r_non)))))
    s_nil)
    (s_cons (s_if (EW.eb (w_or (b_cmp (d_ne hr.units) (r_callB d_isiX rfl T.b_isinstance PyProof.Rows.boot_isinstance (a_cons (r_name (i := 0)) (a_cons (r_ty rfl T.b_bool PyProof.Rows.boot_bool) a_nil))) (r_callB d_isiX rfl T.b_isinstance PyProof.Rows.boot_isinstance (a_cons (r_name (i := 1)) (a_cons (r_ty rfl T.b_bool PyProof.Rows.boot_bool) a_nil)))) (w_or1 (b_cmp (d_ne hr.units) (r_callB d_isiX rfl T.b_isinstance PyProof.Rows.boot_isinstance (a_cons (r_name (i := 0)) (a_cons (r_ty rfl T.b_int PyProof.Rows.boot_int) a_nil))) (r_callB d_isiX rfl T.b_isinstance PyProof.Rows.boot_isinstance (a_cons (r_name (i := 1)) (a_cons (r_ty rfl T.b_int PyProof.Rows.boot_int) a_nil)))))))
    (s_one (s_ret r_bl))
    s_nil)
    (s_one (s_ret (r_and (r_cmp (d_eq hr.units) (r_callB d_isiX rfl T.b_isinstance PyProof.Rows.boot_isinstance (a_cons (r_name (i := 0)) (a_cons (r_ty rfl T.b_str PyProof.Rows.boot_str) a_nil))) (r_callB d_isiX rfl T.b_isinstance PyProof.Rows.boot_isinstance (a_cons (r_name (i := 1)) (a_cons (r_ty rfl T.b_str PyProof.Rows.boot_str) a_nil)))) (r_one (r_cmp (d_eq hr.units) (r_name (i := 0)) (r_name (i := 1))))))))))
theorem d__law_field (T : Tx K mg a_common_divisor a_is_whole a__law_bag a__law_gcd a__law_frac a__law_frac_text a__law_pick a__law_of a__law_same a__law_field a__law_why a__law_whys a_law C_Ratio a_Ratio___bool__ a_Ratio___eq__ a_Ratio___init__ a_Ratio_text a_Ratio___repr__ a_Ratio_bottom a_Ratio_top p_Ratio_bottom p_Ratio_top C_WayError C_Missing C_InvalidRatio C_NothingLeft) {fd : FuncData} (F : Fun K "_law_field" "_law_field" s__law_field a__law_field fd)  : FZT P w K mg base 1 a__law_field f__law_field := by
  refine fz_hot (N := ["_law_e"]) F sc__law_field (k := 0) (body := m__law_field) (F.binds (ps := ["_law_e"]) fun _ _ _ _ _ _ us hl => match us, hl with | [_], _ => rfl) fun cdv A outer s H E hr => ?_
  have tk : Takes (cxT (L2.CX P w) P w K mg base ["_law_e"] "_law_field" (defScope s__law_field) a__law_field cdv A outer s H E) (fun c d _ H' => E c d H') := takes_of rfl rfl rfl rfl
  have hp : PassesOwn (model P w) (cxT (L2.CX P w) P w K mg base ["_law_e"] "_law_field" (defScope s__law_field) a__law_field cdv A outer s H E).A (cxT (L2.CX P w) P w K mg base ["_law_e"] "_law_field" (defScope s__law_field) a__law_field cdv A outer s H E).env (cxT (L2.CX P w) P w K mg base ["_law_e"] "_law_field" (defScope s__law_field) a__law_field cdv A outer s H E).xe := passes_of rfl
  unfold m__law_field
  exact (s_cons (s_if (b_cmp (d_inX (hotU hr)) (r_xat (xat_cons T.m_InvalidRatio T.xf_InvalidRatio T.xn_InvalidRatio_tag xat_nil) (r_name (i := 0))) (r_tup (a_cons r_str (a_cons r_str (a_cons r_str (a_cons r_str (a_cons r_str a_nil)))))))
  (s_one (s_ret (r_xat (xat_cons T.m_InvalidRatio T.xf_InvalidRatio T.xn_InvalidRatio_value xat_nil) (r_name (i := 0)))))
  s_nil)
  (s_cons (s_if (b_cmp (d_inX (hotU hr)) (r_xat (xat_cons T.m_InvalidRatio T.xf_InvalidRatio T.xn_InvalidRatio_tag xat_nil) (r_name (i := 0))) (r_tup (a_cons r_str (a_cons r_str (a_cons r_str (a_cons r_str a_nil))))))
  (s_one (s_ret r_bad))
  s_nil)
  (s_cons (s_if (b_cmp (d_inX (hotU hr)) (r_xat (xat_cons T.m_InvalidRatio T.xf_InvalidRatio T.xn_InvalidRatio_tag xat_nil) (r_name (i := 0))) (r_tup (a_cons r_str (a_cons r_str a_nil))))
  (s_one (s_ret r_bad))
  s_nil)
  (s_cons (s_if (b_cmp (d_inX (hotU hr)) (r_xat (xat_cons T.m_InvalidRatio T.xf_InvalidRatio T.xn_InvalidRatio_tag xat_nil) (r_name (i := 0))) (r_tup (a_cons r_str (a_cons r_str a_nil))))
  (s_one (s_ret r_bad))
  s_nil)
  (s_cons (s_if (b_cmp (d_inX (hotU hr)) (r_xat (xat_cons T.m_InvalidRatio T.xf_InvalidRatio T.xn_InvalidRatio_tag xat_nil) (r_name (i := 0))) (r_tup (a_cons r_str (a_cons r_str a_nil))))
  (s_one (s_ret (r_if (b_cmp (d_eq (hotU hr)) (r_xat (xat_cons T.m_InvalidRatio T.xf_InvalidRatio T.xn_InvalidRatio_tag xat_nil) (r_name (i := 0))) r_str) r_bad r_bad)))
  s_nil)
  (s_cons (s_if (b_cmp (d_inX (hotU hr)) (r_xat (xat_cons T.m_InvalidRatio T.xf_InvalidRatio T.xn_InvalidRatio_tag xat_nil) (r_name (i := 0))) (r_tup (a_cons r_str (a_cons r_str a_nil))))
  (s_one (s_ret (r_if (b_cmp (d_eq (hotU hr)) (r_xat (xat_cons T.m_InvalidRatio T.xf_InvalidRatio T.xn_InvalidRatio_tag xat_nil) (r_name (i := 0))) r_str) r_bad (r_tup (a_cons r_bad (a_cons r_bad a_nil))))))
  s_nil)
  (s_cons (s_if (b_cmp (d_inX (hotU hr)) (r_xat (xat_cons T.m_InvalidRatio T.xf_InvalidRatio T.xn_InvalidRatio_tag xat_nil) (r_name (i := 0))) (r_tup (a_cons r_str (a_cons r_str a_nil))))
  (s_one (s_ret (r_if (b_cmp (d_eq (hotU hr)) (r_xat (xat_cons T.m_InvalidRatio T.xf_InvalidRatio T.xn_InvalidRatio_tag xat_nil) (r_name (i := 0))) r_str) r_bad r_bad)))
  s_nil)
  (s_one (s_ret (r_if (b_cmp (d_eq (hotU hr)) (r_xat (xat_cons T.m_InvalidRatio T.xf_InvalidRatio T.xn_InvalidRatio_tag xat_nil) (r_name (i := 0))) r_str) r_bad r_non))))))))))
theorem lo_law_0 (T : Tx K mg a_common_divisor a_is_whole a__law_bag a__law_gcd a__law_frac a__law_frac_text a__law_pick a__law_of a__law_same a__law_field a__law_why a__law_whys a_law C_Ratio a_Ratio___bool__ a_Ratio___eq__ a_Ratio___init__ a_Ratio_text a_Ratio___repr__ a_Ratio_bottom a_Ratio_top p_Ratio_bottom p_Ratio_top C_WayError C_Missing C_InvalidRatio C_NothingLeft) (Z_Ratio___bool__ : FZ P w K mg base 1 a_Ratio___bool__ f_Ratio___bool__) (Z_Ratio___eq__ : FZ P w K mg base 1 a_Ratio___eq__ f_Ratio___eq__) (Z_Ratio___init__ : FZ P w K mg base 4 a_Ratio___init__ f_Ratio___init__) (Z_Ratio___repr__ : FZ P w K mg base 2 a_Ratio___repr__ f_Ratio___repr__) : LamOk P w K mg base 6 T_law_0 (l_law_0) := by
  refine lam_ok (fl := (eFin (eArgs (makeS "Ratio" f_Ratio___init__) (aCons (eName 0) (aCons (eName 1) aNil))))) lw_law_0 (fun ρ H => RepL.nil) fun A outer s H E f c' clo hr => ?_
  have tk : Takes (cxL P w K mg base T_law_0 [] A outer s H E f c' clo) (fun c d _ H' => E c d H') := takes_of rfl rfl rfl rfl
  exact (r_fin (r_makeZ tk T.mk_Ratio Z_Ratio___init__ (hr.mono (by omega)) T.m_Ratio (a_cons (r_name (i := 0)) (a_cons (r_name (i := 1)) a_nil))))
theorem lo_law_1 (T : Tx K mg a_common_divisor a_is_whole a__law_bag a__law_gcd a__law_frac a__law_frac_text a__law_pick a__law_of a__law_same a__law_field a__law_why a__law_whys a_law C_Ratio a_Ratio___bool__ a_Ratio___eq__ a_Ratio___init__ a_Ratio_text a_Ratio___repr__ a_Ratio_bottom a_Ratio_top p_Ratio_bottom p_Ratio_top C_WayError C_Missing C_InvalidRatio C_NothingLeft) (Z_Ratio___bool__ : FZ P w K mg base 1 a_Ratio___bool__ f_Ratio___bool__) (Z_Ratio___eq__ : FZ P w K mg base 1 a_Ratio___eq__ f_Ratio___eq__) (Z_Ratio___init__ : FZ P w K mg base 4 a_Ratio___init__ f_Ratio___init__) (Z_Ratio___repr__ : FZ P w K mg base 2 a_Ratio___repr__ f_Ratio___repr__) : LamOk P w K mg base 6 T_law_1 (l_law_1) := by
  refine lam_ok (fl := (eFin (eArgs (makeS "Ratio" f_Ratio___init__) (aCons (eName 0) (aCons (eName 1) aNil))))) lw_law_1 (fun ρ H => RepL.cons mk_int (RepL.nil)) fun A outer s H E f c' clo hr => ?_
  have tk : Takes (cxL P w K mg base T_law_1 ["_law_a"] A outer s H E f c' clo) (fun c d _ H' => E c d H') := takes_of rfl rfl rfl rfl
  exact (r_fin (r_makeZ tk T.mk_Ratio Z_Ratio___init__ (hr.mono (by omega)) T.m_Ratio (a_cons (r_name (i := 0)) (a_cons (r_name (i := 1)) a_nil))))
theorem lo_law_2 (T : Tx K mg a_common_divisor a_is_whole a__law_bag a__law_gcd a__law_frac a__law_frac_text a__law_pick a__law_of a__law_same a__law_field a__law_why a__law_whys a_law C_Ratio a_Ratio___bool__ a_Ratio___eq__ a_Ratio___init__ a_Ratio_text a_Ratio___repr__ a_Ratio_bottom a_Ratio_top p_Ratio_bottom p_Ratio_top C_WayError C_Missing C_InvalidRatio C_NothingLeft) (Z_Ratio___bool__ : FZ P w K mg base 1 a_Ratio___bool__ f_Ratio___bool__) (Z_Ratio___eq__ : FZ P w K mg base 1 a_Ratio___eq__ f_Ratio___eq__) (Z_Ratio___init__ : FZ P w K mg base 4 a_Ratio___init__ f_Ratio___init__) (Z_Ratio___repr__ : FZ P w K mg base 2 a_Ratio___repr__ f_Ratio___repr__) (ZK_Ratio___init___1 : FZK P w K mg base 4 a_Ratio___init__ 1 ["bottom", "top"] fk_Ratio___init___1) : LamOk P w K mg base 6 T_law_2 (l_law_2) := by
  refine lam_ok (fl := (eFin (eCallK 0 2 (makeS "Ratio" fk_Ratio___init___1) aNil (aCons (eName 0) (aCons (eName 1) aNil))))) lw_law_2 (fun ρ H => RepL.cons mk_int (RepL.nil)) fun A outer s H E f c' clo hr => ?_
  have tk : Takes (cxL P w K mg base T_law_2 ["_law_b"] A outer s H E f c' clo) (fun c d _ H' => E c d H') := takes_of rfl rfl rfl rfl
  exact (r_fin (r_makeK0 tk T.mk_Ratio ZK_Ratio___init___1 (hr.mono (by omega)) T.m_Ratio (k_cons (r_name (i := 0)) (k_cons (r_name (i := 1)) k_nil))))
theorem o__law_why (Ps : Nat → Addr) (T : Tx K mg a_common_divisor a_is_whole a__law_bag a__law_gcd a__law_frac a__law_frac_text a__law_pick a__law_of a__law_same a__law_field a__law_why a__law_whys a_law C_Ratio a_Ratio___bool__ a_Ratio___eq__ a_Ratio___init__ a_Ratio_text a_Ratio___repr__ a_Ratio_bottom a_Ratio_top p_Ratio_bottom p_Ratio_top C_WayError C_Missing C_InvalidRatio C_NothingLeft) {fd : FuncData} (F : FunD K "_law_why" "_law_why" (defArgs s__law_why) (defBody s__law_why) (defScope s__law_why) [] [] a__law_why fd) (Z_Ratio___bool__ : FZ P w K mg base 1 a_Ratio___bool__ f_Ratio___bool__) (Z_Ratio___eq__ : FZ P w K mg base 1 a_Ratio___eq__ f_Ratio___eq__) (Z_Ratio___init__ : FZ P w K mg base 4 a_Ratio___init__ f_Ratio___init__) (Z_Ratio___repr__ : FZ P w K mg base 2 a_Ratio___repr__ f_Ratio___repr__) (Z__law_field : FZT P w K mg base 1 a__law_field f__law_field) (HL : LOk P w K mg base 6 (lamTab Ps)) : FnOk P w K mg base (L2.CX P w) 7 a__law_why fd ["_law_ask"] (spOf K mg 1 (defS 2 (m__law_why Ps))) := by
  refine fn_okD (N := ["_law_ask", "_law_e"]) F sc__law_why (k := 6) (body := m__law_why Ps) fun A outer s H E hr => ?_
  have tk : Takes (cxOf (L2.CX P w) P w K mg base ["_law_ask", "_law_e"] "_law_why" (defScope s__law_why) a__law_why fd.code A outer s H E) (fun c d _ H' => E c d H') := takes_of rfl rfl rfl rfl
  have hp : PassesOwn (model P w) (cxOf (L2.CX P w) P w K mg base ["_law_ask", "_law_e"] "_law_why" (defScope s__law_why) a__law_why fd.code A outer s H E).A (cxOf (L2.CX P w) P w K mg base ["_law_ask", "_law_e"] "_law_why" (defScope s__law_why) a__law_why fd.code A outer s H E).env (cxOf (L2.CX P w) P w K mg base ["_law_ask", "_law_e"] "_law_why" (defScope s__law_why) a__law_why fd.code A outer s H E).xe := passes_of rfl
  unfold m__law_why
  exact (s_one (s_tryZ (n := "_law_e") (i := 1) (tab := [("InvalidRatio", true)]) rfl rfl sc__law_why.nd rfl rfl (test_tup3 rfl T.m_WayError rfl T.m_Missing rfl T.m_NothingLeft) tk (try_cons T.m_InvalidRatio T.tr_InvalidRatio_WayError_Missing_NothingLeft try_nil) (fun W' pn xe tk =>
  (s_one (s_ret (r_tup (a_cons r_str (a_cons (r_lamc (i := 0) tk HL (hr.mono (by omega)) rfl (.inl rfl)) a_nil)))))) (fun a pn =>
  (s_one (s_ret (r_tup (a_cons (r_xat (xat_cons T.m_InvalidRatio T.xf_InvalidRatio T.xn_InvalidRatio_tag xat_nil) (r_name (i := 1))) (a_cons (r_callHot takesF Z__law_field (RoomH.hot hr (by omega)) T.m__law_field T.k__law_field (a_cons (r_name (i := 1)) a_nil)) a_nil))))))))
theorem d__law_why (Ps : Nat → Addr) {fd : FuncData} (F : FunD K "_law_why" "_law_why" (defArgs s__law_why) (defBody s__law_why) (defScope s__law_why) [] [] a__law_why fd) (O : FnOk P w K mg base (L2.CX P w) 7 a__law_why fd ["_law_ask"] (spOf K mg 1 (defS 2 (m__law_why Ps)))) : FZ P w K mg base 7 a__law_why (f__law_why Ps) := fz_of0 O (F.bindsN (ps := ["_law_ask"]) fun _ _ _ _ _ _ us hl => match us, hl with | [_], _ => rfl)
theorem o__law_whys (Ps : Nat → Addr) (T : Tx K mg a_common_divisor a_is_whole a__law_bag a__law_gcd a__law_frac a__law_frac_text a__law_pick a__law_of a__law_same a__law_field a__law_why a__law_whys a_law C_Ratio a_Ratio___bool__ a_Ratio___eq__ a_Ratio___init__ a_Ratio_text a_Ratio___repr__ a_Ratio_bottom a_Ratio_top p_Ratio_bottom p_Ratio_top C_WayError C_Missing C_InvalidRatio C_NothingLeft) {fd : FuncData} (F : FunD K "_law_whys" "_law_whys" (defArgs s__law_whys) (defBody s__law_whys) (defScope s__law_whys) [] [] a__law_whys fd) (Z__law_why : FZ P w K mg base 7 a__law_why (f__law_why Ps)) : FnOk P w K mg base (L2.CX P w) 8 a__law_whys fd ["_law_asks"] (spOf K mg 1 (defS 2 (m__law_whys Ps))) := by
  refine fn_okD (N := ["_law_asks", "_law_ask"]) F sc__law_whys (k := 7) (body := m__law_whys Ps) fun A outer s H E hr => ?_
  have tk : Takes (cxOf (L2.CX P w) P w K mg base ["_law_asks", "_law_ask"] "_law_whys" (defScope s__law_whys) a__law_whys fd.code A outer s H E) (fun c d _ H' => E c d H') := takes_of rfl rfl rfl rfl
  have hp : PassesOwn (model P w) (cxOf (L2.CX P w) P w K mg base ["_law_asks", "_law_ask"] "_law_whys" (defScope s__law_whys) a__law_whys fd.code A outer s H E).A (cxOf (L2.CX P w) P w K mg base ["_law_asks", "_law_ask"] "_law_whys" (defScope s__law_whys) a__law_whys fd.code A outer s H E).env (cxOf (L2.CX P w) P w K mg base ["_law_asks", "_law_ask"] "_law_whys" (defScope s__law_whys) a__law_whys fd.code A outer s H E).xe := passes_of rfl
  unfold m__law_whys
  exact (s_one (s_ret (r_fin (r_lc (own := [("_law_ask", 1)]) rfl sc__law_whys.nd (blkOk_by (by rfl)) (i_any (r_name (i := 0))) (fun _ _ _ _ _ => (gw_name sc__law_whys.nd (i := 1))) (fun _ _ _ _ _ => ts_nil) (fun _ _ _ _ _ => (r_callZ takesF Z__law_why (hr.mono (by omega)) T.m__law_why T.k__law_why (a_cons (r_name (i := 1)) a_nil)))))))
theorem d__law_whys (Ps : Nat → Addr) {fd : FuncData} (F : FunD K "_law_whys" "_law_whys" (defArgs s__law_whys) (defBody s__law_whys) (defScope s__law_whys) [] [] a__law_whys fd) (O : FnOk P w K mg base (L2.CX P w) 8 a__law_whys fd ["_law_asks"] (spOf K mg 1 (defS 2 (m__law_whys Ps)))) : FZ P w K mg base 8 a__law_whys (f__law_whys Ps) := fz_of0 O (F.bindsN (ps := ["_law_asks"]) fun _ _ _ _ _ _ us hl => match us, hl with | [_], _ => rfl)
theorem lf_law : ∀ y ∈ (defScope s_law).names, y.2 = .cell → True := fun _ _ _ => trivial
theorem lfr_law_0 : ∀ y ∈ T_law_0.scope.names, y.2 = .free → (defScope s_law).names.lookup y.1 = some .cell := by decide +kernel
theorem lfr_law_1 : ∀ y ∈ T_law_1.scope.names, y.2 = .free → (defScope s_law).names.lookup y.1 = some .cell := by decide +kernel
theorem lfr_law_2 : ∀ y ∈ T_law_2.scope.names, y.2 = .free → (defScope s_law).names.lookup y.1 = some .cell := by decide +kernel
theorem o_law (Ps : Nat → Addr) (T : Tx K mg a_common_divisor a_is_whole a__law_bag a__law_gcd a__law_frac a__law_frac_text a__law_pick a__law_of a__law_same a__law_field a__law_why a__law_whys a_law C_Ratio a_Ratio___bool__ a_Ratio___eq__ a_Ratio___init__ a_Ratio_text a_Ratio___repr__ a_Ratio_bottom a_Ratio_top p_Ratio_bottom p_Ratio_top C_WayError C_Missing C_InvalidRatio C_NothingLeft) {fd : FuncData} {cc : Addr} (F : FunD K "law" "law" (defArgs s_law) (defBody s_law) (defScope s_law) [] [] a_law fd) (TB : LamX.TabB base mg cc (Ps 0)) (hc : fd.code = .ref cc) (Z_Ratio___bool__ : FZ P w K mg base 1 a_Ratio___bool__ f_Ratio___bool__) (Z_Ratio___eq__ : FZ P w K mg base 1 a_Ratio___eq__ f_Ratio___eq__) (Z_Ratio___init__ : FZ P w K mg base 4 a_Ratio___init__ f_Ratio___init__) (Z_Ratio___repr__ : FZ P w K mg base 2 a_Ratio___repr__ f_Ratio___repr__) (Z_Ratio_bottom : FZ P w K mg base 1 a_Ratio_bottom f_Ratio_bottom) (Z_Ratio_text : FZ P w K mg base 1 a_Ratio_text f_Ratio_text) (Z_Ratio_top : FZ P w K mg base 1 a_Ratio_top f_Ratio_top) (Z__law_bag : FZ P w K mg base 1 a__law_bag f__law_bag) (Z__law_frac : FZ P w K mg base 2 a__law_frac f__law_frac) (Z__law_frac_text : FZ P w K mg base 1 a__law_frac_text f__law_frac_text) (Z__law_of : FZ P w K mg base 2 a__law_of f__law_of) (Z__law_pick : FZ P w K mg base 1 a__law_pick f__law_pick) (Z__law_same : FZ P w K mg base 13 a__law_same f__law_same) (Z__law_whys : FZ P w K mg base 8 a__law_whys (f__law_whys Ps)) (ZK_Ratio___init___0 : FZK P w K mg base 4 a_Ratio___init__ 1 ["top"] fk_Ratio___init___0) : FnOk P w K mg base (L2.CX P w) 14 a_law fd ["_law_script"] (fun vs H Q E => ∀ κ, spOf K mg 1 (defS 16 (m_law Ps κ)) vs H Q E) := by
  refine fn_okT (N := ["_law_script", "_law_bag_here", "_law_turn", "_law_wide", "_law_share", "_law_up", "_law_down", "_law_due", "_law_found", "_law_told", "_law_whole", "_law_same_here", "_law_odd", "_law_late", "_law_asks", "_law_other"]) F sc_law (k := 13) (body := fun κ => m_law Ps κ) fun A outer s H E hr => ?_
  have tk : Takes (cxOf (L2.CX P w) P w K mg base ["_law_script", "_law_bag_here", "_law_turn", "_law_wide", "_law_share", "_law_up", "_law_down", "_law_due", "_law_found", "_law_told", "_law_whole", "_law_same_here", "_law_odd", "_law_late", "_law_asks", "_law_other"] "law" (defScope s_law) a_law fd.code A outer s H E) (fun c d _ H' => E c d H') := takes_of rfl rfl rfl rfl
  have hp : PassesOwn (model P w) (cxOf (L2.CX P w) P w K mg base ["_law_script", "_law_bag_here", "_law_turn", "_law_wide", "_law_share", "_law_up", "_law_down", "_law_due", "_law_found", "_law_told", "_law_whole", "_law_same_here", "_law_odd", "_law_late", "_law_asks", "_law_other"] "law" (defScope s_law) a_law fd.code A outer s H E).A (cxOf (L2.CX P w) P w K mg base ["_law_script", "_law_bag_here", "_law_turn", "_law_wide", "_law_share", "_law_up", "_law_down", "_law_due", "_law_found", "_law_told", "_law_whole", "_law_same_here", "_law_odd", "_law_late", "_law_asks", "_law_other"] "law" (defScope s_law) a_law fd.code A outer s H E).env (cxOf (L2.CX P w) P w K mg base ["_law_script", "_law_bag_here", "_law_turn", "_law_wide", "_law_share", "_law_up", "_law_down", "_law_due", "_law_found", "_law_told", "_law_whole", "_law_same_here", "_law_odd", "_law_late", "_law_asks", "_law_other"] "law" (defScope s_law) a_law fd.code A outer s H E).xe := passes_of rfl
  have lfree_law_0 : ∀ y ∈ T_law_0.scope.names, y.2 = .free → (cxOf (L2.CX P w) P w K mg base ["_law_script", "_law_bag_here", "_law_turn", "_law_wide", "_law_share", "_law_up", "_law_down", "_law_due", "_law_found", "_law_told", "_law_whole", "_law_same_here", "_law_odd", "_law_late", "_law_asks", "_law_other"] "law" (defScope s_law) a_law fd.code A outer s H E).env.kindOf y.1 = some .cell := lfr_law_0
  have lfree_law_1 : ∀ y ∈ T_law_1.scope.names, y.2 = .free → (cxOf (L2.CX P w) P w K mg base ["_law_script", "_law_bag_here", "_law_turn", "_law_wide", "_law_share", "_law_up", "_law_down", "_law_due", "_law_found", "_law_told", "_law_whole", "_law_same_here", "_law_odd", "_law_late", "_law_asks", "_law_other"] "law" (defScope s_law) a_law fd.code A outer s H E).env.kindOf y.1 = some .cell := lfr_law_1
  have lfree_law_2 : ∀ y ∈ T_law_2.scope.names, y.2 = .free → (cxOf (L2.CX P w) P w K mg base ["_law_script", "_law_bag_here", "_law_turn", "_law_wide", "_law_share", "_law_up", "_law_down", "_law_due", "_law_found", "_law_told", "_law_whole", "_law_same_here", "_law_odd", "_law_late", "_law_asks", "_law_other"] "law" (defScope s_law) a_law fd.code A outer s H E).env.kindOf y.1 = some .cell := lfr_law_2
  unfold m_law
  exact (s_cons (s_set (i := 1) sc_law.nd (r_callZ tk Z__law_bag (hr.mono (by omega)) T.m__law_bag T.k__law_bag (a_cons (r_name (i := 0)) a_nil)))
  (s_cons (s_for hp rfl (i_range1 (a_cons r_int a_nil) rfl T.b_range) (g_name sc_law.nd (i := 2))
  (s_cons (s_set (i := 3) sc_law.nd (r_callZ tk Z__law_of (hr.mono (by omega)) T.m__law_of T.k__law_of (a_cons (r_name (i := 1)) (a_cons (r_lst (a_cons r_int (a_cons r_int (a_cons (r_bin d_powI r_int r_int) a_nil)))) a_nil))))
  (s_cons (s_asg (r_tup (a_cons (r_bin d_addX r_int (r_callZ tk Z__law_pick (hr.mono (by omega)) T.m__law_pick T.k__law_pick (a_cons (r_name (i := 1)) (a_cons (r_name (i := 3)) a_nil)))) (a_cons (r_bin d_subI (r_callZ tk Z__law_pick (hr.mono (by omega)) T.m__law_pick T.k__law_pick (a_cons (r_name (i := 1)) (a_cons (r_bin d_mulX r_int (r_name (i := 3))) a_nil))) (r_name (i := 3))) (a_cons (r_bin d_addX r_int (r_callZ tk Z__law_pick (hr.mono (by omega)) T.m__law_pick T.k__law_pick (a_cons (r_name (i := 1)) (a_cons (r_name (i := 3)) a_nil)))) a_nil)))) (g_tup rfl (gs_cons (g_name sc_law.nd (i := 4)) (gs_cons (g_name sc_law.nd (i := 5)) (gs_cons (g_name sc_law.nd (i := 6)) gs_nil))) (len_consN (nx_set 4) (len_consN (nx_set 5) (len_consN (nx_set 6) len_nil)))) (nx_tup (nx_cons (nx_set 4) (nx_cons (nx_set 5) (nx_cons (nx_set 6) nx_nil)))))
  (s_cons (s_set (i := 6) sc_law.nd (r_callZ tk Z__law_of (hr.mono (by omega)) T.m__law_of T.k__law_of (a_cons (r_name (i := 1)) (a_cons (r_lst (a_cons (r_name (i := 6)) (a_cons (r_bin d_subI r_int (r_name (i := 6))) a_nil))) a_nil))))
  (s_cons (s_set (i := 7) sc_law.nd (r_callZ tk Z__law_frac (hr.mono (by omega)) T.m__law_frac T.k__law_frac (a_cons (r_bin d_mulX (r_name (i := 5)) (r_name (i := 4))) (a_cons (r_bin d_mulX (r_name (i := 6)) (r_name (i := 4))) a_nil))))
  (s_cons (s_set (i := 8) sc_law.nd (r_fin (r_makeZ tk T.mk_Ratio Z_Ratio___init__ (hr.mono (by omega)) T.m_Ratio (a_cons (r_bin d_mulX (r_name (i := 5)) (r_name (i := 4))) (a_cons (r_bin d_mulX (r_name (i := 6)) (r_name (i := 4))) a_nil)))))
  (s_cons (s_set (i := 9) sc_law.nd (r_lst (a_cons (r_attrZ (attr_cons T.m_Ratio T.cl_Ratio ⟨_, _, _, T.pr_Ratio_top, Z_Ratio_top, hr.mono (by omega)⟩ attr_nil) (r_name (i := 8))) (a_cons (r_attrZ (attr_cons T.m_Ratio T.cl_Ratio ⟨_, _, _, T.pr_Ratio_bottom, Z_Ratio_bottom, hr.mono (by omega)⟩ attr_nil) (r_name (i := 8))) (a_cons (r_methZ0 tk (meth_cons T.m_Ratio T.cl_Ratio T.me_Ratio_text Z_Ratio_text (hr.mono (by omega)) meth_nil) (r_name (i := 8))) (a_cons (r_callBW (ow_repr tk (hw3 hr.units) (ownm_cons T.m_Ratio T.me_Ratio___repr__ Z_Ratio___repr__ (hr.mono (by omega)) ownm_nil)) rfl T.b_repr PyProof.Rows.boot_repr (a_cons (r_name (i := 8)) a_nil)) (a_cons (r_callTW (CallW.or (CallD.w d_bool) (ow_bool tk (ownm_cons T.m_Ratio T.me_Ratio___bool__ Z_Ratio___bool__ (hr.mono (by omega)) ownm_nil))) rfl T.b_bool PyProof.Rows.boot_bool (a_cons (r_name (i := 8)) a_nil)) a_nil)))))))
  (s_cons (s_if (b_not (b_tru (TruW.or ow_truPl (ow_tru tk (ownm_cons T.m_Ratio T.me_Ratio___bool__ Z_Ratio___bool__ (hr.mono (by omega)) ownm_nil))) (r_callZ tk Z__law_same (hr.mono (by omega)) T.m__law_same T.k__law_same (a_cons (r_name (i := 9)) (a_cons (r_lst (a_cons (r_ix (d_ixX hr.units) (r_name (i := 7)) r_int) (a_cons (r_ix (d_ixX hr.units) (r_name (i := 7)) r_int) (a_cons (r_callZ tk Z__law_frac_text (hr.mono (by omega)) T.m__law_frac_text T.k__law_frac_text (a_cons (r_name (i := 7)) a_nil)) (a_cons (r_bin d_addX (r_bin d_addX r_str (r_callZ tk Z__law_frac_text (hr.mono (by omega)) T.m__law_frac_text T.k__law_frac_text (a_cons (r_name (i := 7)) a_nil))) r_str) (a_cons (r_cmpW (OpW.or (OpD.w (d_ne hr.units)) (ow_ne tk (hw1 hr.units) (ownm_cons T.m_Ratio T.me_Ratio___eq__ Z_Ratio___eq__ (hr.mono (by omega)) ownm_nil) (oeq_cons T.m_Ratio (onf_cons T.m_Ratio T.nf_Ratio_Ratio onf_nil) T.ne_Ratio T.ob_Ratio oeq_nil))) (r_name (i := 5)) r_int) a_nil)))))) a_nil)))))
  (s_one (s_ret r_bl))
  s_nil)
  (s_cons (s_set (i := 10) sc_law.nd (r_fin (r_makeK0 tk T.mk_Ratio ZK_Ratio___init___0 (hr.mono (by omega)) T.m_Ratio (k_cons (r_name (i := 5)) k_nil))))
  (s_cons (s_set (i := 11) sc_law.nd (r_lst (a_cons (r_cmpW (OpW.or (OpD.w (d_eq hr.units)) (ow_eq tk (hw0 hr.units) (ownm_cons T.m_Ratio T.me_Ratio___eq__ Z_Ratio___eq__ (hr.mono (by omega)) ownm_nil) (oeq_cons T.m_Ratio (onf_cons T.m_Ratio T.nf_Ratio_Ratio onf_nil) T.ne_Ratio T.ob_Ratio oeq_nil))) (r_name (i := 8)) (r_fin (r_makeZ tk T.mk_Ratio Z_Ratio___init__ (hr.mono (by omega)) T.m_Ratio (a_cons (r_name (i := 5)) (a_cons (r_name (i := 6)) a_nil))))) (a_cons (r_cmpW (OpW.or (OpD.w (d_ne hr.units)) (ow_ne tk (hw1 hr.units) (ownm_cons T.m_Ratio T.me_Ratio___eq__ Z_Ratio___eq__ (hr.mono (by omega)) ownm_nil) (oeq_cons T.m_Ratio (onf_cons T.m_Ratio T.nf_Ratio_Ratio onf_nil) T.ne_Ratio T.ob_Ratio oeq_nil))) (r_name (i := 8)) (r_fin (r_makeZ tk T.mk_Ratio Z_Ratio___init__ (hr.mono (by omega)) T.m_Ratio (a_cons (r_name (i := 5)) (a_cons (r_name (i := 6)) a_nil))))) (a_cons (r_cmpW (OpW.or (OpD.w (d_eq hr.units)) (ow_eq tk (hw0 hr.units) (ownm_cons T.m_Ratio T.me_Ratio___eq__ Z_Ratio___eq__ (hr.mono (by omega)) ownm_nil) (oeq_cons T.m_Ratio (onf_cons T.m_Ratio T.nf_Ratio_Ratio onf_nil) T.ne_Ratio T.ob_Ratio oeq_nil))) (r_name (i := 8)) (r_fin (r_makeZ tk T.mk_Ratio Z_Ratio___init__ (hr.mono (by omega)) T.m_Ratio (a_cons (r_bin d_addX (r_ix (d_ixX hr.units) (r_name (i := 7)) r_int) r_int) (a_cons (r_ix (d_ixX hr.units) (r_name (i := 7)) r_int) a_nil))))) (a_cons (r_cmpW (OpW.or (OpD.w (d_eq hr.units)) (ow_eq tk (hw0 hr.units) (ownm_cons T.m_Ratio T.me_Ratio___eq__ Z_Ratio___eq__ (hr.mono (by omega)) ownm_nil) (oeq_cons T.m_Ratio (onf_cons T.m_Ratio T.nf_Ratio_Ratio onf_nil) T.ne_Ratio T.ob_Ratio oeq_nil))) (r_name (i := 10)) (r_name (i := 5))) a_nil))))))
  (s_cons (s_if (EW.eb (w_or (b_not (b_tru (TruW.or ow_truPl (ow_tru tk (ownm_cons T.m_Ratio T.me_Ratio___bool__ Z_Ratio___bool__ (hr.mono (by omega)) ownm_nil))) (r_callZ tk Z__law_same (hr.mono (by omega)) T.m__law_same T.k__law_same (a_cons (r_name (i := 11)) (a_cons (r_lst (a_cons r_bl (a_cons r_bl (a_cons r_bl (a_cons r_bl a_nil))))) a_nil))))) (w_or1 (b_not (b_tru (TruW.or ow_truPl (ow_tru tk (ownm_cons T.m_Ratio T.me_Ratio___bool__ Z_Ratio___bool__ (hr.mono (by omega)) ownm_nil))) (r_callZ tk Z__law_same (hr.mono (by omega)) T.m__law_same T.k__law_same (a_cons (r_lst (a_cons (r_attrZ (attr_cons T.m_Ratio T.cl_Ratio ⟨_, _, _, T.pr_Ratio_top, Z_Ratio_top, hr.mono (by omega)⟩ attr_nil) (r_name (i := 10))) (a_cons (r_attrZ (attr_cons T.m_Ratio T.cl_Ratio ⟨_, _, _, T.pr_Ratio_bottom, Z_Ratio_bottom, hr.mono (by omega)⟩ attr_nil) (r_name (i := 10))) a_nil))) (a_cons (r_lst (a_cons (r_name (i := 5)) (a_cons r_int a_nil))) a_nil))))))))
  (s_one (s_ret r_bl))
  s_nil)
  (s_cons (s_asg (r_tup (a_cons (r_callZ tk Z__law_of (hr.mono (by omega)) T.m__law_of T.k__law_of (a_cons (r_name (i := 1)) (a_cons (r_lst (a_cons r_non (a_cons r_str (a_cons r_bl (a_cons (r_tup (a_cons r_int a_nil)) (a_cons (r_lst (a_cons r_int a_nil)) a_nil)))))) a_nil))) (a_cons (r_callZ tk Z__law_of (hr.mono (by omega)) T.m__law_of T.k__law_of (a_cons (r_name (i := 1)) (a_cons (r_lst (a_cons r_int (a_cons r_non (a_cons r_str (a_cons r_bl (a_cons (r_tup (a_cons r_int a_nil)) a_nil)))))) a_nil))) a_nil))) (g_tup rfl (gs_cons (g_name sc_law.nd (i := 12)) (gs_cons (g_name sc_law.nd (i := 13)) gs_nil)) (len_consN (nx_set 12) (len_consN (nx_set 13) len_nil))) (nx_tup (nx_cons (nx_set 12) (nx_cons (nx_set 13) nx_nil))))
  (s_cons (s_set (i := 14) sc_law.nd (r_lst (a_cons (r_lam0 (ti := 0) (T := T_law_0) TB hc rfl rfl rfl lfree_law_0) (a_cons (r_lam1 (ti := 0) (T := T_law_1) TB hc rfl rfl rfl rfl lfree_law_1) (a_cons (r_lam1 (ti := 0) (T := T_law_2) TB hc rfl rfl rfl rfl lfree_law_2) a_nil)))))
  (s_cons (s_if (b_not (b_tru (TruW.or ow_truPl (ow_tru tk (ownm_cons T.m_Ratio T.me_Ratio___bool__ Z_Ratio___bool__ (hr.mono (by omega)) ownm_nil))) (r_callZ tk Z__law_same (hr.mono (by omega)) T.m__law_same T.k__law_same (a_cons (r_callL (cn := ["_law_odd", "_law_late", "_law_up", "_law_share"]) Z__law_whys (hr.mono (by omega)) T.m__law_whys T.k__law_whys (fun _ => rfl) (hcn_cons rfl (hcn_cons rfl (hcn_cons rfl (hcn_cons rfl hcn_nil)))) (a_cons (r_name (i := 14)) a_nil)) (a_cons (r_lst (a_cons (r_tup (a_cons r_str (a_cons (r_name (i := 12)) a_nil))) (a_cons (r_tup (a_cons r_str (a_cons (r_name (i := 13)) a_nil))) (a_cons (r_tup (a_cons r_str (a_cons (r_name (i := 13)) a_nil))) a_nil)))) a_nil)))))
  (s_one (s_ret r_bl))
  s_nil)
  (s_one (s_if (b_tru (TruW.or ow_truPl (ow_tru tk (ownm_cons T.m_Ratio T.me_Ratio___bool__ Z_Ratio___bool__ (hr.mono (by omega)) ownm_nil))) (r_callB (d_any rfl) rfl T.b_any PyProof.Rows.boot_any (a_cons (r_fin (r_lc (own := [("_law_other", 15)]) rfl sc_law.nd (blkOk_by (by rfl)) (i_any (r_lst (a_cons r_non (a_cons (r_name (i := 7)) (a_cons (r_methZ0 tk (meth_cons T.m_Ratio T.cl_Ratio T.me_Ratio_text Z_Ratio_text (hr.mono (by omega)) meth_nil) (r_name (i := 8))) (a_cons r_bl a_nil)))))) (fun _ _ _ _ _ => (gw_name sc_law.nd (i := 15))) (fun _ _ _ _ _ => ts_nil) (fun _ _ _ _ _ => (r_cmpW (OpW.or (OpD.w (d_eq hr.units)) (ow_eq takesF (hw0 hr.units) (ownm_cons T.m_Ratio T.me_Ratio___eq__ Z_Ratio___eq__ (hr.mono (by omega)) ownm_nil) (oeq_cons T.m_Ratio (onf_cons T.m_Ratio T.nf_Ratio_Ratio onf_nil) T.ne_Ratio T.ob_Ratio oeq_nil))) (r_name (i := 8)) (r_name (i := 15)))))) a_nil)))
  (s_one (s_ret r_bl))
  s_nil))))))))))))))))
  (s_one (s_ret (r_and (r_not (r_callTW (CallW.or (CallD.w d_bool) (ow_bool tk (ownm_cons T.m_Ratio T.me_Ratio___bool__ Z_Ratio___bool__ (hr.mono (by omega)) ownm_nil))) rfl T.b_bool PyProof.Rows.boot_bool (a_cons (r_fin (r_makeZ tk T.mk_Ratio Z_Ratio___init__ (hr.mono (by omega)) T.m_Ratio (a_cons r_int (a_cons (r_bin d_subI r_int r_int) a_nil)))) a_nil))) (r_one (r_callZ tk Z__law_same (hr.mono (by omega)) T.m__law_same T.k__law_same (a_cons (r_lst (a_cons (r_attrZ (attr_cons T.m_Ratio T.cl_Ratio ⟨_, _, _, T.pr_Ratio_top, Z_Ratio_top, hr.mono (by omega)⟩ attr_nil) (r_fin (r_makeZ tk T.mk_Ratio Z_Ratio___init__ (hr.mono (by omega)) T.m_Ratio (a_cons r_int (a_cons (r_bin d_subI r_int r_int) a_nil))))) (a_cons (r_attrZ (attr_cons T.m_Ratio T.cl_Ratio ⟨_, _, _, T.pr_Ratio_bottom, Z_Ratio_bottom, hr.mono (by omega)⟩ attr_nil) (r_fin (r_makeZ tk T.mk_Ratio Z_Ratio___init__ (hr.mono (by omega)) T.m_Ratio (a_cons r_int (a_cons (r_bin d_subI r_int r_int) a_nil))))) a_nil))) (a_cons (r_lst (a_cons r_int (a_cons r_int a_nil))) a_nil)))))))))
end
abbrev s_InvalidRatio___init__ : Stmt := inClass (top 4) 0
theorem ss_InvalidRatio : ZX.SupS (defScope s_InvalidRatio___init__) "self" := ⟨rfl, rfl, rfl, rfl, rfl, rfl, by decide +kernel⟩
theorem po_InvalidRatio : ZX.ParOk (defArgs s_InvalidRatio___init__) (defScope s_InvalidRatio___init__) "self" ["value"] := ⟨rfl, by decide +kernel, by decide +kernel, by decide +kernel, fun fd us h hd hl => by
  obtain ⟨⟩ := fd
  cases h
  cases hd
  exact match us, hl with | [_, _], _ => rfl⟩
abbrev s_WayError___init__ : Stmt := inClass (top 2) 0
theorem ss_WayError : ZX.SupS (defScope s_WayError___init__) "self" := ⟨rfl, rfl, rfl, rfl, rfl, rfl, by decide +kernel⟩
theorem po_WayError : ZX.ParOk (defArgs s_WayError___init__) (defScope s_WayError___init__) "self" ["tag"] := ⟨rfl, by decide +kernel, by decide +kernel, by decide +kernel, fun fd us h hd hl => by
  obtain ⟨⟩ := fd
  cases h
  cases hd
  exact match us, hl with | [_, _], _ => rfl⟩
theorem all_mk {l : PySem.W.OpenLaw} {w : World} {K : PySem.W.Frag} {h : Heap} {mg : Str → Option Value} {fa a_common_divisor a_is_whole a__law_bag a__law_gcd a__law_frac a__law_frac_text a__law_pick a__law_of a__law_same a__law_field a__law_why a__law_whys a_law C_Ratio a_Ratio___bool__ a_Ratio___eq__ a_Ratio___init__ a_Ratio_text a_Ratio___repr__ a_Ratio_bottom a_Ratio_top p_Ratio_bottom p_Ratio_top C_WayError C_Missing C_InvalidRatio C_NothingLeft : Addr} {ts : List Addr} (law_ok : ∀ (Ps : Nat → Addr) (ns : List Int), ns.length ≤ 63 → (∀ z ∈ ns, Builtin.Int.intBits z ≤ 1048576) → ∀ (κ : List (Str × Addr)), ∃ S, defS 16 (m_law Ps κ) [.scr ns] (tabsOf [(Ps 0, "law.<locals>.<lambda>")]) = .ok (.bl true) S) (X : K.In h) (G : h.Ns mainGlobals mg) (hfa : mg "law" = some (.ref fa)) (hT : ∀ P ∈ ts, h.get? P = some (PySem.W.tabObj #[]))
    {od_Ratio___bool__ an_Ratio___bool__ : Option Addr} {sl_Ratio___bool__ : Array (Option Value)} {oc_Ratio___bool__ kV_Ratio___bool__ dc_Ratio___bool__ pm_Ratio___bool__ cd_Ratio___bool__ ct_Ratio___bool__ : Value}
    {od_Ratio___eq__ an_Ratio___eq__ : Option Addr} {sl_Ratio___eq__ : Array (Option Value)} {oc_Ratio___eq__ kV_Ratio___eq__ dc_Ratio___eq__ pm_Ratio___eq__ cd_Ratio___eq__ ct_Ratio___eq__ : Value}
    {od_common_divisor an_common_divisor : Option Addr} {sl_common_divisor : Array (Option Value)} {oc_common_divisor kV_common_divisor dc_common_divisor pm_common_divisor cd_common_divisor ct_common_divisor : Value}
    {od_is_whole an_is_whole : Option Addr} {sl_is_whole : Array (Option Value)} {oc_is_whole kV_is_whole dc_is_whole pm_is_whole cd_is_whole ct_is_whole : Value}
    {od_Ratio___init__ an_Ratio___init__ : Option Addr} {sl_Ratio___init__ : Array (Option Value)} {oc_Ratio___init__ kV_Ratio___init__ dc_Ratio___init__ pm_Ratio___init__ cd_Ratio___init__ ct_Ratio___init__ : Value}
    {T_Ratio___init__ : Addr} {ocd_Ratio___init__ : Value} {odd_Ratio___init__ : Option Addr} {nd_Ratio___init__ : Nat} {sld_Ratio___init__ : Array (Option Value)} {tk_Ratio___init___0 : Tok}
    {od_Ratio_text an_Ratio_text : Option Addr} {sl_Ratio_text : Array (Option Value)} {oc_Ratio_text kV_Ratio_text dc_Ratio_text pm_Ratio_text cd_Ratio_text ct_Ratio_text : Value}
    {od_Ratio___repr__ an_Ratio___repr__ : Option Addr} {sl_Ratio___repr__ : Array (Option Value)} {oc_Ratio___repr__ kV_Ratio___repr__ dc_Ratio___repr__ pm_Ratio___repr__ cd_Ratio___repr__ ct_Ratio___repr__ : Value}
    {od_Ratio_bottom an_Ratio_bottom : Option Addr} {sl_Ratio_bottom : Array (Option Value)} {oc_Ratio_bottom kV_Ratio_bottom dc_Ratio_bottom pm_Ratio_bottom cd_Ratio_bottom ct_Ratio_bottom : Value}
    {pr_Ratio_bottom : List Value}
    {od_Ratio_top an_Ratio_top : Option Addr} {sl_Ratio_top : Array (Option Value)} {oc_Ratio_top kV_Ratio_top dc_Ratio_top pm_Ratio_top cd_Ratio_top ct_Ratio_top : Value}
    {pr_Ratio_top : List Value}
    {od__law_bag an__law_bag : Option Addr} {sl__law_bag : Array (Option Value)} {oc__law_bag kV__law_bag dc__law_bag pm__law_bag cd__law_bag ct__law_bag : Value}
    {od__law_gcd an__law_gcd : Option Addr} {sl__law_gcd : Array (Option Value)} {oc__law_gcd kV__law_gcd dc__law_gcd pm__law_gcd cd__law_gcd ct__law_gcd : Value}
    {od__law_frac an__law_frac : Option Addr} {sl__law_frac : Array (Option Value)} {oc__law_frac kV__law_frac dc__law_frac pm__law_frac cd__law_frac ct__law_frac : Value}
    {od__law_frac_text an__law_frac_text : Option Addr} {sl__law_frac_text : Array (Option Value)} {oc__law_frac_text kV__law_frac_text dc__law_frac_text pm__law_frac_text cd__law_frac_text ct__law_frac_text : Value}
    {od__law_pick an__law_pick : Option Addr} {sl__law_pick : Array (Option Value)} {oc__law_pick kV__law_pick dc__law_pick pm__law_pick cd__law_pick ct__law_pick : Value}
    {od__law_of an__law_of : Option Addr} {sl__law_of : Array (Option Value)} {oc__law_of kV__law_of dc__law_of pm__law_of cd__law_of ct__law_of : Value}
    {od__law_same an__law_same : Option Addr} {sl__law_same : Array (Option Value)} {oc__law_same kV__law_same dc__law_same pm__law_same cd__law_same ct__law_same : Value}
    {od__law_field an__law_field : Option Addr} {sl__law_field : Array (Option Value)} {oc__law_field kV__law_field dc__law_field pm__law_field cd__law_field ct__law_field : Value}
    {od__law_why an__law_why : Option Addr} {sl__law_why : Array (Option Value)} {oc__law_why kV__law_why dc__law_why pm__law_why cd__law_why ct__law_why : Value}
    {od__law_whys an__law_whys : Option Addr} {sl__law_whys : Array (Option Value)} {oc__law_whys kV__law_whys dc__law_whys pm__law_whys cd__law_whys ct__law_whys : Value}
    {od_law an_law : Option Addr} {sl_law : Array (Option Value)} {oc_law kV_law dc_law pm_law cd_law ct_law : Value}
    {ai_InvalidRatio cda_InvalidRatio cc_InvalidRatio : Addr} {oci_InvalidRatio kVi_InvalidRatio dci_InvalidRatio pmi_InvalidRatio cti_InvalidRatio clc_InvalidRatio cle_InvalidRatio : Value} {odi_InvalidRatio ani_InvalidRatio cdc_InvalidRatio cde_InvalidRatio : Option Addr} {sli_InvalidRatio csc_InvalidRatio cse_InvalidRatio : Array (Option Value)} {vs_InvalidRatio : Array Value} {file_InvalidRatio : Str} {tf_InvalidRatio : Tok} {cdD_InvalidRatio : ClassData}
    {ai_WayError cda_WayError cc_WayError : Addr} {oci_WayError kVi_WayError dci_WayError pmi_WayError cti_WayError clc_WayError cle_WayError : Value} {odi_WayError ani_WayError cdc_WayError cde_WayError : Option Addr} {sli_WayError csc_WayError cse_WayError : Array (Option Value)} {vs_WayError : Array Value} {file_WayError : Str} {tf_WayError : Tok} {cdD_WayError : ClassData}
    {cb_law P_law : Addr} {occ_law : Value} {odc_law : Option Addr} {vsc_law : Array Value} {slc_law : Array (Option Value)}
    (h_Ratio : PySem.W.nsIn K mainGlobals "Ratio" = some (some (.ref C_Ratio)))
    (pg_Ratio : PySem.W.plainGet K C_Ratio Str.empty = true)
    (hd_Ratio : PySem.W.hasDictIn K C_Ratio = true)
    (po_Ratio : PySem.W.plainOver K C_Ratio = true)
    (sa_Ratio : PySem.W.findIn K (.ref C_Ratio) "__setattr__" = some (some (.builtin "object.__setattr__")))
    (mk_Ratio : PySem.W.makesIn K C_Ratio = true)
    (kc_Ratio : PySem.W.keepIn K (.ref C_Ratio) = true)
    (in_Ratio : PySem.W.findIn K (.ref C_Ratio) "__init__" = some (some (.ref a_Ratio___init__)))
    (na_Ratio_own_bottom : PySem.W.findIn K (.ref C_Ratio) "own_bottom" = some none)
    (na_Ratio_own_top : PySem.W.findIn K (.ref C_Ratio) "own_top" = some none)
    (fd_Ratio___bool__ : PySem.W.findIn K (.ref C_Ratio) "__bool__" = some (some (.ref a_Ratio___bool__)))
    (fd_Ratio___eq__ : PySem.W.findIn K (.ref C_Ratio) "__eq__" = some (some (.ref a_Ratio___eq__)))
    (fd_Ratio___repr__ : PySem.W.findIn K (.ref C_Ratio) "__repr__" = some (some (.ref a_Ratio___repr__)))
    (fd_Ratio_text : PySem.W.findIn K (.ref C_Ratio) "text" = some (some (.ref a_Ratio_text)))
    (ca_Ratio : PySem.W.findIn K (.ref C_Ratio) "__class__" = some (some (.builtin "object.__class__")))
    (ob_Ratio : PySem.W.mroIn K C_Ratio (.type "object") = some true)
    (ne_Ratio : PySem.W.findIn K (.ref C_Ratio) "__ne__" = some (some (.builtin "object.__ne__")))
    (nf_Ratio_Ratio : PySem.W.notFirst K C_Ratio (.ref C_Ratio) = true)
    (fp_Ratio_bottom : PySem.W.findIn K (.ref C_Ratio) "bottom" = some (some (.ref p_Ratio_bottom)))
    (fp_Ratio_top : PySem.W.findIn K (.ref C_Ratio) "top" = some (some (.ref p_Ratio_top)))
    (kt_Ratio_Ratio : PySem.W.kitOne K (.ref C_Ratio) (.ref C_Ratio) = some true)
    (tyc_Ratio : ((PySem.W.clsIn K C_Ratio).isSome && PySem.W.typeIn K (.ref C_Ratio) == some (.type "type")) = true)
    (i_Ratio___bool__ : PySem.W.isFn K (.ref a_Ratio___bool__) = true)
    (l_Ratio___bool__ : K.lookup a_Ratio___bool__ = some ⟨oc_Ratio___bool__, od_Ratio___bool__, .func (PySem.W.fnOf "__bool__" "Ratio.__bool__" (defArgs s_Ratio___bool__) (defBody s_Ratio___bool__) (defScope s_Ratio___bool__) .none kV_Ratio___bool__ dc_Ratio___bool__ pm_Ratio___bool__ an_Ratio___bool__ cd_Ratio___bool__ ct_Ratio___bool__), sl_Ratio___bool__⟩)
    (c_Ratio___bool__ : PySem.W.codeIn K cd_Ratio___bool__ "Ratio.__bool__" = true)
    (k_Ratio___bool__ : PySem.W.keepIn K (.ref a_Ratio___bool__) = true)
    (i_Ratio___eq__ : PySem.W.isFn K (.ref a_Ratio___eq__) = true)
    (l_Ratio___eq__ : K.lookup a_Ratio___eq__ = some ⟨oc_Ratio___eq__, od_Ratio___eq__, .func (PySem.W.fnOf "__eq__" "Ratio.__eq__" (defArgs s_Ratio___eq__) (defBody s_Ratio___eq__) (defScope s_Ratio___eq__) .none kV_Ratio___eq__ dc_Ratio___eq__ pm_Ratio___eq__ an_Ratio___eq__ cd_Ratio___eq__ ct_Ratio___eq__), sl_Ratio___eq__⟩)
    (c_Ratio___eq__ : PySem.W.codeIn K cd_Ratio___eq__ "Ratio.__eq__" = true)
    (k_Ratio___eq__ : PySem.W.keepIn K (.ref a_Ratio___eq__) = true)
    (h_common_divisor : PySem.W.nsIn K mainGlobals "common_divisor" = some (some (.ref a_common_divisor)))
    (l_common_divisor : K.lookup a_common_divisor = some ⟨oc_common_divisor, od_common_divisor, .func (PySem.W.fnOf "common_divisor" "common_divisor" (defArgs s_common_divisor) (defBody s_common_divisor) (defScope s_common_divisor) .none kV_common_divisor dc_common_divisor pm_common_divisor an_common_divisor cd_common_divisor ct_common_divisor), sl_common_divisor⟩)
    (c_common_divisor : PySem.W.codeIn K cd_common_divisor "common_divisor" = true)
    (k_common_divisor : PySem.W.keepIn K (.ref a_common_divisor) = true)
    (h_is_whole : PySem.W.nsIn K mainGlobals "is_whole" = some (some (.ref a_is_whole)))
    (l_is_whole : K.lookup a_is_whole = some ⟨oc_is_whole, od_is_whole, .func (PySem.W.fnOf "is_whole" "is_whole" (defArgs s_is_whole) (defBody s_is_whole) (defScope s_is_whole) .none kV_is_whole dc_is_whole pm_is_whole an_is_whole cd_is_whole ct_is_whole), sl_is_whole⟩)
    (c_is_whole : PySem.W.codeIn K cd_is_whole "is_whole" = true)
    (k_is_whole : PySem.W.keepIn K (.ref a_is_whole) = true)
    (i_Ratio___init__ : PySem.W.isFn K (.ref a_Ratio___init__) = true)
    (l_Ratio___init__ : K.lookup a_Ratio___init__ = some ⟨oc_Ratio___init__, od_Ratio___init__, .func (PySem.W.fnOf "__init__" "Ratio.__init__" (defArgs s_Ratio___init__) (defBody s_Ratio___init__) (defScope s_Ratio___init__) (.ref T_Ratio___init__) kV_Ratio___init__ dc_Ratio___init__ pm_Ratio___init__ an_Ratio___init__ cd_Ratio___init__ ct_Ratio___init__), sl_Ratio___init__⟩)
    (dl_Ratio___init__ : K.lookup T_Ratio___init__ = some ⟨ocd_Ratio___init__, odd_Ratio___init__, .seq #[(.int 1 tk_Ratio___init___0)] nd_Ratio___init__, sld_Ratio___init__⟩)
    (c_Ratio___init__ : PySem.W.codeIn K cd_Ratio___init__ "Ratio.__init__" = true)
    (k_Ratio___init__ : PySem.W.keepIn K (.ref a_Ratio___init__) = true)
    (i_Ratio_text : PySem.W.isFn K (.ref a_Ratio_text) = true)
    (l_Ratio_text : K.lookup a_Ratio_text = some ⟨oc_Ratio_text, od_Ratio_text, .func (PySem.W.fnOf "text" "Ratio.text" (defArgs s_Ratio_text) (defBody s_Ratio_text) (defScope s_Ratio_text) .none kV_Ratio_text dc_Ratio_text pm_Ratio_text an_Ratio_text cd_Ratio_text ct_Ratio_text), sl_Ratio_text⟩)
    (c_Ratio_text : PySem.W.codeIn K cd_Ratio_text "Ratio.text" = true)
    (k_Ratio_text : PySem.W.keepIn K (.ref a_Ratio_text) = true)
    (i_Ratio___repr__ : PySem.W.isFn K (.ref a_Ratio___repr__) = true)
    (l_Ratio___repr__ : K.lookup a_Ratio___repr__ = some ⟨oc_Ratio___repr__, od_Ratio___repr__, .func (PySem.W.fnOf "__repr__" "Ratio.__repr__" (defArgs s_Ratio___repr__) (defBody s_Ratio___repr__) (defScope s_Ratio___repr__) .none kV_Ratio___repr__ dc_Ratio___repr__ pm_Ratio___repr__ an_Ratio___repr__ cd_Ratio___repr__ ct_Ratio___repr__), sl_Ratio___repr__⟩)
    (c_Ratio___repr__ : PySem.W.codeIn K cd_Ratio___repr__ "Ratio.__repr__" = true)
    (k_Ratio___repr__ : PySem.W.keepIn K (.ref a_Ratio___repr__) = true)
    (pg_Ratio_bottom : PySem.W.specialIn K (.ref p_Ratio_bottom) "__get__" = some (some (.builtin "property.__get__")))
    (pt_Ratio_bottom : PySem.W.takesIn K (.ref p_Ratio_bottom) = some true)
    (pp_Ratio_bottom : PySem.W.recIn K p_Ratio_bottom "property" = some (.ref a_Ratio_bottom :: pr_Ratio_bottom))
    (i_Ratio_bottom : PySem.W.isFn K (.ref a_Ratio_bottom) = true)
    (l_Ratio_bottom : K.lookup a_Ratio_bottom = some ⟨oc_Ratio_bottom, od_Ratio_bottom, .func (PySem.W.fnOf "bottom" "Ratio.bottom" (defArgs s_Ratio_bottom) (defBody s_Ratio_bottom) (defScope s_Ratio_bottom) .none kV_Ratio_bottom dc_Ratio_bottom pm_Ratio_bottom an_Ratio_bottom cd_Ratio_bottom ct_Ratio_bottom), sl_Ratio_bottom⟩)
    (c_Ratio_bottom : PySem.W.codeIn K cd_Ratio_bottom "Ratio.bottom" = true)
    (k_Ratio_bottom : PySem.W.keepIn K (.ref a_Ratio_bottom) = true)
    (pg_Ratio_top : PySem.W.specialIn K (.ref p_Ratio_top) "__get__" = some (some (.builtin "property.__get__")))
    (pt_Ratio_top : PySem.W.takesIn K (.ref p_Ratio_top) = some true)
    (pp_Ratio_top : PySem.W.recIn K p_Ratio_top "property" = some (.ref a_Ratio_top :: pr_Ratio_top))
    (i_Ratio_top : PySem.W.isFn K (.ref a_Ratio_top) = true)
    (l_Ratio_top : K.lookup a_Ratio_top = some ⟨oc_Ratio_top, od_Ratio_top, .func (PySem.W.fnOf "top" "Ratio.top" (defArgs s_Ratio_top) (defBody s_Ratio_top) (defScope s_Ratio_top) .none kV_Ratio_top dc_Ratio_top pm_Ratio_top an_Ratio_top cd_Ratio_top ct_Ratio_top), sl_Ratio_top⟩)
    (c_Ratio_top : PySem.W.codeIn K cd_Ratio_top "Ratio.top" = true)
    (k_Ratio_top : PySem.W.keepIn K (.ref a_Ratio_top) = true)
    (h__law_bag : PySem.W.nsIn K mainGlobals "_law_bag" = some (some (.ref a__law_bag)))
    (l__law_bag : K.lookup a__law_bag = some ⟨oc__law_bag, od__law_bag, .func (PySem.W.fnOf "_law_bag" "_law_bag" (defArgs s__law_bag) (defBody s__law_bag) (defScope s__law_bag) .none kV__law_bag dc__law_bag pm__law_bag an__law_bag cd__law_bag ct__law_bag), sl__law_bag⟩)
    (c__law_bag : PySem.W.codeIn K cd__law_bag "_law_bag" = true)
    (k__law_bag : PySem.W.keepIn K (.ref a__law_bag) = true)
    (h__law_gcd : PySem.W.nsIn K mainGlobals "_law_gcd" = some (some (.ref a__law_gcd)))
    (l__law_gcd : K.lookup a__law_gcd = some ⟨oc__law_gcd, od__law_gcd, .func (PySem.W.fnOf "_law_gcd" "_law_gcd" (defArgs s__law_gcd) (defBody s__law_gcd) (defScope s__law_gcd) .none kV__law_gcd dc__law_gcd pm__law_gcd an__law_gcd cd__law_gcd ct__law_gcd), sl__law_gcd⟩)
    (c__law_gcd : PySem.W.codeIn K cd__law_gcd "_law_gcd" = true)
    (k__law_gcd : PySem.W.keepIn K (.ref a__law_gcd) = true)
    (h__law_frac : PySem.W.nsIn K mainGlobals "_law_frac" = some (some (.ref a__law_frac)))
    (l__law_frac : K.lookup a__law_frac = some ⟨oc__law_frac, od__law_frac, .func (PySem.W.fnOf "_law_frac" "_law_frac" (defArgs s__law_frac) (defBody s__law_frac) (defScope s__law_frac) .none kV__law_frac dc__law_frac pm__law_frac an__law_frac cd__law_frac ct__law_frac), sl__law_frac⟩)
    (c__law_frac : PySem.W.codeIn K cd__law_frac "_law_frac" = true)
    (k__law_frac : PySem.W.keepIn K (.ref a__law_frac) = true)
    (h__law_frac_text : PySem.W.nsIn K mainGlobals "_law_frac_text" = some (some (.ref a__law_frac_text)))
    (l__law_frac_text : K.lookup a__law_frac_text = some ⟨oc__law_frac_text, od__law_frac_text, .func (PySem.W.fnOf "_law_frac_text" "_law_frac_text" (defArgs s__law_frac_text) (defBody s__law_frac_text) (defScope s__law_frac_text) .none kV__law_frac_text dc__law_frac_text pm__law_frac_text an__law_frac_text cd__law_frac_text ct__law_frac_text), sl__law_frac_text⟩)
    (c__law_frac_text : PySem.W.codeIn K cd__law_frac_text "_law_frac_text" = true)
    (k__law_frac_text : PySem.W.keepIn K (.ref a__law_frac_text) = true)
    (h__law_pick : PySem.W.nsIn K mainGlobals "_law_pick" = some (some (.ref a__law_pick)))
    (l__law_pick : K.lookup a__law_pick = some ⟨oc__law_pick, od__law_pick, .func (PySem.W.fnOf "_law_pick" "_law_pick" (defArgs s__law_pick) (defBody s__law_pick) (defScope s__law_pick) .none kV__law_pick dc__law_pick pm__law_pick an__law_pick cd__law_pick ct__law_pick), sl__law_pick⟩)
    (c__law_pick : PySem.W.codeIn K cd__law_pick "_law_pick" = true)
    (k__law_pick : PySem.W.keepIn K (.ref a__law_pick) = true)
    (h__law_of : PySem.W.nsIn K mainGlobals "_law_of" = some (some (.ref a__law_of)))
    (l__law_of : K.lookup a__law_of = some ⟨oc__law_of, od__law_of, .func (PySem.W.fnOf "_law_of" "_law_of" (defArgs s__law_of) (defBody s__law_of) (defScope s__law_of) .none kV__law_of dc__law_of pm__law_of an__law_of cd__law_of ct__law_of), sl__law_of⟩)
    (c__law_of : PySem.W.codeIn K cd__law_of "_law_of" = true)
    (k__law_of : PySem.W.keepIn K (.ref a__law_of) = true)
    (h__law_same : PySem.W.nsIn K mainGlobals "_law_same" = some (some (.ref a__law_same)))
    (l__law_same : K.lookup a__law_same = some ⟨oc__law_same, od__law_same, .func (PySem.W.fnOf "_law_same" "_law_same" (defArgs s__law_same) (defBody s__law_same) (defScope s__law_same) .none kV__law_same dc__law_same pm__law_same an__law_same cd__law_same ct__law_same), sl__law_same⟩)
    (c__law_same : PySem.W.codeIn K cd__law_same "_law_same" = true)
    (k__law_same : PySem.W.keepIn K (.ref a__law_same) = true)
    (h__law_field : PySem.W.nsIn K mainGlobals "_law_field" = some (some (.ref a__law_field)))
    (l__law_field : K.lookup a__law_field = some ⟨oc__law_field, od__law_field, .func (PySem.W.fnOf "_law_field" "_law_field" (defArgs s__law_field) (defBody s__law_field) (defScope s__law_field) .none kV__law_field dc__law_field pm__law_field an__law_field cd__law_field ct__law_field), sl__law_field⟩)
    (c__law_field : PySem.W.codeIn K cd__law_field "_law_field" = true)
    (k__law_field : PySem.W.keepIn K (.ref a__law_field) = true)
    (h__law_why : PySem.W.nsIn K mainGlobals "_law_why" = some (some (.ref a__law_why)))
    (l__law_why : K.lookup a__law_why = some ⟨oc__law_why, od__law_why, .func (PySem.W.fnOf "_law_why" "_law_why" (defArgs s__law_why) (defBody s__law_why) (defScope s__law_why) .none kV__law_why dc__law_why pm__law_why an__law_why cd__law_why ct__law_why), sl__law_why⟩)
    (c__law_why : PySem.W.codeIn K cd__law_why "_law_why" = true)
    (k__law_why : PySem.W.keepIn K (.ref a__law_why) = true)
    (h__law_whys : PySem.W.nsIn K mainGlobals "_law_whys" = some (some (.ref a__law_whys)))
    (l__law_whys : K.lookup a__law_whys = some ⟨oc__law_whys, od__law_whys, .func (PySem.W.fnOf "_law_whys" "_law_whys" (defArgs s__law_whys) (defBody s__law_whys) (defScope s__law_whys) .none kV__law_whys dc__law_whys pm__law_whys an__law_whys cd__law_whys ct__law_whys), sl__law_whys⟩)
    (c__law_whys : PySem.W.codeIn K cd__law_whys "_law_whys" = true)
    (k__law_whys : PySem.W.keepIn K (.ref a__law_whys) = true)
    (h_law : PySem.W.nsIn K mainGlobals "law" = some (some (.ref a_law)))
    (l_law : K.lookup a_law = some ⟨oc_law, od_law, .func (PySem.W.fnOf "law" "law" (defArgs s_law) (defBody s_law) (defScope s_law) .none kV_law dc_law pm_law an_law cd_law ct_law), sl_law⟩)
    (c_law : PySem.W.codeIn K cd_law "law" = true)
    (k_law : PySem.W.keepIn K (.ref a_law) = true)
    (h_WayError : PySem.W.nsIn K mainGlobals "WayError" = some (some (.ref C_WayError)))
    (h_Missing : PySem.W.nsIn K mainGlobals "Missing" = some (some (.ref C_Missing)))
    (h_InvalidRatio : PySem.W.nsIn K mainGlobals "InvalidRatio" = some (some (.ref C_InvalidRatio)))
    (h_NothingLeft : PySem.W.nsIn K mainGlobals "NothingLeft" = some (some (.ref C_NothingLeft)))
    (xf_InvalidRatio : xfB K C_InvalidRatio = true)
    (xn_InvalidRatio_tag : PySem.W.findIn K (.ref C_InvalidRatio) "tag" = some none)
    (xn_InvalidRatio_value : PySem.W.findIn K (.ref C_InvalidRatio) "value" = some none)
    (tr_InvalidRatio_WayError_Missing_NothingLeft : PySem.W.exmAny K (.ref C_InvalidRatio) [.ref C_WayError, .ref C_Missing, .ref C_NothingLeft] = some true)
    (xj_InvalidRatio : PySem.W.findIn K (.ref C_InvalidRatio) "__init__" = some (some (.ref ai_InvalidRatio)))
    (xl_InvalidRatio : K.lookup ai_InvalidRatio = some ⟨oci_InvalidRatio, odi_InvalidRatio, .func (PySem.W.ksFn "__init__" "InvalidRatio.__init__" (defArgs s_InvalidRatio___init__) (defBody s_InvalidRatio___init__) (defScope s_InvalidRatio___init__) .none kVi_InvalidRatio dci_InvalidRatio pmi_InvalidRatio ani_InvalidRatio (.ref cda_InvalidRatio) cti_InvalidRatio cc_InvalidRatio), sli_InvalidRatio⟩)
    (xc_InvalidRatio : PySem.W.codeIn K (.ref cda_InvalidRatio) "InvalidRatio.__init__" = true)
    (xv_InvalidRatio : K.lookup cda_InvalidRatio = some ⟨clc_InvalidRatio, cdc_InvalidRatio, .fields vs_InvalidRatio, csc_InvalidRatio⟩)
    (xw_InvalidRatio : vs_InvalidRatio[2]? = some (.str file_InvalidRatio tf_InvalidRatio))
    (xf2_InvalidRatio : ((l.prog.main.file : Str) == file_InvalidRatio) = true)
    (xe_InvalidRatio : K.lookup cc_InvalidRatio = some ⟨cle_InvalidRatio, cde_InvalidRatio, .cell (some (.ref C_InvalidRatio)), cse_InvalidRatio⟩)
    (xd_InvalidRatio : PySem.W.clsIn K C_InvalidRatio = some cdD_InvalidRatio)
    (xg_InvalidRatio : (K.lookup ai_InvalidRatio).map (·.cls) = some (.type "function"))
    (xh_InvalidRatio : PySem.W.fnIn K ai_InvalidRatio = true)
    (xj_WayError : PySem.W.findIn K (.ref C_WayError) "__init__" = some (some (.ref ai_WayError)))
    (xl_WayError : K.lookup ai_WayError = some ⟨oci_WayError, odi_WayError, .func (PySem.W.ksFn "__init__" "WayError.__init__" (defArgs s_WayError___init__) (defBody s_WayError___init__) (defScope s_WayError___init__) .none kVi_WayError dci_WayError pmi_WayError ani_WayError (.ref cda_WayError) cti_WayError cc_WayError), sli_WayError⟩)
    (xc_WayError : PySem.W.codeIn K (.ref cda_WayError) "WayError.__init__" = true)
    (xv_WayError : K.lookup cda_WayError = some ⟨clc_WayError, cdc_WayError, .fields vs_WayError, csc_WayError⟩)
    (xw_WayError : vs_WayError[2]? = some (.str file_WayError tf_WayError))
    (xf2_WayError : ((l.prog.main.file : Str) == file_WayError) = true)
    (xe_WayError : K.lookup cc_WayError = some ⟨cle_WayError, cde_WayError, .cell (some (.ref C_WayError)), cse_WayError⟩)
    (xd_WayError : PySem.W.clsIn K C_WayError = some cdD_WayError)
    (xg_WayError : (K.lookup ai_WayError).map (·.cls) = some (.type "function"))
    (xh_WayError : PySem.W.fnIn K ai_WayError = true)
    (kc_InvalidRatio : PySem.W.keepIn K (.ref C_InvalidRatio) = true)
    (xi_InvalidRatio : PySem.W.excInitIn K C_InvalidRatio [.type "ValueError", .type "Exception", .type "BaseException", .type "object"] "ValueError.__new__" = true)
    (xo_InvalidRatio : PySem.W.excOver K C_InvalidRatio [.type "ValueError", .type "Exception", .type "BaseException", .type "object"] = true)
    (xk_InvalidRatio : (PySem.W.clsIn K C_InvalidRatio).isSome = true)
    (xs_InvalidRatio : PySem.W.findIn K (.ref C_InvalidRatio) "__setattr__" = some (some (.builtin "object.__setattr__")))
    (xD_InvalidRatio : PySem.W.hasDictIn K C_InvalidRatio = true)
    (xI_InvalidRatio : PySem.W.findIn K (.ref C_InvalidRatio) "__init__" = some (some (.ref ai_InvalidRatio)))
    (xt_InvalidRatio : PySem.W.typeIn K (.ref ai_InvalidRatio) = some (.type "function"))
    (xB_InvalidRatio : PySem.W.subIn K (.ref C_InvalidRatio) (.type "BaseException") = some true)
    (xR_InvalidRatio : PySem.W.subIn K (.ref C_InvalidRatio) (.type "ValueError") = some true)
    (xT_InvalidRatio : PySem.W.typeIn K (.ref C_InvalidRatio) = some (.type "type"))
    (xm_InvalidRatio_InvalidRatio : PySem.W.mroIn K C_InvalidRatio (.ref C_InvalidRatio) = some true)
    (xu_InvalidRatio_InvalidRatio : PySem.W.ks_superIn K C_InvalidRatio C_InvalidRatio "__init__" = some (some (.ref ai_WayError)))
    (xm_InvalidRatio_WayError : PySem.W.mroIn K C_InvalidRatio (.ref C_WayError) = some true)
    (xu_InvalidRatio_WayError : PySem.W.ks_superIn K C_InvalidRatio C_WayError "__init__" = some (some (.builtin "ValueError.__init__")))
    (xa_InvalidRatio_tag : PySem.W.findIn K (.ref C_InvalidRatio) "tag" = some none)
    (xa_InvalidRatio_value : PySem.W.findIn K (.ref C_InvalidRatio) "value" = some none)
    (b_super : PySem.W.nsIn K mainGlobals "super" = some none)
    (tp_any : PySem.W.nsIn K cStatics "thirdparty.any" = some none)
    (top_super : (l.prog.main.scope.names.lookup ("super" : Str)).isSome = false)
    (b_abs : PySem.W.nsIn K mainGlobals "abs" = some none)
    (b_all : PySem.W.nsIn K mainGlobals "all" = some none)
    (b_any : PySem.W.nsIn K mainGlobals "any" = some none)
    (b_bool : PySem.W.nsIn K mainGlobals "bool" = some none)
    (b_int : PySem.W.nsIn K mainGlobals "int" = some none)
    (b_isinstance : PySem.W.nsIn K mainGlobals "isinstance" = some none)
    (b_len : PySem.W.nsIn K mainGlobals "len" = some none)
    (b_list : PySem.W.nsIn K mainGlobals "list" = some none)
    (b_range : PySem.W.nsIn K mainGlobals "range" = some none)
    (b_repr : PySem.W.nsIn K mainGlobals "repr" = some none)
    (b_str : PySem.W.nsIn K mainGlobals "str" = some none)
    (b_tuple : PySem.W.nsIn K mainGlobals "tuple" = some none)
    (b_zip : PySem.W.nsIn K mainGlobals "zip" = some none)
    (te_law : cd_law = .ref cb_law)
    (tv_law : K.lookup cb_law = some ⟨occ_law, odc_law, .fields vsc_law, slc_law⟩)
    (tw_law : vsc_law[11]? = some (.ref P_law))
    (th_law : PySem.W.codeHdIn K cb_law P_law = true)
    (tn_law : K.lookup P_law = none)
    (tm_law : P_law ∈ ts)
    (t_nd : [P_law].Nodup)
    : LamX.LawAtS l w K (L2.CX l.prog w) 14 63 "_law_script" mg fa h := by
  have e := hfa.symm.trans (PySem.W.mg_of X G h_law)
  have e2 : a_law = fa := by injection e with e; injection e with e; exact e.symm
  subst e2
  have T : Tx K mg a_common_divisor a_is_whole a__law_bag a__law_gcd a__law_frac a__law_frac_text a__law_pick a__law_of a__law_same a__law_field a__law_why a__law_whys a_law C_Ratio a_Ratio___bool__ a_Ratio___eq__ a_Ratio___init__ a_Ratio_text a_Ratio___repr__ a_Ratio_bottom a_Ratio_top p_Ratio_bottom p_Ratio_top C_WayError C_Missing C_InvalidRatio C_NothingLeft := { m_common_divisor := PySem.W.mg_of X G h_common_divisor, k_common_divisor := k_common_divisor, m_is_whole := PySem.W.mg_of X G h_is_whole, k_is_whole := k_is_whole, m__law_bag := PySem.W.mg_of X G h__law_bag, k__law_bag := k__law_bag, m__law_gcd := PySem.W.mg_of X G h__law_gcd, k__law_gcd := k__law_gcd, m__law_frac := PySem.W.mg_of X G h__law_frac, k__law_frac := k__law_frac, m__law_frac_text := PySem.W.mg_of X G h__law_frac_text, k__law_frac_text := k__law_frac_text, m__law_pick := PySem.W.mg_of X G h__law_pick, k__law_pick := k__law_pick, m__law_of := PySem.W.mg_of X G h__law_of, k__law_of := k__law_of, m__law_same := PySem.W.mg_of X G h__law_same, k__law_same := k__law_same, m__law_field := PySem.W.mg_of X G h__law_field, k__law_field := k__law_field, m__law_why := PySem.W.mg_of X G h__law_why, k__law_why := k__law_why, m__law_whys := PySem.W.mg_of X G h__law_whys, k__law_whys := k__law_whys, m_law := PySem.W.mg_of X G h_law, k_law := k_law, m_Ratio := PySem.W.mg_of X G h_Ratio, cl_Ratio := ⟨pg_Ratio, hd_Ratio, po_Ratio, sa_Ratio⟩, mk_Ratio := ⟨mk_Ratio, in_Ratio, i_Ratio___init__, kc_Ratio⟩, na_Ratio_own_bottom := na_Ratio_own_bottom, na_Ratio_own_top := na_Ratio_own_top, me_Ratio___bool__ := ⟨fd_Ratio___bool__, i_Ratio___bool__, k_Ratio___bool__⟩, me_Ratio___eq__ := ⟨fd_Ratio___eq__, i_Ratio___eq__, k_Ratio___eq__⟩, me_Ratio___repr__ := ⟨fd_Ratio___repr__, i_Ratio___repr__, k_Ratio___repr__⟩, me_Ratio_text := ⟨fd_Ratio_text, i_Ratio_text, k_Ratio_text⟩, it_Ratio := ⟨⟨pg_Ratio, hd_Ratio, po_Ratio, sa_Ratio⟩, ca_Ratio, ob_Ratio⟩, ne_Ratio := ne_Ratio, ob_Ratio := ob_Ratio, nf_Ratio_Ratio := nf_Ratio_Ratio, pr_Ratio_bottom := ⟨fp_Ratio_bottom, pg_Ratio_bottom, pt_Ratio_bottom, ⟨_, pp_Ratio_bottom⟩⟩, pr_Ratio_top := ⟨fp_Ratio_top, pg_Ratio_top, pt_Ratio_top, ⟨_, pp_Ratio_top⟩⟩, kt_Ratio_Ratio := kt_Ratio_Ratio, ty_Ratio := tyc_Ratio, m_WayError := PySem.W.mg_of X G h_WayError, m_Missing := PySem.W.mg_of X G h_Missing, m_InvalidRatio := PySem.W.mg_of X G h_InvalidRatio, m_NothingLeft := PySem.W.mg_of X G h_NothingLeft, xf_InvalidRatio := xfB_ok xf_InvalidRatio, xn_InvalidRatio_tag := xn_InvalidRatio_tag, xn_InvalidRatio_value := xn_InvalidRatio_value, tr_InvalidRatio_WayError_Missing_NothingLeft := tr_InvalidRatio_WayError_Missing_NothingLeft, b_abs := PySem.W.mg_none_of X G b_abs, b_all := PySem.W.mg_none_of X G b_all, b_any := PySem.W.mg_none_of X G b_any, b_bool := PySem.W.mg_none_of X G b_bool, b_int := PySem.W.mg_none_of X G b_int, b_isinstance := PySem.W.mg_none_of X G b_isinstance, b_len := PySem.W.mg_none_of X G b_len, b_list := PySem.W.mg_none_of X G b_list, b_range := PySem.W.mg_none_of X G b_range, b_repr := PySem.W.mg_none_of X G b_repr, b_str := PySem.W.mg_none_of X G b_str, b_tuple := PySem.W.mg_none_of X G b_tuple, b_zip := PySem.W.mg_none_of X G b_zip }
  have F_Ratio___bool__ := fund_mk (st := s_Ratio___bool__) l_Ratio___bool__ c_Ratio___bool__ k_Ratio___bool__ dfl_nil kwd_nil
  have F_Ratio___eq__ := fund_mk (st := s_Ratio___eq__) l_Ratio___eq__ c_Ratio___eq__ k_Ratio___eq__ dfl_nil kwd_nil
  have F_common_divisor := fund_mk (st := s_common_divisor) l_common_divisor c_common_divisor k_common_divisor dfl_nil kwd_nil
  have F_is_whole := fund_mk (st := s_is_whole) l_is_whole c_is_whole k_is_whole dfl_nil kwd_nil
  have F_Ratio___init__ := fund_mk (st := s_Ratio___init__) l_Ratio___init__ c_Ratio___init__ k_Ratio___init__ (dfl_one (v := (V.int 1)) dl_Ratio___init__ ⟨_, rfl⟩) kwd_nil
  have F_Ratio_text := fund_mk (st := s_Ratio_text) l_Ratio_text c_Ratio_text k_Ratio_text dfl_nil kwd_nil
  have F_Ratio___repr__ := fund_mk (st := s_Ratio___repr__) l_Ratio___repr__ c_Ratio___repr__ k_Ratio___repr__ dfl_nil kwd_nil
  have F_Ratio_bottom := fund_mk (st := s_Ratio_bottom) l_Ratio_bottom c_Ratio_bottom k_Ratio_bottom dfl_nil kwd_nil
  have F_Ratio_top := fund_mk (st := s_Ratio_top) l_Ratio_top c_Ratio_top k_Ratio_top dfl_nil kwd_nil
  have F__law_bag := fund_mk (st := s__law_bag) l__law_bag c__law_bag k__law_bag dfl_nil kwd_nil
  have F__law_gcd := fund_mk (st := s__law_gcd) l__law_gcd c__law_gcd k__law_gcd dfl_nil kwd_nil
  have F__law_frac := fund_mk (st := s__law_frac) l__law_frac c__law_frac k__law_frac dfl_nil kwd_nil
  have F__law_frac_text := fund_mk (st := s__law_frac_text) l__law_frac_text c__law_frac_text k__law_frac_text dfl_nil kwd_nil
  have F__law_pick := fund_mk (st := s__law_pick) l__law_pick c__law_pick k__law_pick dfl_nil kwd_nil
  have F__law_of := fund_mk (st := s__law_of) l__law_of c__law_of k__law_of dfl_nil kwd_nil
  have F__law_same := fund_mk (st := s__law_same) l__law_same c__law_same k__law_same dfl_nil kwd_nil
  have F__law_field := fun_mk (st := s__law_field) l__law_field c__law_field k__law_field
  have F__law_why := fund_mk (st := s__law_why) l__law_why c__law_why k__law_why dfl_nil kwd_nil
  have F__law_whys := fund_mk (st := s__law_whys) l__law_whys c__law_whys k__law_whys dfl_nil kwd_nil
  have F_law := fund_mk (st := s_law) l_law c_law k_law dfl_nil kwd_nil
  let Ps : Nat → Addr := (fun i => [P_law].getD i 0)
  subst te_law
  have hcs : ∀ p ∈ [(cb_law, P_law)], h.get? p.2 = some { cls := .none, data := .fields #[] } ∧ K.lookup p.2 = none ∧ PySem.W.CodeHd h p.1 p.2 := by
    intro p hp
    simp only [List.mem_cons, List.not_mem_nil, or_false] at hp
    subst hp
    · exact ⟨hT _ tm_law, tn_law, PySem.W.codeHd_of_K X th_law⟩
  refine ⟨PySem.W.fnOf "law" "law" (defArgs s_law) (defBody s_law) (defScope s_law) .none kV_law dc_law pm_law an_law (.ref cb_law) ct_law, [(cb_law, P_law)], (fun vs H Q E => ∀ κ, spOf K mg 1 (defS 16 (m_law Ps κ)) vs H Q E), fun p hp => (hcs p hp).1, fun p hp => (hcs p hp).2.1, fun p hp => (hcs p hp).2.2, fun s v => .of_eq rfl, fun H a ns hl hbits hP hS κ => ?_, fun base hKb _ hTB => ?_⟩
  · refine law_startT (cs := [(Ps 0, "law.<locals>.<lambda>")]) t_nd (fun c hc => ?_) hS (law_ok Ps ns hl hbits κ)
    simp only [List.mem_cons, List.not_mem_nil, or_false] at hc
    subst hc
    · exact hP (cb_law, P_law) (by simp)
  · have SMk : L2.Mod K mg base → ZX.SupM l.prog K mg base := fun M => ⟨M, PySem.W.mg_none_of X G b_super, top_super, tp_any⟩
    have FN_InvalidRatio : ZX.SupFn l.prog K ai_InvalidRatio C_InvalidRatio "InvalidRatio.__init__" (defArgs s_InvalidRatio___init__) (defBody s_InvalidRatio___init__) (defScope s_InvalidRatio___init__) := ⟨⟨_, _, _, _, _, _, _, _, _, _, _, xl_InvalidRatio, xc_InvalidRatio, ⟨_, _, _, _, _, _, xv_InvalidRatio, xw_InvalidRatio, xf2_InvalidRatio⟩, ⟨_, _, _, xe_InvalidRatio⟩⟩, ⟨_, xd_InvalidRatio⟩, xg_InvalidRatio⟩
    have FN_WayError : ZX.SupFn l.prog K ai_WayError C_WayError "WayError.__init__" (defArgs s_WayError___init__) (defBody s_WayError___init__) (defScope s_WayError___init__) := ⟨⟨_, _, _, _, _, _, _, _, _, _, _, xl_WayError, xc_WayError, ⟨_, _, _, _, _, _, xv_WayError, xw_WayError, xf2_WayError⟩, ⟨_, _, _, xe_WayError⟩⟩, ⟨_, xd_WayError⟩, xg_WayError⟩
    have TX_InvalidRatio : ZX.ExC K C_InvalidRatio [.type "ValueError", .type "Exception", .type "BaseException", .type "object"] "ValueError.__new__" := ⟨xi_InvalidRatio, xo_InvalidRatio, xk_InvalidRatio, xs_InvalidRatio⟩
    have X_InvalidRatio : XMk l.prog w K mg base "InvalidRatio" C_InvalidRatio 2 "InvalidRatio" ["value"] := by
      refine ⟨PySem.W.mg_of X G h_InvalidRatio, kc_InvalidRatio, fun M => ⟨"ValueError", "ValueError.__new__", "ValueError.__init__", _, ai_InvalidRatio, PySem.F.excBase_ValueError, xi_InvalidRatio, xI_InvalidRatio, xt_InvalidRatio, ?_⟩, xB_InvalidRatio, xT_InvalidRatio⟩
      have F2 : ZX.InitOk l.prog w base 1 ai_WayError C_InvalidRatio ZX.G1 := ZX.initBase PySem.W.kxs_ValueError PySem.F.excBase_ValueError PySem.F.store_ValueError (SMk M) FN_WayError ss_WayError TX_InvalidRatio xD_InvalidRatio po_WayError xm_InvalidRatio_WayError xu_InvalidRatio_WayError xR_InvalidRatio xa_InvalidRatio_tag rfl (fun env => ⟨rfl, rfl, ⟨_, rfl⟩⟩) (fun env => rfl) (r0 := (fun v => v "tag")) (r1 := (fun v => v "tag")) (fun env vof h => ZX.Rd1.par (by show env.scope.names.lookup _ = _; rw [h]; rfl) rfl) (fun env vof h => ZX.Rd1.par (by show env.scope.names.lookup _ = _; rw [h]; rfl) rfl) (fun v1 v2 h => h "tag" (by simp))
      have F1 := ZX.initOwn (l := (["value"] : List Str).map fun p => (p, p)) F2 PySem.F.store_ValueError (SMk M) FN_InvalidRatio ss_InvalidRatio TX_InvalidRatio xD_InvalidRatio po_InvalidRatio xm_InvalidRatio_InvalidRatio xu_InvalidRatio_InvalidRatio xg_WayError xh_WayError rfl (fun env => ⟨rfl, rfl, ⟨_, rfl⟩⟩) (r0 := fun _ => V.str "InvalidRatio") (fun env vof h => ZX.Rd1.txt) (fun v1 v2 h => rfl) (fun env h => .cons rfl (by show env.scope.names.lookup _ = _; rw [h]; rfl) rfl (.nil)) (fun fp hm => by
        simp only [List.map_cons, List.map_nil, List.mem_cons, List.not_mem_nil, or_false] at hm
        subst hm; exact ⟨xa_InvalidRatio_value, by simp⟩) (by simp) (fun vs fs h => by unfold ZX.G1 at h; split at h <;> cases h; simp)
      exact F1.cast (fun vs => ZX.own_eq (by decide) vs)
    have O_Ratio___bool__ := o_Ratio___bool__ (P := l.prog) (w := w) (base := base) T F_Ratio___bool__ 
    have Z_Ratio___bool__ := d_Ratio___bool__ F_Ratio___bool__ O_Ratio___bool__
    have O_Ratio___eq__ := o_Ratio___eq__ (P := l.prog) (w := w) (base := base) T F_Ratio___eq__ 
    have Z_Ratio___eq__ := d_Ratio___eq__ F_Ratio___eq__ O_Ratio___eq__
    have O_common_divisor := o_common_divisor (P := l.prog) (w := w) (base := base) T F_common_divisor 
    have Z_common_divisor := d_common_divisor F_common_divisor O_common_divisor
    have O_is_whole := o_is_whole (P := l.prog) (w := w) (base := base) T F_is_whole 
    have Z_is_whole := d_is_whole F_is_whole O_is_whole
    have O_Ratio___init__ := o_Ratio___init__ (P := l.prog) (w := w) (base := base) T F_Ratio___init__ Z_common_divisor Z_is_whole X_InvalidRatio
    have Z_Ratio___init__ := d_Ratio___init__ F_Ratio___init__ O_Ratio___init__
    have ZK_Ratio___init___0 := dk_Ratio___init___0 F_Ratio___init__ O_Ratio___init__
    have ZK_Ratio___init___1 := dk_Ratio___init___1 F_Ratio___init__ O_Ratio___init__
    have O_Ratio_text := o_Ratio_text (P := l.prog) (w := w) (base := base) T F_Ratio_text 
    have Z_Ratio_text := d_Ratio_text F_Ratio_text O_Ratio_text
    have O_Ratio___repr__ := o_Ratio___repr__ (P := l.prog) (w := w) (base := base) T F_Ratio___repr__ Z_Ratio_text
    have Z_Ratio___repr__ := d_Ratio___repr__ F_Ratio___repr__ O_Ratio___repr__
    have O_Ratio_bottom := o_Ratio_bottom (P := l.prog) (w := w) (base := base) T F_Ratio_bottom 
    have Z_Ratio_bottom := d_Ratio_bottom F_Ratio_bottom O_Ratio_bottom
    have O_Ratio_top := o_Ratio_top (P := l.prog) (w := w) (base := base) T F_Ratio_top 
    have Z_Ratio_top := d_Ratio_top F_Ratio_top O_Ratio_top
    have O__law_bag := o__law_bag (P := l.prog) (w := w) (base := base) T F__law_bag 
    have Z__law_bag := d__law_bag F__law_bag O__law_bag
    have O__law_gcd := o__law_gcd (P := l.prog) (w := w) (base := base) T F__law_gcd 
    have Z__law_gcd := d__law_gcd F__law_gcd O__law_gcd
    have O__law_frac := o__law_frac (P := l.prog) (w := w) (base := base) T F__law_frac Z__law_gcd
    have Z__law_frac := d__law_frac F__law_frac O__law_frac
    have O__law_frac_text := o__law_frac_text (P := l.prog) (w := w) (base := base) T F__law_frac_text 
    have Z__law_frac_text := d__law_frac_text F__law_frac_text O__law_frac_text
    have O__law_pick := o__law_pick (P := l.prog) (w := w) (base := base) T F__law_pick 
    have Z__law_pick := d__law_pick F__law_pick O__law_pick
    have O__law_of := o__law_of (P := l.prog) (w := w) (base := base) T F__law_of Z__law_pick
    have Z__law_of := d__law_of F__law_of O__law_of
    have Z__law_same := d__law_same (P := l.prog) (w := w) (base := base) T F__law_same  12
    have Z__law_field := d__law_field (P := l.prog) (w := w) (base := base) T F__law_field 
    have HL : LOk l.prog w K mg base 6 (lamTab Ps) := lok_cons (lo_law_0 T Z_Ratio___bool__ Z_Ratio___eq__ Z_Ratio___init__ Z_Ratio___repr__) (by omega) (lok_cons (lo_law_1 T Z_Ratio___bool__ Z_Ratio___eq__ Z_Ratio___init__ Z_Ratio___repr__) (by omega) (lok_cons (lo_law_2 T Z_Ratio___bool__ Z_Ratio___eq__ Z_Ratio___init__ Z_Ratio___repr__ ZK_Ratio___init___1) (by omega) (lok_nil)))
    have O__law_why := o__law_why (P := l.prog) (w := w) (base := base) Ps T F__law_why Z_Ratio___bool__ Z_Ratio___eq__ Z_Ratio___init__ Z_Ratio___repr__ Z__law_field HL
    have Z__law_why := d__law_why Ps F__law_why O__law_why
    have O__law_whys := o__law_whys (P := l.prog) (w := w) (base := base) Ps T F__law_whys Z__law_why
    have Z__law_whys := d__law_whys Ps F__law_whys O__law_whys
    exact o_law (P := l.prog) (w := w) (base := base) Ps T F_law (hTB (cb_law, P_law) (by simp)) rfl Z_Ratio___bool__ Z_Ratio___eq__ Z_Ratio___init__ Z_Ratio___repr__ Z_Ratio_bottom Z_Ratio_text Z_Ratio_top Z__law_bag Z__law_frac Z__law_frac_text Z__law_of Z__law_pick Z__law_same Z__law_whys ZK_Ratio___init___0
end K02
namespace K02
open PySem L2 Z

variable {Ps : Nat → Addr} {κ : List (Str × Addr)} {S : Store}
theorem why_f : f__law_why Ps = whyF (lamTab Ps) := rfl
theorem whys_f : f__law_whys Ps = whysF (lamTab Ps) := rfl
theorem L_law_0 : lamTab Ps T_law_0 = some l_law_0 := consL_same
theorem L_law_1 : lamTab Ps T_law_1 = some l_law_1 := (consL_ne (by decide)).trans consL_same
theorem L_law_2 : lamTab Ps T_law_2 = some l_law_2 := (consL_ne (by decide)).trans ((consL_ne (by decide)).trans consL_same)
/-- no whole number that is not 0 -/
def Late (v : D) : Prop := v = .int 0 ∨ (notW v = true ∧ Z.under 0 v = true ∧ noLc v = true ∧ ∀ k, Z.plain (k + 2) v)
def Odd (v : D) : Prop := notW v = true ∧ Z.under 0 v = true ∧ noLc v = true ∧ ∀ k, Z.plain (k + 2) v
theorem Late.u {v : D} (h : Late v) {k : Nat} : Z.under k v = true := by
  rcases h with rfl | h
  · simp
  · exact under_of h.2.1
theorem Late.l {v : D} (h : Late v) : noLc v = true := by
  rcases h with rfl | h
  · simp [noLc]
  · exact h.2.2.1
theorem Late.p {v : D} (h : Late v) {k : Nat} : Z.plain (k + 2) v := by
  rcases h with rfl | h
  · simp
  · exact h.2.2.2 k
section
variable {p : Int} {v u : D} {P X : D → Store → Prop}
theorem init_late (h : Late v) (hX : X (exR v) S) : We (defS 4 m_Ratio___init__ [.ptr S.length, .int p, v] (S ++ [.ins "Ratio" [] []])) P (FinP S X) := by
  refine we_defS.mpr ?_
  have fin : FinP (S ++ [.ins "Ratio" [] []]) (FinP S X) (exR v) (S ++ [.ins "Ratio" [] []]) := by
    refine finP_keep0 (Keep.refl _) ?_ ?_
    · simpa using h.u
    · exact finP_app (Keep.refl S) (by simpa using h.u) hX
  rcases h with rfl | h
  · simp [m_Ratio___init__, whole_int]
    exact fin
  · simp [m_Ratio___init__, whole_not h.1, whole_int]
    exact fin
theorem make_late (h : Late v) (hX : X (exR v) S) : We (makeS "Ratio" f_Ratio___init__ [.int p, v] S) P (FinP S X) := by
  unfold makeS
  rw [we_bind]
  unfold f_Ratio___init__
  rw [w_defsS (by simp)]
  exact init_late h hX
theorem make_lateK (h : Late v) (hX : X (exR v) S) : We (makeS "Ratio" fk_Ratio___init___1 [v, .int p] S) P (FinP S X) := by
  unfold makeS
  rw [we_bind]
  unfold fk_Ratio___init___1
  rw [kwS_eq (by simp [pickL])]
  exact init_late h hX
theorem make_top {n : Nat} (hp : Bd n p) (hl : n < 7990) (h : P (ratD p 1) S) : We (makeS "Ratio" fk_Ratio___init___0 [.int p] S) (FinP S P) X := by
  unfold makeS
  rw [we_bind]
  unfold fk_Ratio___init___0
  rw [kwS_eq (by simp [pickL])]
  refine init_ok hp (m := 1) (q := 1) (by unfold Bd; decide) (by omega) (by decide) (by decide) S ?_
  simp
  rw [num1, den1]
  exact finP_ins (Keep.refl S) (by simp) h
theorem lam_0 (h : Odd v) (hu : Late u) : l_law_0 [v, u] S = .ex (exR v) S := by
  refine ex_of_we ?_
  unfold l_law_0
  rw [we_lamF]
  simp
  exact make_exA h.1 (under_of h.2.1) (finP_same (by simpa using under_of h.2.1) ⟨rfl, rfl⟩)
theorem lam_1 (hu : Late u) : l_law_1 [.int p, u] S = .ex (exR u) S := by
  refine ex_of_we ?_
  unfold l_law_1
  rw [we_lamF]
  simp
  exact make_late hu (finP_same (by simpa using hu.u) ⟨rfl, rfl⟩)
theorem lam_2 (hu : Late u) : l_law_2 [u, .int p] S = .ex (exR u) S := by
  refine ex_of_we ?_
  unfold l_law_2
  rw [we_lamF]
  simp
  exact make_lateK hu (finP_same (by simpa using hu.u) ⟨rfl, rfl⟩)
end
abbrev cnL : List Str := ["_law_odd", "_law_late", "_law_up", "_law_share"]
abbrev NL : List Str := ["_law_script", "_law_bag_here", "_law_turn", "_law_wide", "_law_share", "_law_up", "_law_down", "_law_due", "_law_found", "_law_told", "_law_whole", "_law_same_here", "_law_odd", "_law_late", "_law_asks", "_law_other"]
section
variable {x0 x1 x2 x3 x6 x7 x8 x9 x10 x11 x14 x15 : Option D} {share up odd late : D}
theorem conv_l0 : conv cnL NL κ [x0, x1, x2, x3, some share, some up, x6, x7, x8, x9, x10, x11, some odd, some late, x14, x15] (.lam T_law_0 (cloFrom κ T_law_0.scope.names [])) = some (.lamc T_law_0 [odd, late]) :=
  conv_lam (by decide +kernel) (by decide +kernel) (by rfl)
theorem conv_l1 : conv cnL NL κ [x0, x1, x2, x3, some share, some up, x6, x7, x8, x9, x10, x11, some odd, some late, x14, x15] (.lam T_law_1 (cloFrom κ T_law_1.scope.names [])) = some (.lamc T_law_1 [up, late]) :=
  conv_lam (by decide +kernel) (by decide +kernel) (by rfl)
theorem conv_l2 : conv cnL NL κ [x0, x1, x2, x3, some share, some up, x6, x7, x8, x9, x10, x11, some odd, some late, x14, x15] (.lam T_law_2 (cloFrom κ T_law_2.scope.names [])) = some (.lamc T_law_2 [late, share]) :=
  conv_lam (by decide +kernel) (by decide +kernel) (by rfl)
end
theorem whys3 {v u : D} {p s : Int} (h : Odd v) (hu : Late u) (hS : noLcS S = true) : f__law_whys Ps [.lst [.lamc T_law_0 [v, u], .lamc T_law_1 [.int p, u], .lamc T_law_2 [u, .int s]]] S = .ok (.lst [itup v, itup u, itup u]) S := by
  rw [whys_f]
  refine whys_eq hS rfl (by simp) (fun i x y h1 h2 S hS _ => ?_) (fun y hy => ?_) (fun x hx => ?_)
  · have : i = 0 ∨ i = 1 ∨ i = 2 := by
      have := (List.getElem?_eq_some_iff.mp h1).1
      simp at this
      omega
    rcases this with rfl | rfl | rfl
    · cases h1; cases h2
      exact why_ex L_law_0 hS (by simp [noLcL, h.2.2.1, hu.l]) (lam_0 h hu) (under_of h.2.1)
    · cases h1; cases h2
      exact why_ex L_law_1 hS (by simp [noLcL, noLc, hu.l]) (lam_1 hu) hu.u
    · cases h1; cases h2
      exact why_ex L_law_2 hS (by simp [noLcL, noLc, hu.l]) (lam_2 hu) hu.u
  · simp at hy
    rcases hy with rfl | rfl
    · simp [itup, h.2.1, noLc, noLcL, h.2.2.1]
    · simp [itup, hu.u, noLc, noLcL, hu.l]
  · simp at hx
    rcases hx with rfl | rfl | rfl <;> simp [Z.under, h.2.1, hu.u]
/-! ### == -/
theorem req_other {p q : Int} {d : D} (h : fldsOf S d = none) (hk : (kdOf S d).isSome = true) : f_Ratio___eq__ [ratD p q, d] S = .ok (.bl false) S := by
  refine eq_of_we ?_
  unfold f_Ratio___eq__
  refine we_def rfl ?_
  have e : isiO [("Ratio", ["Ratio"], [])] [d, .cls "Ratio"] S = .ok (.bl false) S := by
    rw [isiO_kd h hk]; simp
  simp [m_Ratio___eq__, e]
theorem ne_next {p q : Int} (hq : 0 < q) : ¬ (p = num (p + 1) q ∧ q = den (p + 1) q) := by
  rintro ⟨h1, h2⟩
  have := cross (p := p + 1) hq
  rw [← h1, ← h2, Int.add_mul] at this
  omega
end K02
namespace K02
open PySem L2 Z

variable {Ps : Nat → Addr} {κ : List (Str × Addr)} {S : Store}
abbrev T0 (Ps : Nat → Addr) : Store := tabsOf [(Ps 0, "law.<locals>.<lambda>")]
abbrev S0 (Ps : Nat → Addr) (ns : List Int) : Store := T0 Ps ++ [bagD (ns.take 63) 0 0 5625]
theorem noLc_S0 (ns : List Int) : noLcS (S0 Ps ns) = true := by
  unfold S0
  refine noLcS_app ?_ noLc_bag
  simp [T0, tabsOf, noLcS, noLcM]
theorem bag_S0 (ns : List Int) : IsBag (S0 Ps ns) 1 (ns.take 63) := bag_isT ns _
theorem Bd.of_lt {k w : Int} (hw : w ≤ 100000000000000) (h1 : -w ≤ k) (h2 : k ≤ w) : Bd 50 k := by unfold Bd; omega
theorem logw {w : Int} (hw : 0 < w) (hw2 : w ≤ 2000000000000000) : w.natAbs.log2 < 9000 := by
  have := log_small (i := w) (by omega)
  omega
def asksD (κ : List (Str × Addr)) : D := .lst [.lam T_law_0 (cloFrom κ T_law_0.scope.names []), .lam T_law_1 (cloFrom κ T_law_1.scope.names []), .lam T_law_2 (cloFrom κ T_law_2.scope.names [])]
def toldD (u d : Int) : D := .lst [.int (num u d), .int (den u d), .str (tx (ratT (num u d) (den u d))), .str (tx (lR ++ ratT (num u d) (den u d) ++ [41])), .bl (num u d != 0)]
@[simp] theorem boolX_rat {p q : Int} {g : SemL} : orSL semBool g [ratD p q] S = g [ratD p q] S := orSL_r rfl
@[simp] theorem ckBl_bl {b : Bool} : ckBl (.bl b) = true := rfl
theorem okS_app {a b : List Nat} : okS (a ++ b) ↔ okS a ∧ okS b := by
  constructor
  · intro h; exact ⟨fun c hc => h c (by simp [hc]), fun c hc => h c (by simp [hc])⟩
  · rintro ⟨h1, h2⟩ c hc
    rcases List.mem_append.mp hc with hc | hc
    · exact h1 c hc
    · exact h2 c hc
def sameD : D := .lst [.bl true, .bl false, .bl false, .bl false]
theorem okS_41 : okS [41] := by unfold okS; decide
theorem odd_mem {v : D} (h : v ∈ [D.non, .str "1", .bl true, .tup [.int 1], .lst [.int 2]]) : Odd v := by
  simp at h
  rcases h with rfl | rfl | rfl | rfl | rfl <;> exact ⟨rfl, by simp, by simp [noLc, noLcL], fun k => by simp [Z.plain, plainL, okS_lit]⟩
theorem late_mem {v : D} (h : v ∈ [D.int 0, .non, .str "2", .bl false, .tup [.int 0]]) : Late v := by
  simp at h
  rcases h with rfl | rfl | rfl | rfl | rfl
  · exact .inl rfl
  all_goals exact .inr ⟨rfl, by simp, by simp [noLc, noLcL], fun k => by simp [Z.plain, plainL, okS_lit]⟩
theorem okS_R : okS lR := by unfold okS; decide
theorem law_we (Ps : Nat → Addr) (κ : List (Str × Addr)) (ns : List Int) : We (defS 16 (m_law Ps κ) [.scr ns] (T0 Ps)) (fun d S => d = .bl true) (fun _ _ => False) := by
  rw [we_defS]
  unfold m_law
  rw [w_sSeq]
  simp [-w_sSeq]
  refine bag_startT ns _ ?_
  refine wo_cut (fun sl S => ∃ T, S = T0 Ps ++ T) ?_ ?_
  · refine wo_for (itRange1_of (j := 8) rfl (by omega) (by omega)) (fun pre sl S1 => Drawn 1 (ns.take 63) (S0 Ps ns) S1 ∧ ∃ x2 x3 x4 x5 x6 x7 x8 x9 x10 x11 x12 x13 x14 x15, sl = [some (.scr ns), some (.ptr 1), x2, x3, x4, x5, x6, x7, x8, x9, x10, x11, x12, x13, x14, x15]) ⟨Drawn.refl (bag_S0 ns), _, _, _, _, _, _, _, _, _, _, _, _, _, _, rfl⟩ ?_ ?_
    · rintro pre x post sl S1 he ⟨hD, x2, x3, x4, x5, x6, x7, x8, x9, x10, x11, x12, x13, x14, x15, rfl⟩
      refine ⟨trivial, ?_⟩
      rw [w_gSet]
      simp only [List.set_cons_succ, List.set_cons_zero]
      refine wo_cut (fun sl S2 => Drawn 1 (ns.take 63) (S0 Ps ns) S2 ∧ ∃ w : Int, 0 < w ∧ w ≤ 100000000000000 ∧ sl = [some (.scr ns), some (.ptr 1), some x, some (.int w), x4, x5, x6, x7, x8, x9, x10, x11, x12, x13, x14, x15]) ?_ ?_
      · have e : ∀ S, powI (.int 10) (.int 14) S = .ok (.int 100000000000000) S := fun S => rfl
        simp [e]
        refine (of_df (by simp) (by simp) (by simp)).we hD.1 fun d S' hd hD' => ?_
        simp at hd
        rcases hd with rfl | rfl | rfl
        · exact ⟨hD.trans hD', 5, by decide, by decide, by simp⟩
        · exact ⟨hD.trans hD', 100, by decide, by decide, by simp⟩
        · exact ⟨hD.trans hD', 100000000000000, by decide, by decide, by simp⟩
      rintro sl S2 ⟨hD2, w, hw, hw2, rfl⟩
      refine wo_cut (fun sl S3 => Drawn 1 (ns.take 63) (S0 Ps ns) S3 ∧ ∃ s u d : Int, Bd 50 s ∧ Bd 50 u ∧ Bd 50 d ∧ 0 < s ∧ 0 < d ∧ sl = [some (.scr ns), some (.ptr 1), some x, some (.int w), some (.int s), some (.int u), some (.int d), x7, x8, x9, x10, x11, x12, x13, x14, x15]) ?_ ?_
      · simp
        refine (pick_dfB (by omega) (logw (by omega) (by omega))).we hD2.1 fun d1 S3 ⟨j1, h1, e1⟩ hD3 => ?_
        subst e1
        have em : ∀ S, mulX (.int 2) (.int w) S = .ok (.int (2 * w)) S := fun S => mulX_small S (by decide) (by omega)
        simp [em]
        refine (pick_dfB (by omega) (logw (by omega) (by omega))).we hD3.1 fun d2 S4 ⟨j2, h2, e2⟩ hD4 => ?_
        subst e2
        simp
        refine (pick_dfB (by omega) (logw (by omega) (by omega))).we hD4.1 fun d3 S5 ⟨j3, h3, e3⟩ hD5 => ?_
        subst e3
        simp
        exact ⟨((hD2.trans hD3).trans hD4).trans hD5, _, Bd.of_lt hw2 (by omega) (by omega), _, Bd.of_lt hw2 (by omega) (by omega), _, Bd.of_lt hw2 (by omega) (by omega), by omega, by omega, rfl, rfl, rfl⟩
      rintro sl S3 ⟨hD3, s, u, d0, hs, hu, hd0, s0, d00, rfl⟩
      refine wo_cut (fun sl S4 => Drawn 1 (ns.take 63) (S0 Ps ns) S4 ∧ ∃ d : Int, Bd 50 d ∧ d ≠ 0 ∧ sl = [some (.scr ns), some (.ptr 1), some x, some (.int w), some (.int s), some (.int u), some (.int d), x7, x8, x9, x10, x11, x12, x13, x14, x15]) ?_ ?_
      · simp
        refine (of_df (by simp) (by simp) (by simp)).we hD3.1 fun d S' hd hD' => ?_
        simp at hd
        rcases hd with rfl | rfl
        · exact ⟨hD3.trans hD', d0, hd0, by omega, rfl⟩
        · exact ⟨hD3.trans hD', -d0, hd0.neg, by omega, rfl⟩
      rintro sl S4 ⟨hD4, d, hd, d1, rfl⟩
      have hS4 := noLcS_drawn (noLc_S0 ns) hD4
      have m1 := fun S => mulB_of S hu hs (by decide) (by decide) (by decide)
      have m2 := fun S => mulB_of S hd hs (by decide) (by decide) (by decide)
      have ds0 : d * s ≠ 0 := by rw [ne_eq, Int.mul_eq_zero]; omega
      have hN : num (u * s) (d * s) = num u d := num_scale s0 d1
      have hE : den (u * s) (d * s) = den u d := den_scale s0
      have hL : LT 100 (num u d) (den u d) := (LT.of hu hd d1).mono (by decide)
      have hF : ∀ S, f__law_frac [.int (u * s), .int (d * s)] S = .ok (pairD (num u d) (den u d)) S := fun S => by
        rw [frac_eq (hu.mul hs) (hd.mul hs) (by decide) (by decide) ds0, fracD_eq, hN, hE]
      have hB : Bd 100 (u * s) := hu.mul hs
      have hB2 : Bd 100 (d * s) := hd.mul hs
      refine wo_cut (fun sl S5 => S5 = S4 ∧ sl = [some (.scr ns), some (.ptr 1), some x, some (.int w), some (.int s), some (.int u), some (.int d), some (pairD (num u d) (den u d)), x8, x9, x10, x11, x12, x13, x14, x15]) ?_ ?_
      · simp [m1, m2, hF]
      rintro sl S5 ⟨rfl, rfl⟩
      refine wo_cut (fun sl S5' => S5' = S5 ∧ sl = [some (.scr ns), some (.ptr 1), some x, some (.int w), some (.int s), some (.int u), some (.int d), some (pairD (num u d) (den u d)), some (ratD (num u d) (den u d)), x9, x10, x11, x12, x13, x14, x15]) ?_ ?_
      · simp [m1, m2]
        refine make_ok hB hB2 (by decide) (by decide) ds0 ?_
        simp [hN, hE]
      rintro sl S5' ⟨rfl, rfl⟩
      have ht := fun S => text_eq (S := S) hL (by decide)
      have hlt := fun S => ltext_eq (S := S) hL (by decide)
      have hr := fun S => repr_eq (S := S) hL (by decide)
      refine wo_cut (fun sl S6 => S6 = S5' ∧ sl = [some (.scr ns), some (.ptr 1), some x, some (.int w), some (.int s), some (.int u), some (.int d), some (pairD (num u d) (den u d)), some (ratD (num u d) (den u d)), some (toldD u d), x10, x11, x12, x13, x14, x15]) ?_ ?_
      · simp [ht, hr]
        rfl
      rintro sl S6 ⟨rfl, rfl⟩
      have hz : (num u d = 0) = (u = 0) := propext (num_zero d1)
      have e : ∀ S, f__law_same [toldD u d, toldD u d] S = .ok (.bl true) S := fun S => same_eq (by simp [toldD, Z.plain, plainL, ratT_ok, okS_app, okS_R, okS_41])
      refine wo_cut (fun sl S7 => S7 = S6 ∧ sl = [some (.scr ns), some (.ptr 1), some x, some (.int w), some (.int s), some (.int u), some (.int d), some (pairD (num u d) (den u d)), some (ratD (num u d) (den u d)), some (toldD u d), x10, x11, x12, x13, x14, x15]) ?_ ?_
      · have i1 := ratT_len hL.up hL.dn
        have i2 : lR.length = 6 := rfl
        have e' : ∀ S, f__law_same [toldD u d, .lst [.int (num u d), .int (den u d), .str (tx (ratT (num u d) (den u d))), .str (tx (lR ++ (ratT (num u d) (den u d) ++ [41]))), .bl (!decide (u = 0))]] S = .ok (.bl true) S := fun S => by
          have := e S
          rw [← this]
          congr 3
          by_cases h0 : num u d = 0
          · simp [toldD, ← hz, h0]
          · simp [toldD, ← hz, h0]
        simp [hlt, i2]
        refine ⟨by omega, by omega, ?_⟩
        simp [e']
      rintro sl S7 ⟨rfl, rfl⟩
      refine wo_cut (fun sl S8 => S8 = S7 ∧ sl = [some (.scr ns), some (.ptr 1), some x, some (.int w), some (.int s), some (.int u), some (.int d), some (pairD (num u d) (den u d)), some (ratD (num u d) (den u d)), some (toldD u d), some (ratD u 1), x11, x12, x13, x14, x15]) ?_ ?_
      · simp
        refine make_top hu (by decide) ?_
        simp
      rintro sl S8 ⟨rfl, rfl⟩
      have hne := ne_next (p := num u d) hL.pos
      have h41 : Bd 102 (num u d + 1) := (hL.up.add (m := 1) (show Bd 1 1 by unfold Bd; decide)).mono (by decide)
      refine wo_cut (fun sl S9 => S9 = S8 ∧ sl = [some (.scr ns), some (.ptr 1), some x, some (.int w), some (.int s), some (.int u), some (.int d), some (pairD (num u d) (den u d)), some (ratD (num u d) (den u d)), some (toldD u d), some (ratD u 1), some sameD, x12, x13, x14, x15]) ?_ ?_
      · simp
        refine make_ok hu hd (by decide) (by decide) d1 ?_
        simp
        refine make_ok hu hd (by decide) (by decide) d1 ?_
        simp
        refine make_ok h41 hL.dn (by decide) (by decide) (by have := hL.pos; omega) ?_
        simp [hne, req_other, fldsOf, kdOf, okRtE_int]
        have hre : ∀ S, f_Ratio___eq__ [ratD u 1, .int u] S = .ok (.bl false) S := fun S => req_other rfl rfl
        simp [hre]
        rfl
      rintro sl S9 ⟨rfl, rfl⟩
      refine wo_cut (fun sl S10 => S10 = S9 ∧ sl = [some (.scr ns), some (.ptr 1), some x, some (.int w), some (.int s), some (.int u), some (.int d), some (pairD (num u d) (den u d)), some (ratD (num u d) (den u d)), some (toldD u d), some (ratD u 1), some sameD, x12, x13, x14, x15]) ?_ ?_
      · have e1 : ∀ S, f__law_same [sameD, .lst [.bl true, .bl false, .bl false, .bl false]] S = .ok (.bl true) S := fun S => same_eq (d := sameD) (plainB [true, false, false, false])
        have e2 : ∀ S, f__law_same [.lst [.int u, .int 1], .lst [.int u, .int 1]] S = .ok (.bl true) S := fun S => same_eq (by simp [Z.plain, plainL])
        simp [e1, e2]
      rintro sl S10 ⟨rfl, rfl⟩
      refine wo_cut (fun sl S11 => Drawn 1 (ns.take 63) (S0 Ps ns) S11 ∧ ∃ v z, Odd v ∧ Late z ∧ sl = [some (.scr ns), some (.ptr 1), some x, some (.int w), some (.int s), some (.int u), some (.int d), some (pairD (num u d) (den u d)), some (ratD (num u d) (den u d)), some (toldD u d), some (ratD u 1), some sameD, some v, some z, x14, x15]) ?_ ?_
      · simp
        refine (of_df (by simp) (by simp) (by simp)).we hD4.1 fun v S' hv hD' => ?_
        refine (of_df (by simp) (by simp) (by simp)).we hD'.1 fun z S'' hz' hD'' => ?_
        refine ⟨(hD4.trans hD').trans hD'', odd_mem hv, late_mem hz'⟩
      rintro sl S11 ⟨hD11, v, z, hv, hz', rfl⟩
      have hS11 := noLcS_drawn (noLc_S0 ns) hD11
      have hT : S11[0]? = some (.tab (Ps 0) "law.<locals>.<lambda>") := by rw [hD11.get (by decide)]; rfl
      have q0 : T_law_0.qual = "law.<locals>.<lambda>" := rfl
      have q1 : T_law_1.qual = "law.<locals>.<lambda>" := rfl
      have q2 : T_law_2.qual = "law.<locals>.<lambda>" := rfl
      refine wo_cut (fun sl S12 => S12 = S11 ∧ sl = [some (.scr ns), some (.ptr 1), some x, some (.int w), some (.int s), some (.int u), some (.int d), some (pairD (num u d) (den u d)), some (ratD (num u d) (den u d)), some (toldD u d), some (ratD u 1), some sameD, some v, some z, some (asksD κ), x15]) ?_ ?_
      · simp [hT, q0, q1, q2]
        rfl
      rintro sl S12 ⟨rfl, rfl⟩
      refine wo_cut (fun sl S13 => S13 = S12 ∧ sl = [some (.scr ns), some (.ptr 1), some x, some (.int w), some (.int s), some (.int u), some (.int d), some (pairD (num u d) (den u d)), some (ratD (num u d) (den u d)), some (toldD u d), some (ratD u 1), some sameD, some v, some z, some (asksD κ), x15]) ?_ ?_
      · have c : ∀ sl, sl = [some (.scr ns), some (.ptr 1), some x, some (.int w), some (.int s), some (.int u), some (.int d), some (pairD (num u d) (den u d)), some (ratD (num u d) (den u d)), some (toldD u d), some (ratD u 1), some sameD, some v, some z, some (asksD κ), x15] → convL cnL NL κ sl [asksD κ] = some [.lst [.lamc T_law_0 [v, z], .lamc T_law_1 [.int u, z], .lamc T_law_2 [z, .int s]]] := fun sl e => by
          subst e
          exact convL_c (conv_lst (convL_c conv_l0 (convL_c conv_l1 (convL_c conv_l2 convL_n)))) convL_n
        have nl : noLc (.lst [itup v, itup z, itup z]) = true := by simp [noLc, noLcL, itup, hv.2.2.1, hz'.l]
        have e : ∀ T, f__law_same [.lst [itup v, itup z, itup z], .lst [.tup [.str "InvalidRatio", v], .tup [.str "InvalidRatio", z], .tup [.str "InvalidRatio", z]]] T = .ok (.bl true) T := fun T => same_eq (d := .lst [itup v, itup z, itup z]) (by
          have h1 := plain_itup (k := 8) (hv.2.2.2 7)
          have h2 := plain_itup (k := 8) (hz'.p (k := 7))
          simp [Z.plain, plainL, h1, h2])
        simp [c _ rfl, whys3 hv hz' hS11, nl, hS11, e]
      rintro sl S13 ⟨rfl, rfl⟩
      have hl4 : ∀ sl : Sl, sl[7]? = some (some (pairD (num u d) (den u d))) → sl[8]? = some (some (ratD (num u d) (den u d))) → (eArgs semLst (aCons (eLit .non) (aCons (eName 7) (aCons (eMethZ "text" [("Ratio", f_Ratio_text)] (eName 8) aNil) (aCons (eLit (.bl true)) aNil))))) sl S13 = .ok (.lst [.non, pairD (num u d) (den u d), .str (tx (ratT (num u d) (den u d))), .bl true]) S13 := fun sl h7 h8 => eq_of_we (by simp [h7, h8, ht])
      rw [w_sIf, w_bTru, w_eArgs, w_aCons, w_eFin]
      refine we_lcF_pure (xs := [.non, pairD (num u d) (den u d), .str (tx (ratT (num u d) (den u d))), .bl true]) (fun _ => true) (fun _ => .bl false) (itAny_of (hl4 _ rfl rfl) (srcD_lst _)) (by simp) (fun _ => rfl) (fun x hx T => ?_) (fun x hx _ => by simp) ?_
      · have hre : ∀ S, f_Ratio___eq__ [ratD (num u d) (den u d), x] S = .ok (.bl false) S := fun S => by
          simp at hx
          rcases hx with rfl | rfl | rfl | rfl <;> exact req_other rfl rfl
        have hok : ∀ S, okRtE ["Ratio"] S x = true := fun S => by
          simp at hx
          rcases hx with rfl | rfl | rfl | rfl <;> rfl
        simp [wipeS, bTrue, hre, hok]
      · have : ∀ S, semAny [.lst [.bl false, .bl false, .bl false, .bl false]] S = .ok (.bl false) S := fun S => rfl
        simp [this]
        exact hD11
    · rintro sl S1 ⟨hD, x2, x3, x4, x5, x6, x7, x8, x9, x10, x11, x12, x13, x14, x15, rfl⟩
      obtain ⟨_, a, g, s, e⟩ := hD
      exact ⟨trivial, _, by rw [e]; rfl⟩
  · rintro sl S ⟨T, rfl⟩
    have k0 : num 0 (-5) = 0 := by decide +kernel
    have k1 : den 0 (-5) = 1 := by decide +kernel
    have mk : ∀ {P X : D → Store → Prop} (S : Store), P (ratD 0 1) S → We (makeS "Ratio" f_Ratio___init__ [.int 0, .int (-5)] S) (FinP S P) X := fun {P X} S h => make_ok (n := 1) (m := 3) (by unfold Bd; decide) (by unfold Bd; decide) (by decide) (by decide) (by decide) (by rw [k0, k1]; exact h)
    have e2 : ∀ S, f__law_same [.lst [.int 0, .int 1], .lst [.int 0, .int 1]] S = .ok (.bl true) S := fun S => same_eq (by simp [Z.plain, plainL])
    simp
    refine mk _ ?_
    simp
    refine mk _ ?_
    simp
    refine mk _ ?_
    simp [e2]
    exact finP_app (Keep.refl _) rfl rfl
theorem law_ok : ∀ (Ps : Nat → Addr) (ns : List Int), ns.length ≤ 63 → (∀ z ∈ ns, Builtin.Int.intBits z ≤ 1048576) → ∀ κ, ∃ S, defS 16 (m_law Ps κ) [.scr ns] (tabsOf [(Ps 0, "law.<locals>.<lambda>")]) = .ok (.bl true) S := fun Ps ns _ _ κ => by
  obtain ⟨a, S', e, rfl⟩ := (law_we Ps κ ns).get
  exact ⟨S', e⟩
end K02
open PySem PySem.W PyProof.Rows
set_option maxRecDepth 100000 in
set_option maxHeartbeats 0 in
theorem PySem.Challenge.cw_waysagree_k02_ratios_made_holds : PySem.Challenge.rw_waysagree_k02_ratios_made.Holds := by
  w_on; o_law; k_head; (case hw => w_witness2)
  k_fill
  refine Z.walkT (l := PySem.Challenge.rw_waysagree_k02_ratios_made) (k := 14) (x := "_law_script") rfl rfl ⟨rfl, by decide, by decide⟩ ?F
  case F =>
    intro w mg fa h hT KX G hmg
    refine' K02.all_mk K02.law_ok KX G hmg hT ?h_Ratio ?pg_Ratio ?hd_Ratio ?po_Ratio ?sa_Ratio ?mk_Ratio ?kc_Ratio ?in_Ratio ?na_Ratio_own_bottom ?na_Ratio_own_top ?fd_Ratio___bool__ ?fd_Ratio___eq__ ?fd_Ratio___repr__ ?fd_Ratio_text ?ca_Ratio ?ob_Ratio ?ne_Ratio ?nf_Ratio_Ratio ?fp_Ratio_bottom ?fp_Ratio_top ?kt_Ratio_Ratio ?tyc_Ratio ?i_Ratio___bool__ ?l_Ratio___bool__ ?c_Ratio___bool__ ?k_Ratio___bool__ ?i_Ratio___eq__ ?l_Ratio___eq__ ?c_Ratio___eq__ ?k_Ratio___eq__ ?h_common_divisor ?l_common_divisor ?c_common_divisor ?k_common_divisor ?h_is_whole ?l_is_whole ?c_is_whole ?k_is_whole ?i_Ratio___init__ ?l_Ratio___init__ ?dl_Ratio___init__ ?c_Ratio___init__ ?k_Ratio___init__ ?i_Ratio_text ?l_Ratio_text ?c_Ratio_text ?k_Ratio_text ?i_Ratio___repr__ ?l_Ratio___repr__ ?c_Ratio___repr__ ?k_Ratio___repr__ ?pg_Ratio_bottom ?pt_Ratio_bottom ?pp_Ratio_bottom ?i_Ratio_bottom ?l_Ratio_bottom ?c_Ratio_bottom ?k_Ratio_bottom ?pg_Ratio_top ?pt_Ratio_top ?pp_Ratio_top ?i_Ratio_top ?l_Ratio_top ?c_Ratio_top ?k_Ratio_top ?h__law_bag ?l__law_bag ?c__law_bag ?k__law_bag ?h__law_gcd ?l__law_gcd ?c__law_gcd ?k__law_gcd ?h__law_frac ?l__law_frac ?c__law_frac ?k__law_frac ?h__law_frac_text ?l__law_frac_text ?c__law_frac_text ?k__law_frac_text ?h__law_pick ?l__law_pick ?c__law_pick ?k__law_pick ?h__law_of ?l__law_of ?c__law_of ?k__law_of ?h__law_same ?l__law_same ?c__law_same ?k__law_same ?h__law_field ?l__law_field ?c__law_field ?k__law_field ?h__law_why ?l__law_why ?c__law_why ?k__law_why ?h__law_whys ?l__law_whys ?c__law_whys ?k__law_whys ?h_law ?l_law ?c_law ?k_law ?h_WayError ?h_Missing ?h_InvalidRatio ?h_NothingLeft ?xf_InvalidRatio ?xn_InvalidRatio_tag ?xn_InvalidRatio_value ?tr_InvalidRatio_WayError_Missing_NothingLeft ?xj_InvalidRatio ?xl_InvalidRatio ?xc_InvalidRatio ?xv_InvalidRatio ?xw_InvalidRatio ?xf2_InvalidRatio ?xe_InvalidRatio ?xd_InvalidRatio ?xg_InvalidRatio ?xh_InvalidRatio ?xj_WayError ?xl_WayError ?xc_WayError ?xv_WayError ?xw_WayError ?xf2_WayError ?xe_WayError ?xd_WayError ?xg_WayError ?xh_WayError ?kc_InvalidRatio ?xi_InvalidRatio ?xo_InvalidRatio ?xk_InvalidRatio ?xs_InvalidRatio ?xD_InvalidRatio ?xI_InvalidRatio ?xt_InvalidRatio ?xB_InvalidRatio ?xR_InvalidRatio ?xT_InvalidRatio ?xm_InvalidRatio_InvalidRatio ?xu_InvalidRatio_InvalidRatio ?xm_InvalidRatio_WayError ?xu_InvalidRatio_WayError ?xa_InvalidRatio_tag ?xa_InvalidRatio_value ?b_super ?tp_any ?top_super ?b_abs ?b_all ?b_any ?b_bool ?b_int ?b_isinstance ?b_len ?b_list ?b_range ?b_repr ?b_str ?b_tuple ?b_zip ?te_law ?tv_law ?tw_law ?th_law ?tn_law ?tm_law ?t_nd
    (case h_Ratio => k_is)
    (case pg_Ratio => k_is)
    (case hd_Ratio => k_is)
    (case po_Ratio => k_is)
    (case sa_Ratio => k_is)
    (case mk_Ratio => k_is)
    (case kc_Ratio => k_is)
    (case in_Ratio => k_is)
    (case na_Ratio_own_bottom => k_is)
    (case na_Ratio_own_top => k_is)
    (case fd_Ratio___bool__ => k_is)
    (case fd_Ratio___eq__ => k_is)
    (case fd_Ratio___repr__ => k_is)
    (case fd_Ratio_text => k_is)
    (case ca_Ratio => k_is)
    (case ob_Ratio => k_is)
    (case ne_Ratio => k_is)
    (case nf_Ratio_Ratio => k_is)
    (case fp_Ratio_bottom => k_is)
    (case fp_Ratio_top => k_is)
    (case kt_Ratio_Ratio => kernel_rfl)
    (case tyc_Ratio => kernel_rfl)
    (case i_Ratio___bool__ => k_is)
    (case l_Ratio___bool__ => k_is)
    (case c_Ratio___bool__ => k_is)
    (case k_Ratio___bool__ => k_is)
    (case i_Ratio___eq__ => k_is)
    (case l_Ratio___eq__ => k_is)
    (case c_Ratio___eq__ => k_is)
    (case k_Ratio___eq__ => k_is)
    (case h_common_divisor => k_is)
    (case l_common_divisor => k_is)
    (case c_common_divisor => k_is)
    (case k_common_divisor => k_is)
    (case h_is_whole => k_is)
    (case l_is_whole => k_is)
    (case c_is_whole => k_is)
    (case k_is_whole => k_is)
    (case i_Ratio___init__ => k_is)
    (case l_Ratio___init__ => k_is)
    (case dl_Ratio___init__ => k_is)
    (case c_Ratio___init__ => k_is)
    (case k_Ratio___init__ => k_is)
    (case i_Ratio_text => k_is)
    (case l_Ratio_text => k_is)
    (case c_Ratio_text => k_is)
    (case k_Ratio_text => k_is)
    (case i_Ratio___repr__ => k_is)
    (case l_Ratio___repr__ => k_is)
    (case c_Ratio___repr__ => k_is)
    (case k_Ratio___repr__ => k_is)
    (case pg_Ratio_bottom => k_is)
    (case pt_Ratio_bottom => k_is)
    (case pp_Ratio_bottom => k_is)
    (case i_Ratio_bottom => k_is)
    (case l_Ratio_bottom => k_is)
    (case c_Ratio_bottom => k_is)
    (case k_Ratio_bottom => k_is)
    (case pg_Ratio_top => k_is)
    (case pt_Ratio_top => k_is)
    (case pp_Ratio_top => k_is)
    (case i_Ratio_top => k_is)
    (case l_Ratio_top => k_is)
    (case c_Ratio_top => k_is)
    (case k_Ratio_top => k_is)
    (case h__law_bag => k_is)
    (case l__law_bag => k_is)
    (case c__law_bag => k_is)
    (case k__law_bag => k_is)
    (case h__law_gcd => k_is)
    (case l__law_gcd => k_is)
    (case c__law_gcd => k_is)
    (case k__law_gcd => k_is)
    (case h__law_frac => k_is)
    (case l__law_frac => k_is)
    (case c__law_frac => k_is)
    (case k__law_frac => k_is)
    (case h__law_frac_text => k_is)
    (case l__law_frac_text => k_is)
    (case c__law_frac_text => k_is)
    (case k__law_frac_text => k_is)
    (case h__law_pick => k_is)
    (case l__law_pick => k_is)
    (case c__law_pick => k_is)
    (case k__law_pick => k_is)
    (case h__law_of => k_is)
    (case l__law_of => k_is)
    (case c__law_of => k_is)
    (case k__law_of => k_is)
    (case h__law_same => k_is)
    (case l__law_same => k_is)
    (case c__law_same => k_is)
    (case k__law_same => k_is)
    (case h__law_field => k_is)
    (case l__law_field => k_is)
    (case c__law_field => k_is)
    (case k__law_field => k_is)
    (case h__law_why => k_is)
    (case l__law_why => k_is)
    (case c__law_why => k_is)
    (case k__law_why => k_is)
    (case h__law_whys => k_is)
    (case l__law_whys => k_is)
    (case c__law_whys => k_is)
    (case k__law_whys => k_is)
    (case h_law => k_is)
    (case l_law => k_is)
    (case c_law => k_is)
    (case k_law => k_is)
    (case h_WayError => k_is)
    (case h_Missing => k_is)
    (case h_InvalidRatio => k_is)
    (case h_NothingLeft => k_is)
    (case xf_InvalidRatio => kernel_rfl)
    (case xn_InvalidRatio_tag => k_is)
    (case xn_InvalidRatio_value => k_is)
    (case tr_InvalidRatio_WayError_Missing_NothingLeft => kernel_rfl)
    (case xj_InvalidRatio => k_is)
    (case xl_InvalidRatio => k_is)
    (case xc_InvalidRatio => k_is)
    (case xv_InvalidRatio => k_is)
    (case xw_InvalidRatio => rfl)
    (case xf2_InvalidRatio => decide +kernel)
    (case xe_InvalidRatio => k_is)
    (case xd_InvalidRatio => k_is)
    (case xg_InvalidRatio => kernel_rfl)
    (case xh_InvalidRatio => k_is)
    (case xj_WayError => k_is)
    (case xl_WayError => k_is)
    (case xc_WayError => k_is)
    (case xv_WayError => k_is)
    (case xw_WayError => rfl)
    (case xf2_WayError => decide +kernel)
    (case xe_WayError => k_is)
    (case xd_WayError => k_is)
    (case xg_WayError => kernel_rfl)
    (case xh_WayError => k_is)
    (case kc_InvalidRatio => k_is)
    (case xi_InvalidRatio => kernel_rfl)
    (case xo_InvalidRatio => kernel_rfl)
    (case xk_InvalidRatio => kernel_rfl)
    (case xs_InvalidRatio => k_is)
    (case xD_InvalidRatio => k_is)
    (case xI_InvalidRatio => k_is)
    (case xt_InvalidRatio => k_is)
    (case xB_InvalidRatio => k_is)
    (case xR_InvalidRatio => k_is)
    (case xT_InvalidRatio => k_is)
    (case xm_InvalidRatio_InvalidRatio => k_is)
    (case xu_InvalidRatio_InvalidRatio => kernel_rfl)
    (case xm_InvalidRatio_WayError => k_is)
    (case xu_InvalidRatio_WayError => kernel_rfl)
    (case xa_InvalidRatio_tag => k_is)
    (case xa_InvalidRatio_value => k_is)
    (case b_super => k_is)
    (case tp_any => k_is)
    (case top_super => rfl)
    (case b_abs => k_is)
    (case b_all => k_is)
    (case b_any => k_is)
    (case b_bool => k_is)
    (case b_int => k_is)
    (case b_isinstance => k_is)
    (case b_len => k_is)
    (case b_list => k_is)
    (case b_range => k_is)
    (case b_repr => k_is)
    (case b_str => k_is)
    (case b_tuple => k_is)
    (case b_zip => k_is)
    (case te_law => rfl)
    (case tv_law => k_is)
    (case tw_law => rfl)
    (case th_law => kernel_rfl)
    (case tn_law => kernel_rfl)
    (case tm_law => decide)
    (case t_nd => decide)
