import PyProof.Rows.All
import Wide.All
import OpenK.AllK
import Wide.FinOn
import HandS.ForMost
import HandS.Exc
import HandS.IsInst
import HandS.Walk
import HandS.Star
import HandS.CallSlots
import HandS.Lambda
import KE.KDflt
import HandS.ExcOwn
import HandS.ExcCtx
import HandS.HotCalls
import HandS.RaiseFrom
import HandS.SuiteRaise
import HandS.WordsExc
import HandS.Property
import HandS.Wide
import HandS.TupAny
import HandS.TupMul
import HandS.WordsDict
import HandS.Zip
import HandS.Rev
import KE.GoesMore
import KE.GoesZip
import KE.GoesEnum
import HandS.Small
import HandS.StrMore
import HandS.Comp
import HandS.Iter
import KE.SortData
import KE.KDictSum
import PyProof.CollectStr
import HandS.More
import KE.KExcSuper
import HandS.ExcInit
import HandS.ExcIs
import HandS.TryMany
import KE.KTryMore
import HandS.ExcField
import HandS.Style
import HandS.SetKeys
import HandS.TupSets
import KE.KOpsOwn
import HandS.FStr
import HandS.Defaults
import HandS.MakeKw
import HandS.NoneIn
import HandS.EndTab
import KE.KNestM
import HandS.SetFor
import HandS.SetTxt0
import HandS.Strs
import KE.DataMinMax
import PyProof.ListStr
import HandS.HeadNt
import HandS.HeadHook4
import HandS.HeadWalk
import HandS.HeadEnd
import HandS.Head2
import HandS.MethStar
import PyProof.SliceStr2
import HandS.New0
import PyProof.Rows.SetFrom
import HandS.Deep
import KE.KDictPairs
import PyProof.StrBlock2
import HandS.ExcInitHot
import HandS.Text
import HandS.ClsMeth
import HandS.Codes
import PySem.Challenge.RW_waysagree_k04_texts_of_ratios
set_option Elab.async false
set_option linter.all false
set_option maxRecDepth 100000
set_option maxHeartbeats 4000000
namespace Z
open PySem PySem.Spec L2
/-- a lambda of the text -/
structure LamText where
  id : Nat
  params : Arguments
  body : Expr
  scope : Scope
  qual : Str
  dvs : List V
  names : List Str
inductive D where
  | non
  | bl (b : Bool)
  | int (i : Int)
  | str (s : Str)
  | ty (n : String)
  | cls (c : Str)
  | tup (xs : List D)
  | lst (xs : List D)
  /-- a tuple of which it is known that it has no dict of its own -/
  | tpx (xs : List D)
  | dct (ks vs : List D)
  | ins (c : Str) (ns : List Str) (vs : List D)
  | ptr (n : Nat)
  /-- the script: a list of ints that nobody changes -/
  | scr (xs : List Int)
  /-- an exception that is held -/
  | exc (c : Str) (ns : List Str) (vs : List D)
  /-- a lambda, its cells; one whose cells are known -/
  | lam (T : LamText) (clo : List (Str × Addr))
  | lamc (T : LamText) (caps : List D)
/-- a mutable thing; lk: it is being walked (read only) -/
inductive MO where
  | lst (xs : List D)
  | dct (lk : Bool) (ks vs : List D)
  | ins (c : Str) (ns : List Str) (vs : List D)
  /-- a table of code objects -/
  | tab (P : Addr) (q : Str)
abbrev Store := List MO
inductive Out (α : Type) where
  | ok (a : α) (S : Store)
  | ex (e : D) (S : Store)
  | bad
def Out.bind {α β : Type} (o : Out α) (k : α → Store → Out β) : Out β := match o with
  | .ok a S => k a S
  | .ex e S => .ex e S
  | .bad => .bad
abbrev Sl := List (Option D)
abbrev EX := Sl → Store → Out D
abbrev AX := Sl → Store → Out (List D)
abbrev BX := Sl → Store → Out Bool
/-- a statement's end -/
inductive SO where
  | nx (sl : Sl) (S : Store)
  | bk (sl : Sl) (S : Store)
  | ct (sl : Sl) (S : Store)
  | rt (d : D) (S : Store)
  | ex (e : D) (sl : Sl) (S : Store)
  | bad
abbrev SX := Sl → Store → SO
mutual
/-- no lambda whose cells are known is in it -/
def noLc : D → Bool
  | .tup xs => noLcL xs
  | .tpx xs => noLcL xs
  | .lst xs => noLcL xs
  | .dct ks vs => noLcL ks && noLcL vs
  | .ins _ _ vs => noLcL vs
  | .exc _ _ vs => noLcL vs
  | .lamc _ _ => false
  | .non => true
  | .bl _ => true
  | .int _ => true
  | .str _ => true
  | .ty _ => true
  | .cls _ => true
  | .scr _ => true
  | .ptr _ => true
  | .lam _ _ => true
def noLcL : List D → Bool
  | [] => true
  | d :: ds => noLc d && noLcL ds
end
def noLcM : MO → Bool
  | .lst xs => noLcL xs
  | .dct _ ks vs => noLcL ks && noLcL vs
  | .ins _ _ vs => noLcL vs
  | .tab _ _ => true
section
variable (K : PySem.W.Frag) (mg : Str → Option Value) (ρ : List Addr) (H : Hp)
/-- a list, a tuple of the written part -/
def KLst (a : Addr) (vs : List V) : Prop := ∃ (o : Obj) (its : Array Value) (n : Nat), K.lookup a = some o ∧ o.cls = .type "list" ∧ o.dict = none ∧ o.data = .seq its n ∧ its.size ≤ sizeLine ∧ Vals vs its.toList
def KTup (a : Addr) (vs : List V) : Prop := ∃ (o : Obj) (its : Array Value) (n : Nat), K.lookup a = some o ∧ o.cls = .type "tuple" ∧ o.data = .seq its n ∧ its.size ≤ sizeLine ∧ Vals vs its.toList
def ScrAt (a : Addr) (vs : List V) : Prop := (a ∉ ρ ∧ Rd H a (.lst vs)) ∨ KLst K a vs
def LstAt (a : Addr) (vs : List V) : Prop := a ∉ ρ ∧ H a = some (.lst vs)
def TupAt (a : Addr) (vs : List V) : Prop := (a ∉ ρ ∧ H a = some (.tup vs)) ∨ KTup K a vs
/-- a tuple without a dict of its own -/
def TpxAt (a : Addr) (vs : List V) : Prop := a ∉ ρ ∧ ∃ o : Obj, o.dict = none ∧ H a = some (.frz o (.tup vs))
/-- a dict whose keys are ints and texts -/
def DctAt (a : Addr) (ks vs : List V) : Prop := a ∉ ρ ∧ ∃ kvs : List (Key × V), Rd H a (.dK kvs) ∧ ks = kvs.map (fun p => kV p.1) ∧ vs = kvs.map (·.2)
/-- the very object at a -/
def XO (a : Addr) (o : Obj) : HO := .ext fun h => h.get? a = some o
/-- an exception's object at a, its class, its dict -/
def ExD (a C d : Addr) : HO := .ext fun h => ∃ (oe : Obj) (vs : Array Value), h.get? a = some oe ∧ Zc (.ref C) (some d) oe ∧ oe.data = .fields vs
def DfAt (dvs : List V) (dV : Value) : Prop := (dvs = [] ∧ dV = .none) ∨ (dvs ≠ [] ∧ ∃ t, dV = .ref t ∧ t ∉ ρ ∧ H t = some (.tup dvs))
def LamAt (f : Addr) (T : LamText) (clo : List (Str × Addr)) : Prop := f ∉ ρ ∧ (∃ κ, clo = L2.cloFrom κ T.scope.names []) ∧ ∃ (pm doc dV ctv : Value) (c' : Addr), H f = some (XO f (PySem.W.kdv_obj "<lambda>" T.qual T.params (.expr T.body) T.scope clo dV doc pm c' ctv)) ∧ c' ∉ ρ ∧ H c' = some (LamX.CodeO c' T.qual) ∧ DfAt ρ H T.dvs dV
/-- the cells of the names, by value -/
def CellsAt (clo : List (Str × Addr)) : List Str → List V → Prop
  | [], vs => vs = []
  | n :: ns, vs => ∃ v r c o u, vs = v :: r ∧ clo.lookup n = some c ∧ c ∉ ρ ∧ H c = some (.frz o (.own 0)) ∧ o.data = .cell (some u) ∧ RelV v u ∧ (∀ m ∈ ns, clo.lookup m ≠ some c) ∧ CellsAt clo ns r
mutual
def Rep : D → V → Prop
  | .non, v => v = .non
  | .bl b, v => v = .bl b
  | .int i, v => v = .int i
  | .str s, v => v = .str s
  | .ty n, v => v = .ty n
  | .cls c, v => ∃ C, mg c = some (.ref C) ∧ v = .ref C
  | .tup ds, v => ∃ a vs, v = .ref a ∧ TupAt K ρ H a vs ∧ RepL ds vs
  | .tpx ds, v => ∃ a vs, v = .ref a ∧ TpxAt ρ H a vs ∧ RepL ds vs
  | .lst ds, v => ∃ a vs, v = .ref a ∧ LstAt ρ H a vs ∧ RepL ds vs
  | .dct ks ds, v => ∃ a kv vs, v = .ref a ∧ DctAt ρ H a kv vs ∧ RepL ks kv ∧ RepL ds vs
  | .ins c ns ds, v => ∃ a C dx fs, v = .ref a ∧ a ∉ ρ ∧ mg c = some (.ref C) ∧ H a = some (.ins C dx fs) ∧ fs.map (·.1) = ns ∧ RepL ds (fs.map (·.2))
  | .ptr n, v => ∃ a, v = .ref a ∧ ρ[n]? = some a
  | .scr xs, v => ∃ a, v = .ref a ∧ ScrAt K ρ H a (xs.map V.int)
  | .exc c ns ds, v => ∃ a C d fs, v = .ref a ∧ a ∉ ρ ∧ d ∉ ρ ∧ mg c = some (.ref C) ∧ H a = some (ExD a C d) ∧ H d = some (.xd fs) ∧ fs.map (·.1) = ns ∧ RepL ds (fs.map (·.2))
  | .lam T clo, v => ∃ f, v = .ref f ∧ LamAt ρ H f T clo
  | .lamc T caps, v => ∃ f clo vs, v = .ref f ∧ LamAt ρ H f T clo ∧ CellsAt ρ H clo T.names vs ∧ RepL caps vs
def RepL : List D → List V → Prop
  | [], vs => vs = []
  | d :: ds, vs => ∃ v r, vs = v :: r ∧ Rep d v ∧ RepL ds r
end
def MRep (a : Addr) : MO → Prop
  | .lst ds => ∃ vs, H a = some (.lst vs) ∧ RepL K mg ρ H ds vs
  | .dct lk ks ds => ∃ kvs : List (Key × V), (if lk = true then Rd H a (.dK kvs) else H a = some (.dK kvs)) ∧ RepL K mg ρ H ks (kvs.map (fun p => kV p.1)) ∧ RepL K mg ρ H ds (kvs.map (·.2))
  | .ins c ns ds => ∃ C dx fs, mg c = some (.ref C) ∧ H a = some (.ins C dx fs) ∧ fs.map (·.1) = ns ∧ RepL K mg ρ H ds (fs.map (·.2))
  | .tab P q => a = P ∧ ∃ ps : Array Value, H a = some (.tbl ps) ∧ TriplesOk ps.toList ∧ ∀ (pos : Pos) (cv : Value), codeAmong pos ps.toList = some cv → ∃ c, cv = .ref c ∧ c ∉ ρ ∧ H c = some (LamX.CodeO c q)
/-- the store is held: the n-th thing stands at the n-th address -/
structure WOk (S : Store) : Prop where
  len : ρ.length = S.length
  nd : ρ.Nodup
  tr : ∀ a ∈ ρ, H a ≠ none
  ob : ∀ (n : Nat) a m, ρ[n]? = some a → S[n]? = some m → MRep K mg ρ H a m
/-- the slots -/
structure RSt (σ : St) (sl : Sl) : Prop where
  len : σ.length = sl.length
  at_ : ∀ (i : Nat) d, sl[i]? = some (some d) → ∃ v, σ[i]? = some (some v) ∧ Rep K mg ρ H d v
/-- an exception of the class c with its fields, its class at C, its own dict at dd -/
def ExRep (e : D) (C : Value) (dd : Option Addr) : Prop := ∃ c ns ds Ca da fs, e = .ins c ns ds ∧ mg c = some (.ref Ca) ∧ C = .ref Ca ∧ dd = some da ∧ da ∉ ρ ∧ H da = some (.xd fs) ∧ fs.map (·.1) = ns ∧ RepL K mg ρ H ds (fs.map (·.2))
end
/-- new handles are new; all but the handles' things stay -/
structure Ext (ρ : List Addr) (H : Hp) (ρ' : List Addr) (H' : Hp) : Prop where
  pre : ∃ t, ρ' = ρ ++ t
  new : ∀ a ∈ ρ', a ∉ ρ → H a = none
  /-- a dict may be locked for good -/
  keep : ∀ a o, a ∉ ρ → H a = some o → H' a = some o ∨ ((∃ kvs, o = .dK kvs) ∧ ∃ od, H' a = some (.frz od o))
section
variable {K : PySem.W.Frag} {mg : Str → Option Value} {ρ ρ' ρ'' : List Addr} {H H' H'' : Hp}
/-- what is no dict stays -/
theorem Ext.kept (x : Ext ρ H ρ' H') {a : Addr} {o : HO} (n : a ∉ ρ) (h : H a = some o) (nd : ∀ kvs, o ≠ .dK kvs) : H' a = some o := by
  rcases x.keep a o n h with h | ⟨⟨kvs, e⟩, _⟩
  · exact h
  · exact absurd e (nd kvs)
theorem Ext.nin (x : Ext ρ H ρ' H') {a : Addr} {o : HO} (n : a ∉ ρ) (h : H a = some o) : a ∉ ρ' := fun q => by
  have := x.new a q n
  rw [h] at this; cases this
theorem Ext.trans (x : Ext ρ H ρ' H') (y : Ext ρ' H' ρ'' H'') : Ext ρ H ρ'' H'' := by
  obtain ⟨t, e⟩ := x.pre
  obtain ⟨t', e'⟩ := y.pre
  refine ⟨⟨t ++ t', by rw [e', e, List.append_assoc]⟩, fun a h n => ?_, fun a o n h => ?_⟩
  rotate_left
  · rcases x.keep a o n h with h1 | ⟨hk, od, h1⟩
    · exact y.keep a o (x.nin n h) h1
    · exact .inr ⟨hk, od, y.kept (x.nin n h) h1 (by intros; nofun)⟩
  by_cases q : a ∈ ρ'
  · exact x.new a q n
  · have z := y.new a h q
    cases e : H a with
    | none => rfl
    | some o =>
      rcases x.keep a o n e with this | ⟨_, _, this⟩ <;> (rw [z] at this; cases this)
theorem Ext.get (x : Ext ρ H ρ' H') {n : Nat} {a : Addr} (h : ρ[n]? = some a) : ρ'[n]? = some a := by
  obtain ⟨t, e⟩ := x.pre
  subst e
  have := (List.getElem?_eq_some_iff.mp h).1
  rw [List.getElem?_append_left this]; exact h
theorem Rd.ext (x : Ext ρ H ρ' H') {a : Addr} {u : HO} (n : a ∉ ρ) (r : Rd H a u) : a ∉ ρ' ∧ Rd H' a u := by
  rcases r with r | ⟨o, r⟩
  · rcases x.keep _ _ n r with q | ⟨_, od, q⟩
    · exact ⟨x.nin n r, .inl q⟩
    · exact ⟨x.nin n r, .inr ⟨od, q⟩⟩
  · exact ⟨x.nin n r, .inr ⟨o, x.kept n r (by intros; nofun)⟩⟩
/-- keeping what is read: for values -/
structure Kp (ρ : List Addr) (H : Hp) (ρ' : List Addr) (H' : Hp) : Prop where
  rd : ∀ a u, (∀ o u', u ≠ HO.frz o u') → (∀ y, u ≠ HO.own y) → a ∉ ρ → Rd H a u → a ∉ ρ' ∧ Rd H' a u
  lst : ∀ a vs, a ∉ ρ → H a = some (.lst vs) → H' a = some (.lst vs)
  tup : ∀ a vs, a ∉ ρ → H a = some (.tup vs) → H' a = some (.tup vs)
  ins : ∀ a C dx fs, a ∉ ρ → H a = some (.ins C dx fs) → H' a = some (.ins C dx fs)
  get : ∀ (n : Nat) a, ρ[n]? = some a → ρ'[n]? = some a
  ext : ∀ a φ, a ∉ ρ → H a = some (.ext φ) → a ∉ ρ' ∧ H' a = some (.ext φ)
  xd : ∀ a fs, a ∉ ρ → H a = some (.xd fs) → a ∉ ρ' ∧ H' a = some (.xd fs)
  frz : ∀ a o vs, a ∉ ρ → H a = some (.frz o (.tup vs)) → a ∉ ρ' ∧ H' a = some (.frz o (.tup vs))
theorem Ext.kp (x : Ext ρ H ρ' H') : Kp ρ H ρ' H' := ⟨fun a u _ _ n r => Rd.ext x n r, fun a vs n h => x.kept n h (by intros; nofun), fun a vs n h => x.kept n h (by intros; nofun), fun a C dx fs n h => x.kept n h (by intros; nofun), fun n a h => x.get h, fun a φ n h => ⟨x.nin n h, x.kept n h (by intros; nofun)⟩, fun a fs n h => ⟨x.nin n h, x.kept n h (by intros; nofun)⟩, fun a o vs n h => ⟨x.nin n h, x.kept n h (by intros; nofun)⟩⟩
theorem TpxAt.kp (x : Kp ρ H ρ' H') {a : Addr} {vs : List V} (h : TpxAt ρ H a vs) : TpxAt ρ' H' a vs := by
  obtain ⟨n, o, d, e⟩ := h
  obtain ⟨n', e'⟩ := x.frz a o vs n e
  exact ⟨n', o, d, e'⟩
theorem ScrAt.kp (x : Kp ρ H ρ' H') {a : Addr} {vs : List V} (h : ScrAt K ρ H a vs) : ScrAt K ρ' H' a vs := by
  rcases h with ⟨n, r⟩ | h
  · exact .inl (x.rd _ _ (by intros; nofun) (by intros; nofun) n r)
  · exact .inr h
theorem LstAt.kp (x : Kp ρ H ρ' H') {a : Addr} {vs : List V} (h : LstAt ρ H a vs) : LstAt ρ' H' a vs := ⟨(x.rd _ _ (by intros; nofun) (by intros; nofun) h.1 (.inl h.2)).1, x.lst _ _ h.1 h.2⟩
theorem TupAt.kp (x : Kp ρ H ρ' H') {a : Addr} {vs : List V} (h : TupAt K ρ H a vs) : TupAt K ρ' H' a vs := by
  rcases h with ⟨n, r⟩ | h
  · exact .inl ⟨(x.rd _ _ (by intros; nofun) (by intros; nofun) n (.inl r)).1, x.tup _ _ n r⟩
  · exact .inr h
theorem DctAt.kp (x : Kp ρ H ρ' H') {a : Addr} {ks vs : List V} (h : DctAt ρ H a ks vs) : DctAt ρ' H' a ks vs := by
  obtain ⟨n, kvs, r, e1, e2⟩ := h
  obtain ⟨n', r'⟩ := x.rd _ _ (by intros; nofun) (by intros; nofun) n r
  exact ⟨n', kvs, r', e1, e2⟩
theorem DfAt.kp (x : Kp ρ H ρ' H') {dvs : List V} {dV : Value} (h : DfAt ρ H dvs dV) : DfAt ρ' H' dvs dV := by
  rcases h with h | ⟨n, t, e, nt, ht⟩
  · exact .inl h
  · exact .inr ⟨n, t, e, (x.rd _ _ (by intros; nofun) (by intros; nofun) nt (.inl ht)).1, x.tup _ _ nt ht⟩
theorem LamAt.kp (x : Kp ρ H ρ' H') {f : Addr} {T : LamText} {clo : List (Str × Addr)} (h : LamAt ρ H f T clo) : LamAt ρ' H' f T clo := by
  obtain ⟨n, hκ, pm, doc, dV, ctv, c', h1, nc, h2, h3⟩ := h
  obtain ⟨n', h1'⟩ := x.ext _ _ n h1
  obtain ⟨nc', h2'⟩ := x.ext _ _ nc h2
  exact ⟨n', hκ, pm, doc, dV, ctv, c', h1', nc', h2', h3.kp x⟩
/-- the cells that are known stay so -/
def FzK (ρ : List Addr) (H : Hp) (ρ' : List Addr) (H' : Hp) : Prop := ∀ a o u, a ∉ ρ → H a = some (.frz o u) → a ∉ ρ' ∧ H' a = some (.frz o u)
theorem Ext.fzk (x : Ext ρ H ρ' H') : FzK ρ H ρ' H' := fun a o u n h => ⟨x.nin n h, x.kept n h (by intros; nofun)⟩
theorem CellsAt.kp (x : FzK ρ H ρ' H') {clo : List (Str × Addr)} : ∀ {ns : List Str} {vs : List V}, CellsAt ρ H clo ns vs → CellsAt ρ' H' clo ns vs
  | [], _, h => h
  | n :: ns, _, ⟨v, r, c, o, u, e, h1, n1, h2, h3, h4, hd, h5⟩ => by
    obtain ⟨n1', h2'⟩ := x _ _ _ n1 h2
    exact ⟨v, r, c, o, u, e, h1, n1', h2', h3, h4, hd, CellsAt.kp x h5⟩
mutual
theorem Rep.kp (x : Kp ρ H ρ' H') : ∀ (d : D) (v : V), (FzK ρ H ρ' H' ∨ noLc d = true) → Rep K mg ρ H d v → Rep K mg ρ' H' d v
  | .non, v, hf, h => by rw [Rep] at h ⊢; exact h
  | .bl b, v, hf, h => by rw [Rep] at h ⊢; exact h
  | .int i, v, hf, h => by rw [Rep] at h ⊢; exact h
  | .str s, v, hf, h => by rw [Rep] at h ⊢; exact h
  | .ty n, v, hf, h => by rw [Rep] at h ⊢; exact h
  | .cls c, v, hf, h => by rw [Rep] at h ⊢; exact h
  | .tup ds, v, hf, h => by
    rw [Rep] at h ⊢
    obtain ⟨a, vs, e, t, r⟩ := h
    exact ⟨a, vs, e, t.kp x, RepL.kp x ds vs (hf.imp id fun q => by rw [noLc] at q; exact q) r⟩
  | .tpx ds, v, hf, h => by
    rw [Rep] at h ⊢
    obtain ⟨a, vs, e, t, r⟩ := h
    exact ⟨a, vs, e, t.kp x, RepL.kp x ds vs (hf.imp id fun q => by rw [noLc] at q; exact q) r⟩
  | .lst ds, v, hf, h => by
    rw [Rep] at h ⊢
    obtain ⟨a, vs, e, t, r⟩ := h
    exact ⟨a, vs, e, t.kp x, RepL.kp x ds vs (hf.imp id fun q => by rw [noLc] at q; exact q) r⟩
  | .dct ks ds, v, hf, h => by
    rw [Rep] at h ⊢
    obtain ⟨a, kv, vs, e, t, r1, r2⟩ := h
    exact ⟨a, kv, vs, e, t.kp x, RepL.kp x ks kv (hf.imp id fun q => by rw [noLc, Bool.and_eq_true] at q; exact q.1) r1, RepL.kp x ds vs (hf.imp id fun q => by rw [noLc, Bool.and_eq_true] at q; exact q.2) r2⟩
  | .ins c ns ds, v, hf, h => by
    rw [Rep] at h ⊢
    obtain ⟨a, C, dx, fs, e, n, hm, ha, hn, r⟩ := h
    exact ⟨a, C, dx, fs, e, (x.rd a _ (by intros; nofun) (by intros; nofun) n (.inl ha)).1, hm, x.ins a C dx fs n ha, hn, RepL.kp x ds _ (hf.imp id fun q => by rw [noLc] at q; exact q) r⟩
  | .ptr n, v, hf, h => by
    rw [Rep] at h ⊢
    obtain ⟨a, e, q⟩ := h
    exact ⟨a, e, x.get n a q⟩
  | .scr xs, v, hf, h => by
    rw [Rep] at h ⊢
    obtain ⟨a, e, q⟩ := h
    exact ⟨a, e, q.kp x⟩
  | .exc c ns ds, v, hf, h => by
    rw [Rep] at h ⊢
    obtain ⟨a, C, d, fs, e, n, nd, hm, ha, hd, hn, r⟩ := h
    obtain ⟨n', ha'⟩ := x.ext _ _ n ha
    obtain ⟨nd', hd'⟩ := x.xd _ _ nd hd
    exact ⟨a, C, d, fs, e, n', nd', hm, ha', hd', hn, RepL.kp x ds _ (hf.imp id fun q => by rw [noLc] at q; exact q) r⟩
  | .lam T clo, v, hf, h => by
    rw [Rep] at h ⊢
    obtain ⟨f, e, h⟩ := h
    exact ⟨f, e, h.kp x⟩
  | .lamc T caps, v, hf, h => by
    rw [Rep] at h ⊢
    obtain ⟨f, clo, vs, e, h1, h2, r⟩ := h
    rcases hf with hf | hf
    · exact ⟨f, clo, vs, e, h1.kp x, h2.kp hf, RepL.kp x caps vs (.inl hf) r⟩
    · rw [noLc] at hf; cases hf
theorem RepL.kp (x : Kp ρ H ρ' H') : ∀ (ds : List D) (vs : List V), (FzK ρ H ρ' H' ∨ noLcL ds = true) → RepL K mg ρ H ds vs → RepL K mg ρ' H' ds vs
  | [], vs, _, h => by rw [RepL] at h ⊢; exact h
  | d :: ds, vs, hf, h => by
    rw [RepL] at h ⊢
    obtain ⟨v, r, e, h1, h2⟩ := h
    exact ⟨v, r, e, Rep.kp x d v (hf.imp id fun q => by rw [noLcL, Bool.and_eq_true] at q; exact q.1) h1, RepL.kp x ds r (hf.imp id fun q => by rw [noLcL, Bool.and_eq_true] at q; exact q.2) h2⟩
end
theorem Rep.ext (x : Ext ρ H ρ' H') {d : D} {v : V} (h : Rep K mg ρ H d v) : Rep K mg ρ' H' d v := Rep.kp x.kp d v (.inl x.fzk) h
theorem RepL.ext (x : Ext ρ H ρ' H') {ds : List D} {vs : List V} (h : RepL K mg ρ H ds vs) : RepL K mg ρ' H' ds vs := RepL.kp x.kp ds vs (.inl x.fzk) h
theorem RSt.ext (x : Ext ρ H ρ' H') {σ : St} {sl : Sl} (h : RSt K mg ρ H σ sl) : RSt K mg ρ' H' σ sl := ⟨h.len, fun i d e => by
  obtain ⟨v, e1, r⟩ := h.at_ i d e
  exact ⟨v, e1, r.ext x⟩⟩
theorem RepL.len : ∀ {ds : List D} {vs : List V}, RepL K mg ρ H ds vs → ds.length = vs.length
  | [], _, h => by rw [RepL] at h; subst h; rfl
  | d :: ds, _, h => by
    rw [RepL] at h
    obtain ⟨v, r, e, _, h2⟩ := h
    subst e
    simp [RepL.len h2]
theorem RepL.get : ∀ {ds : List D} {vs : List V} {i : Nat} {d : D}, RepL K mg ρ H ds vs → ds[i]? = some d → ∃ v, vs[i]? = some v ∧ Rep K mg ρ H d v
  | [], _, _, _, _, e => by simp at e
  | x :: ds, _, 0, d, h, e => by
    rw [RepL] at h
    obtain ⟨v, r, e', h1, _⟩ := h
    subst e'
    simp at e; subst e
    exact ⟨v, by simp, h1⟩
  | x :: ds, _, i + 1, d, h, e => by
    rw [RepL] at h
    obtain ⟨v, r, e', _, h2⟩ := h
    subst e'
    obtain ⟨w, e1, q⟩ := RepL.get (i := i) h2 (by simpa using e)
    exact ⟨w, by simpa using e1, q⟩
theorem RepL.nil : RepL K mg ρ H [] [] := by rw [RepL]
theorem RepL.cons {d : D} {v : V} {ds : List D} {vs : List V} (h : Rep K mg ρ H d v) (r : RepL K mg ρ H ds vs) : RepL K mg ρ H (d :: ds) (v :: vs) := by
  rw [RepL]; exact ⟨v, vs, rfl, h, r⟩
theorem RepL.set {d : D} {v : V} (h : Rep K mg ρ H d v) : ∀ {ds : List D} {vs : List V} (i : Nat), RepL K mg ρ H ds vs → RepL K mg ρ H (ds.set i d) (vs.set i v)
  | [], _, _, q => by rw [RepL] at q; subst q; exact RepL.nil
  | x :: ds, _, 0, q => by
    rw [RepL] at q
    obtain ⟨w, r, e, _, h2⟩ := q
    subst e
    exact RepL.cons h h2
  | x :: ds, _, i + 1, q => by
    rw [RepL] at q
    obtain ⟨w, r, e, h1, h2⟩ := q
    subst e
    exact RepL.cons h1 (RepL.set h i h2)
theorem RepL.take : ∀ {ds : List D} {vs : List V} (n : Nat), RepL K mg ρ H ds vs → RepL K mg ρ H (ds.take n) (vs.take n)
  | _, _, 0, _ => by simp only [List.take_zero]; exact RepL.nil
  | [], _, n + 1, q => by rw [RepL] at q; subst q; exact RepL.nil
  | x :: ds, _, n + 1, q => by
    rw [RepL] at q
    obtain ⟨w, r, e, h1, h2⟩ := q
    subst e
    exact RepL.cons h1 (RepL.take n h2)
theorem RepL.drop : ∀ {ds : List D} {vs : List V} (n : Nat), RepL K mg ρ H ds vs → RepL K mg ρ H (ds.drop n) (vs.drop n)
  | _, _, 0, q => by simpa using q
  | [], _, n + 1, q => by rw [RepL] at q; subst q; exact RepL.nil
  | x :: ds, _, n + 1, q => by
    rw [RepL] at q
    obtain ⟨w, r, e, h1, h2⟩ := q
    subst e
    simpa using RepL.drop n h2
end
section
variable (K : PySem.W.Frag) (mg : Str → Option Value)
/-- behind an expression -/
def PostE (W : Value → Option Addr → Hp → Prop) (ρ : List Addr) (H : Hp) (Q : V → Hp → Prop) : Out D → Prop
  | .ok d S' => ∀ v ρ' H', Ext ρ H ρ' H' → WOk K mg ρ' H' S' → Rep K mg ρ' H' d v → Q v H'
  | .ex e S' => ∀ C dd ρ' H', Ext ρ H ρ' H' → WOk K mg ρ' H' S' → ExRep K mg ρ' H' e C dd → W C dd H'
  | .bad => False
def PostA (W : Value → Option Addr → Hp → Prop) (ρ : List Addr) (H : Hp) (Q : List V → Hp → Prop) : Out (List D) → Prop
  | .ok ds S' => ∀ vs ρ' H', Ext ρ H ρ' H' → WOk K mg ρ' H' S' → RepL K mg ρ' H' ds vs → Q vs H'
  | .ex e S' => ∀ C dd ρ' H', Ext ρ H ρ' H' → WOk K mg ρ' H' S' → ExRep K mg ρ' H' e C dd → W C dd H'
  | .bad => False
def PostB (W : Value → Option Addr → Hp → Prop) (ρ : List Addr) (H : Hp) (Q : Bool → Hp → Prop) : Out Bool → Prop
  | .ok b S' => ∀ ρ' H', Ext ρ H ρ' H' → WOk K mg ρ' H' S' → Q b H'
  | .ex e S' => ∀ C dd ρ' H', Ext ρ H ρ' H' → WOk K mg ρ' H' S' → ExRep K mg ρ' H' e C dd → W C dd H'
  | .bad => False
def PostS (W : WX) (ρ : List Addr) (H : Hp) (Dd : Ends) : SO → Prop
  | .nx sl S' => ∀ σ' ρ' H', Ext ρ H ρ' H' → WOk K mg ρ' H' S' → RSt K mg ρ' H' σ' sl → Dd.nx σ' H'
  | .bk sl S' => ∀ σ' ρ' H', Ext ρ H ρ' H' → WOk K mg ρ' H' S' → RSt K mg ρ' H' σ' sl → Dd.bk σ' H'
  | .ct sl S' => ∀ σ' ρ' H', Ext ρ H ρ' H' → WOk K mg ρ' H' S' → RSt K mg ρ' H' σ' sl → Dd.ct σ' H'
  | .rt d S' => ∀ v ρ' H', Ext ρ H ρ' H' → WOk K mg ρ' H' S' → Rep K mg ρ' H' d v → Dd.rt v H'
  | .ex e sl S' => ∀ C dd σ' ρ' H', Ext ρ H ρ' H' → WOk K mg ρ' H' S' → RSt K mg ρ' H' σ' sl → ExRep K mg ρ' H' e C dd → W C dd σ' H'
  | .bad => False
def trE (W : WX) (f : EX) : TE := fun σ H Q => ∃ ρ S sl, WOk K mg ρ H S ∧ RSt K mg ρ H σ sl ∧ PostE K mg (fun C d H' => W C d σ H') ρ H Q (f sl S)
def trS (W : WX) (f : SX) : TS := fun Dd σ H => ∃ ρ S sl, WOk K mg ρ H S ∧ RSt K mg ρ H σ sl ∧ PostS K mg W ρ H Dd (f sl S)
end
/-- e of the code is f on data -/
def E (X : Cx) (W : WX) (e : Expr) (f : EX) : Prop := PE X e (trE X.K X.mg W f)
section
variable {X : Cx}
theorem PE.imp {e : Expr} {t t' : TE} (h : PE X e t) (k : ∀ σ H Q, t' σ H Q → t σ H Q) : PE X e t' := ⟨fun pins s σ H Q I q => h.run pins s σ H Q I (k σ H Q q)⟩
theorem PA.imp {e : List Expr} {t t' : TA} (h : PA X e t) (k : ∀ σ H Q, t' σ H Q → t σ H Q) : PA X e t' := ⟨fun pos pins s σ H Q I q => h.run pos pins s σ H Q I (k σ H Q q)⟩
theorem PT.imp {e : Expr} {t t' : TT} (h : PT X e t) (k : ∀ σ H Q, t' σ H Q → t σ H Q) : PT X e t' := ⟨fun pins s σ H Q I q => h.run pins s σ H Q I (k σ H Q q)⟩
theorem PS.imp {e : Stmt} {t t' : TS} (h : PS X e t) (k : ∀ D σ H, t' D σ H → t D σ H) : PS X e t' := ⟨fun pins s σ H D I q => h.run pins s σ H D I (k D σ H q)⟩
theorem PSs.imp {e : List Stmt} {t t' : TS} (h : PSs X e t) (k : ∀ D σ H, t' D σ H → t D σ H) : PSs X e t' := ⟨fun pins s σ H D I q => h.run pins s σ H D I (k D σ H q)⟩
end
section
variable {K : PySem.W.Frag} {mg : Str → Option Value} {ρ ρ' : List Addr} {H H' : Hp}
variable {W : Value → Option Addr → Hp → Prop}
theorem PostS.from {Wx : WX} {Dd : Ends} {o : SO} (x : Ext ρ H ρ' H') (h : PostS K mg Wx ρ H Dd o) : PostS K mg Wx ρ' H' Dd o := by
  cases o with
  | nx sl S => exact fun σ ρ2 H2 y w r => h σ ρ2 H2 (x.trans y) w r
  | bk sl S => exact fun σ ρ2 H2 y w r => h σ ρ2 H2 (x.trans y) w r
  | ct sl S => exact fun σ ρ2 H2 y w r => h σ ρ2 H2 (x.trans y) w r
  | rt d S => exact fun v ρ2 H2 y w r => h v ρ2 H2 (x.trans y) w r
  | ex e sl S => exact fun C dd σ ρ2 H2 y w r1 r2 => h C dd σ ρ2 H2 (x.trans y) w r1 r2
  | bad => exact h
end
end Z
namespace Z
open PySem PySem.Spec L2
def eName (i : Nat) : EX := fun sl S => match sl[i]? with
  | some (some d) => .ok d S
  | _ => .bad
def eLit (d : D) : EX := fun _ S => .ok d S
abbrev Sem2 := D → D → Store → Out D
abbrev Sem1 := D → Store → Out D
abbrev SemL := List D → Store → Out D
def eBin (sem : Sem2) (fa fb : EX) : EX := fun sl S => (fa sl S).bind fun d S1 => (fb sl S1).bind fun e S2 => sem d e S2
def eUn (sem : Sem1) (fa : EX) : EX := fun sl S => (fa sl S).bind sem
def eArgs (sem : SemL) (fa : AX) : EX := fun sl S => (fa sl S).bind sem
def aNil : AX := fun _ S => .ok [] S
def aCons (f : EX) (g : AX) : AX := fun sl S => (f sl S).bind fun d S1 => (g sl S1).bind fun ds S2 => .ok (d :: ds) S2
def orS2 (f g : Sem2) : Sem2 := fun d e S => match f d e S with
  | .bad => g d e S
  | r => r
def orS1 (f g : Sem1) : Sem1 := fun d S => match f d S with
  | .bad => g d S
  | r => r
def orSL (f g : SemL) : SemL := fun d S => match f d S with
  | .bad => g d S
  | r => r
/-- a value that is a bool, as a test -/
def bVal (f : EX) : BX := fun sl S => (f sl S).bind fun d S1 => match d with
  | .bl b => .ok b S1
  | _ => .bad
def bNot (f : BX) : BX := fun sl S => (f sl S).bind fun b S1 => .ok (!b) S1
def bAnd (f g : BX) : BX := fun sl S => (f sl S).bind fun b S1 => if b = true then g sl S1 else .ok false S1
def bOr (f g : BX) : BX := fun sl S => (f sl S).bind fun b S1 => if b = true then .ok true S1 else g sl S1
def eAnd (f g : EX) : EX := fun sl S => (f sl S).bind fun d S1 => match d with
  | .bl true => g sl S1
  | .bl false => .ok (.bl false) S1
  | _ => .bad
def eOr (f g : EX) : EX := fun sl S => (f sl S).bind fun d S1 => match d with
  | .bl true => .ok (.bl true) S1
  | .bl false => g sl S1
  | _ => .bad
def eNot (f : EX) : EX := fun sl S => (f sl S).bind fun d S1 => match d with
  | .bl b => .ok (.bl (!b)) S1
  | _ => .bad
def eIf (c : BX) (f g : EX) : EX := fun sl S => (c sl S).bind fun b S1 => if b = true then f sl S1 else g sl S1
/-- a < b < c -/
def eChain (s1 s2 : Sem2) (fa fb fc : EX) : EX := fun sl S => (fa sl S).bind fun d S1 => (fb sl S1).bind fun e S2 => (s1 d e S2).bind fun r S3 => match r with
  | .bl true => (fc sl S3).bind fun g S4 => s2 e g S4
  | .bl false => .ok (.bl false) S3
  | _ => .bad
section
variable {X : Cx} {W : WX}
/-- an operator by data; it raises nothing -/
structure OpD (X : Cx) (f : Value → Value → Sem Value) (sem : Sem2) : Prop where
  go : ∃ r : R2, OpR X f r ∧ ∀ (Wp : Value → Option Addr → Hp → Prop) (ρ : List Addr) (H : Hp) (S : Store) (d e : D) (x y : V) (Q : VK), WOk X.K X.mg ρ H S → Rep X.K X.mg ρ H d x → Rep X.K X.mg ρ H e y → PostE X.K X.mg Wp ρ H Q (sem d e S) → r x y H Q
structure UnD (X : Cx) (f : Value → Sem Value) (sem : Sem1) : Prop where
  go : ∃ r : V → Hp → VK → Prop, UnR X f r ∧ ∀ (Wp : Value → Option Addr → Hp → Prop) (ρ : List Addr) (H : Hp) (S : Store) (d : D) (x : V) (Q : VK), WOk X.K X.mg ρ H S → Rep X.K X.mg ρ H d x → PostE X.K X.mg Wp ρ H Q (sem d S) → r x H Q
structure CallD (X : Cx) (f : Value) (sem : SemL) : Prop where
  go : ∃ r : List V → Hp → VK → Prop, CallR X f r ∧ ∀ (Wp : Value → Option Addr → Hp → Prop) (ρ : List Addr) (H : Hp) (S : Store) (ds : List D) (xs : List V) (Q : VK), WOk X.K X.mg ρ H S → RepL X.K X.mg ρ H ds xs → PostE X.K X.mg Wp ρ H Q (sem ds S) → r xs H Q
theorem PostE.mono {K : PySem.W.Frag} {mg : Str → Option Value} {Wp : Value → Option Addr → Hp → Prop} {ρ : List Addr} {H : Hp} {Q Q' : VK} {o : Out D} (h : PostE K mg Wp ρ H Q o) (k : ∀ v H', Q v H' → Q' v H') : PostE K mg Wp ρ H Q' o := by
  cases o with
  | ok d S => exact fun v ρ' H' x w r => k _ _ (h v ρ' H' x w r)
  | ex e S => exact h
  | bad => exact h
theorem PostA.mono {K : PySem.W.Frag} {mg : Str → Option Value} {Wp : Value → Option Addr → Hp → Prop} {ρ : List Addr} {H : Hp} {Q Q' : List V → Hp → Prop} {o : Out (List D)} (h : PostA K mg Wp ρ H Q o) (k : ∀ v H', Q v H' → Q' v H') : PostA K mg Wp ρ H Q' o := by
  cases o with
  | ok d S => exact fun v ρ' H' x w r => k _ _ (h v ρ' H' x w r)
  | ex e S => exact h
  | bad => exact h
theorem PostB.mono {K : PySem.W.Frag} {mg : Str → Option Value} {Wp : Value → Option Addr → Hp → Prop} {ρ : List Addr} {H : Hp} {Q Q' : Bool → Hp → Prop} {o : Out Bool} (h : PostB K mg Wp ρ H Q o) (k : ∀ v H', Q v H' → Q' v H') : PostB K mg Wp ρ H Q' o := by
  cases o with
  | ok d S => exact fun ρ' H' x w => k _ _ (h ρ' H' x w)
  | ex e S => exact h
  | bad => exact h
variable {a b c : Expr} {fa fb fc : EX} {pos : Pos}
theorem PW.imp {e : Expr} {t t' : TT} (h : PW X e t) (k : ∀ σ H Q, t' σ H Q → t σ H Q) : PW X e t' := ⟨fun wh pins s σ H Q I q => h.run wh pins s σ H Q I (k σ H Q q)⟩
variable {ga gb : BX} {rest : List Expr}
end
section
variable {K : PySem.W.Frag} {mg : Str → Option Value} {ρ : List Addr} {H : Hp} {S : Store}
theorem WOk.nin (w : WOk K mg ρ H S) {p : Addr} (hp : H p = none) : p ∉ ρ := fun q => w.tr p q hp
theorem MRep.ext {ρ' : List Addr} {H' : Hp} (x : Ext ρ H ρ' H') {a : Addr} {m : MO} (e : H' a = H a) (h : MRep K mg ρ H a m) : MRep K mg ρ' H' a m := by
  cases m with
  | lst ds =>
    obtain ⟨vs, h1, h2⟩ := h
    exact ⟨vs, e.trans h1, h2.ext x⟩
  | dct lk ks ds =>
    obtain ⟨kvs, h1, h2, h3⟩ := h
    refine ⟨kvs, ?_, h2.ext x, h3.ext x⟩
    cases lk with
    | true =>
      rw [if_pos rfl] at h1 ⊢
      rcases h1 with h1 | ⟨o, h1⟩
      · exact .inl (e.trans h1)
      · exact .inr ⟨o, e.trans h1⟩
    | false =>
      rw [if_neg Bool.false_ne_true] at h1 ⊢
      exact e.trans h1
  | ins c ns ds =>
    obtain ⟨C, dx, fs, h0, h1, h2, h3⟩ := h
    exact ⟨C, dx, fs, h0, e.trans h1, h2, h3.ext x⟩
  | tab P q =>
    obtain ⟨hP, ps, h1, h2, h3⟩ := h
    refine ⟨hP, ps, e.trans h1, h2, fun pos cv hc => ?_⟩
    obtain ⟨c, e1, n, e2⟩ := h3 pos cv hc
    exact ⟨c, e1, x.nin n e2, x.kept n e2 (by intros; nofun)⟩
end
/-- as a handle -/
def semTup : SemL := fun ds S => if ds.length ≤ 1000000 then .ok (.tup ds) S else .bad
def semLst : SemL := fun ds S => if ds.length ≤ 1000000 then .ok (.lst ds) S else .bad
def semLstH : SemL := fun ds S => if ds.length ≤ 1000000 then .ok (.ptr S.length) (S ++ [.lst ds]) else .bad
end Z
namespace Z
open PySem PySem.Spec L2
def Out.toS {α : Type} (o : Out α) (sl : Sl) (k : α → Store → SO) : SO := match o with
  | .ok a S => k a S
  | .ex e S => .ex e sl S
  | .bad => .bad
def sNil : SX := fun sl S => .nx sl S
def sBad : SX := fun _ _ => .bad
def sBrk : SX := fun sl S => .bk sl S
def sCnt : SX := fun sl S => .ct sl S
def SO.then (o : SO) (g : SX) : SO := match o with
  | .nx sl S => g sl S
  | r => r
def sSeq (f g : SX) : SX := fun sl S => (f sl S).then g
def sExp (f : EX) : SX := fun sl S => (f sl S).toS sl fun _ S' => .nx sl S'
def sRet (f : EX) : SX := fun sl S => (f sl S).toS sl fun d S' => .rt d S'
def sRetN : SX := fun _ S => .rt .non S
def sIf (c : BX) (f g : SX) : SX := fun sl S => (c sl S).toS sl fun b S' => if b = true then f sl S' else g sl S'
/-- a target -/
abbrev GX := D → Sl → Store → SO
def gSet (i : Nat) : GX := fun d sl S => .nx (sl.set i (some d)) S
abbrev GXs := List D → Sl → Store → SO
def gNilX : GXs := fun ds sl S => match ds with
  | [] => .nx sl S
  | _ => .bad
def gConsX (g : GX) (gs : GXs) : GXs := fun ds sl S => match ds with
  | d :: r => (g d sl S).then (gs r)
  | [] => .bad
def asL (S : Store) : D → Option (List D)
  | .lst ds => some ds
  | .ptr n => match S[n]? with
    | some (.lst ds) => some ds
    | _ => none
  | _ => none
def gTupX (gs : GXs) : GX := fun d sl S => match d with
  | .tup ds => gs ds sl S
  | .tpx ds => gs ds sl S
  | _ => .bad
def sAsg (f : EX) (g : GX) : SX := fun sl S => (f sl S).toS sl fun d S' => g d sl S'
/-- a, b = x, y -/
def sPar (i j : Nat) (f : AX) : SX := fun sl S => (f sl S).toS sl fun ds S' => match ds with
  | [d, e] => .nx ((sl.set i (some d)).set j (some e)) S'
  | _ => .bad
/-- what is walked: its items, what must stay -/
abbrev IX := Sl → Store → Out (List D × (Store → Prop))
section
variable {K : PySem.W.Frag} {mg : Str → Option Value} {ρ : List Addr} {H : Hp} {S : Store}
theorem RSt.set {σ : L2.St} {sl : Sl} (r : RSt K mg ρ H σ sl) {d : D} {v : V} (h : Rep K mg ρ H d v) (i : Nat) : RSt K mg ρ H (σ.set i (some v)) (sl.set i (some d)) := by
  refine ⟨by simp [r.len], fun j e q => ?_⟩
  by_cases hj : j = i
  · subst hj
    by_cases hl : j < sl.length
    · rw [List.getElem?_set_self hl] at q
      cases q
      exact ⟨v, List.getElem?_set_self (by rw [r.len]; exact hl), h⟩
    · rw [List.getElem?_eq_none (by simpa using hl)] at q; cases q
  · rw [List.getElem?_set_ne (Ne.symm hj)] at q ⊢
    exact r.at_ j e q
theorem PostS.mono {W : WX} {Da Db : Ends} {o : SO} (h : PostS K mg W ρ H Da o) (k1 : ∀ σ H, Da.nx σ H → Db.nx σ H) (k2 : ∀ v H, Da.rt v H → Db.rt v H) (k3 : ∀ σ H, Da.bk σ H → Db.bk σ H) (k4 : ∀ σ H, Da.ct σ H → Db.ct σ H) : PostS K mg W ρ H Db o := by
  cases o with
  | nx sl S => exact fun σ ρ2 H2 y w r => k1 _ _ (h σ ρ2 H2 y w r)
  | bk sl S => exact fun σ ρ2 H2 y w r => k3 _ _ (h σ ρ2 H2 y w r)
  | ct sl S => exact fun σ ρ2 H2 y w r => k4 _ _ (h σ ρ2 H2 y w r)
  | rt d S => exact fun v ρ2 H2 y w r => k2 _ _ (h v ρ2 H2 y w r)
  | ex e sl S => exact h
  | bad => exact h
theorem PostS.seq {W : WX} {Dd : Ends} {o : SO} {g : SX} (h : PostS K mg W ρ H Dd (o.then g)) : PostS K mg W ρ H { Dd with nx := fun σ H' => trS K mg W g Dd σ H' } o := by
  cases o with
  | nx sl S => exact fun σ ρ2 H2 y w r => ⟨ρ2, S, sl, w, r, PostS.from y h⟩
  | bk sl S => exact h
  | ct sl S => exact h
  | rt d S => exact h
  | ex e sl S => exact h
  | bad => exact h
end
section
variable {X : Cx} {W : WX} {st : Stmt} {rest : List Stmt} {f g : SX} {e : Expr} {fe : EX} {pos : Pos}
theorem PG.imp {tg : Expr} {t t' : TG} (h : PG X tg t) (k : ∀ v σ H Q, t' v σ H Q → t v σ H Q) : PG X tg t' := ⟨fun pins s σ H v u Q I r q => h.run pins s σ H v u Q I r (k v σ H Q q)⟩
theorem PGs.imp {tg : List Expr} {t t' : TGs} (h : PGs X tg t) (k : ∀ v σ H Q, t' v σ H Q → t v σ H Q) : PGs X tg t' := ⟨fun pins s σ H v u Q I r q => h.run pins s σ H v u Q I r (k v σ H Q q)⟩
end
theorem PI.imp {X : Cx} {tg e : Expr} {t t' : TI} (h : PI X tg e t) (k : ∀ σ H R, t' σ H R → t σ H R) : PI X tg e t' := ⟨fun pins s σ H R I q => h.run pins s σ H R I (k σ H R q)⟩
end Z
namespace Z
open PySem PySem.Spec L2 PyProof.Rows
/-- the contexts behind an exception: things of the ground B that nobody tracks -/
inductive Chain (B : Heap) (H : Hp) : Value → Prop
  | nil : Chain B H .none
  | cons {b : Addr} {o : Obj} {vs : Array Value} {c : Value} (h : B.get? b = some o) (n : H b = none) (hd : o.data = .fields vs) (hc : vs[2]? = some c) (r : Chain B H c) : Chain B H (.ref b)
/-- what is kept of an exception's object: class, dict, and that its contexts end -/
def Zk (B : Heap) (H : Hp) (cls : Value) (d : Option Addr) : Obj → Prop := fun o => o.cls = cls ∧ o.dict = d ∧ ∀ vs, o.data = .fields vs → ∃ c, vs[2]? = some c ∧ Chain B H c
/-- an exception in the air of X: sI is the state without it -/
def XE (X : Cx) (W : WX) (u : Value) (s' : Shared) : Prop :=
  ∃ (a : Addr) (B : Heap) (sI : Shared) (pins : List (Addr × Obj)) (σ : L2.St) (H : Hp) (cls : Value) (d : Option Addr),
    u = .ref a ∧ Inv X pins σ H sI ∧ (∀ b o, sI.heap.get? b = some o → b ∉ frs X.stack → B.get? b = some o) ∧ sI.heap.UpToSlots s'.heap ∧
      Sky B X.stack a (Zk B H cls d) X.env.locals s'.heap ∧ H a = none ∧ s'.os = sI.os ∧ AllBare s'.gens ∧ W cls d σ H
def Takes (X : Cx) (W : WX) : Prop := ∀ u s', XE X W u s' → X.xe u s'
theorem Takes.imp {X : Cx} {W W' : WX} (t : Takes X W) (h : ∀ c d σ H, W' c d σ H → W c d σ H) : Takes X W' := fun u s' ⟨a, B, sI, pins, σ, H, cls, d, e, I, nb, up, sky, na, os, ag, w⟩ =>
  t u s' ⟨a, B, sI, pins, σ, H, cls, d, e, I, nb, up, sky, na, os, ag, h _ _ _ _ w⟩
/-- behind a call that let an exception out -/
def CX (P : Program) (w : World) (outer : List Env) (H : Hp) (s : Shared) (E : XK) (u : Value) (s' : Shared) : Prop :=
  ∃ (a : Addr) (B : Heap) (H' : Hp) (cls : Value) (d : Option Addr), u = .ref a ∧ HandSPX.FlyingZ B outer a (Zk B H' cls d) s'.heap ∧ HOk P w H' B ∧ UB (frs outer) H H' s.heap B s'.heap ∧ H' a = none ∧ s'.os = s.os ∧ AllBare s'.gens ∧ E cls d H'
section
variable {X : Cx} {pins : List (Addr × Obj)} {σ : L2.St} {H : Hp} {sI s s' : Shared} {B : Heap} {W : WX} {E : XK}
/-- a new exception is in our air -/
theorem XE.new {a : Addr} {oe : Obj} {vs : Array Value} {cls : Value} {d : Option Addr} (I : Inv X pins σ H sI) (k : ∀ b o, sI.heap.get? b = some o → s'.heap.get? b = some o) (hne : sI.heap.get? a = none) (he : s'.heap.get? a = some oe)
    (hz : Zk (PySem.W.hideAll sI.heap (frs X.stack)) H cls d oe) (hd : oe.data = .fields vs) (h1 : vs[1]? = some .none) (na : H a = none) (os : s'.os = sI.os) (ag : AllBare s'.gens) (w : W cls d σ H) : Z.XE X W (.ref a) s' := by
  refine ⟨a, PySem.W.hideAll sI.heap (frs X.stack), sI, pins, σ, H, cls, d, rfl, I, fun b o e hb => PySem.W.hideAll_get _ e hb, Heap.UpToSlots.of_keeps k,
    .inl ⟨fun b o e => k b o (PySem.W.of_hideAll _ e), ?_, ?_, oe, vs, he, hz, hd, h1⟩, na, os, ag, w⟩
  · cases q : (PySem.W.hideAll sI.heap (frs X.stack)).get? a with
    | none => rfl
    | some o =>
      have z := PySem.W.of_hideAll _ q
      rw [hne] at z; cases z
  · exact Heap.FunFrames.of_keeps (fun b o e _ => ⟨o, k b o e, rfl⟩) (funFrames_none I.stack fun b hb => PySem.W.hideAll_none _ hb)
end
end Z
namespace Z
open PySem PySem.Spec L2
mutual
def frzD (g : Nat → Option D) : D → Option D
  | .tup xs => (frzL g xs).map .tup
  | .tpx xs => (frzL g xs).map .tpx
  | .lst xs => (frzL g xs).map .lst
  | .dct ks vs => match frzL g ks, frzL g vs with
    | some a, some b => some (.dct a b)
    | _, _ => none
  | .ins c ns vs => (frzL g vs).map (.ins c ns)
  | .ptr n => g n
  | .non => some .non
  | .bl b => some (.bl b)
  | .int i => some (.int i)
  | .str s => some (.str s)
  | .ty n => some (.ty n)
  | .cls c => some (.cls c)
  | .scr xs => some (.scr xs)
  | .exc c ns vs => (frzL g vs).map (.exc c ns)
  | .lam T clo => some (.lam T clo)
  | .lamc T caps => (frzL g caps).map (.lamc T)
def frzL (g : Nat → Option D) : List D → Option (List D)
  | [] => some []
  | d :: ds => match frzD g d, frzL g ds with
    | some a, some b => some (a :: b)
    | _, _ => none
end
def frzP (S : Store) (k : Nat) : Nat → Nat → Option D
  | 0, n => if n < k then some (.ptr n) else none
  | f + 1, n => if n < k then some (.ptr n) else match S[n]? with
    | some (.lst ds) => (frzL (frzP S k f) ds).map .lst
    | some (.dct false ks vs) => match frzL (frzP S k f) ks, frzL (frzP S k f) vs with
      | some a, some b => some (.dct a b)
      | _, _ => none
    | some (.ins c ns vs) => (frzL (frzP S k f) vs).map (.ins c ns)
    | _ => none
mutual
/-- every handle in it is below k -/
def under (k : Nat) : D → Bool
  | .tup xs => underL k xs
  | .tpx xs => underL k xs
  | .lst xs => underL k xs
  | .dct ks vs => underL k ks && underL k vs
  | .ins _ _ vs => underL k vs
  | .ptr n => decide (n < k)
  | .non => true
  | .bl _ => true
  | .int _ => true
  | .str _ => true
  | .ty _ => true
  | .cls _ => true
  | .scr _ => true
  | .exc _ _ vs => underL k vs
  | .lam _ _ => true
  | .lamc _ vs => underL k vs
def underL (k : Nat) : List D → Bool
  | [] => true
  | d :: ds => under k d && underL k ds
end
def underM (k : Nat) : MO → Bool
  | .lst xs => underL k xs
  | .dct _ ks vs => underL k ks && underL k vs
  | .ins _ _ vs => underL k vs
  | .tab _ _ => true
/-- what stood is as it was, or speaks of what stood -/
def Closed (S S' : Store) : Prop := ∀ (i : Nat) (m : MO), i < S.length → S'[i]? = some m → S[i]? = some m ∨ underM S.length m = true
noncomputable def fin (S : Store) : Out D → Out D
  | .ok d S' => open Classical in if Closed S S' then (match frzD (frzP S' S.length 6) d with
    | some d' => .ok d' (S'.take S.length)
    | none => .bad) else .bad
  | .ex d S' => open Classical in if Closed S S' then (match frzD (frzP S' S.length 6) d with
    | some d' => .ex d' (S'.take S.length)
    | none => .bad) else .bad
  | .bad => .bad
section
variable {K : PySem.W.Frag} {mg : Str → Option Value} {ρ ρ' : List Addr} {H : Hp} {S S' : Store}
theorem LamAt.sub (hs : ∀ a, a ∉ ρ' → a ∉ ρ) {f : Addr} {T : LamText} {clo : List (Str × Addr)} (h : LamAt ρ' H f T clo) : LamAt ρ H f T clo := by
  obtain ⟨n, hκ, pm, doc, dV, ctv, c', h1, nc, h2, h3⟩ := h
  refine ⟨hs _ n, hκ, pm, doc, dV, ctv, c', h1, hs _ nc, h2, ?_⟩
  rcases h3 with h | ⟨n, t, e, nt, ht⟩
  · exact .inl h
  · exact .inr ⟨n, t, e, hs _ nt, ht⟩
theorem CellsAt.sub (hs : ∀ a, a ∉ ρ' → a ∉ ρ) {clo : List (Str × Addr)} : ∀ {ns : List Str} {vs : List V}, CellsAt ρ' H clo ns vs → CellsAt ρ H clo ns vs
  | [], _, h => h
  | n :: ns, _, ⟨v, r, c, o, u, e, h1, n1, h2, h3, h4, hd, h5⟩ => ⟨v, r, c, o, u, e, h1, hs _ n1, h2, h3, h4, hd, CellsAt.sub hs h5⟩
mutual
theorem frzD_rep {g : Nat → Option D} (hg : ∀ (n : Nat) d' a, g n = some d' → ρ'[n]? = some a → Rep K mg ρ H d' (.ref a)) (hs : ∀ a, a ∉ ρ' → a ∉ ρ) : ∀ (d d' : D) (v : V), frzD g d = some d' → Rep K mg ρ' H d v → Rep K mg ρ H d' v
  | .non, d', v, e, h => by cases e; rw [Rep] at h ⊢; exact h
  | .bl b, d', v, e, h => by cases e; rw [Rep] at h ⊢; exact h
  | .int b, d', v, e, h => by cases e; rw [Rep] at h ⊢; exact h
  | .str b, d', v, e, h => by cases e; rw [Rep] at h ⊢; exact h
  | .ty b, d', v, e, h => by cases e; rw [Rep] at h ⊢; exact h
  | .cls b, d', v, e, h => by cases e; rw [Rep] at h ⊢; exact h
  | .tup xs, d', v, e, h => by
    rw [frzD] at e
    obtain ⟨ys, e1, e2⟩ := Option.map_eq_some_iff.mp e
    subst e2
    rw [Rep] at h ⊢
    obtain ⟨a, vs, e3, t, r⟩ := h
    refine ⟨a, vs, e3, ?_, frzL_rep hg hs xs ys vs e1 r⟩
    rcases t with ⟨n, t⟩ | t
    · exact .inl ⟨hs a n, t⟩
    · exact .inr t
  | .tpx xs, d', v, e, h => by
    rw [frzD] at e
    obtain ⟨ys, e1, e2⟩ := Option.map_eq_some_iff.mp e
    subst e2
    rw [Rep] at h ⊢
    obtain ⟨a, vs, e3, t, r⟩ := h
    exact ⟨a, vs, e3, ⟨hs a t.1, t.2⟩, frzL_rep hg hs xs ys vs e1 r⟩
  | .lst xs, d', v, e, h => by
    rw [frzD] at e
    obtain ⟨ys, e1, e2⟩ := Option.map_eq_some_iff.mp e
    subst e2
    rw [Rep] at h ⊢
    obtain ⟨a, vs, e3, t, r⟩ := h
    exact ⟨a, vs, e3, ⟨hs a t.1, t.2⟩, frzL_rep hg hs xs ys vs e1 r⟩
  | .scr xs, d', v, e, h => by
    cases e
    rw [Rep] at h ⊢
    obtain ⟨a, e3, t⟩ := h
    refine ⟨a, e3, ?_⟩
    rcases t with ⟨n, t⟩ | t
    · exact .inl ⟨hs a n, t⟩
    · exact .inr t
  | .dct ks ds, d', v, e, h => by
    rw [frzD] at e
    split at e
    · rename_i a b ea eb
      cases e
      rw [Rep] at h ⊢
      obtain ⟨p, kv, vs, e3, ⟨n, t⟩, r1, r2⟩ := h
      exact ⟨p, kv, vs, e3, ⟨hs p n, t⟩, frzL_rep hg hs ks a kv ea r1, frzL_rep hg hs ds b vs eb r2⟩
    · cases e
  | .ins c ns ds, d', v, e, h => by
    rw [frzD] at e
    obtain ⟨ys, e1, e2⟩ := Option.map_eq_some_iff.mp e
    subst e2
    rw [Rep] at h ⊢
    obtain ⟨a, C, dx, fs, e3, n, hm, ha, hn, r⟩ := h
    exact ⟨a, C, dx, fs, e3, hs a n, hm, ha, hn, frzL_rep hg hs ds ys _ e1 r⟩
  | .ptr n, d', v, e, h => by
    rw [frzD] at e
    rw [Rep] at h
    obtain ⟨a, e3, q⟩ := h
    subst e3
    exact hg n d' a e q
  | .exc c ns ds, d', v, e, h => by
    rw [frzD] at e
    obtain ⟨ys, e1, e2⟩ := Option.map_eq_some_iff.mp e
    subst e2
    rw [Rep] at h ⊢
    obtain ⟨a, C, dx, fs, e3, n, nd, hm, ha, hd, hn, r⟩ := h
    exact ⟨a, C, dx, fs, e3, hs a n, hs dx nd, hm, ha, hd, hn, frzL_rep hg hs ds ys _ e1 r⟩
  | .lam T clo, d', v, e, h => by
    cases e
    rw [Rep] at h ⊢
    obtain ⟨f, e, h⟩ := h
    exact ⟨f, e, h.sub hs⟩
  | .lamc T caps, d', v, e, h => by
    rw [frzD] at e
    obtain ⟨ys, e1, e2⟩ := Option.map_eq_some_iff.mp e
    subst e2
    rw [Rep] at h ⊢
    obtain ⟨f, clo, vs, e3, h1, h2, r⟩ := h
    exact ⟨f, clo, vs, e3, h1.sub hs, h2.sub hs, frzL_rep hg hs caps ys _ e1 r⟩
theorem frzL_rep {g : Nat → Option D} (hg : ∀ (n : Nat) d' a, g n = some d' → ρ'[n]? = some a → Rep K mg ρ H d' (.ref a)) (hs : ∀ a, a ∉ ρ' → a ∉ ρ) : ∀ (ds ds' : List D) (vs : List V), frzL g ds = some ds' → RepL K mg ρ' H ds vs → RepL K mg ρ H ds' vs
  | [], ds', vs, e, h => by
    rw [frzL] at e; cases e
    rw [RepL] at h ⊢; exact h
  | d :: ds, ds', vs, e, h => by
    rw [frzL] at e
    split at e
    · rename_i a b ea eb
      cases e
      rw [RepL] at h ⊢
      obtain ⟨v, r, e3, h1, h2⟩ := h
      exact ⟨v, r, e3, frzD_rep hg hs d a v ea h1, frzL_rep hg hs ds b r eb h2⟩
    · cases e
end
mutual
theorem frz_under {k : Nat} {g : Nat → Option D} (hg : ∀ n, n < k → g n = some (.ptr n)) : ∀ d : D, under k d = true → frzD g d = some d
  | .non, _ => rfl
  | .bl _, _ => rfl
  | .int _, _ => rfl
  | .str _, _ => rfl
  | .ty _, _ => rfl
  | .cls _, _ => rfl
  | .scr _, _ => rfl
  | .tup xs, h => by rw [under] at h; rw [frzD, frz_underL hg xs h]; rfl
  | .lst xs, h => by rw [under] at h; rw [frzD, frz_underL hg xs h]; rfl
  | .tpx xs, h => by rw [under] at h; rw [frzD, frz_underL hg xs h]; rfl
  | .dct ks vs, h => by
    rw [under, Bool.and_eq_true] at h
    rw [frzD, frz_underL hg ks h.1, frz_underL hg vs h.2]
  | .ins c ns vs, h => by rw [under] at h; rw [frzD, frz_underL hg vs h]; rfl
  | .ptr n, h => by rw [under] at h; rw [frzD]; exact hg n (of_decide_eq_true h)
  | .exc c ns vs, h => by rw [under] at h; rw [frzD, frz_underL hg vs h]; rfl
  | .lam _ _, _ => rfl
  | .lamc T vs, h => by rw [under] at h; rw [frzD, frz_underL hg vs h]; rfl
theorem frz_underL {k : Nat} {g : Nat → Option D} (hg : ∀ n, n < k → g n = some (.ptr n)) : ∀ ds : List D, underL k ds = true → frzL g ds = some ds
  | [], _ => rfl
  | d :: ds, h => by
    rw [underL, Bool.and_eq_true] at h
    rw [frzL, frz_under hg d h.1, frz_underL hg ds h.2]
end
theorem frzP_lt {k f n : Nat} (h : n < k) : frzP S k f n = some (.ptr n) := by
  cases f with
  | zero => rw [frzP, if_pos h]
  | succ f => rw [frzP, if_pos h]
/-- at the end: the handles behind ρ are forgotten -/
structure Back (K : PySem.W.Frag) (mg : Str → Option Value) (ρ ρ' : List Addr) (H : Hp) (S' : Store) : Prop where
  pre : ∃ t, ρ' = ρ ++ t
  w : WOk K mg ρ' H S'
theorem Back.sub (b : Back K mg ρ ρ' H S') : ∀ a, a ∉ ρ' → a ∉ ρ := fun a h q => by
  obtain ⟨t, e⟩ := b.pre
  exact h (by rw [e]; exact List.mem_append_left _ q)
theorem Back.out (b : Back K mg ρ ρ' H S') {n : Nat} {a : Addr} (h : ρ'[n]? = some a) (hn : ¬ n < ρ.length) : a ∉ ρ := fun q => by
  obtain ⟨t, e⟩ := b.pre
  have nd := b.w.nd
  rw [e] at h nd
  rw [List.getElem?_append_right (by omega)] at h
  exact (List.nodup_append.mp nd).2.2 a q a (List.mem_of_getElem? h) rfl
theorem Back.in_ (b : Back K mg ρ ρ' H S') {n : Nat} {a : Addr} (h : ρ'[n]? = some a) (hn : n < ρ.length) : ρ[n]? = some a := by
  obtain ⟨t, e⟩ := b.pre
  rw [e, List.getElem?_append_left hn] at h
  exact h
theorem Back.frz (b : Back K mg ρ ρ' H S') : ∀ (f n : Nat) (d' : D) (a : Addr), frzP S' ρ.length f n = some d' → ρ'[n]? = some a → Rep K mg ρ H d' (.ref a) := by
  intro f
  induction f with
  | zero =>
    intro n d' a e h
    rw [frzP] at e
    split at e
    · rename_i hn
      cases e
      rw [Rep]
      exact ⟨a, rfl, b.in_ h hn⟩
    · cases e
  | succ f ih =>
    intro n d' a e h
    rw [frzP] at e
    split at e
    · rename_i hn
      cases e
      rw [Rep]
      exact ⟨a, rfl, b.in_ h hn⟩
    · rename_i hn
      have hout := b.out h hn
      split at e
      · rename_i ds em
        obtain ⟨vs, h1, r⟩ := b.w.ob n a _ h em
        obtain ⟨ys, e1, e2⟩ := Option.map_eq_some_iff.mp e
        subst e2
        rw [Rep]
        exact ⟨a, vs, rfl, ⟨hout, h1⟩, frzL_rep (fun n d' a => ih n d' a) b.sub ds ys vs e1 r⟩
      · rename_i ks ds em
        obtain ⟨kvs, h1, r1, r2⟩ := b.w.ob n a _ h em
        rw [if_neg Bool.false_ne_true] at h1
        split at e
        · rename_i x y ex ey
          cases e
          rw [Rep]
          exact ⟨a, _, _, rfl, ⟨hout, kvs, .inl h1, rfl, rfl⟩, frzL_rep (fun n d' a => ih n d' a) b.sub ks x _ ex r1, frzL_rep (fun n d' a => ih n d' a) b.sub ds y _ ey r2⟩
        · cases e
      · rename_i c ns ds em
        obtain ⟨C, dx, fs, hm, h1, hn', r⟩ := b.w.ob n a _ h em
        obtain ⟨ys, e1, e2⟩ := Option.map_eq_some_iff.mp e
        subst e2
        rw [Rep]
        exact ⟨a, C, dx, fs, rfl, hout, hm, h1, hn', frzL_rep (fun n d' a => ih n d' a) b.sub ds ys _ e1 r⟩
      · cases e
end
def SO.out : SO → Out D
  | .nx _ S => .ok .non S
  | .rt d S => .ok d S
  | .ex e _ S => .ex e S
  | _ => .bad
/-- a def by its body: N names -/
noncomputable def defS (N : Nat) (body : SX) : SemL := fun ds S => fin S (body (ds.map some ++ List.replicate (N - ds.length) none) S).out
section
variable {X : Cx} {W : WX} {k n : Nat} {f C : Addr} {fd : FuncData} {ps : List Str} {g : SemL} {x m : Str} {p pos apos : Pos} {e o : Expr} {es : List Expr} {fa : AX} {fe : EX} {dvs : List V} {dfs : List Value} {dds : List D}
def fldsOf (S : Store) : D → Option (Str × List Str × List D)
  | .ins c ns vs => some (c, ns, vs)
  | .ptr n => match S[n]? with
    | some (.ins c ns vs) => some (c, ns, vs)
    | _ => none
  | _ => none
/-- e.f: a field -/
def lookN (f : Str) : List Str → List D → Option D
  | n :: ns, v :: vs => if f = n then some v else lookN f ns vs
  | _, _ => none
end
end Z
namespace Z
open PySem PySem.Spec L2
section
variable {K : PySem.W.Frag} {mg : Str → Option Value} {ρ : List Addr} {H : Hp} {S : Store}
/-- a list or a tuple that is read; a script too -/
def asS (S : Store) : D → Option (List D)
  | .tup ds => some ds
  | .tpx ds => some ds
  | .scr xs => some (xs.map .int)
  | d => asL S d
end
def iiS (g : Int → Int → D) : Sem2 := fun d e S => match d, e with
  | .int i, .int j => .ok (g i j) S
  | _, _ => .bad
def iiC (C : Int → Int → Bool) (g : Int → Int → D) : Sem2 := fun d e S => match d, e with
  | .int i, .int j => if C i j = true then .ok (g i j) S else .bad
  | _, _ => .bad
section
variable {X : Cx}
def addI : Sem2 := iiS fun i j => .int (i + j)
def subI : Sem2 := iiS fun i j => .int (i - j)
/-- below a million bits together -/
def mulB (i j : Int) : Bool := decide (i.natAbs.log2 + j.natAbs.log2 < 1000000)
def mulI : Sem2 := iiC mulB fun i j => .int (i * j)
def ltI : Sem2 := iiS fun i j => .bl (decide (i < j))
def leI : Sem2 := iiS fun i j => .bl (decide (i ≤ j))
def gtI : Sem2 := iiS fun i j => .bl (decide (j < i))
def geI : Sem2 := iiS fun i j => .bl (decide (j ≤ i))
def negI : Sem1 := fun d S => match d with
  | .int i => .ok (.int (-i)) S
  | _ => .bad
def addS : Sem2 := fun d e S => match d, e with
  | .str i, .str j => if i.length + j.length ≤ 1000000 then .ok (.str (i ++ j)) S else .bad
  | _, _ => .bad
def ltS : Sem2 := fun d e S => match d, e with
  | .str i, .str j => .ok (.bl (decide (i.cps.toList < j.cps.toList))) S
  | _, _ => .bad
/-- one sign in a text -/
def inSg (neg : Bool) : Sem2 := fun d e S => match d, e with
  | .str i, .str j => (match i.cps.toList with
    | [c] => .ok (.bl (if neg = true then !decide (c ∈ j.cps.toList) else decide (c ∈ j.cps.toList))) S
    | _ => .bad)
  | _, _ => .bad
mutual
def toP0 : D → Option PyData
  | .non => some .none
  | .bl b => some (.bool b)
  | .int i => some (.int i)
  | .str s => some (.str s)
  | .lst xs => (toPL0 xs).map .list
  | .tup xs => (toPL0 xs).map .tuple
  | .tpx xs => (toPL0 xs).map .tuple
  | _ => none
def toPL0 : List D → Option (List PyData)
  | [] => some []
  | d :: ds => match toP0 d, toPL0 ds with
    | some a, some b => some (a :: b)
    | _, _ => none
end
def toP (S : Store) : D → Option PyData
  | .ptr n => match S[n]? with
    | some (.lst ds) => (toPL0 ds).map .list
    | _ => none
  | d => toP0 d
def eqD (neg : Bool) : Sem2 := fun d e S => match toP S d, toP S e with
  | some a, some b => if SeqAt.shaped a = true ∧ SeqAt.shaped b = true then .ok (.bl (if neg = true then !PyData.eqv a b else PyData.eqv a b)) S else .bad
  | _, _ => .bad
/-- is None -/
def isNon : D → Bool
  | .non => true
  | _ => false
def isN (neg : Bool) : Sem2 := fun d e S => match e with
  | .non => .ok (.bl (if neg = true then !isNon d else isNon d)) S
  | _ => .bad
def addL : Sem2 := fun d e S => match asL S d, asL S e with
  | some a, some b => if a.length + b.length ≤ 1000000 then .ok (.lst (a ++ b)) S else .bad
  | _, _ => .bad
def addT : Sem2 := fun d e S => match d, e with
  | .tup a, .tup b => if a ≠ [] ∧ b ≠ [] ∧ a.length + b.length ≤ 1000000 then .ok (.tup (a ++ b)) S else .bad
  | _, _ => .bad
def repD (k : Nat) (xs : List D) : List D := (List.replicate k xs).flatten
def mulL : Sem2 := fun d e S => match asL S d, e with
  | some a, .int k => if k < 1000000 ∧ a.length * k.toNat ≤ 1000000 ∧ -1000000 ≤ k then .ok (.lst (repD k.toNat a)) S else .bad
  | _, _ => .bad
/-- x in a list or tuple of flat things -/
def flatD : D → Bool
  | .non => true
  | .bl _ => true
  | .int _ => true
  | .str _ => true
  | _ => false
def eqF : D → D → Bool
  | .non, .non => true
  | .bl a, .bl b => a == b
  | .bl a, .int j => (if a then 1 else 0) == j
  | .int i, .bl b => i == (if b then 1 else 0)
  | .int i, .int j => i == j
  | .str x, .str y => x == y
  | _, _ => false
end
end Z
namespace Z
open PySem PySem.Spec L2
section
variable {X : Cx}
def inD (x : D) (xs : List D) : Bool := xs.any fun y => eqF y x
def inSq (neg : Bool) : Sem2 := fun d e S => match asS S e with
  | some ds => if flatD d = true ∧ ds.all flatD = true then .ok (.bl (if neg = true then !inD d ds else inD d ds)) S else .bad
  | none => .bad
def semLen : SemL := fun ds S => match ds with
  | [.str s] => if s.length ≤ 1000000 then .ok (.int s.length) S else .bad
  | [d] => (match asS S d with
    | some xs => .ok (.int xs.length) S
    | none => .bad)
  | _ => .bad
inductive Kd where
  | non | bl | int | str | tup | lst | dct
  deriving DecidableEq
def Kd.name : Kd → String
  | .non => "NoneType"
  | .bl => "bool"
  | .int => "int"
  | .str => "str"
  | .tup => "tuple"
  | .lst => "list"
  | .dct => "dict"
def kdOf (S : Store) : D → Option Kd
  | .non => some .non
  | .bl _ => some .bl
  | .int _ => some .int
  | .str _ => some .str
  | .tup _ => some .tup
  | .tpx _ => some .tup
  | .lst _ => some .lst
  | .scr _ => some .lst
  | .dct _ _ => some .dct
  | .ptr n => match S[n]? with
    | some (.lst _) => some .lst
    | some (.dct _ _ _) => some .dct
    | _ => none
  | _ => none
def isKd (k : Kd) (T : String) : Option Bool :=
  if T = "int" then some (k = .int ∨ k = .bl) else if T = "bool" then some (k = .bl) else if T = "str" then some (k = .str) else if T = "list" then some (k = .lst) else if T = "tuple" then some (k = .tup) else if T = "dict" then some (k = .dct) else none
def semIsi : SemL := fun ds S => match ds with
  | [d, .ty T] => (match kdOf S d with
    | some k => (match isKd k T with
      | some b => .ok (.bl b) S
      | none => .bad)
    | none => .bad)
  | _ => .bad
/-- a tuple of types -/
def tysOf : List D → Option (List String)
  | [] => some []
  | .ty T :: r => (tysOf r).map (T :: ·)
  | _ :: _ => none
def isKds (k : Kd) : List String → Option Bool
  | [] => some false
  | T :: r => match isKd k T, isKds k r with
    | some b, some c => some (b || c)
    | _, _ => none
def semIsiT : SemL := fun ds S => match ds with
  | [d, .tup ts] => (match kdOf S d, tysOf ts with
    | some k, some Ts => (match isKds k Ts with
      | some b => .ok (.bl b) S
      | none => .bad)
    | _, _ => .bad)
  | _ => .bad
def boolsOf : List D → Option (List Bool)
  | [] => some []
  | .bl b :: r => (boolsOf r).map (b :: ·)
  | _ :: _ => none
def semAll : SemL := fun ds S => match ds with
  | [d] => (match asL S d with
    | some xs => (match boolsOf xs with
      | some bs => .ok (.bl (bs.all id)) S
      | none => .bad)
    | none => .bad)
  | _ => .bad
def semAny : SemL := fun ds S => match ds with
  | [d] => (match asL S d with
    | some xs => (match boolsOf xs with
      | some bs => .ok (.bl (bs.any id)) S
      | none => .bad)
    | none => .bad)
  | _ => .bad
def semListOf : SemL := fun ds S => match ds with
  | [d] => (match asS S d with
    | some xs => .ok (.lst xs) S
    | none => .bad)
  | _ => .bad
def semTupOf : SemL := fun ds S => match ds with
  | [.tup xs] => .ok (.tup xs) S
  | [.tpx xs] => .ok (.tpx xs) S
  | [d] => (match asL S d with
    | some xs => .ok (.tup xs) S
    | none => .bad)
  | _ => .bad
def semInt : SemL := fun ds S => match ds with
  | [.int i] => .ok (.int i) S
  | [.bl b] => .ok (.int (if b = true then 1 else 0)) S
  | _ => .bad
variable {W : WX} {a b : Expr} {fa fb : EX} {pos : Pos}
/-- a place among n, also from behind -/
def ixSeq : Sem2 := fun d e S => match e with
  | .int i => (match d with
    | .str s => if s.length ≤ 1000000 then (match atI s.cps.toList i with
      | some c => .ok (.str ⟨#[c]⟩) S
      | none => .bad) else .bad
    | d => (match asS S d with
      | some xs => (match atI xs i with
        | some x => .ok x S
        | none => .bad)
      | none => .bad))
  | _ => .bad
end
end Z
namespace Za
open PySem PySem.Spec PyProof.Rows L2
inductive Src where
  | L (a : Addr)
  | T (a : Addr)
  | S (x : Str)
def Src.val : Src → V
  | .L a => .ref a
  | .T a => .ref a
  | .S x => .str x
def Src.It (h : Heap) (it : Addr) : Src → Nat → Prop
  | .L a, i => h.IsListIter it a i
  | .T a, i => h.IsTupleIter it a i
  | .S x, i => ∃ t, h.IsStrIter it (strIterType x) x t i
theorem Src.It.keep {h h' : Heap} {it : Addr} {i : Nat} (k : ∀ o, h.get? it = some o → h'.get? it = some o) : ∀ {s : Src}, s.It h it i → s.It h' it i
  | .L a, st => st.at k
  | .T a, st => st.at k
  | .S x, st => by obtain ⟨t, o, e, r⟩ := st; exact ⟨t, o, k o e, r⟩
end Za
namespace Z
open PySem PySem.Spec L2
abbrev SemM := D → SemL
def eMet (ty : Store → D → Bool) (sem : SemM) (fo : EX) (fa : AX) : EX := fun sl S => (fo sl S).bind fun d S1 => if ty S1 d = true then (fa sl S1).bind fun ds S2 => sem d ds S2 else .bad
def tyStr (_ : Store) : D → Bool
  | .str _ => true
  | _ => false
section
variable {X : Cx} {W : WX}
variable {o e : Expr} {es : List Expr} {fo fe : EX} {fa : AX} {apos cpos pos : Pos} {name : Str} {T id : String} {sem : SemM} {ty : Store → D → Bool}
def semAppend : SemM := fun d ds S => match d, ds with
  | .ptr n, [e] => (match S[n]? with
    | some (.lst xs) => if xs.length < 1000000 then .ok .non (S.set n (.lst (xs ++ [e]))) else .bad
    | _ => .bad)
  | _, _ => .bad
def strsOf : List D → Option (List Str)
  | [] => some []
  | .str s :: r => (strsOf r).map (s :: ·)
  | _ :: _ => none
def semJoin : SemM := fun d ds S => match d, ds with
  | .str a, [e] => (match asS S e with
    | some xs => (match strsOf xs with
      | some ys => if (ys.map (·.length)).sum + ys.length * a.length ≤ 1000000 then .ok (.str (Txt.join a ys)) S else .bad
      | none => .bad)
    | none => .bad)
  | _, _ => .bad
end
end Z
namespace Z
open PySem PySem.Spec L2
def kD : Key → D
  | .inl i => .int i
  | .inr s => .str s
def keyD : D → Option Key
  | .int i => some (.inl i)
  | .str s => some (.inr s)
  | _ => none
@[simp] theorem keyD_kD (k : Key) : keyD (kD k) = some k := by cases k <;> rfl
def getK : List D → List D → Key → Option D
  | k :: ks, v :: vs, y => if keyD k = some y then some v else getK ks vs y
  | _, _, _ => none
def hasK (ks : List D) (y : Key) : Bool := ks.any fun k => decide (keyD k = some y)
def putV : List D → List D → Key → D → List D
  | k :: ks, v :: vs, y, d => (if keyD k = some y then d else v) :: putV ks vs y d
  | _, _, _, _ => []
def putKs (ks : List D) (y : Key) : List D := if hasK ks y = true then ks else ks ++ [kD y]
def putVs (ks vs : List D) (y : Key) (d : D) : List D := if hasK ks y = true then putV ks vs y d else vs ++ [d]
def asD (S : Store) : D → Option (List D × List D)
  | .dct ks vs => some (ks, vs)
  | .ptr n => match S[n]? with
    | some (.dct _ ks vs) => some (ks, vs)
    | _ => none
  | _ => none
section
variable {X : Cx}
/-- d[k] -/
def ixDct : Sem2 := fun d e S => match asD S d, keyD e with
  | some p, some k => (match getK p.1 p.2 k with
    | some v => .ok v S
    | none => .bad)
  | _, _ => .bad
/-- k in d -/
def inDct (neg : Bool) : Sem2 := fun e d S => match asD S d, keyD e with
  | some p, some k => .ok (.bl (if neg = true then !hasK p.1 k else hasK p.1 k)) S
  | _, _ => .bad
def semLenD : SemL := fun ds S => match ds with
  | [d] => (match asD S d with
    | some p => .ok (.int p.1.length) S
    | none => .bad)
  | _ => .bad
def setD (o i v : D) (S : Store) : Option Store := match o with
  | .ptr n => (match S[n]? with
    | some (.lst xs) => (match i with
      | .int k => (match ixN xs.length k with
        | some j => some (S.set n (.lst (xs.set j v)))
        | none => none)
      | _ => none)
    | some (.dct false ks vs) => (match keyD i with
      | some k => if ks.length < 1000000 then some (S.set n (.dct false (putKs ks k) (putVs ks vs k v))) else none
      | none => none)
    | _ => none)
  | _ => none
def gSubX (fo fi : EX) : GX := fun v sl S => match fo sl S with
  | .ok o S1 => (match fi sl S1 with
    | .ok i S2 => (match setD o i v S2 with
      | some S3 => .nx sl S3
      | none => .bad)
    | _ => .bad)
  | _ => .bad
end
end Z
namespace Z
open PySem PySem.Spec L2
def cutD (xs : List D) (lo hi : Option Int) : List D := (xs.drop (HT.sIx xs.length 0 lo)).take (HT.sIx xs.length xs.length hi - HT.sIx xs.length 0 lo)
def semSl (hand : Bool) : D → Option Int → Option Int → Store → Out D := fun d lo hi S => match d with
  | .str s => if s.length ≤ 1000000 then .ok (.str (cutS s lo hi)) S else .bad
  | .tup xs => .ok (.tup (cutD xs lo hi)) S
  | .tpx _ => .bad
  | d => (match asS S d with
    | some xs => if hand = true then .ok (.ptr S.length) (S ++ [.lst (cutD xs lo hi)]) else .ok (.lst (cutD xs lo hi)) S
    | none => .bad)
abbrev OX := Sl → Store → Out (Option Int)
def oNone : OX := fun _ S => .ok none S
def oInt (f : EX) : OX := fun sl S => (f sl S).bind fun d S1 => match d with
  | .int i => .ok (some i) S1
  | _ => .bad
def eSl (hand : Bool) (fa : EX) (fl fu : OX) : EX := fun sl S => (fa sl S).bind fun d S1 => (fl sl S1).bind fun l S2 => (fu sl S2).bind fun u S3 => semSl hand d l u S3
section
variable {K : PySem.W.Frag} {mg : Str → Option Value} {ρ ρ' : List Addr} {H H' : Hp} {W : Value → Option Addr → Hp → Prop}
def PostO (K : PySem.W.Frag) (mg : Str → Option Value) (W : Value → Option Addr → Hp → Prop) (ρ : List Addr) (H : Hp) (Q : Option Int → Hp → Prop) : Out (Option Int) → Prop
  | .ok b S' => ∀ ρ' H', Ext ρ H ρ' H' → WOk K mg ρ' H' S' → Q b H'
  | .ex e S' => ∀ C dd ρ' H', Ext ρ H ρ' H' → WOk K mg ρ' H' S' → ExRep K mg ρ' H' e C dd → W C dd H'
  | .bad => False
theorem PostO.mono {Q Q' : Option Int → Hp → Prop} {o : Out (Option Int)} (h : PostO K mg W ρ H Q o) (k : ∀ v H', Q v H' → Q' v H') : PostO K mg W ρ H Q' o := by
  cases o with
  | ok d S => exact fun ρ' H' x w => k _ _ (h ρ' H' x w)
  | ex e S => exact h
  | bad => exact h
end
section
variable {X : Cx} {W : WX}
theorem PO.imp {e : Option Expr} {t t' : TO} (h : PO X e t) (k : ∀ σ H Q, t' σ H Q → t σ H Q) : PO X e t' := ⟨fun pins s σ H Q I q => h.run pins s σ H Q I (k σ H Q q)⟩
end
end Z
namespace Z
open PySem PySem.Spec L2 Za
def signsD (s : Str) : List D := s.cps.toList.map fun c => D.str ⟨#[c]⟩
def srcD (S : Store) : D → Option (List D)
  | .str s => some (signsD s)
  | d => asS S d
end Z
namespace Z
open PySem PySem.Spec L2
/-- the block's own slots forgotten -/
def wipeS (sl : Sl) : List Nat → Sl
  | [] => sl
  | v :: vs => (wipeS sl vs).set v none
theorem wipeS_len (sl : Sl) : ∀ vs, (wipeS sl vs).length = sl.length
  | [] => rfl
  | v :: vs => by rw [wipeS, List.length_set, wipeS_len]
theorem RSt.wipe {K : PySem.W.Frag} {mg : Str → Option Value} {ρ : List Addr} {H : Hp} {σ : L2.St} {sl : Sl} (r : RSt K mg ρ H σ sl) : ∀ vs : List Nat, RSt K mg ρ H (L2.wipe σ vs) (wipeS sl vs)
  | [] => r
  | v :: vs => by
    have ih := RSt.wipe r vs
    refine ⟨by rw [wipe_length, wipeS_len]; exact r.len, fun j d e => ?_⟩
    rw [wipeS] at e
    rw [L2.wipe]
    by_cases hj : v = j
    · subst hj
      by_cases hl : v < (wipeS sl vs).length
      · rw [List.getElem?_set_self hl] at e; cases e
      · rw [List.getElem?_eq_none (by simpa using hl)] at e; cases e
    · rw [List.getElem?_set_ne hj] at e ⊢
      exact ih.at_ j d e
def trGw (K : PySem.W.Frag) (mg : Str → Option Value) (W : WX) (vs : List Nat) (ω : L2.St) (g : GX) : TG := fun v σ H Q => ∃ ρ S sl d, WOk K mg ρ H S ∧ RSt K mg ρ H σ sl ∧ Rep K mg ρ H d v ∧ L2.wipe σ vs = ω ∧ PostS K mg W ρ H ⟨fun σ' H' => L2.wipe σ' vs = ω → Q σ' H', fun _ _ => False, fun _ _ => False, fun _ _ => False⟩ (g d sl S)
def EGw (X : Cx) (W : WX) (vs : List Nat) (tg : Expr) (g : GX) : Prop := ∀ ω, PG X tg (trGw X.K X.mg W vs ω g)
section
variable {X : Cx} {W : WX} {vs : List Nat} {pos : Pos}
theorem PTs.imp {ifs : List Expr} {t t' : TT} (h : PTs X ifs t) (k : ∀ σ H Q, t' σ H Q → t σ H Q) : PTs X ifs t' := ⟨fun pins s σ H Q I q => h.run pins s σ H Q I (k σ H Q q)⟩
end
section
variable {X : Cx} {W : WX} {pos : Pos}
variable {elt tg iter : Expr} {ifs : List Expr} {scope : Scope} {own : List (Str × Nat)} {it : IX} {g : GX} {bt : BX} {fe : EX}
/-- targets for every state's rest -/
def trGa (K : PySem.W.Frag) (mg : Str → Option Value) (W : WX) (vs : List Nat) (g : GX) : TG := fun v σ H Q => trGw K mg W vs (L2.wipe σ vs) g v σ H Q
theorem EGw.all {X : Cx} {W : WX} {vs : List Nat} {tg : Expr} {g : GX} (h : EGw X W vs tg g) : PG X tg (trGa X.K X.mg W vs g) := ⟨fun pins s σ H v u Q I r q => (h (L2.wipe σ vs)).run pins s σ H v u Q I r q⟩
noncomputable def eFin (f : EX) : EX := fun sl S => fin S (f sl S)
end
end Z
namespace Z
open PySem PySem.Spec L2 PyProof.Rows Za PySem.W
section
variable {X : Cx}
def signsS (x : Str) : List Str := x.cps.toList.map fun c => ⟨#[c]⟩
end
end Z
namespace Z
open PySem PySem.Spec L2
section
variable {P : Program} {w : World} {K : PySem.W.Frag} {mg : Str → Option Value} {base : Heap}
/-- every argument is given -/
def arity (n : Nat) (g : SemL) : SemL := fun ds S => if ds.length = n then g ds S else .bad
end
section
variable {X : Cx} {W : WX} {k : Nat} {f C : Addr} {g : SemL} {x m : Str} {p pos apos : Pos} {e o : Expr} {es : List Expr} {fa : AX} {fo fe : EX}
/-- a table by a class's name -/
def tabOf (tab : List (Str × SemL)) (c : Str) : Option SemL := tab.lookup c
def eMethZ (m : Str) (tab : List (Str × SemL)) (fo : EX) (fa : AX) : EX := fun sl S => (fo sl S).bind fun d S1 => match fldsOf S1 d with
  | some (c, ns, _) => if m ∈ ns then .bad else (match tabOf tab c with
    | some g => (fa sl S1).bind fun ds S2 => g (d :: ds) S2
    | none => .bad)
  | none => .bad
def putN (f : Str) (d : D) : List Str → List D → List Str × List D
  | n :: ns, v :: vs => if n = f then (n :: ns, d :: vs) else (n :: (putN f d ns vs).1, v :: (putN f d ns vs).2)
  | _, _ => ([f], [d])
def setF (cs : List Str) (f : Str) (o v : D) (S : Store) : Option Store := match o with
  | .ptr n => (match S[n]? with
    | some (.ins c ns vs) => if c ∈ cs ∧ ns.length < 1000 then some (S.set n (.ins c (putN f v ns vs).1 (putN f v ns vs).2)) else none
    | _ => none)
  | _ => none
def sFldZ (cs : List Str) (f : Str) (fv fo : EX) : SX := fun sl S => (fv sl S).toS sl fun v S1 => (fo sl S1).toS sl fun o S2 => match setF cs f o v S2 with
  | some S3 => .nx sl S3
  | none => .bad
inductive AtK where
  | fld
  | prop (g : SemL)
  | con (d : D)
def eAttrZ (f : Str) (tab : List (Str × AtK)) (fo : EX) : EX := fun sl S => (fo sl S).bind fun d S1 => match fldsOf S1 d with
  | some (c, ns, vs) => (match tab.lookup c with
    | some .fld => (match lookN f ns vs with
      | some v => .ok v S1
      | none => .bad)
    | some (.prop g) => (match g [d] S1 with
      | .ok v S2 => .ok v S2
      | _ => .bad)
    | some (.con v) => if f ∈ ns then .bad else .ok v S1
    | none => .bad)
  | none => .bad
end
end Z
namespace Z
open PySem PySem.Spec L2
section
variable {X : Cx}
def addX : Sem2 := orS2 addI (orS2 addS (orS2 addL addT))
def mulX : Sem2 := orS2 mulI mulL
def ltX : Sem2 := orS2 ltI ltS
def inX : Sem2 := orS2 (inSg false) (orS2 (inDct false) (inSq false))
def ninX : Sem2 := orS2 (inSg true) (orS2 (inDct true) (inSq true))
def ixX : Sem2 := orS2 ixSeq ixDct
def lenX : SemL := orSL semLen semLenD
def isiX : SemL := orSL semIsi semIsiT
end
def sAug (i : Nat) (op : Int → Int → Int) (fe : EX) : SX := fun sl S => match sl[i]? with
  | some (some (.int a)) => (fe sl S).toS sl fun e S1 => (match e with
    | .int b => .nx (sl.set i (some (.int (op a b)))) S1
    | _ => .bad)
  | _ => .bad
end Z
namespace Z
open PySem PySem.Spec L2
@[simp] theorem bind_ok {α β : Type} (a : α) (S : Store) (k : α → Store → Out β) : (Out.ok a S).bind k = k a S := (rfl)
@[simp] theorem bind_bad {α β : Type} (k : α → Store → Out β) : (Out.bad : Out α).bind k = .bad := (rfl)
@[simp] theorem toS_ok {α : Type} (a : α) (S : Store) (sl : Sl) (k : α → Store → SO) : (Out.ok a S).toS sl k = k a S := (rfl)
@[simp] theorem toS_bad {α : Type} (sl : Sl) (k : α → Store → SO) : (Out.bad : Out α).toS sl k = .bad := (rfl)
@[simp] theorem then_nx (sl : Sl) (S : Store) (g : SX) : (SO.nx sl S).then g = g sl S := (rfl)
@[simp] theorem then_rt (d : D) (S : Store) (g : SX) : (SO.rt d S).then g = .rt d S := (rfl)
@[simp] theorem then_bk (sl : Sl) (S : Store) (g : SX) : (SO.bk sl S).then g = .bk sl S := (rfl)
@[simp] theorem then_ct (sl : Sl) (S : Store) (g : SX) : (SO.ct sl S).then g = .ct sl S := (rfl)
@[simp] theorem out_rt (d : D) (S : Store) : (SO.rt d S).out = .ok d S := (rfl)
@[simp] theorem out_nx (sl : Sl) (S : Store) : (SO.nx sl S).out = .ok .non S := (rfl)
@[simp] theorem shaped_int (i : Int) : SeqAt.shaped (.int i) = true := by simp [SeqAt.shaped, PyData.canLay0, PyData.depth]
theorem shaped_str {i : Str} (h : PyData.strOk i = true) : SeqAt.shaped (.str i) = true := by simp [SeqAt.shaped, PyData.canLay0, PyData.depth, h]
@[simp] theorem shaped_bool (i : Bool) : SeqAt.shaped (.bool i) = true := by simp [SeqAt.shaped, PyData.canLay0, PyData.depth]
@[simp] theorem eqD_int (i j : Int) (S : Store) : eqD false (.int i) (.int j) S = .ok (.bl (decide (i = j))) S := by
  simp [eqD, toP, toP0, PyData.eqv]
  rfl
@[simp] theorem neD_int (i j : Int) (S : Store) : eqD true (.int i) (.int j) S = .ok (.bl (!decide (i = j))) S := by
  simp [eqD, toP, toP0, PyData.eqv]
  rfl
@[simp] theorem addX_int (i j : Int) (S : Store) : addX (.int i) (.int j) S = .ok (.int (i + j)) S := (rfl)
@[simp] theorem subI_int (i j : Int) (S : Store) : subI (.int i) (.int j) S = .ok (.int (i - j)) S := (rfl)
@[simp] theorem ltX_int (i j : Int) (S : Store) : ltX (.int i) (.int j) S = .ok (.bl (decide (i < j))) S := (rfl)
@[simp] theorem leI_int (i j : Int) (S : Store) : leI (.int i) (.int j) S = .ok (.bl (decide (i ≤ j))) S := (rfl)
@[simp] theorem gtI_int (i j : Int) (S : Store) : gtI (.int i) (.int j) S = .ok (.bl (decide (j < i))) S := (rfl)
@[simp] theorem geI_int (i j : Int) (S : Store) : geI (.int i) (.int j) S = .ok (.bl (decide (j ≤ i))) S := (rfl)
theorem ix_lst {S : Store} {xs : List D} {i : Int} : ixX (.lst xs) (.int i) S = match atI xs i with
    | some x => .ok x S
    | none => .bad := by
  simp only [ixX, orS2, ixSeq, asS, asL]
  cases e : atI xs i with
  | some x => rfl
  | none => simp [ixDct, asD]
theorem ix_tup {S : Store} {xs : List D} {i : Int} : ixX (.tup xs) (.int i) S = match atI xs i with
    | some x => .ok x S
    | none => .bad := by
  simp only [ixX, orS2, ixSeq, asS]
  cases e : atI xs i with
  | some x => rfl
  | none => simp [ixDct, asD]
theorem ix_tpx {S : Store} {xs : List D} {i : Int} : ixX (.tpx xs) (.int i) S = match atI xs i with
    | some x => .ok x S
    | none => .bad := by
  simp only [ixX, orS2, ixSeq, asS]
  cases e : atI xs i with
  | some x => rfl
  | none => simp [ixDct, asD]
structure Keep (S S1 : Store) : Prop where
  len : S1.length = S.length
  at_ : ∀ (i : Nat) (m : MO), S1[i]? = some m → S[i]? = some m ∨ underM S.length m = true
theorem Keep.refl (S : Store) : Keep S S := ⟨rfl, fun i m h => .inl h⟩
theorem Keep.trans {S S1 S2 : Store} (h : Keep S S1) (h' : Keep S1 S2) : Keep S S2 := ⟨h'.len.trans h.len, fun i m e => by
  rcases h'.at_ i m e with q | q
  · exact h.at_ i m q
  · rw [h.len] at q; exact .inr q⟩
theorem Keep.set {S : Store} {n : Nat} {m : MO} (h : underM S.length m = true) : Keep S (S.set n m) := ⟨by simp, fun i m' e => by
  by_cases q : n = i
  · subst q
    by_cases hi : n < S.length
    · rw [List.getElem?_set_self hi] at e
      cases e
      exact .inr h
    · rw [List.getElem?_eq_none (by simpa using hi)] at e; cases e
  · rw [List.getElem?_set_ne q] at e
    exact .inl e⟩
theorem Keep.closed {S S1 T : Store} (h : Keep S S1) : Closed S (S1 ++ T) := fun i m hi e => by
  rw [List.getElem?_append_left (by rw [h.len]; exact hi)] at e
  exact h.at_ i m e
/-- what has no handles stays -/
theorem frz_of {k : Nat} {S : Store} {f : Nat} {d : D} (h : under k d = true) : frzD (frzP S k f) d = some d := frz_under (fun n hn => frzP_lt hn) d h
end Z
namespace Z
open PySem PySem.Spec L2
abbrev tx (l : List Nat) : Str := ⟨l.toArray⟩
abbrev sg (c : Nat) : D := .str (tx [c])
@[simp] theorem tx_len (l : List Nat) : (tx l).length = l.length := by simp [Str.length]
theorem tx_eta (s : Str) : tx s.cps.toList = s := by cases s; simp [tx]
@[simp] theorem tx_inj {a b : List Nat} : tx a = tx b ↔ a = b := by simp [tx]
@[simp] theorem tx_app (a b : List Nat) : tx a ++ tx b = tx (a ++ b) := by
  show (⟨a.toArray ++ b.toArray⟩ : Str) = _
  simp [tx]
@[simp] theorem signsD_tx (l : List Nat) : signsD (tx l) = l.map sg := by simp [signsD, tx]
@[simp] theorem signsS_tx (l : List Nat) : signsS (tx l) = l.map fun c => tx [c] := by simp [signsS, tx]
/-- d is a bool with k -/
def isB (d : D) (k : Bool → Prop) : Prop := match d with
  | .bl b => k b
  | _ => False
@[simp] theorem isB_bl {b : Bool} {k : Bool → Prop} : isB (.bl b) k = k b := (rfl)
/-- o is something with k -/
def isO {α : Type} (o : Option α) (k : α → Prop) : Prop := match o with
  | some a => k a
  | none => False
@[simp] theorem isO_some {α : Type} {a : α} {k : α → Prop} : isO (some a) k = k a := (rfl)
@[simp] theorem isO_none {α : Type} {k : α → Prop} : isO none k = False := (rfl)
@[irreducible] def We {α : Type} (o : Out α) (P : α → Store → Prop) (X : D → Store → Prop) : Prop := match o with
  | .ok a S => P a S
  | .ex e S => X e S
  | .bad => False
structure Q0 where
  nx : Sl → Store → Prop
  bk : Sl → Store → Prop
  ct : Sl → Store → Prop
  rt : D → Store → Prop
  ex : D → Sl → Store → Prop
@[irreducible] def Wo (o : SO) (Q : Q0) : Prop := match o with
  | .nx sl S => Q.nx sl S
  | .bk sl S => Q.bk sl S
  | .ct sl S => Q.ct sl S
  | .rt d S => Q.rt d S
  | .ex e sl S => Q.ex e sl S
  | .bad => False
section
variable {α β : Type} {P : α → Store → Prop} {X : D → Store → Prop} {Q : Q0} {S : Store} {sl : Sl}
@[simp] theorem we_ok {a : α} : We (.ok a S) P X = P a S := by unfold We; rfl
@[simp] theorem we_ex {e : D} : We (.ex e S : Out α) P X = X e S := by unfold We; rfl
@[simp] theorem we_bad : We (.bad : Out α) P X = False := by unfold We; rfl
theorem we_bind {o : Out α} {k : α → Store → Out β} {P : β → Store → Prop} : We (o.bind k) P X = We o (fun a S' => We (k a S') P X) X := by cases o <;> simp [Out.bind]
@[simp] theorem wo_nx : Wo (.nx sl S) Q = Q.nx sl S := by unfold Wo; rfl
@[simp] theorem wo_bk : Wo (.bk sl S) Q = Q.bk sl S := by unfold Wo; rfl
@[simp] theorem wo_ct : Wo (.ct sl S) Q = Q.ct sl S := by unfold Wo; rfl
@[simp] theorem wo_rt {d : D} : Wo (.rt d S) Q = Q.rt d S := by unfold Wo; rfl
@[simp] theorem wo_ex {e : D} : Wo (.ex e sl S) Q = Q.ex e sl S := by unfold Wo; rfl
@[simp] theorem wo_bad : Wo .bad Q = False := by unfold Wo; rfl
theorem wo_then {o : SO} {g : SX} : Wo (o.then g) Q = Wo o { Q with nx := fun sl' S' => Wo (g sl' S') Q } := by cases o <;> simp [SO.then]
theorem wo_toS {o : Out α} {k : α → Store → SO} : Wo (o.toS sl k) Q = We o (fun a S' => Wo (k a S') Q) (fun e S' => Q.ex e sl S') := by cases o <;> simp [Out.toS]
theorem We.mono {o : Out α} {P' : α → Store → Prop} {X' : D → Store → Prop} (h : We o P X) (hp : ∀ a S, P a S → P' a S) (hx : ∀ e S, X e S → X' e S) : We o P' X' := by
  cases o with
  | ok a S => rw [we_ok] at h ⊢; exact hp _ _ h
  | ex e S => rw [we_ex] at h ⊢; exact hx _ _ h
  | bad => rw [we_bad] at h; exact h.elim
theorem We.post {o : Out α} {P' : α → Store → Prop} (h : We o P X) (hp : ∀ a S, P a S → P' a S) : We o P' X := h.mono hp fun _ _ q => q
theorem Wo.mono {o : SO} {Q' : Q0} (h : Wo o Q) (h1 : ∀ sl S, Q.nx sl S → Q'.nx sl S) (h2 : ∀ sl S, Q.bk sl S → Q'.bk sl S) (h3 : ∀ sl S, Q.ct sl S → Q'.ct sl S) (h4 : ∀ d S, Q.rt d S → Q'.rt d S) (h5 : ∀ e sl S, Q.ex e sl S → Q'.ex e sl S) : Wo o Q' := by
  cases o with
  | nx sl S => rw [wo_nx] at h ⊢; exact h1 _ _ h
  | bk sl S => rw [wo_bk] at h ⊢; exact h2 _ _ h
  | ct sl S => rw [wo_ct] at h ⊢; exact h3 _ _ h
  | rt d S => rw [wo_rt] at h ⊢; exact h4 _ _ h
  | ex e sl S => rw [wo_ex] at h ⊢; exact h5 _ _ _ h
  | bad => rw [wo_bad] at h; exact h.elim
theorem We.get {o : Out α} (h : We o P (fun _ _ => False)) : ∃ a S, o = .ok a S ∧ P a S := by
  cases o with
  | ok a S => rw [we_ok] at h; exact ⟨a, S, rfl, h⟩
  | ex e S => rw [we_ex] at h; exact h.elim
  | bad => rw [we_bad] at h; exact h.elim
variable {f g : SX} {c : BX} {fe : EX} {fa : AX} {tg : GX}
@[simp] theorem w_sNil : Wo (sNil sl S) Q = Q.nx sl S := by unfold sNil; simp
@[simp] theorem w_sBad : Wo (sBad sl S) Q = False := by unfold sBad; simp
@[simp] theorem w_sBrk : Wo (sBrk sl S) Q = Q.bk sl S := by unfold sBrk; simp
@[simp] theorem w_sCnt : Wo (sCnt sl S) Q = Q.ct sl S := by unfold sCnt; simp
@[simp] theorem w_sSeq : Wo (sSeq f g sl S) Q = Wo (f sl S) { Q with nx := fun sl' S' => Wo (g sl' S') Q } := by unfold sSeq; exact wo_then
@[simp] theorem w_sExp : Wo (sExp fe sl S) Q = We (fe sl S) (fun _ S' => Q.nx sl S') (fun e S' => Q.ex e sl S') := by unfold sExp; rw [wo_toS]; simp only [wo_nx, wo_rt]
@[simp] theorem w_sRet : Wo (sRet fe sl S) Q = We (fe sl S) (fun d S' => Q.rt d S') (fun e S' => Q.ex e sl S') := by unfold sRet; rw [wo_toS]; simp only [wo_nx, wo_rt]
@[simp] theorem w_sRetN : Wo (sRetN sl S) Q = Q.rt .non S := by unfold sRetN; simp
@[simp] theorem w_sIf : Wo (sIf c f g sl S) Q = We (c sl S) (fun b S' => Wo (if b = true then f sl S' else g sl S') Q) (fun e S' => Q.ex e sl S') := by unfold sIf; exact wo_toS
@[simp] theorem w_sAsg : Wo (sAsg fe tg sl S) Q = We (fe sl S) (fun d S' => Wo (tg d sl S') Q) (fun e S' => Q.ex e sl S') := by unfold sAsg; exact wo_toS
theorem w_sPar {i j : Nat} : Wo (sPar i j fa sl S) Q = We (fa sl S) (fun ds S' => Wo (match ds with
  | [d, e] => .nx ((sl.set i (some d)).set j (some e)) S'
  | _ => .bad) Q) (fun e S' => Q.ex e sl S') := by unfold sPar; exact wo_toS
@[simp] theorem w_sPar2 {i j : Nat} {f1 f2 : EX} : Wo (sPar i j (aCons f1 (aCons f2 aNil)) sl S) Q = We (f1 sl S) (fun d S1 => We (f2 sl S1) (fun e S2 => Q.nx ((sl.set i (some d)).set j (some e)) S2) (fun e S' => Q.ex e sl S')) (fun e S' => Q.ex e sl S') := by
  rw [w_sPar]
  simp only [aCons, aNil, we_bind, we_ok, wo_nx]
@[simp] theorem w_gSet {i : Nat} {d : D} : Wo (gSet i d sl S) Q = Q.nx (sl.set i (some d)) S := by unfold gSet; simp
@[simp] theorem w_gTpx {gs : GXs} {ds : List D} : Wo (gTupX gs (.tpx ds) sl S) Q = Wo (gs ds sl S) Q := by unfold gTupX; rfl
@[simp] theorem w_gTup {gs : GXs} {ds : List D} : Wo (gTupX gs (.tup ds) sl S) Q = Wo (gs ds sl S) Q := by unfold gTupX; rfl
@[simp] theorem w_gCons {gs : GXs} {d : D} {r : List D} : Wo (gConsX tg gs (d :: r) sl S) Q = Wo (tg d sl S) { Q with nx := fun sl' S' => Wo (gs r sl' S') Q } := by unfold gConsX; exact wo_then
@[simp] theorem w_gNil : Wo (gNilX [] sl S) Q = Q.nx sl S := by unfold gNilX; simp
theorem w_gSub {fo fi : EX} {v : D} : Wo (gSubX fo fi v sl S) Q ↔ We (fo sl S) (fun o S1 => We (fi sl S1) (fun i S2 => match setD o i v S2 with
  | some S3 => Q.nx sl S3
  | none => False) (fun _ _ => False)) (fun _ _ => False) := by
  unfold gSubX
  cases fo sl S with
  | ok o S1 =>
    show Wo (match fi sl S1 with
      | .ok i S2 => (match setD o i v S2 with
        | some S3 => .nx sl S3
        | none => .bad)
      | _ => .bad) Q ↔ _
    rw [we_ok]
    cases fi sl S1 with
    | ok i S2 =>
      rw [we_ok]
      show Wo (match setD o i v S2 with
        | some S3 => .nx sl S3
        | none => .bad) Q ↔ _
      cases setD o i v S2 <;> simp
    | ex e S => simp
    | bad => simp
  | ex e S => simp
  | bad => simp
@[simp] theorem w_gSubI {fo fi : EX} {v : D} : Wo (gSubX fo fi v sl S) Q = We (fo sl S) (fun o S1 => We (fi sl S1) (fun i S2 => ∃ S3, setD o i v S2 = some S3 ∧ Q.nx sl S3) (fun _ _ => False)) (fun _ _ => False) := propext (w_gSub.trans ⟨fun h => h.post fun o S1 h => h.post fun i S2 h => by
    cases e : setD o i v S2 with
    | none => rw [e] at h; exact h.elim
    | some S3 => rw [e] at h; exact ⟨S3, rfl, h⟩, fun h => h.post fun o S1 h => h.post fun i S2 ⟨S3, e, h⟩ => by rw [e]; exact h⟩)
variable {P : D → Store → Prop} {PB : Bool → Store → Prop} {PA : List D → Store → Prop} {f1 f2 f3 : EX} {c1 c2 : BX} {fs : AX}
@[simp] theorem w_eLit {d : D} : We (eLit d sl S) P X = P d S := by unfold eLit; simp
@[simp] theorem w_eName {i : Nat} : We (eName i sl S) P X = ∃ d, sl[i]? = some (some d) ∧ P d S := by
  unfold eName
  cases e : sl[i]? with
  | none => simp
  | some o => cases o <;> simp
@[simp] theorem w_eBin {sem : Sem2} : We (eBin sem f1 f2 sl S) P X = We (f1 sl S) (fun d S1 => We (f2 sl S1) (fun e S2 => We (sem d e S2) P X) X) X := by simp only [eBin, we_bind]
@[simp] theorem w_eUn {sem : Sem1} : We (eUn sem f1 sl S) P X = We (f1 sl S) (fun d S1 => We (sem d S1) P X) X := by simp only [eUn, we_bind]
@[simp] theorem w_eArgs {sem : SemL} : We (eArgs sem fs sl S) P X = We (fs sl S) (fun ds S1 => We (sem ds S1) P X) X := by simp only [eArgs, we_bind]
@[simp] theorem w_aNil : We (aNil sl S) PA X = PA [] S := by unfold aNil; simp
@[simp] theorem w_aCons : We (aCons f1 fs sl S) PA X = We (f1 sl S) (fun d S1 => We (fs sl S1) (fun ds S2 => PA (d :: ds) S2) X) X := by simp only [aCons, we_bind, we_ok]
theorem w_bVal' : We (bVal f1 sl S) PB X = We (f1 sl S) (fun d S1 => isB d fun b => PB b S1) X := by
  simp only [bVal, we_bind]
  congr 1
  funext d S1
  cases d <;> simp [isB]
@[simp] theorem w_bVal : We (bVal f1 sl S) PB X = We (f1 sl S) (fun d S1 => isB d fun b => PB b S1) X := w_bVal'
@[simp] theorem w_bNot : We (bNot c1 sl S) PB X = We (c1 sl S) (fun b S1 => PB (!b) S1) X := by simp only [bNot, we_bind, we_ok]
@[simp] theorem w_bAnd : We (bAnd c1 c2 sl S) PB X = We (c1 sl S) (fun b S1 => if b = true then We (c2 sl S1) PB X else PB false S1) X := by
  simp only [bAnd, we_bind]
  congr 1
  funext b S1
  cases b <;> simp
@[simp] theorem w_bOr : We (bOr c1 c2 sl S) PB X = We (c1 sl S) (fun b S1 => if b = true then PB true S1 else We (c2 sl S1) PB X) X := by
  simp only [bOr, we_bind]
  congr 1
  funext b S1
  cases b <;> simp
@[simp] theorem w_eAnd : We (eAnd f1 f2 sl S) P X = We (f1 sl S) (fun d S1 => isB d fun b => if b = true then We (f2 sl S1) P X else P (.bl false) S1) X := by
  simp only [eAnd, we_bind]
  congr 1
  funext d S1
  cases d with
  | bl b => cases b <;> simp [isB]
  | _ => simp [isB]
@[simp] theorem w_eOr : We (eOr f1 f2 sl S) P X = We (f1 sl S) (fun d S1 => isB d fun b => if b = true then P (.bl true) S1 else We (f2 sl S1) P X) X := by
  simp only [eOr, we_bind]
  congr 1
  funext d S1
  cases d with
  | bl b => cases b <;> simp [isB]
  | _ => simp [isB]
@[simp] theorem w_eNot : We (eNot f1 sl S) P X = We (f1 sl S) (fun d S1 => isB d fun b => P (.bl (!b)) S1) X := by
  simp only [eNot, we_bind]
  congr 1
  funext d S1
  cases d <;> simp [isB]
@[simp] theorem w_eIf : We (eIf c1 f1 f2 sl S) P X = We (c1 sl S) (fun b S1 => if b = true then We (f1 sl S1) P X else We (f2 sl S1) P X) X := by
  simp only [eIf, we_bind]
  congr 1
  funext b S1
  cases b <;> simp
@[simp] theorem w_eChain {s1 s2 : Sem2} : We (eChain s1 s2 f1 f2 f3 sl S) P X = We (f1 sl S) (fun d S1 => We (f2 sl S1) (fun e S2 => We (s1 d e S2) (fun r S3 => isB r fun b => if b = true then We (f3 sl S3) (fun g S4 => We (s2 e g S4) P X) X else P (.bl false) S3) X) X) X := by
  simp only [eChain, we_bind]
  congr 1
  funext d S1
  congr 1
  funext e S2
  congr 1
  funext r S3
  cases r with
  | bl b => cases b <;> simp [we_bind, isB]
  | _ => simp [isB]
variable {PO : Option Int → Store → Prop} {fl fu : OX}
@[simp] theorem w_oNone : We (oNone sl S) PO X = PO none S := by unfold oNone; simp
@[simp] theorem w_oInt : We (oInt f1 sl S) PO X = We (f1 sl S) (fun d S1 => ∃ i, d = .int i ∧ PO (some i) S1) X := by
  simp only [oInt, we_bind]
  congr 1
  funext d S1
  cases d <;> simp
@[simp] theorem w_eSl {h : Bool} : We (eSl h f1 fl fu sl S) P X = We (f1 sl S) (fun d S1 => We (fl sl S1) (fun l S2 => We (fu sl S2) (fun u S3 => We (semSl h d l u S3) P X) X) X) X := by simp only [eSl, we_bind]
theorem w_eMet {ty : Store → D → Bool} {sem : SemM} : We (eMet ty sem f1 fs sl S) P X = We (f1 sl S) (fun d S1 => if ty S1 d = true then We (fs sl S1) (fun ds S2 => We (sem d ds S2) P X) X else False) X := by
  simp only [eMet, we_bind]
  congr 1
  funext d S1
  cases h : ty S1 d <;> simp [we_bind]
@[simp] theorem w_eMet_ {ty : Store → D → Bool} {sem : SemM} : We (eMet ty sem f1 fs sl S) P X = We (f1 sl S) (fun d S1 => ty S1 d = true ∧ We (fs sl S1) (fun ds S2 => We (sem d ds S2) P X) X) X := by
  rw [w_eMet]
  congr 1
  funext d S1
  cases h : ty S1 d <;> simp
@[simp] theorem w_eMethZ {m : Str} {tab : List (Str × SemL)} : We (eMethZ m tab f1 fs sl S) P X = We (f1 sl S) (fun d S1 => isO (fldsOf S1 d) fun p => m ∉ p.2.1 ∧ isO (tabOf tab p.1) fun g => We (fs sl S1) (fun ds S2 => We (g (d :: ds) S2) P X) X) X := by
  unfold eMethZ
  rw [we_bind]
  congr 1
  funext d S1
  cases e : fldsOf S1 d with
  | none => simp
  | some p =>
    obtain ⟨c, ns, vs⟩ := p
    dsimp only
    rw [isO_some]
    dsimp only
    by_cases hm : m ∈ ns
    · rw [if_pos hm]; simp [hm]
    · rw [if_neg hm]
      cases e2 : tabOf tab c with
      | none => simp
      | some g =>
        dsimp only
        rw [we_bind, isO_some]
        exact propext ⟨fun h => ⟨hm, h⟩, fun h => h.2⟩
/-- what stands at a field name -/
def attP (m : Str) (d : D) (ns : List Str) (vs : List D) (S1 : Store) (P : D → Store → Prop) : AtK → Prop
  | .fld => isO (lookN m ns vs) fun v => P v S1
  | .prop g => We (g [d] S1) P (fun _ _ => False)
  | .con v => m ∉ ns ∧ P v S1
@[simp] theorem attP_fld {m : Str} {d : D} {ns : List Str} {vs : List D} {S1 : Store} : attP m d ns vs S1 P .fld = isO (lookN m ns vs) fun v => P v S1 := (rfl)
@[simp] theorem attP_prop {m : Str} {d : D} {ns : List Str} {vs : List D} {S1 : Store} {g : SemL} : attP m d ns vs S1 P (.prop g) = We (g [d] S1) P (fun _ _ => False) := (rfl)
@[simp] theorem attP_con {m : Str} {d : D} {ns : List Str} {vs : List D} {S1 : Store} {v : D} : attP m d ns vs S1 P (.con v) = (m ∉ ns ∧ P v S1) := (rfl)
@[simp] theorem w_eAttr {m : Str} {tab : List (Str × AtK)} : We (eAttrZ m tab f1 sl S) P X = We (f1 sl S) (fun d S1 => isO (fldsOf S1 d) fun p => isO (tab.lookup p.1) fun t => attP m d p.2.1 p.2.2 S1 P t) X := by
  unfold eAttrZ
  rw [we_bind]
  congr 1
  funext d S1
  cases e : fldsOf S1 d with
  | none => simp
  | some p =>
    obtain ⟨c, ns, vs⟩ := p
    dsimp only
    rw [isO_some]
    dsimp only
    cases e2 : tab.lookup c with
    | none => simp
    | some t =>
      rw [isO_some]
      cases t with
      | fld =>
        dsimp only
        rw [attP_fld]
        cases lookN m ns vs <;> simp
      | prop g =>
        dsimp only
        rw [attP_prop]
        cases g [d] S1 <;> simp
      | con v =>
        dsimp only
        rw [attP_con]
        by_cases hm : m ∈ ns <;> simp [hm]
@[simp] theorem w_sFld {cs : List Str} {m : Str} : Wo (sFldZ cs m f1 f2 sl S) Q = We (f1 sl S) (fun v S1 => We (f2 sl S1) (fun o S2 => ∃ S3, setF cs m o v S2 = some S3 ∧ Q.nx sl S3) (fun e S' => Q.ex e sl S')) (fun e S' => Q.ex e sl S') := by
  simp only [sFldZ, wo_toS]
  congr 1
  funext d S1
  congr 1
  funext o S2
  cases setF cs m o d S2 <;> simp
@[simp] theorem w_arity {n : Nat} {g : SemL} {ds : List D} (h : ds.length = n) : arity n g ds S = g ds S := if_pos h
def FinP (S : Store) (P : D → Store → Prop) : D → Store → Prop := fun d S' => Closed S S' ∧ ∃ d', frzD (frzP S' S.length 6) d = some d' ∧ P d' (S'.take S.length)
theorem we_fin {o : Out D} : We (fin S o) P X = We o (FinP S P) (FinP S X) := by
  cases o with
  | bad => simp [fin]
  | ok d S' =>
    simp only [fin, we_ok, FinP]
    by_cases h : Closed S S'
    · rw [if_pos h]
      cases e : frzD (frzP S' S.length 6) d <;> simp [h]
    · rw [if_neg h]; simp [h]
  | ex d S' =>
    simp only [fin, we_ex, FinP]
    by_cases h : Closed S S'
    · rw [if_pos h]
      cases e : frzD (frzP S' S.length 6) d <;> simp [h]
    · rw [if_neg h]; simp [h]
/-- behind a body -/
def QF (S : Store) (P : D → Store → Prop) (X : D → Store → Prop) : Q0 := ⟨fun _ S' => FinP S P .non S', fun _ _ => False, fun _ _ => False, FinP S P, fun e _ S' => FinP S X e S'⟩
theorem we_out {o : SO} {P X : D → Store → Prop} : We o.out P X = Wo o ⟨fun _ S' => P .non S', fun _ _ => False, fun _ _ => False, P, fun e _ S' => X e S'⟩ := by cases o <;> simp [SO.out]
theorem we_defS {N : Nat} {body : SX} {ds : List D} : We (defS N body ds S) P X = Wo (body (ds.map some ++ List.replicate (N - ds.length) none) S) (QF S P X) := by
  unfold defS
  rw [we_fin, we_out]
  rfl
@[simp] theorem qf_nx : (QF S P X).nx sl = FinP S P .non := (rfl)
@[simp] theorem qf_rt : (QF S P X).rt = FinP S P := (rfl)
@[simp] theorem qf_ex {e : D} : (QF S P X).ex e sl = FinP S X e := (rfl)
@[simp] theorem qf_bk : (QF S P X).bk sl S = False := (rfl)
@[simp] theorem qf_ct : (QF S P X).ct sl S = False := (rfl)
theorem finP_keep {S1 T : Store} {d d' : D} (h : Keep S S1) (hd : frzD (frzP (S1 ++ T) S.length 6) d = some d') (p : P d' S1) : FinP S P d (S1 ++ T) :=
  ⟨h.closed, d', hd, by rw [← h.len, List.take_left']; exact p; rfl⟩
theorem finP_keep0 {S1 : Store} {d : D} (h : Keep S S1) (hd : under S.length d = true) (p : P d S1) : FinP S P d S1 := by
  have := finP_keep (P := P) (T := []) h (d := d) (d' := d) (frz_of hd) p
  rwa [List.append_nil] at this
theorem finP_same {d : D} (hd : under S.length d = true) (p : P d S) : FinP S P d S := finP_keep0 (Keep.refl S) hd p
@[simp] theorem finP_bl {b : Bool} : FinP S P (.bl b) S = P (.bl b) S := propext ⟨fun ⟨_, d', h, p⟩ => by rw [frzD] at h; cases h; simpa using p, fun p => finP_same rfl p⟩
@[simp] theorem finP_int {i : Int} : FinP S P (.int i) S = P (.int i) S := propext ⟨fun ⟨_, d', h, p⟩ => by rw [frzD] at h; cases h; simpa using p, fun p => finP_same rfl p⟩
@[simp] theorem finP_str {i : Str} : FinP S P (.str i) S = P (.str i) S := propext ⟨fun ⟨_, d', h, p⟩ => by rw [frzD] at h; cases h; simpa using p, fun p => finP_same rfl p⟩
@[simp] theorem finP_non : FinP S P .non S = P .non S := propext ⟨fun ⟨_, d', h, p⟩ => by rw [frzD] at h; cases h; simpa using p, fun p => finP_same rfl p⟩
@[simp] theorem w_eFin {f : EX} : We (eFin f sl S) P X = We (f sl S) (FinP S P) (FinP S X) := we_fin
theorem underL_iff {k : Nat} : ∀ {ds : List D}, underL k ds = true ↔ ∀ d ∈ ds, under k d = true
  | [] => by simp [underL]
  | d :: ds => by simp [underL, Bool.and_eq_true, underL_iff (ds := ds)]
@[simp] theorem underL_app {k : Nat} {a b : List D} : underL k (a ++ b) = (underL k a && underL k b) := by
  induction a with
  | nil => simp [underL]
  | cons d a ih => simp [underL, ih, Bool.and_assoc]
@[simp] theorem under_non {k : Nat} : under k .non = true := by simp [under]
@[simp] theorem under_bl {k : Nat} {b : Bool} : under k (.bl b) = true := by simp [under]
@[simp] theorem under_int {k : Nat} {b : Int} : under k (.int b) = true := by simp [under]
@[simp] theorem under_str {k : Nat} {b : Str} : under k (.str b) = true := by simp [under]
@[simp] theorem under_tup {k : Nat} {b : List D} : under k (.tup b) = underL k b := by simp [under]
@[simp] theorem under_tpx {k : Nat} {b : List D} : under k (.tpx b) = underL k b := by simp [under]
@[simp] theorem under_lst {k : Nat} {b : List D} : under k (.lst b) = underL k b := by simp [under]
@[simp] theorem under_dct {k : Nat} {a b : List D} : under k (.dct a b) = (underL k a && underL k b) := by simp [under]
@[simp] theorem under_ins {k : Nat} {c : Str} {ns : List Str} {b : List D} : under k (.ins c ns b) = underL k b := by simp [under]
@[simp] theorem underL_nil {k : Nat} : underL k [] = true := by simp [underL]
@[simp] theorem underL_cons {k : Nat} {d : D} {ds : List D} : underL k (d :: ds) = (under k d && underL k ds) := by simp [underL]
end
@[simp] theorem underL_sgs {k : Nat} {l : List Nat} : underL k (l.map sg) = true := by
  rw [underL_iff]
  intro d hd
  obtain ⟨c, _, rfl⟩ := List.mem_map.mp hd
  exact under_str
section
variable {S : Store} {sl : Sl}
@[simp] theorem srcD_str (s : Str) : srcD S (.str s) = some (signsD s) := (rfl)
@[simp] theorem srcD_lst (xs : List D) : srcD S (.lst xs) = some xs := (rfl)
@[simp] theorem srcD_tpx (xs : List D) : srcD S (.tpx xs) = some xs := (rfl)
@[simp] theorem srcD_tup (xs : List D) : srcD S (.tup xs) = some xs := (rfl)
@[simp] theorem srcD_scr (xs : List Int) : srcD S (.scr xs) = some (xs.map .int) := (rfl)
@[simp] theorem asS_lst' (xs : List D) : asS S (.lst xs) = some xs := (rfl)
@[simp] theorem asS_tpx' (xs : List D) : asS S (.tpx xs) = some xs := (rfl)
@[simp] theorem asS_tup' (xs : List D) : asS S (.tup xs) = some xs := (rfl)
@[simp] theorem asS_scr' (xs : List Int) : asS S (.scr xs) = some (xs.map .int) := (rfl)
@[simp] theorem asL_lst' (xs : List D) : asL S (.lst xs) = some xs := (rfl)
end
end Z
namespace Z
open PySem PySem.Spec L2
section
variable {S : Store} {P : D → Store → Prop} {X : D → Store → Prop}
@[simp] theorem atI_nat' {α : Type} (xs : List α) (k : Nat) : atI xs (k : Int) = xs[k]? := by
  unfold atI ixN
  by_cases h : k < xs.length
  · simp [h]
  · rw [if_pos (by omega), if_neg (by omega)]
    simp; omega
@[simp] theorem atI_0 {α : Type} (xs : List α) : atI xs 0 = xs[0]? := atI_nat' xs 0
@[simp] theorem atI_1 {α : Type} (xs : List α) : atI xs 1 = xs[1]? := atI_nat' xs 1
@[simp] theorem atI_2 {α : Type} (xs : List α) : atI xs 2 = xs[2]? := atI_nat' xs 2
@[simp] theorem atI_3 {α : Type} (xs : List α) : atI xs 3 = xs[3]? := atI_nat' xs 3
@[simp] theorem atI_4 {α : Type} (xs : List α) : atI xs 4 = xs[4]? := atI_nat' xs 4
@[simp] theorem atI_5 {α : Type} (xs : List α) : atI xs 5 = xs[5]? := atI_nat' xs 5
@[simp] theorem atI_6 {α : Type} (xs : List α) : atI xs 6 = xs[6]? := atI_nat' xs 6
@[simp] theorem atI_7 {α : Type} (xs : List α) : atI xs 7 = xs[7]? := atI_nat' xs 7
@[simp] theorem atI_8 {α : Type} (xs : List α) : atI xs 8 = xs[8]? := atI_nat' xs 8
theorem orS2_l {f g : Sem2} {d e : D} {a : D} {S' : Store} (h : f d e S = .ok a S') : orS2 f g d e S = .ok a S' := by unfold orS2; rw [h]
theorem orS2_r {f g : Sem2} {d e : D} (h : f d e S = .bad) : orS2 f g d e S = g d e S := by unfold orS2; rw [h]
theorem orSL_l {f g : SemL} {d : List D} {a : D} {S' : Store} (h : f d S = .ok a S') : orSL f g d S = .ok a S' := by unfold orSL; rw [h]
theorem orSL_r {f g : SemL} {d : List D} (h : f d S = .bad) : orSL f g d S = g d S := by unfold orSL; rw [h]
@[simp] theorem w_ix_lst {xs : List D} {i : Int} : We (ixX (.lst xs) (.int i) S) P X = ∃ x, atI xs i = some x ∧ P x S := by
  rw [ix_lst]
  cases atI xs i <;> simp
@[simp] theorem w_ix_tup {xs : List D} {i : Int} : We (ixX (.tup xs) (.int i) S) P X = ∃ x, atI xs i = some x ∧ P x S := by
  rw [ix_tup]
  cases atI xs i <;> simp
@[simp] theorem w_ix_tpx {xs : List D} {i : Int} : We (ixX (.tpx xs) (.int i) S) P X = ∃ x, atI xs i = some x ∧ P x S := by
  rw [ix_tpx]
  cases atI xs i <;> simp
@[simp] theorem w_ix_str {l : List Nat} {i : Int} : We (ixX (.str (tx l)) (.int i) S) P X = (l.length ≤ 1000000 ∧ ∃ c, atI l i = some c ∧ P (sg c) S) := by
  by_cases h : l.length ≤ 1000000
  · cases e : atI l i with
    | none =>
      have : ixX (.str (tx l)) (.int i) S = .bad := by
        unfold ixX
        rw [orS2_r (by simp only [ixSeq]; rw [if_pos (by simpa using h)]; simp [e])]
        rfl
      rw [this]; simp
    | some c =>
      have : ixX (.str (tx l)) (.int i) S = .ok (sg c) S := by
        unfold ixX
        exact orS2_l (by simp only [ixSeq]; rw [if_pos (by simpa using h)]; simp [e])
      rw [this]; simp [h]
  · have : ixX (.str (tx l)) (.int i) S = .bad := by
      unfold ixX
      rw [orS2_r (by simp only [ixSeq]; rw [if_neg (by simpa using h)])]
      rfl
    rw [this]; simp [h]
theorem ixSeq_dct {ks vs : List D} {k : D} : ixSeq (.dct ks vs) k S = .bad := by
  cases k <;> simp [ixSeq, asS, asL]
@[simp] theorem w_ix_dct {ks vs : List D} {k : D} : We (ixX (.dct ks vs) k S) P X = ∃ y, keyD k = some y ∧ ∃ v, getK ks vs y = some v ∧ P v S := by
  have : ixX (.dct ks vs) k S = ixDct (.dct ks vs) k S := by unfold ixX; exact orS2_r ixSeq_dct
  rw [this]
  unfold ixDct asD
  cases e : keyD k with
  | none => simp
  | some y =>
    dsimp only
    cases e2 : getK ks vs y <;> simp [e2]
@[simp] theorem keyD_str {s : Str} : keyD (.str s) = some (.inr s) := (rfl)
@[simp] theorem keyD_int {s : Int} : keyD (.int s) = some (.inl s) := (rfl)
@[simp] theorem w_len_str {l : List Nat} : We (lenX [.str (tx l)] S) P X = (l.length ≤ 1000000 ∧ P (.int l.length) S) := by
  by_cases h : l.length ≤ 1000000
  · have : lenX [.str (tx l)] S = .ok (.int l.length) S := by
      unfold lenX
      refine orSL_l ?_
      simp [semLen, h]
    rw [this]; simp [h]
  · have : lenX [.str (tx l)] S = .bad := by
      unfold lenX
      rw [orSL_r (by simp [semLen, h])]
      rfl
    rw [this]; simp [h]
@[simp] theorem len_tup {xs : List D} : lenX [.tup xs] S = .ok (.int xs.length) S := by simp [lenX, orSL, semLen, asS]
@[simp] theorem len_tpx {xs : List D} : lenX [.tpx xs] S = .ok (.int xs.length) S := by simp [lenX, orSL, semLen, asS]
@[simp] theorem len_lst {xs : List D} : lenX [.lst xs] S = .ok (.int xs.length) S := by simp [lenX, orSL, semLen, asS, asL]
@[simp] theorem len_dct {ks vs : List D} : lenX [.dct ks vs] S = .ok (.int ks.length) S := by simp [lenX, orSL, semLen, asS, asL, semLenD, asD]
@[simp] theorem w_add_str {a b : List Nat} : We (addX (.str (tx a)) (.str (tx b)) S) P X = (a.length + b.length ≤ 1000000 ∧ P (.str (tx (a ++ b))) S) := by
  by_cases h : a.length + b.length ≤ 1000000
  · have : addX (.str (tx a)) (.str (tx b)) S = .ok (.str (tx (a ++ b))) S := by
      unfold addX
      rw [orS2_r (by rfl)]
      exact orS2_l (by simp [addS, h])
    rw [this]; simp [h]
  · have : addX (.str (tx a)) (.str (tx b)) S = .bad := by
      unfold addX
      rw [orS2_r (by rfl), orS2_r (by simp [addS, h]), orS2_r (by simp [addL, asL])]
      rfl
    rw [this]; simp [h]
@[simp] theorem w_add_lst {a b : List D} : We (addX (.lst a) (.lst b) S) P X = (a.length + b.length ≤ 1000000 ∧ P (.lst (a ++ b)) S) := by
  by_cases h : a.length + b.length ≤ 1000000
  · have : addX (.lst a) (.lst b) S = .ok (.lst (a ++ b)) S := by
      unfold addX
      rw [orS2_r (by rfl), orS2_r (by rfl)]
      exact orS2_l (by simp [addL, asL, h])
    rw [this]; simp [h]
  · have : addX (.lst a) (.lst b) S = .bad := by
      unfold addX
      rw [orS2_r (by rfl), orS2_r (by rfl), orS2_r (by simp [addL, asL, h])]
      rfl
    rw [this]; simp [h]
theorem in_sg {neg : Bool} {c : Nat} {l : List Nat} : inSg neg (sg c) (.str (tx l)) S = .ok (.bl (if neg = true then !decide (c ∈ l) else decide (c ∈ l))) S := by
  simp only [inSg]
@[simp] theorem inX_sg {c : Nat} {l : List Nat} : inX (sg c) (.str (tx l)) S = .ok (.bl (decide (c ∈ l))) S := orS2_l (in_sg (neg := false))
@[simp] theorem ninX_sg {c : Nat} {l : List Nat} : ninX (sg c) (.str (tx l)) S = .ok (.bl (!decide (c ∈ l))) S := orS2_l (in_sg (neg := true))
theorem in_dct {neg : Bool} {k : D} {y : Key} {ks vs : List D} (h : keyD k = some y) : inDct neg k (.dct ks vs) S = .ok (.bl (if neg = true then !hasK ks y else hasK ks y)) S := by
  simp only [inDct, asD, h]
theorem inSg_dct {neg : Bool} {k : D} {ks vs : List D} : inSg neg k (.dct ks vs) S = .bad := by cases k <;> rfl
theorem inX_dct {k : D} {y : Key} {ks vs : List D} (h : keyD k = some y) : inX k (.dct ks vs) S = .ok (.bl (hasK ks y)) S := by
  unfold inX
  rw [orS2_r inSg_dct]
  exact orS2_l (in_dct (neg := false) h)
theorem ninX_dct {k : D} {y : Key} {ks vs : List D} (h : keyD k = some y) : ninX k (.dct ks vs) S = .ok (.bl (!hasK ks y)) S := by
  unfold ninX
  rw [orS2_r inSg_dct]
  exact orS2_l (in_dct (neg := true) h)
@[simp] theorem inX_dctS {s : Str} {ks vs : List D} : inX (.str s) (.dct ks vs) S = .ok (.bl (hasK ks (.inr s))) S := inX_dct rfl
@[simp] theorem ninX_dctS {s : Str} {ks vs : List D} : ninX (.str s) (.dct ks vs) S = .ok (.bl (!hasK ks (.inr s))) S := ninX_dct rfl
@[simp] theorem inD_sg {c : Nat} {l : List Nat} : inD (sg c) (l.map sg) = decide (c ∈ l) := by
  unfold inD
  induction l with
  | nil => rfl
  | cons x l ih =>
    rw [List.map_cons, List.any_cons, ih]
    have : eqF (sg x) (sg c) = decide (x = c) := by
      show ((tx [x]) == (tx [c])) = _
      by_cases h : x = c
      · subst h; simp
      · simp [h]
    rw [this]
    by_cases h : x = c
    · simp [h]
    · simp [h, Ne.symm h, eq_comm]
@[simp] theorem flat_sgs {l : List Nat} : (l.map sg).all flatD = true := by simp [List.all_eq_true, flatD]
@[simp] theorem flat_str {s : Str} : flatD (.str s) = true := (rfl)
@[simp] theorem flat_int {s : Int} : flatD (.int s) = true := (rfl)
theorem sIx_nat (n d k : Nat) : HT.sIx n d (some (k : Int)) = min k n := HT.sIx_nat n d k
@[simp] theorem cutS_from (l : List Nat) (k : Nat) : cutS (tx l) (some (k : Int)) none = tx (l.drop k) := by
  unfold cutS
  congr 1
  rw [HT.sIx_none, sIx_nat, tx_len]
  show ((l.drop (min k l.length)).take (l.length - min k l.length)).toArray = _
  rw [List.take_of_length_le (by simp)]
  by_cases h : k ≤ l.length
  · rw [Nat.min_eq_left h]
  · rw [Nat.min_eq_right (by omega), List.drop_length, List.drop_eq_nil_of_le (by omega)]
@[simp] theorem cutS_to (l : List Nat) (k : Nat) : cutS (tx l) none (some (k : Int)) = tx (l.take k) := by
  unfold cutS
  congr 1
  rw [HT.sIx_none, sIx_nat, tx_len]
  show ((l.drop 0).take (min k l.length - 0)).toArray = _
  rw [List.drop_zero, Nat.sub_zero]
  by_cases h : k ≤ l.length
  · rw [Nat.min_eq_left h]
  · rw [Nat.min_eq_right (by omega), List.take_length, List.take_of_length_le (by omega)]
@[simp] theorem cutS_mid (l : List Nat) (j k : Nat) : cutS (tx l) (some (j : Int)) (some (k : Int)) = tx ((l.take k).drop j) := by
  unfold cutS
  congr 1
  rw [sIx_nat, sIx_nat, tx_len]
  show ((l.drop (min j l.length)).take (min k l.length - min j l.length)).toArray = _
  rw [← List.drop_take]
  by_cases h : k ≤ l.length
  · rw [Nat.min_eq_left h]
    by_cases h2 : j ≤ l.length
    · rw [Nat.min_eq_left h2]
    · rw [Nat.min_eq_right (by omega), List.drop_eq_nil_of_le (by simp; omega), List.drop_eq_nil_of_le (by simp; omega)]
  · rw [Nat.min_eq_right (a := k) (by omega), List.take_length, List.take_of_length_le (i := k) (by omega)]
    by_cases h2 : j ≤ l.length
    · rw [Nat.min_eq_left h2]
    · rw [Nat.min_eq_right (a := j) (by omega), List.drop_length, List.drop_eq_nil_of_le (by omega)]
@[simp] theorem cutD_from (l : List D) (k : Nat) : cutD l (some (k : Int)) none = l.drop k := by
  unfold cutD
  rw [HT.sIx_none, sIx_nat]
  rw [List.take_of_length_le (by simp)]
  by_cases h : k ≤ l.length
  · rw [Nat.min_eq_left h]
  · rw [Nat.min_eq_right (by omega), List.drop_length, List.drop_eq_nil_of_le (by omega)]
@[simp] theorem cutD_to (l : List D) (k : Nat) : cutD l none (some (k : Int)) = l.take k := by
  unfold cutD
  rw [HT.sIx_none, sIx_nat, List.drop_zero, Nat.sub_zero]
  by_cases h : k ≤ l.length
  · rw [Nat.min_eq_left h]
  · rw [Nat.min_eq_right (by omega), List.take_length, List.take_of_length_le (by omega)]
@[simp] theorem cutD_63 (l : List D) : cutD l none (some 63) = l.take 63 := cutD_to l 63
@[simp] theorem cutS_from1 (l : List Nat) : cutS (tx l) (some 1) none = tx (l.drop 1) := cutS_from l 1
@[simp] theorem cutS_from2 (l : List Nat) : cutS (tx l) (some 2) none = tx (l.drop 2) := cutS_from l 2
@[simp] theorem cutS_to1 (l : List Nat) : cutS (tx l) none (some 1) = tx (l.take 1) := cutS_to l 1
@[simp] theorem cutS_12 (l : List Nat) : cutS (tx l) (some 1) (some 2) = tx ((l.take 2).drop 1) := cutS_mid l 1 2
@[simp] theorem w_sl_str {h : Bool} {l : List Nat} {lo hi : Option Int} : We (semSl h (.str (tx l)) lo hi S) P X = (l.length ≤ 1000000 ∧ P (.str (cutS (tx l) lo hi)) S) := by
  by_cases h : l.length ≤ 1000000 <;> simp [semSl, h]
@[simp] theorem sl_tup {h : Bool} {xs : List D} {lo hi : Option Int} : semSl h (.tup xs) lo hi S = .ok (.tup (cutD xs lo hi)) S := (rfl)
@[simp] theorem sl_lst {xs : List D} {lo hi : Option Int} : semSl false (.lst xs) lo hi S = .ok (.lst (cutD xs lo hi)) S := (rfl)
@[simp] theorem sl_scr {xs : List Int} {lo hi : Option Int} : semSl false (.scr xs) lo hi S = .ok (.lst (cutD (xs.map .int) lo hi)) S := (rfl)
@[simp] theorem w_semTup {ds : List D} : We (semTup ds S) P X = (ds.length ≤ 1000000 ∧ P (.tup ds) S) := by
  unfold semTup
  by_cases h : ds.length ≤ 1000000 <;> simp [h]
@[simp] theorem w_semLst {ds : List D} : We (semLst ds S) P X = (ds.length ≤ 1000000 ∧ P (.lst ds) S) := by
  unfold semLst
  by_cases h : ds.length ≤ 1000000 <;> simp [h]
@[simp] theorem w_semLstH {ds : List D} : We (semLstH ds S) P X = (ds.length ≤ 1000000 ∧ P (.ptr S.length) (S ++ [.lst ds])) := by
  unfold semLstH
  by_cases h : ds.length ≤ 1000000 <;> simp [h]
@[simp] theorem boolsOf_mp {α : Type} {p : α → Bool} {xs : List α} : boolsOf (xs.map fun x => .bl (p x)) = some (xs.map p) := by
  induction xs with
  | nil => rfl
  | cons x xs ih => simp [boolsOf, ih]
@[simp] theorem all_lst {α : Type} {p : α → Bool} {xs : List α} : semAll [.lst (xs.map fun x => .bl (p x))] S = .ok (.bl (xs.all p)) S := by
  simp only [semAll, asL_lst', boolsOf_mp]
  simp [List.all_map, Function.comp_def]
@[simp] theorem any_lst {α : Type} {p : α → Bool} {xs : List α} : semAny [.lst (xs.map fun x => .bl (p x))] S = .ok (.bl (xs.any p)) S := by
  simp only [semAny, asL_lst', boolsOf_mp]
  simp [List.any_map, Function.comp_def]
@[simp] theorem listOf_lst {xs : List D} : semListOf [.lst xs] S = .ok (.lst xs) S := (rfl)
@[simp] theorem tupOf_lst {xs : List D} : semTupOf [.lst xs] S = .ok (.tup xs) S := (rfl)
@[simp] theorem tupOf_tpx {xs : List D} : semTupOf [.tpx xs] S = .ok (.tpx xs) S := (rfl)
@[simp] theorem tupOf_tup {xs : List D} : semTupOf [.tup xs] S = .ok (.tup xs) S := (rfl)
@[simp] theorem int_int {i : Int} : semInt [.int i] S = .ok (.int i) S := (rfl)
@[simp] theorem int_bl {b : Bool} : semInt [.bl b] S = .ok (.int (if b = true then 1 else 0)) S := (rfl)
@[simp] theorem strsOf_mp {xs : List (List Nat)} : strsOf (xs.map fun l => .str (tx l)) = some (xs.map tx) := by
  induction xs with
  | nil => rfl
  | cons x xs ih => simp [strsOf, ih]
theorem glued_empty : ∀ xs : List (List Nat), Txt.join (tx []) (xs.map tx) = tx xs.flatten := fun xs => by
  unfold Txt.join
  rw [StrLaws.glued_eq_join]
  induction xs with
  | nil => rfl
  | cons a xs ih =>
    cases xs with
    | nil => simp [Str.join]
    | cons b r =>
      simp only [List.map_cons, Str.join] at ih ⊢
      rw [ih]
      simp
@[simp] theorem w_join {xs : List (List Nat)} {d : D} (h : asS S d = some (xs.map fun l => .str (tx l))) : We (semJoin (.str (tx [])) [d] S) P X = ((xs.map List.length).sum ≤ 1000000 ∧ P (.str (tx xs.flatten)) S) := by
  simp only [semJoin, h, strsOf_mp]
  rw [glued_empty]
  have e : (List.map (fun x => x.length) (List.map tx xs)).sum + (List.map tx xs).length * (tx []).length = (xs.map List.length).sum := by
    rw [tx_len]
    simp only [List.length_nil, Nat.mul_zero, Nat.add_zero, List.map_map]
    congr 1
  rw [e]
  by_cases h : (xs.map List.length).sum ≤ 1000000 <;> simp [h]
@[simp] theorem w_append {xs : List D} {e : D} : We (semAppend (.ptr S.length) [e] (S ++ [.lst xs])) P X = (xs.length < 1000000 ∧ P .non (S ++ [.lst (xs ++ [e])])) := by
  simp only [semAppend]
  rw [List.getElem?_append_right (Nat.le_refl _)]
  simp only [Nat.sub_self, List.getElem?_cons_zero]
  by_cases h : xs.length < 1000000 <;> simp [h]
@[simp] theorem isKd_non_int : isKd .non "int" = some false := by decide
@[simp] theorem isKd_non_bool : isKd .non "bool" = some false := by decide
@[simp] theorem isKd_non_str : isKd .non "str" = some false := by decide
@[simp] theorem isKd_non_list : isKd .non "list" = some false := by decide
@[simp] theorem isKd_non_tuple : isKd .non "tuple" = some false := by decide
@[simp] theorem isKd_non_dict : isKd .non "dict" = some false := by decide
@[simp] theorem isKd_bl_int : isKd .bl "int" = some true := by decide
@[simp] theorem isKd_bl_bool : isKd .bl "bool" = some true := by decide
@[simp] theorem isKd_bl_str : isKd .bl "str" = some false := by decide
@[simp] theorem isKd_bl_list : isKd .bl "list" = some false := by decide
@[simp] theorem isKd_bl_tuple : isKd .bl "tuple" = some false := by decide
@[simp] theorem isKd_bl_dict : isKd .bl "dict" = some false := by decide
@[simp] theorem isKd_int_int : isKd .int "int" = some true := by decide
@[simp] theorem isKd_int_bool : isKd .int "bool" = some false := by decide
@[simp] theorem isKd_int_str : isKd .int "str" = some false := by decide
@[simp] theorem isKd_int_list : isKd .int "list" = some false := by decide
@[simp] theorem isKd_int_tuple : isKd .int "tuple" = some false := by decide
@[simp] theorem isKd_int_dict : isKd .int "dict" = some false := by decide
@[simp] theorem isKd_str_int : isKd .str "int" = some false := by decide
@[simp] theorem isKd_str_bool : isKd .str "bool" = some false := by decide
@[simp] theorem isKd_str_str : isKd .str "str" = some true := by decide
@[simp] theorem isKd_str_list : isKd .str "list" = some false := by decide
@[simp] theorem isKd_str_tuple : isKd .str "tuple" = some false := by decide
@[simp] theorem isKd_str_dict : isKd .str "dict" = some false := by decide
@[simp] theorem isKd_tup_int : isKd .tup "int" = some false := by decide
@[simp] theorem isKd_tup_bool : isKd .tup "bool" = some false := by decide
@[simp] theorem isKd_tup_str : isKd .tup "str" = some false := by decide
@[simp] theorem isKd_tup_list : isKd .tup "list" = some false := by decide
@[simp] theorem isKd_tup_tuple : isKd .tup "tuple" = some true := by decide
@[simp] theorem isKd_tup_dict : isKd .tup "dict" = some false := by decide
@[simp] theorem isKd_lst_int : isKd .lst "int" = some false := by decide
@[simp] theorem isKd_lst_bool : isKd .lst "bool" = some false := by decide
@[simp] theorem isKd_lst_str : isKd .lst "str" = some false := by decide
@[simp] theorem isKd_lst_list : isKd .lst "list" = some true := by decide
@[simp] theorem isKd_lst_tuple : isKd .lst "tuple" = some false := by decide
@[simp] theorem isKd_lst_dict : isKd .lst "dict" = some false := by decide
@[simp] theorem isKd_dct_int : isKd .dct "int" = some false := by decide
@[simp] theorem isKd_dct_bool : isKd .dct "bool" = some false := by decide
@[simp] theorem isKd_dct_str : isKd .dct "str" = some false := by decide
@[simp] theorem isKd_dct_list : isKd .dct "list" = some false := by decide
@[simp] theorem isKd_dct_tuple : isKd .dct "tuple" = some false := by decide
@[simp] theorem isKd_dct_dict : isKd .dct "dict" = some true := by decide
@[simp] theorem kdOf_non : kdOf S .non = some .non := (rfl)
@[simp] theorem kdOf_bl {b : Bool} : kdOf S (.bl b) = some .bl := (rfl)
@[simp] theorem kdOf_int {b : Int} : kdOf S (.int b) = some .int := (rfl)
@[simp] theorem kdOf_str {b : Str} : kdOf S (.str b) = some .str := (rfl)
@[simp] theorem kdOf_tup {b : List D} : kdOf S (.tup b) = some .tup := (rfl)
@[simp] theorem kdOf_tpx {b : List D} : kdOf S (.tpx b) = some .tup := (rfl)
@[simp] theorem isNon_tpx {b : List D} : isNon (.tpx b) = false := (rfl)
@[simp] theorem kdOf_lst {b : List D} : kdOf S (.lst b) = some .lst := (rfl)
@[simp] theorem kdOf_scr {b : List Int} : kdOf S (.scr b) = some .lst := (rfl)
@[simp] theorem kdOf_dct {a b : List D} : kdOf S (.dct a b) = some .dct := (rfl)
@[simp] theorem w_isi_ty {d : D} {T : String} : We (isiX [d, .ty T] S) P X = isO (kdOf S d) fun k => isO (isKd k T) fun b => P (.bl b) S := by
  cases e : kdOf S d with
  | none =>
    have : isiX [d, .ty T] S = .bad := by
      unfold isiX
      rw [orSL_r (by simp [semIsi, e])]
      simp [semIsiT]
    rw [this]; simp
  | some k =>
    cases e2 : isKd k T with
    | none =>
      have : isiX [d, .ty T] S = .bad := by
        unfold isiX
        rw [orSL_r (by simp [semIsi, e, e2])]
        simp [semIsiT]
      rw [this]; simp [e2]
    | some b =>
      have : isiX [d, .ty T] S = .ok (.bl b) S := by
        unfold isiX
        exact orSL_l (by simp [semIsi, e, e2])
      rw [this]; simp [e2]
@[simp] theorem w_isi_tup {d : D} {ts : List D} : We (isiX [d, .tup ts] S) P X = isO (kdOf S d) fun k => isO (tysOf ts) fun Ts => isO (isKds k Ts) fun b => P (.bl b) S := by
  have e0 : isiX [d, .tup ts] S = semIsiT [d, .tup ts] S := by
    unfold isiX
    exact orSL_r (by simp [semIsi])
  rw [e0]
  simp only [semIsiT]
  cases e : kdOf S d with
  | none => simp
  | some k =>
    cases e1 : tysOf ts with
    | none => simp
    | some Ts =>
      dsimp only
      cases e2 : isKds k Ts <;> simp [e2]
@[simp] theorem tysOf_nil : tysOf [] = some [] := (rfl)
@[simp] theorem tysOf_cons {T : String} {r : List D} : tysOf (.ty T :: r) = (tysOf r).map (T :: ·) := (rfl)
@[simp] theorem isKds_nil {k : Kd} : isKds k [] = some false := (rfl)
@[simp] theorem isKds_cons {k : Kd} {T : String} {r : List String} : isKds k (T :: r) = (isKd k T).bind fun b => (isKds k r).map fun c => b || c := by
  simp only [isKds]
  cases isKd k T <;> cases isKds k r <;> rfl
def okS (l : List Nat) : Prop := ∀ c ∈ l, c < 1114112
theorem okS_shaped {l : List Nat} (h : okS l) : SeqAt.shaped (.str (tx l)) = true := shaped_str (by
  unfold PyData.strOk
  simp
  exact h)
theorem eqD_str {a b : List Nat} (ha : okS a) (hb : okS b) : eqD false (.str (tx a)) (.str (tx b)) S = .ok (.bl (decide (a = b))) S := by
  simp [eqD, toP, toP0, PyData.eqv, okS_shaped ha, okS_shaped hb]
  by_cases h : a = b <;> simp [h]
theorem neD_str {a b : List Nat} (ha : okS a) (hb : okS b) : eqD true (.str (tx a)) (.str (tx b)) S = .ok (.bl (!decide (a = b))) S := by
  simp [eqD, toP, toP0, PyData.eqv, okS_shaped ha, okS_shaped hb]
  by_cases h : a = b <;> simp [h]
@[simp] theorem eqD_bl {a b : Bool} : eqD false (.bl a) (.bl b) S = .ok (.bl (decide (a = b))) S := by
  simp [eqD, toP, toP0, PyData.eqv]
  cases a <;> cases b <;> rfl
@[simp] theorem neD_bl {a b : Bool} : eqD true (.bl a) (.bl b) S = .ok (.bl (!decide (a = b))) S := by
  simp [eqD, toP, toP0, PyData.eqv]
  cases a <;> cases b <;> rfl
@[simp] theorem isN_is {d : D} {neg : Bool} : isN neg d .non S = .ok (.bl (if neg = true then !isNon d else isNon d)) S := (rfl)
@[simp] theorem isNon_non : isNon .non = true := (rfl)
@[simp] theorem isNon_bl {b : Bool} : isNon (.bl b) = false := (rfl)
@[simp] theorem isNon_int {b : Int} : isNon (.int b) = false := (rfl)
@[simp] theorem isNon_str {b : Str} : isNon (.str b) = false := (rfl)
@[simp] theorem isNon_tup {b : List D} : isNon (.tup b) = false := (rfl)
@[simp] theorem isNon_lst {b : List D} : isNon (.lst b) = false := (rfl)
@[simp] theorem fldsOf_ins {c : Str} {ns : List Str} {vs : List D} : fldsOf S (.ins c ns vs) = some (c, ns, vs) := (rfl)
end
end Z
namespace Z
open PySem PySem.Spec L2
def bagD (cs : List Int) (a g s : Int) : MO := .lst [.lst (cs.map .int), .int a, .int g, .int s]
theorem underL_ints (k : Nat) : ∀ cs : List Int, underL k (cs.map .int) = true
  | [] => rfl
  | c :: cs => by rw [List.map_cons, underL, under, underL_ints k cs]; rfl
theorem under_bag (k : Nat) (cs : List Int) (a g s : Int) : underM k (bagD cs a g s) = true := by
  simp [bagD, underM, underL, under, underL_ints]
structure BagAt (S : Store) (n : Nat) (cs : List Int) (a g s : Int) : Prop where
  at_ : S[n]? = some (bagD cs a g s)
  a0 : 0 ≤ a
  g0 : 0 ≤ g
  s0 : 0 ≤ s
  s1 : s < 2147483563
def IsBag (S : Store) (n : Nat) (cs : List Int) : Prop := ∃ a g s, BagAt S n cs a g s
/-- S' is S with another state of the bag -/
def Drawn (n : Nat) (cs : List Int) (S S' : Store) : Prop := IsBag S' n cs ∧ ∃ a g s, S' = S.set n (bagD cs a g s)
section
variable {S S' S'' T : Store} {n : Nat} {cs : List Int}
theorem IsBag.lt (h : IsBag S n cs) : n < S.length := by
  obtain ⟨a, g, s, h⟩ := h
  exact (List.getElem?_eq_some_iff.mp h.at_).1
theorem Drawn.trans (h : Drawn n cs S S') (h' : Drawn n cs S' S'') : Drawn n cs S S'' := by
  obtain ⟨_, a, g, s, e⟩ := h
  obtain ⟨b, a', g', s', e'⟩ := h'
  exact ⟨b, a', g', s', by rw [e', e]; simp⟩
theorem Drawn.len (h : Drawn n cs S S') : S'.length = S.length := by
  obtain ⟨_, a, g, s, e⟩ := h
  rw [e]; simp
theorem Drawn.keep (h : Drawn n cs S S') : Keep S S' := by
  obtain ⟨_, a, g, s, e⟩ := h
  rw [e]
  exact Keep.set (under_bag _ _ _ _ _)
theorem Drawn.get (h : Drawn n cs S S') {i : Nat} (hi : i ≠ n) : S'[i]? = S[i]? := by
  obtain ⟨_, a, g, s, e⟩ := h
  rw [e, List.getElem?_set_ne (Ne.symm hi)]
end
/-- h draws: it answers R, and changes the bag alone -/
def DF (n : Nat) (cs : List Int) (h : Store → Out D) (R : D → Prop) : Prop := ∀ S, IsBag S n cs → We (h S) (fun d S' => Drawn n cs S S' ∧ R d) (fun _ _ => False)
section
variable {n : Nat} {cs : List Int} {h : Store → Out D} {R : D → Prop} {S T : Store} {P : D → Store → Prop} {X : D → Store → Prop}
theorem DF.imp {R' : D → Prop} (H : DF n cs h R) (k : ∀ d, R d → R' d) : DF n cs h R' := fun S hB => (H S hB).post fun d S' ⟨h1, h2⟩ => ⟨h1, k d h2⟩
end
theorem we_def {N n : Nat} {body : SX} {ds : List D} {S : Store} {P X : D → Store → Prop} (hl : ds.length = n) (h : Wo (body (ds.map some ++ List.replicate (N - ds.length) none) S) (QF S P X)) : We (arity n (defS N body) ds S) P X := by
  rw [w_arity hl, we_defS]
  exact h
def abc : List Nat := List.range' 97 26
@[simp] theorem lit_abc : (("abcdefghijklmnopqrstuvwxyz" : Str)) = tx abc := by decide +kernel
@[simp] theorem lit_empty : (("" : Str)) = tx [] := by decide +kernel
/-- small letters, each above the one before -/
structure Alpha (l : List Nat) : Prop where
  asc : l.Pairwise (· < ·)
  low : ∀ c ∈ l, c ∈ abc
mutual
/-- plain data of a depth at most k -/
def plain : Nat → D → Prop
  | _, .non => True
  | _, .bl _ => True
  | _, .int _ => True
  | _, .str s => okS s.cps.toList
  | k + 1, .tup xs => plainL k xs ∧ xs.length ≤ 1000000
  | k + 1, .tpx xs => plainL k xs ∧ xs.length ≤ 1000000
  | k + 1, .lst xs => plainL k xs ∧ xs.length ≤ 1000000
  | _, _ => False
def plainL : Nat → List D → Prop
  | _, [] => True
  | k, d :: ds => plain k d ∧ plainL k ds
end
@[simp] theorem plain_non {k : Nat} : plain k .non := by cases k <;> simp [plain]
@[simp] theorem plain_bl {k : Nat} {b : Bool} : plain k (.bl b) := by cases k <;> simp [plain]
@[simp] theorem plain_int {k : Nat} {b : Int} : plain k (.int b) := by cases k <;> simp [plain]
@[simp] theorem plain_str {k : Nat} {l : List Nat} : plain k (.str (tx l)) = okS l := by cases k <;> simp [plain]
theorem eq_of_we {α : Type} {o : Out α} {a : α} {S : Store} (h : We o (fun r S' => r = a ∧ S' = S) (fun _ _ => False)) : o = .ok a S := by
  obtain ⟨r, S', e, h1, h2⟩ := h.get
  rw [e, h1, h2]
end Z
namespace ZX
open PySem PySem.W PySem.Calls PyProof.Rows PySem.Spec
/-- a def that closes over __class__, D its class -/
structure SupFn (prog : Program) (K : Frag) (f D : Addr) (qual : Str) (params : Arguments) (body : List Stmt) (scope : Scope) : Prop where
  ex : ∃ (oc : Value) (od : Option Addr) (name : Str) (kV doc pm : Value) (an : Option Addr) (cda cc : Addr) (ct : Value) (osl : Array (Option Value)),
     K.lookup f = some ⟨oc, od, .func (ksFn name qual params body scope .none kV doc pm an (.ref cda) ct cc), osl⟩ ∧ codeIn K (.ref cda) qual = true ∧
     (∃ ccl cdd ccs vs file tf, K.lookup cda = some ⟨ccl, cdd, .fields vs, ccs⟩ ∧ vs[2]? = some (.str file tf) ∧ ((prog.main.file : Str) == file) = true) ∧
     (∃ cl cld csl, K.lookup cc = some ⟨cl, cld, .cell (some (.ref D)), csl⟩)
  cls : ∃ cdD, clsIn K D = some cdD
  fn : (K.lookup f).map (·.cls) = some (.type "function")
section
variable {prog : Program} {w : World} {A : Around} {E : Value → Shared → Prop} {s : Shared} {K : Frag} {mg : Str → Option Value} {base : Heap} {L x C D f : Addr} {m : Str → Option Value} {B i newId : String} {bmB : List Value}
abbrev exd (C t : Addr) (dd : Option Addr) : Obj := excObj C t dd .none
variable {t dx : Addr} {name : Str} {v : Value} {m0 : Str → Option Value} {nl : List Str}
end
open L2 (V Vals RelV RelO)
def InitOk (prog : Program) (w : World) (base : Heap) (k : Nat) (f C : Addr) (G : List V → Option (List (Str × V))) : Prop :=
  ∀ (A : Around) (s : Shared) (x t : Addr) (us : List Value) (vs : List V) (fs : List (Str × V)) (R : Result → Shared → Prop), A.depth + k < recursionLimit → (∀ b o, base.get? b = some o → s.heap.get? b = some o) → base.get? x = none → s.heap.get? x = some (exd C t none) → Vals vs us → G vs = some fs →
    (∀ h' tk t' dx m, (∀ b o, b ≠ x → s.heap.get? b = some o → h'.get? b = some o) → s.heap.objs.size ≤ dx → h'.get? x = some (exd C t' (some dx)) → h'.Ns1 dx m → (∀ g, RelO (fs.lookup g) (m g)) → R (.ok (.ret .none)) { s with heap := h', toks := tk }) →
    codeAny (model prog w) A (.call (.ref f) ⟨.ref x :: us, []⟩) R s
/-- how an expression of the __init__ reads: a parameter, a text -/
inductive Rd1 (env : Env) (vof : Str → V) : Expr → V → Prop
  | par {p : Str} {pos : Pos} (hk : env.kindOf p = some .local) (hd : (p == ("__debug__" : Str)) = false) : Rd1 env vof (.Name p pos) (vof p)
  | txt {x : Str} {j : Nat} {pos : Pos} : Rd1 env vof (.Constant (.str x) j pos) (.str x)
theorem Rd1.run {prog : Program} {w : World} {A : Around} {E : Value → Shared → Prop} {env : Env} {vof : Str → V} {e : Expr} {y : V} {L : Addr} {m : Str → Option Value} (r : Rd1 env vof e y) (hk : env.scope.kind = .function) (hL : env.locals = L) (hm : ∀ p, env.kindOf p = some .local → ∃ u, m p = some u ∧ RelV (vof p) u) {s1 : Shared} {Q1 : Value → Shared → Prop} (hn : s1.heap.Ns L m)
    (h : ∀ v tk, RelV y v → Q1 v { s1 with toks := tk }) : wpAny (model prog w) A (eval e env) Q1 E s1 := by
  cases r with
  | par hkp hd =>
    obtain ⟨u, hu, ru⟩ := hm _ hkp
    exact wpAny_Name (wpAny_loadName_local hk hkp (by rw [hL]; exact hn) hu (h u s1.toks ru)) hd
  | txt => exact wpAny_Constant_str (h _ _ ⟨_, rfl⟩)
end ZX
namespace Z
open PySem PySem.Spec L2
def excS (c tag : Str) (flds : List Str) : SemL := fun ds S => if ds.length = flds.length then .ok (.exc c (flds.reverse ++ [("tag" : Str)]) (ds.reverse ++ [D.str tag])) S else .bad
section
variable {X : Cx} {W : WX} {k : Nat} {C : Addr} {x tag : Str} {flds : List Str} {p pos : Pos} {e : Expr} {es : List Expr} {fa : AX}
def sRaise (f : EX) : SX := fun sl S => match f sl S with
  | .ok (.exc c ns ds) S' => .ex (.ins c ns ds) sl S'
  | .ok _ _ => .bad
  | .ex e S' => .ex e sl S'
  | .bad => .bad
end
end Z
namespace L2
open PySem PySem.Spec PyProof.Rows
end L2
namespace Z
open PySem PySem.Spec L2 PyProof.Rows
def eXat (f : Str) (cs : List Str) (fo : EX) : EX := fun sl S => (fo sl S).bind fun d S1 => match d with
  | .exc c ns vs => if c ∈ cs then (match lookN f ns vs with
    | some v => .ok v S1
    | none => .bad) else .bad
  | _ => .bad
def sTry (tab : List (Str × Bool)) (i : Nat) (fb fs : SX) : SX := fun sl S => match fb sl S with
  | .ex (.ins c ns ds) sl1 S1 => (match tab.lookup c with
    | some true => (match fs (sl1.set i (some (.exc c ns ds))) S1 with
      | .nx sl2 S2 => .nx (sl2.set i none) S2
      | .bk sl2 S2 => .bk (sl2.set i none) S2
      | .ct sl2 S2 => .ct (sl2.set i none) S2
      | .rt d S2 => .rt d S2
      | _ => .bad)
    | some false => .ex (.ins c ns ds) sl1 S1
    | none => .bad)
  | o => o
end Z
namespace Z
open PySem PySem.Spec L2 PyProof.Rows
abbrev Cs := List (Addr × Obj)
/-- the cells stand in the heap, nobody tracks them -/
structure CsOk (cs : Cs) (fs : List Addr) (H : Hp) (h : Heap) : Prop where
  get : ∀ c o, cs.lookup c = some o → h.get? c = some o
  non : ∀ c o, cs.lookup c = some o → H c = none
  nofs : ∀ c o, cs.lookup c = some o → c ∉ fs
/-- the cells are tracked -/
def CsIn (cs : Cs) (H : Hp) : Prop := ∀ c o, cs.lookup c = some o → H c = some (.frz o (.own 0))
section
variable {P : Program} {w : World} {cs : Cs} {fs ρ : List Addr} {H H' H2 : Hp} {h h' : Heap} {K : PySem.W.Frag} {mg : Str → Option Value} {S : Store}
theorem CsOk.out (c : CsOk cs fs H h) {b : Addr} {u : HO} (e : H b = some u) : cs.lookup b = none := by
  cases q : cs.lookup b with
  | none => rfl
  | some o => rw [c.non b o q] at e; cases e
theorem CsIn.out (c : CsIn cs H) {b : Addr} {u : HO} (e : H b = some u) (n : ∀ o, u ≠ .frz o (.own 0)) : cs.lookup b = none := by
  cases q : cs.lookup b with
  | none => rfl
  | some o => rw [c b o q] at e; cases e; exact absurd rfl (n o)
def noLcS (S : Store) : Bool := S.all noLcM
end
end Z
namespace Z
open PySem PySem.Spec L2 PyProof.Rows
def slotAt (N : List Str) (sl : Sl) (n : Str) : Option D := ((N.zip sl).lookup n).bind id
def capsOf (N : List Str) (sl : Sl) : List Str → Option (List D)
  | [] => some []
  | n :: ns => match slotAt N sl n, capsOf N sl ns with
    | some d, some r => some (d :: r)
    | _, _ => none
/-- what a def of cells cn may hand on -/
def lamFit (cn : List Str) (κ : List (Str × Addr)) (T : LamText) (clo : List (Str × Addr)) : Prop := clo = cloFrom κ T.scope.names [] ∧ T.names.Nodup ∧ ∀ n ∈ T.names, n ∈ cn ∧ T.scope.names.lookup n = some .free
noncomputable section
open Classical in
mutual
def conv (cn N : List Str) (κ : List (Str × Addr)) (sl : Sl) : D → Option D
  | .lam T clo => if lamFit cn κ T clo then (capsOf N sl T.names).map (.lamc T) else none
  | .lst xs => (convL cn N κ sl xs).map .lst
  | .tup xs => (convL cn N κ sl xs).map .tup
  | .tpx xs => (convL cn N κ sl xs).map .tpx
  | d => some d
def convL (cn N : List Str) (κ : List (Str × Addr)) (sl : Sl) : List D → Option (List D)
  | [] => some []
  | d :: ds => match conv cn N κ sl d, convL cn N κ sl ds with
    | some a, some b => some (a :: b)
    | _, _ => none
end
end
noncomputable def callL (cn N : List Str) (κ : List (Str × Addr)) (g : SemL) (fa : AX) : EX := fun sl S => (fa sl S).bind fun ds S1 => match convL cn N κ sl ds with
  | some ds' => (match g ds' S1 with
    | .ok d S2 => if noLc d = true ∧ noLcS S2 = true then .ok d S2 else .bad
    | _ => .bad)
  | none => .bad
end Z
namespace Z
open PySem PySem.Spec L2 PyProof.Rows
/-- the cells of the names, untracked -/
def CellsH (H : Hp) (h : Heap) (clo : List (Str × Addr)) : List Str → List V → Prop
  | [], vs => vs = []
  | n :: ns, vs => ∃ v r c o u, vs = v :: r ∧ clo.lookup n = some c ∧ H c = none ∧ h.get? c = some o ∧ o.data = .cell (some u) ∧ RelV v u ∧ (∀ m ∈ ns, clo.lookup m ≠ some c) ∧ CellsH H h clo ns r
def DfH (h : Heap) (dvs : List V) (dV : Value) : Prop := (dvs = [] ∧ dV = .none) ∨ (dvs ≠ [] ∧ ∃ (t : Addr) (us : List Value), dV = .ref t ∧ Vals dvs us ∧ IsTup h t us.toArray)
/-- what a lambda's text keeps, called with its captured values -/
def LamOk (P : Program) (w : World) (K : PySem.W.Frag) (mg : Str → Option Value) (base : Heap) (k : Nat) (T : LamText) (l : SemL) : Prop :=
  ∀ (A : Around) (outer : List Env) (s : Shared) (H : Hp) (f c' : Addr) (clo : List (Str × Addr)) (pm doc dV ctv : Value) (ρ : List Addr) (S : Store) (caps : List D) (vs : List V) (Q : VK) (E : XK), Room k A → Env0 P w K mg base A outer s H →
    s.heap.get? f = some (PySem.W.kdv_obj "<lambda>" T.qual T.params (.expr T.body) T.scope clo dV doc pm c' ctv) → (∃ (oc : Obj) (ws : Array Value) (t : Tok), s.heap.get? c' = some oc ∧ oc.data = .fields ws ∧ ws[1]? = some (.str T.qual t)) → DfH s.heap T.dvs dV → CellsH H s.heap clo T.names vs → (∃ κ, clo = cloFrom κ T.scope.names []) →
    WOk K mg ρ H S → RepL K mg ρ H caps vs → PostE K mg E ρ H Q (l caps S) → codeAny (model P w) A (.call (.ref f) ⟨[], []⟩) (CR (Z.CX P w) outer P w H s Q E) s
end Z
namespace Z
open PySem PySem.Spec L2 PyProof.Rows
end Z
namespace Z
open PySem PySem.Spec L2 PyProof.Rows
section
variable {X : Cx} {pins : List (Addr × Obj)} {σ : L2.St} {H : Hp} {s : Shared}
/-- a lambda, its text told -/
def eLam (ti : Nat) (P : Addr) (κ : List (Str × Addr)) (T : LamText) : EX := fun _ S => match S[ti]? with
  | some (.tab P' q) => open Classical in if P' = P ∧ q = T.qual then .ok (.lam T (cloFrom κ T.scope.names [])) S else .bad
  | _ => .bad
variable {W : WX} {ti : Nat} {c P : Addr} {T : LamText} {pos : Pos}
end
end Z
namespace Z
open PySem PySem.Spec L2 PyProof.Rows
end Z
namespace Z
open PySem L2
section
variable {Q : Q0} {sl : Sl} {S : Store} {P : D → Store → Prop} {X : D → Store → Prop}
/-- what the suite's end is worth behind the clause -/
def suiteQ (i : Nat) (Q : Q0) : Q0 := ⟨fun sl S => Q.nx (sl.set i none) S, fun sl S => Q.bk (sl.set i none) S, fun sl S => Q.ct (sl.set i none) S, Q.rt, fun _ _ _ => False⟩
def catchQ (tab : List (Str × Bool)) (i : Nat) (fs : SX) (Q : Q0) (e : D) (sl : Sl) (S : Store) : Prop := match e with
  | .ins c ns ds => match tab.lookup c with
    | some true => Wo (fs (sl.set i (some (.exc c ns ds))) S) (suiteQ i Q)
    | some false => Q.ex (.ins c ns ds) sl S
    | none => False
  | e => Q.ex e sl S
end
end Z
namespace Z
open PySem PySem.Spec L2
section
variable {X : Cx}
def intsOf : List D → Option (List Int)
  | [] => some []
  | .int i :: r => (intsOf r).map (i :: ·)
  | _ :: _ => none
def semBool : SemL := fun ds S => match ds with
  | [.int i] => .ok (.bl (i != 0)) S
  | [.bl b] => .ok (.bl b) S
  | _ => .bad
end
end Z
namespace PySem.W
open PySem PySem.Calls PyProof.Rows Builtin
end PySem.W
namespace Z
open PySem PySem.Spec L2 PyProof.Rows
/-- an operator by data that may raise -/
structure OpW (X : Cx) (W : WX) (f : Value → Value → Sem Value) (sem : Sem2) : Prop where
  go : ∀ (pins : List (Addr × Obj)) (s : Shared) (σ : L2.St) (ρ : List Addr) (H : Hp) (S : Store) (d e : D) (x y : V) (v u : Value) (Q : VK), Inv X pins σ H s → RelV x v → RelV y u → WOk X.K X.mg ρ H S → Rep X.K X.mg ρ H d x → Rep X.K X.mg ρ H e y →
    PostE X.K X.mg (fun C dd H' => W C dd σ H') ρ H Q (sem d e S) → wpAny (model X.prog X.w) X.A (f v u) (EP X pins σ Q) X.xe s
structure UnW (X : Cx) (W : WX) (f : Value → Sem Value) (sem : Sem1) : Prop where
  go : ∀ (pins : List (Addr × Obj)) (s : Shared) (σ : L2.St) (ρ : List Addr) (H : Hp) (S : Store) (d : D) (x : V) (v : Value) (Q : VK), Inv X pins σ H s → RelV x v → WOk X.K X.mg ρ H S → Rep X.K X.mg ρ H d x →
    PostE X.K X.mg (fun C dd H' => W C dd σ H') ρ H Q (sem d S) → wpAny (model X.prog X.w) X.A (f v) (EP X pins σ Q) X.xe s
structure CallW (X : Cx) (W : WX) (f : Value) (sem : SemL) : Prop where
  go : ∀ (pins : List (Addr × Obj)) (s : Shared) (σ : L2.St) (ρ : List Addr) (H : Hp) (S : Store) (ds : List D) (xs : List V) (us : List Value) (Q : VK), Inv X pins σ H s → Vals xs us → WOk X.K X.mg ρ H S → RepL X.K X.mg ρ H ds xs →
    PostE X.K X.mg (fun C dd H' => W C dd σ H') ρ H Q (sem ds S) → wpAny (model X.prog X.w) X.A (call f us) (EP X pins σ Q) X.xe s
/-- a value's truth -/
abbrev SemB := D → Store → Out Bool
def orSB (f g : SemB) : SemB := fun d S => match f d S with
  | .bad => g d S
  | r => r
section
variable {X : Cx} {W : WX} {a b : Expr} {fa fb : EX} {pos : Pos}
theorem OpD.w {f : Value → Value → Sem Value} {sem : Sem2} (h : OpD X f sem) : OpW X W f sem := ⟨fun pins s σ ρ H S d e x y v u Q I rv ru w rx ry p => by
  obtain ⟨r, o, g⟩ := h.go
  exact o pins s σ H x y v u Q I rv ru (g _ ρ H S d e x y Q w rx ry p)⟩
theorem UnD.w {f : Value → Sem Value} {sem : Sem1} (h : UnD X f sem) : UnW X W f sem := ⟨fun pins s σ ρ H S d x v Q I rv w rx p => by
  obtain ⟨r, o, g⟩ := h.go
  exact o pins s σ H x v Q I rv (g _ ρ H S d x Q w rx p)⟩
theorem CallD.w {f : Value} {sem : SemL} (h : CallD X f sem) : CallW X W f sem := ⟨fun pins s σ ρ H S ds xs us Q I rv w rx p => by
  obtain ⟨r, o, g⟩ := h.go
  exact o pins s σ H xs us Q I rv (g _ ρ H S ds xs Q w rx p)⟩
/-- a test by a value's truth -/
def bTru (sem : SemB) (f : EX) : BX := fun sl S => (f sl S).bind sem
/-- what may stand at the right: one of the same class, or of a built-in type -/
def okRt (S : Store) (c : Str) (e : D) : Bool := match fldsOf S e with
  | some (c', _, _) => decide (c' = c)
  | none => (kdOf S e).isSome
def ownOp (tab : List (Str × SemL)) : Sem2 := fun d e S => match fldsOf S d with
  | some (c, _, _) => (match tabOf tab c with
    | some g => if okRt S c e = true then g [d, e] S else .bad
    | none => .bad)
  | none => .bad
def own1 (tab : List (Str × SemL)) : Sem1 := fun d S => match fldsOf S d with
  | some (c, _, _) => (match tabOf tab c with
    | some g => g [d] S
    | none => .bad)
  | none => .bad
def asB : D → Store → Out Bool := fun r S => match r with
  | .bl b => .ok b S
  | _ => .bad
def truPl : SemB := asB
def ownTru (tab : List (Str × SemL)) : SemB := fun d S => (own1 tab d S).bind asB
/-- what may stand at the right of == -/
def okRtE (oth : List Str) (S : Store) (e : D) : Bool := match fldsOf S e with
  | some (c', _, _) => decide (c' ∈ oth)
  | none => (kdOf S e).isSome
def ownEq (neg : Bool) (oth : List Str) (tab : List (Str × SemL)) : Sem2 := fun d e S => match fldsOf S d with
  | some (c, _, _) => (match tabOf tab c with
    | some g => if okRtE oth S e = true then (g [d, e] S).bind (fun r S' => match r with
      | .bl b => .ok (.bl (if neg = true then !b else b)) S'
      | _ => .bad) else .bad
    | none => .bad)
  | none => .bad
def ownC1 (ck : D → Bool) (tab : List (Str × SemL)) : SemL := fun ds S => match ds with
  | [d] => (own1 tab d S).bind (fun r S' => if ck r = true then .ok r S' else .bad)
  | _ => .bad
structure InsT (K : PySem.W.Frag) (C : Addr) : Prop where
  cl : Cls K C
  ha : PySem.W.findIn K (.ref C) "__class__" = some (some (.builtin "object.__class__"))
  ob : PySem.W.mroIn K C (.type "object") = some true
theorem cls_get (K : PySem.W.Frag) : PySem.W.specialIn K (.builtin "object.__class__") "__get__" = some (some (.builtin "getset_descriptor.__get__")) := by kernel_rfl
theorem cls_takes (K : PySem.W.Frag) : PySem.W.takesIn K (.builtin "object.__class__") = some true := by kernel_rfl
theorem InsT.ty {K : PySem.W.Frag} {C a dx : Addr} {H : Hp} {fs : List (Str × V)} (t : InsT K C) (e : H a = some (.ins C dx fs)) : TyX K H (.ref a) (.ref C) := .base (.ins e t.cl t.ha (cls_get K) (cls_takes K) t.ob)
def isiO (tab : List (Str × List Str × List Str)) : SemL := fun ds S => match ds with
  | [d, .cls D] => (match tab.lookup D with
    | some (yes, no) => (match fldsOf S d with
      | some (c, _, _) => if c ∈ yes then .ok (.bl true) S else if c ∈ no then .ok (.bl false) S else .bad
      | none => if (kdOf S d).isSome = true then .ok (.bl false) S else .bad)
    | none => .bad)
  | _ => .bad
end
end Z
namespace Z
open PySem PySem.Spec L2 PyProof.Rows
theorem Fun.d {K : PySem.W.Frag} {x qual : Str} {st : Stmt} {f : Addr} {fd : FuncData} (F : Fun K x qual st f fd) : FunD K x qual (defArgs st) (defBody st) (defScope st) [] [] f fd := by
  obtain ⟨oc, od, kV, doc, pm, an, cdv, ct, osl, e, lk, hcd⟩ := F.ex
  exact ⟨⟨oc, od, .none, kV, doc, pm, an, cdv, ct, osl, e, lk, hcd, .inl ⟨rfl, rfl⟩, .inl rfl⟩, F.kp⟩
section
variable {P : Program} {w : World} {K : PySem.W.Frag} {mg : Str → Option Value} {base : Heap}
/-- all arguments, or all but those with defaults -/
def defsS (n : Nat) (dds : List D) (g : SemL) : SemL := fun ds S => if ds.length = n then g ds S else if ds.length + dds.length = n then g (ds ++ dds) S else .bad
end
section
variable {X : Cx} {W : WX}
theorem PK.imp {kws : List Keyword} {t t' : TA} (h : PK X kws t) (k : ∀ σ H Q, t' σ H Q → t σ H Q) : PK X kws t' := ⟨fun pos pins s σ H Q I q => h.run pos pins s σ H Q I (k σ H Q q)⟩
variable {k n : Nat} {f C : Addr} {g : SemL} {x m : Str} {p pos apos : Pos} {e o : Expr} {es : List Expr} {fa fk : AX} {fo fe : EX} {ks : List Str} {kws : List Keyword}
/-- x(e, .., k = v, ..) -/
def eCallK (n m : Nat) (g : SemL) (fa fk : AX) : EX := fun sl S => (fa sl S).bind fun ds S1 => (fk sl S1).bind fun es S2 => if ds.length = n ∧ es.length = m then g (ds ++ es) S2 else .bad
/-- o.m(e, .., k = v, ..) -/
def eMethK (m : Str) (n mm : Nat) (tab : List (Str × SemL)) (fo : EX) (fa fk : AX) : EX := fun sl S => (fo sl S).bind fun d S1 => match fldsOf S1 d with
  | some (c, ns, _) => if m ∈ ns then .bad else (match tabOf tab c with
    | some g => (fa sl S1).bind fun ds S2 => (fk sl S2).bind fun es S3 => if ds.length = n ∧ es.length = mm then g (d :: (ds ++ es)) S3 else .bad
    | none => .bad)
  | none => .bad
end
end Z
namespace Z
open PySem PySem.Spec L2 PyProof.Rows
section
variable {X : Cx} {W : WX} {k n : Nat} {f C : Addr} {g : SemL} {x m : Str} {p pos apos : Pos} {e o : Expr} {es : List Expr} {fa fk : AX} {fo fe : EX} {ks : List Str} {kws : List Keyword}
def semFmt : Sem1 := fun d S => match d with
  | .str y => if y.length ≤ 1000000 then .ok (.str y) S else .bad
  | .int i => if i.natAbs.log2 < 1920 then .ok (.str (toString i)) S else .bad
  | _ => .bad
def joinGo : List EX → Str → Sl → Store → Out D
  | [], acc, _, S => .ok (.str acc) S
  | f :: fs, acc, sl, S => (f sl S).bind fun d S1 => match d with
    | .str y => if (acc ++ y).length ≤ 1000000 then joinGo fs (acc ++ y) sl S1 else .bad
    | _ => .bad
def eJoin (fs : List EX) : EX := fun sl S => joinGo fs Str.empty sl S
def sPar3 (i j l : Nat) (f : AX) : SX := fun sl S => (f sl S).toS sl fun ds S' => match ds with
  | [d, e, g] => .nx (((sl.set i (some d)).set j (some e)).set l (some g)) S'
  | _ => .bad
def gLstX (gs : GXs) : GX := fun d sl S => match asL S d with
  | some ds => gs ds sl S
  | none => .bad
end
end Z
namespace ZX
open PySem PySem.W PySem.Calls PyProof.Rows PySem.Spec
open L2 (V Vals RelV RelO)
theorem InitOk.mono {prog : Program} {w : World} {base : Heap} {j k : Nat} {f C : Addr} {G : List V → Option (List (Str × V))} (h : InitOk prog w base j f C G) (e : j ≤ k) : InitOk prog w base k f C G :=
  fun A s x t us vs fs R hd => h A s x t us vs fs R (by omega)
end ZX
namespace Z
open PySem PySem.Spec L2 PyProof.Rows
end Z
namespace Z
open PySem PySem.Spec L2 PyProof.Rows
section
variable {X : Cx} {W : WX}
def eBad : EX := fun _ _ => .bad
end
section
variable {P : Program} {w : World} {K : PySem.W.Frag} {mg : Str → Option Value} {base : Heap}
theorem LamOk.mono {j k : Nat} {T : LamText} {l : SemL} (h : LamOk P w K mg base j T l) (e : j ≤ k) : LamOk P w K mg base k T l := fun A outer s H f c' clo pm doc dV ctv ρ S caps vs Q E hr => h A outer s H f c' clo pm doc dV ctv ρ S caps vs Q E (hr.mono e)
end
end Z
namespace PySem.W
open PySem PySem.Calls PyProof.Rows
end PySem.W
namespace Z
open PySem PySem.Spec L2
end Z
namespace Z
open PySem PySem.Spec L2 PyProof.Rows
/-- what a set of the texts l holds, and that it can be walked -/
structure TxR (P : Program) (w : World) (D : PySem.Froz.SD) (l : List Str) : Prop where
  ok : PySem.Froz.TxOk P w D l
  ris : L2.Ris D.2.2.place.toList
  led : w.params.followText "set-order" = true ∨ D.2.2.led = true
section
variable {P : Program} {w : World} {A : Around} {E : Value → Shared → Prop} {s : Shared}
theorem TxR.add {D : PySem.Froz.SD} {l : List Str} {k : Str} (u : Tok) (F : TxR P w D l) : TxR P w (PySem.Froz.addTx (hashStr w k) (.str k u) D) (k :: l) := by
  obtain ⟨es, ep, t⟩ := D
  have hr := L2.layNew_ris t es (hashStr w k) (.str k u) F.ris
  have hl := L2.layNew_led t es (hashStr w k) (.str k u)
  have led : ∀ t' : SetTable, t'.led = t.led → w.params.followText "set-order" = true ∨ t'.led = true := fun t' e => F.led.imp id fun z => by rw [e]; exact z
  have both : ∀ (ep' : Nat) (es1 : Array (Int × Value)) (t2 : SetTable) (wd : Bool), L2.Ris t2.place.toList → t2.led = t.led →
      L2.Ris (PySem.Froz.tailTx ep' es1 t2 wd).2.2.place.toList ∧ (PySem.Froz.tailTx ep' es1 t2 wd).2.2.led = t.led := fun ep' es1 t2 wd h1 h2 => by
    unfold PySem.Froz.tailTx
    split
    · exact ⟨L2.relayAll_ris _ _ _, (L2.relayAll_led _ _ _).trans h2⟩
    · exact ⟨h1, h2⟩
  have key : L2.Ris (PySem.Froz.addTx (hashStr w k) (.str k u) (es, ep, t)).2.2.place.toList ∧ (PySem.Froz.addTx (hashStr w k) (.str k u) (es, ep, t)).2.2.led = t.led := by
    unfold PySem.Froz.addTx
    refine both _ _ _ _ ?_ ?_
    · dsimp only
      split <;> exact hr
    · dsimp only
      split <;> exact hl
  exact ⟨PySem.Froz.add_ok u F.ok, key.1, led _ key.2⟩
end
end Z
namespace Z
open PySem PySem.Spec L2 PyProof.Rows
end Z
namespace Z
open PySem PySem.Spec L2 PyProof.Rows
/-- the texts of data -/
def strsD : List D → Option (List Str)
  | [] => some []
  | .str x :: r => (strsD r).map (x :: ·)
  | _ :: _ => none
@[simp] theorem strsD_map (xs : List Str) : strsD (xs.map D.str) = some xs := by
  induction xs with
  | nil => rfl
  | cons x xs ih => rw [List.map_cons, strsD, ih]; rfl
end Z
namespace Z
open PySem PySem.Spec L2 PyProof.Rows
end Z
namespace Z
open PySem PySem.Spec L2 PyProof.Rows
noncomputable def ltP : Sem2 := fun d e S => match toP S d, toP S e with
  | some a, some b => open Classical in if PySem.W.alike a b = true ∧ a ≠ .none ∧ a.depth ≤ 50 then .ok (.bl (PySem.W.dataLt a b)) S else .bad
  | _, _ => .bad
noncomputable def ltXD : Sem2 := orS2 ltX ltP
end Z
namespace Z
open PySem PySem.Spec L2 PyProof.Rows
end Z
namespace Z
open PySem PySem.Spec L2
theorem char_inj {a b : Char} (h : a.toNat = b.toNat) : a = b := Char.ext (UInt32.toNat_inj.mp h)
@[simp] theorem ofString_inj {a b : String} : Str.ofString a = Str.ofString b ↔ a = b := by
  constructor
  · intro h
    rw [Str.ofString_eq_toList, Str.ofString_eq_toList] at h
    have h2 : a.toList.map Char.toNat = b.toList.map Char.toNat := by
      have := congrArg (fun s : Str => s.cps.toList) h
      simpa using this
    have h3 : a.toList = b.toList := List.map_inj_right (fun x y h => char_inj h) |>.mp h2
    exact String.toList_inj.mp h3
  · rintro rfl; rfl
theorem okS_lit (a : String) : okS (Str.ofString a).cps.toList := by
  rw [Str.ofString_eq_toList]
  intro c hc
  simp at hc
  obtain ⟨d, _, rfl⟩ := hc
  have := d.valid
  have h2 : d.toNat = d.val.toNat := rfl
  unfold UInt32.isValidChar Nat.isValidChar at this
  omega
theorem lit_tx (a : String) : Str.ofString a = tx (Str.ofString a).cps.toList := (tx_eta _).symm
@[simp] theorem plain_lit {k : Nat} {a : String} : Z.plain k (.str (Str.ofString a)) = True := by
  have := okS_lit a
  cases k <;> simp [Z.plain, this]
@[simp] theorem eqD_lit {neg : Bool} {a b : String} {S : Store} : eqD neg (.str (Str.ofString a)) (.str (Str.ofString b)) S = .ok (.bl (if neg = true then !decide (a = b) else decide (a = b))) S := by
  have e : (tx (Str.ofString a).cps.toList = tx (Str.ofString b).cps.toList) = (a = b) := by rw [← lit_tx, ← lit_tx]; simp
  have e2 : ((Str.ofString a).cps.toList = (Str.ofString b).cps.toList) = (a = b) := by rw [← e]; simp
  cases neg
  · rw [lit_tx a, lit_tx b, eqD_str (okS_lit a) (okS_lit b)]; simp [e2, ← Array.toList_inj]
  · rw [lit_tx a, lit_tx b, neD_str (okS_lit a) (okS_lit b)]; simp [e2, ← Array.toList_inj]
section
variable {sl : Sl} {S : Store} {P : D → Store → Prop} {PB : Bool → Store → Prop} {X : D → Store → Prop} {Q : Q0} {f1 f2 : EX} {fa fk : AX} {fb fs : SX}
@[simp] theorem orS2_int {g : Sem2} {i j : Int} {d : D} {S' : Store} {f : Sem2} (h : f (.int i) (.int j) S = .ok d S') : orS2 f g (.int i) (.int j) S = .ok d S' := orS2_l h
@[simp] theorem w_eCallK {n m : Nat} {g : SemL} : We (eCallK n m g fa fk sl S) P X = We (fa sl S) (fun ds S1 => We (fk sl S1) (fun es S2 => (ds.length = n ∧ es.length = m) ∧ We (g (ds ++ es) S2) P X) X) X := by
  unfold eCallK
  rw [we_bind]; congr 1; funext ds S1
  rw [we_bind]; congr 1; funext es S2
  by_cases h : ds.length = n ∧ es.length = m
  · rw [if_pos h]; simp [h]
  · rw [if_neg h]; simp only [h, false_and, we_bad]
@[simp] theorem w_eMethK {m : Str} {n mm : Nat} {tab : List (Str × SemL)} : We (eMethK m n mm tab f1 fa fk sl S) P X = We (f1 sl S) (fun d S1 => isO (fldsOf S1 d) fun p => m ∉ p.2.1 ∧ isO (tabOf tab p.1) fun g => We (fa sl S1) (fun ds S2 => We (fk sl S2) (fun es S3 => (ds.length = n ∧ es.length = mm) ∧ We (g (d :: (ds ++ es)) S3) P X) X) X) X := by
  unfold eMethK
  rw [we_bind]; congr 1; funext d S1
  cases e : fldsOf S1 d with
  | none => simp
  | some p =>
    obtain ⟨c, ns, vs⟩ := p
    simp only [isO_some]
    by_cases h : m ∈ ns
    · simp [h]
    · rw [if_neg h]
      simp only [h, not_false_iff, true_and]
      cases e2 : tabOf tab c with
      | none => simp
      | some g =>
        simp only [isO_some]
        rw [we_bind]; congr 1; funext ds S2
        rw [we_bind]; congr 1; funext es S3
        by_cases h2 : ds.length = n ∧ es.length = mm
        · rw [if_pos h2]; simp [h2]
        · rw [if_neg h2]; simp only [h2, false_and, we_bad]
@[simp] theorem w_bTru {sem : SemB} : We (bTru sem f1 sl S) PB X = We (f1 sl S) (fun d S1 => We (sem d S1) PB X) X := by unfold bTru; rw [we_bind]
@[simp] theorem tru_bl {t : SemB} {b : Bool} : orSB truPl t (.bl b) S = .ok b S := (rfl)
@[simp] theorem tru_ins {t : SemB} {c : Str} {ns : List Str} {vs : List D} : orSB truPl t (.ins c ns vs) S = t (.ins c ns vs) S := (rfl)
@[simp] theorem own1_ins {tab : List (Str × SemL)} {c : Str} {ns : List Str} {vs : List D} : own1 tab (.ins c ns vs) S = match tabOf tab c with
    | some g => g [.ins c ns vs] S
    | none => .bad := (rfl)
@[simp] theorem tabOf_cons {c d : Str} {g : SemL} {tab : List (Str × SemL)} : tabOf ((c, g) :: tab) d = if d = c then some g else tabOf tab d := by
  unfold tabOf
  rw [List.lookup_cons]
  by_cases h : d = c
  · subst h; simp
  · rw [if_neg h, beq_eq_false_iff_ne.mpr h]
@[simp] theorem tabOf_nil {d : Str} : tabOf [] d = none := (rfl)
@[simp] theorem w_ownTru {tab : List (Str × SemL)} {d : D} : We (ownTru tab d S) PB X = We (own1 tab d S) (fun r S' => isB r fun b => PB b S') X := by
  unfold ownTru
  rw [we_bind]; congr 1; funext r S'
  cases r <;> simp [asB, isB]
@[simp] theorem w_ownOp_ins {tab : List (Str × SemL)} {c : Str} {ns : List Str} {vs : List D} {e : D} : We (ownOp tab (.ins c ns vs) e S) P X = isO (tabOf tab c) fun g => okRt S c e = true ∧ We (g [.ins c ns vs, e] S) P X := by
  unfold ownOp
  simp only [fldsOf_ins]
  cases h : tabOf tab c with
  | none => simp
  | some g =>
    simp only [isO_some]
    by_cases h2 : okRt S c e = true
    · rw [if_pos h2]; simp [h2]
    · rw [if_neg h2]; simp [h2]
@[simp] theorem okRt_ins {c c' : Str} {ns : List Str} {vs : List D} : okRt S c (.ins c' ns vs) = decide (c' = c) := (rfl)
@[simp] theorem okRt_int {c : Str} {i : Int} : okRt S c (.int i) = true := (rfl)
@[simp] theorem okRt_str {c : Str} {i : Str} : okRt S c (.str i) = true := (rfl)
@[simp] theorem okRt_non {c : Str} : okRt S c .non = true := (rfl)
@[simp] theorem okRt_bl {c : Str} {b : Bool} : okRt S c (.bl b) = true := (rfl)
@[simp] theorem okRt_tup {c : Str} {b : List D} : okRt S c (.tup b) = true := (rfl)
@[simp] theorem okRt_lst {c : Str} {b : List D} : okRt S c (.lst b) = true := (rfl)
@[simp] theorem addX_ins {c : Str} {ns : List Str} {vs : List D} {e : D} {g : Sem2} : orS2 addX g (.ins c ns vs) e S = g (.ins c ns vs) e S := orS2_r (by cases e <;> rfl)
@[simp] theorem subI_ins {c : Str} {ns : List Str} {vs : List D} {e : D} {g : Sem2} : orS2 subI g (.ins c ns vs) e S = g (.ins c ns vs) e S := orS2_r (by cases e <;> rfl)
@[simp] theorem mulX_ins {c : Str} {ns : List Str} {vs : List D} {e : D} {g : Sem2} : orS2 mulX g (.ins c ns vs) e S = g (.ins c ns vs) e S := orS2_r (by cases e <;> rfl)
@[simp] theorem negI_ins {c : Str} {ns : List Str} {vs : List D} {g : Sem1} : orS1 negI g (.ins c ns vs) S = g (.ins c ns vs) S := (rfl)
theorem own_none {tab : List (Str × SemL)} {d e : D} (h : fldsOf S d = none) : ownOp tab d e S = .bad := by unfold ownOp; rw [h]
theorem orS2_bad {f g : Sem2} {d e : D} (h : g d e S = .bad) : orS2 f g d e S = f d e S := by
  unfold orS2
  rw [h]
  cases f d e S <;> rfl
@[simp] theorem ownOp_int {f : Sem2} {tab : List (Str × SemL)} {i : Int} {e : D} : orS2 f (ownOp tab) (.int i) e S = f (.int i) e S := orS2_bad (own_none rfl)
@[simp] theorem ownOp_str {f : Sem2} {tab : List (Str × SemL)} {i : Str} {e : D} : orS2 f (ownOp tab) (.str i) e S = f (.str i) e S := orS2_bad (own_none rfl)
@[simp] theorem ownOp_lst {f : Sem2} {tab : List (Str × SemL)} {i : List D} {e : D} : orS2 f (ownOp tab) (.lst i) e S = f (.lst i) e S := orS2_bad (own_none rfl)
@[simp] theorem ownOp_tup {f : Sem2} {tab : List (Str × SemL)} {i : List D} {e : D} : orS2 f (ownOp tab) (.tup i) e S = f (.tup i) e S := orS2_bad (own_none rfl)
@[simp] theorem w_ownEq_ins {neg : Bool} {oth : List Str} {tab : List (Str × SemL)} {c : Str} {ns : List Str} {vs : List D} {e : D} : We (ownEq neg oth tab (.ins c ns vs) e S) P X = isO (tabOf tab c) fun g => okRtE oth S e = true ∧ We (g [.ins c ns vs, e] S) (fun r S' => isB r fun b => P (.bl (if neg = true then !b else b)) S') X := by
  unfold ownEq
  simp only [fldsOf_ins]
  cases h : tabOf tab c with
  | none => simp
  | some g =>
    simp only [isO_some]
    by_cases h2 : okRtE oth S e = true
    · rw [if_pos h2, we_bind]
      simp only [h2, true_and]
      congr 1; funext r S'
      cases r <;> simp [isB]
    · rw [if_neg h2]; simp [h2]
theorem ownEq_none {neg : Bool} {oth : List Str} {tab : List (Str × SemL)} {d e : D} (h : fldsOf S d = none) : ownEq neg oth tab d e S = .bad := by unfold ownEq; rw [h]
@[simp] theorem ownEq_int {f : Sem2} {neg : Bool} {oth : List Str} {tab : List (Str × SemL)} {i : Int} {e : D} : orS2 f (ownEq neg oth tab) (.int i) e S = f (.int i) e S := orS2_bad (ownEq_none rfl)
@[simp] theorem ownEq_str {f : Sem2} {neg : Bool} {oth : List Str} {tab : List (Str × SemL)} {i : Str} {e : D} : orS2 f (ownEq neg oth tab) (.str i) e S = f (.str i) e S := orS2_bad (ownEq_none rfl)
@[simp] theorem ownEq_tup {f : Sem2} {neg : Bool} {oth : List Str} {tab : List (Str × SemL)} {i : List D} {e : D} : orS2 f (ownEq neg oth tab) (.tup i) e S = f (.tup i) e S := orS2_bad (ownEq_none rfl)
@[simp] theorem ownEq_lst {f : Sem2} {neg : Bool} {oth : List Str} {tab : List (Str × SemL)} {i : List D} {e : D} : orS2 f (ownEq neg oth tab) (.lst i) e S = f (.lst i) e S := orS2_bad (ownEq_none rfl)
@[simp] theorem ownEq_bl {f : Sem2} {neg : Bool} {oth : List Str} {tab : List (Str × SemL)} {i : Bool} {e : D} : orS2 f (ownEq neg oth tab) (.bl i) e S = f (.bl i) e S := orS2_bad (ownEq_none rfl)
@[simp] theorem ownEq_non {f : Sem2} {neg : Bool} {oth : List Str} {tab : List (Str × SemL)} {e : D} : orS2 f (ownEq neg oth tab) .non e S = f .non e S := orS2_bad (ownEq_none rfl)
@[simp] theorem eqD_ins {neg : Bool} {c : Str} {ns : List Str} {vs : List D} {e : D} {g : Sem2} : orS2 (eqD neg) g (.ins c ns vs) e S = g (.ins c ns vs) e S := orS2_r (by unfold eqD; simp [toP, toP0])
@[simp] theorem okRtE_ins {oth : List Str} {c' : Str} {ns : List Str} {vs : List D} : okRtE oth S (.ins c' ns vs) = decide (c' ∈ oth) := (rfl)
@[simp] theorem okRtE_int {oth : List Str} {i : Int} : okRtE oth S (.int i) = true := (rfl)
@[simp] theorem okRtE_str {oth : List Str} {i : Str} : okRtE oth S (.str i) = true := (rfl)
@[simp] theorem okRtE_non {oth : List Str} : okRtE oth S .non = true := (rfl)
@[simp] theorem okRtE_bl {oth : List Str} {i : Bool} : okRtE oth S (.bl i) = true := (rfl)
@[simp] theorem okRtE_tup {oth : List Str} {i : List D} : okRtE oth S (.tup i) = true := (rfl)
@[simp] theorem okRtE_lst {oth : List Str} {i : List D} : okRtE oth S (.lst i) = true := (rfl)
@[simp] theorem w_ownC1 {ck : D → Bool} {tab : List (Str × SemL)} {d : D} : We (ownC1 ck tab [d] S) P X = We (own1 tab d S) (fun r S' => ck r = true ∧ P r S') X := by
  unfold ownC1
  rw [we_bind]; congr 1; funext r S'
  by_cases h : ck r = true
  · simp [h]
  · simp [h]
@[simp] theorem isiO_ins {tab : List (Str × List Str × List Str)} {c : Str} {ns : List Str} {vs : List D} {D' : Str} : isiO tab [.ins c ns vs, .cls D'] S = match tab.lookup D' with
    | some (yes, no) => if c ∈ yes then .ok (.bl true) S else if c ∈ no then .ok (.bl false) S else .bad
    | none => .bad := (rfl)
@[simp] theorem fmt_str {l : List Nat} : We (semFmt (.str (tx l)) S) P X = (l.length ≤ 1000000 ∧ P (.str (tx l)) S) := by
  unfold semFmt
  simp only [tx_len]
  by_cases h : l.length ≤ 1000000
  · simp [h]
  · simp [h]
@[simp] theorem fmt_int {i : Int} : We (semFmt (.int i) S) P X = (i.natAbs.log2 < 1920 ∧ P (.str (toString i)) S) := by
  unfold semFmt
  by_cases h : i.natAbs.log2 < 1920
  · simp [h]
  · simp [h]
@[simp] theorem w_sPar3 {i j l : Nat} {f3 : EX} : Wo (sPar3 i j l (aCons f1 (aCons f2 (aCons f3 aNil))) sl S) Q = We (f1 sl S) (fun d S1 => We (f2 sl S1) (fun e S2 => We (f3 sl S2) (fun g S3 => Q.nx (((sl.set i (some d)).set j (some e)).set l (some g)) S3) (fun e S' => Q.ex e sl S')) (fun e S' => Q.ex e sl S')) (fun e S' => Q.ex e sl S') := by
  unfold sPar3
  rw [wo_toS]
  simp
@[simp] theorem w_gLst {gs : GXs} {ds : List D} : Wo (gLstX gs (.lst ds) sl S) Q = Wo (gs ds sl S) Q := by unfold gLstX; rfl
def isX (d : D) (k : Str → List Str → List D → Prop) : Prop := match d with
  | .exc c ns ds => k c ns ds
  | _ => False
@[simp] theorem isX_exc {c : Str} {ns : List Str} {ds : List D} {k : Str → List Str → List D → Prop} : isX (.exc c ns ds) k = k c ns ds := (rfl)
@[simp] theorem w_sRaise {f : EX} : Wo (sRaise f sl S) Q = We (f sl S) (fun d S' => isX d fun c ns ds => Q.ex (.ins c ns ds) sl S') (fun e S' => Q.ex e sl S') := by
  unfold sRaise
  cases o : f sl S with
  | ok d S1 => cases d <;> simp [isX]
  | ex e S1 => simp
  | bad => simp
@[simp] theorem w_excS {c tag : Str} {flds : List Str} {ds : List D} : We (excS c tag flds ds S) P X = (ds.length = flds.length ∧ P (.exc c (flds.reverse ++ [("tag" : Str)]) (ds.reverse ++ [D.str tag])) S) := by
  unfold excS
  by_cases h : ds.length = flds.length
  · simp [h]
  · simp [h]
@[simp] theorem suiteQ_rt {i : Nat} : (suiteQ i Q).rt = Q.rt := (rfl)
@[simp] theorem suiteQ_nx {i : Nat} : (suiteQ i Q).nx sl S = Q.nx (sl.set i none) S := (rfl)
@[simp] theorem suiteQ_bk {i : Nat} : (suiteQ i Q).bk sl S = Q.bk (sl.set i none) S := (rfl)
@[simp] theorem suiteQ_ct {i : Nat} : (suiteQ i Q).ct sl S = Q.ct (sl.set i none) S := (rfl)
@[simp] theorem suiteQ_ex {i : Nat} {e : D} : (suiteQ i Q).ex e sl S = False := (rfl)
@[simp] theorem w_sTry {tab : List (Str × Bool)} {i : Nat} : Wo (sTry tab i fb fs sl S) Q = Wo (fb sl S) { Q with ex := catchQ tab i fs Q } := by
  unfold sTry
  cases o : fb sl S with
  | nx sl1 S1 => simp
  | bk sl1 S1 => simp
  | ct sl1 S1 => simp
  | rt d S1 => simp
  | bad => simp
  | ex e sl1 S1 =>
    simp only [wo_ex]
    cases e with
    | ins c ns ds =>
      unfold catchQ
      dsimp only
      cases q : tab.lookup c with
      | none => simp
      | some b =>
        cases b with
        | false => simp
        | true =>
          dsimp only
          cases o2 : fs (sl1.set i (some (.exc c ns ds))) S1 <;> simp [suiteQ]
    | _ => simp [catchQ]
@[simp] theorem w_eXat {f : Str} {cs : List Str} : We (eXat f cs f1 sl S) P X = We (f1 sl S) (fun d S1 => isX d fun c ns vs => c ∈ cs ∧ isO (lookN f ns vs) fun v => P v S1) X := by
  unfold eXat
  rw [we_bind]; congr 1; funext d S1
  cases d with
  | exc c ns vs =>
    simp only [isX_exc]
    by_cases h : c ∈ cs
    · simp only [if_pos h, h, true_and]
      cases lookN f ns vs <;> simp
    · simp [h]
  | _ => simp [isX]
@[simp] theorem w_sAug {i : Nat} {op : Int → Int → Int} {fe : EX} {a : Int} (h : sl[i]? = some (some (.int a))) : Wo (sAug i op fe sl S) Q = We (fe sl S) (fun e S1 => ∃ b, e = .int b ∧ Q.nx (sl.set i (some (.int (op a b)))) S1) (fun e S' => Q.ex e sl S') := by
  unfold sAug
  rw [h]
  dsimp only
  rw [wo_toS]
  congr 1
  funext e S1
  cases e <;> simp
@[simp] theorem w_eBad : We (eBad sl S) P X = False := by unfold eBad; simp
@[simp] theorem w_callL {cn N : List Str} {κ : List (Str × Addr)} {g : SemL} : We (callL cn N κ g fa sl S) P X = We (fa sl S) (fun ds S1 => isO (convL cn N κ sl ds) fun ds' => We (g ds' S1) (fun d S2 => (noLc d = true ∧ noLcS S2 = true) ∧ P d S2) (fun _ _ => False)) X := by
  unfold callL
  rw [we_bind]; congr 1; funext ds S1
  cases e : convL cn N κ sl ds with
  | none => simp
  | some ds' =>
    simp only [isO_some]
    cases g ds' S1 with
    | ok d S2 =>
      simp only [we_ok]
      by_cases h : noLc d = true ∧ noLcS S2 = true
      · rw [if_pos h]; simp [h]
      · rw [if_neg h]; simp only [we_bad, h, false_and]
    | ex e S2 => simp
    | bad => simp
@[simp] theorem w_eLam {ti : Nat} {Pa : Addr} {κ : List (Str × Addr)} {T : LamText} : We (eLam ti Pa κ T sl S) P X = (S[ti]? = some (.tab Pa T.qual) ∧ P (.lam T (cloFrom κ T.scope.names [])) S) := by
  unfold eLam
  apply propext
  constructor
  · intro h
    split at h
    · rename_i P' q e
      split at h
      · rename_i hq
        obtain ⟨rfl, rfl⟩ := hq
        rw [we_ok] at h
        exact ⟨e, h⟩
      · rw [we_bad] at h; exact h.elim
    · rw [we_bad] at h; exact h.elim
  · intro ⟨e, h⟩
    rw [e]
    dsimp only
    rw [if_pos ⟨rfl, rfl⟩, we_ok]
    exact h
@[simp] theorem w_defsS {n : Nat} {dds ds : List D} {g : SemL} (h : ds.length = n) : defsS n dds g ds S = g ds S := if_pos h
end
end Z
namespace Z
open PySem PySem.Spec L2
/-- Ratio.bottom -/
noncomputable def m_Ratio_bottom : SX :=
  (sRet (eAttrZ "own_bottom" [("Ratio", .fld)] (eName 0)))
noncomputable def f_Ratio_bottom : SemL := arity 1 (defS 1 m_Ratio_bottom)
/-- Ratio.top -/
noncomputable def m_Ratio_top : SX :=
  (sRet (eAttrZ "own_top" [("Ratio", .fld)] (eName 0)))
noncomputable def f_Ratio_top : SemL := arity 1 (defS 1 m_Ratio_top)
/-- _law_pair -/
noncomputable def m__law_pair : SX :=
  (sRet (eIf (bVal (eArgs (isiO [("Ratio", ["Ratio"], [])]) (aCons (eName 0) (aCons (eLit (.cls "Ratio")) aNil)))) (eArgs semTup (aCons (eAttrZ "top" [("Ratio", .prop f_Ratio_top)] (eName 0)) (aCons (eAttrZ "bottom" [("Ratio", .prop f_Ratio_bottom)] (eName 0)) aNil))) (eLit .non)))
noncomputable def f__law_pair : SemL := arity 1 (defS 1 m__law_pair)
/-- Ratio.__eq__ -/
noncomputable def m_Ratio___eq__ : SX :=
  (sRet (eAnd (eArgs (isiO [("Ratio", ["Ratio"], [])]) (aCons (eName 1) (aCons (eLit (.cls "Ratio")) aNil))) (eAnd (eBin (eqD false) (eAttrZ "own_top" [("Ratio", .fld)] (eName 0)) (eAttrZ "own_top" [("Ratio", .fld)] (eName 1))) (eBin (eqD false) (eAttrZ "own_bottom" [("Ratio", .fld)] (eName 0)) (eAttrZ "own_bottom" [("Ratio", .fld)] (eName 1))))))
noncomputable def f_Ratio___eq__ : SemL := arity 2 (defS 2 m_Ratio___eq__)
/-- Ratio.__bool__ -/
noncomputable def m_Ratio___bool__ : SX :=
  (sRet (eArgs semBool (aCons (eAttrZ "own_top" [("Ratio", .fld)] (eName 0)) aNil)))
noncomputable def f_Ratio___bool__ : SemL := arity 1 (defS 1 m_Ratio___bool__)
theorem finP_eq {S : Store} {P : D → Store → Prop} {d : D} (h : under S.length d = true) : FinP S P d S = P d S := propext ⟨fun ⟨_, d', e, p⟩ => by
    rw [frz_of h] at e; cases e; simpa using p, fun p => finP_same h p⟩
def Bd (n : Nat) (x : Int) : Prop := x.natAbs < 2 ^ n
theorem Bd.mono {n m : Nat} {x : Int} (h : Bd n x) (hl : n ≤ m) : Bd m x := Nat.lt_of_lt_of_le h (Nat.pow_le_pow_right (by decide) hl)
theorem Bd.mul {n m : Nat} {x y : Int} (h : Bd n x) (h2 : Bd m y) : Bd (n + m) (x * y) := by
  unfold Bd at *
  rw [Int.natAbs_mul, Nat.pow_add]
  by_cases q : y.natAbs = 0
  · rw [q, Nat.mul_zero]; exact Nat.mul_pos (Nat.pow_pos (by decide)) (Nat.pow_pos (by decide))
  · exact Nat.mul_lt_mul_of_lt_of_le h (Nat.le_of_lt h2) (Nat.pow_pos (by decide))
theorem Bd.add {n m : Nat} {x y : Int} (h : Bd n x) (h2 : Bd m y) : Bd (n + m + 1) (x + y) := by
  have a := h.mono (Nat.le_add_right n m)
  have b := h2.mono (Nat.le_add_left m n)
  unfold Bd at *
  rw [Nat.pow_succ]
  omega
theorem Bd.neg {n : Nat} {x : Int} (h : Bd n x) : Bd n (-x) := by unfold Bd at *; omega
theorem Bd.sub {n m : Nat} {x y : Int} (h : Bd n x) (h2 : Bd m y) : Bd (n + m + 1) (x - y) := by
  rw [Int.sub_eq_add_neg]; exact h.add h2.neg
theorem Bd.of_le {n : Nat} {x y : Int} (h : Bd n x) (h2 : y.natAbs ≤ x.natAbs) : Bd n y := Nat.lt_of_le_of_lt h2 h
def num (p q : Int) : Int := if 0 < q then p / (Int.gcd p q : Int) else (-p) / (Int.gcd p q : Int)
def den (p q : Int) : Int := (q.natAbs : Int) / (Int.gcd p q : Int)
theorem gcd_pos {p q : Int} (hq : q ≠ 0) : 0 < (Int.gcd p q : Int) := by
  have := Int.gcd_pos_of_ne_zero_right p hq
  omega
theorem den_pos {p q : Int} (hq : q ≠ 0) : 0 < den p q := by
  unfold den
  have h := gcd_pos (p := p) hq
  refine Int.ediv_pos_of_pos_of_dvd (by omega) (by omega) ?_
  have := Int.gcd_dvd_right p q
  exact Int.dvd_natAbs.mpr this
theorem natAbs_ediv_le' {x : Int} {g : Int} (hg : 0 < g) (hd : g ∣ x) : (x / g).natAbs ≤ x.natAbs := by
  obtain ⟨k, rfl⟩ := hd
  rw [Int.mul_ediv_cancel_left _ (by omega), Int.natAbs_mul]
  exact Nat.le_mul_of_pos_left _ (by omega)
theorem Bd.num {n : Nat} {p q : Int} (h : Bd n p) (hq : q ≠ 0) : Bd n (Z.num p q) := by
  unfold Z.num
  have hg := gcd_pos (p := p) hq
  have hd : (Int.gcd p q : Int) ∣ p := Int.gcd_dvd_left p q
  split
  · exact h.of_le (natAbs_ediv_le' hg hd)
  · exact h.neg.of_le (natAbs_ediv_le' hg (Int.dvd_neg.mpr hd))
theorem Bd.den {n : Nat} {p q : Int} (h : Bd n q) (hq : q ≠ 0) : Bd n (Z.den p q) := by
  unfold Z.den
  have hg := gcd_pos (p := p) hq
  refine Bd.of_le (x := q) h ?_
  refine Nat.le_trans (natAbs_ediv_le' hg ?_) (by simp)
  exact Int.dvd_natAbs.mpr (Int.gcd_dvd_right p q)
def fracD (p q : Int) : D := .tup [.int (num p q), .int (den p q)]
@[simp] theorem neg_int (i : Int) (S : Store) : negI (.int i) S = .ok (.int (-i)) S := (rfl)
def ratD (p q : Int) : D := .ins "Ratio" ["own_top", "own_bottom"] [.int p, .int q]
@[simp] theorem under_ratD {k : Nat} {p q : Int} : under k (ratD p q) = true := by simp [ratD]
@[simp] theorem under_fracD {k : Nat} {p q : Int} : under k (fracD p q) = true := by simp [fracD]
/-- a refused value -/
def exR (v : D) : D := .ins "InvalidRatio" ["value", "tag"] [v, .str "InvalidRatio"]
@[simp] theorem under_exR {k : Nat} {v : D} : under k (exR v) = under k v := by simp [exR]
section
variable {S : Store} {P X : D → Store → Prop} {p q : Int} {n m : Nat}
@[simp] theorem flds_rat : fldsOf S (ratD p q) = some (("Ratio" : Str), (["own_top", "own_bottom"] : List Str), ([.int p, .int q] : List D)) := (rfl)
@[simp] theorem look_top {u v : D} : lookN "own_top" ["own_top", "own_bottom"] [u, v] = some u := by simp [lookN]
@[simp] theorem look_bottom {u v : D} : lookN "own_bottom" ["own_top", "own_bottom"] [u, v] = some v := by
  simp only [lookN]
  rw [if_neg (by decide)]
  simp
@[simp] theorem isi_rat {t : List (Str × List Str × List Str)} : isiO (("Ratio", ["Ratio"], []) :: t) [ratD p q, .cls "Ratio"] S = .ok (.bl true) S := by
  unfold ratD
  rw [isiO_ins]
  simp
end
/-- a fraction in lowest terms, of a size -/
structure LT (n : Nat) (p q : Int) : Prop where
  up : Bd n p
  dn : Bd n q
  pos : 0 < q
  one : Int.gcd p q = 1
theorem LT.mono {n m : Nat} {p q : Int} (h : LT n p q) (hl : n ≤ m) : LT m p q := ⟨h.up.mono hl, h.dn.mono hl, h.pos, h.one⟩
theorem LT.num {n : Nat} {p q : Int} (h : LT n p q) : Z.num p q = p := by simp [Z.num, h.pos, h.one]
theorem LT.den {n : Nat} {p q : Int} (h : LT n p q) : Z.den p q = q := by
  have := h.pos
  have e : (q.natAbs : Int) = q := by omega
  simp [Z.den, h.one, e]
theorem gcd_num_den {p q : Int} (hq : q ≠ 0) : Int.gcd (num p q) (den p q) = 1 := by
  have hg : 0 < Int.gcd p q := Int.gcd_pos_of_ne_zero_right p hq
  have e := Int.gcd_ediv_gcd_ediv_gcd hg
  have h1 : (Int.gcd p q : Int) ∣ p := Int.gcd_dvd_left p q
  have h2 : (Int.gcd p q : Int) ∣ q := Int.gcd_dvd_right p q
  unfold num den
  by_cases q0 : 0 < q
  · have ea : (q.natAbs : Int) = q := by omega
    rw [if_pos q0, ea]; exact e
  · have ea : (q.natAbs : Int) = -q := by omega
    rw [if_neg q0, ea, Int.neg_ediv_of_dvd h1, Int.neg_ediv_of_dvd h2, Int.gcd_neg, Int.neg_gcd]; exact e
theorem LT.of {n m : Nat} {p q : Int} (hp : Bd n p) (hq : Bd m q) (h0 : q ≠ 0) : LT (n + m) (Z.num p q) (Z.den p q) :=
  ⟨(hp.num h0).mono (Nat.le_add_right n m), (hq.den h0).mono (Nat.le_add_left m n), den_pos h0, gcd_num_den h0⟩
theorem LT.neg {n : Nat} {p q : Int} (h : LT n p q) : LT n (-p) q := ⟨h.up.neg, h.dn, h.pos, by rw [Int.neg_gcd]; exact h.one⟩
section
variable {S : Store} {P X : D → Store → Prop} {p q p' q' : Int} {n : Nat} {d : D}
abbrev numA (p q p' q' : Int) : Int := num (p * q' + p' * q) (q * q')
abbrev denA (p q p' q' : Int) : Int := den (p * q' + p' * q) (q * q')
theorem mul_ne {a b : Int} (h : 0 < a) (h2 : 0 < b) : a * b ≠ 0 := by have := Int.mul_pos h h2; omega
theorem LT.add {m : Nat} (h : LT n p q) (h' : LT m p' q') : LT (3 * (n + m) + 1) (numA p q p' q') (denA p q p' q') :=
  (LT.of (((h.up.mul h'.dn).add (h'.up.mul h.dn))) (h.dn.mul h'.dn) (mul_ne h.pos h'.pos)).mono (by omega)
abbrev numM (p q p' q' : Int) : Int := num (p * p') (q * q')
abbrev denM (p q p' q' : Int) : Int := den (p * p') (q * q')
theorem LT.mul {m : Nat} (h : LT n p q) (h' : LT m p' q') : LT (2 * (n + m)) (numM p q p' q') (denM p q p' q') :=
  (LT.of (h.up.mul h'.up) (h.dn.mul h'.dn) (mul_ne h.pos h'.pos)).mono (by omega)
@[simp] theorem bool_eq : f_Ratio___bool__ [ratD p q] S = .ok (.bl (p != 0)) S := by
  refine eq_of_we ?_
  unfold f_Ratio___bool__
  refine we_def rfl ?_
  simp [m_Ratio___bool__, semBool]
@[simp] theorem rtop_eq : f_Ratio_top [ratD p q] S = .ok (.int p) S := by
  refine eq_of_we ?_
  unfold f_Ratio_top
  refine we_def rfl ?_
  simp [m_Ratio_top]
@[simp] theorem rbottom_eq : f_Ratio_bottom [ratD p q] S = .ok (.int q) S := by
  refine eq_of_we ?_
  unfold f_Ratio_bottom
  refine we_def rfl ?_
  simp [m_Ratio_bottom]
def pairD (p q : Int) : D := .tup [.int p, .int q]
@[simp] theorem under_pairD {k : Nat} {p q : Int} : under k (pairD p q) = true := by simp [pairD]
@[simp] theorem pair_eq : f__law_pair [ratD p q] S = .ok (pairD p q) S := by
  refine eq_of_we ?_
  unfold f__law_pair
  refine we_def rfl ?_
  simp [m__law_pair, pairD]
  exact finP_same (by simp) ⟨rfl, rfl⟩
@[simp] theorem req_eq : f_Ratio___eq__ [ratD p q, ratD p' q'] S = .ok (.bl (decide (p = p' ∧ q = q'))) S := by
  refine eq_of_we ?_
  unfold f_Ratio___eq__
  refine we_def rfl ?_
  by_cases h : p = p'
  · simp [m_Ratio___eq__, h]
  · simp [m_Ratio___eq__, h]
@[simp] theorem tru_rat {t : SemB} : orSB truPl t (ratD p q) S = t (ratD p q) S := (rfl)
@[simp] theorem own1_rat {tab : List (Str × SemL)} : own1 tab (ratD p q) S = match tabOf tab "Ratio" with
    | some g => g [ratD p q] S
    | none => .bad := (rfl)
@[simp] theorem addX_rat {e : D} {g : Sem2} : orS2 addX g (ratD p q) e S = g (ratD p q) e S := addX_ins
@[simp] theorem subI_rat {e : D} {g : Sem2} : orS2 subI g (ratD p q) e S = g (ratD p q) e S := subI_ins
@[simp] theorem mulX_rat {e : D} {g : Sem2} : orS2 mulX g (ratD p q) e S = g (ratD p q) e S := mulX_ins
@[simp] theorem negI_rat {g : Sem1} : orS1 negI g (ratD p q) S = g (ratD p q) S := negI_ins
@[simp] theorem eqD_rat {neg : Bool} {e : D} {g : Sem2} : orS2 (eqD neg) g (ratD p q) e S = g (ratD p q) e S := eqD_ins
@[simp] theorem ownOp_rat {tab : List (Str × SemL)} {e : D} : We (ownOp tab (ratD p q) e S) P X = isO (tabOf tab "Ratio") fun g => okRt S "Ratio" e = true ∧ We (g [ratD p q, e] S) P X := w_ownOp_ins
@[simp] theorem okRt_rat {c : Str} : okRt S c (ratD p q) = decide ("Ratio" = c) := (rfl)
@[simp] theorem ownEq_rat {neg : Bool} {oth : List Str} {tab : List (Str × SemL)} {e : D} : We (ownEq neg oth tab (ratD p q) e S) P X = isO (tabOf tab "Ratio") fun g => okRtE oth S e = true ∧ We (g [ratD p q, e] S) (fun r S' => isB r fun b => P (.bl (if neg = true then !b else b)) S') X := w_ownEq_ins
@[simp] theorem okRtE_rat {oth : List Str} : okRtE oth S (ratD p q) = decide (("Ratio" : Str) ∈ oth) := (rfl)
end
@[simp] theorem finP_rat {S : Store} {P : D → Store → Prop} {p q : Int} : FinP S P (ratD p q) S = P (ratD p q) S := finP_eq under_ratD
@[simp] theorem finP_pair {S : Store} {P : D → Store → Prop} {p q : Int} : FinP S P (pairD p q) S = P (pairD p q) S := finP_eq under_pairD
@[simp] theorem ix_pair0 {S : Store} {p q : Int} : ixX (pairD p q) (.int 0) S = .ok (.int p) S := rfl
@[simp] theorem ix_pair1 {S : Store} {p q : Int} : ixX (pairD p q) (.int 1) S = .ok (.int q) S := rfl
end Z
namespace PySem.W
open PySem PySem.Spec PySem.Calls PyProof.Rows
end PySem.W
namespace Z
open PySem PySem.Spec L2 PyProof.Rows
end Z
namespace PySem.HandSPX
open PySem PySem.Spec Builtin Builtin.ObjectAttr
end PySem.HandSPX
namespace Z
open PySem PySem.Spec L2
end Z
namespace Z
open PySem PySem.Spec L2
def excB (K : PySem.W.Frag) (D : Addr) : Bool :=
  decide (PySem.W.findIn K (.ref D) "__getattribute__" = some (some (.builtin "BaseException.__getattribute__"))) && (decide (PySem.W.findIn K (.ref D) "__getattr__" = some none) && (decide (PySem.W.subIn K (.ref D) (.type "BaseException") = some true) && (PySem.W.hasDictIn K D &&
  (decide (PySem.W.findIn K (.ref D) "__class__" = some (some (.builtin "object.__class__"))) && decide (PySem.W.mroIn K D (.type "object") = some true)))))
end Z
namespace Z
open PySem PySem.Spec L2
/-- what the walk asks of one exception class, its own class or one over another one -/
structure XH2 (K : PySem.W.Frag) (C Cb ai ab : Addr) (bm : List Value) (R nw it : String) (nx : Value) (fs : List Str) : Prop where
  kc : PySem.W.keepIn K (.ref C) = true
  xi : PySem.W.excInitIn K C bm nw = true
  xo : PySem.W.excOver K C bm = true
  xk : (PySem.W.clsIn K C).isSome = true
  xs : PySem.W.findIn K (.ref C) "__setattr__" = some (some (.builtin "object.__setattr__"))
  xD : PySem.W.hasDictIn K C = true
  xI : PySem.W.findIn K (.ref C) "__init__" = some (some (.ref ai))
  xt : PySem.W.typeIn K (.ref ai) = some (.type "function")
  xB : PySem.W.subIn K (.ref C) (.type "BaseException") = some true
  xR : PySem.W.subIn K (.ref C) (.type R) = some true
  xT : PySem.W.typeIn K (.ref C) = some (.type "type")
  xm1 : PySem.W.mroIn K C (.ref C) = some true
  xu1 : PySem.W.ks_superIn K C C "__init__" = some (some nx)
  xm2 : PySem.W.mroIn K C (.ref Cb) = some true
  xu2 : PySem.W.ks_superIn K C Cb "__init__" = some (some (.builtin it))
  xg : (K.lookup ab).map (·.cls) = some (.type "function")
  xh : PySem.W.fnIn K ab = true
  xe : excB K C = true
  xa : (fs.all fun f => decide (PySem.W.findIn K (.ref C) f = some none)) = true
def xh2B (K : PySem.W.Frag) (C Cb ai ab : Addr) (bm : List Value) (R nw it : String) (nx : Value) (fs : List Str) : Bool :=
  PySem.W.keepIn K (.ref C) && (PySem.W.excInitIn K C bm nw && (PySem.W.excOver K C bm && ((PySem.W.clsIn K C).isSome && (decide (PySem.W.findIn K (.ref C) "__setattr__" = some (some (.builtin "object.__setattr__"))) && (PySem.W.hasDictIn K C &&
  (decide (PySem.W.findIn K (.ref C) "__init__" = some (some (.ref ai))) && (decide (PySem.W.typeIn K (.ref ai) = some (.type "function")) && (decide (PySem.W.subIn K (.ref C) (.type "BaseException") = some true) && (decide (PySem.W.subIn K (.ref C) (.type R) = some true) &&
  (decide (PySem.W.typeIn K (.ref C) = some (.type "type")) && (decide (PySem.W.mroIn K C (.ref C) = some true) && (decide (PySem.W.ks_superIn K C C "__init__" = some (some nx)) && (decide (PySem.W.mroIn K C (.ref Cb) = some true) &&
  (decide (PySem.W.ks_superIn K C Cb "__init__" = some (some (.builtin it))) && (decide ((K.lookup ab).map (·.cls) = some (.type "function")) && (PySem.W.fnIn K ab && (excB K C && fs.all fun f => decide (PySem.W.findIn K (.ref C) f = some none))))))))))))))))))
theorem XH2.at_ {K : PySem.W.Frag} {C Cb ai ab : Addr} {bm : List Value} {R nw it : String} {nx : Value} {fs : List Str} (h : XH2 K C Cb ai ab bm R nw it nx fs) {f : Str} (hf : fs.contains f = true) : PySem.W.findIn K (.ref C) f = some none :=
  of_decide_eq_true (List.all_eq_true.mp h.xa f (List.contains_iff_mem.mp hf))
end Z
namespace Z
open PySem PySem.Spec L2 PyProof.Rows
end Z
namespace Z
open PySem PySem.Spec L2
/-- the signs of a number's text -/
def dg (i : Int) : List Nat := (Str.ofString (toString i)).cps.toList
@[simp] theorem str_dg (i : Int) : Str.ofString (toString i) = tx (dg i) := lit_tx _
def isS (d : D) (k : List Nat → Prop) : Prop := match d with
  | .str y => k y.cps.toList
  | _ => False
@[simp] theorem isS_tx {l : List Nat} {k : List Nat → Prop} : isS (.str (tx l)) k = k l := by simp [isS, tx]
section
variable {sl : Sl} {S : Store} {P X : D → Store → Prop}
theorem empty_tx : Str.empty = tx [] := rfl
@[simp] theorem w_eJoin {fs : List EX} : We (eJoin fs sl S) P X = We (joinGo fs (tx []) sl S) P X := by unfold eJoin; rw [empty_tx]
@[simp] theorem lit_slash : Str.ofString "/" = tx [47] := by decide +kernel
def lR : List Nat := [82, 97, 116, 105, 111, 40]
@[simp] theorem lit_R : Str.ofString "Ratio(" = tx lR := by decide +kernel
@[simp] theorem lit_E : Str.ofString ")" = tx [41] := by decide +kernel
variable {p q : Int} {n : Nat}
variable {T : LamText} {caps : List D} {l : SemL} {v : D} {L : LamText → Option SemL}
end
end Z
namespace ZK
open PySem PySem.W PySem.Calls PyProof.Rows He He5
abbrev FnS : Type := Option (Str × Str × Arguments × FuncBody × Scope × Addr × Addr × Value)
/-- a def that closes over its class -/
structure DefS where
  at_ : Frag → Addr
  cls : Frag → Addr
  name : PySem.Str
  qual : PySem.Str
  params : Arguments
  body : List Stmt
  scope : Scope
def fnS (K : Frag) (a : Addr) : FnS := match K.lookup a with
  | some ⟨_, _, .func fd, _⟩ => some (fd.name, fd.qualname, fd.params, fd.body, fd.scope, fd.globals, fd.builtins, fd.defaults)
  | _ => none
def DefS.val (d : DefS) : FnS := some (d.name, d.qual, d.params, .stmts d.body, d.scope, mainGlobals, builtinsNs, .none)
def cellB (K : Frag) (cc D : Addr) : Bool := match K.lookup cc with
  | some ⟨_, _, .cell (some (.ref E)), _⟩ => decide (E = D)
  | _ => false
def fileB (K : Frag) (cda : Addr) (file : Str) : Bool := match K.lookup cda with
  | some ⟨_, _, .fields vs, _⟩ => (match (vs[2]? : Option Value) with
    | some (Value.str f _) => (file == f)
    | _ => false)
  | _ => false
def closB (K : Frag) (D : Addr) (l : List (Str × Addr)) : Bool := match l with
  | [(x, cc)] => decide (x = ("__class__" : Str)) && cellB K cc D
  | _ => false
def codeB (K : Frag) (qual file : Str) (v : Value) : Bool := match v with
  | .ref cda => codeIn K (.ref cda) qual && fileB K cda file
  | _ => false
def DefS.ok (K : Frag) (file : Str) (d : DefS) : Bool := (match K.lookup (d.at_ K) with
  | some ⟨_, _, .func fd, _⟩ => closB K (d.cls K) fd.closure && codeB K d.qual file fd.code
  | _ => false) && ((clsIn K (d.cls K)).isSome && decide ((K.lookup (d.at_ K)).map (·.cls) = some (.type "function")))
theorem DefS.sup {prog : Program} {K : Frag} {d : DefS} (e : fnS K (d.at_ K) = d.val) (hn : d.name = "__init__") (c : d.ok K prog.main.file = true) : ZX.SupFn prog K (d.at_ K) (d.cls K) d.qual d.params d.body d.scope := by
  obtain ⟨c1, c2⟩ := ba c
  obtain ⟨c3, c4⟩ := ba c2
  unfold fnS at e
  cases q : K.lookup (d.at_ K) with
  | none =>
    rw [q] at c1
    cases c1
  | some o =>
    obtain ⟨oc, od, dt, osl⟩ := o
    rw [q] at c1 e
    cases dt with
    | func fd =>
      obtain ⟨n1, n2, n3, n4, n5, n6, n7, n8, n9, n10, n11, n12, n13, n14, n15⟩ := fd
      have e2 : (some (n1, n2, n3, n4, n5, n6, n15, n8) : FnS) = some (d.name, d.qual, d.params, .stmts d.body, d.scope, mainGlobals, builtinsNs, .none) := e
      simp only [Option.some.injEq, Prod.mk.injEq] at e2
      obtain ⟨h1, h2, h3, h4, h5, h6, h7, h8⟩ := e2
      subst h1 h2 h3 h4 h5 h6 h7 h8
      have c5 : (closB K (d.cls K) n7 && codeB K d.qual prog.main.file n13) = true := c1
      obtain ⟨k1, k2⟩ := ba c5
      unfold closB at k1
      unfold codeB at k2
      split at k1
      · rename_i x cc
        obtain ⟨k3, k4⟩ := ba k1
        have k3 := of_decide_eq_true k3
        subst k3
        split at k2
        · rename_i cda
          obtain ⟨k5, k6⟩ := ba k2
          unfold cellB at k4
          split at k4
          · rename_i c0 d0 E sl0 hq
            have k4 := of_decide_eq_true k4
            subst k4
            unfold fileB at k6
            split at k6
            · rename_i c1' d1' vs sl1 hq2
              split at k6
              · rename_i f tf hv
                obtain ⟨cdD, hD⟩ := Option.isSome_iff_exists.mp c3
                have q2 : K.lookup (d.at_ K) = some ⟨oc, od, .func (ksFn "__init__" d.qual d.params d.body d.scope .none n9 n10 n11 n12 (.ref cda) n14 cc), osl⟩ := by rw [q, ← hn]
                have c4' := of_decide_eq_true c4
                exact ⟨⟨oc, od, "__init__", n9, n10, n11, n12, cda, cc, n14, osl, q2, k5, ⟨_, _, _, _, _, _, hq2, hv, k6⟩, ⟨_, _, _, hq⟩⟩, ⟨_, hD⟩, c4'⟩
              · cases k6
            · cases k6
          · cases k4
        · cases k2
      · cases k1
    | _ => cases c1
/-- what an own property calls -/
def propB (K : Frag) (p : Addr) : Addr := match recIn K p "property" with
  | some (.ref a :: _) => a
  | _ => 0
def propOk (K : Frag) (p : Addr) : Bool := match recIn K p "property" with
  | some (.ref _ :: _) => true
  | _ => false
abbrev AlZ : Type := ((Bool × List He.FnW) × List FnS) × Bool
def refsG (g : Addr → Option Obj) (a : Addr) : List Addr := match g a with
  | some o => refsD o
  | none => []
/-- the objects that the facts ask: the names' values and what they name; the methods' defs and what they name; the properties' defs -/
def asN (names : List Str) (ms ps : List (Str × Str)) (g : Addr → Option Obj) : List Addr :=
  let K0 := frG g [mainGlobals]
  let v := names.map (ga K0)
  let l2 := mainGlobals :: cStatics :: (v ++ v.flatMap (refsG g))
  let K1 := frG g l2
  let m := ms.map fun p => ma K1 (ga K0 p.1) p.2
  let r := m.flatMap (refsG g)
  let q := ps.flatMap fun p => (refsG g (ma K1 (ga K0 p.1) p.2)).flatMap (refsG g)
  l2 ++ (m ++ (r ++ q))
abbrev AsF : Type := (Addr → Option Obj) → List Addr
def KZ (n : AsF) (g : Addr → Option Obj) : Frag := frT g (n g)
def obsK (fn : List DefA) (fs : List DefS) (tf : List Defn) (ex : Frag → Bool) (g : Addr → Option Obj) (K : Frag) : AlZ := (((fn.all fun d => d.ok K, fn.map fun d => fnA K (d.at_ K)), fs.map fun d => fnS K (d.at_ K)), ex K && tabsB g tf K)
def obsZ (n : AsF) (fn : List DefA) (fs : List DefS) (tf : List Defn) (ex : Frag → Bool) (g : Addr → Option Obj) : AlZ := obsK fn fs tf ex g (KZ n g)
def valZ (fn : List DefA) (fs : List DefS) : AlZ := (((true, fn.map DefA.val), fs.map DefS.val), true)
structure SaysZ (fn : List DefA) (fs : List DefS) (tf : List Defn) (ex : Frag → Bool) (h : Heap) (K : Frag) : Prop where
  ok : (fn.all fun d => d.ok K) = true
  at_ : (fn.map fun d => fnA K (d.at_ K)) = fn.map DefA.val
  sup : (fs.map fun d => fnS K (d.at_ K)) = fs.map DefS.val
  more : ex K = true
  hd : ∀ p ∈ tf, codeHdIn K (cT K p).1 (cT K p).2 = true
  out : ∀ p ∈ tf, K.lookup (cT K p).2 = none
  empty : ∀ p ∈ tf, h.get? (cT K p).2 = some { cls := .none, data := .fields #[] }
theorem saysZ_of {n : AsF} {fn : List DefA} {fs : List DefS} {tf : List Defn} {ex : Frag → Bool} {h : Heap} (e : obsZ n fn fs tf ex h.get? = valZ fn fs) : SaysZ fn fs tf ex h (KZ n h.get?) := by
  have e1 : (fn.all fun d => d.ok (KZ n h.get?)) = true := congrArg (fun z : AlZ => z.1.1.1) e
  have e2 : (fn.map fun d => fnA (KZ n h.get?) (d.at_ (KZ n h.get?))) = fn.map DefA.val := congrArg (fun z : AlZ => z.1.1.2) e
  have e3 : (fs.map fun d => fnS (KZ n h.get?) (d.at_ (KZ n h.get?))) = fs.map DefS.val := congrArg (fun z : AlZ => z.1.2) e
  have e4 : (ex (KZ n h.get?) && tabsB h.get? tf (KZ n h.get?)) = true := congrArg (fun z : AlZ => z.2) e
  obtain ⟨h1, h2⟩ := ba e4
  have key : ∀ p ∈ tf, codeHdIn (KZ n h.get?) (cT (KZ n h.get?) p).1 (cT (KZ n h.get?) p).2 = true ∧ ∃ o, h.get? (cT (KZ n h.get?) p).2 = some o ∧ emptyTab o = true := fun p hp => by
    obtain ⟨h3, h4⟩ := ba (List.all_eq_true.mp h2 p hp)
    refine ⟨h3, ?_⟩
    cases q : h.get? (cT (KZ n h.get?) p).2 with
    | none =>
      rw [q] at h4
      cases h4
    | some o =>
      rw [q] at h4
      exact ⟨o, rfl, h4⟩
  exact ⟨e1, e2, e3, h1, fun p hp => (key p hp).1, fun p hp => by
    obtain ⟨_, o, q, z⟩ := key p hp
    exact frT_none q z, fun p hp => by
    obtain ⟨_, o, q, z⟩ := key p hp
    rw [q, emptyTab_eq z]⟩
def hookZ (n : AsF) (fn : List DefA) (fs : List DefS) (tf : List Defn) (ex : Frag → Bool) : Hook where
  α := AlZ
  obs := fun s => obsZ n fn fs tf ex s.heap.get?
  val := fun _ => valZ fn fs
  says := fun w h => ∃ K : Frag, K.In h ∧ SaysZ fn fs tf ex h K
  of := fun _ _ e => ⟨_, frT_in, saysZ_of e⟩
  keeps := fun _ _ _ ⟨K, hK, c⟩ k => ⟨K, Frag.In.keeps hK k, ⟨c.ok, c.at_, c.sup, c.more, c.hd, c.out, fun p hp => k _ _ (c.empty p hp)⟩⟩
end ZK
namespace Z
open PySem PySem.Spec L2 PyProof.Rows
/-- x[::-1] on data; hand: the list stays a handle -/
def semRev (hand : Bool) : D → Store → Out D := fun d S => match d with
  | .str s => if s.length ≤ 1000000 then .ok (.str ⟨s.cps.toList.reverse.toArray⟩) S else .bad
  | .tup _ => .bad
  | .tpx _ => .bad
  | d => (match asS S d with
    | some xs => if hand = true then .ok (.ptr S.length) (S ++ [.lst xs.reverse]) else .ok (.lst xs.reverse) S
    | none => .bad)
def eRev (hand : Bool) (fa : EX) : EX := fun sl S => (fa sl S).bind fun d S1 => semRev hand d S1
section
variable {X : Cx} {W : WX}
/-- a list's or a tuple's items -/
def asSq (S : Store) (d : D) : Option (List D) := match d with
  | .tup xs => some xs
  | .tpx xs => some xs
  | d => asS S d
def eMethS (m : Str) (tab : List (Str × SemL)) (fo fe : EX) : EX := fun sl S => (fo sl S).bind fun d S1 => match fldsOf S1 d with
  | some (c, ns, _) => if m ∈ ns then .bad else (match tabOf tab c with
    | some g => (fe sl S1).bind fun e S2 => (match asSq S2 e with
      | some xs => g (d :: xs) S2
      | none => .bad)
    | none => .bad)
  | none => .bad
variable {m : Str}
end
end Z
namespace Z
open PySem PySem.Spec L2 PyProof.Rows
def makeN (c : Str) : SemL := fun ds S => match ds with
  | [] => .ok (.ptr S.length) (S ++ [.ins c [] []])
  | _ => .bad
end Z
namespace Z
open PySem PySem.Spec L2
end Z
namespace Z
open PySem PySem.Spec L2
section
variable {sl : Sl} {S : Store} {P X : D → Store → Prop} {fo fe f1 : EX} {hand : Bool}
@[simp] theorem w_eRev : We (eRev hand f1 sl S) P X = We (f1 sl S) (fun d S1 => We (semRev hand d S1) P X) X := by simp only [eRev, we_bind]
@[simp] theorem w_rev_str {l : List Nat} : We (semRev hand (.str (tx l)) S) P X = (l.length ≤ 1000000 ∧ P (.str (tx l.reverse)) S) := by
  have e : semRev hand (.str (tx l)) S = if l.length ≤ 1000000 then .ok (.str (tx l.reverse)) S else .bad := by
    have h1 : (tx l).length = l.length := by simp [tx, Str.length]
    have h2 : (⟨(tx l).cps.toList.reverse.toArray⟩ : Str) = tx l.reverse := by simp [tx]
    show (if (tx l).length ≤ 1000000 then Out.ok (D.str ⟨(tx l).cps.toList.reverse.toArray⟩) S else .bad) = _
    rw [h1, h2]
  rw [e]
  by_cases h : l.length ≤ 1000000
  · rw [if_pos h, we_ok]; simp [h]
  · rw [if_neg h]; simp [h]
@[simp] theorem w_rev_lst {xs : List D} : We (semRev false (.lst xs) S) P X = P (.lst xs.reverse) S := by
  have e : semRev false (.lst xs) S = .ok (.lst xs.reverse) S := rfl
  rw [e, we_ok]
@[simp] theorem w_makeN {c : Str} : We (makeN c [] S) P X = P (.ptr S.length) (S ++ [.ins c [] []]) := by
  have e : makeN c [] S = .ok (.ptr S.length) (S ++ [.ins c [] []]) := rfl
  rw [e, we_ok]
@[simp] theorem w_eMethS {m : Str} {tab : List (Str × SemL)} : We (eMethS m tab fo fe sl S) P X = We (fo sl S) (fun d S1 => isO (fldsOf S1 d) fun p => m ∉ p.2.1 ∧ isO (tabOf tab p.1) fun g => We (fe sl S1) (fun e S2 => isO (asSq S2 e) fun xs => We (g (d :: xs) S2) P X) X) X := by
  unfold eMethS
  rw [we_bind]
  congr 1
  funext d S1
  cases e : fldsOf S1 d with
  | none => simp
  | some p =>
    obtain ⟨c, ns, vs⟩ := p
    dsimp only
    rw [isO_some]
    by_cases h : m ∈ ns
    · simp [h]
    · rw [if_neg h]
      cases e2 : tabOf tab c with
      | none => simp
      | some g =>
        simp only [h, not_false_eq_true, true_and, isO_some, we_bind]
        congr 1
        funext e S2
        cases e3 : asSq S2 e with
        | none => simp
        | some xs => simp
@[simp] theorem asSq_tup {xs : List D} : asSq S (.tup xs) = some xs := (rfl)
@[simp] theorem asSq_lst {xs : List D} : asSq S (.lst xs) = some xs := (rfl)
end
end Z
namespace ZM
/-- n / 2 ^ e in lowest terms -/
def hv : Int → Nat → Int × Nat
  | n, 0 => (n, 0)
  | n, e + 1 => if n % 2 = 0 then hv (n / 2) e else (n, e + 1)
/-- lowest -/
def Low (p : Int × Nat) : Prop := p.2 = 0 ∨ p.1 % 2 = 1
/-- the fraction -/
def qv (p : Int × Nat) : Rat := (p.1 : Rat) * 2 ^ (-(p.2 : Int))
/-- number / 2 ^ e times 2 ^ t -/
def scl (n : Int) (e : Nat) (t : Int) : Int × Nat := hv (n * 2 ^ (t - e).toNat) (e - t : Int).toNat
/-- the sum -/
def fsum (p q : Int × Nat) : Int × Nat := hv (p.1 * 2 ^ (max p.2 q.2 - p.2) + q.1 * 2 ^ (max p.2 q.2 - q.2)) (max p.2 q.2)
abbrev Du := Int × (Int × Nat)
def Du.ok (x : Du) : Prop := Low x.2
def duMul (x y : Du) : Du := (x.1 + y.1, fsum x.2 (scl y.2.1 y.2.2 x.1))
def duOne : Du := (0, (0, 0))
end ZM
namespace ZM
structure DuB (v B : Nat) (x : Du) : Prop where
  t : x.1.natAbs ≤ B
  n : x.2.1.natAbs ≤ 2 ^ ((v + 1) * B) * 2 ^ x.2.2
  e : x.2.2 ≤ B
theorem p2_mono {a b : Nat} (h : a ≤ b) : 2 ^ a ≤ 2 ^ b := Nat.pow_le_pow_right (by decide) h
theorem DuB.mono {v B C : Nat} {x : Du} (h : DuB v B x) (l : B ≤ C) : DuB v C x := ⟨Nat.le_trans h.t l, Nat.le_trans h.n (Nat.mul_le_mul_right _ (p2_mono (Nat.mul_le_mul_left _ l))), Nat.le_trans h.e l⟩
theorem DuB.up {v w B : Nat} {x : Du} (h : DuB v B x) (l : v ≤ w) : DuB w B x := ⟨h.t, Nat.le_trans h.n (Nat.mul_le_mul_right _ (p2_mono (Nat.mul_le_mul_right _ (by omega)))), h.e⟩
abbrev Ls := List (Int × Int)
/-- what stands at a place -/
def val : Ls → Int → Int
  | [], _ => 0
  | (q, n) :: r, p => if q = p then n else val r p
def Can (xs : Ls) : Prop := xs.Pairwise (fun a b => a.1 < b.1) ∧ ∀ a ∈ xs, a.2 ≠ 0
/-- the places of f among ks, ascending -/
def canon (f : Int → Int) (ks : List Int) : Ls := (ks.filter fun p => decide (f p ≠ 0)).map fun p => (p, f p)
/-- ascending, each once -/
def sortU (ks : List Int) : List Int := (ks.mergeSort fun a b => decide (a ≤ b)).eraseDups
abbrev La := Int × Ls
def laOk (x : La) : Prop := Can x.2
/-- x and then y -/
def laF (x y : La) (p : Int) : Int := val x.2 p + val y.2 (p - x.1)
def laK (x y : La) : List Int := x.2.map (·.1) ++ y.2.map fun a => a.1 + x.1
def laMul (x y : La) : La := (x.1 + y.1, canon (laF x y) (sortU (laK x y)))
def laOne : La := (0, [])
end ZM
namespace Z
open PySem PySem.Spec L2 PyProof.Rows
@[simp] theorem intsOf_map (xs : List Int) : intsOf (xs.map D.int) = some xs := by
  induction xs with
  | nil => rfl
  | cons x xs ih => rw [List.map_cons, intsOf, ih]; rfl
end Z
namespace Z
open PySem PySem.Spec L2 PyProof.Rows
end Z
namespace Z
open PySem PySem.Spec L2
end Z
namespace Z
open PySem PySem.Spec L2
end Z
namespace Z
open PySem PySem.Spec L2
def semTpx : SemL := fun ds S => if ds.length ≤ 1000000 then .ok (.tpx ds) S else .bad
section
variable {X : Cx} {W : WX} {es : List Expr} {f : AX} {pos : Pos}
def semTpxOf : SemL := fun ds S => match ds with
  | [d] => (match asL S d with
    | some xs => .ok (.tpx xs) S
    | none => .bad)
  | _ => .bad
end
section
variable {S : Store} {P X : D → Store → Prop}
@[simp] theorem w_semTpx {ds : List D} : We (semTpx ds S) P X = (ds.length ≤ 1000000 ∧ P (.tpx ds) S) := by
  unfold semTpx
  by_cases h : ds.length ≤ 1000000 <;> simp [h]
@[simp] theorem tpxOf_lst {xs : List D} : semTpxOf [.lst xs] S = .ok (.tpx xs) S := (rfl)
end
end Z
namespace Z
open PySem PySem.Spec L2 PyProof.Rows
section
variable {X : Cx} {c : Code} {e v1 v2 : Expr} {es rest : List Expr} {te t1 : TE} {t : TA} {ts : List TE} {pos : Pos}
/-- an expression at a code -/
structure PEc (X : Cx) (c : Code) (e : Expr) (t : TE) : Prop where
  run : ∀ (pins : List (Addr × Obj)) (s : Shared) (σ : L2.St) (H : Hp) (Q : VK), Inv X pins σ H s → t σ H Q → _root_.PySem.wpAt (model X.prog X.w) X.A c (eval e X.env) (EP X pins σ Q) X.xe s
structure PAc (X : Cx) (c : Code) (es : List Expr) (t : TA) : Prop where
  run : ∀ (pos : Pos) (pins : List (Addr × Obj)) (s : Shared) (σ : L2.St) (H : Hp) (Q : List V → Hp → Prop), Inv X pins σ H s → t σ H Q → _root_.PySem.wpAt (model X.prog X.w) X.A c (spliced (backTo pos (starEach es X.env))) (AP X pins σ Q) X.xe s
theorem PEc.imp {t t' : TE} (h : PEc X c e t) (k : ∀ σ H Q, t' σ H Q → t σ H Q) : PEc X c e t' := ⟨fun pins s σ H Q I q => h.run pins s σ H Q I (k _ _ _ q)⟩
end
end Z
namespace Z
open PySem PySem.Spec L2 PyProof.Rows
section
variable {X : Cx} {W : WX} {c : Code} {e v1 v2 : Expr} {es rest : List Expr} {fe f1 : EX} {f g : AX} {fs : List EX} {pos p apos : Pos}
theorem PAc.imp {t t' : TA} (h : PAc X c es t) (k : ∀ σ H Q, t' σ H Q → t σ H Q) : PAc X c es t' := ⟨fun pos pins s σ H Q I q => h.run pos pins s σ H Q I (k _ _ _ q)⟩
end
end Z
namespace Z
open PySem PySem.Spec L2 PyProof.Rows
end Z
namespace Z
open PySem PySem.Spec L2 PyProof.Rows PySem.Builtin.Str
end Z
namespace Z
open PySem PySem.Spec L2
end Z
namespace Z
open PySem PySem.Spec L2 PyProof.Rows
section
variable {P : Program} {w : World} {A : Around} {E : Value → Shared → Prop} {s : Shared}
/-- l: the texts of ks, each once -/
structure TxS (l ks : List Str) : Prop where
  nd : l.Nodup
  mem : ∀ k, k ∈ l ↔ k ∈ ks
  len : l.length ≤ ks.length
theorem TxS.nil : TxS [] [] := ⟨List.nodup_nil, fun _ => Iff.rfl, Nat.le_refl _⟩
theorem TxS.new {l ks : List Str} {z : Str} (h : TxS l ks) (hz : z ∉ l) : TxS (z :: l) (ks ++ [z]) := ⟨List.nodup_cons.mpr ⟨hz, h.nd⟩, fun k => by
  rw [List.mem_cons, List.mem_append, List.mem_singleton, h.mem k]
  exact Or.comm, by have := h.len; simp; omega⟩
end
end Z
namespace Z
open PySem PySem.Spec L2 PyProof.Rows
inductive PinC (pn : List (Addr × Obj)) : Value → Prop
  | nil : PinC pn .none
  | cons {b : Addr} {o : Obj} {vs : Array Value} {c : Value} (h : (b, o) ∈ pn) (hd : o.data = .fields vs) (hc : vs[2]? = some c) (r : PinC pn c) : PinC pn (.ref b)
theorem PinC.mono {l l' : List (Addr × Obj)} {v : Value} (c : PinC l v) (k : ∀ p ∈ l, p ∈ l') : PinC l' v := by
  induction c with
  | nil => exact .nil
  | cons h hd hc r ih => exact .cons (k _ h) hd hc ih
end Z
namespace L2
open PySem PySem.Spec PyProof.Rows
end L2
namespace Z
open PySem PySem.Spec L2 PyProof.Rows
end Z
namespace Z
open PySem PySem.Spec L2 PyProof.Rows
end Z
namespace Z
open PySem PySem.Spec L2 PyProof.Rows
end Z
namespace Z
open PySem PySem.Spec L2 PyProof.Rows
def smAd (K : PySem.W.Frag) (p : Addr) : Addr := match PySem.W.recIn K p "staticmethod" with
  | some (.ref f :: _) => f
  | _ => 0
def smB (K : PySem.W.Frag) (C p g : Addr) (m : Str) : Bool := (match PySem.W.findCls K (.ref C) (.type "type") m with
    | some (.get (.builtin b) (.ref p') .none (.ref D)) => decide (b = "staticmethod.__get__") && (decide (p' = p) && decide (D = C))
    | _ => false) && ((match PySem.W.recIn K p "staticmethod" with
    | some (.ref f :: _) => decide (f = g)
    | _ => false) && (PySem.W.readsIn K C (.type "type") && (decide (PySem.W.specialIn K (.ref C) "__getattribute__" = some (some (.builtin "type.__getattribute__"))) && PySem.W.keepIn K (.ref g))))
end Z
namespace ZW
/-- signs with an inverse, commuting and an order -/
structure Al where
  inv : Nat → Nat
  I : Nat → Nat → Bool
  lt : Nat → Nat → Bool
structure Al.Ok (A : Al) (ok : Nat → Prop) : Prop where
  inv_ok : ∀ a, ok a → ok (A.inv a)
  inv_inv : ∀ a, ok a → A.inv (A.inv a) = a
  inv_ne : ∀ a, ok a → A.inv a ≠ a
  sym : ∀ a b, ok a → ok b → A.I a b = A.I b a
  invl : ∀ a b, ok a → ok b → A.I (A.inv a) b = A.I a b
  irr : ∀ a, ok a → A.I a a = false
  asym : ∀ a b, A.lt a b = true → A.lt b a = false
  tri : ∀ a b, ok a → ok b → A.lt a b = false → A.lt b a = false → a = b
  trans : ∀ a b c, A.lt a b = true → A.lt b c = true → A.lt a c = true
variable {A : Al} {ok : Nat → Prop}
def put (A : Al) : List Nat → Nat → List Nat
  | [], s => [s]
  | c :: w, s =>
    if c = A.inv s then w
    else if A.I c s = true then
      (if put A w s = s :: w then (if A.lt c s = true then s :: c :: w else c :: s :: w) else c :: put A w s)
    else s :: c :: w
/-- s may stand on w -/
def T (A : Al) : List Nat → Nat → Prop
  | [], _ => True
  | c :: w, s => c ≠ A.inv s ∧ (A.I c s = true → A.lt c s = true ∧ T A w s)
def P (A : Al) (ok : Nat → Prop) : List Nat → Prop
  | [] => True
  | c :: w => ok c ∧ P A ok w ∧ T A w c
section
variable (h : A.Ok ok)
include h
theorem P.mem {w : List Nat} (hP : P A ok w) : ∀ c ∈ w, ok c := by
  induction w with
  | nil => simp
  | cons c w ih =>
    simp only [List.mem_cons]
    rintro d (rfl | hd)
    · exact hP.1
    · exact ih hP.2.1 d hd
end
end ZW
namespace ZW
variable {A : Al} {ok : Nat → Prop}
/-- from left to right; the answer has its last sign first -/
def N (A : Al) (w0 w : List Nat) : List Nat := w.foldl (put A) w0
@[simp] theorem N_nil {w0 : List Nat} : N A w0 [] = w0 := rfl
@[simp] theorem N_cons {w0 : List Nat} {s : Nat} {w : List Nat} : N A w0 (s :: w) = N A (put A w0 s) w := rfl
@[simp] theorem N_app {w0 u v : List Nat} : N A w0 (u ++ v) = N A (N A w0 u) v := by simp [N]
/-- no sign can be brought beside its inverse -/
def Red (A : Al) (w : List Nat) : Prop := ∀ u x v y, w = u ++ x :: v ++ A.inv x :: y → ¬ ∀ c ∈ v, A.I c x = true
def Free (A : Al) (w u : List Nat) (s : Nat) (v : List Nat) : Prop := w = u ++ s :: v ∧ ∀ c ∈ u, A.I c s = true
inductive Sel (A : Al) : List Nat → List Nat → Prop
  | nil : Sel A [] []
  | cons {w u v o : List Nat} {s : Nat} (f : Free A w u s v) (m : ∀ u' a v', Free A w u' a v' → A.lt a s = false) (r : Sel A (u ++ v) o) : Sel A w (s :: o)
section
variable (h : A.Ok ok)
include h
theorem Sel.mem {w o : List Nat} (q : Sel A w o) : ∀ c, c ∈ o ↔ c ∈ w := by
  induction q with
  | nil => simp
  | cons f m r ih =>
    intro c
    rw [f.1]
    simp [ih, or_left_comm]
/-- what stays reduced when a first sign is taken -/
theorem Red.drop {u v : List Nat} {s : Nat} (hw : ∀ c ∈ u ++ s :: v, ok c) (hR : Red A (u ++ s :: v)) (hf : ∀ c ∈ u, A.I c s = true) : Red A (u ++ v) := by
  intro a x b y e hb
  have hs : ok s := hw s (by simp)
  rw [List.append_assoc] at e
  rcases List.append_eq_append_iff.mp e with ⟨c, e1, e2⟩ | ⟨c, e1, e2⟩
  · -- a = u ++ c: all behind s
    subst e1
    exact hR (u ++ s :: c) x b y (by rw [e2]; simp) hb
  · -- u = a ++ c, c ++ v = x :: b ++ ..
    subst e1
    match c, e2 with
    | [], e2 =>
      simp at e2
      exact hR (a ++ [s]) x b y (by rw [← e2]; simp) hb
    | z :: c, e2 =>
      obtain ⟨rfl, e3⟩ := List.cons.inj (by simpa using e2 : x :: (b ++ A.inv x :: y) = z :: (c ++ v))
      have hx : ok x := hw x (by simp)
      have hxs : A.I x s = true := hf x (by simp)
      rcases List.append_eq_append_iff.mp e3 with ⟨d, e4, e5⟩ | ⟨d, e4, e5⟩
      · -- c = b ++ d, inv x :: y = d ++ v
        subst e4
        match d, e5 with
        | [], e5 =>
          simp at e5
          exact hR a x (b ++ [s]) y (by rw [← e5]; simp) fun c hc => by
            simp at hc
            rcases hc with hc | rfl
            · exact hb c hc
            · rw [h.sym _ _ hs hx]; exact hxs
        | z :: d, e5 =>
          obtain ⟨rfl, e6⟩ := List.cons.inj e5
          exact hR a x b (d ++ s :: v) (by simp) hb
      · -- b = c ++ d
        subst e4
        exact hR a x (c ++ s :: d) y (by rw [e5]; simp) fun e he => by
          simp at he
          rcases he with he | rfl | he
          · exact hb e (by simp [he])
          · rw [h.sym _ _ hs hx]; exact hxs
          · exact hb e (by simp [he])
/-- a sign that everything before it lets pass could stand first -/
theorem Sel.free {w o : List Nat} (q : Sel A w o) : ∀ {v : List Nat} {a : Nat} {y : List Nat}, o = v ++ a :: y → (∀ c ∈ v, A.I c a = true) → ∃ u' v', Free A w u' a v' := by
  induction q with
  | nil => intro v a y e; simp at e
  | @cons w u v0 o s f m r ih =>
    intro v a y e hv
    match v, e, hv with
    | [], e, hv =>
      obtain ⟨rfl, _⟩ := List.cons.inj e
      exact ⟨_, _, f⟩
    | z :: v, e, hv =>
      obtain ⟨rfl, e2⟩ := List.cons.inj e
      obtain ⟨u', v', e3, hu'⟩ := ih e2 fun c hc => hv c (by simp [hc])
      have hsa : A.I s a = true := hv s (by simp)
      rw [f.1]
      rcases List.append_eq_append_iff.mp e3 with ⟨c, e4, e5⟩ | ⟨c, e4, e5⟩
      · -- u' = u ++ c, v0 = c ++ a :: v'
        subst e4
        exact ⟨u ++ s :: c, v', by rw [e5]; simp, fun d hd => by
          simp at hd
          rcases hd with hd | rfl | hd
          · exact hu' d (by simp [hd])
          · exact hsa
          · exact hu' d (by simp [hd])⟩
      · subst e4
        match c, e5 with
        | [], e5 =>
          simp at e5
          refine ⟨u' ++ [s], v', by rw [← e5]; simp, fun d hd => ?_⟩
          simp at hd
          rcases hd with hd | rfl
          · exact hu' d hd
          · exact hsa
        | z :: c, e5 =>
          obtain ⟨rfl, e6⟩ := List.cons.inj e5
          exact ⟨u', c ++ s :: v0, by simp, hu'⟩
end
end ZW
namespace Z
open PySem PySem.Spec L2
def isLow (c : Nat) : Bool := decide (97 ≤ c ∧ c ≤ 122)
def isUp (c : Nat) : Bool := decide (65 ≤ c ∧ c ≤ 90)
/-- a sign -/
def okC (c : Nat) : Prop := isLow c = true ∨ isUp c = true
def low (c : Nat) : Nat := if isUp c = true then c + 32 else c
def inv (c : Nat) : Nat := if isLow c = true then c - 32 else c + 32
theorem inv_ok {c : Nat} (h : okC c) : okC (inv c) := by
  unfold okC inv isLow isUp at *
  simp at *
  split <;> omega
theorem inv_inv {c : Nat} (h : okC c) : inv (inv c) = c := by
  unfold okC isLow isUp at h
  simp at h
  unfold inv isLow
  simp
  split <;> split <;> omega
theorem inv_ne {c : Nat} (h : okC c) : inv c ≠ c := by
  unfold okC isLow isUp at h
  simp at h
  unfold inv isLow
  simp
  split <;> omega
def ltC (a b : Nat) : Bool := decide (low a < low b ∨ (low a = low b ∧ isUp a = false ∧ isUp b = true))
def comC (ps : List (Nat × Nat)) (a b : Nat) : Bool := decide (low a ≠ low b ∧ (min (low a) (low b), max (low a) (low b)) ∈ ps)
/-- the letters of a world of threads; ps: the pairs that commute -/
def alT (ps : List (Nat × Nat)) : ZW.Al := ⟨inv, comC ps, ltC⟩
section
variable {S : Store} {P X : D → Store → Prop} {c a b : Nat} {ps : List (Nat × Nat)}
@[simp] theorem tyStr_sg : tyStr S (sg c) = true := rfl
end
end Z
namespace Z
open PySem PySem.Spec L2
/-- pairs of letters, as texts -/
def pairsD (ps : List (Nat × Nat)) : List D := ps.map fun p => .str (tx [p.1, p.2])
/-- a world of threads -/
def thrD (ls : List Nat) (ps : List (Nat × Nat)) : D := .ins "Threads" ["letters", "pairs"] [.str (tx ls), .tup (pairsD ps)]
section
variable {S : Store} {P X : D → Store → Prop} {c a b s : Nat} {ls : List Nat} {ps : List (Nat × Nat)}
@[simp] theorem flds_thr : fldsOf S (thrD ls ps) = some (("Threads" : Str), (["letters", "pairs"] : List Str), ([.str (tx ls), .tup (pairsD ps)] : List D)) := (rfl)
@[simp] theorem look_letters {u v : D} : lookN "letters" ["letters", "pairs"] [u, v] = some u := by simp [lookN]
@[simp] theorem look_pairs {u v : D} : lookN "pairs" ["letters", "pairs"] [u, v] = some v := by
  simp only [lookN]
  rw [if_neg (by decide)]
  simp
@[simp] theorem under_pairsD {k : Nat} : underL k (pairsD ps) = true := by
  rw [underL_iff]
  intro d hd
  obtain ⟨p, _, rfl⟩ := List.mem_map.mp hd
  simp
@[simp] theorem under_thr {k : Nat} : under k (thrD ls ps) = true := by simp [thrD]
end
end Z
namespace Z
open PySem PySem.Spec L2
section
variable {S : Store} {P X : D → Store → Prop} {c a b s : Nat} {ls : List Nat} {ps : List (Nat × Nat)} {w : List Nat}
@[simp] theorem ltXD_int (i j : Int) : ltXD (.int i) (.int j) S = .ok (.bl (decide (i < j))) S := orS2_l (ltX_int i j S)
end
end Z
namespace Z
open PySem PySem.Spec L2
section
variable {S : Store} {P X : D → Store → Prop} {c a b s : Nat} {ls : List Nat} {ps : List (Nat × Nat)} {w : List Nat}
/-- the word with one more sign -/
def putL (ps : List (Nat × Nat)) (w : List Nat) (s : Nat) : List Nat := (ZW.put (alT ps) w.reverse s).reverse
end
end Z
namespace Z
open PySem PySem.Spec L2
section
variable {S : Store} {P X : D → Store → Prop} {c a b s : Nat} {ls : List Nat} {ps : List (Nat × Nat)} {w : List Nat}
/-- the normal form -/
def normL (ps : List (Nat × Nat)) (w : List Nat) : List Nat := w.foldl (putL ps) []
end
end Z
namespace Z
open PySem PySem.Spec L2
def specD (ls : List Nat) (ps : List (Nat × Nat)) : D := .tup [.str "threads", .str (tx ls), .tup (pairsD ps)]
section
variable {S : Store} {P X : D → Store → Prop} {c a b s : Nat} {ls : List Nat} {ps : List (Nat × Nat)} {w : List Nat}
@[simp] theorem under_spec {k : Nat} : under k (specD ls ps) = true := by simp [specD]
@[simp] theorem ix_spec2 : ixX (specD ls ps) (.int 2) S = .ok (.tup (pairsD ps)) S := rfl
@[simp] theorem ix_spec1 : ixX (specD ls ps) (.int 1) S = .ok (.str (tx ls)) S := rfl
end
end Z
namespace Z
open PySem PySem.Spec L2
end Z
namespace Z
open PySem PySem.Spec L2
end Z
namespace Z
open PySem PySem.Spec L2
end Z
namespace Z
open PySem PySem.Spec L2
end Z
namespace Z
open PySem PySem.Spec L2
section
variable {S : Store} {P X : D → Store → Prop} {c a b s : Nat} {ls : List Nat} {ps : List (Nat × Nat)} {w : List Nat}
@[simp] theorem under_sgs {k : Nat} {l : List Nat} : underL k (l.map sg) = true := by
  rw [underL_iff]
  intro d hd
  obtain ⟨c, _, rfl⟩ := List.mem_map.mp hd
  rfl
end
end Z
namespace Z
open PySem PySem.Spec L2
section
variable {S : Store} {P X : D → Store → Prop} {c a b s : Nat} {ls : List Nat} {ps : List (Nat × Nat)} {w : List Nat}
/-- pairs of letters of ls -/
def PairsOf (ls : List Nat) (qs : List (Nat × Nat)) : Prop := ∀ p ∈ qs, p.1 < p.2 ∧ p.1 ∈ ls ∧ p.2 ∈ ls
/-- ascending pairs -/
def Asc (ps : List (Nat × Nat)) : Prop := ps.Pairwise fun p q => p.1 < q.1 ∨ (p.1 = q.1 ∧ p.2 < q.2)
end
end Z
namespace Z
open PySem PySem.Spec L2
end Z
namespace Z
open PySem PySem.Spec L2
/-- the pairs found before (i, b) -/
structure PrI (ls : List Nat) (ps : List (Nat × Nat)) (x b : Nat) : Prop where
  of_ : PairsOf ls ps
  asc : Asc ps
  lt : ∀ p ∈ ps, p.1 < x ∨ (p.1 = x ∧ ∀ y ∈ ls.drop b, p.2 < y)
section
variable {S : Store} {P X : D → Store → Prop} {ls : List Nat} {ps qs : List (Nat × Nat)} {n : Nat} {cs : List Int}
theorem Alpha.drop (h : Alpha ls) {i : Nat} {x : Nat} (hx : ls[i]? = some x) : ∀ y ∈ ls.drop (i + 1), x < y := by
  intro y hy
  obtain ⟨hi, rfl⟩ := List.getElem?_eq_some_iff.mp hx
  obtain ⟨k, hk, rfl⟩ := List.mem_iff_getElem.mp hy
  simp at hk
  rw [List.getElem_drop]
  exact List.pairwise_iff_getElem.mp h.asc _ _ _ _ (by omega)
theorem drop_sub {b : Nat} {y : Nat} (h : y ∈ ls.drop (b + 1)) : y ∈ ls.drop b := by
  rw [← List.drop_drop] at h
  exact List.mem_of_mem_drop h
theorem PrI.skip {x b : Nat} (h : PrI ls ps x b) : PrI ls ps x (b + 1) := ⟨h.of_, h.asc, fun p hp => (h.lt p hp).imp id fun ⟨e, f⟩ => ⟨e, fun y hy => f y (drop_sub hy)⟩⟩
theorem PrI.add {x b z : Nat} (hA : Alpha ls) (h : PrI ls ps x b) (hx : x ∈ ls) (hz : ls[b]? = some z) (hxz : x < z) : PrI ls (ps ++ [(x, z)]) x (b + 1) := by
  have hzd : z ∈ ls.drop b := by
    obtain ⟨hb, rfl⟩ := List.getElem?_eq_some_iff.mp hz
    rw [List.drop_eq_getElem_cons hb]; exact List.mem_cons_self
  refine ⟨fun p hp => ?_, ?_, fun p hp => ?_⟩
  · rcases List.mem_append.mp hp with hp | hp
    · exact h.of_ p hp
    · rw [List.mem_singleton.mp hp]; exact ⟨hxz, hx, List.mem_of_mem_drop hzd⟩
  · refine List.pairwise_append.mpr ⟨h.asc, by simp, fun p hp q hq => ?_⟩
    rw [List.mem_singleton.mp hq]
    exact (h.lt p hp).imp id fun ⟨e, f⟩ => ⟨e, f z hzd⟩
  · rcases List.mem_append.mp hp with hp | hp
    · exact h.skip.lt p hp
    · rw [List.mem_singleton.mp hp]; exact Or.inr ⟨rfl, fun y hy => hA.drop hz y hy⟩
end
end Z
namespace Z
open PySem PySem.Spec L2
end Z
namespace Z
open PySem PySem.Spec L2
section
variable {S : Store} {P X : D → Store → Prop} {ls w : List Nat} {ps qs : List (Nat × Nat)} {n c : Nat} {cs : List Int} {v : D}
open Classical in
noncomputable def isF (ls : List Nat) (d : D) : Bool := decide (∃ c, d = sg c ∧ low c ∈ ls)
@[simp] theorem isF_sg : isF ls (sg c) = decide (low c ∈ ls) := by
  unfold isF
  congr 1
  exact propext ⟨fun ⟨c', h, h'⟩ => by simp at h; subst h; exact h', fun h => ⟨c, rfl, h⟩⟩
end
end Z
namespace Z
open PySem PySem.Spec L2
def up (c : Nat) : Nat := if isLow c = true then c - 32 else c
end Z
namespace ZM
structure LaB (v c B : Nat) (x : La) : Prop where
  s : x.1.natAbs ≤ B
  p : ∀ a ∈ x.2, a.1.natAbs ≤ B ∧ a.2.natAbs ≤ B * 2 ^ v
  l : x.2.length ≤ c
theorem LaB.mono {v c d B C : Nat} {x : La} (h : LaB v c B x) (lc : c ≤ d) (l : B ≤ C) : LaB v d C x := ⟨Nat.le_trans h.s l, fun a ha => ⟨Nat.le_trans (h.p a ha).1 l, Nat.le_trans (h.p a ha).2 (Nat.mul_le_mul_right _ l)⟩, Nat.le_trans h.l lc⟩
theorem LaB.up {v w c B : Nat} {x : La} (h : LaB v c B x) (l : v ≤ w) : LaB w c B x := ⟨h.s, fun a ha => ⟨(h.p a ha).1, Nat.le_trans (h.p a ha).2 (Nat.mul_le_mul_left _ (p2_mono l))⟩, h.l⟩
/-- an element of size n -/
inductive StOk : Nat → List Int → Prop
  | two (a : Int) : StOk 2 [a]
  | three (a b c : Int) : StOk 3 [a, b, c]
  | four (a b c d e f : Int) : StOk 4 [a, b, c, d, e, f]
def stMul : List Int → List Int → List Int
  | [a], [x] => [a + x]
  | [a, b, c], [x, y, z] => [a + x, b + a * z + y, c + z]
  | [a, b, c, d, e, f], [x, y, z, u, v, w] => [a + x, b + a * u + y, c + a * v + b * w + z, d + u, e + d * w + v, f + w]
  | xs, _ => xs
def stOne : Nat → List Int
  | 2 => [0]
  | 3 => [0, 0, 0]
  | _ => [0, 0, 0, 0, 0, 0]
variable {n : Nat} {x y z : List Int}
def StB (B : Nat) (x : List Int) : Prop := ∀ a ∈ x, a.natAbs ≤ 2 ^ B
theorem StB.mono {B C : Nat} (h : StB B x) (l : B ≤ C) : StB C x := fun a ha => Nat.le_trans (h a ha) (p2_mono l)
end ZM
namespace Z
open PySem PySem.Spec L2 ZM
section
variable {ps : List (Nat × Nat)} {ls u v w : List Nat}
/-- words in normal form -/
def NfW (ls : List Nat) (ps : List (Nat × Nat)) (w : List Nat) : Prop := (∀ c ∈ w, okC c ∧ low c ∈ ls) ∧ normL ps w = w
theorem NfW.ok (h : NfW ls ps w) : ∀ c ∈ w, okC c := fun c hc => (h.1 c hc).1
def wMul (ps : List (Nat × Nat)) (u v : List Nat) : List Nat := v.foldl (putL ps) u
end
inductive Wd where
  | thr (ls : List Nat) (ps : List (Nat × Nat))
  | st (n : Nat)
  | la
  | du
  | bo (a b : Wd)
inductive El where
  | w (l : List Nat)
  | s (l : List Int)
  | l (x : La)
  | d (x : Du)
  | p (a b : El)
deriving DecidableEq
/-- made by the law -/
def Wd.ok : Wd → Prop
  | .thr ls ps => Alpha ls ∧ 1 ≤ ls.length ∧ ls.length ≤ 5 ∧ PairsOf ls ps ∧ Asc ps
  | .st n => 2 ≤ n ∧ n ≤ 4
  | .la => True
  | .du => True
  | .bo a b => a.ok ∧ b.ok
/-- an element of the world -/
def Vd : Wd → El → Prop
  | .thr ls ps, .w l => NfW ls ps l
  | .st n, .s l => StOk n l
  | .la, .l x => laOk x
  | .du, .d x => Du.ok x
  | .bo A B, .p a b => Vd A a ∧ Vd B b
  | _, _ => False
/-- below a size -/
def SzV (v c n : Nat) : El → Prop
  | .w l => l.length ≤ c
  | .s l => StB ((v + 1) * n) l
  | .l x => LaB v c n x
  | .d x => DuB v n x
  | .p a b => SzV v c n a ∧ SzV v c n b
/-- below a size: the numbers of the elements have up to a hundred times as many digits -/
abbrev Sz (n : Nat) : El → Prop := SzV 99 n n
def mul : Wd → El → El → El
  | .thr _ ps, .w u, .w v => .w (wMul ps u v)
  | .st _, .s u, .s v => .s (stMul u v)
  | .la, .l x, .l y => .l (laMul x y)
  | .du, .d x, .d y => .d (duMul x y)
  | .bo A B, .p a b, .p c d => .p (mul A a c) (mul B b d)
  | _, e, _ => e
def one : Wd → El
  | .thr _ _ => .w []
  | .st n => .s (stOne n)
  | .la => .l laOne
  | .du => .d duOne
  | .bo A B => .p (one A) (one B)
theorem vd_thr {ls : List Nat} {ps : List (Nat × Nat)} {a : El} (h : Vd (.thr ls ps) a) : ∃ u, a = .w u ∧ NfW ls ps u := by
  cases a <;> first | exact ⟨_, rfl, h⟩ | exact h.elim
theorem vd_st {n : Nat} {a : El} (h : Vd (.st n) a) : ∃ u, a = .s u ∧ StOk n u := by
  cases a <;> first | exact ⟨_, rfl, h⟩ | exact h.elim
theorem vd_la {a : El} (h : Vd .la a) : ∃ u, a = .l u ∧ laOk u := by
  cases a <;> first | exact ⟨_, rfl, h⟩ | exact h.elim
theorem vd_du {a : El} (h : Vd .du a) : ∃ u, a = .d u ∧ Du.ok u := by
  cases a <;> first | exact ⟨_, rfl, h⟩ | exact h.elim
theorem vd_bo {A B : Wd} {a : El} (h : Vd (.bo A B) a) : ∃ x y, a = .p x y ∧ Vd A x ∧ Vd B y := by
  cases a <;> first | exact ⟨_, _, rfl, h⟩ | exact h.elim
theorem SzV.mono {v c d m n : Nat} (hc : c ≤ d) (h : m ≤ n) : ∀ {a : El}, SzV v c m a → SzV v d n a
  | .w _, q => Nat.le_trans q hc
  | .s _, q => StB.mono q (Nat.mul_le_mul_left _ h)
  | .l _, q => LaB.mono q hc h
  | .d _, q => DuB.mono q h
  | .p _ _, q => ⟨SzV.mono hc h q.1, SzV.mono hc h q.2⟩
theorem Sz.mono {m n : Nat} (h : m ≤ n) {a : El} (q : Sz m a) : Sz n a := SzV.mono h h q
theorem SzV.up {v w c n : Nat} (h : v ≤ w) : ∀ {a : El}, SzV v c n a → SzV w c n a
  | .w _, q => q
  | .s _, q => StB.mono q (Nat.mul_le_mul_right _ (by omega))
  | .l _, q => LaB.up q h
  | .d _, q => DuB.up q h
  | .p _ _, q => ⟨SzV.up h q.1, SzV.up h q.2⟩
def intsD (xs : List Int) : D := .tup (xs.map .int)
def lampD (a : Int × Int) : D := .tup [.int a.1, .int a.2]
def El.D : El → Z.D
  | .w u => .str (tx u)
  | .s u => intsD u
  | .l x => .tup [.int x.1, .tpx (x.2.map lampD)]
  | .d x => .tup [.int x.1, .int x.2.1, .int x.2.2]
  | .p a b => .tup [a.D, b.D]
def Wd.D : Wd → Z.D
  | .thr ls ps => thrD ls ps
  | .st n => .ins "Stairs" ["size"] [.int n]
  | .la => .ins "Lamps" [] []
  | .du => .ins "Doubler" [] []
  | .bo a b => .ins "Both" ["one", "other"] [a.D, b.D]
theorem ints_inj {x y : List Int} (h : x.map D.int = y.map D.int) : x = y := by
  induction x generalizing y with
  | nil => cases y <;> simp at h ⊢
  | cons a x ih =>
    cases y with
    | nil => simp at h
    | cons b y => simp at h; rw [h.1, ih h.2]
theorem lamps_inj {x y : Ls} (h : x.map lampD = y.map lampD) : x = y := by
  induction x generalizing y with
  | nil => cases y <;> simp at h ⊢
  | cons a x ih =>
    cases y with
    | nil => simp at h
    | cons b y =>
      simp [lampD] at h
      rw [Prod.ext h.1.1 h.1.2, ih h.2]
theorem El.inj {W : Wd} {a b : El} (ha : Vd W a) (hb : Vd W b) (h : a.D = b.D) : a = b := by
  induction W generalizing a b with
  | thr ls ps =>
    obtain ⟨u, rfl, _⟩ := vd_thr ha; obtain ⟨v, rfl, _⟩ := vd_thr hb
    simp only [El.D, D.str.injEq, tx_inj] at h
    rw [h]
  | st k =>
    obtain ⟨u, rfl, _⟩ := vd_st ha; obtain ⟨v, rfl, _⟩ := vd_st hb
    simp only [El.D, intsD, D.tup.injEq] at h
    rw [ints_inj h]
  | la =>
    obtain ⟨⟨s, x⟩, rfl, _⟩ := vd_la ha; obtain ⟨⟨t, y⟩, rfl, _⟩ := vd_la hb
    simp only [El.D, D.tup.injEq, D.tpx.injEq, List.cons.injEq, D.int.injEq, and_true] at h
    rw [h.1, lamps_inj h.2]
  | du =>
    obtain ⟨⟨s, n, e⟩, rfl, _⟩ := vd_du ha; obtain ⟨⟨t, m, f⟩, rfl, _⟩ := vd_du hb
    simp only [El.D, D.tup.injEq, List.cons.injEq, D.int.injEq, and_true] at h
    obtain ⟨h1, h2, h3⟩ := h
    subst h1; subst h2
    have : e = f := by omega
    rw [this]
  | bo A B i1 i2 =>
    obtain ⟨x, y, rfl, h1, h2⟩ := vd_bo ha; obtain ⟨x', y', rfl, h3, h4⟩ := vd_bo hb
    simp only [El.D, D.tup.injEq, List.cons.injEq, and_true] at h
    rw [i1 h1 h3 h.1, i2 h2 h4 h.2]
end Z
namespace Z
open PySem PySem.Spec L2 ZM
end Z
namespace Z
open PySem PySem.Spec L2 ZM
end Z
namespace Z
open PySem PySem.Spec L2 ZM
end Z
namespace Z
open PySem PySem.Spec L2 ZM
end Z
namespace Z
open PySem PySem.Spec L2 ZM
end Z
namespace Z
open PySem PySem.Spec L2 ZM
section
variable {S : Store} {P X : D → Store → Prop} {Q : Q0} {sl : Sl}
@[simp] theorem underL_lamps {k : Nat} {xs : Ls} : underL k (xs.map lampD) = true := by
  rw [underL_iff]
  intro d hd
  obtain ⟨a, _, rfl⟩ := List.mem_map.mp hd
  simp [lampD]
end
end Z
namespace Z
open PySem PySem.Spec L2
mutual
def pd : D → PyData
  | .non => .none
  | .bl b => .bool b
  | .int i => .int i
  | .str s => .str s
  | .lst xs => .list (pdL xs)
  | .tup xs => .tuple (pdL xs)
  | .tpx xs => .tuple (pdL xs)
  | _ => .none
def pdL : List D → List PyData
  | [] => []
  | d :: ds => pd d :: pdL ds
end
/-- == -/
def eqv (d e : D) : Bool := PyData.eqv (pd d) (pd e)
end Z
namespace Z
open PySem PySem.Spec L2 ZM
end Z
namespace Z
open PySem PySem.Spec L2 ZM
end Z
namespace Z
open PySem PySem.Spec L2 ZM
section
variable {S : Store} {P X : D → Store → Prop} {sl : Sl} {n : Nat}
abbrev Mt := List (List Int)
end
end Z
namespace Z
open PySem PySem.Spec L2 ZM
section
variable {S : Store} {P X : D → Store → Prop} {sl : Sl} {n : Nat}
def MB (A : Nat) (M : Mt) : Prop := ∀ row ∈ M, ∀ x ∈ row, x.natAbs ≤ 2 ^ A
end
end Z
namespace Z
open PySem PySem.Spec L2 ZM
end Z
namespace Z
open PySem PySem.Spec L2 ZM
section
variable {S : Store}
theorem PairsOf.lt {ls : List Nat} {ps : List (Nat × Nat)} (h : PairsOf ls ps) : ∀ p ∈ ps, p.1 < p.2 := fun p hp => (h p hp).1
end
end Z
namespace Z
open PySem PySem.Spec L2 ZM
end Z
namespace Z
open PySem PySem.Spec L2 ZM
end Z
namespace Z
open PySem PySem.Spec L2 ZM
end Z
namespace Z
open PySem PySem.Spec L2 ZM
end Z
namespace Z
open PySem PySem.Spec L2 ZM
end Z
namespace Z
open PySem PySem.Spec L2 ZM
end Z
namespace Z
open PySem PySem.Spec L2 ZM
end Z
namespace Z
open PySem PySem.Spec L2 ZM
end Z
namespace Z
open PySem PySem.Spec L2
end Z
namespace Z
open PySem PySem.Spec L2 ZM
end Z
namespace Z
open PySem PySem.Spec L2 ZM
end Z
namespace Z
open PySem PySem.Spec L2 ZM
end Z
namespace Z
open PySem PySem.Spec L2 ZM
section
variable {S : Store} {P X : D → Store → Prop} {sl : Sl} {n : Nat}
theorem MB.mono {A B : Nat} {M : Mt} (h : MB A M) (l : A ≤ B) : MB B M := fun row hr x hx => Nat.le_trans (h row hr x hx) (p2_mono l)
end
end Z
namespace Z
open PySem PySem.Spec L2 ZM
end Z
namespace ZM
end ZM
namespace Z
open PySem PySem.Spec L2 ZM
end Z
namespace Z
open PySem PySem.Spec L2 ZM
end Z
namespace Z
open PySem PySem.Spec L2 ZM
end Z
namespace Z
open PySem PySem.Spec L2 ZM
end Z
namespace Z
open PySem PySem.Spec L2 ZM TL
end Z
namespace Z
open PySem PySem.Spec L2 ZM
end Z
namespace K04
open PySem PySem.Spec L2 Z PyProof.Rows
def top (i : Nat) : Stmt := PySem.Challenge.pw_waysagree_k04_texts_of_ratios.main.body.getD i (.Pass ⟨0, 0, 0, 0⟩)
abbrev s_common_divisor : Stmt := top 13
abbrev s_is_whole : Stmt := top 10
abbrev s_Ratio___init__ : Stmt := inClass (top 15) 0
abbrev s_Ratio_text : Stmt := inClass (top 15) 4
abbrev s_is_digits : Stmt := top 11
abbrev s_is_signed : Stmt := top 12
abbrev s_Ratio_read : Stmt := inClass (top 15) 1
abbrev s__law_bag : Stmt := top 18
abbrev s__law_gcd : Stmt := top 25
abbrev s__law_frac : Stmt := top 26
abbrev s__law_frac_text : Stmt := top 27
abbrev s__law_pick : Stmt := top 19
abbrev s__law_of : Stmt := top 20
abbrev s_Ratio_bottom : Stmt := inClass (top 15) 3
abbrev s_Ratio_top : Stmt := inClass (top 15) 2
abbrev s__law_pair : Stmt := top 28
abbrev s__law_reader : Stmt := top 29
abbrev s__law_same : Stmt := top 21
abbrev s__law_field : Stmt := top 22
abbrev s__law_why : Stmt := top 23
abbrev s__law_whys : Stmt := top 24
abbrev s_law : Stmt := top 30
abbrev s_InvalidRatio___init__ : Stmt := inClass (top 4) 0
abbrev s_WayError___init__ : Stmt := inClass (top 2) 0
abbrev s_InvalidText___init__ : Stmt := inClass (top 5) 0
abbrev kA_a_common_divisor (K : PySem.W.Frag) : Addr := He.ga K "common_divisor"
abbrev kA_a_is_whole (K : PySem.W.Frag) : Addr := He.ga K "is_whole"
abbrev kA_a_is_digits (K : PySem.W.Frag) : Addr := He.ga K "is_digits"
abbrev kA_a_is_signed (K : PySem.W.Frag) : Addr := He.ga K "is_signed"
abbrev kA_a__law_bag (K : PySem.W.Frag) : Addr := He.ga K "_law_bag"
abbrev kA_a__law_gcd (K : PySem.W.Frag) : Addr := He.ga K "_law_gcd"
abbrev kA_a__law_frac (K : PySem.W.Frag) : Addr := He.ga K "_law_frac"
abbrev kA_a__law_frac_text (K : PySem.W.Frag) : Addr := He.ga K "_law_frac_text"
abbrev kA_a__law_pick (K : PySem.W.Frag) : Addr := He.ga K "_law_pick"
abbrev kA_a__law_of (K : PySem.W.Frag) : Addr := He.ga K "_law_of"
abbrev kA_a__law_pair (K : PySem.W.Frag) : Addr := He.ga K "_law_pair"
abbrev kA_a__law_reader (K : PySem.W.Frag) : Addr := He.ga K "_law_reader"
abbrev kA_a__law_same (K : PySem.W.Frag) : Addr := He.ga K "_law_same"
abbrev kA_a__law_field (K : PySem.W.Frag) : Addr := He.ga K "_law_field"
abbrev kA_a__law_why (K : PySem.W.Frag) : Addr := He.ga K "_law_why"
abbrev kA_a__law_whys (K : PySem.W.Frag) : Addr := He.ga K "_law_whys"
abbrev kA_a_law (K : PySem.W.Frag) : Addr := He.ga K "law"
abbrev kA_C_Ratio (K : PySem.W.Frag) : Addr := He.ga K "Ratio"
abbrev kA_C_WayError (K : PySem.W.Frag) : Addr := He.ga K "WayError"
abbrev kA_C_Missing (K : PySem.W.Frag) : Addr := He.ga K "Missing"
abbrev kA_C_InvalidRatio (K : PySem.W.Frag) : Addr := He.ga K "InvalidRatio"
abbrev kA_C_InvalidText (K : PySem.W.Frag) : Addr := He.ga K "InvalidText"
abbrev kA_C_NothingLeft (K : PySem.W.Frag) : Addr := He.ga K "NothingLeft"
abbrev kA_a_Ratio___init__ (K : PySem.W.Frag) : Addr := He.ma K (He.ga K "Ratio") "__init__"
abbrev kA_a_Ratio_text (K : PySem.W.Frag) : Addr := He.ma K (He.ga K "Ratio") "text"
abbrev kA_p_Ratio_read (K : PySem.W.Frag) : Addr := He.ma K (He.ga K "Ratio") "read"
abbrev kA_a_Ratio_read (K : PySem.W.Frag) : Addr := Z.smAd K (He.ma K (He.ga K "Ratio") "read")
abbrev kA_p_Ratio_bottom (K : PySem.W.Frag) : Addr := He.ma K (He.ga K "Ratio") "bottom"
abbrev kA_a_Ratio_bottom (K : PySem.W.Frag) : Addr := ZK.propB K (He.ma K (He.ga K "Ratio") "bottom")
abbrev kA_p_Ratio_top (K : PySem.W.Frag) : Addr := He.ma K (He.ga K "Ratio") "top"
abbrev kA_a_Ratio_top (K : PySem.W.Frag) : Addr := ZK.propB K (He.ma K (He.ga K "Ratio") "top")
abbrev kA_ai_InvalidRatio (K : PySem.W.Frag) : Addr := He.ma K (He.ga K "InvalidRatio") "__init__"
abbrev kA_ai_WayError (K : PySem.W.Frag) : Addr := He.ma K (He.ga K "WayError") "__init__"
abbrev kA_ai_InvalidText (K : PySem.W.Frag) : Addr := He.ma K (He.ga K "InvalidText") "__init__"
abbrev kA_P__law_reader (K : PySem.W.Frag) : Addr := (He.cT K ("_law_reader", none)).2
abbrev kA_P_law (K : PySem.W.Frag) : Addr := (He.cT K ("law", none)).2
abbrev fD_0 : He5.DefA := ⟨kA_a_common_divisor, "common_divisor", "common_divisor", defArgs s_common_divisor, defBody s_common_divisor, defScope s_common_divisor, [], []⟩
abbrev fD_1 : He5.DefA := ⟨kA_a_is_whole, "is_whole", "is_whole", defArgs s_is_whole, defBody s_is_whole, defScope s_is_whole, [], []⟩
abbrev fD_2 : He5.DefA := ⟨kA_a_Ratio___init__, "__init__", "Ratio.__init__", defArgs s_Ratio___init__, defBody s_Ratio___init__, defScope s_Ratio___init__, [.int 1], []⟩
abbrev fD_3 : He5.DefA := ⟨kA_a_Ratio_text, "text", "Ratio.text", defArgs s_Ratio_text, defBody s_Ratio_text, defScope s_Ratio_text, [], []⟩
abbrev fD_4 : He5.DefA := ⟨kA_a_is_digits, "is_digits", "is_digits", defArgs s_is_digits, defBody s_is_digits, defScope s_is_digits, [], []⟩
abbrev fD_5 : He5.DefA := ⟨kA_a_is_signed, "is_signed", "is_signed", defArgs s_is_signed, defBody s_is_signed, defScope s_is_signed, [], []⟩
abbrev fD_6 : He5.DefA := ⟨kA_a_Ratio_read, "read", "Ratio.read", defArgs s_Ratio_read, defBody s_Ratio_read, defScope s_Ratio_read, [], []⟩
abbrev fD_7 : He5.DefA := ⟨kA_a__law_bag, "_law_bag", "_law_bag", defArgs s__law_bag, defBody s__law_bag, defScope s__law_bag, [], []⟩
abbrev fD_8 : He5.DefA := ⟨kA_a__law_gcd, "_law_gcd", "_law_gcd", defArgs s__law_gcd, defBody s__law_gcd, defScope s__law_gcd, [], []⟩
abbrev fD_9 : He5.DefA := ⟨kA_a__law_frac, "_law_frac", "_law_frac", defArgs s__law_frac, defBody s__law_frac, defScope s__law_frac, [], []⟩
abbrev fD_10 : He5.DefA := ⟨kA_a__law_frac_text, "_law_frac_text", "_law_frac_text", defArgs s__law_frac_text, defBody s__law_frac_text, defScope s__law_frac_text, [], []⟩
abbrev fD_11 : He5.DefA := ⟨kA_a__law_pick, "_law_pick", "_law_pick", defArgs s__law_pick, defBody s__law_pick, defScope s__law_pick, [], []⟩
abbrev fD_12 : He5.DefA := ⟨kA_a__law_of, "_law_of", "_law_of", defArgs s__law_of, defBody s__law_of, defScope s__law_of, [], []⟩
abbrev fD_13 : He5.DefA := ⟨kA_a_Ratio_bottom, "bottom", "Ratio.bottom", defArgs s_Ratio_bottom, defBody s_Ratio_bottom, defScope s_Ratio_bottom, [], []⟩
abbrev fD_14 : He5.DefA := ⟨kA_a_Ratio_top, "top", "Ratio.top", defArgs s_Ratio_top, defBody s_Ratio_top, defScope s_Ratio_top, [], []⟩
abbrev fD_15 : He5.DefA := ⟨kA_a__law_pair, "_law_pair", "_law_pair", defArgs s__law_pair, defBody s__law_pair, defScope s__law_pair, [], []⟩
abbrev fD_16 : He5.DefA := ⟨kA_a__law_reader, "_law_reader", "_law_reader", defArgs s__law_reader, defBody s__law_reader, defScope s__law_reader, [], []⟩
abbrev fD_17 : He5.DefA := ⟨kA_a__law_same, "_law_same", "_law_same", defArgs s__law_same, defBody s__law_same, defScope s__law_same, [], []⟩
abbrev fD_18 : He5.DefA := ⟨kA_a__law_field, "_law_field", "_law_field", defArgs s__law_field, defBody s__law_field, defScope s__law_field, [], []⟩
abbrev fD_19 : He5.DefA := ⟨kA_a__law_why, "_law_why", "_law_why", defArgs s__law_why, defBody s__law_why, defScope s__law_why, [], []⟩
abbrev fD_20 : He5.DefA := ⟨kA_a__law_whys, "_law_whys", "_law_whys", defArgs s__law_whys, defBody s__law_whys, defScope s__law_whys, [], []⟩
abbrev fD_21 : He5.DefA := ⟨kA_a_law, "law", "law", defArgs s_law, defBody s_law, defScope s_law, [], []⟩
abbrev fS_0 : ZK.DefS := ⟨kA_ai_InvalidRatio, kA_C_InvalidRatio, "__init__", "InvalidRatio.__init__", defArgs s_InvalidRatio___init__, defBody s_InvalidRatio___init__, defScope s_InvalidRatio___init__⟩
abbrev fS_1 : ZK.DefS := ⟨kA_ai_WayError, kA_C_WayError, "__init__", "WayError.__init__", defArgs s_WayError___init__, defBody s_WayError___init__, defScope s_WayError___init__⟩
abbrev fS_2 : ZK.DefS := ⟨kA_ai_InvalidText, kA_C_InvalidText, "__init__", "InvalidText.__init__", defArgs s_InvalidText___init__, defBody s_InvalidText___init__, defScope s_InvalidText___init__⟩
abbrev fnL : List He5.DefA := [fD_0, fD_1, fD_2, fD_3, fD_4, fD_5, fD_6, fD_7, fD_8, fD_9, fD_10, fD_11, fD_12, fD_13, fD_14, fD_15, fD_16, fD_17, fD_18, fD_19, fD_20, fD_21]
abbrev fsL : List ZK.DefS := [fS_0, fS_1, fS_2]
abbrev tfL : List He.Defn := [("_law_reader", none), ("law", none)]
def exK_0 (K : PySem.W.Frag) : Bool := (decide (PySem.W.nsIn K mainGlobals "Ratio" = some (some (.ref (kA_C_Ratio K))))) && ((PySem.W.plainGet K (kA_C_Ratio K) Str.empty) && ((PySem.W.hasDictIn K (kA_C_Ratio K)) && ((PySem.W.plainOver K (kA_C_Ratio K)) && ((decide (PySem.W.findIn K (.ref (kA_C_Ratio K)) "__setattr__" = some (some (.builtin "object.__setattr__")))) && ((PySem.W.makesIn K (kA_C_Ratio K)) && ((PySem.W.keepIn K (.ref (kA_C_Ratio K))) && ((decide (PySem.W.findIn K (.ref (kA_C_Ratio K)) "__init__" = some (some (.ref (kA_a_Ratio___init__ K))))) && ((decide (PySem.W.findIn K (.ref (kA_C_Ratio K)) "own_bottom" = some none)) && ((decide (PySem.W.findIn K (.ref (kA_C_Ratio K)) "own_top" = some none)) && ((decide (PySem.W.findIn K (.ref (kA_C_Ratio K)) "text" = some (some (.ref (kA_a_Ratio_text K))))) && ((decide (PySem.W.findIn K (.ref (kA_C_Ratio K)) "__class__" = some (some (.builtin "object.__class__")))) && ((decide (PySem.W.mroIn K (kA_C_Ratio K) (.type "object") = some true)) && ((decide (PySem.W.findIn K (.ref (kA_C_Ratio K)) "bottom" = some (some (.ref (kA_p_Ratio_bottom K))))) && ((decide (PySem.W.findIn K (.ref (kA_C_Ratio K)) "top" = some (some (.ref (kA_p_Ratio_top K))))) && ((smB K (kA_C_Ratio K) (kA_p_Ratio_read K) (kA_a_Ratio_read K) "read") && ((decide (PySem.W.kitOne K (.ref (kA_C_Ratio K)) (.ref (kA_C_Ratio K)) = some true)) && ((((PySem.W.clsIn K (kA_C_Ratio K)).isSome && PySem.W.typeIn K (.ref (kA_C_Ratio K)) == some (.type "type"))) && ((decide (PySem.W.nsIn K mainGlobals "common_divisor" = some (some (.ref (kA_a_common_divisor K))))) && ((decide (PySem.W.nsIn K mainGlobals "is_whole" = some (some (.ref (kA_a_is_whole K))))) && (true))))))))))))))))))))
def exK_1 (K : PySem.W.Frag) : Bool := (PySem.W.isFn K (.ref (kA_a_Ratio___init__ K))) && ((PySem.W.isFn K (.ref (kA_a_Ratio_text K))) && ((decide (PySem.W.nsIn K mainGlobals "is_digits" = some (some (.ref (kA_a_is_digits K))))) && ((decide (PySem.W.nsIn K mainGlobals "is_signed" = some (some (.ref (kA_a_is_signed K))))) && ((PySem.W.isFn K (.ref (kA_a_Ratio_read K))) && ((decide (PySem.W.nsIn K mainGlobals "_law_bag" = some (some (.ref (kA_a__law_bag K))))) && ((decide (PySem.W.nsIn K mainGlobals "_law_gcd" = some (some (.ref (kA_a__law_gcd K))))) && ((decide (PySem.W.nsIn K mainGlobals "_law_frac" = some (some (.ref (kA_a__law_frac K))))) && ((decide (PySem.W.nsIn K mainGlobals "_law_frac_text" = some (some (.ref (kA_a__law_frac_text K))))) && ((decide (PySem.W.nsIn K mainGlobals "_law_pick" = some (some (.ref (kA_a__law_pick K))))) && ((decide (PySem.W.nsIn K mainGlobals "_law_of" = some (some (.ref (kA_a__law_of K))))) && ((decide (PySem.W.specialIn K (.ref (kA_p_Ratio_bottom K)) "__get__" = some (some (.builtin "property.__get__")))) && ((decide (PySem.W.takesIn K (.ref (kA_p_Ratio_bottom K)) = some true)) && ((ZK.propOk K (kA_p_Ratio_bottom K)) && ((PySem.W.isFn K (.ref (kA_a_Ratio_bottom K))) && ((decide (PySem.W.specialIn K (.ref (kA_p_Ratio_top K)) "__get__" = some (some (.builtin "property.__get__")))) && ((decide (PySem.W.takesIn K (.ref (kA_p_Ratio_top K)) = some true)) && ((ZK.propOk K (kA_p_Ratio_top K)) && ((PySem.W.isFn K (.ref (kA_a_Ratio_top K))) && ((decide (PySem.W.nsIn K mainGlobals "_law_pair" = some (some (.ref (kA_a__law_pair K))))) && (true))))))))))))))))))))
def exK_2 (K : PySem.W.Frag) : Bool := (decide (PySem.W.nsIn K mainGlobals "_law_reader" = some (some (.ref (kA_a__law_reader K))))) && ((decide (PySem.W.nsIn K mainGlobals "_law_same" = some (some (.ref (kA_a__law_same K))))) && ((decide (PySem.W.nsIn K mainGlobals "_law_field" = some (some (.ref (kA_a__law_field K))))) && ((decide (PySem.W.nsIn K mainGlobals "_law_why" = some (some (.ref (kA_a__law_why K))))) && ((decide (PySem.W.nsIn K mainGlobals "_law_whys" = some (some (.ref (kA_a__law_whys K))))) && ((decide (PySem.W.nsIn K mainGlobals "law" = some (some (.ref (kA_a_law K))))) && ((decide (PySem.W.nsIn K mainGlobals "WayError" = some (some (.ref (kA_C_WayError K))))) && ((decide (PySem.W.nsIn K mainGlobals "Missing" = some (some (.ref (kA_C_Missing K))))) && ((decide (PySem.W.nsIn K mainGlobals "InvalidRatio" = some (some (.ref (kA_C_InvalidRatio K))))) && ((decide (PySem.W.nsIn K mainGlobals "InvalidText" = some (some (.ref (kA_C_InvalidText K))))) && ((decide (PySem.W.nsIn K mainGlobals "NothingLeft" = some (some (.ref (kA_C_NothingLeft K))))) && ((decide (PySem.W.exmAny K (.ref (kA_C_InvalidRatio K)) [.ref (kA_C_WayError K), .ref (kA_C_Missing K), .ref (kA_C_NothingLeft K)] = some true)) && ((decide (PySem.W.exmAny K (.ref (kA_C_InvalidText K)) [.ref (kA_C_WayError K), .ref (kA_C_Missing K), .ref (kA_C_NothingLeft K)] = some true)) && ((decide (PySem.W.findIn K (.ref (kA_C_InvalidRatio K)) "__init__" = some (some (.ref (kA_ai_InvalidRatio K))))) && ((ZK.DefS.ok K PySem.Challenge.pw_waysagree_k04_texts_of_ratios.main.file fS_0) && ((decide (PySem.W.findIn K (.ref (kA_C_WayError K)) "__init__" = some (some (.ref (kA_ai_WayError K))))) && ((ZK.DefS.ok K PySem.Challenge.pw_waysagree_k04_texts_of_ratios.main.file fS_1) && ((decide (PySem.W.findIn K (.ref (kA_C_InvalidText K)) "__init__" = some (some (.ref (kA_ai_InvalidText K))))) && ((ZK.DefS.ok K PySem.Challenge.pw_waysagree_k04_texts_of_ratios.main.file fS_2) && ((xh2B K (kA_C_InvalidRatio K) (kA_C_WayError K) (kA_ai_InvalidRatio K) (kA_ai_WayError K) [.type "ValueError", .type "Exception", .type "BaseException", .type "object"] "ValueError" "ValueError.__new__" "ValueError.__init__" (.ref (kA_ai_WayError K)) ["tag", "value"]) && (true))))))))))))))))))))
def exK_3 (K : PySem.W.Frag) : Bool := (xh2B K (kA_C_InvalidText K) (kA_C_WayError K) (kA_ai_InvalidText K) (kA_ai_WayError K) [.type "ValueError", .type "Exception", .type "BaseException", .type "object"] "ValueError" "ValueError.__new__" "ValueError.__init__" (.ref (kA_ai_WayError K)) ["tag", "given"]) && ((decide (PySem.W.nsIn K mainGlobals "super" = some none)) && ((decide (PySem.W.nsIn K cStatics "thirdparty.any" = some none)) && (((He.Fa.str "DIGITS" "0123456789").ok K) && (((He.Fa.int "MOST_DIGITS" 30).ok K) && ((decide (PySem.W.nsIn K mainGlobals "abs" = some none)) && ((decide (PySem.W.nsIn K mainGlobals "all" = some none)) && ((decide (PySem.W.nsIn K mainGlobals "bool" = some none)) && ((decide (PySem.W.nsIn K mainGlobals "int" = some none)) && ((decide (PySem.W.nsIn K mainGlobals "isinstance" = some none)) && ((decide (PySem.W.nsIn K mainGlobals "len" = some none)) && ((decide (PySem.W.nsIn K mainGlobals "list" = some none)) && ((decide (PySem.W.nsIn K mainGlobals "range" = some none)) && ((decide (PySem.W.nsIn K mainGlobals "str" = some none)) && ((decide (PySem.W.nsIn K mainGlobals "tuple" = some none)) && ((decide (PySem.W.nsIn K mainGlobals "zip" = some none)) && ((decide ([(kA_P__law_reader K), (kA_P_law K)].Nodup)) && (true)))))))))))))))))
def exK (K : PySem.W.Frag) : Bool := exK_0 K && (exK_1 K && (exK_2 K && (exK_3 K && (true))))
abbrev RR : PySem.W.OpenRow := PySem.W.OpenLaw.row PySem.Challenge.rw_waysagree_k04_texts_of_ratios
abbrev qv : Program := PySem.W.view RR.prog [30]
def looseN : List PySem.Str := (["_wall", "__name__", "WayError", "Missing", "InvalidRatio", "InvalidText", "NothingLeft", "DIGITS", "MOST_DIGITS", "is_whole", "is_digits", "is_signed", "common_divisor", "Ratio", "ratio_of", "_law_bag", "_law_pick", "_law_of", "_law_same", "_law_field", "_law_why", "_law_whys", "_law_gcd", "_law_frac", "_law_frac_text", "_law_pair", "_law_reader"] : List PySem.Str)
def asZ : ZK.AsF := ZK.asN ((["common_divisor", "is_whole", "is_digits", "is_signed", "_law_bag", "_law_gcd", "_law_frac", "_law_frac_text", "_law_pick", "_law_of", "_law_pair", "_law_reader", "_law_same", "_law_field", "_law_why", "_law_whys", "law", "Ratio", "WayError", "Missing", "InvalidRatio", "InvalidText", "NothingLeft"] : List Str)) (([("Ratio", "__init__"), ("Ratio", "text"), ("Ratio", "read"), ("Ratio", "bottom"), ("Ratio", "top"), ("InvalidRatio", "__init__"), ("WayError", "__init__"), ("InvalidText", "__init__")] : List (Str × Str))) (([("Ratio", "read"), ("Ratio", "bottom"), ("Ratio", "top")] : List (Str × Str)))
abbrev hkZ : PySem.W.Hook := ZK.hookZ asZ fnL fsL tfL exK
def obZ (s : PySem.W.SharedT) : ZK.AlZ := ZK.obsZ asZ fnL fsL tfL exK (HandSHeadRun.getT s)
set_option maxHeartbeats 0 in
theorem runZ (w : World) : HandSHeadRun.RunEq RR qv hkZ obZ 40000 looseN w := by
  intro os
  kernel_rfl
end K04
namespace K04
open PySem PySem.Spec L2 Z ZM TL
section
variable {S : Store} {P X : D → Store → Prop} {v d : D} {sl : Sl} {Q : Q0} {l : List Nat}
def Lo (l : List Nat) : Prop := ∀ c ∈ l, c < 128
theorem Lo.take (h : Lo l) (n : Nat) : Lo (l.take n) := fun c hc => h c (List.mem_of_mem_take hc)
theorem Lo.drop (h : Lo l) (n : Nat) : Lo (l.drop n) := fun c hc => h c (List.mem_of_mem_drop hc)
end
end K04
set_option Elab.async false
set_option linter.all false
set_option maxRecDepth 100000
set_option maxHeartbeats 4000000
namespace Z
open PySem PySem.Spec L2
section
variable {K : PySem.W.Frag} {mg : Str → Option Value} {ρ ρ' ρ'' : List Addr} {H H' H'' : Hp}
theorem Ext.refl : Ext ρ H ρ H := ⟨⟨[], by simp⟩, fun a h n => absurd h n, fun _ _ _ h => .inl h⟩
theorem ScrAt.sq {a : Addr} {vs : List V} (h : ScrAt K ρ H a vs) : SqL K H a vs := by
  rcases h with ⟨_, r⟩ | h
  · exact .inl r
  · exact .inr h
theorem LstAt.sq {a : Addr} {vs : List V} (h : LstAt ρ H a vs) : SqL K H a vs := .inl (.inl h.2)
theorem TpxAt.sq {a : Addr} {vs : List V} (h : TpxAt ρ H a vs) : SqT K H a vs := by
  obtain ⟨_, o, _, e⟩ := h
  exact .inl (.inr ⟨o, e⟩)
theorem TupAt.sq {a : Addr} {vs : List V} (h : TupAt K ρ H a vs) : SqT K H a vs := by
  rcases h with ⟨_, r⟩ | h
  · exact .inl (.inl r)
  · exact .inr h
theorem RepL.get' : ∀ {ds : List D} {vs : List V} {i : Nat} {v : V}, RepL K mg ρ H ds vs → vs[i]? = some v → ∃ d, ds[i]? = some d ∧ Rep K mg ρ H d v := fun {ds vs i v} h e => by
  have hl := h.len
  have hi := (List.getElem?_eq_some_iff.mp e).1
  have hd : ds[i]? = some (ds[i]'(by omega)) := by simp
  obtain ⟨w, e1, q⟩ := h.get hd
  rw [e] at e1; cases e1
  exact ⟨_, hd, q⟩
theorem RepL.append : ∀ {ds es : List D} {vs ws : List V}, RepL K mg ρ H ds vs → RepL K mg ρ H es ws → RepL K mg ρ H (ds ++ es) (vs ++ ws)
  | [], _, _, _, h, q => by rw [RepL] at h; subst h; exact q
  | d :: ds, _, _, _, h, q => by
    rw [RepL] at h
    obtain ⟨v, r, e, h1, h2⟩ := h
    subst e
    exact RepL.cons h1 (RepL.append h2 q)
end
section
variable (K : PySem.W.Frag) (mg : Str → Option Value)
def trA (W : WX) (f : AX) : TA := fun σ H Q => ∃ ρ S sl, WOk K mg ρ H S ∧ RSt K mg ρ H σ sl ∧ PostA K mg (fun C d H' => W C d σ H') ρ H Q (f sl S)
def trB (W : WX) (f : BX) : TT := fun σ H Q => ∃ ρ S sl, WOk K mg ρ H S ∧ RSt K mg ρ H σ sl ∧ PostB K mg (fun C d H' => W C d σ H') ρ H Q (f sl S)
end
def EA (X : Cx) (W : WX) (es : List Expr) (f : AX) : Prop := PA X es (trA X.K X.mg W f)
def EB (X : Cx) (W : WX) (e : Expr) (f : BX) : Prop := PT X e (trB X.K X.mg W f)
def ES (X : Cx) (W : WX) (st : Stmt) (f : SX) : Prop := PS X st (trS X.K X.mg W f)
def ESs (X : Cx) (W : WX) (st : List Stmt) (f : SX) : Prop := PSs X st (trS X.K X.mg W f)
section
variable {K : PySem.W.Frag} {mg : Str → Option Value} {ρ ρ' : List Addr} {H H' : Hp}
variable {W : Value → Option Addr → Hp → Prop}
theorem PostE.from {Q : V → Hp → Prop} {o : Out D} (x : Ext ρ H ρ' H') (h : PostE K mg W ρ H Q o) : PostE K mg W ρ' H' Q o := by
  cases o with
  | ok d S => exact fun v ρ2 H2 y w r => h v ρ2 H2 (x.trans y) w r
  | ex e S => exact fun C dd ρ2 H2 y w r => h C dd ρ2 H2 (x.trans y) w r
  | bad => exact h
theorem PostA.from {Q : List V → Hp → Prop} {o : Out (List D)} (x : Ext ρ H ρ' H') (h : PostA K mg W ρ H Q o) : PostA K mg W ρ' H' Q o := by
  cases o with
  | ok d S => exact fun v ρ2 H2 y w r => h v ρ2 H2 (x.trans y) w r
  | ex e S => exact fun C dd ρ2 H2 y w r => h C dd ρ2 H2 (x.trans y) w r
  | bad => exact h
theorem PostB.from {Q : Bool → Hp → Prop} {o : Out Bool} (x : Ext ρ H ρ' H') (h : PostB K mg W ρ H Q o) : PostB K mg W ρ' H' Q o := by
  cases o with
  | ok d S => exact fun ρ2 H2 y w => h ρ2 H2 (x.trans y) w
  | ex e S => exact fun C dd ρ2 H2 y w r => h C dd ρ2 H2 (x.trans y) w r
  | bad => exact h
/-- an expression's end, then k's -/
theorem PostE.bindE {Q : V → Hp → Prop} {o : Out D} {k : D → Store → Out D} (h : PostE K mg W ρ H Q (o.bind k)) :
    PostE K mg W ρ H (fun v H1 => ∃ ρ1 S1 d, Ext ρ H ρ1 H1 ∧ WOk K mg ρ1 H1 S1 ∧ Rep K mg ρ1 H1 d v ∧ o = .ok d S1 ∧ PostE K mg W ρ1 H1 Q (k d S1)) o := by
  cases o with
  | ok d S => exact fun v ρ2 H2 y w r => ⟨ρ2, S, d, y, w, r, rfl, PostE.from y h⟩
  | ex e S => exact h
  | bad => exact h
theorem PostE.bindA {Q : List V → Hp → Prop} {o : Out D} {k : D → Store → Out (List D)} (h : PostA K mg W ρ H Q (o.bind k)) :
    PostE K mg W ρ H (fun v H1 => ∃ ρ1 S1 d, Ext ρ H ρ1 H1 ∧ WOk K mg ρ1 H1 S1 ∧ Rep K mg ρ1 H1 d v ∧ o = .ok d S1 ∧ PostA K mg W ρ1 H1 Q (k d S1)) o := by
  cases o with
  | ok d S => exact fun v ρ2 H2 y w r => ⟨ρ2, S, d, y, w, r, rfl, PostA.from y h⟩
  | ex e S => exact h
  | bad => exact h
theorem PostE.bindB {Q : Bool → Hp → Prop} {o : Out D} {k : D → Store → Out Bool} (h : PostB K mg W ρ H Q (o.bind k)) :
    PostE K mg W ρ H (fun v H1 => ∃ ρ1 S1 d, Ext ρ H ρ1 H1 ∧ WOk K mg ρ1 H1 S1 ∧ Rep K mg ρ1 H1 d v ∧ o = .ok d S1 ∧ PostB K mg W ρ1 H1 Q (k d S1)) o := by
  cases o with
  | ok d S => exact fun v ρ2 H2 y w r => ⟨ρ2, S, d, y, w, r, rfl, PostB.from y h⟩
  | ex e S => exact h
  | bad => exact h
theorem PostA.bindE {Q : V → Hp → Prop} {o : Out (List D)} {k : List D → Store → Out D} (h : PostE K mg W ρ H Q (o.bind k)) :
    PostA K mg W ρ H (fun v H1 => ∃ ρ1 S1 d, Ext ρ H ρ1 H1 ∧ WOk K mg ρ1 H1 S1 ∧ RepL K mg ρ1 H1 d v ∧ o = .ok d S1 ∧ PostE K mg W ρ1 H1 Q (k d S1)) o := by
  cases o with
  | ok d S => exact fun v ρ2 H2 y w r => ⟨ρ2, S, d, y, w, r, rfl, PostE.from y h⟩
  | ex e S => exact h
  | bad => exact h
theorem PostA.bindA {Q : List V → Hp → Prop} {o : Out (List D)} {k : List D → Store → Out (List D)} (h : PostA K mg W ρ H Q (o.bind k)) :
    PostA K mg W ρ H (fun v H1 => ∃ ρ1 S1 d, Ext ρ H ρ1 H1 ∧ WOk K mg ρ1 H1 S1 ∧ RepL K mg ρ1 H1 d v ∧ o = .ok d S1 ∧ PostA K mg W ρ1 H1 Q (k d S1)) o := by
  cases o with
  | ok d S => exact fun v ρ2 H2 y w r => ⟨ρ2, S, d, y, w, r, rfl, PostA.from y h⟩
  | ex e S => exact h
  | bad => exact h
theorem PostB.bindE {Q : V → Hp → Prop} {o : Out Bool} {k : Bool → Store → Out D} (h : PostE K mg W ρ H Q (o.bind k)) :
    PostB K mg W ρ H (fun b H1 => ∃ ρ1 S1, Ext ρ H ρ1 H1 ∧ WOk K mg ρ1 H1 S1 ∧ o = .ok b S1 ∧ PostE K mg W ρ1 H1 Q (k b S1)) o := by
  cases o with
  | ok d S => exact fun ρ2 H2 y w => ⟨ρ2, S, y, w, rfl, PostE.from y h⟩
  | ex e S => exact h
  | bad => exact h
theorem PostB.bindB {Q : Bool → Hp → Prop} {o : Out Bool} {k : Bool → Store → Out Bool} (h : PostB K mg W ρ H Q (o.bind k)) :
    PostB K mg W ρ H (fun b H1 => ∃ ρ1 S1, Ext ρ H ρ1 H1 ∧ WOk K mg ρ1 H1 S1 ∧ o = .ok b S1 ∧ PostB K mg W ρ1 H1 Q (k b S1)) o := by
  cases o with
  | ok d S => exact fun ρ2 H2 y w => ⟨ρ2, S, y, w, rfl, PostB.from y h⟩
  | ex e S => exact h
  | bad => exact h
end
end Z
namespace Z
open PySem PySem.Spec L2
section
variable {X : Cx} {W : WX}
theorem OpD.or {f : Value → Value → Sem Value} {s t : Sem2} (h : OpD X f s) (h' : OpD X f t) : OpD X f (orS2 s t) := by
  obtain ⟨r, o, g⟩ := h.go
  obtain ⟨r', o', g'⟩ := h'.go
  refine ⟨_, o.or o', fun Wp ρ H S d e x y Q w rx ry p => ?_⟩
  unfold orS2 at p
  cases q : s d e S with
  | bad => rw [q] at p; exact .inr (g' Wp ρ H S d e x y Q w rx ry p)
  | ok a S' => rw [q] at p; exact .inl (g Wp ρ H S d e x y Q w rx ry (by rw [q]; exact p))
  | ex a S' => rw [q] at p; exact .inl (g Wp ρ H S d e x y Q w rx ry (by rw [q]; exact p))
theorem CallD.or {f : Value} {s t : SemL} (h : CallD X f s) (h' : CallD X f t) : CallD X f (orSL s t) := by
  obtain ⟨r, o, g⟩ := h.go
  obtain ⟨r', o', g'⟩ := h'.go
  refine ⟨_, CallR.or o o', fun Wp ρ H S d x Q w rx p => ?_⟩
  unfold orSL at p
  cases q : s d S with
  | bad => rw [q] at p; exact .inr (g' Wp ρ H S d x Q w rx p)
  | ok a S' => rw [q] at p; exact .inl (g Wp ρ H S d x Q w rx (by rw [q]; exact p))
  | ex a S' => rw [q] at p; exact .inl (g Wp ρ H S d x Q w rx (by rw [q]; exact p))
/-- an end that makes nothing -/
theorem post_ok {K : PySem.W.Frag} {mg : Str → Option Value} {Wp : Value → Option Addr → Hp → Prop} {ρ : List Addr} {H : Hp} {Q : VK} {d : D} {S : Store} {v : V} (h : PostE K mg Wp ρ H Q (.ok d S)) (w : WOk K mg ρ H S) (r : Rep K mg ρ H d v) : Q v H :=
  h v ρ H Ext.refl w r
theorem r_name {i : Nat} {x : Str} {pos : Pos} (hN : X.N[i]? = some x := by rfl) (hv : Vis X.env.scope x := by first | exact Or.inl rfl | exact Or.inr (Or.inl rfl) | exact Or.inr (Or.inr rfl)) (hd : (x == ("__debug__" : Str)) = false := by decide)
    (hcd : (x == ("__classdict__" : Str)) = false := by decide) : E X W (.Name x pos) (eName i) := by
  refine PE.imp (pe_var hN hv hd hcd) fun σ H Q h => ?_
  obtain ⟨ρ, S, sl, w, r, p⟩ := h
  unfold eName at p
  cases q : sl[i]? with
  | none => rw [q] at p; exact p.elim
  | some o =>
    cases o with
    | none => rw [q] at p; exact p.elim
    | some d =>
      rw [q] at p
      obtain ⟨v, e, rv⟩ := r.at_ i d q
      exact ⟨v, e, post_ok p w rv⟩
theorem r_int {i : Int} {j pos} : E X W (.Constant (.int i) j pos) (eLit (.int i)) := PE.imp pe_int fun σ H Q ⟨ρ, S, sl, w, r, p⟩ => post_ok (d := .int i) p w (by rw [Rep])
theorem r_bl {b : Bool} {j pos} : E X W (.Constant (.bool b) j pos) (eLit (.bl b)) := PE.imp pe_bl fun σ H Q ⟨ρ, S, sl, w, r, p⟩ => post_ok (d := .bl b) p w (by rw [Rep])
theorem r_non {j pos} : E X W (.Constant .none j pos) (eLit .non) := PE.imp pe_non fun σ H Q ⟨ρ, S, sl, w, r, p⟩ => post_ok (d := .non) p w (by rw [Rep])
theorem r_str {x : Str} {j pos} : E X W (.Constant (.str x) j pos) (eLit (.str x)) := PE.imp pe_str fun σ H Q ⟨ρ, S, sl, w, r, p⟩ => post_ok (d := .str x) p w (by rw [Rep])
/-- a global whose value is the same at every heap -/
theorem r_glob {x : Str} {v : V} {u : Value} {pos : Pos} {d : D} (hg : Gl X x) (hm : X.mg x = some u) (rv : RelV v u) (rd : ∀ ρ H, Rep X.K X.mg ρ H d v) (hd : (x == ("__debug__" : Str)) = false := by decide) : E X W (.Name x pos) (eLit d) :=
  PE.imp (pe_glob hg hm rv hd) fun σ H Q ⟨ρ, S, sl, w, r, p⟩ => post_ok (d := d) p w (rd ρ H)
/-- a built-in class as a value -/
theorem r_ty {x : Str} {n : String} {pos : Pos} (hg : Gl X x) (hm : X.mg x = none) (hv : bootBuiltins x = some (.type n)) (hn : x ≠ "__name__" := by decide) (hd : (x == ("__debug__" : Str)) = false := by decide) : E X W (.Name x pos) (eLit (.ty n)) :=
  PE.imp (pe_bltn (v := .ty n) hg hm hv rfl hn hd) fun σ H Q ⟨ρ, S, sl, w, r, p⟩ => post_ok (d := .ty n) p w (by rw [Rep])
/-- an own class as a value -/
theorem r_cls {x : Str} {C : Addr} {pos : Pos} (hg : Gl X x) (hm : X.mg x = some (.ref C)) (hd : (x == ("__debug__" : Str)) = false := by decide) : E X W (.Name x pos) (eLit (.cls x)) :=
  PE.imp (pe_glob (v := .ref C) hg hm rfl hd) fun σ H Q ⟨ρ, S, sl, w, r, p⟩ => post_ok (d := .cls x) p w (by rw [Rep]; exact ⟨C, hm, rfl⟩)
variable {a b c : Expr} {fa fb fc : EX} {pos : Pos}
/-- one value, then what is done with it -/
theorem un_imp {f : EX} {g : Sl → D → Store → Out D} {K : PySem.W.Frag} {mg : Str → Option Value} {σ : L2.St} {H : Hp} {Q : VK} {k : V → Hp → Prop} (h : trE K mg W (fun sl S => (f sl S).bind (g sl)) σ H Q)
    (hk : ∀ ρ S sl H1 d v, WOk K mg ρ H1 S → RSt K mg ρ H1 σ sl → Rep K mg ρ H1 d v → PostE K mg (fun C d H' => W C d σ H') ρ H1 Q (g sl d S) → k v H1) : trE K mg W f σ H k := by
  obtain ⟨ρ, S, sl, w, r, p⟩ := h
  exact ⟨ρ, S, sl, w, r, PostE.mono (PostE.bindE p) fun v H1 ⟨ρ1, S1, d, x1, w1, r1, _, p1⟩ => hk ρ1 S1 sl H1 d v w1 (r.ext x1) r1 p1⟩
theorem bin_imp {g : Sem2} {K : PySem.W.Frag} {mg : Str → Option Value} {σ : L2.St} {H : Hp} {Q : VK} {k : V → V → Hp → Prop} (h : trE K mg W (eBin g fa fb) σ H Q)
    (hk : ∀ ρ S H2 d e x y, WOk K mg ρ H2 S → Rep K mg ρ H2 d x → Rep K mg ρ H2 e y → PostE K mg (fun C d H' => W C d σ H') ρ H2 Q (g d e S) → k x y H2) : trE K mg W fa σ H fun x H1 => trE K mg W fb σ H1 fun y H2 => k x y H2 := by
  obtain ⟨ρ, S, sl, w, r, p⟩ := h
  refine ⟨ρ, S, sl, w, r, PostE.mono (PostE.bindE p) fun v H1 ⟨ρ1, S1, d, x1, w1, r1, _, p1⟩ => ?_⟩
  refine ⟨ρ1, S1, sl, w1, r.ext x1, PostE.mono (PostE.bindE p1) fun y H2 ⟨ρ2, S2, e, x2, w2, r2, _, p2⟩ => ?_⟩
  exact hk ρ2 S2 H2 d e v y w2 (r1.ext x2) r2 p2
theorem r_bin {op : Operator} {sem : Sem2} (ho : OpD X (binaryOp op) sem) (ha : E X W a fa) (hb : E X W b fb) : E X W (.BinOp a op b pos) (eBin sem fa fb) := by
  obtain ⟨r, o, g⟩ := ho.go
  exact PE.imp (pe_op o ha hb) fun σ H Q h => bin_imp h fun ρ S H2 d e x y w rx ry p => g _ ρ H2 S d e x y Q w rx ry p
theorem r_cmp {op : CmpOp} {sem : Sem2} (ho : OpD X (compareOp op) sem) (ha : E X W a fa) (hb : E X W b fb) (hm : behindInMarks op b = false := by first | exact nomark _ | rfl) : E X W (.Compare a [op] [b] pos) (eBin sem fa fb) := by
  obtain ⟨r, o, g⟩ := ho.go
  exact PE.imp (pe_cmpR o ha hb hm) fun σ H Q h => bin_imp h fun ρ S H2 d e x y w rx ry p => g _ ρ H2 S d e x y Q w rx ry p
theorem r_un {op : UnaryOp} {sem : Sem1} (ho : UnD X (unaryOp op) sem) (ha : E X W a fa) : E X W (.UnaryOp op a pos) (eUn sem fa) := by
  obtain ⟨r, o, g⟩ := ho.go
  exact PE.imp (pe_un o ha) fun σ H Q h => un_imp (g := fun _ => sem) h fun ρ S sl H1 d v w _ rv p => g _ ρ H1 S d v Q w rv p
/-- a test by a comparison -/
theorem b_cmp {op : CmpOp} {sem : Sem2} (ho : OpD X (compareOp op) sem) (ha : E X W a fa) (hb : E X W b fb) (hm : behindInMarks op b = false := by first | exact nomark _ | rfl) : EB X W (.Compare a [op] [b] pos) (bVal (eBin sem fa fb)) := by
  obtain ⟨r, o, g⟩ := ho.go
  refine PT.imp (pt_cmpR o ha hb hm) fun σ H Q h => ?_
  obtain ⟨ρ, S, sl, w, rs, p⟩ := h
  have p' := PostE.bindB p
  refine bin_imp (Q := fun x H' => ∃ k, x = .bl k ∧ Q k H') ⟨ρ, S, sl, w, rs, PostE.mono p' fun v H1 ⟨ρ1, S1, d, x1, w1, r1, _, p1⟩ => ?_⟩ fun ρ S H2 d e x y w rx ry p => g _ ρ H2 S d e x y _ w rx ry p
  cases d with
  | bl k =>
    rw [Rep] at r1
    exact ⟨k, r1, p1 ρ1 H1 Ext.refl w1⟩
  | _ => exact p1.elim
/-- a bool's value as a test -/
theorem b_val (ha : E X W a fa) (he : ∀ whole, isTrue a X.env whole = (do let v ← whole; standAt a.pos; holding [v] (truthy v)) := by intro _; rfl) : EB X W a (bVal fa) := by
  refine PT.imp (pt_val ha he) fun σ H Q h => ?_
  obtain ⟨ρ, S, sl, w, rs, p⟩ := h
  refine ⟨ρ, S, sl, w, rs, PostE.mono (PostE.bindB p) fun v H1 ⟨ρ1, S1, d, x1, w1, r1, _, p1⟩ => ?_⟩
  cases d with
  | bl k =>
    rw [Rep] at r1
    exact ⟨k, r1, p1 ρ1 H1 Ext.refl w1⟩
  | _ => exact p1.elim
/-- and, or, not as tests -/
def EW (X : Cx) (W : WX) (e : Expr) (f : BX) : Prop := PW X e (trB X.K X.mg W f)
theorem EW.eb {e : Expr} {f : BX} (h : EW X W e f) : EB X W e f := PW.pt h
variable {ga gb : BX} {rest : List Expr}
theorem w_and1 (ha : EB X W a ga) : EW X W (.BoolOp .And [a] pos) ga := pw_and1 ha
theorem w_or1 (ha : EB X W a ga) : EW X W (.BoolOp .Or [a] pos) ga := pw_or1 ha
theorem w_and (ha : EB X W a ga) (hb : EW X W (.BoolOp .And (b :: rest) pos) gb) : EW X W (.BoolOp .And (a :: b :: rest) pos) (bAnd ga gb) := by
  refine PW.imp (pw_and ha hb) fun σ H Q h => ?_
  obtain ⟨ρ, S, sl, w, rs, p⟩ := h
  refine ⟨ρ, S, sl, w, rs, PostB.mono (PostB.bindB p) fun k H1 ⟨ρ1, S1, x1, w1, _, p1⟩ => ?_⟩
  cases k with
  | true => exact ⟨ρ1, S1, sl, w1, rs.ext x1, p1⟩
  | false => exact p1 ρ1 H1 Ext.refl w1
theorem w_or (ha : EB X W a ga) (hb : EW X W (.BoolOp .Or (b :: rest) pos) gb) : EW X W (.BoolOp .Or (a :: b :: rest) pos) (bOr ga gb) := by
  refine PW.imp (pw_or ha hb) fun σ H Q h => ?_
  obtain ⟨ρ, S, sl, w, rs, p⟩ := h
  refine ⟨ρ, S, sl, w, rs, PostB.mono (PostB.bindB p) fun k H1 ⟨ρ1, S1, x1, w1, _, p1⟩ => ?_⟩
  cases k with
  | false => exact ⟨ρ1, S1, sl, w1, rs.ext x1, p1⟩
  | true => exact p1 ρ1 H1 Ext.refl w1
theorem b_not (ha : EB X W a ga) : EB X W (.UnaryOp .Not a pos) (bNot ga) := by
  refine PT.imp (pt_not ha) fun σ H Q h => ?_
  obtain ⟨ρ, S, sl, w, rs, p⟩ := h
  exact ⟨ρ, S, sl, w, rs, PostB.mono (PostB.bindB p) fun k H1 ⟨ρ1, S1, x1, w1, _, p1⟩ => p1 ρ1 H1 Ext.refl w1⟩
theorem r_one {op : BoolOp} (ha : E X W a fa) : E X W (.BoolOp op [a] pos) fa := pe_one ha
def gAnd (g : EX) : Sl → D → Store → Out D := fun sl d S1 => match d with
  | .bl true => g sl S1
  | .bl false => .ok (.bl false) S1
  | _ => .bad
def gOr (g : EX) : Sl → D → Store → Out D := fun sl d S1 => match d with
  | .bl true => .ok (.bl true) S1
  | .bl false => g sl S1
  | _ => .bad
def gNot : Sl → D → Store → Out D := fun sl d S1 => match d with
  | .bl b => .ok (.bl (!b)) S1
  | _ => .bad
theorem r_and (ha : E X W a fa) (hb : E X W (.BoolOp .And (b :: rest) pos) fb) : E X W (.BoolOp .And (a :: b :: rest) pos) (eAnd fa fb) := by
  refine PE.imp (pe_and ha hb) fun σ H Q h => un_imp (g := gAnd fb) h fun ρ S sl H1 d v w r1 rv p => ?_
  cases d with
  | bl k =>
    rw [Rep] at rv
    refine ⟨k, rv, ?_⟩
    cases k with
    | true => rw [if_pos rfl]; exact ⟨ρ, S, sl, w, r1, p⟩
    | false => rw [if_neg Bool.false_ne_true]; exact post_ok p w (by rw [Rep])
  | _ => exact p.elim
theorem r_or (ha : E X W a fa) (hb : E X W (.BoolOp .Or (b :: rest) pos) fb) : E X W (.BoolOp .Or (a :: b :: rest) pos) (eOr fa fb) := by
  refine PE.imp (pe_or ha hb) fun σ H Q h => un_imp (g := gOr fb) h fun ρ S sl H1 d v w r1 rv p => ?_
  cases d with
  | bl k =>
    rw [Rep] at rv
    refine ⟨k, rv, ?_⟩
    cases k with
    | false => rw [if_neg Bool.false_ne_true]; exact ⟨ρ, S, sl, w, r1, p⟩
    | true => rw [if_pos rfl]; exact post_ok p w (by rw [Rep])
  | _ => exact p.elim
theorem r_not (ha : E X W a fa) : E X W (.UnaryOp .Not a pos) (eNot fa) := by
  refine PE.imp (pe_not ha) fun σ H Q h => un_imp (g := gNot) h fun ρ S sl H1 d v w r1 rv p => ?_
  cases d with
  | bl k =>
    rw [Rep] at rv
    exact ⟨k, rv, post_ok p w (by rw [Rep])⟩
  | _ => exact p.elim
theorem r_if (hc : EB X W c ga) (ha : E X W a fa) (hb : E X W b fb) : E X W (.IfExp c a b pos) (eIf ga fa fb) := by
  refine PE.imp (pe_ifExp hc ha hb) fun σ H Q h => ?_
  obtain ⟨ρ, S, sl, w, rs, p⟩ := h
  refine ⟨ρ, S, sl, w, rs, PostB.mono (PostB.bindE p) fun k H1 ⟨ρ1, S1, x1, w1, _, p1⟩ => ?_⟩
  cases k with
  | true => exact ⟨ρ1, S1, sl, w1, rs.ext x1, p1⟩
  | false => exact ⟨ρ1, S1, sl, w1, rs.ext x1, p1⟩
theorem chain_imp {s1 s2 : Sem2} {f g : Value → Value → Sem Value} (h1 : OpD X f s1) (h2 : OpD X g s2) : ∃ r r' : R2, OpR X f r ∧ OpR X g r' ∧ ∀ {σ : L2.St} {H : Hp} {Q : VK}, trE X.K X.mg W (eChain s1 s2 fa fb fc) σ H Q → tChain r r' (trE X.K X.mg W fa) (trE X.K X.mg W fb) (trE X.K X.mg W fc) σ H Q := by
  obtain ⟨r, o, g1⟩ := h1.go
  obtain ⟨r', o', g2⟩ := h2.go
  refine ⟨r, r', o, o', fun {σ H Q} h => ?_⟩
  obtain ⟨ρ, S, sl, w, rs, p⟩ := h
  refine ⟨ρ, S, sl, w, rs, PostE.mono (PostE.bindE p) fun v H1 ⟨ρ1, S1, d, x1, w1, r1, _, p1⟩ => ?_⟩
  refine ⟨ρ1, S1, sl, w1, rs.ext x1, PostE.mono (PostE.bindE p1) fun y H2 ⟨ρ2, S2, e, x2, w2, r2, _, p2⟩ => ?_⟩
  refine g1 _ ρ2 H2 S2 d e v y _ w2 (r1.ext x2) r2 (PostE.mono (PostE.bindE p2) fun z H3 ⟨ρ3, S3, k, x3, w3, r3, _, p3⟩ => ?_)
  cases k with
  | bl k =>
    rw [Rep] at r3
    refine ⟨k, r3, ?_⟩
    cases k with
    | true =>
      rw [if_pos rfl]
      refine ⟨ρ3, S3, sl, w3, (rs.ext (x1.trans (x2.trans x3))), PostE.mono (PostE.bindE p3) fun u H4 ⟨ρ4, S4, m, x4, w4, r4, _, p4⟩ => ?_⟩
      exact g2 _ ρ4 H4 S4 e m y u Q w4 (r2.ext (x3.trans x4)) r4 p4
    | false =>
      rw [if_neg Bool.false_ne_true]
      exact post_ok p3 w3 (by rw [Rep])
  | _ => exact p3.elim
theorem b_chain {op op' : CmpOp} {s1 s2 : Sem2} (h1 : OpD X (compareOp op) s1) (h2 : OpD X (compareOp op') s2) (ha : E X W a fa) (hb : E X W b fb) (hc : E X W c fc) (hm : lastMarks [op, op'] [b, c] = false := by rfl) : EB X W (.Compare a [op, op'] [b, c] pos) (bVal (eChain s1 s2 fa fb fc)) := by
  obtain ⟨r, r', o, o', k⟩ := chain_imp (W := W) (fa := fa) (fb := fb) (fc := fc) h1 h2
  refine PT.imp (pt_chain o o' ha hb hc hm) fun σ H Q h => ?_
  obtain ⟨ρ, S, sl, w, rs, p⟩ := h
  refine k (Q := fun x H' => ∃ k, x = .bl k ∧ Q k H') ⟨ρ, S, sl, w, rs, PostE.mono (PostE.bindB p) fun v H1 ⟨ρ1, S1, d, x1, w1, r1, _, p1⟩ => ?_⟩
  cases d with
  | bl k =>
    rw [Rep] at r1
    exact ⟨k, r1, p1 ρ1 H1 Ext.refl w1⟩
  | _ => exact p1.elim
theorem a_nil : EA X W [] aNil := PA.imp pa_nil fun σ H Q ⟨ρ, S, sl, w, rs, p⟩ => p [] ρ H Ext.refl w RepL.nil
theorem args_imp {f : EX} {g : AX} {K : PySem.W.Frag} {mg : Str → Option Value} {σ : L2.St} {H : Hp} {Q : List V → Hp → Prop} (h : trA K mg W (aCons f g) σ H Q) : trE K mg W f σ H fun x H1 => trA K mg W g σ H1 fun xs H2 => Q (x :: xs) H2 := by
  obtain ⟨ρ, S, sl, w, r, p⟩ := h
  refine ⟨ρ, S, sl, w, r, PostE.mono (PostE.bindA p) fun v H1 ⟨ρ1, S1, d, x1, w1, r1, _, p1⟩ => ?_⟩
  refine ⟨ρ1, S1, sl, w1, r.ext x1, PostA.mono (PostA.bindA p1) fun y H2 ⟨ρ2, S2, e, x2, w2, r2, _, p2⟩ => ?_⟩
  exact p2 (v :: y) ρ2 H2 Ext.refl w2 (RepL.cons (r1.ext x2) r2)
theorem a_cons {e : Expr} {es : List Expr} {f : EX} {g : AX} (ha : E X W e f) (hr : EA X W es g) (hs : starEach (e :: es) X.env = (false, eval e X.env) :: starEach es X.env := by rfl) : EA X W (e :: es) (aCons f g) :=
  PA.imp (pa_cons ha hr hs) fun σ H Q h => args_imp h
theorem argsem_imp {f : AX} {sem : SemL} {K : PySem.W.Frag} {mg : Str → Option Value} {σ : L2.St} {H : Hp} {Q : VK} {k : List V → Hp → Prop} (h : trE K mg W (eArgs sem f) σ H Q)
    (hk : ∀ ρ S H1 ds vs, WOk K mg ρ H1 S → RepL K mg ρ H1 ds vs → PostE K mg (fun C d H' => W C d σ H') ρ H1 Q (sem ds S) → k vs H1) : trA K mg W f σ H k := by
  obtain ⟨ρ, S, sl, w, r, p⟩ := h
  exact ⟨ρ, S, sl, w, r, PostA.mono (PostA.bindE p) fun v H1 ⟨ρ1, S1, d, x1, w1, r1, _, p1⟩ => hk ρ1 S1 H1 d v w1 r1 p1⟩
end
section
variable {K : PySem.W.Frag} {mg : Str → Option Value} {ρ : List Addr} {H : Hp} {S : Store}
/-- a new thing that is no handle's -/
theorem Ext.new' {p : Addr} {o : HO} (hp : H p = none) : Ext ρ H ρ (upd H p o) := ⟨⟨[], by simp⟩, fun a h n => absurd h n, fun a u n h => .inl (by rw [upd_ne (ne_of_none h hp)]; exact h)⟩
theorem WOk.new' (w : WOk K mg ρ H S) {p : Addr} {o : HO} (hp : H p = none) : WOk K mg ρ (upd H p o) S := by
  have ne : ∀ a ∈ ρ, a ≠ p := fun a ha q => w.nin hp (q ▸ ha)
  refine ⟨w.len, w.nd, fun a ha => by rw [upd_ne (ne a ha)]; exact w.tr a ha, fun n a m e1 e2 => ?_⟩
  have ha : a ∈ ρ := List.mem_of_getElem? e1
  exact MRep.ext (Ext.new' hp) (upd_ne (ne a ha)) (w.ob n a m e1 e2)
/-- a new handle -/
theorem Ext.hand {p : Addr} {o : HO} (hp : H p = none) : Ext ρ H (ρ ++ [p]) (upd H p o) := by
  refine ⟨⟨[p], rfl⟩, fun a h n => ?_, fun a u n h => .inl (by rw [upd_ne (ne_of_none h hp)]; exact h)⟩
  rcases List.mem_append.mp h with h | h
  · exact absurd h n
  · rw [List.mem_singleton.mp h]; exact hp
theorem WOk.hand (w : WOk K mg ρ H S) {p : Addr} {o : HO} {m : MO} (hp : H p = none) (hm : MRep K mg (ρ ++ [p]) (upd H p o) p m) : WOk K mg (ρ ++ [p]) (upd H p o) (S ++ [m]) := by
  have ne : ∀ a ∈ ρ, a ≠ p := fun a ha q => w.nin hp (q ▸ ha)
  refine ⟨by simp [w.len], ?_, fun a ha => ?_, fun n a m' e1 e2 => ?_⟩
  · refine List.nodup_append.mpr ⟨w.nd, by simp, fun a ha b hb => ?_⟩
    rw [List.mem_singleton.mp hb]
    exact ne a ha
  · rcases List.mem_append.mp ha with ha | ha
    · rw [upd_ne (ne a ha)]; exact w.tr a ha
    · rw [List.mem_singleton.mp ha, upd_same]; simp
  · by_cases hn : n < ρ.length
    · rw [List.getElem?_append_left hn] at e1
      rw [List.getElem?_append_left (by rw [← w.len]; exact hn)] at e2
      exact MRep.ext (Ext.hand hp) (upd_ne (ne a (List.mem_of_getElem? e1))) (w.ob n a m' e1 e2)
    · have hl := w.len
      rw [List.getElem?_append_right (by omega)] at e1 e2
      have hz : n - ρ.length = 0 := by
        cases q : n - ρ.length with
        | zero => rfl
        | succ k => rw [q] at e1; simp at e1
      rw [hz] at e1
      have hz2 : n - S.length = 0 := by omega
      rw [hz2] at e2
      simp at e1 e2
      subst e1 e2
      exact hm
/-- what a tuple, a list made from values stands for -/
theorem post_tup {Wp : Value → Option Addr → Hp → Prop} {Q : VK} {ds : List D} {vs : List V} {p : Addr} (h : PostE K mg Wp ρ H Q (.ok (.tup ds) S)) (w : WOk K mg ρ H S) (r : RepL K mg ρ H ds vs) (hp : H p = none) : Q (.ref p) (upd H p (.tup vs)) := by
  refine h (.ref p) ρ _ (Ext.new' hp) (w.new' hp) ?_
  rw [Rep]
  exact ⟨p, vs, rfl, .inl ⟨w.nin hp, upd_same⟩, r.ext (Ext.new' hp)⟩
theorem post_lst {Wp : Value → Option Addr → Hp → Prop} {Q : VK} {ds : List D} {vs : List V} {p : Addr} (h : PostE K mg Wp ρ H Q (.ok (.lst ds) S)) (w : WOk K mg ρ H S) (r : RepL K mg ρ H ds vs) (hp : H p = none) : Q (.ref p) (upd H p (.lst vs)) := by
  refine h (.ref p) ρ _ (Ext.new' hp) (w.new' hp) ?_
  rw [Rep]
  exact ⟨p, vs, rfl, ⟨w.nin hp, upd_same⟩, r.ext (Ext.new' hp)⟩
/-- a list that is a handle's -/
theorem post_lstH {Wp : Value → Option Addr → Hp → Prop} {Q : VK} {ds : List D} {vs : List V} {p : Addr} (h : PostE K mg Wp ρ H Q (.ok (.ptr S.length) (S ++ [.lst ds]))) (w : WOk K mg ρ H S) (r : RepL K mg ρ H ds vs) (hp : H p = none) : Q (.ref p) (upd H p (.lst vs)) := by
  refine h (.ref p) (ρ ++ [p]) _ (Ext.hand hp) (w.hand hp ⟨vs, upd_same, r.ext (Ext.hand hp)⟩) ?_
  rw [Rep]
  exact ⟨p, rfl, by rw [← w.len]; simp⟩
end
theorem line_of {n : Nat} (h : n ≤ 1000000) : n ≤ sizeLine := by rw [sizeLine_eq]; omega
section
variable {X : Cx} {W : WX} {es : List Expr} {f : AX} {pos : Pos}
theorem r_tup {x1} (h : EA X W es f) : E X W (.Tuple es x1 pos) (eArgs semTup f) := by
  refine PE.imp (pe_tup h) fun σ H Q q => argsem_imp q fun ρ S H1 ds vs w r p => ?_
  unfold semTup at p
  split at p
  · rename_i hl
    exact ⟨by rw [← r.len]; exact line_of hl, fun a ha => post_tup p w r ha⟩
  · exact p.elim
theorem r_lst (h : EA X W es f) : E X W (.List es pos) (eArgs semLst f) := by
  refine PE.imp (pe_lst h) fun σ H Q q => argsem_imp q fun ρ S H1 ds vs w r p => ?_
  unfold semLst at p
  split at p
  · rename_i hl
    exact ⟨by rw [← r.len]; exact line_of hl, fun a ha => post_lst p w r ha⟩
  · exact p.elim
theorem r_lstH (h : EA X W es f) : E X W (.List es pos) (eArgs semLstH f) := by
  refine PE.imp (pe_lst h) fun σ H Q q => argsem_imp q fun ρ S H1 ds vs w r p => ?_
  unfold semLstH at p
  split at p
  · rename_i hl
    exact ⟨by rw [← r.len]; exact line_of hl, fun a ha => post_lstH p w r ha⟩
  · exact p.elim
theorem r_callB {x : Str} {id : String} {sem : SemL} {p : Pos} {e : Expr} {es : List Expr} (hc : CallD X (.builtin id) sem) (hg : Gl X x) (hm : X.mg x = none) (hv : bootBuiltins x = some (.builtin id)) (ha : EA X W (e :: es) f) (hn : x ≠ "__name__" := by decide) (hdb : (x == ("__debug__" : Str)) = false := by decide)
    (he : starEach (e :: es) X.env = (false, eval e X.env) :: starEach es X.env := by rfl) (hpl : (backTo pos (starEach es X.env)).any (·.1) = false := by rfl) : E X W (.Call (.Name x p) (e :: es) [] pos) (eArgs sem f) := by
  obtain ⟨r, c, g⟩ := hc.go
  exact PE.imp (pe_callB c hg hm hv ha hn hdb he hpl) fun σ H Q q => argsem_imp q fun ρ S H1 ds vs w rr p => g _ ρ H1 S ds vs Q w rr p
theorem r_callT {x : Str} {T : String} {sem : SemL} {p : Pos} {e : Expr} {es : List Expr} (hc : CallD X (.type T) sem) (hg : Gl X x) (hm : X.mg x = none) (hv : bootBuiltins x = some (.type T)) (ha : EA X W (e :: es) f) (hn : x ≠ "__name__" := by decide) (hdb : (x == ("__debug__" : Str)) = false := by decide)
    (he : starEach (e :: es) X.env = (false, eval e X.env) :: starEach es X.env := by rfl) (hpl : (backTo pos (starEach es X.env)).any (·.1) = false := by rfl) : E X W (.Call (.Name x p) (e :: es) [] pos) (eArgs sem f) := by
  obtain ⟨r, c, g⟩ := hc.go
  exact PE.imp (pe_callTy c hg hm hv ha hn hdb he hpl) fun σ H Q q => argsem_imp q fun ρ S H1 ds vs w rr p => g _ ρ H1 S ds vs Q w rr p
end
end Z
namespace Z
open PySem PySem.Spec L2
/-- while -/
def whileL (c : BX) (body : SX) : Nat → SX
  | 0, _, _ => .bad
  | n + 1, sl, S => (c sl S).toS sl fun b S' => if b = true then (match body sl S' with
    | .nx sl2 S2 => whileL c body n sl2 S2
    | .ct sl2 S2 => whileL c body n sl2 S2
    | .bk sl2 S2 => .nx sl2 S2
    | r => r) else .nx sl S'
def fuel : Nat := 1000000
def sWhile (c : BX) (body : SX) : SX := whileL c body fuel
/-- for over items; G: what must stay as it is at each turn -/
noncomputable def forL (G : Store → Prop) (g : GX) (body : SX) : List D → SX
  | [], sl, S => open Classical in if G S then .nx sl S else .bad
  | x :: xs, sl, S => open Classical in if G S then (match g x sl S with
    | .nx sl1 S1 => (match body sl1 S1 with
      | .nx sl2 S2 => forL G g body xs sl2 S2
      | .ct sl2 S2 => forL G g body xs sl2 S2
      | .bk sl2 S2 => .nx sl2 S2
      | r => r)
    | _ => .bad) else .bad
noncomputable def sFor (it : IX) (g : GX) (body : SX) : SX := fun sl S => (it sl S).toS sl fun p S' => forL p.2 g body p.1 sl S'
section
variable {K : PySem.W.Frag} {mg : Str → Option Value} {ρ : List Addr} {H : Hp} {S : Store}
/-- an expression within a statement -/
theorem PostS.ofE {W : WX} {Dd : Ends} {σ : L2.St} {sl : Sl} {o : Out D} {k : D → Store → SO} (rs : RSt K mg ρ H σ sl) (h : PostS K mg W ρ H Dd (o.toS sl k)) :
    PostE K mg (fun C d H' => W C d σ H') ρ H (fun v H1 => ∃ ρ1 S1 d, WOk K mg ρ1 H1 S1 ∧ RSt K mg ρ1 H1 σ sl ∧ Rep K mg ρ1 H1 d v ∧ PostS K mg W ρ1 H1 Dd (k d S1)) o := by
  cases o with
  | ok d S => exact fun v ρ2 H2 y w r => ⟨ρ2, S, d, w, rs.ext y, r, PostS.from y h⟩
  | ex e S => exact fun C dd ρ2 H2 y w r => h C dd σ ρ2 H2 y w (rs.ext y) r
  | bad => exact h
theorem PostS.ofA {W : WX} {Dd : Ends} {σ : L2.St} {sl : Sl} {o : Out (List D)} {k : List D → Store → SO} (rs : RSt K mg ρ H σ sl) (h : PostS K mg W ρ H Dd (o.toS sl k)) :
    PostA K mg (fun C d H' => W C d σ H') ρ H (fun v H1 => ∃ ρ1 S1 d, WOk K mg ρ1 H1 S1 ∧ RSt K mg ρ1 H1 σ sl ∧ RepL K mg ρ1 H1 d v ∧ PostS K mg W ρ1 H1 Dd (k d S1)) o := by
  cases o with
  | ok d S => exact fun v ρ2 H2 y w r => ⟨ρ2, S, d, w, rs.ext y, r, PostS.from y h⟩
  | ex e S => exact fun C dd ρ2 H2 y w r => h C dd σ ρ2 H2 y w (rs.ext y) r
  | bad => exact h
theorem PostS.ofB {W : WX} {Dd : Ends} {σ : L2.St} {sl : Sl} {o : Out Bool} {k : Bool → Store → SO} (rs : RSt K mg ρ H σ sl) (h : PostS K mg W ρ H Dd (o.toS sl k)) :
    PostB K mg (fun C d H' => W C d σ H') ρ H (fun b H1 => ∃ ρ1 S1, WOk K mg ρ1 H1 S1 ∧ RSt K mg ρ1 H1 σ sl ∧ PostS K mg W ρ1 H1 Dd (k b S1)) o := by
  cases o with
  | ok d S => exact fun ρ2 H2 y w => ⟨ρ2, S, w, rs.ext y, PostS.from y h⟩
  | ex e S => exact fun C dd ρ2 H2 y w r => h C dd σ ρ2 H2 y w (rs.ext y) r
  | bad => exact h
theorem post_nx {W : WX} {Dd : Ends} {σ : L2.St} {sl : Sl} (h : PostS K mg W ρ H Dd (.nx sl S)) (w : WOk K mg ρ H S) (r : RSt K mg ρ H σ sl) : Dd.nx σ H := h σ ρ H Ext.refl w r
end
section
variable {X : Cx} {W : WX} {st : Stmt} {rest : List Stmt} {f g : SX} {e : Expr} {fe : EX} {pos : Pos}
theorem s_nil : ESs X W [] sNil := PSs.imp pss_nil fun D σ H ⟨ρ, S, sl, w, rs, p⟩ => post_nx p w rs
theorem s_one (h : ES X W st f) : ESs X W [st] f := pss_one h
theorem s_cons (h : ES X W st f) (hr : ESs X W rest g) : ESs X W (st :: rest) (sSeq f g) :=
  PSs.imp (pss_cons h hr) fun D σ H ⟨ρ, S, sl, w, rs, p⟩ => ⟨ρ, S, sl, w, rs, PostS.seq p⟩
theorem s_ret (he : E X W e fe) : ES X W (.Return (some e) pos) (sRet fe) :=
  PS.imp (ps_ret he) fun D σ H ⟨ρ, S, sl, w, rs, p⟩ => ⟨ρ, S, sl, w, rs, PostE.mono (PostS.ofE rs p) fun v H1 ⟨ρ1, S1, d, w1, r1, rv, p1⟩ => p1 v ρ1 H1 Ext.refl w1 rv⟩
theorem s_if {c : Expr} {ga : BX} {a b : List Stmt} (hc : EB X W c ga) (ha : ESs X W a f) (hb : ESs X W b g) : ES X W (.If c a b pos) (sIf ga f g) := by
  refine PS.imp (ps_if hc ha hb) fun D σ H ⟨ρ, S, sl, w, rs, p⟩ => ⟨ρ, S, sl, w, rs, PostB.mono (PostS.ofB rs p) fun k H1 ⟨ρ1, S1, w1, r1, p1⟩ => ?_⟩
  cases k with
  | true => exact ⟨ρ1, S1, sl, w1, r1, p1⟩
  | false => exact ⟨ρ1, S1, sl, w1, r1, p1⟩
def trG (K : PySem.W.Frag) (mg : Str → Option Value) (W : WX) (g : GX) : TG := fun v σ H Q => ∃ ρ S sl d, WOk K mg ρ H S ∧ RSt K mg ρ H σ sl ∧ Rep K mg ρ H d v ∧ PostS K mg W ρ H ⟨Q, fun _ _ => False, fun _ _ => False, fun _ _ => False⟩ (g d sl S)
def trGs (K : PySem.W.Frag) (mg : Str → Option Value) (W : WX) (g : GXs) : TGs := fun v σ H Q => ∃ ρ S sl d, WOk K mg ρ H S ∧ RSt K mg ρ H σ sl ∧ RepL K mg ρ H d v ∧ PostS K mg W ρ H ⟨Q, fun _ _ => False, fun _ _ => False, fun _ _ => False⟩ (g d sl S)
def EG (X : Cx) (W : WX) (tg : Expr) (g : GX) : Prop := PG X tg (trG X.K X.mg W g)
def EGs (X : Cx) (W : WX) (tg : List Expr) (g : GXs) : Prop := PGs X tg (trGs X.K X.mg W g)
theorem g_name {i : Nat} {x : Str} (hN : X.N.Nodup) (hi : X.N[i]? = some x := by rfl) (hx : Loc X.env.scope x := by first | exact Or.inl rfl | exact Or.inr rfl) (hf : X.fn x = true ∨ X.env.scope.names.lookup x = some .local := by first | exact .inl rfl | exact .inr rfl) : EG X W (.Name x pos) (gSet i) :=
  PG.imp (pg_name hN hi hx hf) fun v σ H Q ⟨ρ, S, sl, d, w, rs, rv, p⟩ => p _ ρ H Ext.refl w (rs.set rv i)
theorem gs_nil : EGs X W [] gNilX := PGs.imp pgs_nil fun v σ H Q ⟨ρ, S, sl, ds, w, rs, rv, p⟩ => by
  cases ds with
  | nil =>
    rw [RepL] at rv
    exact ⟨rv, p _ ρ H Ext.refl w rs⟩
  | cons d r => exact p.elim
theorem gs_cons {t : Expr} {ts : List Expr} {g : GX} {gs : GXs} (h : EG X W t g) (hr : EGs X W ts gs) (hs : (assignEach (t :: ts) X.env).map (·.2) = assign t X.env :: (assignEach ts X.env).map (·.2) := by rfl) : EGs X W (t :: ts) (gConsX g gs) :=
  PGs.imp (pgs_cons h hr hs) fun v σ H Q ⟨ρ, S, sl, ds, w, rs, rv, p⟩ => by
    cases ds with
    | nil => exact p.elim
    | cons d r =>
      rw [RepL] at rv
      obtain ⟨v1, vr, e, h1, h2⟩ := rv
      subst e
      refine ⟨v1, vr, rfl, ρ, S, sl, d, w, rs, h1, ?_⟩
      have p : PostS X.K X.mg W ρ H ⟨Q, fun _ _ => False, fun _ _ => False, fun _ _ => False⟩ ((g d sl S).then (gs r)) := p
      cases q : g d sl S with
      | nx sl1 S1 =>
        rw [q] at p
        exact fun σ1 ρ1 H1 x1 w1 r1 => ⟨ρ1, S1, sl1, r, w1, r1, h2.ext x1, PostS.from x1 p⟩
      | bk sl1 S1 => rw [q] at p; exact p
      | ct sl1 S1 => rw [q] at p; exact p
      | rt d1 S1 => rw [q] at p; exact p
      | ex e1 sl1 S1 => rw [q] at p; exact p
      | bad => rw [q] at p; exact p
theorem g_tup {es : List Expr} {k : Nat} {gs : GXs} {n : Nat} (hc : X.calm = true) (h : EGs X W es gs) (hl : ∀ ds sl S, gs ds sl S ≠ .bad → ds.length = n) (hn : (assignEach es X.env).length = n := by rfl) (hst : (assignEach es X.env).findIdx? (·.1) = none := by rfl) : EG X W (.Tuple es k pos) (gTupX gs) :=
  PG.imp (pg_tup hc h hn hst) fun v σ H Q ⟨ρ, S, sl, d, w, rs, rv, p⟩ => by
    cases d with
    | tup ds =>
      rw [Rep] at rv
      obtain ⟨a, vs, e, t, r⟩ := rv
      have p : PostS X.K X.mg W ρ H ⟨Q, fun _ _ => False, fun _ _ => False, fun _ _ => False⟩ (gs ds sl S) := p
      exact ⟨a, vs, e, t.sq, by rw [← r.len]; exact hl ds sl S (fun q => by rw [q] at p; exact p), ρ, S, sl, ds, w, rs, r, p⟩
    | tpx ds =>
      rw [Rep] at rv
      obtain ⟨a, vs, e, t, r⟩ := rv
      have p : PostS X.K X.mg W ρ H ⟨Q, fun _ _ => False, fun _ _ => False, fun _ _ => False⟩ (gs ds sl S) := p
      exact ⟨a, vs, e, t.sq, by rw [← r.len]; exact hl ds sl S (fun q => by rw [q] at p; exact p), ρ, S, sl, ds, w, rs, r, p⟩
    | _ => exact p.elim
theorem len_nil (ds : List D) (sl : Sl) (S : Store) (h : gNilX ds sl S ≠ .bad) : ds.length = 0 := by
  cases ds with
  | nil => rfl
  | cons _ _ => exact absurd rfl h
theorem len_cons {g : GX} {gs : GXs} {n : Nat} (hr : ∀ ds sl S, gs ds sl S ≠ .bad → ds.length = n) (hg : ∀ d sl S, (∃ sl' S', g d sl S = .nx sl' S') ∨ g d sl S = .bad) (ds : List D) (sl : Sl) (S : Store) (h : gConsX g gs ds sl S ≠ .bad) : ds.length = n + 1 := by
  cases ds with
  | nil => exact absurd rfl h
  | cons d r =>
    rcases hg d sl S with ⟨sl', S', e⟩ | e
    · have : gConsX g gs (d :: r) sl S = gs r sl' S' := by show (g d sl S).then (gs r) = _; rw [e]; rfl
      rw [this] at h
      simp [hr r sl' S' h]
    · exact absurd (show gConsX g gs (d :: r) sl S = .bad by show (g d sl S).then (gs r) = _; rw [e]; rfl) h
theorem nx_set (i : Nat) (d : D) (sl : Sl) (S : Store) : (∃ sl' S', gSet i d sl S = .nx sl' S') ∨ gSet i d sl S = .bad := .inl ⟨_, _, rfl⟩
theorem s_asg {tg : Expr} {g : GX} (he : E X W e fe) (hg : EG X W tg g) (hb : ∀ d sl S, (∃ sl' S', g d sl S = .nx sl' S') ∨ g d sl S = .bad) (hs : swapsWithSole [tg] e pos.line X.env = pure false := by rfl) (hw : swappedStores [tg] e X.env = pure none := by rfl)
    (h1 : (assignEach [tg] X.env).map (·.2) = [assign tg X.env] := by rfl) : ES X W (.Assign [tg] e pos) (sAsg fe g) :=
  PS.imp (ps_asg he hg hs hw h1) fun D σ H ⟨ρ, S, sl, w, rs, p⟩ => ⟨ρ, S, sl, w, rs, PostE.mono (PostS.ofE rs p) fun v H1 ⟨ρ1, S1, d, w1, r1, rv, p1⟩ => ⟨ρ1, S1, sl, d, w1, r1, rv, by
    rcases hb d sl S1 with ⟨sl', S', q⟩ | q
    · rw [q] at p1 ⊢; exact p1
    · rw [q] at p1; exact p1.elim⟩⟩
theorem s_set {i : Nat} {x : Str} {pos' : Pos} (hN : X.N.Nodup) (he : E X W e fe) (hi : X.N[i]? = some x := by rfl) (hx : Loc X.env.scope x := by first | exact Or.inl rfl | exact Or.inr rfl) (hs : swapsWith e (some (.Name x pos')) pos.line X.env = pure false := by rfl)
    (hf : X.fn x = true ∨ X.env.scope.names.lookup x = some .local := by first | exact .inl rfl | exact .inr rfl) : ES X W (.Assign [.Name x pos'] e pos) (sAsg fe (gSet i)) :=
  PS.imp (ps_set hN hi hx he hs hf) fun D σ H ⟨ρ, S, sl, w, rs, p⟩ => ⟨ρ, S, sl, w, rs, PostE.mono (PostS.ofE rs p) fun v H1 ⟨ρ1, S1, d, w1, r1, rv, p1⟩ => p1 _ ρ1 H1 Ext.refl w1 (r1.set rv i)⟩
theorem s_par {i j : Nat} {x y : Str} {a b : Expr} {fa : AX} {px py pt : Pos} {kt k2 pt2} (hc : X.calm = true) (hN : X.N.Nodup) (ha : EA X W [a, b] fa) (hi : X.N[i]? = some x := by rfl) (hj : X.N[j]? = some y := by rfl) (hij : i ≠ j := by decide)
    (hx : X.env.scope.names.lookup x = some .local := by rfl) (hy : X.env.scope.names.lookup y = some .local := by rfl)
    (hw : swappedStores [.Tuple [.Name x px, .Name y py] kt pt] (.Tuple [a, b] k2 pt2) X.env = pure (some [x, y]) := by rfl)
    (hs : swapsWithSole [.Tuple [.Name x px, .Name y py] kt pt] (.Tuple [a, b] k2 pt2) pos.line X.env = pure false := by rfl) :
    ES X W (.Assign [.Tuple [.Name x px, .Name y py] kt pt] (.Tuple [a, b] k2 pt2) pos) (sPar i j fa) :=
  PS.imp (ps_par hc hN hi hj hij hx hy ha hw hs) fun D σ H ⟨ρ, S, sl, w, rs, p⟩ => ⟨ρ, S, sl, w, rs, PostA.mono (PostS.ofA rs p) fun vs H1 ⟨ρ1, S1, ds, w1, r1, rv, p1⟩ => by
    match ds, rv, p1 with
    | [d, e], rv, p1 =>
      rw [RepL] at rv
      obtain ⟨v, r, e1, h1, h2⟩ := rv
      rw [RepL] at h2
      obtain ⟨u, r2, e2, h3, h4⟩ := h2
      rw [RepL] at h4
      subst h4 e2 e1
      exact ⟨v, u, rfl, p1 _ ρ1 H1 Ext.refl w1 ((r1.set h1 i).set h3 j)⟩
    | [], _, p1 => exact p1.elim
    | [_], _, p1 => exact p1.elim
    | _ :: _ :: _ :: _, _, p1 => exact p1.elim⟩
theorem s_while {c : Expr} {ga : BX} {body : List Stmt} (hp : PassesOwn (model X.prog X.w) X.A X.env X.xe) (hc : EB X W c ga) (hb : ESs X W body f) : ES X W (.While c body [] pos) (sWhile ga f) := by
  refine PS.imp (ps_while hp hc hb) fun D σ H ⟨ρ, S, sl, w, rs, p⟩ => ?_
  refine ⟨fun m σ H => ∃ ρ S sl, WOk X.K X.mg ρ H S ∧ RSt X.K X.mg ρ H σ sl ∧ PostS X.K X.mg W ρ H D (whileL ga f m sl S), ⟨fuel, ρ, S, sl, w, rs, p⟩, ?_⟩
  rintro m σ H ⟨ρ, S, sl, w, rs, p⟩
  cases m with
  | zero => exact p.elim
  | succ m =>
    refine ⟨ρ, S, sl, w, rs, PostB.mono (PostS.ofB rs p) fun k H1 ⟨ρ1, S1, w1, r1, p1⟩ => ?_⟩
    cases k with
    | false => exact post_nx p1 w1 r1
    | true =>
      rw [if_pos rfl] at p1 ⊢
      refine ⟨fun σ' H' => ∃ ρ S sl, WOk X.K X.mg ρ H' S ∧ RSt X.K X.mg ρ H' σ' sl ∧ PostS X.K X.mg W ρ H' D (whileL ga f m sl S), fun σ' H' n => ⟨m, Nat.lt_succ_self m, n⟩, ρ1, S1, sl, w1, r1, ?_⟩
      cases q : f sl S1 with
      | nx sl2 S2 => rw [q] at p1; exact fun σ ρ2 H2 y w r => ⟨ρ2, S2, sl2, w, r, PostS.from y p1⟩
      | ct sl2 S2 => rw [q] at p1; exact fun σ ρ2 H2 y w r => ⟨ρ2, S2, sl2, w, r, PostS.from y p1⟩
      | bk sl2 S2 => rw [q] at p1; exact p1
      | rt d S2 => rw [q] at p1; exact p1
      | ex e sl2 S2 => rw [q] at p1; exact p1
      | bad => rw [q] at p1; exact p1
end
/-- J walks over data ds from the base heap on, while G holds of the store -/
structure IWalk (K : PySem.W.Frag) (mg : Str → Option Value) (J : It) (ds : List D) (G : Store → Prop) (ρ0 : List Addr) (H0 : Hp) : Prop where
  go : ∀ (i : Nat) ρ H S, i < ds.length → Ext ρ0 H0 ρ H → WOk K mg ρ H S → G S → J.go i H
  stop : ∀ ρ H S, Ext ρ0 H0 ρ H → WOk K mg ρ H S → G S → J.stop ds.length H
  yld : ∀ (i : Nat) ρ H S x H', i < ds.length → Ext ρ0 H0 ρ H → WOk K mg ρ H S → G S → J.yld i H x H' → ∃ d, ds[i]? = some d ∧ Ext ρ H ρ H' ∧ WOk K mg ρ H' S ∧ Rep K mg ρ H' d x
def PostI (K : PySem.W.Frag) (mg : Str → Option Value) (W : Value → Option Addr → Hp → Prop) (ρ : List Addr) (H : Hp) (R : It → Hp → Prop) : Out (List D × (Store → Prop)) → Prop
  | .ok p S' => ∀ ρ' H' J, Ext ρ H ρ' H' → WOk K mg ρ' H' S' → IWalk K mg J p.1 p.2 ρ' H' → R J H'
  | .ex e S' => ∀ C dd ρ' H', Ext ρ H ρ' H' → WOk K mg ρ' H' S' → ExRep K mg ρ' H' e C dd → W C dd H'
  | .bad => False
def trI (K : PySem.W.Frag) (mg : Str → Option Value) (W : WX) (it : IX) : TI := fun σ H R => ∃ ρ S sl, WOk K mg ρ H S ∧ RSt K mg ρ H σ sl ∧ PostI K mg (fun C d H' => W C d σ H') ρ H R (it sl S)
def EI (X : Cx) (W : WX) (tg it : Expr) (f : IX) : Prop := PI X tg it (trI X.K X.mg W f)
section
variable {X : Cx} {W : WX} {f : SX} {pos : Pos}
theorem s_for {tg iter : Expr} {body : List Stmt} {it : IX} {g : GX} (hp : PassesOwn (model X.prog X.w) X.A X.env X.xe) (hc : X.calm = true) (hi : EI X W tg iter it) (hg : EG X W tg g) (hb : ESs X W body f)
    (hs : ∀ x, foldedSetIterable iter X.env x = pure x := by intro _; rfl) : ES X W (.For tg iter body [] pos) (sFor it g f) := by
  refine PS.imp (ps_for hp hc hi hg hb hs) fun D σ H ⟨ρ, S, sl, w, rs, p⟩ => ?_
  have p : PostS X.K X.mg W ρ H D ((it sl S).toS sl fun p S' => forL p.2 g f p.1 sl S') := p
  refine ⟨ρ, S, sl, w, rs, ?_⟩
  cases q : it sl S with
  | bad => rw [q] at p; exact p
  | ex e S1 => rw [q] at p; exact fun C dd ρ2 H2 y w r => p C dd σ ρ2 H2 y w (rs.ext y) r
  | ok pr S1 =>
    rw [q] at p
    intro ρ1 H1 J x1 w1 iw
    obtain ⟨ds, G⟩ := pr
    have p1 : PostS X.K X.mg W ρ1 H1 D (forL G g f ds sl S1) := PostS.from x1 p
    refine ⟨fun i m σ' H' => i + m = ds.length ∧ ∃ ρ' S' sl', Ext ρ1 H1 ρ' H' ∧ WOk X.K X.mg ρ' H' S' ∧ RSt X.K X.mg ρ' H' σ' sl' ∧ PostS X.K X.mg W ρ' H' D (forL G g f (ds.drop i) sl' S'),
      ⟨ds.length, by simp, ρ1, S1, sl, Ext.refl, w1, rs.ext x1, by simpa using p1⟩, ?_⟩
    rintro i m σ2 H2 ⟨hm, ρ2, S2, sl2, x2, w2, r2, p2⟩
    cases m with
    | zero =>
      have hi : i = ds.length := by omega
      subst hi
      rw [List.drop_length] at p2
      have p2 : PostS X.K X.mg W ρ2 H2 D (open Classical in if G S2 then .nx sl2 S2 else .bad) := p2
      by_cases hG : G S2
      · rw [if_pos hG] at p2
        exact .inl ⟨iw.stop ρ2 H2 S2 x2 w2 hG, post_nx p2 w2 r2⟩
      · rw [if_neg hG] at p2; exact p2.elim
    | succ m =>
      have hlt : i < ds.length := by omega
      have hd : ds.drop i = ds[i] :: ds.drop (i + 1) := (List.getElem_cons_drop hlt).symm
      rw [hd] at p2
      have p2 : PostS X.K X.mg W ρ2 H2 D (open Classical in if G S2 then (match g ds[i] sl2 S2 with
        | .nx sl1 S1 => (match f sl1 S1 with
          | .nx sl2 S2 => forL G g f (ds.drop (i + 1)) sl2 S2
          | .ct sl2 S2 => forL G g f (ds.drop (i + 1)) sl2 S2
          | .bk sl2 S2 => .nx sl2 S2
          | r => r)
        | _ => .bad) else .bad) := p2
      by_cases hG : G S2
      · rw [if_pos hG] at p2
        refine .inr ⟨iw.go i ρ2 H2 S2 hlt x2 w2 hG, fun σ' H' => ∃ ρ' S' sl', Ext ρ1 H1 ρ' H' ∧ WOk X.K X.mg ρ' H' S' ∧ RSt X.K X.mg ρ' H' σ' sl' ∧ PostS X.K X.mg W ρ' H' D (forL G g f (ds.drop (i + 1)) sl' S'), fun σ' H' n => ⟨m, Nat.lt_succ_self m, by omega, n⟩, ?_⟩
        intro x H3 y
        obtain ⟨d, e, x3, w3, r3⟩ := iw.yld i ρ2 H2 S2 x H3 hlt x2 w2 hG y
        have ed : d = ds[i] := by rw [List.getElem?_eq_getElem hlt] at e; exact (Option.some.inj e).symm
        subst ed
        refine ⟨ρ2, S2, sl2, ds[i], w3, r2.ext x3, r3, ?_⟩
        cases q1 : g ds[i] sl2 S2 with
        | nx sl4 S4 =>
          rw [q1] at p2
          intro σ4 ρ4 H4 x4 w4 r4
          refine ⟨ρ4, S4, sl4, w4, r4, ?_⟩
          have p4 := PostS.from (x3.trans x4) p2
          have xx := x2.trans (x3.trans x4)
          cases q2 : f sl4 S4 with
          | nx sl5 S5 => simp only [q2] at p4; exact fun σ5 ρ5 H5 y5 w5 r5 => ⟨ρ5, S5, sl5, xx.trans y5, w5, r5, PostS.from y5 p4⟩
          | ct sl5 S5 => simp only [q2] at p4; exact fun σ5 ρ5 H5 y5 w5 r5 => ⟨ρ5, S5, sl5, xx.trans y5, w5, r5, PostS.from y5 p4⟩
          | bk sl5 S5 => simp only [q2] at p4; exact p4
          | rt d5 S5 => simp only [q2] at p4; exact p4
          | ex e5 sl5 S5 => simp only [q2] at p4; exact p4
          | bad => simp only [q2] at p4; exact p4
        | bk sl4 S4 => rw [q1] at p2; exact p2.elim
        | ct sl4 S4 => rw [q1] at p2; exact p2.elim
        | rt d4 S4 => rw [q1] at p2; exact p2.elim
        | ex e4 sl4 S4 => rw [q1] at p2; exact p2.elim
        | bad => rw [q1] at p2; exact p2.elim
      · rw [if_neg hG] at p2; exact p2.elim
end
end Z
namespace Z
open PySem PySem.Spec L2 PyProof.Rows
theorem steady_ctxk {B : Heap} {H : Hp} : PXN.Steady1 (fun o => ∀ vs, o.data = .fields vs → ∃ c, vs[2]? = some c ∧ Chain B H c) := fun o v h => by
  obtain ⟨c, d, dt, sl⟩ := o
  cases dt with
  | fields vs0 =>
    intro vs e
    have e2 : vs0.setIfInBounds 1 v = vs := Data.fields.inj e
    have e3 : (vs0.setIfInBounds 1 v)[2]? = vs0[2]? := by
      first
      | exact Array.getElem?_setIfInBounds_ne (by decide)
      | simp [Array.getElem?_setIfInBounds]
    rw [← e2, e3]
    exact h vs0 rfl
  | _ =>
    intro vs e
    first
    | exact Data.noConfusion e
    | cases e
section
variable {B : Heap} {H : Hp} {cls : Value} {d : Option Addr} {o : Obj}
theorem Zk.steady : PXN.Steady1 (Zk B H cls d) := fun o v h => ⟨PXN.steady_cls o v h.1, PXN.steady_dict o v h.2.1, steady_ctxk o v h.2.2⟩
theorem Zk.zc (h : Zk B H cls d o) : Zc cls d o := ⟨h.1, h.2.1⟩
theorem Zk.of_n (h : L2N.Zn cls d o) : Zk B H cls d o := ⟨h.1, h.2.1, fun vs e => ⟨.none, h.2.2 vs e, .nil⟩⟩
theorem Chain.to {B' : Heap} {H' : Hp} {v : Value} (c : Chain B H v) (k : ∀ b o vs, B.get? b = some o → H b = none → o.data = .fields vs → B'.get? b = some o ∧ H' b = none) : Chain B' H' v := by
  induction c with
  | nil => exact .nil
  | cons h n hd hc r ih =>
    obtain ⟨h', n'⟩ := k _ _ _ h n hd
    exact .cons h' n' hd hc ih
theorem Zk.to {B' : Heap} {H' : Hp} (z : Zk B H cls d o) (k : ∀ b o vs, B.get? b = some o → H b = none → o.data = .fields vs → B'.get? b = some o ∧ H' b = none) : Zk B' H' cls d o := ⟨z.1, z.2.1, fun vs e => by
  obtain ⟨c, h1, h2⟩ := z.2.2 vs e
  exact ⟨c, h1, h2.to k⟩⟩
end
section
variable {X : Cx} {pins : List (Addr × Obj)} {σ : L2.St} {H : Hp} {sI s s' : Shared} {B : Heap} {W : WX} {E : XK}
/-- a call's exception is in our air -/
theorem XE.of_call (I : Inv X pins σ H s) (hW : ∀ cls d H', E cls d H' → W cls d σ H') {u : Value} (c : Z.CX X.prog X.w X.stack H s E u s') : Z.XE X W u s' := by
  obtain ⟨a, B, H', cls, d, rfl, fl, hok, ub, na, os, ag, hE⟩ := c
  obtain ⟨G, g1, g2⟩ := restrict s'.heap fun b => (B.get? b).isSome || decide (b ∈ frs X.stack)
  have st : B.StaysIn s'.heap := fl.1
  have gB : ∀ b o, B.get? b = some o → G.get? b = some o := fun b o e => by
    rw [g1 b (by simp [e])]
    exact st b o e
  have gF : ∀ b, b ∈ frs X.stack → G.get? b = s'.heap.get? b := fun b hb => g1 b (by simp [hb])
  have og : ∀ b o, G.get? b = some o → s'.heap.get? b = some o ∧ ((B.get? b).isSome = true ∨ b ∈ frs X.stack) := fun b o e => by
    cases q : ((B.get? b).isSome || decide (b ∈ frs X.stack)) with
    | false => rw [g2 b q] at e; cases e
    | true =>
      rw [g1 b q] at e
      exact ⟨e, by simpa [Bool.or_eq_true] using q⟩
  refine ⟨a, B, { s with heap := G, gens := s'.gens, drawn := s'.drawn, toks := s'.toks }, pins, σ, H', cls, d, rfl, ?_, fun b o e hb => ?_, Heap.UpToSlots.of_keeps fun b o e => (og b o e).1, .inr (.inl fl), na, os, ag, hW _ _ _ hE⟩
  · refine I.call (ch := []) ⟨fun b o e n hb _ => gB b o (ub.keep b o e n hb), fun b o e n hb _ => ?_, fun b o e n _ => ub.free b o e n, fun b o e _ => ?_, ub.tups, ub.frzs, ub.tbls⟩ (hok.kept gB) ag (fun _ z => nomatch z)
    · obtain ⟨sl, q⟩ := ub.slot b o e hb
      exact ⟨sl, by rw [gF b hb]; exact q⟩
    · by_cases hb : b ∈ frs X.stack
      · obtain ⟨sl, q⟩ := ub.slot b o e hb
        exact ⟨_, by rw [gF b hb]; exact q⟩
      · obtain ⟨o', q⟩ := ub.there b o e hb
        exact ⟨o', gB b o' q⟩
  · obtain ⟨e', h⟩ := og b o e
    rcases h with h | h
    · obtain ⟨o', q⟩ := Option.isSome_iff_exists.mp h
      have z := st b o' q
      rw [e'] at z; cases z
      exact q
    · exact absurd h hb
/-- it leaves the def -/
theorem XE.leave (hs : X.stack = X.env :: X.outer) (hf : X.env.frame = some X.env.locals) (hex : X.ex = []) {E₁ : Value → Shared → Prop} (hW : ∀ cls d σ H, W cls d σ H → E cls d H) {u : Value} (x : Z.XE X W u s') :
    wpAny (model X.prog X.w) X.A (leaving X.env u) (fun _ s'' => Z.CX X.prog X.w X.outer X.H_0 X.s_0 E u s'') E₁ s' := by
  obtain ⟨a, B, sI, pins, σ, H, cls, d, rfl, I, nb, up, sky, na, os, ag, w⟩ := x
  have hfr : X.A.frames = some (X.env :: X.outer) := by rw [I.ok.frames, hs]
  have nst : ∀ b o, X.s_0.heap.get? b = some o → b ∉ X.fs → b ∉ frs X.stack := fun b o e hb hm => by
    rcases List.mem_cons.mp (I.stkSub b hm) with z | z
    · have h1 := Heap.lt_size e
      have h2 := I.ok.above
      rw [z] at h1
      exact absurd (Nat.lt_of_lt_of_le h1 h2) (Nat.lt_irrefl _)
    · exact hb z
  have hex' : ∀ b, b ∉ X.ex := fun b hb => by rw [hex] at hb; cases hb
  have hokB := I.inGround nb
  have fin : ∀ h', HandSPX.FlyingZ B X.outer a (Zk B H cls d) h' → s'.heap.UpToSlots h' → Z.CX X.prog X.w X.outer X.H_0 X.s_0 E (.ref a) { s' with heap := h' } := fun h' fl up' => by
    refine ⟨a, B, H, cls, d, rfl, fl, hokB, ⟨fun b o e n hb => nb b o (I.base.keep b o e n hb (hex' b)) (nst b o e hb), fun b o e hb => ?_, fun b o e n => I.base.free b o e n (hex' b), fun b o e hb => ?_, I.base.tups, I.base.frzs, I.base.tbls⟩,
      na, os.trans I.os, ag, hW _ _ _ _ w⟩
    · obtain ⟨_, o₀, e₀, hnf⟩ := I.ok.funs.mem hb
      rw [e] at e₀; cases e₀
      obtain ⟨sl, e1⟩ := I.base.slot b o e (I.ok.frf b hb) hb (hex' b)
      obtain ⟨sl2, e2⟩ := up b _ e1 hnf
      obtain ⟨sl3, e3⟩ := up' b _ e2 hnf
      exact ⟨sl3, e3⟩
    · obtain ⟨o', e1⟩ := I.base.there b o e (hex' b)
      exact ⟨o', nb b o' e1 (nst b o e hb)⟩
  rw [hs] at sky
  rcases sky with ⟨hB, hn, hl, oe, vs, he, hz, hd, h1⟩ | fl | hd
  · exact PXN.leaving_firstZ Zk.steady hfr hl hf he hB hn hd h1 hz fin
  · exact PXN.leaves_onZ Zk.steady hfr hf fl fin
  · exact HandSPX.leaves_heldZ hf hd fin
/-- a def's wish about exceptions -/
theorem takes_of (hs : X.stack = X.env :: X.outer) (hf : X.env.frame = some X.env.locals) (hex : X.ex = []) {E₁ : Value → Shared → Prop}
    (hx : X.xe = fun e s' => wpAny (model X.prog X.w) X.A (leaving X.env e) (fun _ s'' => Z.CX X.prog X.w X.outer X.H_0 X.s_0 E e s'') E₁ s') : Takes X (fun cls d _ H => E cls d H) := fun u s' x => by
  rw [hx]
  exact XE.leave (W := fun cls d _ H => E cls d H) (E := E) hs hf hex (fun _ _ _ _ h => h) x
theorem passAt (tk : Takes X W) (σ : L2.St) : PassesAt (Z.CX X.prog X.w) X σ (WE W σ) := fun _ _ _ e s' I c => tk e s' (XE.of_call I (fun _ _ _ h => h) c)
end
theorem ps_raisek {X : Cx} {W : WX} {e : Expr} {t : L2.St → Hp → XK → Prop} {pos : Pos} (hc : X.calm = true) (tk : Takes X W) (he : L2N.PMk X e t) : PS X (.Raise (some e) none pos) (fun _ σ H => t σ H fun cls d H' => W cls d σ H') := by
  refine ⟨fun pins s σ H D I h => ?_⟩
  show wpAny _ _ (do standAt pos; raiseStmt X.env (some (do let v ← eval e X.env; standAt pos; pure v)) none) _ _ _
  refine wpAny_bind (wpAny_standAt (raise_made (I.ok.hd hc) (wpAny_bind (wpAny_mono (he pins s σ H _ I h) (fun u s1 hu => wpAny_bind (wpAny_standAt (wpAny_pure ?_))) fun _ _ x => x))))
  obtain ⟨a, oe, vs, sI, H', cls, d, rfl, J, k, hne, ha, hz, hd, h1, na, os, ag, r, q⟩ := hu
  obtain ⟨r1, r2⟩ := r (model X.prog X.w) s1.heap (J.kIn.keeps k)
  exact ⟨a, oe, vs, cls, rfl, ha, hz.1, hd, h1, r1, r2, tk _ _ (XE.new J k hne ha (Zk.of_n hz) hd h1 na os ag q)⟩
theorem passes_call {X : Cx} {W : WX} {E : XK} (tk : Takes X W) (hW : ∀ cls d σ H, E cls d H → W cls d σ H) : ∀ (pins : List (Addr × Obj)) (σ : L2.St) (H : Hp) (s : Shared) (e : Value) (s' : Shared), Inv X pins σ H s → Z.CX X.prog X.w X.stack H s E e s' → X.xe e s' :=
  fun _ σ _ _ e s' I c => tk e s' (XE.of_call I (fun cls d H' h => hW cls d σ H' h) c)
theorem flyingk {B h : Heap} {H H' : Hp} {l : List Env} {a : Addr} {cls : Value} {d : Option Addr} (x : HandSPX.FlyingZ B l a (Zk B H cls d) h) (k : ∀ b o vs, B.get? b = some o → H b = none → o.data = .fields vs → B.get? b = some o ∧ H' b = none) : HandSPX.FlyingZ B l a (Zk B H' cls d) h :=
  L2H.flyingZ_imp (fun _ z => z.to k) x
end Z
namespace Z
open PySem PySem.Spec L2
section
variable {K : PySem.W.Frag} {mg : Str → Option Value} {ρ ρ' : List Addr} {H : Hp} {S S' : Store}
mutual
theorem Rep.under_ : ∀ (d : D) (v : V), Rep K mg ρ H d v → under ρ.length d = true
  | .non, _, _ => rfl
  | .bl _, _, _ => rfl
  | .int _, _, _ => rfl
  | .str _, _, _ => rfl
  | .ty _, _, _ => rfl
  | .cls _, _, _ => rfl
  | .scr _, _, _ => rfl
  | .tup xs, v, h => by
    rw [Rep] at h
    obtain ⟨a, vs, _, _, r⟩ := h
    rw [under]; exact RepL.under_ xs vs r
  | .lst xs, v, h => by
    rw [Rep] at h
    obtain ⟨a, vs, _, _, r⟩ := h
    rw [under]; exact RepL.under_ xs vs r
  | .tpx xs, v, h => by
    rw [Rep] at h
    obtain ⟨a, vs, _, _, r⟩ := h
    rw [under]; exact RepL.under_ xs vs r
  | .dct ks ds, v, h => by
    rw [Rep] at h
    obtain ⟨a, kv, vs, _, _, r1, r2⟩ := h
    rw [under, RepL.under_ ks kv r1, RepL.under_ ds vs r2]; rfl
  | .ins c ns ds, v, h => by
    rw [Rep] at h
    obtain ⟨a, C, dx, fs, _, _, _, _, _, r⟩ := h
    rw [under]; exact RepL.under_ ds _ r
  | .ptr n, v, h => by
    rw [Rep] at h
    obtain ⟨a, _, q⟩ := h
    rw [under]; exact decide_eq_true (List.getElem?_eq_some_iff.mp q).1
  | .exc c ns ds, v, h => by
    rw [Rep] at h
    obtain ⟨a, C, dx, fs, _, _, _, _, _, _, _, r⟩ := h
    rw [under]; exact RepL.under_ ds _ r
  | .lam _ _, _, _ => rfl
  | .lamc T ds, v, h => by
    rw [Rep] at h
    obtain ⟨f, clo, vs, _, _, _, r⟩ := h
    rw [under]; exact RepL.under_ ds vs r
theorem RepL.under_ : ∀ (ds : List D) (vs : List V), RepL K mg ρ H ds vs → underL ρ.length ds = true
  | [], _, _ => rfl
  | d :: ds, vs, h => by
    rw [RepL] at h
    obtain ⟨v, r, _, h1, h2⟩ := h
    rw [underL, Rep.under_ d v h1, RepL.under_ ds r h2]; rfl
end
theorem MRep.under_ {a : Addr} {m : MO} (h : MRep K mg ρ H a m) : underM ρ.length m = true := by
  cases m with
  | lst ds =>
    obtain ⟨vs, _, r⟩ := h
    exact RepL.under_ ds vs r
  | dct lk ks ds =>
    obtain ⟨kvs, _, r1, r2⟩ := h
    show (underL _ ks && underL _ ds) = true
    rw [RepL.under_ ks _ r1, RepL.under_ ds _ r2]; rfl
  | ins c ns ds =>
    obtain ⟨C, dx, fs, _, _, _, r⟩ := h
    exact RepL.under_ ds _ r
  | tab P q => rfl
theorem Back.shrinkL (b : Back K mg ρ ρ' H S') {ds : List D} {vs : List V} (hu : underL ρ.length ds = true) (r : RepL K mg ρ' H ds vs) : RepL K mg ρ H ds vs :=
  frzL_rep (g := frzP S' ρ.length 0) (fun n d' a => b.frz 0 n d' a) b.sub ds ds vs (frz_underL (fun n hn => frzP_lt hn) ds hu) r
theorem Back.wok {H₀ : Hp} (b : Back K mg ρ ρ' H S') (w0 : WOk K mg ρ H₀ S) (c : Closed S S') : WOk K mg ρ H (S'.take S.length) := by
  obtain ⟨t, e⟩ := id b.pre
  have hl : ρ.length ≤ S'.length := by
    have := b.w.len
    rw [e, List.length_append] at this
    omega
  refine ⟨?_, w0.nd, fun a ha => b.w.tr a (by rw [e]; exact List.mem_append_left _ ha), fun n a m e1 e2 => ?_⟩
  · rw [List.length_take, w0.len]; have := w0.len; omega
  · have hn : n < S.length := by rw [← w0.len]; exact (List.getElem?_eq_some_iff.mp e1).1
    rw [List.getElem?_take_of_lt hn] at e2
    have e3 : ρ'[n]? = some a := by rw [e, List.getElem?_append_left (List.getElem?_eq_some_iff.mp e1).1]; exact e1
    have hu : underM ρ.length m = true := by
      rcases c n m hn e2 with q | q
      · exact (w0.ob n a m e1 q).under_
      · rw [w0.len]; exact q
    have q := b.w.ob n a m e3 e2
    cases m with
    | lst ds =>
      obtain ⟨vs, h1, r⟩ := q
      exact ⟨vs, h1, b.shrinkL hu r⟩
    | dct lk ks ds =>
      obtain ⟨kvs, h1, r1, r2⟩ := q
      have hu : (underL ρ.length ks && underL ρ.length ds) = true := hu
      rw [Bool.and_eq_true] at hu
      exact ⟨kvs, h1, b.shrinkL hu.1 r1, b.shrinkL hu.2 r2⟩
    | ins c ns ds =>
      obtain ⟨C, dx, fs, h0, h1, h2, r⟩ := q
      exact ⟨C, dx, fs, h0, h1, h2, b.shrinkL hu r⟩
    | tab P q' =>
      obtain ⟨hP, ps, h1, h2, h3⟩ := q
      refine ⟨hP, ps, h1, h2, fun pos cv hc => ?_⟩
      obtain ⟨c, e1, n, e2⟩ := h3 pos cv hc
      exact ⟨c, e1, b.sub _ n, e2⟩
theorem Ext.back {H₀ : Hp} (x : Ext ρ H₀ ρ' H) : Ext ρ H₀ ρ H := ⟨⟨[], by simp⟩, fun a h n => absurd h n, x.keep⟩
/-- what a def's end is worth to the caller -/
theorem fin_imp {W : Value → Option Addr → Hp → Prop} {Q : VK} {o : Out D} (w0 : WOk K mg ρ H S) (h : PostE K mg W ρ H Q (fin S o)) : PostE K mg W ρ H Q o := by
  cases o with
  | bad => exact h
  | ok d S1 =>
    have h : PostE K mg W ρ H Q (open Classical in if Closed S S1 then (match frzD (frzP S1 S.length 6) d with
      | some d' => .ok d' (S1.take S.length)
      | none => .bad) else .bad) := h
    intro v ρ1 H1 x w1 r
    by_cases c : Closed S S1
    · rw [if_pos c] at h
      have b : Back K mg ρ ρ1 H1 S1 := ⟨x.pre, w1⟩
      cases q : frzD (frzP S1 S.length 6) d with
      | none => rw [q] at h; exact h.elim
      | some d' =>
        rw [q] at h
        have hl : frzP S1 S.length 6 = frzP S1 ρ.length 6 := by rw [w0.len]
        rw [hl] at q
        exact h v ρ H1 x.back (b.wok w0 c) (frzD_rep (fun n d' a => b.frz 6 n d' a) b.sub d d' v q r)
    · rw [if_neg c] at h; exact h.elim
  | ex d S1 =>
    have h : PostE K mg W ρ H Q (open Classical in if Closed S S1 then (match frzD (frzP S1 S.length 6) d with
      | some d' => .ex d' (S1.take S.length)
      | none => .bad) else .bad) := h
    intro C dd ρ1 H1 x w1 r
    by_cases c : Closed S S1
    · rw [if_pos c] at h
      have b : Back K mg ρ ρ1 H1 S1 := ⟨x.pre, w1⟩
      cases q : frzD (frzP S1 S.length 6) d with
      | none => rw [q] at h; exact h.elim
      | some d' =>
        rw [q] at h
        have hl : frzP S1 S.length 6 = frzP S1 ρ.length 6 := by rw [w0.len]
        rw [hl] at q
        refine h C dd ρ H1 x.back (b.wok w0 c) ?_
        obtain ⟨c', ns, ds, Ca, da, fs, e, hm, hC, hdd, nda, hx, hn, rl⟩ := r
        subst e
        rw [frzD] at q
        obtain ⟨ys, e1, e2⟩ := Option.map_eq_some_iff.mp q
        exact ⟨c', ns, ys, Ca, da, fs, e2.symm, hm, hC, hdd, b.sub da nda, hx, hn, frzL_rep (fun n d' a => b.frz 6 n d' a) b.sub ds ys _ e1 rl⟩
    · rw [if_neg c] at h; exact h.elim
end
def spOf (K : PySem.W.Frag) (mg : Str → Option Value) (n : Nat) (g : SemL) : Sp := fun vs H Q E => ∃ ρ S ds, ds.length = n ∧ WOk K mg ρ H S ∧ RepL K mg ρ H ds vs ∧ PostE K mg E ρ H Q (g ds S)
section
variable {P : Program} {w : World} {K : PySem.W.Frag} {mg : Str → Option Value} {base : Heap}
theorem rst_start {ρ : List Addr} {H : Hp} {N : List Str} {ds : List D} {vs : List V} (r : RepL K mg ρ H ds vs) : RSt K mg ρ H (L2.start N vs) (ds.map some ++ List.replicate (N.length - ds.length) none) := by
  have hl := r.len
  refine ⟨by unfold L2.start; simp [hl], fun i d e => ?_⟩
  have hi : i < ds.length := by
    by_cases hi : i < ds.length
    · exact hi
    · rw [List.getElem?_append_right (by simpa using hi), List.getElem?_replicate] at e
      split at e <;> cases e
  rw [List.getElem?_append_left (by simpa using hi), List.getElem?_map] at e
  cases q : ds[i]? with
  | none => rw [q] at e; cases e
  | some d' =>
    rw [q] at e; cases e
    obtain ⟨v, e1, rv⟩ := r.get q
    refine ⟨v, ?_, rv⟩
    unfold L2.start
    rw [List.getElem?_append_left (by simpa [← hl] using hi), List.getElem?_map, e1]; rfl
end
section
variable {X : Cx} {W : WX} {k n : Nat} {f C : Addr} {fd : FuncData} {ps : List Str} {g : SemL} {x m : Str} {p pos apos : Pos} {e o : Expr} {es : List Expr} {fa : AX} {fe : EX} {dvs : List V} {dfs : List Value} {dds : List D}
theorem flds_rep {K : PySem.W.Frag} {mg : Str → Option Value} {ρ : List Addr} {H : Hp} {S : Store} {d : D} {v : V} {c : Str} {ns : List Str} {vs : List D} (w : WOk K mg ρ H S) (r : Rep K mg ρ H d v) (h : fldsOf S d = some (c, ns, vs)) :
    ∃ a C dx fs, v = .ref a ∧ mg c = some (.ref C) ∧ H a = some (.ins C dx fs) ∧ fs.map (·.1) = ns ∧ RepL K mg ρ H vs (fs.map (·.2)) := by
  cases d with
  | ins c' ns' vs' =>
    unfold fldsOf at h
    cases h
    rw [Rep] at r
    obtain ⟨a, C, dx, fs, e, _, hm, ha, hn, rl⟩ := r
    exact ⟨a, C, dx, fs, e, hm, ha, hn, rl⟩
  | ptr n =>
    unfold fldsOf at h
    rw [Rep] at r
    obtain ⟨a, e, q⟩ := r
    simp only at h
    split at h
    · rename_i c' ns' vs' em
      cases h
      obtain ⟨C, dx, fs, hm, ha, hn, rl⟩ := w.ob n a _ q em
      exact ⟨a, C, dx, fs, e, hm, ha, hn, rl⟩
    · cases h
  | _ => unfold fldsOf at h; cases h
theorem lookN_rep {K : PySem.W.Frag} {mg : Str → Option Value} {ρ : List Addr} {H : Hp} {f : Str} {d : D} : ∀ {fs : List (Str × V)} {ns : List Str} {vs : List D}, fs.map (·.1) = ns → RepL K mg ρ H vs (fs.map (·.2)) → lookN f ns vs = some d → ∃ v, fs.lookup f = some v ∧ Rep K mg ρ H d v
  | [], _, _, e, _, h => by simp at e; subst e; simp [lookN] at h
  | (n, v) :: fs, _, [], e, r, h => by simp only [List.map_cons] at e; subst e; simp [lookN] at h
  | (n, v) :: fs, _, d0 :: vs, e, r, h => by
    simp only [List.map_cons] at e r
    subst e
    rw [RepL] at r
    obtain ⟨v', r', e', r1, r2⟩ := r
    cases e'
    unfold lookN at h
    by_cases q : f = n
    · rw [if_pos q] at h
      cases h
      subst q
      exact ⟨v, by simp [List.lookup], r1⟩
    · rw [if_neg q] at h
      obtain ⟨u, h1, h2⟩ := lookN_rep rfl r2 h
      refine ⟨u, ?_, h2⟩
      rw [List.lookup_cons, beq_eq_false_iff_ne.mpr q]
      exact h1
theorem lookN_none : ∀ {f : Str} {fs : List (Str × V)} {ns : List Str}, fs.map (·.1) = ns → f ∉ ns → fs.lookup f = none
  | f, [], _, e, h => rfl
  | f, (n, v) :: fs, _, e, h => by
    simp only [List.map_cons] at e
    subst e
    rw [List.lookup_cons, beq_eq_false_iff_ne.mpr (fun q => h (by rw [q]; exact List.mem_cons_self))]
    exact lookN_none rfl fun q => h (List.mem_cons_of_mem _ q)
end
end Z
namespace Z
open PySem PySem.Spec L2
section
variable {K : PySem.W.Frag} {mg : Str → Option Value} {ρ : List Addr} {H : Hp} {S : Store}
theorem rep_int {i : Int} {v : V} (h : Rep K mg ρ H (.int i) v) : v = .int i := by rw [Rep] at h; exact h
theorem rep_bl {i : Bool} {v : V} (h : Rep K mg ρ H (.bl i) v) : v = .bl i := by rw [Rep] at h; exact h
theorem rep_str {i : Str} {v : V} (h : Rep K mg ρ H (.str i) v) : v = .str i := by rw [Rep] at h; exact h
theorem rep_non {v : V} (h : Rep K mg ρ H .non v) : v = .non := by rw [Rep] at h; exact h
theorem rep_ty {n : String} {v : V} (h : Rep K mg ρ H (.ty n) v) : v = .ty n := by rw [Rep] at h; exact h
theorem mk_int {i : Int} : Rep K mg ρ H (.int i) (.int i) := by rw [Rep]
theorem mk_bl {i : Bool} : Rep K mg ρ H (.bl i) (.bl i) := by rw [Rep]
theorem mk_str {i : Str} : Rep K mg ρ H (.str i) (.str i) := by rw [Rep]
theorem asL_rep {d : D} {v : V} {ds : List D} (w : WOk K mg ρ H S) (r : Rep K mg ρ H d v) (h : asL S d = some ds) : ∃ a vs, v = .ref a ∧ H a = some (.lst vs) ∧ RepL K mg ρ H ds vs := by
  cases d with
  | lst xs =>
    unfold asL at h
    cases h
    rw [Rep] at r
    obtain ⟨a, vs, e, t, r⟩ := r
    exact ⟨a, vs, e, t.2, r⟩
  | ptr n =>
    unfold asL at h
    simp only at h
    rw [Rep] at r
    obtain ⟨a, e, q⟩ := r
    split at h
    · rename_i xs em
      cases h
      obtain ⟨vs, h1, h2⟩ := w.ob n a _ q em
      exact ⟨a, vs, e, h1, h2⟩
    · cases h
  | _ => unfold asL at h; cases h
theorem repL_ints : ∀ xs : List Int, RepL K mg ρ H (xs.map .int) (xs.map V.int)
  | [] => RepL.nil
  | x :: xs => RepL.cons mk_int (repL_ints xs)
theorem asS_rep {d : D} {v : V} {ds : List D} (w : WOk K mg ρ H S) (r : Rep K mg ρ H d v) (h : asS S d = some ds) : ∃ a vs, v = .ref a ∧ (SqL K H a vs ∨ SqT K H a vs) ∧ RepL K mg ρ H ds vs := by
  cases d with
  | tup xs =>
    unfold asS at h
    cases h
    rw [Rep] at r
    obtain ⟨a, vs, e, t, r⟩ := r
    exact ⟨a, vs, e, .inr t.sq, r⟩
  | scr xs =>
    unfold asS at h
    cases h
    rw [Rep] at r
    obtain ⟨a, e, t⟩ := r
    exact ⟨a, _, e, .inl t.sq, repL_ints xs⟩
  | lst xs =>
    obtain ⟨a, vs, e, h1, h2⟩ := asL_rep w r (show asL S (.lst xs) = some ds from h)
    exact ⟨a, vs, e, .inl (.inl (.inl h1)), h2⟩
  | ptr n =>
    obtain ⟨a, vs, e, h1, h2⟩ := asL_rep w r (show asL S (.ptr n) = some ds from h)
    exact ⟨a, vs, e, .inl (.inl (.inl h1)), h2⟩
  | tpx xs =>
    unfold asS at h
    cases h
    rw [Rep] at r
    obtain ⟨a, vs, e, t, r⟩ := r
    exact ⟨a, vs, e, .inr t.sq, r⟩
  | _ => unfold asS asL at h; cases h
end
section
variable {X : Cx}
theorem d_ii {f : Value → Value → Sem Value} {gd : Int → Int → D} {g : Int → Int → V} (o : OpR X f (rI0 g)) (hg : ∀ i j ρ H, Rep X.K X.mg ρ H (gd i j) (g i j)) : OpD X f (iiS gd) := by
  refine ⟨_, o, fun Wp ρ H S d e x y Q w rx ry p => ?_⟩
  unfold iiS at p
  split at p
  · exact ⟨_, _, rep_int rx, rep_int ry, post_ok p w (hg _ _ ρ H)⟩
  · exact p.elim
theorem d_iiC {f : Value → Value → Sem Value} {C : Int → Int → Prop} {Cb : Int → Int → Bool} {gd : Int → Int → D} {g : Int → Int → V} (o : OpR X f (rI C g)) (hC : ∀ i j, Cb i j = true → C i j) (hg : ∀ i j ρ H, Rep X.K X.mg ρ H (gd i j) (g i j)) : OpD X f (iiC Cb gd) := by
  refine ⟨_, o, fun Wp ρ H S d e x y Q w rx ry p => ?_⟩
  unfold iiC at p
  split at p
  · split at p
    · rename_i hc
      exact ⟨_, _, rep_int rx, rep_int ry, hC _ _ hc, post_ok p w (hg _ _ ρ H)⟩
    · exact p.elim
  · exact p.elim
def divB (_ j : Int) : Bool := decide (0 < j ∧ j.natAbs.log2 < 9000)
def divI : Sem2 := iiC divB fun i j => .int (i / j)
def modI : Sem2 := iiC (fun _ j => decide (0 < j)) fun i j => .int (i % j)
def powI : Sem2 := iiC (fun i j => decide (0 ≤ j ∧ j ≤ 1000 ∧ i.natAbs < 2 ^ 60)) fun i j => .int (i ^ j.toNat)
theorem d_addI : OpD X (binaryOp .Add) addI := d_ii op_add fun _ _ _ _ => mk_int
theorem d_subI : OpD X (binaryOp .Sub) subI := d_ii op_sub fun _ _ _ _ => mk_int
theorem d_mulI : OpD X (binaryOp .Mult) mulI := d_iiC op_mulW (fun i j h => of_decide_eq_true (p := i.natAbs.log2 + j.natAbs.log2 < 1000000) h) fun _ _ _ _ => mk_int
theorem d_divI : OpD X (binaryOp .FloorDiv) divI := d_iiC op_fdivW (fun i j h => of_decide_eq_true (p := 0 < j ∧ j.natAbs.log2 < 9000) h) fun _ _ _ _ => mk_int
theorem d_modI : OpD X (binaryOp .Mod) modI := d_iiC op_mod (fun i j h => of_decide_eq_true h) fun _ _ _ _ => mk_int
theorem d_powI : OpD X (binaryOp .Pow) powI := d_iiC op_pow (fun i j h => by
  have h := of_decide_eq_true h
  have h1 : (2 : Nat) ^ 60 < 2 ^ 64 := by decide
  exact ⟨h.1, by omega, by omega⟩) fun _ _ _ _ => mk_int
theorem d_ltI : OpD X (compareOp .Lt) ltI := d_ii op_lt fun _ _ _ _ => mk_bl
theorem d_leI : OpD X (compareOp .LtE) leI := d_ii op_le fun _ _ _ _ => mk_bl
theorem d_gtI : OpD X (compareOp .Gt) gtI := d_ii op_gt fun _ _ _ _ => mk_bl
theorem d_geI : OpD X (compareOp .GtE) geI := d_ii op_ge fun _ _ _ _ => mk_bl
theorem d_negI : UnD X (unaryOp .USub) negI := by
  refine ⟨_, un_neg, fun Wp ρ H S d x Q w rx p => ?_⟩
  cases d with
  | int i => exact ⟨i, rep_int rx, post_ok p w mk_int⟩
  | _ => exact p.elim
theorem d_addS : OpD X (binaryOp .Add) addS := by
  refine ⟨_, op_add_str, fun Wp ρ H S d e x y Q w rx ry p => ?_⟩
  unfold addS at p
  split at p
  · split at p
    · rename_i hl
      exact ⟨_, _, rep_str rx, rep_str ry, line_of hl, post_ok p w mk_str⟩
    · exact p.elim
  · exact p.elim
theorem d_ltS : OpD X (compareOp .Lt) ltS := by
  refine ⟨_, op_lt_str, fun Wp ρ H S d e x y Q w rx ry p => ?_⟩
  unfold ltS at p
  split at p
  · exact ⟨_, _, rep_str rx, rep_str ry, post_ok p w mk_bl⟩
  · exact p.elim
theorem str_of_toList {i : Str} {c : Nat} (h : i.cps.toList = [c]) : i = ⟨#[c]⟩ := by
  obtain ⟨a⟩ := i
  have : a = #[c] := by
    have := congrArg List.toArray h
    simpa using this
  rw [this]
theorem d_inSg : OpD X (compareOp .In) (inSg false) := by
  refine ⟨_, op_in_sign, fun Wp ρ H S d e x y Q w rx ry p => ?_⟩
  unfold inSg at p
  split at p
  · split at p
    · rename_i c hc
      have hs := str_of_toList hc
      refine ⟨c, _, ?_, rep_str ry, post_ok p w mk_bl⟩
      rw [rep_str rx, hs]
    · exact p.elim
  · exact p.elim
mutual
theorem toP0_rep {K : PySem.W.Frag} {mg : Str → Option Value} {ρ : List Addr} {H : Hp} : ∀ (d : D) (v : V) (p : PyData), Rep K mg ρ H d v → toP0 d = some p → Dp K H v p
  | .non, v, p, r, h => by rw [toP0] at h; cases h; rw [rep_non r]; exact .non
  | .bl b, v, p, r, h => by rw [toP0] at h; cases h; rw [rep_bl r]; exact .bl b
  | .int b, v, p, r, h => by rw [toP0] at h; cases h; rw [rep_int r]; exact .int b
  | .str b, v, p, r, h => by rw [toP0] at h; cases h; rw [rep_str r]; exact .str b
  | .lst xs, v, p, r, h => by
    rw [toP0] at h
    obtain ⟨ys, e1, e2⟩ := Option.map_eq_some_iff.mp h
    subst e2
    rw [Rep] at r
    obtain ⟨a, vs, e, t, r⟩ := r
    subst e
    exact .lst t.sq (toPL0_rep xs vs ys r e1)
  | .tup xs, v, p, r, h => by
    rw [toP0] at h
    obtain ⟨ys, e1, e2⟩ := Option.map_eq_some_iff.mp h
    subst e2
    rw [Rep] at r
    obtain ⟨a, vs, e, t, r⟩ := r
    subst e
    exact .tup t.sq (toPL0_rep xs vs ys r e1)
  | .tpx xs, v, p, r, h => by
    rw [toP0] at h
    obtain ⟨ys, e1, e2⟩ := Option.map_eq_some_iff.mp h
    subst e2
    rw [Rep] at r
    obtain ⟨a, vs, e, t, r⟩ := r
    subst e
    exact .tup t.sq (toPL0_rep xs vs ys r e1)
  | .ty _, v, p, r, h => by rw [toP0] at h; all_goals (first | cases h | (intros; rintro ⟨⟩))
  | .cls _, v, p, r, h => by rw [toP0] at h; all_goals (first | cases h | (intros; rintro ⟨⟩))
  | .dct _ _, v, p, r, h => by rw [toP0] at h; all_goals (first | cases h | (intros; rintro ⟨⟩))
  | .ins _ _ _, v, p, r, h => by rw [toP0] at h; all_goals (first | cases h | (intros; rintro ⟨⟩))
  | .ptr _, v, p, r, h => by rw [toP0] at h; all_goals (first | cases h | (intros; rintro ⟨⟩))
  | .scr _, v, p, r, h => by rw [toP0] at h; all_goals (first | cases h | (intros; rintro ⟨⟩))
  | .exc _ _ _, v, p, r, h => by rw [toP0] at h; all_goals (first | cases h | (intros; rintro ⟨⟩))
  | .lam _ _, v, p, r, h => by rw [toP0] at h; all_goals (first | cases h | (intros; rintro ⟨⟩))
  | .lamc _ _, v, p, r, h => by rw [toP0] at h; all_goals (first | cases h | (intros; rintro ⟨⟩))
theorem toPL0_rep {K : PySem.W.Frag} {mg : Str → Option Value} {ρ : List Addr} {H : Hp} : ∀ (ds : List D) (vs : List V) (ps : List PyData), RepL K mg ρ H ds vs → toPL0 ds = some ps → DpAll K H vs ps
  | [], vs, ps, r, h => by rw [toPL0] at h; cases h; rw [RepL] at r; subst r; exact .nil
  | d :: ds, vs, ps, r, h => by
    rw [toPL0] at h
    split at h
    · rename_i a b ea eb
      cases h
      rw [RepL] at r
      obtain ⟨v, r', e, h1, h2⟩ := r
      subst e
      exact .cons (toP0_rep d v a h1 ea) (toPL0_rep ds r' b h2 eb)
    · cases h
end
theorem toP_rep {K : PySem.W.Frag} {mg : Str → Option Value} {ρ : List Addr} {H : Hp} {S : Store} {d : D} {v : V} {p : PyData} (w : WOk K mg ρ H S) (r : Rep K mg ρ H d v) (h : toP S d = some p) : Dp K H v p := by
  cases d with
  | ptr n =>
    unfold toP at h
    simp only at h
    split at h
    · rename_i ds em
      obtain ⟨ys, e1, e2⟩ := Option.map_eq_some_iff.mp h
      subst e2
      rw [Rep] at r
      obtain ⟨a, e, q⟩ := r
      subst e
      obtain ⟨vs, h1, h2⟩ := w.ob n a _ q em
      exact .lst (.inl (.inl h1)) (toPL0_rep ds vs ys h2 e1)
    · cases h
  | _ => exact toP0_rep _ v p r h
theorem d_eq (hu : X.A.units + 64 < cLine) : OpD X (compareOp .Eq) (eqD false) := by
  refine ⟨_, op_eqD hu, fun Wp ρ H S d e x y Q w rx ry p => ?_⟩
  unfold eqD at p
  split at p
  · rename_i a b ea eb
    split at p
    · rename_i hs
      exact ⟨a, b, toP_rep w rx ea, toP_rep w ry eb, hs.1, hs.2, post_ok p w mk_bl⟩
    · exact p.elim
  · exact p.elim
theorem d_ne (hu : X.A.units + 64 < cLine) : OpD X (compareOp .NotEq) (eqD true) := by
  refine ⟨_, op_neD hu, fun Wp ρ H S d e x y Q w rx ry p => ?_⟩
  unfold eqD at p
  split at p
  · rename_i a b ea eb
    split at p
    · rename_i hs
      exact ⟨a, b, toP_rep w rx ea, toP_rep w ry eb, hs.1, hs.2, post_ok p w mk_bl⟩
    · exact p.elim
  · exact p.elim
theorem isN_val {K : PySem.W.Frag} {mg : Str → Option Value} {ρ : List Addr} {H : Hp} {d : D} {x : V} (r : Rep K mg ρ H d x) : decide (x = V.non) = isNon d := by
  cases d with
  | non => rw [rep_non r]; rfl
  | bl b => rw [rep_bl r]; rfl
  | int b => rw [rep_int r]; rfl
  | str b => rw [rep_str r]; rfl
  | ty b => rw [rep_ty r]; rfl
  | cls c => rw [Rep] at r; obtain ⟨C, _, e⟩ := r; rw [e]; rfl
  | tup xs => rw [Rep] at r; obtain ⟨a, vs, e, _⟩ := r; rw [e]; rfl
  | lst xs => rw [Rep] at r; obtain ⟨a, vs, e, _⟩ := r; rw [e]; rfl
  | tpx xs => rw [Rep] at r; obtain ⟨a, vs, e, _⟩ := r; rw [e]; rfl
  | dct ks vs => rw [Rep] at r; obtain ⟨a, _, _, e, _⟩ := r; rw [e]; rfl
  | ins c ns vs => rw [Rep] at r; obtain ⟨a, _, _, _, e, _⟩ := r; rw [e]; rfl
  | ptr n => rw [Rep] at r; obtain ⟨a, e, _⟩ := r; rw [e]; rfl
  | scr xs => rw [Rep] at r; obtain ⟨a, e, _⟩ := r; rw [e]; rfl
  | exc c ns vs => rw [Rep] at r; obtain ⟨a, _, _, _, e, _⟩ := r; rw [e]; rfl
  | lam T c => rw [Rep] at r; obtain ⟨a, e, _⟩ := r; rw [e]; rfl
  | lamc T c => rw [Rep] at r; obtain ⟨a, _, _, e, _⟩ := r; rw [e]; rfl
theorem d_isN : OpD X (compareOp .Is) (isN false) := by
  refine ⟨_, op_isN, fun Wp ρ H S d e x y Q w rx ry p => ?_⟩
  unfold isN at p
  split at p
  · refine ⟨rep_non ry, ?_⟩
    rw [isN_val rx]
    exact post_ok p w mk_bl
  · exact p.elim
theorem d_addL : OpD X (binaryOp .Add) addL := by
  refine ⟨_, op_cat, fun Wp ρ H S d e x y Q w rx ry p => ?_⟩
  unfold addL at p
  split at p
  · rename_i a b ea eb
    split at p
    · rename_i hl
      obtain ⟨l, vs, e1, h1, r1⟩ := asL_rep w rx ea
      obtain ⟨l2, vs2, e2, h2, r2⟩ := asL_rep w ry eb
      exact ⟨l, l2, vs, vs2, e1, e2, h1, h2, by rw [← r1.len, ← r2.len]; exact line_of hl, fun q hq => post_lst p w (r1.append r2) hq⟩
    · exact p.elim
  · exact p.elim
theorem d_addT : OpD X (binaryOp .Add) addT := by
  refine ⟨_, op_catT, fun Wp ρ H S d e x y Q w rx ry p => ?_⟩
  unfold addT at p
  split at p
  · rename_i a b
    split at p
    · rename_i hl
      rw [Rep] at rx ry
      obtain ⟨l, vs, e1, h1, r1⟩ := rx
      obtain ⟨l2, vs2, e2, h2, r2⟩ := ry
      have n1 : vs ≠ [] := fun q => hl.1 (List.length_eq_zero_iff.mp (by rw [r1.len, q]; rfl))
      have n2 : vs2 ≠ [] := fun q => hl.2.1 (List.length_eq_zero_iff.mp (by rw [r2.len, q]; rfl))
      exact ⟨l, l2, vs, vs2, e1, e2, h1.sq, h2.sq, n1, by rw [← r1.len, ← r2.len]; exact line_of hl.2.2, fun q => absurd q n2, fun _ q hq => post_tup p w (r1.append r2) hq⟩
    · exact p.elim
  · exact p.elim
theorem RepL.rep {K : PySem.W.Frag} {mg : Str → Option Value} {ρ : List Addr} {H : Hp} {ds : List D} {vs : List V} (r : RepL K mg ρ H ds vs) : ∀ k : Nat, RepL K mg ρ H (repD k ds) (List.replicate k vs).flatten
  | 0 => RepL.nil
  | k + 1 => by
    show RepL K mg ρ H (List.replicate (k + 1) ds).flatten _
    rw [List.replicate_succ, List.replicate_succ, List.flatten_cons, List.flatten_cons]
    exact r.append (RepL.rep r k)
theorem d_mulL : OpD X (binaryOp .Mult) mulL := by
  refine ⟨_, op_rep, fun Wp ρ H S d e x y Q w rx ry p => ?_⟩
  unfold mulL at p
  split at p
  · rename_i a k ea
    split at p
    · rename_i hl
      obtain ⟨l, vs, e1, h1, r1⟩ := asL_rep w rx ea
      exact ⟨l, k, vs, e1, rep_int ry, h1, by omega, by omega, by rw [← r1.len]; exact line_of hl.2.1, fun q hq => post_lst p w (r1.rep k.toNat) hq⟩
    · exact p.elim
  · exact p.elim
end
end Z
namespace Z
open PySem PySem.Spec L2
section
variable {X : Cx}
theorem flat_rep {K : PySem.W.Frag} {mg : Str → Option Value} {ρ : List Addr} {H : Hp} {d : D} {v : V} (f : flatD d = true) (r : Rep K mg ρ H d v) : flatV v = true := by
  cases d with
  | non => rw [rep_non r]; rfl
  | bl b => rw [rep_bl r]; rfl
  | int b => rw [rep_int r]; rfl
  | str b => rw [rep_str r]; rfl
  | _ => cases f
theorem eqF_rep {K : PySem.W.Frag} {mg : Str → Option Value} {ρ : List Addr} {H : Hp} {d e : D} {v u : V} (f : flatD d = true) (g : flatD e = true) (r : Rep K mg ρ H d v) (q : Rep K mg ρ H e u) : eqV v u = eqF d e := by
  cases d with
  | non => rw [rep_non r]; cases e with
    | non => rw [rep_non q]; rfl
    | bl b => rw [rep_bl q]; rfl
    | int b => rw [rep_int q]; rfl
    | str b => rw [rep_str q]; rfl
    | _ => cases g
  | bl b => rw [rep_bl r]; cases e with
    | non => rw [rep_non q]; rfl
    | bl b => rw [rep_bl q]; rfl
    | int b => rw [rep_int q]; rfl
    | str b => rw [rep_str q]; rfl
    | _ => cases g
  | int b => rw [rep_int r]; cases e with
    | non => rw [rep_non q]; rfl
    | bl b => rw [rep_bl q]; rfl
    | int b => rw [rep_int q]; rfl
    | str b => rw [rep_str q]; rfl
    | _ => cases g
  | str b => rw [rep_str r]; cases e with
    | non => rw [rep_non q]; rfl
    | bl b => rw [rep_bl q]; rfl
    | int b => rw [rep_int q]; rfl
    | str b => rw [rep_str q]; rfl
    | _ => cases g
  | _ => cases f
theorem in_rep {K : PySem.W.Frag} {mg : Str → Option Value} {ρ : List Addr} {H : Hp} {x : D} {v : V} (f : flatD x = true) (r : Rep K mg ρ H x v) : ∀ {ds : List D} {vs : List V}, RepL K mg ρ H ds vs → ds.all flatD = true → vs.all flatV = true ∧ inV v vs = inD x ds
  | [], _, h, _ => by rw [RepL] at h; subst h; exact ⟨rfl, rfl⟩
  | d :: ds, _, h, a => by
    rw [RepL] at h
    obtain ⟨u, r', e, h1, h2⟩ := h
    subst e
    rw [List.all_cons, Bool.and_eq_true] at a
    obtain ⟨i1, i2⟩ := in_rep f r h2 a.2
    refine ⟨by rw [List.all_cons, flat_rep a.1 h1, i1]; rfl, ?_⟩
    show (eqV u v || inV v r') = (eqF d x || inD x ds)
    rw [i2, eqF_rep a.1 f h1 r]
theorem d_inSq : OpD X (compareOp .In) (inSq false) := by
  refine ⟨_, op_in_seq, fun Wp ρ H S d e x y Q w rx ry p => ?_⟩
  unfold inSq at p
  split at p
  · rename_i ds ea
    split at p
    · rename_i hf
      obtain ⟨a, vs, e1, h1, r1⟩ := asS_rep w ry ea
      obtain ⟨i1, i2⟩ := in_rep hf.1 rx r1 hf.2
      refine ⟨a, vs, e1, h1, flat_rep hf.1 rx, i1, ?_⟩
      rw [i2]
      exact post_ok p w mk_bl
    · exact p.elim
  · exact p.elim
theorem d_len : CallD X (.builtin "len") semLen := by
  refine ⟨_, call_len, fun Wp ρ H S ds xs Q w r p => ?_⟩
  match ds, r, p with
  | [d], r, p =>
    rw [RepL] at r
    obtain ⟨v, r', e, h1, h2⟩ := r
    rw [RepL] at h2
    subst h2 e
    have go : ∀ ys, asS S d = some ys → PostE X.K X.mg Wp ρ H Q (.ok (.int ys.length) S) → ∃ x n, [v] = [x] ∧ LenV X.K x H n ∧ Q (.int n) H := fun ys ea p => by
      obtain ⟨a, vs, e1, h3, r1⟩ := asS_rep w h1 ea
      subst e1
      refine ⟨_, vs.length, rfl, ?_, by rw [← r1.len]; exact post_ok p w mk_int⟩
      rcases h3 with h3 | h3
      · exact .inl ⟨vs, h3, rfl⟩
      · exact .inr ⟨vs, h3, rfl⟩
    cases d with
    | str s =>
      unfold semLen at p
      simp only at p
      split at p
      · rename_i hl
        exact ⟨.str s, s.length, by rw [rep_str h1], ⟨line_of hl, rfl⟩, post_ok p w mk_int⟩
      · exact p.elim
    | tup xs => exact go xs rfl p
    | tpx xs => exact go xs rfl p
    | lst xs => exact go xs rfl p
    | scr xs => exact go _ rfl p
    | ptr n =>
      have p : PostE X.K X.mg Wp ρ H Q (match asS S (.ptr n) with
        | some xs => .ok (.int xs.length) S
        | none => .bad) := p
      split at p
      · rename_i ys ey
        exact go ys ey p
      · exact p.elim
    | _ => exact p.elim
  | [], _, p => exact p.elim
  | d :: _ :: _, _, p => cases d <;> exact p.elim
theorem isKd_kit {K : PySem.W.Frag} {k : Kd} {T : String} {b : Bool} (h : isKd k T = some b) : PySem.W.kitOne K (.type k.name) (.type T) = some b := by
  unfold isKd at h
  split at h
  · rename_i e; subst e; cases h; cases k <;> exact kit_ty (by decide +kernel)
  split at h
  · rename_i e; subst e; cases h; cases k <;> exact kit_ty (by decide +kernel)
  split at h
  · rename_i e; subst e; cases h; cases k <;> exact kit_ty (by decide +kernel)
  split at h
  · rename_i e; subst e; cases h; cases k <;> exact kit_ty (by decide +kernel)
  split at h
  · rename_i e; subst e; cases h; cases k <;> exact kit_ty (by decide +kernel)
  split at h
  · rename_i e; subst e; cases h; cases k <;> exact kit_ty (by decide +kernel)
  · cases h
theorem kd_rep {K : PySem.W.Frag} {mg : Str → Option Value} {ρ : List Addr} {H : Hp} {S : Store} {d : D} {v : V} {k : Kd} (w : WOk K mg ρ H S) (r : Rep K mg ρ H d v) (h : kdOf S d = some k) : TyX K H v (.type k.name) := by
  cases d with
  | non => cases h; rw [rep_non r]; exact .base .non
  | bl b => cases h; rw [rep_bl r]; exact .base (.bl b)
  | int b => cases h; rw [rep_int r]; exact .base (.int b)
  | str b => cases h; rw [rep_str r]; exact .base (.str b)
  | tup xs =>
    cases h
    rw [Rep] at r
    obtain ⟨a, vs, e, t, _⟩ := r
    subst e
    rcases t with ⟨_, t⟩ | ⟨o, its, n, hk, hc, _⟩
    · exact .base (.tup t)
    · exact .kTuple hk hc
  | tpx xs =>
    cases h
    rw [Rep] at r
    obtain ⟨a, vs, e, t, _⟩ := r
    subst e
    obtain ⟨_, o, _, t⟩ := t
    exact .fTuple t
  | lst xs =>
    cases h
    rw [Rep] at r
    obtain ⟨a, vs, e, t, _⟩ := r
    subst e
    exact .base (.lst t.2)
  | scr xs =>
    cases h
    rw [Rep] at r
    obtain ⟨a, e, t⟩ := r
    subst e
    rcases t with ⟨_, t | ⟨o, t⟩⟩ | ⟨o, its, n, hk, hc, _⟩
    · exact .base (.lst t)
    · exact .base (.frz t)
    · exact .kList hk hc
  | dct ks vs =>
    cases h
    rw [Rep] at r
    obtain ⟨a, kv, vs, e, ⟨_, kvs, t, _⟩, _⟩ := r
    subst e
    rcases t with t | ⟨o, t⟩
    · exact .base (.dK t)
    · exact .fDict t
  | ptr n =>
    rw [Rep] at r
    obtain ⟨a, e, q⟩ := r
    subst e
    unfold kdOf at h
    simp only at h
    split at h
    · rename_i xs em
      cases h
      obtain ⟨vs, h1, _⟩ := w.ob n a _ q em
      exact .base (.lst h1)
    · rename_i lk ks vs em
      cases h
      obtain ⟨kvs, h1, _⟩ := w.ob n a _ q em
      cases lk with
      | true =>
        rw [if_pos rfl] at h1
        rcases h1 with t | ⟨o, t⟩
        · exact .base (.dK t)
        · exact .fDict t
      | false =>
        rw [if_neg Bool.false_ne_true] at h1
        exact .base (.dK h1)
    · cases h
  | _ => unfold kdOf at h; cases h
theorem d_isi : CallD X (.builtin "isinstance") semIsi := by
  refine ⟨_, call_isi, fun Wp ρ H S ds xs Q w r p => ?_⟩
  unfold semIsi at p
  split at p
  · rename_i d T
    split at p
    · rename_i k ek
      split at p
      · rename_i b eb
        rw [RepL] at r
        obtain ⟨v, r', e, h1, h2⟩ := r
        rw [RepL] at h2
        obtain ⟨u, r2, e2, h3, h4⟩ := h2
        rw [RepL] at h4
        subst h4 e2 e
        rw [rep_ty h3]
        exact ⟨v, .ty T, _, .type T, b, rfl, .ty T, kd_rep w h1 ek, isKd_kit eb, post_ok p w mk_bl⟩
      · exact p.elim
    · exact p.elim
  · exact p.elim
theorem tys_rep {K : PySem.W.Frag} {mg : Str → Option Value} {ρ : List Addr} {H : Hp} : ∀ {ts : List D} {Ts : List String} {vs : List V}, tysOf ts = some Ts → RepL K mg ρ H ts vs → Paired ClsV vs (Ts.map Value.type)
  | [], _, _, e, r => by cases e; rw [RepL] at r; subst r; exact .nil
  | .ty T :: ts, _, _, e, r => by
    rw [tysOf] at e
    obtain ⟨ys, e1, e2⟩ := Option.map_eq_some_iff.mp e
    subst e2
    rw [RepL] at r
    obtain ⟨v, r', e', h1, h2⟩ := r
    subst e'
    rw [rep_ty h1]
    exact .cons (.ty T) (tys_rep e1 h2)
  | .non :: _, _, _, e, _ => by cases e
  | .bl _ :: _, _, _, e, _ => by cases e
  | .int _ :: _, _, _, e, _ => by cases e
  | .str _ :: _, _, _, e, _ => by cases e
  | .cls _ :: _, _, _, e, _ => by cases e
  | .tup _ :: _, _, _, e, _ => by cases e
  | .tpx _ :: _, _, _, e, _ => by cases e
  | .lst _ :: _, _, _, e, _ => by cases e
  | .dct _ _ :: _, _, _, e, _ => by cases e
  | .ins _ _ _ :: _, _, _, e, _ => by cases e
  | .ptr _ :: _, _, _, e, _ => by cases e
  | .scr _ :: _, _, _, e, _ => by cases e
  | .exc _ _ _ :: _, _, _, e, _ => by cases e
  | .lam _ _ :: _, _, _, e, _ => by cases e
  | .lamc _ _ :: _, _, _, e, _ => by cases e
theorem isKds_kit {K : PySem.W.Frag} {k : Kd} : ∀ {Ts : List String} {b : Bool}, isKds k Ts = some b → PySem.W.kitAny K (.type k.name) (Ts.map Value.type) = some b
  | [], b, h => by cases h; exact kitAny_nil
  | T :: Ts, b, h => by
    rw [isKds] at h
    split at h
    · rename_i x y ex ey
      cases h
      refine kitAny_cons (isKd_kit ex) (fun q => ?_) (fun q => by rw [q]; rfl)
      rw [q, Bool.false_or]
      exact isKds_kit ey
    · cases h
theorem d_isiT : CallD X (.builtin "isinstance") semIsiT := by
  refine ⟨_, CallR.or call_isiT call_isiK, fun Wp ρ H S ds xs Q w r p => ?_⟩
  unfold semIsiT at p
  split at p
  · rename_i d ts
    split at p
    · rename_i k Ts ek et
      split at p
      · rename_i b eb
        rw [RepL] at r
        obtain ⟨v, r', e, h1, h2⟩ := r
        rw [RepL] at h2
        obtain ⟨u, r2, e2, h3, h4⟩ := h2
        rw [RepL] at h4
        subst h4 e2 e
        rw [Rep] at h3
        obtain ⟨a, vs, e3, t, rl⟩ := h3
        subst e3
        rcases t with ⟨_, t⟩ | ⟨o, its, n, hk, hc, hd, hz, hv⟩
        · exact .inl ⟨v, a, vs, _, _, b, rfl, t, tys_rep et rl, kd_rep w h1 ek, isKds_kit eb, post_ok p w mk_bl⟩
        · refine .inr ⟨v, a, o.dict, Ts.map Value.type, n, o.slots, _, b, rfl, ?_, kd_rep w h1 ek, isKds_kit eb, post_ok p w mk_bl⟩
          have e4 := ClsV.all (tys_rep et rl) hv
          rw [hk, ← e4]
          obtain ⟨c, dd, dt, sl⟩ := o
          simp only at hc hd
          subst hc hd
          simp
      · exact p.elim
    · exact p.elim
  · exact p.elim
theorem bools_eq : ∀ {ds : List D} {bs : List Bool}, boolsOf ds = some bs → ds = bs.map D.bl
  | [], _, e => by cases e; rfl
  | .bl b :: r, _, e => by
    rw [boolsOf] at e
    obtain ⟨ys, e1, e2⟩ := Option.map_eq_some_iff.mp e
    subst e2
    rw [bools_eq e1]; rfl
  | .non :: _, _, e => by cases e
  | .ty _ :: _, _, e => by cases e
  | .int _ :: _, _, e => by cases e
  | .str _ :: _, _, e => by cases e
  | .cls _ :: _, _, e => by cases e
  | .tup _ :: _, _, e => by cases e
  | .tpx _ :: _, _, e => by cases e
  | .lst _ :: _, _, e => by cases e
  | .dct _ _ :: _, _, e => by cases e
  | .ins _ _ _ :: _, _, e => by cases e
  | .ptr _ :: _, _, e => by cases e
  | .scr _ :: _, _, e => by cases e
  | .exc _ _ _ :: _, _, e => by cases e
  | .lam _ _ :: _, _, e => by cases e
  | .lamc _ _ :: _, _, e => by cases e
theorem repL_bools {K : PySem.W.Frag} {mg : Str → Option Value} {ρ : List Addr} {H : Hp} : ∀ {bs : List Bool} {vs : List V}, RepL K mg ρ H (bs.map D.bl) vs → vs = bs.map V.bl
  | [], _, r => by rw [List.map_nil, RepL] at r; exact r
  | b :: bs, _, r => by
    rw [List.map_cons, RepL] at r
    obtain ⟨v, r', e, h1, h2⟩ := r
    rw [e, rep_bl h1, repL_bools h2]; rfl
theorem d_all (hc : X.calm = true) : CallD X (.builtin "all") semAll := by
  refine ⟨_, cr_all hc, fun Wp ρ H S ds xs Q w r p => ?_⟩
  unfold semAll at p
  split at p
  · rename_i d
    split at p
    · rename_i ys ey
      split at p
      · rename_i bs eb
        rw [RepL] at r
        obtain ⟨v, r', e, h1, h2⟩ := r
        rw [RepL] at h2
        subst h2 e
        obtain ⟨a, vs, e1, h3, r1⟩ := asL_rep w h1 ey
        subst e1
        rw [bools_eq eb] at r1
        rw [repL_bools r1] at h3
        exact ⟨a, bs, rfl, .inl (.inl h3), post_ok p w mk_bl⟩
      · exact p.elim
    · exact p.elim
  · exact p.elim
theorem repL_one {K : PySem.W.Frag} {mg : Str → Option Value} {ρ : List Addr} {H : Hp} {d : D} {xs : List V} (r : RepL K mg ρ H [d] xs) : ∃ v, xs = [v] ∧ Rep K mg ρ H d v := by
  rw [RepL] at r
  obtain ⟨v, r', e, h1, h2⟩ := r
  rw [RepL] at h2
  subst h2
  exact ⟨v, e, h1⟩
theorem repL_two {K : PySem.W.Frag} {mg : Str → Option Value} {ρ : List Addr} {H : Hp} {d e : D} {xs : List V} (r : RepL K mg ρ H [d, e] xs) : ∃ v u, xs = [v, u] ∧ Rep K mg ρ H d v ∧ Rep K mg ρ H e u := by
  rw [RepL] at r
  obtain ⟨v, r', e', h1, h2⟩ := r
  obtain ⟨u, e2, h3⟩ := repL_one h2
  exact ⟨v, u, by rw [e', e2], h1, h3⟩
theorem d_listOf : CallD X (.type "list") semListOf := by
  refine ⟨_, call_list_of, fun Wp ρ H S ds xs Q w r p => ?_⟩
  unfold semListOf at p
  split at p
  · split at p
    · rename_i ys ey
      obtain ⟨v, e, h1⟩ := repL_one r
      obtain ⟨a, vs, e1, h3, r1⟩ := asS_rep w h1 ey
      exact ⟨a, vs, by rw [e, e1], h3, fun l hl => post_lst p w r1 hl⟩
    · exact p.elim
  · exact p.elim
theorem d_int : CallD X (.type "int") semInt := by
  refine ⟨_, call_int1, fun Wp ρ H S ds xs Q w r p => ?_⟩
  unfold semInt at p
  split at p
  · obtain ⟨v, e, h1⟩ := repL_one r
    rw [rep_int h1] at e
    exact .inl ⟨_, e, post_ok p w mk_int⟩
  · obtain ⟨v, e, h1⟩ := repL_one r
    rw [rep_bl h1] at e
    exact .inr ⟨_, e, post_ok p w mk_int⟩
  · exact p.elim
structure IxD (X : Cx) (sem : Sem2) : Prop where
  go : ∃ r : R2, IxR X r ∧ ∀ (Wp : Value → Option Addr → Hp → Prop) (ρ : List Addr) (H : Hp) (S : Store) (d e : D) (x y : V) (Q : VK), WOk X.K X.mg ρ H S → Rep X.K X.mg ρ H d x → Rep X.K X.mg ρ H e y → PostE X.K X.mg Wp ρ H Q (sem d e S) → r x y H Q
theorem IxD.or {s t : Sem2} (h : IxD X s) (h' : IxD X t) : IxD X (orS2 s t) := by
  obtain ⟨r, o, g⟩ := h.go
  obtain ⟨r', o', g'⟩ := h'.go
  refine ⟨_, o.or o', fun Wp ρ H S d e x y Q w rx ry p => ?_⟩
  unfold orS2 at p
  cases q : s d e S with
  | bad => rw [q] at p; exact .inr (g' Wp ρ H S d e x y Q w rx ry p)
  | ok a S' => rw [q] at p; exact .inl (g Wp ρ H S d e x y Q w rx ry (by rw [q]; exact p))
  | ex a S' => rw [q] at p; exact .inl (g Wp ρ H S d e x y Q w rx ry (by rw [q]; exact p))
variable {W : WX} {a b : Expr} {fa fb : EX} {pos : Pos}
theorem r_ix {sem : Sem2} (ho : IxD X sem) (ha : E X W a fa) (hb : E X W b fb) (hs : PlainIx b := by exact fun _ _ => rfl) : E X W (.Subscript a b pos) (eBin sem fa fb) := by
  obtain ⟨r, o, g⟩ := ho.go
  exact PE.imp (pe_ix o ha hb hs) fun σ H Q h => bin_imp h fun ρ S H2 d e x y w rx ry p => g _ ρ H2 S d e x y Q w rx ry p
theorem atI_rep {K : PySem.W.Frag} {mg : Str → Option Value} {ρ : List Addr} {H : Hp} {ds : List D} {vs : List V} {i : Int} {d : D} (r : RepL K mg ρ H ds vs) (h : atI ds i = some d) : ∃ v, atI vs i = some v ∧ Rep K mg ρ H d v := by
  unfold atI at h ⊢
  rw [← r.len]
  cases q : ixN ds.length i with
  | none => rw [q] at h; cases h
  | some j =>
    rw [q] at h
    exact r.get h
theorem d_ixSeq : IxD X ixSeq := by
  refine ⟨_, ix_seq, fun Wp ρ H S d e x y Q w rx ry p => ?_⟩
  unfold ixSeq at p
  split at p
  · rename_i i
    have hy := rep_int ry
    have go : ∀ xs, asS S d = some xs → PostE X.K X.mg Wp ρ H Q (match atI xs i with
        | some x => .ok x S
        | none => .bad) → rIx X.K x y H Q := fun xs ea p => by
      split at p
      · rename_i z ez
        obtain ⟨a, vs, e1, h3, r1⟩ := asS_rep w rx ea
        obtain ⟨v, h4, h5⟩ := atI_rep r1 ez
        rcases h3 with h3 | h3
        · exact .inl ⟨a, vs, i, v, e1, hy, h3, h4, post_ok p w h5⟩
        · exact .inr (.inl ⟨a, vs, i, v, e1, hy, h3, h4, post_ok p w h5⟩)
      · exact p.elim
    cases d with
    | str s =>
      simp only at p
      split at p
      · rename_i hl
        split at p
        · rename_i c ec
          exact .inr (.inr ⟨s, i, c, rep_str rx, hy, line_of hl, ec, post_ok p w mk_str⟩)
        · exact p.elim
      · exact p.elim
    | tup xs => exact go xs rfl p
    | tpx xs => exact go xs rfl p
    | lst xs => exact go xs rfl p
    | scr xs => exact go _ rfl p
    | ptr n =>
      simp only at p
      split at p
      · rename_i ys ey
        exact go ys ey p
      · exact p.elim
    | _ => exact p.elim
  · exact p.elim
end
end Z
namespace Za
open PySem PySem.Spec PyProof.Rows L2
def Src.At (K : PySem.W.Frag) (H : Hp) : Src → List V → Prop
  | .L a, vs => SqL K H a vs
  | .T a, vs => SqT K H a vs
  | .S x, vs => vs = x.cps.toList.map fun c => V.str ⟨#[c]⟩
def Src.adr : Src → Option Addr
  | .L a => some a
  | .T a => some a
  | .S _ => none
theorem Src.It.obj {h : Heap} {it : Addr} {i : Nat} : ∀ {s : Src}, s.It h it i → ∃ o, h.get? it = some o ∧ ∀ v, o.data ≠ .cell v
  | .L a, st => by obtain ⟨o, e, _, d⟩ := st; exact ⟨o, e, fun v q => by rw [d] at q; cases q⟩
  | .T a, st => by obtain ⟨o, e, _, d⟩ := st; exact ⟨o, e, fun v q => by rw [d] at q; cases q⟩
  | .S x, st => by obtain ⟨t, o, e, _, d⟩ := st; exact ⟨o, e, fun v q => by rw [d] at q; cases q⟩
theorem pr_get' {vs : List V} {its : List Value} (r : Vals vs its) {j : Nat} {v : Value} (e : its[j]? = some v) : ∃ x, vs[j]? = some x ∧ RelV x v := by
  have hl := r.length
  have hj := (List.getElem?_eq_some_iff.mp e).1
  have hx : vs[j]? = some (vs[j]'(by omega)) := by simp
  obtain ⟨u, h1, h2⟩ := r.get hx
  rw [e] at h1
  cases h1
  exact ⟨_, hx, h2⟩
section
variable {X : Cx} {pins : List (Addr × Obj)} {σ : L2.St} {H : Hp} {s : Shared}
theorem at_inj (I : Inv X pins σ H s) : ∀ {c : Src} {xs ys : List V}, c.At X.K H xs → c.At X.K H ys → xs = ys
  | .L a, _, _, h, h' => I.list_inj h h'
  | .T a, _, _, h, h' => I.tuple_inj h h'
  | .S x, _, _, h, h' => Eq.trans h (Eq.symm h')
/-- what a source draws at this state -/
theorem draws (I : Inv X pins σ H s) {A : Around} (hh : A.handled = none) {c : Src} {vs : List V} {i : Nat} {it : Addr} (ha : c.At X.K H vs) (hi : c.It s.heap it i) (hn : c.adr ≠ some it) :
    ∃ (fp : List Addr) (P : Nat → Value → Prop) (St : Nat → Heap → Prop), Draws X.prog X.w A it fp vs.length P St ∧ St i s.heap ∧ (∀ j v, P j v → ∃ x, vs[j]? = some x ∧ RelV x v) ∧ it ∈ fp ∧ (∀ b ∈ fp, b = it ∨ c.adr = some b) ∧ ∀ j h, St j h → c.It h it j := by
  cases c with
  | L a =>
    obtain ⟨its, rv, p, _⟩ := I.list ha
    have hl : its.toArray.size = vs.length := by rw [List.size_toArray]; exact rv.length.symm
    refine ⟨[it, a], _, _, hl ▸ Draws.list hh it a (fun e => hn (by rw [← e]; rfl)) its.toArray, ⟨hi, p.isList⟩, fun j v q => ?_, by simp, fun b hb => ?_, fun j h st => st.1⟩
    · have q : its[j]? = some v := by simpa using q
      exact pr_get' rv q
    · rcases List.mem_cons.mp hb with e | e
      · exact .inl e
      · exact .inr (by rw [List.mem_singleton.mp e]; rfl)
  | T a =>
    obtain ⟨its, rv, p, _⟩ := I.tuple ha
    have hl : its.toArray.size = vs.length := by rw [List.size_toArray]; exact rv.length.symm
    refine ⟨[it, a], _, _, hl ▸ Draws.tuple hh it a (fun e => hn (by rw [← e]; rfl)) its.toArray, ⟨hi, p⟩, fun j v q => ?_, by simp, fun b hb => ?_, fun j h st => st.1⟩
    · have q : its[j]? = some v := by simpa using q
      exact pr_get' rv q
    · rcases List.mem_cons.mp hb with e | e
      · exact .inl e
      · exact .inr (by rw [List.mem_singleton.mp e]; rfl)
  | S x =>
    obtain ⟨t, hi⟩ := hi
    have ha : vs = x.cps.toList.map fun c => V.str ⟨#[c]⟩ := ha
    have hl : x.cps.size = vs.length := by rw [ha]; simp
    refine ⟨[it], _, _, hl ▸ Draws.text hh it x t, hi, fun j v q => ?_, by simp, fun b hb => .inl (by simpa using hb), fun j h st => ⟨t, st⟩⟩
    obtain ⟨c, u, e, q⟩ := q
    subst q
    exact ⟨.str ⟨#[c]⟩, by rw [ha]; simp [e], u, rfl⟩
theorem begins (I : Inv X pins σ H s) {c : Src} {vs : List V} {u : Value} (ha : c.At X.K H vs) (r : RelV c.val u) : ∃ (o : Obj) (B : Heap → Prop), Begins u o B ∧ B s.heap ∧ ∀ h it, h.get? it = some o → c.It h it 0 := by
  cases c with
  | L a =>
    obtain ⟨its, rv, p, _⟩ := I.list ha
    obtain rfl : u = Value.ref a := r
    exact ⟨_, _, begins_list a its.toArray, p.isList, fun h it e => ⟨_, e, rfl, rfl⟩⟩
  | T a =>
    obtain ⟨its, rv, p, _⟩ := I.tuple ha
    obtain rfl : u = Value.ref a := r
    exact ⟨_, _, begins_tuple a its.toArray, p, fun h it e => ⟨_, e, rfl, rfl⟩⟩
  | S x =>
    obtain ⟨t, rfl⟩ := r
    exact ⟨_, _, begins_text x t, trivial, fun h it e => ⟨t, _, e, rfl, rfl⟩⟩
theorem adr_lt (I : Inv X pins σ H s) : ∀ {c : Src} {vs : List V} {b : Addr}, c.At X.K H vs → c.adr = some b → b < s.heap.objs.size
  | .L a, _, _, h, e => by
    cases e
    obtain ⟨its, rv, p, _⟩ := I.list h
    exact p.lt
  | .T a, _, _, h, e => by
    cases e
    obtain ⟨its, rv, ⟨o, q, _⟩, _⟩ := I.tuple h
    exact Heap.lt_size q
end
def ItP (K : PySem.W.Frag) (c d : Src) : L2.It :=
  ⟨fun i H => ∃ (xs ys : List V) (x y : V), c.At K H xs ∧ d.At K H ys ∧ xs[i]? = some x ∧ ys[i]? = some y,
    fun i H v H' => ∃ T x y, v = .ref T ∧ H T = none ∧ H' = upd H T (.tup [x, y]) ∧ (∀ xs, c.At K H xs → xs[i]? = some x) ∧ ∀ ys, d.At K H ys → ys[i]? = some y,
    fun i H => ∃ xs ys : List V, c.At K H xs ∧ d.At K H ys ∧ i ≤ xs.length ∧ i ≤ ys.length ∧ (i = xs.length ∨ i = ys.length)⟩
structure Apart (z TI TO i1 i2 : Addr) (c d : Src) : Prop where
  zTI : TI ≠ z
  zTO : TO ≠ z
  TITO : TI ≠ TO
  TI1 : TI ≠ i1
  TI2 : TI ≠ i2
  TO1 : TO ≠ i1
  TO2 : TO ≠ i2
  z1 : z ≠ i1
  z2 : z ≠ i2
  i12 : i1 ≠ i2
  c0 : ∀ b, c.adr = some b → b ≠ z ∧ b ≠ TI ∧ b ≠ TO ∧ b ≠ i1 ∧ b ≠ i2
  d0 : ∀ b, d.adr = some b → b ≠ z ∧ b ≠ TI ∧ b ≠ TO ∧ b ≠ i1 ∧ b ≠ i2
theorem turn_zipU {P : Program} {w : World} {K : PySem.W.Frag} {elts : List Expr} {kk : Nat} {tpos : Pos} {c d : Src} {z TI TO i1 i2 : Addr} (D : Apart z TI TO i1 i2 c d) :
    Turn P w K (.Tuple elts kk tpos) (ItP K c d) [z, TI, TO, i1, i2] z (fun i h => IsZip h z TI TO .none ∧ IsTupOf2 h TI (.ref i1) (.ref i2) ∧ (∃ x y, IsTupOf2 h TO x y) ∧ c.It h i1 i ∧ d.It h i2 i) where
  mem := by simp
  obj := fun i h st b hb => by
    obtain ⟨hz, hTI, ⟨x, y, hTO⟩, h1, h2⟩ := st
    have e' : b = z ∨ b = TI ∨ b = TO ∨ b = i1 ∨ b = i2 := by simpa using hb
    rcases e' with q | q | q | q | q
    · rw [q]; exact ⟨_, hz, fun v q => nomatch q⟩
    · rw [q]; exact ⟨_, hTI, fun v q => nomatch q⟩
    · rw [q]; exact ⟨_, hTO, fun v q => nomatch q⟩
    · rw [q]; exact h1.obj
    · rw [q]; exact h2.obj
  keep := fun i h h' st k => by
    obtain ⟨hz, hTI, ⟨x, y, hTO⟩, h1, h2⟩ := st
    exact ⟨k z (by simp) _ hz, k TI (by simp) _ hTI, ⟨x, y, k TO (by simp) _ hTO⟩, h1.keep fun o q => k i1 (by simp) o q, h2.keep fun o q => k i2 (by simp) o q⟩
  item := by
    intro X hP hw hK hc i pins s σ H E I hf st hg
    subst hP hw hK
    obtain ⟨hz, hTI, ⟨x0, y0, hTO⟩, h1, h2⟩ := st
    obtain ⟨xs, ys, x, y, hqx, hqy, hx, hy⟩ := hg
    obtain ⟨fp1, P1, St1, D1, st1, g1, m1, b1, k1⟩ := draws (A := X.A.in1) I (I.ok.hd hc) hqx h1 (fun e => (D.c0 _ e).2.2.2.1 rfl)
    obtain ⟨fp2, P2, St2, D2, st2, g2, m2, b2, k2⟩ := draws (A := X.A.in1) I (I.ok.hd hc) hqy h2 (fun e => (D.d0 _ e).2.2.2.2 rfl)
    have S : ZipSep2 z TI TO i1 i2 fp1 fp2 := by
      refine ⟨D.zTI, D.zTO, D.TITO, D.TI1, m1, fun h => ?_, fun h => ?_, D.TI2, m2, fun h => ?_, fun h => ?_, fun h => ?_, fun h => ?_⟩
      · rcases b1 _ h with e | e
        · exact D.z1 e
        · exact (D.c0 _ e).1 rfl
      · rcases b1 _ h with e | e
        · exact D.TO1 e
        · exact (D.c0 _ e).2.2.1 rfl
      · rcases b2 _ h with e | e
        · exact D.z2 e
        · exact (D.d0 _ e).1 rfl
      · rcases b2 _ h with e | e
        · exact D.TO2 e
        · exact (D.d0 _ e).2.2.1 rfl
      · rcases b2 _ h with e | e
        · exact D.i12 e
        · exact (D.d0 _ e).2.2.2.1 rfl
      · rcases b1 _ h with e | e
        · exact D.i12 e.symm
        · exact (D.c0 _ e).2.2.2.2 rfl
    have hzl : z < s.heap.objs.size := Heap.lt_size hz
    refine wpAny_pyNext_zipD2_item S D1 D2 hz hTI hTO st1 st2 (List.getElem?_eq_some_iff.mp hx).1 (List.getElem?_eq_some_iff.mp hy).1 fun u u2 h' tk p1 p2 z' TO' s1' s2' hT hsz hk => ?_
    obtain ⟨x', ex, ru⟩ := g1 i u p1
    obtain ⟨y', ey, ru2⟩ := g2 i u2 p2
    rw [hx] at ex; cases ex
    rw [hy] at ey; cases ey
    refine ⟨_, rfl, wpAny_letOwnedTupleGo_zip (s := { s with heap := h', toks := tk }) z' fun h'' z'' sb => ?_⟩
    have hT2 : h''.get? s.heap.objs.size = some { cls := .type "tuple", data := .seq #[u, u2] } := (sb.2 _ (Nat.ne_of_gt hzl)).trans hT
    have new : ObjOk X.prog X.w (upd H s.heap.objs.size (.tup [x, y])) h'' s.heap.objs.size (.tup [x, y]) :=
      ⟨by show 2 ≤ sizeLine; decide, [u, u2], .cons ru (.cons ru2 .nil), ⟨_, hT2, rfl, _, rfl⟩⟩
    have I1 : Inv X pins σ (upd H s.heap.objs.size (.tup [x, y])) { s with heap := h'', toks := tk } :=
      I.turnedNew (t' := tk) (ch := [z, TI, TO, i1, i2]) (fun c o hb q => (sb.2 c (fun q' => hb (by simp [q']))).trans (hk c o (fun q' => hb (by simp [q'])) (fun q' => hb (by simp [q'])) (fun q' => hb (by simp [q'])) (fun q' => hb (by simp [q'])) q)) hf (Nat.le_refl _) new
    refine ⟨.ref s.heap.objs.size, _, I1, rfl, ⟨_, x, y, rfl, I.hok.fresh (Nat.le_refl _), rfl, fun l hl => by rw [at_inj I hl hqx]; exact hx, fun l hl => by rw [at_inj I hl hqy]; exact hy⟩, ⟨z'', ?_, ⟨u, u2, ?_⟩, ?_, ?_⟩, fun b hcm => ?_⟩
    · exact (sb.2 _ D.zTI).trans (hk _ _ D.zTI D.TITO D.TI1 D.TI2 hTI)
    · exact (sb.2 _ D.zTO).trans TO'
    · exact (k1 _ _ s1').keep fun o q => (sb.2 _ (Ne.symm D.z1)).trans q
    · exact (k2 _ _ s2').keep fun o q => (sb.2 _ (Ne.symm D.z2)).trans q
    · have hlt : b < s.heap.objs.size := by
        have e' : b = z ∨ b = TI ∨ b = TO ∨ b = i1 ∨ b = i2 := by simpa using hcm
        rcases e' with q | q | q | q | q
        · rw [q]; exact hzl
        · rw [q]; exact Heap.lt_size hTI
        · rw [q]; exact Heap.lt_size hTO
        · rw [q]; obtain ⟨_, e1, _⟩ := h1.obj; exact Heap.lt_size e1
        · rw [q]; obtain ⟨_, e1, _⟩ := h2.obj; exact Heap.lt_size e1
      rw [upd_ne (Nat.ne_of_lt hlt)]
      exact (hf b hcm).1
  done := by
    intro X hP hw hK hc i pins s σ H E I hf st hg
    subst hP hw hK
    obtain ⟨hz, hTI, ⟨x0, y0, hTO⟩, h1, h2⟩ := st
    obtain ⟨xs, ys, hqx, hqy, hl1, hl2, hend⟩ := hg
    obtain ⟨fp1, P1, St1, D1, st1, g1, m1, b1, k1⟩ := draws (A := X.A.in1) I (I.ok.hd hc) hqx h1 (fun e => (D.c0 _ e).2.2.2.1 rfl)
    obtain ⟨fp2, P2, St2, D2, st2, g2, m2, b2, k2⟩ := draws (A := X.A.in1) I (I.ok.hd hc) hqy h2 (fun e => (D.d0 _ e).2.2.2.2 rfl)
    have S : ZipSep2 z TI TO i1 i2 fp1 fp2 := by
      refine ⟨D.zTI, D.zTO, D.TITO, D.TI1, m1, fun h => ?_, fun h => ?_, D.TI2, m2, fun h => ?_, fun h => ?_, fun h => ?_, fun h => ?_⟩
      · rcases b1 _ h with e | e
        · exact D.z1 e
        · exact (D.c0 _ e).1 rfl
      · rcases b1 _ h with e | e
        · exact D.TO1 e
        · exact (D.c0 _ e).2.2.1 rfl
      · rcases b2 _ h with e | e
        · exact D.z2 e
        · exact (D.d0 _ e).1 rfl
      · rcases b2 _ h with e | e
        · exact D.TO2 e
        · exact (D.d0 _ e).2.2.1 rfl
      · rcases b2 _ h with e | e
        · exact D.i12 e
        · exact (D.d0 _ e).2.2.2.1 rfl
      · rcases b1 _ h with e | e
        · exact D.i12 e.symm
        · exact (D.c0 _ e).2.2.2.2 rfl
    exact wpAny_pyNext_zipD2_end S D1 D2 hz hTI hTO st1 st2 hl1 hl2 hend fun h' tk hk => ⟨rfl, I.turnedL (t' := tk) (ch := [z, TI, TO, i1, i2]) (fun c o hb q =>
      hk c o (fun q' => hb (by simp [q'])) (fun q' => hb (by simp [q'])) (fun q' => hb (by simp [q'])) (fun q' => hb (by simp [q'])) q) hf⟩
  self := fun A i s Q E st h => wpAny_pyIter_zip st.1 h
def iZipU (K : PySem.W.Frag) (ta : TA) : TI := fun σ H R => ta σ H fun vs H1 => ∃ (c d : Src) (xs ys : List V), vs = [c.val, d.val] ∧ c.At K H1 xs ∧ d.At K H1 ys ∧ R (ItP K c d) H1
theorem pi_zipU {X : Cx} {e e2 : Expr} {ta : TA} {p pos tpos : Pos} {elts : List Expr} {kk : Nat} (hg : Gl X "zip") (hm : X.mg "zip" = none) (ha : PA X [e, e2] ta)
    (hs : starEach [e, e2] X.env = (false, eval e X.env) :: starEach [e2] X.env := by rfl) (hpl : (backTo pos (starEach [e2] X.env)).any (·.1) = false := by rfl) :
    PI X (.Tuple elts kk tpos) (.Call (.Name "zip" p) [e, e2] [] pos) (iZipU X.K ta) := by
  refine ⟨fun pins s σ H R I h => ?_⟩
  refine Call_ (ld_blt I hg hm PyProof.Rows.boot_zip (PyProof.Rows.callWith_type1 (thn (ha.run pos pins s σ H _ I h) fun us s1 ⟨vs, H1, I1, r1, q1⟩ => ?_) hs hpl))
  obtain ⟨c, d, xs, ys, ex, hc, hd, q⟩ := q1
  subst ex
  cases r1 with
  | cons r rr =>
    cases rr with
    | cons r' rr =>
      cases rr
      obtain ⟨o1, B1, bg1, hB1, k1⟩ := begins I1 hc r
      obtain ⟨o2, B2, bg2, hB2, k2⟩ := begins I1 hd r'
      refine zip_begins2 bg1 bg2 hB1 hB2 fun h' hz hTI hTO g1 g2 hsz hk => wpAny_pyIter_zip hz ?_
      have I2 : Inv X pins σ H1 { s1 with heap := h' } := I1.kept (t' := s1.toks) hk
      have far : ∀ (cc : Src) (zs : List V), cc.At X.K H1 zs → ∀ b, cc.adr = some b → b ≠ s1.heap.objs.size + 4 ∧ b ≠ s1.heap.objs.size + 2 ∧ b ≠ s1.heap.objs.size + 3 ∧ b ≠ s1.heap.objs.size ∧ b ≠ s1.heap.objs.size + 1 := fun cc zs hz b e => by
        have := adr_lt I1 hz e
        refine ⟨?_, ?_, ?_, ?_, ?_⟩ <;> exact fun q => by
          rw [q] at this
          first
            | exact absurd this (Nat.lt_irrefl _)
            | exact absurd (Nat.lt_of_le_of_lt (Nat.le_add_right _ _) this) (Nat.lt_irrefl _)
      have hap : Apart (s1.heap.objs.size + 4) (s1.heap.objs.size + 2) (s1.heap.objs.size + 3) s1.heap.objs.size (s1.heap.objs.size + 1) c d := by
        refine ⟨?_, ?_, ?_, ?_, ?_, ?_, ?_, ?_, ?_, ?_, far c xs hc, far d ys hd⟩ <;> (intro q; have q : (_ : Nat) = _ := q; omega)
      refine ⟨s1.heap.objs.size + 4, [s1.heap.objs.size + 4, s1.heap.objs.size + 2, s1.heap.objs.size + 3, s1.heap.objs.size, s1.heap.objs.size + 1], _, _, H1, rfl, I2, turn_zipU hap, ⟨hz, hTI, ⟨_, _, hTO⟩, k1 _ _ g1, k2 _ _ g2⟩, fun b hcm => ?_, q⟩
      have e' : b = s1.heap.objs.size + 4 ∨ b = s1.heap.objs.size + 2 ∨ b = s1.heap.objs.size + 3 ∨ b = s1.heap.objs.size ∨ b = s1.heap.objs.size + 1 := by simpa using hcm
      have hle : s1.heap.objs.size ≤ b := by
        rcases e' with z | z | z | z | z
        · rw [z]; exact Nat.le_add_right _ _
        · rw [z]; exact Nat.le_add_right _ _
        · rw [z]; exact Nat.le_add_right _ _
        · rw [z]; exact Nat.le_refl _
        · rw [z]; exact Nat.le_add_right _ _
      exact I1.fpOk hle (I1.hok.fresh hle)
end Za
namespace Z
open PySem PySem.Spec L2
section
variable {K : PySem.W.Frag} {mg : Str → Option Value} {ρ : List Addr} {H : Hp} {S : Store}
theorem Ext.put {p : Addr} {o : HO} (hp : p ∈ ρ) : Ext ρ H ρ (upd H p o) := ⟨⟨[], by simp⟩, fun a h n => absurd h n, fun a u n h => .inl (by rw [upd_ne (fun q => n (by rw [q]; exact hp))]; exact h)⟩
theorem nd_eq {α : Type} : ∀ {l : List α} {i j : Nat} {a : α}, l.Nodup → l[i]? = some a → l[j]? = some a → i = j
  | [], _, _, _, _, h, _ => by simp at h
  | x :: l, 0, 0, _, _, _, _ => rfl
  | x :: l, 0, j + 1, a, hn, h1, h2 => by
    simp at h1 h2
    exact absurd (List.mem_of_getElem? h2) (by rw [← h1]; exact (List.nodup_cons.mp hn).1)
  | x :: l, i + 1, 0, a, hn, h1, h2 => by
    simp at h1 h2
    exact absurd (List.mem_of_getElem? h1) (by rw [← h2]; exact (List.nodup_cons.mp hn).1)
  | x :: l, i + 1, j + 1, a, hn, h1, h2 => by
    simp only [List.getElem?_cons_succ] at h1 h2
    rw [nd_eq (List.nodup_cons.mp hn).2 h1 h2]
theorem WOk.put (w : WOk K mg ρ H S) {n : Nat} {p : Addr} {o : HO} {m : MO} (hn : ρ[n]? = some p) (hm : MRep K mg ρ (upd H p o) p m) : WOk K mg ρ (upd H p o) (S.set n m) := by
  have hp : p ∈ ρ := List.mem_of_getElem? hn
  refine ⟨by simp [w.len], w.nd, fun a ha => ?_, fun j a m' e1 e2 => ?_⟩
  · by_cases q : a = p
    · rw [q, upd_same]; simp
    · rw [upd_ne q]; exact w.tr a ha
  · by_cases q : j = n
    · subst q
      rw [hn] at e1; cases e1
      have hl : j < S.length := by rw [← w.len]; exact (List.getElem?_eq_some_iff.mp hn).1
      rw [List.getElem?_set_self hl] at e2; cases e2
      exact hm
    · rw [List.getElem?_set_ne (Ne.symm q)] at e2
      have hap : a ≠ p := fun e => by
        subst e
        exact q (nd_eq w.nd e1 hn)
      exact MRep.ext (Ext.put hp) (upd_ne hap) (w.ob j a m' e1 e2)
theorem Ext.putL {p : Addr} {o : HO} {n : Nat} (hn : ρ[n]? = some p) : Ext ρ H ρ (upd H p o) := Ext.put (List.mem_of_getElem? hn)
/-- the list at a handle -/
theorem ptr_lst (w : WOk K mg ρ H S) {n : Nat} {v : V} {xs : List D} (r : Rep K mg ρ H (.ptr n) v) (e : S[n]? = some (.lst xs)) : ∃ a vs, v = .ref a ∧ ρ[n]? = some a ∧ H a = some (.lst vs) ∧ RepL K mg ρ H xs vs := by
  rw [Rep] at r
  obtain ⟨a, e1, q⟩ := r
  obtain ⟨vs, h1, h2⟩ := w.ob n a _ q e
  exact ⟨a, vs, e1, q, h1, h2⟩
theorem ptr_dct (w : WOk K mg ρ H S) {n : Nat} {v : V} {ks xs : List D} (r : Rep K mg ρ H (.ptr n) v) (e : S[n]? = some (.dct false ks xs)) : ∃ a kvs, v = .ref a ∧ ρ[n]? = some a ∧ H a = some (.dK kvs) ∧ RepL K mg ρ H ks (kvs.map fun p => kV p.1) ∧ RepL K mg ρ H xs (kvs.map (·.2)) := by
  rw [Rep] at r
  obtain ⟨a, e1, q⟩ := r
  obtain ⟨kvs, h1, h2, h3⟩ := w.ob n a _ q e
  rw [if_neg Bool.false_ne_true] at h1
  exact ⟨a, kvs, e1, q, h1, h2, h3⟩
end
section
variable {X : Cx} {W : WX}
structure MtD (X : Cx) (id : String) (sem : SemM) : Prop where
  go : ∃ r : V → List V → Hp → VK → Prop, MtR X id r ∧ ∀ (Wp : Value → Option Addr → Hp → Prop) (ρ : List Addr) (H : Hp) (S : Store) (d : D) (ds : List D) (x : V) (xs : List V) (Q : VK), WOk X.K X.mg ρ H S → Rep X.K X.mg ρ H d x → RepL X.K X.mg ρ H ds xs → PostE X.K X.mg Wp ρ H Q (sem d ds S) → r x xs H Q
theorem MtD.or {id : String} {s t : SemM} (h : MtD X id s) (h' : MtD X id t) : MtD X id (fun d => orSL (s d) (t d)) := by
  obtain ⟨r, o, g⟩ := h.go
  obtain ⟨r', o', g'⟩ := h'.go
  refine ⟨_, MtR.or o o', fun Wp ρ H S d ds x xs Q w rx rl p => ?_⟩
  unfold orSL at p
  cases q : s d ds S with
  | bad => rw [q] at p; exact .inr (g' Wp ρ H S d ds x xs Q w rx rl p)
  | ok a S' => rw [q] at p; exact .inl (g Wp ρ H S d ds x xs Q w rx rl (by rw [q]; exact p))
  | ex a S' => rw [q] at p; exact .inl (g Wp ρ H S d ds x xs Q w rx rl (by rw [q]; exact p))
theorem tyStr_is {K : PySem.W.Frag} {mg : Str → Option Value} {ρ : List Addr} {H : Hp} {S : Store} {d : D} {x : V} (_ : WOk K mg ρ H S) (r : Rep K mg ρ H d x) (h : tyStr S d = true) : tyV K "str" x H := by
  cases d with
  | str s => rw [rep_str r]; exact rfl
  | _ => cases h
variable {o e : Expr} {es : List Expr} {fo fe : EX} {fa : AX} {apos cpos pos : Pos} {name : Str} {T id : String} {sem : SemM} {ty : Store → D → Bool}
theorem met_imp {σ : L2.St} {H : Hp} {Q : VK} {K : PySem.W.Frag} {mg : Str → Option Value} {k0 : V → Hp → Prop} {k : V → List V → Hp → Prop} (h : trE K mg W (eMet ty sem fo fa) σ H Q)
    (h0 : ∀ ρ H S d x, WOk K mg ρ H S → Rep K mg ρ H d x → ty S d = true → k0 x H)
    (hk : ∀ ρ S H2 d ds x xs, WOk K mg ρ H2 S → Rep K mg ρ H2 d x → RepL K mg ρ H2 ds xs → PostE K mg (fun C d H' => W C d σ H') ρ H2 Q (sem d ds S) → k x xs H2) :
    trE K mg W fo σ H fun x H1 => k0 x H1 ∧ trA K mg W fa σ H1 fun xs H2 => k x xs H2 := by
  obtain ⟨ρ, S, sl, w, rs, p⟩ := h
  refine ⟨ρ, S, sl, w, rs, PostE.mono (PostE.bindE p) fun x H1 ⟨ρ1, S1, d, x1, w1, r1, _, p1⟩ => ?_⟩
  split at p1
  · rename_i ht
    refine ⟨h0 _ _ _ _ _ w1 r1 ht, ρ1, S1, sl, w1, rs.ext x1, PostA.mono (PostA.bindE p1) fun xs H2 ⟨ρ2, S2, ds, x2, w2, r2, _, p2⟩ => ?_⟩
    exact hk ρ2 S2 H2 d ds x xs w2 (r1.ext x2) r2 p2
  · exact p1.elim
theorem r_met (hm : MtD X id sem) (hty : ∀ ρ H S d x, WOk X.K X.mg ρ H S → Rep X.K X.mg ρ H d x → ty S d = true → tyV X.K T x H) (pa : PlainAttrs T) (slot : Slot T name id) (hi : typeOf (.builtin id) = pure (.type "method_descriptor")) (ho : E X W o fo) (ha : EA X W (e :: es) fa)
    (hbase : attributeBase o name X.env (eval o X.env) = eval o X.env := by rfl)
    (hfew : ((backTo cpos (starEach (e :: es) X.env)).all (fun x => !x.1) && (backToKw cpos (keywordEach [] X.env)).all (fun x => x.1.isSome)
      && decide ((e :: es).length + ([] : List Keyword).length + (if ([] : List Keyword).isEmpty then 0 else 1) < 30)) = true := by rfl)
    (hline : (apos.endLine == cpos.line) = true := by rfl) (hs : starEach (e :: es) X.env = (false, eval e X.env) :: starEach es X.env := by rfl) (hplain : (backTo cpos (starEach es X.env)).any (·.1) = false := by rfl) :
    E X W (.Call (.Attribute o name apos) (e :: es) [] cpos) (eMet ty sem fo fa) := by
  obtain ⟨r, m, g⟩ := hm.go
  exact PE.imp (pe_bm pa slot hi m ho ha hbase hfew hline hs hplain) fun σ H Q h => met_imp h hty fun ρ S H2 d ds x xs w rx rl p => g _ ρ H2 S d ds x xs Q w rx rl p
theorem RepL.dropLast {K : PySem.W.Frag} {mg : Str → Option Value} {ρ : List Addr} {H : Hp} {ds : List D} {vs : List V} (q : RepL K mg ρ H ds vs) : RepL K mg ρ H ds.dropLast vs.dropLast := by
  rw [List.dropLast_eq_take, List.dropLast_eq_take, ← q.len]
  exact q.take _
theorem mk_strs {K : PySem.W.Frag} {mg : Str → Option Value} {ρ : List Addr} {H : Hp} : ∀ (bs : List Str), RepL K mg ρ H (bs.map D.str) (bs.map V.str)
  | [] => RepL.nil
  | b :: bs => RepL.cons mk_str (mk_strs bs)
end
end Z
namespace Z
open PySem PySem.Spec L2
theorem keyD_eq {d : D} {k : Key} (h : keyD d = some k) : d = kD k := by
  cases d with
  | int i => cases h; rfl
  | str i => cases h; rfl
  | _ => cases h
section
variable {K : PySem.W.Frag} {mg : Str → Option Value} {ρ : List Addr} {H : Hp} {S : Store}
theorem rep_kV {d : D} {k : Key} (r : Rep K mg ρ H d (kV k)) : d = kD k := by
  cases d with
  | non => rw [Rep] at r; cases k <;> cases r
  | bl b => rw [Rep] at r; cases k <;> cases r
  | int i => rw [Rep] at r; cases k <;> cases r; rfl
  | str i => rw [Rep] at r; cases k <;> cases r; rfl
  | ty i => rw [Rep] at r; cases k <;> cases r
  | cls c => rw [Rep] at r; obtain ⟨_, _, e⟩ := r; cases k <;> cases e
  | tup xs => rw [Rep] at r; obtain ⟨_, _, e, _⟩ := r; cases k <;> cases e
  | lst xs => rw [Rep] at r; obtain ⟨_, _, e, _⟩ := r; cases k <;> cases e
  | tpx xs => rw [Rep] at r; obtain ⟨_, _, e, _⟩ := r; cases k <;> cases e
  | dct xs ys => rw [Rep] at r; obtain ⟨_, _, _, e, _⟩ := r; cases k <;> cases e
  | ins c ns vs => rw [Rep] at r; obtain ⟨_, _, _, _, e, _⟩ := r; cases k <;> cases e
  | ptr n => rw [Rep] at r; obtain ⟨_, e, _⟩ := r; cases k <;> cases e
  | scr xs => rw [Rep] at r; obtain ⟨_, e, _⟩ := r; cases k <;> cases e
  | exc c ns vs => rw [Rep] at r; obtain ⟨_, _, _, _, e, _⟩ := r; cases k <;> cases e
  | lam T c => rw [Rep] at r; obtain ⟨_, e, _⟩ := r; cases k <;> cases e
  | lamc T c => rw [Rep] at r; obtain ⟨_, _, _, e, _⟩ := r; cases k <;> cases e
theorem mk_kV (k : Key) : Rep K mg ρ H (kD k) (kV k) := by cases k <;> rw [kD, kV, Rep]
theorem rep_keyD {d : D} {k : Key} {v : V} (r : Rep K mg ρ H d v) (h : keyD d = some k) : v = kV k := by
  rw [keyD_eq h] at r
  cases k with
  | inl i => exact rep_int r
  | inr i => exact rep_str r
theorem repK : ∀ {kvs : List (Key × V)} {ks : List D}, RepL K mg ρ H ks (kvs.map fun p => kV p.1) → ks = kvs.map fun p => kD p.1
  | [], ks, r => by
    cases ks with
    | nil => rfl
    | cons d ks => rw [RepL] at r; obtain ⟨_, _, e, _⟩ := r; cases e
  | p :: kvs, ks, r => by
    cases ks with
    | nil => rw [RepL] at r; cases r
    | cons d ks =>
      rw [RepL] at r
      obtain ⟨v, r', e, h1, h2⟩ := r
      rw [List.map_cons] at e
      injection e with e1 e2
      subst e1 e2
      rw [List.map_cons, rep_kV h1, repK h2]
theorem mkK : ∀ (kvs : List (Key × V)), RepL K mg ρ H (kvs.map fun p => kD p.1) (kvs.map fun p => kV p.1)
  | [] => RepL.nil
  | p :: kvs => RepL.cons (mk_kV p.1) (mkK kvs)
theorem asD_rep {d : D} {v : V} {p : List D × List D} (w : WOk K mg ρ H S) (r : Rep K mg ρ H d v) (h : asD S d = some p) : ∃ a kvs, v = .ref a ∧ Rd H a (.dK kvs) ∧ p.1 = kvs.map (fun p => kD p.1) ∧ RepL K mg ρ H p.2 (kvs.map (·.2)) := by
  cases d with
  | dct ks vs =>
    unfold asD at h
    cases h
    rw [Rep] at r
    obtain ⟨a, kv, vs', e, ⟨_, kvs, t, e1, e2⟩, r1, r2⟩ := r
    subst e1 e2
    exact ⟨a, kvs, e, t, repK r1, r2⟩
  | ptr n =>
    unfold asD at h
    simp only at h
    rw [Rep] at r
    obtain ⟨a, e, q⟩ := r
    split at h
    · rename_i lk ks vs em
      cases h
      obtain ⟨kvs, h1, r1, r2⟩ := w.ob n a _ q em
      refine ⟨a, kvs, e, ?_, repK r1, r2⟩
      cases lk with
      | true => rw [if_pos rfl] at h1; exact h1
      | false => rw [if_neg Bool.false_ne_true] at h1; exact .inl h1
    · cases h
  | _ => unfold asD at h; cases h
theorem getK_rep {y : Key} : ∀ {kvs : List (Key × V)} {ds : List D}, RepL K mg ρ H ds (kvs.map (·.2)) → (∀ d, getK (kvs.map fun p => kD p.1) ds y = some d → ∃ v, valV kvs y = some v ∧ Rep K mg ρ H d v) ∧ (valV kvs y).isSome = hasK (kvs.map fun p => kD p.1) y
  | [], ds, r => ⟨fun d h => by simp [getK] at h, by rw [valV_nil]; rfl⟩
  | p :: kvs, ds, r => by
    cases ds with
    | nil => rw [RepL] at r; cases r
    | cons d ds =>
      rw [RepL] at r
      obtain ⟨v, r', e, h1, h2⟩ := r
      rw [List.map_cons] at e
      injection e with e1 e2
      subst e1 e2
      obtain ⟨i1, i2⟩ := getK_rep (y := y) (kvs := kvs) h2
      by_cases q : p.1 = y
      · refine ⟨fun d' h => ?_, ?_⟩
        · rw [List.map_cons, getK, keyD_kD, q, if_pos rfl] at h
          cases h
          exact ⟨p.2, valV_pos q, h1⟩
        · rw [valV_pos q, List.map_cons, hasK, List.any_cons, keyD_kD, q]
          simp
      · refine ⟨fun d' h => ?_, ?_⟩
        · rw [List.map_cons, getK, keyD_kD, if_neg (fun z => q (Option.some.inj z))] at h
          obtain ⟨u, e3, r3⟩ := i1 d' h
          exact ⟨u, by rw [valV_neg q]; exact e3, r3⟩
        · rw [valV_neg q, List.map_cons, hasK, List.any_cons, keyD_kD, decide_eq_false (fun z => q (Option.some.inj z)), Bool.false_or]
          exact i2
theorem anyK (y : Key) (kvs : List (Key × V)) : (kvs.any fun kv => decide (kv.1 = y)) = hasK (kvs.map fun p => kD p.1) y := by
  induction kvs with
  | nil => rfl
  | cons p kvs ih =>
    rw [List.any_cons, List.map_cons, hasK, List.any_cons, keyD_kD]
    rw [show (kvs.any fun kv => decide (kv.1 = y)) = (List.map (fun p : Key × V => kD p.1) kvs).any (fun k => decide (keyD k = some y)) from ih]
    congr 1
    simp
theorem putV_rep {y : Key} {d : D} {v : V} (h : Rep K mg ρ H d v) : ∀ {kvs : List (Key × V)} {ds : List D}, RepL K mg ρ H ds (kvs.map (·.2)) → RepL K mg ρ H (putV (kvs.map fun p => kD p.1) ds y d) ((kvs.map fun kv => if kv.1 = y then (kv.1, v) else kv).map (·.2))
  | [], ds, r => by
    rw [List.map_nil, List.map_nil, List.map_nil]
    cases ds with
    | nil => exact RepL.nil
    | cons d ds => rw [RepL] at r; obtain ⟨_, _, e, _⟩ := r; cases e
  | p :: kvs, ds, r => by
    cases ds with
    | nil => rw [RepL] at r; cases r
    | cons d' ds =>
      rw [RepL] at r
      obtain ⟨v', r', e, h1, h2⟩ := r
      rw [List.map_cons] at e
      injection e with e1 e2
      subst e1 e2
      rw [List.map_cons, List.map_cons, List.map_cons, putV, keyD_kD]
      refine RepL.cons ?_ (putV_rep h h2)
      by_cases q : p.1 = y
      · rw [if_pos q, if_pos (by rw [q])]; exact h
      · rw [if_neg q, if_neg (fun z => q (Option.some.inj z))]; exact h1
theorem putK_rep {y : Key} {d : D} {v : V} (h : Rep K mg ρ H d v) {kvs : List (Key × V)} {ds : List D} (r : RepL K mg ρ H ds (kvs.map (·.2))) :
    putKs (kvs.map fun p => kD p.1) y = (putK kvs y v).map (fun p => kD p.1) ∧ RepL K mg ρ H (putVs (kvs.map fun p => kD p.1) ds y d) ((putK kvs y v).map (·.2)) := by
  unfold putKs putVs putK
  rw [← anyK y kvs]
  split
  · rename_i q
    refine ⟨?_, putV_rep h r⟩
    rw [List.map_map]
    refine List.map_congr_left fun p _ => ?_
    simp only [Function.comp]
    split <;> rfl
  · refine ⟨by rw [List.map_append]; rfl, ?_⟩
    rw [List.map_append]
    exact r.append (RepL.cons h RepL.nil)
end
section
variable {X : Cx}
theorem ix_dct (hu : X.A.units + 1 < cLine) : IxR X (fun x y H Q => ∃ a v, x = .ref a ∧ DGet H a y (some v) ∧ Q v H) := by
  intro value slice pins s σ H x y v u Q I rx ry h hs
  obtain ⟨a, z, rfl, g, q⟩ := h
  obtain rfl : v = Value.ref a := rx
  exact PyProof.Rows.tail_any (dict_typeIs I g) PySem.F.slot_dict_getitem.lookup (d_getItem hu I g ry fun w' s' I' rw' => ⟨z, H, I', rw', q⟩) hs
theorem d_ixDct (hu : X.A.units + 1 < cLine) : IxD X ixDct := by
  refine ⟨_, ix_dct hu, fun Wp ρ H S d e x y Q w rx ry p => ?_⟩
  unfold ixDct at p
  split at p
  · rename_i pr k ep ek
    split at p
    · rename_i v ev
      obtain ⟨a, kvs, e1, h1, e2, r2⟩ := asD_rep w rx ep
      rw [e2] at ev
      obtain ⟨u, e3, r3⟩ := (getK_rep r2).1 v ev
      exact ⟨a, u, e1, .inl ⟨kvs, k, h1, rep_keyD ry ek, e3.symm⟩, post_ok p w r3⟩
    · exact p.elim
  · exact p.elim
theorem op_inDct (hu : X.A.units + 1 < cLine) : OpR X (compareOp .In) (fun y x H Q => ∃ a o, x = .ref a ∧ DGet H a y o ∧ Q (.bl o.isSome) H) := by
  intro pins s σ H x y v u Q I rx ry h
  obtain ⟨a, o, rfl, g, q⟩ := h
  obtain rfl : u = Value.ref a := ry
  exact d_in hu I g rx fun s' I' => ⟨.bl o.isSome, H, I', rfl, q⟩
theorem d_inDct (hu : X.A.units + 1 < cLine) : OpD X (compareOp .In) (inDct false) := by
  refine ⟨_, op_inDct hu, fun Wp ρ H S d e x y Q w rx ry p => ?_⟩
  unfold inDct at p
  split at p
  · rename_i pr k ep ek
    obtain ⟨a, kvs, e1, h1, e2, r2⟩ := asD_rep w ry ep
    refine ⟨a, valV kvs k, e1, .inl ⟨kvs, k, h1, rep_keyD rx ek, rfl⟩, ?_⟩
    rw [(getK_rep (y := k) r2).2, ← e2]
    exact post_ok p w mk_bl
  · exact p.elim
/-- len(d) -/
theorem call_lenRd : CallR X (.builtin "len") (fun xs H Q => ∃ a kvs, xs = [V.ref a] ∧ Rd H a (.dK kvs) ∧ Q (.int kvs.length) H) := by
  intro pins s σ H xs us Q I r h
  obtain ⟨a, kvs, rfl, ha, q⟩ := h
  obtain ⟨u, rfl, ru⟩ := vals1 r
  cases ru
  exact L2.d_len I ha fun t s' I' => ⟨.int kvs.length, H, I', ⟨t, rfl⟩, q⟩
theorem d_lenD : CallD X (.builtin "len") semLenD := by
  refine ⟨_, call_lenRd, fun Wp ρ H S ds xs Q w r p => ?_⟩
  unfold semLenD at p
  split at p
  · split at p
    · rename_i pr ep
      obtain ⟨v, e, h1⟩ := repL_one r
      obtain ⟨a, kvs, e1, h2, e2, r2⟩ := asD_rep w h1 ep
      refine ⟨a, kvs, by rw [e, e1], h2, ?_⟩
      rw [e2, List.length_map] at p
      exact post_ok p w mk_int
    · exact p.elim
  · exact p.elim
def rSetU : V → V → V → Hp → (Hp → Prop) → Prop := fun o i v H Q => rSetL o i v H Q ∨ rSetD o i v H Q
theorem set_u (hu : X.A.units + 1 < cLine) : PSet X rSetU := by
  intro pins s σ H o i v ov iv u Q I ro ri rv h
  rcases h with h | h
  · exact set_list pins s σ H o i v ov iv u Q I ro ri rv h
  · exact set_dict hu pins s σ H o i v ov iv u Q I ro ri rv h
theorem setD_rep {K : PySem.W.Frag} {mg : Str → Option Value} {ρ : List Addr} {H : Hp} {S S' : Store} {o i v : D} {x y z : V} {Q : Hp → Prop} (w : WOk K mg ρ H S) (ro : Rep K mg ρ H o x) (ri : Rep K mg ρ H i y) (rv : Rep K mg ρ H v z) (h : setD o i v S = some S')
    (k : ∀ H', Ext ρ H ρ H' → WOk K mg ρ H' S' → Q H') : rSetU x y z H Q := by
  unfold setD at h
  split at h
  · rename_i n
    split at h
    · rename_i xs ex
      split at h
      · rename_i k0
        split at h
        · rename_i j ej
          cases h
          obtain ⟨a, vs, e1, q, h1, r1⟩ := ptr_lst w ro ex
          refine .inl ⟨a, vs, k0, j, e1, rep_int ri, h1, by rw [← r1.len]; exact ej, k _ (Ext.putL q) (w.put q ⟨_, upd_same, (r1.set rv j).ext (Ext.putL q)⟩)⟩
        · cases h
      · cases h
    · rename_i ks vs ex
      split at h
      · rename_i k0 ek
        split at h
        · rename_i hl
          cases h
          obtain ⟨a, kvs, e1, q, h1, r1, r2⟩ := ptr_dct w ro ex
          have eks := repK r1
          obtain ⟨z1, z2⟩ := putK_rep (y := k0) rv r2
          rw [← eks] at z1 z2
          refine .inr ⟨a, _, e1, .inl ⟨kvs, k0, h1, rep_keyD ri ek, ?_, rfl⟩, k _ (Ext.putL q) (w.put q ⟨putK kvs k0 z, by rw [if_neg Bool.false_ne_true]; exact upd_same, ?_, z2.ext (Ext.putL q)⟩)⟩
          · have e : ks.length = kvs.length := by rw [eks, List.length_map]
            rw [← e]
            have := line_of (n := ks.length + 1) (by omega)
            omega
          · rw [z1]; exact mkK _
        · cases h
      · cases h
    · cases h
  · cases h
theorem nx_sub (fo fi : EX) (d : D) (sl : Sl) (S : Store) : (∃ sl' S', gSubX fo fi d sl S = .nx sl' S') ∨ gSubX fo fi d sl S = .bad := by
  unfold gSubX
  split
  · split
    · split
      · exact .inl ⟨_, _, rfl⟩
      · exact .inr rfl
    · exact .inr rfl
  · exact .inr rfl
section
variable {W : WX} {o i e : Expr} {fo fi fe : EX} {pos : Pos}
theorem g_sub (hu : X.A.units + 1 < cLine) (ho : E X W o fo) (hi : E X W i fi)
    (ha : ∀ v, assign (.Subscript o i pos) X.env v = (do
      let ov ← holding [v] (eval o X.env)
      let iv ← holding [v, ov] (eval i X.env)
      standAt pos
      holding [v, ov, iv] (setItem ov iv v)
      release [v, ov, iv] []) := by intro _; rfl) : EG X W (.Subscript o i pos) (gSubX fo fi) := by
  refine PG.imp (pg_sub ho hi (set_u hu) ha) fun v σ H Q ⟨ρ, S, sl, d, w, rs, rv, p⟩ => ?_
  have p : PostS X.K X.mg W ρ H ⟨Q, fun _ _ => False, fun _ _ => False, fun _ _ => False⟩ (gSubX fo fi d sl S) := p
  unfold gSubX at p
  split at p
  · rename_i o' S1 eo
    split at p
    · rename_i i' S2 ei
      split at p
      · rename_i S3 es
        refine ⟨ρ, S, sl, w, rs, ?_⟩
        rw [eo]
        intro x ρ1 H1 x1 w1 r1
        refine ⟨ρ1, S1, sl, w1, rs.ext x1, ?_⟩
        rw [ei]
        intro y ρ2 H2 x2 w2 r2
        refine setD_rep w2 (r1.ext x2) r2 (rv.ext (x1.trans x2)) es fun H' xx ww => ?_
        have xt := (x1.trans x2).trans xx
        exact p _ ρ2 H' xt ww (rs.ext xt)
      · exact p.elim
    · exact p.elim
  · exact p.elim
theorem PostS.ofEx {K : PySem.W.Frag} {mg : Str → Option Value} {ρ : List Addr} {H : Hp} {W : WX} {Dd : Ends} {σ : L2.St} {sl : Sl} {o : Out D} {k : D → Store → SO} (rs : RSt K mg ρ H σ sl) (h : PostS K mg W ρ H Dd (o.toS sl k)) :
    PostE K mg (fun C d H' => W C d σ H') ρ H (fun v H1 => ∃ ρ1 S1 d, Ext ρ H ρ1 H1 ∧ WOk K mg ρ1 H1 S1 ∧ RSt K mg ρ1 H1 σ sl ∧ Rep K mg ρ1 H1 d v ∧ PostS K mg W ρ1 H1 Dd (k d S1)) o := by
  cases o with
  | ok d S => exact fun v ρ2 H2 y w r => ⟨ρ2, S, d, y, w, rs.ext y, r, PostS.from y h⟩
  | ex e S => exact fun C dd ρ2 H2 y w r => h C dd σ ρ2 H2 y w (rs.ext y) r
  | bad => exact h
end
end
end Z
namespace Z
open PySem PySem.Spec L2
section
variable {K : PySem.W.Frag} {mg : Str → Option Value} {ρ ρ' : List Addr} {H H' : Hp} {W : Value → Option Addr → Hp → Prop}
theorem asS_lst {S : Store} {d : D} {v : V} {ds : List D} (w : WOk K mg ρ H S) (r : Rep K mg ρ H d v) (h : asS S d = some ds) (hn : ∀ ys, d ≠ .tup ys ∧ d ≠ .tpx ys) : ∃ a vs, v = .ref a ∧ SqL K H a vs ∧ RepL K mg ρ H ds vs := by
  cases d with
  | tup xs => exact absurd rfl (hn xs).1
  | tpx xs => exact absurd rfl (hn xs).2
  | scr xs =>
    unfold asS at h
    cases h
    rw [Rep] at r
    obtain ⟨a, e, t⟩ := r
    exact ⟨a, _, e, t.sq, repL_ints xs⟩
  | lst xs =>
    obtain ⟨a, vs, e, h1, h2⟩ := asL_rep w r (show asL S (.lst xs) = some ds from h)
    exact ⟨a, vs, e, .inl (.inl h1), h2⟩
  | ptr n =>
    obtain ⟨a, vs, e, h1, h2⟩ := asL_rep w r (show asL S (.ptr n) = some ds from h)
    exact ⟨a, vs, e, .inl (.inl h1), h2⟩
  | _ => unfold asS asL at h; cases h
theorem PostO.bindE {Q : V → Hp → Prop} {o : Out (Option Int)} {k : Option Int → Store → Out D} (h : PostE K mg W ρ H Q (o.bind k)) :
    PostO K mg W ρ H (fun b H1 => ∃ ρ1 S1, Ext ρ H ρ1 H1 ∧ WOk K mg ρ1 H1 S1 ∧ PostE K mg W ρ1 H1 Q (k b S1)) o := by
  cases o with
  | ok d S => exact fun ρ2 H2 y w => ⟨ρ2, S, y, w, PostE.from y h⟩
  | ex e S => exact h
  | bad => exact h
end
section
variable {X : Cx} {W : WX}
/-- a slice's part -/
def EO (X : Cx) (W : WX) (e : Option Expr) (f : OX) : Prop := PO X e fun σ H Q => ∃ ρ S sl, WOk X.K X.mg ρ H S ∧ RSt X.K X.mg ρ H σ sl ∧ PostO X.K X.mg (fun C d H' => W C d σ H') ρ H Q (f sl S)
theorem o_none : EO X W none oNone := PO.imp po_none fun σ H Q ⟨ρ, S, sl, w, rs, p⟩ => p ρ H Ext.refl w
theorem o_int {e : Expr} {f : EX} (he : E X W e f) : EO X W (some e) (oInt f) := PO.imp (po_some he) fun σ H Q ⟨ρ, S, sl, w, rs, p⟩ => by
  refine ⟨ρ, S, sl, w, rs, ?_⟩
  have p : PostO X.K X.mg (fun C d H' => W C d σ H') ρ H Q ((f sl S).bind fun d S1 => match d with
    | .int i => .ok (some i) S1
    | _ => .bad) := p
  cases q : f sl S with
  | bad => rw [q] at p; exact p
  | ex e S1 => rw [q] at p; exact p
  | ok d S1 =>
    rw [q] at p
    intro v ρ1 H1 x1 w1 r1
    cases d with
    | int i => exact ⟨i, rep_int r1, p ρ1 H1 x1 w1⟩
    | _ => exact p.elim
theorem cutD_rep {K : PySem.W.Frag} {mg : Str → Option Value} {ρ : List Addr} {H : Hp} {xs : List D} {vs : List V} (lo hi : Option Int) (r : RepL K mg ρ H xs vs) : RepL K mg ρ H (cutD xs lo hi) (cutV vs lo hi) := by
  unfold cutD cutV
  rw [r.len]
  exact (r.drop _).take _
theorem cutD_all {xs : List D} {lo hi : Option Int} (h : HT.sIx xs.length 0 lo = 0 ∧ HT.sIx xs.length xs.length hi = xs.length) : cutD xs lo hi = xs := by
  unfold cutD
  rw [h.1, h.2]
  simp
theorem r_sl {hand : Bool} {a : Expr} {lo hi : Option Expr} {fa : EX} {fl fu : OX} {p2 pos : Pos} (ha : E X W a fa) (hl : EO X W lo fl) (hh : EO X W hi fu) : E X W (.Subscript a (.Slice lo hi none p2) pos) (eSl hand fa fl fu) := by
  refine PE.imp (pe_slice ((sl_list (X := X)).or ((sl_tupA (X := X)).or sl_str)) ha hl hh) fun σ H Q ⟨ρ, S, sl, w, rs, p⟩ => ?_
  refine ⟨ρ, S, sl, w, rs, PostE.mono (PostE.bindE p) fun x H1 ⟨ρ1, S1, d, x1, w1, r1, _, p1⟩ => ?_⟩
  refine ⟨ρ1, S1, sl, w1, rs.ext x1, PostO.mono (PostO.bindE p1) fun l H2 ⟨ρ2, S2, x2, w2, p2⟩ => ?_⟩
  refine ⟨ρ2, S2, sl, w2, rs.ext (x1.trans x2), PostO.mono (PostO.bindE p2) fun u H3 ⟨ρ3, S3, x3, w3, p3⟩ => ?_⟩
  have r3 := r1.ext (x2.trans x3)
  have go : ∀ xs, asS S3 d = some xs → (∀ ys, d ≠ .tup ys ∧ d ≠ .tpx ys) → PostE X.K X.mg (fun C d H' => W C d σ H') ρ3 H3 Q (if hand = true then .ok (.ptr S3.length) (S3 ++ [.lst (cutD xs l u)]) else .ok (.lst (cutD xs l u)) S3) → rSlL X.K x l u H3 Q := fun xs ex hn p => by
    obtain ⟨a, vs, e1, h1, r4⟩ := asS_lst w3 r3 ex hn
    refine ⟨a, vs, e1, h1, fun p' hp => ?_⟩
    cases hand with
    | true => rw [if_pos rfl] at p; exact post_lstH p w3 (cutD_rep l u r4) hp
    | false => rw [if_neg Bool.false_ne_true] at p; exact post_lst p w3 (cutD_rep l u r4) hp
  cases d with
  | str s =>
    unfold semSl at p3
    simp only at p3
    split at p3
    · rename_i hl
      exact .inr (.inr ⟨s, rep_str r3, line_of hl, post_ok p3 w3 mk_str⟩)
    · exact p3.elim
  | tup xs =>
    have p3 : PostE X.K X.mg (fun C d H' => W C d σ H') ρ3 H3 Q (.ok (.tup (cutD xs l u)) S3) := p3
    have r3' := r3
    rw [Rep] at r3
    obtain ⟨a, vs, e1, t, r4⟩ := r3
    refine .inr (.inl ⟨a, vs, e1, t.sq, fun h => ?_, fun h p' hp => post_tup p3 w3 (cutD_rep l u r4) hp⟩)
    rw [← r4.len] at h
    rw [cutD_all h] at p3
    rw [← e1]
    exact post_ok p3 w3 r3'
  | lst xs => exact .inl (go xs rfl (by intros; exact ⟨nofun, nofun⟩) p3)
  | scr xs => exact .inl (go _ rfl (by intros; exact ⟨nofun, nofun⟩) p3)
  | ptr n =>
    have p3 : PostE X.K X.mg (fun C d H' => W C d σ H') ρ3 H3 Q (match asS S3 (.ptr n) with
      | some xs => if hand = true then .ok (.ptr S3.length) (S3 ++ [.lst (cutD xs l u)]) else .ok (.lst (cutD xs l u)) S3
      | none => .bad) := p3
    split at p3
    · rename_i ys ey
      exact .inl (go ys ey (by intros; exact ⟨nofun, nofun⟩) p3)
    · exact p3.elim
  | _ => exact p3.elim
end
end Z
namespace Z
open PySem PySem.Spec L2 Za
section
variable {X : Cx} {W : WX} {tg e : Expr}
theorem pi_or {t1 t2 : TI} (h1 : PI X tg e t1) (h2 : PI X tg e t2) : PI X tg e fun σ H R => t1 σ H R ∨ t2 σ H R := ⟨fun pins s σ H R I h => by
  rcases h with h | h
  · exact h1.run pins s σ H R I h
  · exact h2.run pins s σ H R I h⟩
/-- a dict's keys: the dict is locked for good -/
theorem pi_keysF {td : TE} (he : PE X e td) : PI X tg e fun σ H R => td σ H fun x H1 => ∃ d kvs, x = .ref d ∧ ((H1 d = some (.dK kvs) ∧ ∀ o, R (Itk d o kvs) (upd H1 d (.frz o (.dK kvs)))) ∨ ∃ o, H1 d = some (.frz o (.dK kvs)) ∧ R (Itk d o kvs) H1) := by
  refine ⟨fun pins s σ H R I h => ?_⟩
  refine thn (he.run pins s σ H _ I h) fun u s1 ⟨x, H1, I1, rx, d, kvs, ex, q⟩ => ?_
  subst ex
  obtain rfl : u = Value.ref d := rx
  have go : ∀ (H2 : Hp) (o : Obj), Inv X pins σ H2 s1 → H2 d = some (.frz o (.dK kvs)) → R (Itk d o kvs) H2 → wpAny (model X.prog X.w) X.A (pyIter (.ref d)) (PIE X pins σ tg R) X.xe s1 := fun H2 o I2 hd q => by
    obtain ⟨hs, hgd, hx, es, ep, vs, hdt, hsz, kv, hm⟩ := I2.frzK hd
    refine iter_keys hs hgd hx hdt (pi_one (tk := s1.toks) I2 _ (turn_keys _ hdt) ⟨_, Heap.get?_push_size _ rfl, rfl, ?_⟩ q)
    rw [hsz] <;> rfl
  rcases q with ⟨hd, q⟩ | ⟨o, hd, q⟩
  · obtain ⟨od, I2⟩ := I1.lock hd trivial
    exact go _ od I2 upd_same (q od)
  · exact go _ o I1 hd q
end
section
variable {K : PySem.W.Frag} {mg : Str → Option Value} {ρ : List Addr} {H : Hp} {S : Store}
theorem mk_signs : ∀ (l : List Nat), RepL K mg ρ H (l.map fun c => D.str ⟨#[c]⟩) (l.map fun c => V.str ⟨#[c]⟩)
  | [] => RepL.nil
  | c :: l => RepL.cons mk_str (mk_signs l)
theorem src_rep {d : D} {v : V} {xs : List D} (w : WOk K mg ρ H S) (r : Rep K mg ρ H d v) (h : srcD S d = some xs) :
    ∃ c : Src, c.val = v ∧ ∀ ρ' H' S' xs', Ext ρ H ρ' H' → WOk K mg ρ' H' S' → srcD S' d = some xs' → ∃ vs, c.At K H' vs ∧ RepL K mg ρ' H' xs' vs := by
  have lst : (∀ ys, d ≠ .tup ys ∧ d ≠ .tpx ys) → (∀ s, d ≠ .str s) → asS S d = some xs → ∃ c : Src, c.val = v ∧ ∀ ρ' H' S' xs', Ext ρ H ρ' H' → WOk K mg ρ' H' S' → srcD S' d = some xs' → ∃ vs, c.At K H' vs ∧ RepL K mg ρ' H' xs' vs := fun hn hs e => by
    obtain ⟨a, vs, e1, _, _⟩ := asS_lst w r e hn
    refine ⟨.L a, e1.symm, fun ρ' H' S' xs' x w' e' => ?_⟩
    have e'' : asS S' d = some xs' := by
      cases d with
      | str s => exact absurd rfl (hs s)
      | _ => exact e'
    obtain ⟨a', vs', e2, h2, r2⟩ := asS_lst w' (r.ext x) e'' hn
    rw [e1] at e2
    cases e2
    exact ⟨vs', h2, r2⟩
  cases d with
  | str s =>
    refine ⟨.S s, (rep_str r).symm, fun ρ' H' S' xs' x w' e' => ?_⟩
    cases e'
    exact ⟨_, rfl, mk_signs _⟩
  | tup ys =>
    cases h
    have r' := r
    rw [Rep] at r
    obtain ⟨a, vs, e1, t, r1⟩ := r
    refine ⟨.T a, e1.symm, fun ρ' H' S' xs' x w' e' => ?_⟩
    cases e'
    have r2 := r'.ext x
    rw [Rep] at r2
    obtain ⟨a', vs', e2, t', r3⟩ := r2
    rw [e1] at e2
    cases e2
    exact ⟨vs', t'.sq, r3⟩
  | tpx ys =>
    cases h
    have r' := r
    rw [Rep] at r
    obtain ⟨a, vs, e1, t, r1⟩ := r
    refine ⟨.T a, e1.symm, fun ρ' H' S' xs' x w' e' => ?_⟩
    cases e'
    have r2 := r'.ext x
    rw [Rep] at r2
    obtain ⟨a', vs', e2, t', r3⟩ := r2
    rw [e1] at e2
    cases e2
    exact ⟨vs', t'.sq, r3⟩
  | lst ys => exact lst (by intros; exact ⟨nofun, nofun⟩) (by intros; nofun) h
  | scr ys => exact lst (by intros; exact ⟨nofun, nofun⟩) (by intros; nofun) h
  | ptr n => exact lst (by intros; exact ⟨nofun, nofun⟩) (by intros; nofun) h
  | _ => cases h
/-- walking a source's items as they are -/
theorem walk_src {c : Src} {d : D} {xs : List D} (hq : ∀ ρ' H' S', Ext ρ H ρ' H' → WOk K mg ρ' H' S' → srcD S' d = some xs → ∃ vs, c.At K H' vs ∧ RepL K mg ρ' H' xs vs) {J : It}
    (hJ : J = match c with
      | .L a => Itl K a
      | .T a => Itt K a
      | .S x => Its x) : IWalk K mg J xs (fun S' => srcD S' d = some xs) ρ H := by
  subst hJ
  cases c with
  | L a =>
    refine ⟨fun i ρ' H' S' hi x w g => ?_, fun ρ' H' S' x w g => ?_, fun i ρ' H' S' v H2 hi x w g y => ?_⟩
    · obtain ⟨vs, h1, r1⟩ := hq ρ' H' S' x w g
      exact ⟨vs, vs[i]'(by rw [← r1.len]; exact hi), h1, by simp⟩
    · obtain ⟨vs, h1, r1⟩ := hq ρ' H' S' x w g
      exact ⟨vs, h1, by rw [r1.len]; exact Nat.le_refl _⟩
    · obtain ⟨vs, h1, r1⟩ := hq ρ' H' S' x w g
      obtain ⟨rfl, y⟩ := y
      obtain ⟨d', e, r⟩ := r1.get' (y vs h1)
      exact ⟨d', e, Ext.refl, w, r⟩
  | T a =>
    refine ⟨fun i ρ' H' S' hi x w g => ?_, fun ρ' H' S' x w g => ?_, fun i ρ' H' S' v H2 hi x w g y => ?_⟩
    · obtain ⟨vs, h1, r1⟩ := hq ρ' H' S' x w g
      exact ⟨vs, vs[i]'(by rw [← r1.len]; exact hi), h1, by simp⟩
    · obtain ⟨vs, h1, r1⟩ := hq ρ' H' S' x w g
      exact ⟨vs, h1, by rw [r1.len]; exact Nat.le_refl _⟩
    · obtain ⟨vs, h1, r1⟩ := hq ρ' H' S' x w g
      obtain ⟨rfl, y⟩ := y
      obtain ⟨d', e, r⟩ := r1.get' (y vs h1)
      exact ⟨d', e, Ext.refl, w, r⟩
  | S s =>
    refine ⟨fun i ρ' H' S' hi x w g => ?_, fun ρ' H' S' x w g => ?_, fun i ρ' H' S' v H2 hi x w g y => ?_⟩
    · obtain ⟨vs, h1, r1⟩ := hq ρ' H' S' x w g
      have h1 : vs = s.cps.toList.map fun c => V.str ⟨#[c]⟩ := h1
      have := r1.len
      rw [h1, List.length_map] at this
      show i < s.cps.size
      rw [this] at hi
      simpa using hi
    · obtain ⟨vs, h1, r1⟩ := hq ρ' H' S' x w g
      have h1 : vs = s.cps.toList.map fun c => V.str ⟨#[c]⟩ := h1
      have := r1.len
      rw [h1, List.length_map] at this
      show s.cps.size ≤ xs.length
      rw [this]
      simp
    · obtain ⟨vs, h1, r1⟩ := hq ρ' H' S' x w g
      have h1 : vs = s.cps.toList.map fun c => V.str ⟨#[c]⟩ := h1
      obtain ⟨rfl, c, ec, ev⟩ := y
      obtain ⟨d', e, r⟩ := r1.get' (i := i) (v := v) (by rw [h1, ev]; simp [ec])
      exact ⟨d', e, Ext.refl, w, r⟩
end
section
variable {X : Cx} {W : WX} {tg e e2 : Expr} {f : EX} {fa : AX} {p pos tpos : Pos} {elts : List Expr} {kk : Nat}
def itK : D → Store → Out (List D × (Store → Prop)) := fun d S1 => match d with
  | .dct ks vs => .ok (ks, fun _ => True) S1
  | d => (match srcD S1 d with
    | some xs => .ok (xs, fun S2 => srcD S2 d = some xs) S1
    | none => .bad)
def itAny (f : EX) : IX := fun sl S => (f sl S).bind itK
theorem post_i {K : PySem.W.Frag} {mg : Str → Option Value} {ρ : List Addr} {H : Hp} {S : Store} {Wp : Value → Option Addr → Hp → Prop} {R : It → Hp → Prop} {xs : List D} {G : Store → Prop} {J : It} (h : PostI K mg Wp ρ H R (.ok (xs, G) S)) (w : WOk K mg ρ H S) (i : IWalk K mg J xs G ρ H) : R J H := h ρ H J Ext.refl w i
theorem PostI.from {K : PySem.W.Frag} {mg : Str → Option Value} {ρ ρ' : List Addr} {H H' : Hp} {Wp : Value → Option Addr → Hp → Prop} {R : It → Hp → Prop} {o : Out (List D × (Store → Prop))} (x : Ext ρ H ρ' H') (h : PostI K mg Wp ρ H R o) : PostI K mg Wp ρ' H' R o := by
  cases o with
  | ok p S => exact fun ρ2 H2 J y w i => h ρ2 H2 J (x.trans y) w i
  | ex e S => exact fun C dd ρ2 H2 y w r => h C dd ρ2 H2 (x.trans y) w r
  | bad => exact h
theorem PostI.bindE {K : PySem.W.Frag} {mg : Str → Option Value} {ρ : List Addr} {H : Hp} {Wp : Value → Option Addr → Hp → Prop} {R : It → Hp → Prop} {o : Out D} {k : D → Store → Out (List D × (Store → Prop))} (h : PostI K mg Wp ρ H R (o.bind k)) :
    PostE K mg Wp ρ H (fun v H1 => ∃ ρ1 S1 d, Ext ρ H ρ1 H1 ∧ WOk K mg ρ1 H1 S1 ∧ Rep K mg ρ1 H1 d v ∧ o = .ok d S1 ∧ PostI K mg Wp ρ1 H1 R (k d S1)) o := by
  cases o with
  | ok d S => exact fun v ρ2 H2 y w r => ⟨ρ2, S, d, y, w, r, rfl, PostI.from y h⟩
  | ex e S => exact h
  | bad => exact h
theorem PostI.bindA {K : PySem.W.Frag} {mg : Str → Option Value} {ρ : List Addr} {H : Hp} {Wp : Value → Option Addr → Hp → Prop} {R : It → Hp → Prop} {o : Out (List D)} {k : List D → Store → Out (List D × (Store → Prop))} (h : PostI K mg Wp ρ H R (o.bind k)) :
    PostA K mg Wp ρ H (fun v H1 => ∃ ρ1 S1 d, Ext ρ H ρ1 H1 ∧ WOk K mg ρ1 H1 S1 ∧ RepL K mg ρ1 H1 d v ∧ PostI K mg Wp ρ1 H1 R (k d S1)) o := by
  cases o with
  | ok d S => exact fun v ρ2 H2 y w r => ⟨ρ2, S, d, y, w, r, PostI.from y h⟩
  | ex e S => exact h
  | bad => exact h
/-- a dict walked -/
theorem Ext.lock {ρ : List Addr} {H : Hp} {d : Addr} {o : Obj} {kvs : List (Key × V)} (n : d ∉ ρ) (h : H d = some (.dK kvs)) : Ext ρ H ρ (upd H d (.frz o (.dK kvs))) := by
  refine ⟨⟨[], by simp⟩, fun a h n => absurd h n, fun a u n' h' => ?_⟩
  by_cases q : a = d
  · subst q
    rw [h] at h'
    cases h'
    exact .inr ⟨⟨kvs, rfl⟩, o, upd_same⟩
  · exact .inl (by rw [upd_ne q]; exact h')
theorem WOk.lock {K : PySem.W.Frag} {mg : Str → Option Value} {ρ : List Addr} {H : Hp} {S : Store} {d : Addr} {o : Obj} {kvs : List (Key × V)} (w : WOk K mg ρ H S) (n : d ∉ ρ) (h : H d = some (.dK kvs)) : WOk K mg ρ (upd H d (.frz o (.dK kvs))) S := by
  have ne : ∀ a ∈ ρ, a ≠ d := fun a ha q => n (q ▸ ha)
  refine ⟨w.len, w.nd, fun a ha => by rw [upd_ne (ne a ha)]; exact w.tr a ha, fun n' a m e1 e2 => ?_⟩
  have ha : a ∈ ρ := List.mem_of_getElem? e1
  exact MRep.ext (Ext.lock n h) (upd_ne (ne a ha)) (w.ob n' a m e1 e2)
theorem walk_keys {K : PySem.W.Frag} {mg : Str → Option Value} {ρ : List Addr} {H : Hp} {d : Addr} {o : Obj} {kvs : List (Key × V)} (n : d ∉ ρ) (h : H d = some (.frz o (.dK kvs))) : IWalk K mg (Itk d o kvs) (kvs.map fun p => kD p.1) (fun _ => True) ρ H := by
  have st : ∀ ρ' H', Ext ρ H ρ' H' → H' d = some (.frz o (.dK kvs)) := fun ρ' H' x => x.kept n h (by intros; nofun)
  refine ⟨fun i ρ' H' S' hi x w g => ⟨st ρ' H' x, by simpa using hi⟩, fun ρ' H' S' x w g => ⟨st ρ' H' x, by simp⟩, fun i ρ' H' S' v H2 hi x w g y => ?_⟩
  obtain ⟨rfl, k, u, e, ev⟩ := y
  refine ⟨kD k, by rw [List.getElem?_map, e]; rfl, Ext.refl, w, ?_⟩
  rw [ev]
  exact mk_kV k
theorem i_any (he : E X W e f) : EI X W tg e (itAny f) := by
  refine PI.imp (pi_or (pi_or (pi_list (tg := tg) he) (pi_tup he)) (pi_or (pi_str he) (pi_keysF he))) fun σ H R ⟨ρ, S, sl, w, rs, p⟩ => ?_
  have p' := PostI.bindE p
  cases q : f sl S with
  | bad => rw [q] at p'; exact p'.elim
  | ex e S1 => exact .inl (.inl ⟨ρ, S, sl, w, rs, by rw [q] at p' ⊢; exact p'⟩)
  | ok d S1 =>
    have key : ∀ (g : V → Hp → Prop), (∀ v ρ1 H1, WOk X.K X.mg ρ1 H1 S1 → Rep X.K X.mg ρ1 H1 d v → PostI X.K X.mg (fun C d H' => W C d σ H') ρ1 H1 R (itK d S1) → g v H1) → trE X.K X.mg W f σ H g := fun g hg => ⟨ρ, S, sl, w, rs, PostE.mono p' fun v H1 ⟨ρ1, S1', d', x1, w1, r1, eq, p1⟩ => by
        rw [q] at eq
        cases eq
        exact hg v ρ1 H1 w1 r1 p1⟩
    have none_ : srcD S1 d = none → (∀ ks vs, d ≠ .dct ks vs) → ∀ (v : V) ρ1 H1, PostI X.K X.mg (fun C d H' => W C d σ H') ρ1 H1 R (itK d S1) → False := fun ex hn v ρ1 H1 p1 => by
      cases d with
      | dct ks vs => exact absurd rfl (hn ks vs)
      | _ => simp only [itK, ex] at p1; exact p1
    have lst : (∀ ks vs, d ≠ .dct ks vs) → (∀ ys, d ≠ .tup ys ∧ d ≠ .tpx ys) → (∀ s, d ≠ .str s) → iList X.K (trE X.K X.mg W f) σ H R := fun h1 h2 h3 => by
      refine key _ fun v ρ1 H1 w1 r1 p1 => ?_
      cases ex : srcD S1 d with
      | none => exact (none_ ex h1 v ρ1 H1 p1).elim
      | some xs =>
        have ex' : asS S1 d = some xs := by
          cases d with
          | str s => exact absurd rfl (h3 s)
          | _ => exact ex
        obtain ⟨a, vs, e1, g1, _⟩ := asS_lst w1 r1 ex' h2
        have p2 : PostI X.K X.mg (fun C d H' => W C d σ H') ρ1 H1 R (.ok (xs, fun S2 => srcD S2 d = some xs) S1) := by
          cases d with
          | dct ks vs => exact absurd rfl (h1 ks vs)
          | _ => simp only [itK, ex] at p1; exact p1
        refine ⟨a, e1, ⟨vs, g1⟩, post_i p2 w1 (walk_src (c := .L a) (fun ρ' H' S' x' w' g' => ?_) rfl)⟩
        have g'' : asS S' d = some xs := by
          cases d with
          | str s => exact absurd rfl (h3 s)
          | _ => exact g'
        obtain ⟨a', vs', e2, q2, r2⟩ := asS_lst w' (r1.ext x') g'' h2
        rw [e1] at e2
        cases e2
        exact ⟨vs', q2, r2⟩
    cases d with
    | dct ks vs =>
      refine .inr (.inr (key _ fun v ρ1 H1 w1 r1 p1 => ?_))
      have r1' := r1
      rw [Rep] at r1
      obtain ⟨a, kv, vs', e1, ⟨n, kvs, t, z1, z2⟩, r2, r3⟩ := r1
      subst z1 z2
      have ek := repK r2
      refine ⟨a, kvs, e1, ?_⟩
      have p1 : PostI X.K X.mg (fun C d H' => W C d σ H') ρ1 H1 R (.ok (ks, fun _ => True) S1) := p1
      rcases t with t | ⟨o, t⟩
      · refine .inl ⟨t, fun o => ?_⟩
        refine PostI.from (Ext.lock n t) p1 ρ1 _ _ Ext.refl (w1.lock n t) ?_
        rw [ek]
        exact walk_keys n upd_same
      · refine .inr ⟨o, t, post_i p1 w1 ?_⟩
        rw [ek]
        exact walk_keys n t
    | str s =>
      refine .inr (.inl (key _ fun v ρ1 H1 w1 r1 p1 => ?_))
      refine ⟨s, rep_str r1, ?_⟩
      exact post_i (show PostI X.K X.mg (fun C d H' => W C d σ H') ρ1 H1 R (.ok (signsD s, fun S2 => srcD S2 (.str s) = some (signsD s)) S1) from p1) w1 (walk_src (c := .S s) (fun ρ' H' S' x' w' g' => ⟨_, rfl, mk_signs _⟩) rfl)
    | tup ys =>
      refine .inl (.inr (key _ fun v ρ1 H1 w1 r1 p1 => ?_))
      have r1' := r1
      rw [Rep] at r1
      obtain ⟨a, vs, e1, t, r2⟩ := r1
      refine ⟨a, e1, ⟨vs, t.sq⟩, ?_⟩
      refine post_i (show PostI X.K X.mg (fun C d H' => W C d σ H') ρ1 H1 R (.ok (ys, fun S2 => srcD S2 (.tup ys) = some ys) S1) from p1) w1 (walk_src (c := .T a) (fun ρ' H' S' x' w' g' => ?_) rfl)
      have r3 := r1'.ext x'
      rw [Rep] at r3
      obtain ⟨a', vs', e2, t', r4⟩ := r3
      rw [e1] at e2
      cases e2
      exact ⟨vs', t'.sq, r4⟩
    | tpx ys =>
      refine .inl (.inr (key _ fun v ρ1 H1 w1 r1 p1 => ?_))
      have r1' := r1
      rw [Rep] at r1
      obtain ⟨a, vs, e1, t, r2⟩ := r1
      refine ⟨a, e1, ⟨vs, t.sq⟩, ?_⟩
      refine post_i (show PostI X.K X.mg (fun C d H' => W C d σ H') ρ1 H1 R (.ok (ys, fun S2 => srcD S2 (.tpx ys) = some ys) S1) from p1) w1 (walk_src (c := .T a) (fun ρ' H' S' x' w' g' => ?_) rfl)
      have r3 := r1'.ext x'
      rw [Rep] at r3
      obtain ⟨a', vs', e2, t', r4⟩ := r3
      rw [e1] at e2
      cases e2
      exact ⟨vs', t'.sq, r4⟩
    | _ => exact .inl (.inl (lst (by intros; nofun) (by intros; exact ⟨nofun, nofun⟩) (by intros; nofun)))
def rangeD (lo : Int) (n : Nat) : List D := (List.range n).map fun (i : Nat) => D.int (lo + i)
def itRange1 (fa : AX) : IX := fun sl S => (fa sl S).bind fun ds S1 => match ds with
  | [.int j] => if -(2 ^ 62) ≤ j ∧ j < 2 ^ 62 then .ok (rangeD 0 j.toNat, fun _ => True) S1 else .bad
  | _ => .bad
theorem walk_range {K : PySem.W.Frag} {mg : Str → Option Value} {ρ : List Addr} {H : Hp} (lo : Int) (n : Nat) : IWalk K mg (Itr lo n) (rangeD lo n) (fun _ => True) ρ H := by
  refine ⟨fun i ρ' H' S' hi x w g => by show i < n; simpa [rangeD] using hi, fun ρ' H' S' x w g => by show n ≤ _; simp [rangeD], fun i ρ' H' S' v H2 hi x w g y => ?_⟩
  obtain ⟨rfl, ev⟩ := y
  have hi : i < n := by simpa [rangeD] using hi
  exact ⟨.int (lo + i), by simp [rangeD, hi], Ext.refl, w, by rw [ev]; exact mk_int⟩
theorem i_range1 (ha : EA X W [e] fa) (hg : Gl X "range") (hm : X.mg "range" = none) (hs : starEach [e] X.env = [(false, eval e X.env)] := by rfl) : EI X W tg (.Call (.Name "range" p) [e] [] pos) (itRange1 fa) := by
  refine PI.imp (pi_range1 hg hm ha hs) fun σ H R ⟨ρ, S, sl, w, rs, p⟩ => ⟨ρ, S, sl, w, rs, PostA.mono (PostI.bindA p) fun vs H1 ⟨ρ1, S1, ds, x1, w1, r1, p1⟩ => ?_⟩
  split at p1
  · rename_i j
    split at p1
    · rename_i hj
      obtain ⟨v, e1, r2⟩ := repL_one r1
      rw [rep_int r2] at e1
      exact ⟨j, e1, hj.1, hj.2, post_i p1 w1 (walk_range 0 _)⟩
    · exact p1.elim
  · exact p1.elim
def zipD (xs ys : List D) : List D := List.zipWith (fun x y => .tup [x, y]) xs ys
def itZip (fa : AX) : IX := fun sl S => (fa sl S).bind fun ds S1 => match ds with
  | [d, e] => (match srcD S1 d, srcD S1 e with
    | some xs, some ys => .ok (zipD xs ys, fun S2 => srcD S2 d = some xs ∧ srcD S2 e = some ys) S1
    | _, _ => .bad)
  | _ => .bad
theorem i_zip (ha : EA X W [e, e2] fa) (hg : Gl X "zip") (hm : X.mg "zip" = none)
    (hs : starEach [e, e2] X.env = (false, eval e X.env) :: starEach [e2] X.env := by rfl) (hpl : (backTo pos (starEach [e2] X.env)).any (·.1) = false := by rfl) : EI X W (.Tuple elts kk tpos) (.Call (.Name "zip" p) [e, e2] [] pos) (itZip fa) := by
  refine PI.imp (pi_zipU hg hm ha hs hpl) fun σ H R ⟨ρ, S, sl, w, rs, p⟩ => ⟨ρ, S, sl, w, rs, PostA.mono (PostI.bindA p) fun vs H1 ⟨ρ1, S1, ds, x1, w1, r1, p1⟩ => ?_⟩
  split at p1
  · rename_i d d'
    split at p1
    · rename_i xs ys ex ey
      obtain ⟨v, u, e1, r2, r3⟩ := repL_two r1
      obtain ⟨c, ec, hc⟩ := src_rep w1 r2 ex
      obtain ⟨c', ec', hc'⟩ := src_rep w1 r3 ey
      obtain ⟨us, h1, _⟩ := hc ρ1 H1 S1 xs Ext.refl w1 ex
      obtain ⟨us', h1', _⟩ := hc' ρ1 H1 S1 ys Ext.refl w1 ey
      refine ⟨c, c', us, us', by rw [e1, ec, ec'], h1, h1', post_i p1 w1 ?_⟩
      refine ⟨fun i ρ' H' S' hi x w g => ?_, fun ρ' H' S' x w g => ?_, fun i ρ' H' S' v H2 hi x w g y => ?_⟩
      · obtain ⟨vs, q1, t1⟩ := hc ρ' H' S' xs x w g.1
        obtain ⟨vs', q2, t2⟩ := hc' ρ' H' S' ys x w g.2
        simp only [zipD, List.length_zipWith] at hi
        have l1 := t1.len
        have l2 := t2.len
        exact ⟨vs, vs', vs[i]'(by omega), vs'[i]'(by omega), q1, q2, by simp, by simp⟩
      · obtain ⟨vs, q1, t1⟩ := hc ρ' H' S' xs x w g.1
        obtain ⟨vs', q2, t2⟩ := hc' ρ' H' S' ys x w g.2
        have l1 := t1.len
        have l2 := t2.len
        refine ⟨vs, vs', q1, q2, ?_⟩
        simp only [zipD, List.length_zipWith]
        omega
      · obtain ⟨vs, q1, t1⟩ := hc ρ' H' S' xs x w g.1
        obtain ⟨vs', q2, t2⟩ := hc' ρ' H' S' ys x w g.2
        obtain ⟨T, a, b, ev, hT, rfl, y1, y2⟩ := y
        obtain ⟨d1, g1, k1⟩ := t1.get' (y1 vs q1)
        obtain ⟨d2, g2, k2⟩ := t2.get' (y2 vs' q2)
        refine ⟨.tup [d1, d2], by simp [zipD, List.getElem?_zipWith, g1, g2], Ext.new' hT, w.new' hT, ?_⟩
        rw [Rep]
        exact ⟨T, _, ev, .inl ⟨w.nin hT, upd_same⟩, RepL.cons (k1.ext (Ext.new' hT)) (RepL.cons (k2.ext (Ext.new' hT)) RepL.nil)⟩
    · exact p1.elim
  · exact p1.elim
end
end Z
namespace Z
open PySem PySem.Spec L2
theorem wipe_set {σ : L2.St} {i : Nat} {x : Option V} : ∀ {vs : List Nat}, i ∈ vs → wipe (σ.set i x) vs = wipe σ vs
  | v :: vs, h => by
    rw [wipe, wipe]
    by_cases hi : i = v
    · subst hi
      by_cases hv : i ∈ vs
      · rw [wipe_set hv]
      · have : ∀ ws : List Nat, i ∉ ws → wipe (σ.set i x) ws = (wipe σ ws).set i x := by
          intro ws
          induction ws with
          | nil => intro _; rfl
          | cons w ws ih =>
            intro hn
            rw [wipe, wipe, ih (fun q => hn (List.mem_cons_of_mem _ q))]
            exact List.set_comm _ _ (fun q => hn (by rw [q]; exact List.mem_cons_self))
        rw [this vs hv, List.set_set]
    · rw [wipe_set (by rcases List.mem_cons.mp h with q | q; exact absurd q hi; exact q)]
theorem wipe_wipe {σ : L2.St} : ∀ {vs us : List Nat}, (∀ v ∈ us, v ∈ vs) → wipe (wipe σ us) vs = wipe σ vs
  | vs, [], _ => rfl
  | vs, u :: us, h => by
    rw [show wipe σ (u :: us) = (wipe σ us).set u none from rfl, wipe_set (h u List.mem_cons_self)]
    exact wipe_wipe fun v hv => h v (List.mem_cons_of_mem _ hv)
def trGsw (K : PySem.W.Frag) (mg : Str → Option Value) (W : WX) (vs : List Nat) (ω : L2.St) (g : GXs) : TGs := fun v σ H Q => ∃ ρ S sl d, WOk K mg ρ H S ∧ RSt K mg ρ H σ sl ∧ RepL K mg ρ H d v ∧ L2.wipe σ vs = ω ∧ PostS K mg W ρ H ⟨fun σ' H' => L2.wipe σ' vs = ω → Q σ' H', fun _ _ => False, fun _ _ => False, fun _ _ => False⟩ (g d sl S)
def EGsw (X : Cx) (W : WX) (vs : List Nat) (tg : List Expr) (g : GXs) : Prop := ∀ ω, PGs X tg (trGsw X.K X.mg W vs ω g)
section
variable {X : Cx} {W : WX} {vs : List Nat} {pos : Pos}
theorem gw_name {i : Nat} {x : Str} (hN : X.N.Nodup) (hi : X.N[i]? = some x := by rfl) (hx : Loc X.env.scope x := by first | exact Or.inl rfl | exact Or.inr rfl) (hf : X.fn x = true ∨ X.env.scope.names.lookup x = some .local := by first | exact .inl rfl | exact .inr rfl) (hv : i ∈ vs := by decide) : EGw X W vs (.Name x pos) (gSet i) := fun ω =>
  PG.imp (pg_name hN hi hx hf) fun v σ H Q ⟨ρ, S, sl, d, w, rs, rv, ew, p⟩ => p _ ρ H Ext.refl w (rs.set rv i) (by rw [wipe_set hv]; exact ew)
theorem gsw_nil : EGsw X W vs [] gNilX := fun ω => PGs.imp pgs_nil fun v σ H Q ⟨ρ, S, sl, ds, w, rs, rv, ew, p⟩ => by
  cases ds with
  | nil =>
    rw [RepL] at rv
    exact ⟨rv, p _ ρ H Ext.refl w rs ew⟩
  | cons d r => exact p.elim
theorem gsw_cons {t : Expr} {ts : List Expr} {g : GX} {gs : GXs} (h : EGw X W vs t g) (hr : EGsw X W vs ts gs) (hs : (assignEach (t :: ts) X.env).map (·.2) = assign t X.env :: (assignEach ts X.env).map (·.2) := by rfl) : EGsw X W vs (t :: ts) (gConsX g gs) := fun ω =>
  PGs.imp (pgs_cons (h ω) (hr ω) hs) fun v σ H Q ⟨ρ, S, sl, ds, w, rs, rv, ew, p⟩ => by
    cases ds with
    | nil => exact p.elim
    | cons d r =>
      rw [RepL] at rv
      obtain ⟨v1, vr, e, h1, h2⟩ := rv
      subst e
      refine ⟨v1, vr, rfl, ρ, S, sl, d, w, rs, h1, ew, ?_⟩
      have p : PostS X.K X.mg W ρ H ⟨fun σ' H' => L2.wipe σ' vs = ω → Q σ' H', fun _ _ => False, fun _ _ => False, fun _ _ => False⟩ ((g d sl S).then (gs r)) := p
      cases q : g d sl S with
      | nx sl1 S1 =>
        rw [q] at p
        exact fun σ1 ρ1 H1 x1 w1 r1 e1 => ⟨ρ1, S1, sl1, r, w1, r1, h2.ext x1, e1, PostS.from x1 p⟩
      | bk sl1 S1 => rw [q] at p; exact p
      | ct sl1 S1 => rw [q] at p; exact p
      | rt d1 S1 => rw [q] at p; exact p
      | ex e1 sl1 S1 => rw [q] at p; exact p
      | bad => rw [q] at p; exact p
theorem gw_tup {es : List Expr} {k : Nat} {gs : GXs} {n : Nat} (hc : X.calm = true) (h : EGsw X W vs es gs) (hl : ∀ ds sl S, gs ds sl S ≠ .bad → ds.length = n) (hn : (assignEach es X.env).length = n := by rfl) (hst : (assignEach es X.env).findIdx? (·.1) = none := by rfl) : EGw X W vs (.Tuple es k pos) (gTupX gs) := fun ω =>
  PG.imp (pg_tup hc (h ω) hn hst) fun v σ H Q ⟨ρ, S, sl, d, w, rs, rv, ew, p⟩ => by
    cases d with
    | tup ds =>
      rw [Rep] at rv
      obtain ⟨a, us, e, t, r⟩ := rv
      have p : PostS X.K X.mg W ρ H ⟨fun σ' H' => L2.wipe σ' vs = ω → Q σ' H', fun _ _ => False, fun _ _ => False, fun _ _ => False⟩ (gs ds sl S) := p
      exact ⟨a, us, e, t.sq, by rw [← r.len]; exact hl ds sl S (fun q => by rw [q] at p; exact p), ρ, S, sl, ds, w, rs, r, ew, p⟩
    | tpx ds =>
      rw [Rep] at rv
      obtain ⟨a, us, e, t, r⟩ := rv
      have p : PostS X.K X.mg W ρ H ⟨fun σ' H' => L2.wipe σ' vs = ω → Q σ' H', fun _ _ => False, fun _ _ => False, fun _ _ => False⟩ (gs ds sl S) := p
      exact ⟨a, us, e, t.sq, by rw [← r.len]; exact hl ds sl S (fun q => by rw [q] at p; exact p), ρ, S, sl, ds, w, rs, r, ew, p⟩
    | _ => exact p.elim
def bTrue : BX := fun _ S => .ok true S
def ETs (X : Cx) (W : WX) (ifs : List Expr) (f : BX) : Prop := PTs X ifs (trB X.K X.mg W f)
theorem ts_nil : ETs X W [] bTrue := PTs.imp pts_nil fun σ H Q ⟨ρ, S, sl, w, rs, p⟩ => p ρ H Ext.refl w
end
def WF : WX := fun _ _ _ _ => False
noncomputable def lcL (G : Store → Prop) (g : GX) (bt : BX) (fe : EX) (n : Nat) (sl : Sl) : List D → Store → Out Unit
  | [], S => open Classical in if G S then .ok () S else .bad
  | x :: xs, S => open Classical in if G S then (match g x sl S with
    | .nx sl1 S1 => (match bt sl1 S1 with
      | .ok true S2 => (match fe sl1 S2 with
        | .ok d S3 => (match S3[n]? with
          | some (.lst acc) => if acc.length < 1000000 then lcL G g bt fe n sl xs (S3.set n (.lst (acc ++ [d]))) else .bad
          | _ => .bad)
        | _ => .bad)
      | .ok false S2 => lcL G g bt fe n sl xs S2
      | _ => .bad)
    | _ => .bad) else .bad
/-- [fe for g in it if bt]: a new list by a handle -/
noncomputable def eLc (it : IX) (g : GX) (bt : BX) (fe : EX) (own : List Nat) : EX := fun sl S => (it sl S).bind fun p S1 => (lcL p.2 g bt fe S1.length (wipeS sl own) p.1 (S1 ++ [.lst []])).bind fun _ S2 => .ok (.ptr S1.length) S2
section
variable {X : Cx} {W : WX} {pos : Pos}
theorem lc_imp {it : IX} {g : GX} {bt : BX} {fe : EX} {own : List Nat} {K : PySem.W.Frag} {mg : Str → Option Value} {σ : L2.St} {H : Hp} {Q : VK} (h : trE K mg W (eLc it g bt fe own) σ H Q) :
    tLc (trI K mg W it) (trGw K mg WF own (L2.wipe σ own) g) (trB K mg WF bt) (trE K mg WF fe) own σ H Q := by
  obtain ⟨ρ, S, sl, w, rs, p⟩ := h
  refine ⟨ρ, S, sl, w, rs, ?_⟩
  have p : PostE K mg (fun C d H' => W C d σ H') ρ H Q ((it sl S).bind fun p S1 => (lcL p.2 g bt fe S1.length (wipeS sl own) p.1 (S1 ++ [.lst []])).bind fun _ S2 => .ok (.ptr S1.length) S2) := p
  cases q : it sl S with
  | bad => rw [q] at p; exact p
  | ex e S1 => rw [q] at p; exact p
  | ok pr S1 =>
    rw [q] at p
    obtain ⟨xs, G⟩ := pr
    intro ρ1 H1 J x1 w1 iw D hD
    have p1 : PostE K mg (fun C d H' => W C d σ H') ρ1 H1 Q ((lcL G g bt fe S1.length (wipeS sl own) xs (S1 ++ [.lst []])).bind fun _ S2 => .ok (.ptr S1.length) S2) := PostE.from x1 p
    have x2 : Ext ρ1 H1 (ρ1 ++ [D]) (upd H1 D (.lst [])) := Ext.hand hD
    have w2 : WOk K mg (ρ1 ++ [D]) (upd H1 D (.lst [])) (S1 ++ [.lst []]) := w1.hand hD ⟨[], upd_same, RepL.nil⟩
    have rw' : RSt K mg (ρ1 ++ [D]) (upd H1 D (.lst [])) (L2.wipe σ own) (wipeS sl own) := ((rs.ext x1).ext x2).wipe own
    have hDn : (ρ1 ++ [D])[S1.length]? = some D := by rw [← w1.len]; simp
    refine ⟨fun i m H' => i + m = xs.length ∧ ∃ ρ' S', Ext (ρ1 ++ [D]) (upd H1 D (.lst [])) ρ' H' ∧ WOk K mg ρ' H' S' ∧ PostE K mg (fun C d H' => W C d σ H') ρ' H' Q ((lcL G g bt fe S1.length (wipeS sl own) (xs.drop i) S').bind fun _ S2 => .ok (.ptr S1.length) S2),
      ⟨xs.length, by simp, ρ1 ++ [D], _, Ext.refl, w2, PostE.from x2 (by simpa using p1)⟩, ?_⟩
    rintro i m H3 ⟨hm, ρ3, S3, x3, w3, p3⟩
    cases m with
    | zero =>
      have hi : i = xs.length := by omega
      subst hi
      rw [List.drop_length, lcL] at p3
      by_cases hG : G S3
      · rw [if_pos hG] at p3
        refine .inl ⟨iw.stop ρ3 H3 S3 (x2.trans x3) w3 hG, ?_⟩
        exact post_ok (d := .ptr S1.length) p3 w3 (by rw [Rep]; exact ⟨D, rfl, x3.get hDn⟩)
      · rw [if_neg hG] at p3; exact p3.elim
    | succ m =>
      have hlt : i < xs.length := by omega
      have hd : xs.drop i = xs[i] :: xs.drop (i + 1) := (List.getElem_cons_drop hlt).symm
      rw [hd, lcL] at p3
      by_cases hG : G S3
      · rw [if_pos hG] at p3
        refine .inr ⟨iw.go i ρ3 H3 S3 hlt (x2.trans x3) w3 hG, fun H' => ∃ ρ' S', Ext (ρ1 ++ [D]) (upd H1 D (.lst [])) ρ' H' ∧ WOk K mg ρ' H' S' ∧ PostE K mg (fun C d H' => W C d σ H') ρ' H' Q ((lcL G g bt fe S1.length (wipeS sl own) (xs.drop (i + 1)) S').bind fun _ S2 => .ok (.ptr S1.length) S2), fun H' n => ⟨m, Nat.lt_succ_self m, by omega, n⟩, ?_⟩
        intro v H4 y
        obtain ⟨d, e, x4, w4, r4⟩ := iw.yld i ρ3 H3 S3 v H4 hlt (x2.trans x3) w3 hG y
        have ed : d = xs[i] := by rw [List.getElem?_eq_getElem hlt] at e; exact (Option.some.inj e).symm
        subst ed
        refine ⟨ρ3, S3, wipeS sl own, xs[i], w4, (rw'.ext (x3.trans x4)), r4, wipe_wipe (fun _ h => h), ?_⟩
        cases q1 : g xs[i] (wipeS sl own) S3 with
        | nx sl5 S5 =>
          rw [q1] at p3
          simp only at p3
          intro σ5 ρ5 H5 x5 w5 r5 e5
          refine ⟨e5, ρ5, S5, sl5, w5, r5, ?_⟩
          have x35 := (x3.trans x4).trans x5
          have p5 := PostE.from (x4.trans x5) p3
          cases q2 : bt sl5 S5 with
          | bad => rw [q2] at p5; exact p5.elim
          | ex e S6 => rw [q2] at p5; exact p5.elim
          | ok b S6 =>
            rw [q2] at p5
            intro ρ6 H6 x6 w6
            have p6 := PostE.from x6 p5
            cases b with
            | false =>
              rw [if_neg Bool.false_ne_true]
              exact ⟨ρ6, S6, x35.trans x6, w6, p6⟩
            | true =>
              rw [if_pos rfl]
              refine ⟨ρ6, S6, sl5, w6, r5.ext x6, ?_⟩
              simp only at p6
              cases q3 : fe sl5 S6 with
              | bad => rw [q3] at p6; exact p6.elim
              | ex e S7 => rw [q3] at p6; exact p6.elim
              | ok d7 S7 =>
                rw [q3] at p6
                intro v7 ρ7 H7 x7 w7 r7
                have p7 := PostE.from x7 p6
                simp only at p7
                have x37 := (x35.trans x6).trans x7
                have hDn7 := x37.get hDn
                split at p7
                · rename_i acc ea
                  split at p7
                  · rename_i hl
                    obtain ⟨us, h1, ra⟩ := w7.ob S1.length D _ hDn7 ea
                    refine ⟨us, h1, by rw [← ra.len]; have := line_of (n := acc.length + 1) (by omega); omega, ?_⟩
                    have hx : Ext ρ7 H7 ρ7 (upd H7 D (.lst (us ++ [v7]))) := Ext.putL hDn7
                    exact ⟨ρ7, _, x37.trans hx, w7.put (m := .lst (acc ++ [d7])) hDn7 ⟨_, upd_same, (ra.append (RepL.cons r7 RepL.nil)).ext hx⟩, PostE.from hx p7⟩
                  · exact p7.elim
                · exact p7.elim
        | bk sl4 S4 => rw [q1] at p3; exact p3.elim
        | ct sl4 S4 => rw [q1] at p3; exact p3.elim
        | rt d4 S4 => rw [q1] at p3; exact p3.elim
        | ex e4 sl4 S4 => rw [q1] at p3; exact p3.elim
        | bad => rw [q1] at p3; exact p3.elim
      · rw [if_neg hG] at p3; exact p3.elim
variable {elt tg iter : Expr} {ifs : List Expr} {scope : Scope} {own : List (Str × Nat)} {it : IX} {g : GX} {bt : BX} {fe : EX}
theorem tLc_mono {wi : TI} {g1 g2 : TG} {tt : TT} {te : TE} {vs : List Nat} {σ : L2.St} {H : Hp} {Q : VK} (k : ∀ x H' Q', g1 x (L2.wipe σ vs) H' Q' → g2 x (L2.wipe σ vs) H' Q') (kw : ∀ H R R', (∀ J H1, R J H1 → R' J H1) → wi σ H R → wi σ H R') (h : tLc wi g1 tt te vs σ H Q) : tLc wi g2 tt te vs σ H Q := by
  refine kw H _ _ (fun J H1 h D hD => ?_) h
  obtain ⟨W, h0, hs⟩ := h D hD
  refine ⟨W, h0, fun i m H' hw => ?_⟩
  rcases hs i m H' hw with h | ⟨hg, Nx, h1, h2⟩
  · exact .inl h
  · exact .inr ⟨hg, Nx, h1, fun x H2 y => k _ _ _ (h2 x H2 y)⟩
theorem trI_mono {K : PySem.W.Frag} {mg : Str → Option Value} {it : IX} {σ : L2.St} (H : Hp) (R R' : It → Hp → Prop) (k : ∀ J H1, R J H1 → R' J H1) (h : trI K mg W it σ H R) : trI K mg W it σ H R' := by
  obtain ⟨ρ, S, sl, w, rs, p⟩ := h
  refine ⟨ρ, S, sl, w, rs, ?_⟩
  cases q : it sl S with
  | bad => rw [q] at p; exact p
  | ex e S1 => rw [q] at p; exact p
  | ok pr S1 => rw [q] at p; exact fun ρ' H' J x w i => k _ _ (p ρ' H' J x w i)
theorem lc_imp' {K : PySem.W.Frag} {mg : Str → Option Value} {vs : List Nat} {σ : L2.St} {H : Hp} {Q : VK} (h : trE K mg W (eLc it g bt fe vs) σ H Q) : tLc (trI K mg W it) (trGa K mg WF vs g) (trB K mg WF bt) (trE K mg WF fe) vs σ H Q := by
  refine tLc_mono (fun x H' Q' q => ?_) (fun H R R' k h => trI_mono H R R' k h) (lc_imp h)
  unfold trGa
  rw [wipe_wipe (fun _ h => h)]
  exact q
theorem r_lc (hc : X.calm = true) (hN : X.N.Nodup) (ok : BlkOk X.N X.env.scope scope own) (hi : EI X W tg iter it)
    (hg : ∀ (s : Shared) (H : Hp) (C : Addr) (cl : List (Str × Addr)) (fp : List Addr), EGw (X.blk s H scope (compEnvC scope cl C X.env) fp) WF (own.map (·.2)) tg g) (ht : ∀ (s : Shared) (H : Hp) (C : Addr) (cl : List (Str × Addr)) (fp : List Addr), ETs (X.blk s H scope (compEnvC scope cl C X.env) fp) WF ifs bt)
    (he : ∀ (s : Shared) (H : Hp) (C : Addr) (cl : List (Str × Addr)) (fp : List Addr), E (X.blk s H scope (compEnvC scope cl C X.env) fp) WF elt fe) (hs : ∀ x, foldedSetIterable iter X.env x = pure x := by intro _; rfl) :
    E X W (.ListComp elt [⟨tg, iter, ifs, 0⟩] scope pos) (eLc it g bt fe (own.map (·.2))) :=
  PE.imp (pe_lc (tt := trB X.K X.mg WF bt) (te := trE X.K X.mg WF fe) hc hN hi ok (fun s H C cl fp => (hg s H C cl fp).all) ht he hs) fun σ H Q h => lc_imp' h
theorem r_fin {e : Expr} {f : EX} (h : E X W e f) : E X W e (eFin f) := PE.imp h fun σ H Q ⟨ρ, S, sl, w, rs, p⟩ => ⟨ρ, S, sl, w, rs, fin_imp w p⟩
end
end Z
namespace Z
open PySem PySem.Spec L2 PyProof.Rows Za PySem.W
end Z
namespace Z
open PySem PySem.Spec L2
/-- a promise on data -/
def spZ (K : PySem.W.Frag) (mg : Str → Option Value) (g : SemL) : Sp := fun vs H Q E => ∃ ρ S ds, WOk K mg ρ H S ∧ RepL K mg ρ H ds vs ∧ PostE K mg E ρ H Q (g ds S)
abbrev FZ (P : Program) (w : World) (K : PySem.W.Frag) (mg : Str → Option Value) (base : Heap) (k : Nat) (f : Addr) (g : SemL) : Prop := FnR P w K mg base (Z.CX P w) k f (spZ K mg g)
/-- a def by its body, what it makes stays open -/
def defH (N : Nat) (body : SX) : SemL := fun ds S => (body (ds.map some ++ List.replicate (N - ds.length) none) S).out
section
variable {P : Program} {w : World} {K : PySem.W.Frag} {mg : Str → Option Value} {base : Heap}
theorem fz_of0 {f : Addr} {fd : FuncData} {ps : List Str} {k n : Nat} {g : SemL} (F : FnOk P w K mg base (Z.CX P w) k f fd ps (spOf K mg n g)) (hb : Binds K fd ps []) : FZ P w K mg base k f (arity n g) :=
  (F.raw hb .nil).imp fun vs H Q E ⟨ρ, S, ds, w0, r, p⟩ => by
    unfold arity at p
    split at p
    · rename_i hl
      exact ⟨ρ, S, ds, hl, w0, by rw [List.append_nil]; exact r, p⟩
    · exact p.elim
end
theorem takesF {X : Cx} : Takes X WF := fun u s' ⟨_, _, _, _, _, _, _, _, _, _, _, _, _, _, _, _, w⟩ => w.elim
section
variable {X : Cx} {W : WX} {k : Nat} {f C : Addr} {g : SemL} {x m : Str} {p pos apos : Pos} {e o : Expr} {es : List Expr} {fa : AX} {fo fe : EX}
theorem run_fnR {pins : List (Addr × Obj)} {σ : L2.St} {H : Hp} {s : Shared} {Q : VK} {us : List Value} {vs : List V} {sp : Sp} {E : XK} (F : FnR X.prog X.w X.K X.mg X.base (Z.CX X.prog X.w) k f sp) (hr : Room k X.A) (hx : PassesAt (Z.CX X.prog X.w) X σ E) (I : Inv X pins σ H s) (r : Vals vs us) (h : sp vs H Q E) :
    wpAny (model X.prog X.w) X.A (PySem.call (.ref f) us) (EP X pins σ Q) X.xe s := by
  refine wpAny_call (codeAny_mono (F X.A X.stack s H us vs Q E hr I.env0 r h) fun r s' hq => ?_)
  cases r with
  | error e => exact hx pins H s e s' I hq
  | ok fl =>
    cases fl with
    | ret u => exact I.after hq
    | next => exact False.elim hq
    | brk => exact False.elim hq
    | cont => exact False.elim hq
theorem r_callZ (tk : Takes X W) (F : FZ X.prog X.w X.K X.mg X.base k f g) (hr : Room k X.A) (hm : X.mg x = some (.ref f)) (hk : PySem.W.keepIn X.K (.ref f) = true)
    (ha : EA X W (e :: es) fa) (hg : Gl X x := by rfl) (hdb : (x == ("__debug__" : Str)) = false := by decide) (he : starEach (e :: es) X.env = (false, eval e X.env) :: starEach es X.env := by rfl) (hpl : (backTo pos (starEach es X.env)).any (·.1) = false := by rfl) :
    E X W (.Call (.Name x p) (e :: es) [] pos) (eArgs g fa) := by
  refine ⟨fun pins s σ H Q I h => ?_⟩
  refine wpAny_Call_Name_kw (ld_glob I hg hm ?_ hdb)
  have h' := argsem_imp (k := fun vs H1 => spZ X.K X.mg g vs H1 Q (WE W σ)) h fun ρ S H1 ds vs w r p => ⟨ρ, S, ds, w, r, p⟩
  refine PySem.W.callWith_K (h₀ := X.base) I.ok.mod.kin hk (thn (ha.run pos pins s σ H _ I h') fun us s1 ⟨vs, H1, I1, r, q⟩ => ⟨I1.kIn, ?_⟩) he hpl
  exact run_fnR F hr (passAt tk σ) I1 r q
structure MethOk (X : Cx) (m : Str) (tab : List (Str × SemL)) : Prop where
  at_ : ∀ c g, tabOf tab c = some g → ∀ C, X.mg c = some (.ref C) → ∃ (f : Addr) (k : Nat), Cls X.K C ∧ Meth X.K C m f ∧ FZ X.prog X.w X.K X.mg X.base k f g ∧ Room k X.A
theorem meth_nil : MethOk X m [] := ⟨fun c g h => by cases h⟩
theorem meth_cons {c : Str} {C : Addr} {tab : List (Str × SemL)} (hm : X.mg c = some (.ref C)) (hc : Cls X.K C) (hM : Meth X.K C m f) (F : FZ X.prog X.w X.K X.mg X.base k f g) (hr : Room k X.A) (h : MethOk X m tab) : MethOk X m ((c, g) :: tab) := ⟨fun c' g' h' C' hm' => by
  unfold tabOf at h'
  rw [List.lookup_cons] at h'
  cases q : c' == c with
  | true =>
    rw [q] at h'
    cases h'
    have : c' = c := by simpa using q
    subst this
    rw [hm] at hm'
    cases hm'
    exact ⟨f, k, hc, hM, F, hr⟩
  | false =>
    rw [q] at h'
    exact h.at_ c' g' h' C' hm'⟩
theorem r_methZ0 {pl : Sem Bool} {tab : List (Str × SemL)} (tk : Takes X W) (ht : MethOk X m tab) (ho : E X W o fo)
    (hev : eval (.Call (.Attribute o m apos) [] [] pos) X.env = (do
      let ov ← eval o X.env
      standAt apos.atName
      let (f, first) ← holding [ov] (getMethod ov m pl)
      callWith pos f first (backTo pos (starEach [] X.env)) (backToKw pos (keywordEach [] X.env))) := by rfl) :
    E X W (.Call (.Attribute o m apos) [] [] pos) (eMethZ m tab fo aNil) := by
  refine ⟨fun pins s σ H Q I h => ?_⟩
  obtain ⟨ρ, S, sl, w, rs, p⟩ := h
  refine PySem.W.methodCall_KW (pl := pl) (thn (ho.run pins s σ H _ I ⟨ρ, S, sl, w, rs, PostE.bindE p⟩) fun u s1 ⟨x, H1, I1, rx, ρ1, S1, d, x1, w1, r1, _, p1⟩ => ?_) hev
  split at p1
  · rename_i c ns vs ef
    split at p1
    · exact p1.elim
    · rename_i hmem
      split at p1
      · rename_i g eg
        obtain ⟨a, C, dx, fs, ex, hm, ea, hn, rl⟩ := flds_rep w1 r1 ef
        obtain ⟨f, k, hc, hM, F, hr⟩ := ht.at_ c g eg C hm
        subst ex
        obtain rfl : u = Value.ref a := rx
        refine getmeth_ok I1 ea hc hM (lookN_none hn hmem) ?_
        exact PySem.W.callWith_K0 (first := [.ref a]) I1.kIn hM.kp (run_fnR (us := [.ref a]) (vs := [.ref a]) F hr (passAt tk σ) I1 (.cons rfl .nil) ⟨ρ1, S1, [d], w1, RepL.cons r1 RepL.nil, p1⟩)
      · exact p1.elim
  · exact p1.elim
def makeS (c : Str) (g : SemL) : SemL := fun ds S1 => (g (.ptr S1.length :: ds) (S1 ++ [.ins c [] []])).bind fun d S2 => match d with
  | .non => .ok (.ptr S1.length) S2
  | _ => .bad
theorem run_makeZ {c : Str} {pins : List (Addr × Obj)} {σ : L2.St} {ρ : List Addr} {H : Hp} {S : Store} {ds : List D} {s : Shared} {Q : VK} {us : List Value} {vs : List V} {E : XK} (M : Mk X.K C f) (hmc : X.mg c = some (.ref C)) (F : FZ X.prog X.w X.K X.mg X.base k f g) (hr : Room (k + 1) X.A) (hx : PassesAt (Z.CX X.prog X.w) X σ E) (I : Inv X pins σ H s) (r : Vals vs us)
    (w0 : WOk X.K X.mg ρ H S) (rl : RepL X.K X.mg ρ H ds vs) (p : PostE X.K X.mg E ρ H Q (makeS c g ds S)) :
    wpAny (model X.prog X.w) X.A (PySem.call (.ref C) us) (EP X pins σ Q) X.xe s := by
  have hx1 : H (s.heap.objs.size + 1) = none := I.hok.fresh (Nat.le_succ _)
  have hd1 : H s.heap.objs.size = none := I.hok.fresh (Nat.le_refl _)
  have hne : s.heap.objs.size ≠ s.heap.objs.size + 1 := Nat.ne_of_lt (Nat.lt_succ_self _)
  have I2 := Inv.made (C := C) I
  have hx2 : (upd H s.heap.objs.size (.own (s.heap.objs.size + 1))) (s.heap.objs.size + 1) = none := by rw [upd_ne hne.symm]; exact hx1
  have x1 : Ext ρ H ρ (upd H s.heap.objs.size (.own (s.heap.objs.size + 1))) := Ext.new' hd1
  have w1 : WOk X.K X.mg ρ (upd H s.heap.objs.size (.own (s.heap.objs.size + 1))) S := w0.new' hd1
  have x2 := x1.trans (Ext.hand (o := .ins C s.heap.objs.size []) hx2)
  have w2 : WOk X.K X.mg (ρ ++ [s.heap.objs.size + 1]) (upd (upd H s.heap.objs.size (.own (s.heap.objs.size + 1))) (s.heap.objs.size + 1) (.ins C s.heap.objs.size [])) (S ++ [.ins c [] []]) := w1.hand hx2 ⟨C, s.heap.objs.size, [], hmc, upd_same, rfl, RepL.nil⟩
  have rp : Rep X.K X.mg (ρ ++ [s.heap.objs.size + 1]) (upd (upd H s.heap.objs.size (.own (s.heap.objs.size + 1))) (s.heap.objs.size + 1) (.ins C s.heap.objs.size [])) (.ptr S.length) (.ref (s.heap.objs.size + 1)) := by
    rw [Rep]
    exact ⟨_, rfl, by rw [← w0.len]; simp⟩
  have hq : spZ X.K X.mg g (.ref (s.heap.objs.size + 1) :: vs) (upd (upd H s.heap.objs.size (.own (s.heap.objs.size + 1))) (s.heap.objs.size + 1) (.ins C s.heap.objs.size [])) (fun v H2 => v = .non ∧ Q (.ref (s.heap.objs.size + 1)) H2) E := by
    refine ⟨_, _, .ptr S.length :: ds, w2, RepL.cons rp (rl.ext x2), ?_⟩
    have p' := PostE.bindE (PostE.from x2 p)
    refine PostE.mono p' fun v H3 ⟨ρ3, S3, d, x3, w3, r3, _, p3⟩ => ?_
    cases d with
    | non => exact ⟨rep_non r3, post_ok p3 w3 (rp.ext x3)⟩
    | _ => exact p3.elim
  refine wpAny_call (make_map (f := f) I.kIn M.makes M.init (beq_iff_eq.mp M.fn) (codeAny_mono (F _ X.stack _ _ (Value.ref (s.heap.objs.size + 1) :: us) _ _ E (hr.make C us []) (I2.env0.make C us []) (show Vals (V.ref (s.heap.objs.size + 1) :: vs) (Value.ref (s.heap.objs.size + 1) :: us) from .cons rfl r) hq) fun r s' hq' => ?_))
  cases r with
  | error e => exact hx pins _ _ e s' I2 hq'
  | ok fl =>
    cases fl with
    | ret u =>
      obtain ⟨v, H', I3, rv, ev, q3⟩ := I2.after hq'
      subst ev
      exact ⟨rv, ⟨V.ref (s.heap.objs.size + 1), H', I3, rfl, q3⟩⟩
    | next => exact False.elim hq'
    | brk => exact False.elim hq'
    | cont => exact False.elim hq'
theorem r_makeZ (tk : Takes X W) (M : Mk X.K C f) (F : FZ X.prog X.w X.K X.mg X.base k f g) (hr : Room (k + 1) X.A) (hm : X.mg x = some (.ref C)) (ha : EA X W (e :: es) fa) (hg : Gl X x := by rfl)
    (hdb : (x == ("__debug__" : Str)) = false := by decide) (he : starEach (e :: es) X.env = (false, eval e X.env) :: starEach es X.env := by rfl) (hpl : (backTo pos (starEach es X.env)).any (·.1) = false := by rfl) :
    E X W (.Call (.Name x p) (e :: es) [] pos) (eArgs (makeS x g) fa) := by
  refine ⟨fun pins s σ H Q I h => ?_⟩
  refine wpAny_Call_Name_kw (ld_glob I hg hm ?_ hdb)
  have h' := argsem_imp (k := fun vs H1 => ∃ ρ S ds, WOk X.K X.mg ρ H1 S ∧ RepL X.K X.mg ρ H1 ds vs ∧ PostE X.K X.mg (WE W σ) ρ H1 Q (makeS x g ds S)) h fun ρ S H1 ds vs w r p => ⟨ρ, S, ds, w, r, p⟩
  refine PySem.W.callWith_K (h₀ := X.base) I.ok.mod.kin M.kp (thn (ha.run pos pins s σ H _ I h') fun us s1 ⟨vs, H1, I1, r, ρ1, S1, ds, w1, rl, q⟩ => ⟨I1.kIn, ?_⟩) he hpl
  exact run_makeZ M hm F hr (passAt tk σ) I1 r w1 rl q
theorem putN_rep {K : PySem.W.Frag} {mg : Str → Option Value} {ρ : List Addr} {H : Hp} {f : Str} {d : D} {v : V} (h : Rep K mg ρ H d v) : ∀ {fs : List (Str × V)} {ns : List Str} {ds : List D}, fs.map (·.1) = ns → RepL K mg ρ H ds (fs.map (·.2)) →
    (putF f v fs).map (·.1) = (putN f d ns ds).1 ∧ RepL K mg ρ H (putN f d ns ds).2 ((putF f v fs).map (·.2))
  | [], _, ds, e, r => by
    simp only [List.map_nil] at e r
    subst e
    exact ⟨by cases ds <;> rfl, by cases ds <;> exact RepL.cons h RepL.nil⟩
  | (n, u) :: fs, _, [], e, r => by simp only [List.map_cons] at r; rw [RepL] at r; cases r
  | (n, u) :: fs, _, d' :: ds, e, r => by
    simp only [List.map_cons] at e r
    subst e
    rw [RepL] at r
    obtain ⟨u', r', e', h1, h2⟩ := r
    injection e' with e1 e2
    subst e1 e2
    unfold putF putN
    by_cases q : n = f
    · rw [if_pos q, if_pos q]
      exact ⟨rfl, RepL.cons h h2⟩
    · rw [if_neg q, if_neg q]
      obtain ⟨i1, i2⟩ := putN_rep h (ns := fs.map (·.1)) rfl h2
      exact ⟨by rw [List.map_cons, i1], RepL.cons h1 i2⟩
theorem s_fldZ {cs : List Str} {fl : Str} {pos' : Pos} (hc : ∀ c ∈ cs, ∀ C, X.mg c = some (.ref C) → Cls X.K C ∧ NoAttr X.K C fl) (ho : E X W o fo) (hv : E X W e fe) (hs : swapsWith e (some (.Attribute o fl pos')) pos.line X.env = pure false := by rfl) :
    ES X W (.Assign [.Attribute o fl pos'] e pos) (sFldZ cs fl fe fo) := by
  refine PS.imp (ps_fld ho hv hs) fun D σ H ⟨ρ, S, sl, w, rs, p⟩ => ?_
  refine ⟨ρ, S, sl, w, rs, PostE.mono (PostS.ofEx rs p) fun y H1 ⟨ρ1, S1, v, x1, w1, rs1, r1, p1⟩ => ?_⟩
  refine ⟨ρ1, S1, sl, w1, rs1, PostE.mono (PostS.ofEx rs1 p1) fun x H2 ⟨ρ2, S2, o', x2, w2, rs2, r2, p2⟩ => ?_⟩
  unfold setF at p2
  split at p2
  · rename_i S3 e3
    split at e3
    · rename_i n
      split at e3
      · rename_i c ns vs en
        split at e3
        · rename_i hcs
          cases e3
          rw [Rep] at r2
          obtain ⟨a, ea, q⟩ := r2
          obtain ⟨C, dx, fs, hm, h1, hn, rl⟩ := w2.ob n a _ q en
          obtain ⟨k1, k2⟩ := hc c hcs.1 C hm
          have xp : Ext ρ2 H2 ρ2 (upd H2 a (.ins C dx (putF fl y fs))) := Ext.putL q
          obtain ⟨z1, z2⟩ := putN_rep (f := fl) (r1.ext x2) hn rl
          refine ⟨a, C, dx, fs, ea, h1, k1, k2, by rw [← hn, List.length_map] at hcs; exact hcs.2, ?_⟩
          exact p2 _ ρ2 _ xp (w2.put (m := .ins c (putN fl v ns vs).1 (putN fl v ns vs).2) q ⟨C, dx, _, hm, upd_same, z1, z2.ext xp⟩) (rs2.ext xp)
        · cases e3
      · cases e3
    · cases e3
  · exact p2.elim
def AtOk (X : Cx) (f : Str) (C : Addr) : AtK → Prop
  | .fld => NoAttr X.K C f
  | .prop g => ∃ (p a : Addr) (k : Nat), PropOf X.K C f p a ∧ FZ X.prog X.w X.K X.mg X.base k a g ∧ Room (k + 1) X.A
  | .con d => ∃ (v : V) (u : Value), Con X.K C f v u ∧ ∀ ρ H, Rep X.K X.mg ρ H d v
structure AttrOk (X : Cx) (f : Str) (tab : List (Str × AtK)) : Prop where
  at_ : ∀ c t, tab.lookup c = some t → ∀ C, X.mg c = some (.ref C) → Cls X.K C ∧ AtOk X f C t
theorem attr_nil : AttrOk X m [] := ⟨fun c g h => by cases h⟩
theorem attr_cons {c : Str} {C : Addr} {t : AtK} {tab : List (Str × AtK)} (hm : X.mg c = some (.ref C)) (hc : Cls X.K C) (ha : AtOk X m C t) (h : AttrOk X m tab) : AttrOk X m ((c, t) :: tab) := ⟨fun c' g' h' C' hm' => by
  rw [List.lookup_cons] at h'
  cases q : c' == c with
  | true =>
    rw [q] at h'
    cases h'
    have : c' = c := by simpa using q
    subst this
    rw [hm] at hm'
    cases hm'
    exact ⟨hc, ha⟩
  | false =>
    rw [q] at h'
    exact h.at_ c' g' h' C' hm'⟩
theorem getprop_okZ {pins : List (Addr × Obj)} {σ : L2.St} {H : Hp} {s : Shared} {Q : VK} {b : Bool} {E' : Value → Shared → Prop} {fl : Str} {a dx p' : Addr} {fs : List (Str × V)} {sp : Sp} (I : Inv X pins σ H s) (ea : H a = some (.ins C dx fs)) (c : Cls X.K C) (hp : PropOf X.K C fl p' f)
    (F : FnR X.prog X.w X.K X.mg X.base (Z.CX X.prog X.w) k f sp) (hr : Room (k + 1) X.A) (h : sp [.ref a] H Q (fun _ _ _ => False)) :
    wpAny (model X.prog X.w) X.A (getAttr (.ref a) fl b) (EP X pins σ Q) E' s := by
  obtain ⟨mA, O, _, _, _, _⟩ := ins_get I.hok ea
  obtain ⟨od, J, _⟩ := O.look
  obtain ⟨rest, hrec⟩ := hp.rec_
  have I1 := I.tok (s.toks + 1)
  have hc : (PySem.W.clsIn X.K C).isSome = true := by
    obtain ⟨cd, hc, _⟩ := PySem.W.any_some c.hd
    rw [hc]
    rfl
  refine PySem.W.get_bind I.kIn J (PySem.W.plainGet_of (c.get fl)).1 (PySem.W.findObj_data hc hp.at_ hp.get hp.tak) (PySem.W.plainGet_of (c.get fl)).2 (wpAny_call (PySem.W.prop_get (s := { s with toks := s.toks + 1 }) I.kIn hrec ?_))
  refine codeAny_mono (F X.A.in1 X.stack { s with toks := s.toks + 1 } H [.ref a] [.ref a] Q (fun _ _ _ => False) hr.in1 I1.env0.in1 (.cons rfl .nil) h) fun r s' hq => ?_
  cases r with
  | error er => exact False.elim (passes_call (X := X.nox) (W := WF) takesF (fun _ _ _ _ z => z) pins σ H { s with toks := s.toks + 1 } er s' (I1.wish _) hq)
  | ok fl =>
    cases fl with
    | ret u =>
      obtain ⟨v, H', I3, rv, q3⟩ := I1.after hq
      show wpAny _ _ (handedOut u) _ _ _
      rw [PySem.W.handedOut_of (handed_of rv)]
      exact wpAny_pure ⟨v, H', I3, rv, q3⟩
    | next => exact False.elim hq
    | brk => exact False.elim hq
    | cont => exact False.elim hq
theorem r_attrZ {fl : Str} {tab : List (Str × AtK)} (ht : AttrOk X fl tab) (ho : E X W o fo) (hb : attributeBase o fl X.env (eval o X.env) = eval o X.env := by rfl) : E X W (.Attribute o fl pos) (eAttrZ fl tab fo) := by
  refine ⟨fun pins s σ H Q I h => ?_⟩
  obtain ⟨ρ, S, sl, w, rs, p⟩ := h
  refine attr_of hb (thn (ho.run pins s σ H _ I ⟨ρ, S, sl, w, rs, PostE.bindE p⟩) fun u s1 ⟨x, H1, I1, rx, ρ1, S1, d, x1, w1, r1, _, p1⟩ => ?_)
  split at p1
  · rename_i c ns vs ef
    obtain ⟨a, C, dx, fs, ex, hm, ea, hn, rl⟩ := flds_rep w1 r1 ef
    subst ex
    obtain rfl : u = Value.ref a := rx
    split at p1
    · rename_i et
      obtain ⟨hc, ha⟩ := ht.at_ c _ et C hm
      split at p1
      · rename_i v ev
        obtain ⟨v', h1, h2⟩ := lookN_rep hn rl ev
        exact getattr_ok I1 ea hc ha h1 fun u s2 I2 ru => ⟨v', H1, I2, ru, post_ok p1 w1 h2⟩
      · exact p1.elim
    · rename_i g et
      obtain ⟨hc, p', a', k, hp, F, hr⟩ := ht.at_ c _ et C hm
      refine getprop_okZ I1 ea hc hp F hr ⟨ρ1, S1, [d], w1, RepL.cons r1 RepL.nil, ?_⟩
      split at p1
      · rename_i v S2 eg
        rw [eg]
        exact fun v' ρ2 H2 x2 w2 r2 => p1 v' ρ2 H2 x2 w2 r2
      · exact p1.elim
    · rename_i v et
      obtain ⟨hc, v', u', hk, hr⟩ := ht.at_ c _ et C hm
      split at p1
      · exact p1.elim
      · rename_i hmem
        exact getcon_ok I1 ea hc hk (lookN_none hn hmem) fun s2 I2 => ⟨v', H1, I2, hk.rel, post_ok p1 w1 (hr ρ1 H1)⟩
    · exact p1.elim
  · exact p1.elim
end
end Z
namespace Z
open PySem PySem.Spec L2
section
variable {X : Cx}
theorem d_addX : OpD X (binaryOp .Add) addX := d_addI.or (d_addS.or (d_addL.or d_addT))
theorem d_mulX : OpD X (binaryOp .Mult) mulX := d_mulI.or d_mulL
theorem d_ltX : OpD X (compareOp .Lt) ltX := d_ltI.or d_ltS
theorem d_inX (hu : X.A.units + 64 < cLine) : OpD X (compareOp .In) inX := d_inSg.or ((d_inDct (Nat.lt_of_le_of_lt (Nat.add_le_add_left (by decide : 1 ≤ 64) _) hu)).or d_inSq)
theorem d_ixX (hu : X.A.units + 64 < cLine) : IxD X ixX := d_ixSeq.or (d_ixDct (Nat.lt_of_le_of_lt (Nat.add_le_add_left (by decide : 1 ≤ 64) _) hu))
theorem d_lenX : CallD X (.builtin "len") lenX := d_len.or d_lenD
theorem d_isiX : CallD X (.builtin "isinstance") isiX := d_isi.or d_isiT
theorem hu1 {A : Around} (hu : A.units + 64 < cLine) : A.units + 1 < cLine := Nat.lt_of_le_of_lt (Nat.add_le_add_left (by decide : 1 ≤ 64) _) hu
end
section
variable {X : Cx} {W : WX} {x : Str} {pos : Pos}
theorem r_gint {i : Int} (h : ∃ t, X.mg x = some (.int i t)) (hg : Gl X x := by rfl) (hd : (x == ("__debug__" : Str)) = false := by decide) : E X W (.Name x pos) (eLit (.int i)) := by
  obtain ⟨t, h⟩ := h
  exact r_glob (v := .int i) hg h ⟨t, rfl⟩ (fun _ _ => mk_int) hd
theorem r_gstr {i : Str} (h : ∃ t, X.mg x = some (.str i t)) (hg : Gl X x := by rfl) (hd : (x == ("__debug__" : Str)) = false := by decide) : E X W (.Name x pos) (eLit (.str i)) := by
  obtain ⟨t, h⟩ := h
  exact r_glob (v := .str i) hg h ⟨t, rfl⟩ (fun _ _ => mk_str) hd
end
def NxB (g : GX) : Prop := ∀ d sl S, (∃ sl' S', g d sl S = .nx sl' S') ∨ g d sl S = .bad
def NxBs (g : GXs) : Prop := ∀ d sl S, (∃ sl' S', g d sl S = .nx sl' S') ∨ g d sl S = .bad
theorem nx_nil : NxBs gNilX := fun d sl S => by cases d with | nil => exact .inl ⟨_, _, rfl⟩ | cons _ _ => exact .inr rfl
theorem nx_cons {g : GX} {gs : GXs} (h : NxB g) (hs : NxBs gs) : NxBs (gConsX g gs) := fun d sl S => by
  cases d with
  | nil => exact .inr rfl
  | cons x r =>
    show (∃ sl' S', (g x sl S).then (gs r) = _) ∨ (g x sl S).then (gs r) = _
    rcases h x sl S with ⟨sl', S', e⟩ | e
    · rw [e]; exact hs r sl' S'
    · rw [e]; exact .inr rfl
theorem nx_tup {gs : GXs} (hs : NxBs gs) : NxB (gTupX gs) := fun d sl S => by
  cases d with
  | tup xs => exact hs xs sl S
  | tpx xs => exact hs xs sl S
  | _ => exact .inr rfl
theorem len_consN {g : GX} {gs : GXs} {n : Nat} (hg : NxB g) (hr : ∀ ds sl S, gs ds sl S ≠ .bad → ds.length = n) : ∀ ds sl S, gConsX g gs ds sl S ≠ .bad → ds.length = n + 1 := len_cons hr hg
section
variable {X : Cx} {f : Str}
theorem cls_nil : ∀ c ∈ ([] : List Str), ∀ C, X.mg c = some (.ref C) → Cls X.K C ∧ NoAttr X.K C f := fun c h => by cases h
theorem cls_cons {c : Str} {C : Addr} {cs : List Str} (hm : X.mg c = some (.ref C)) (hc : Cls X.K C) (hn : NoAttr X.K C f) (h : ∀ c ∈ cs, ∀ C, X.mg c = some (.ref C) → Cls X.K C ∧ NoAttr X.K C f) : ∀ c' ∈ c :: cs, ∀ C, X.mg c' = some (.ref C) → Cls X.K C ∧ NoAttr X.K C f := fun c' h' C' hm' => by
  rcases List.mem_cons.mp h' with e | e
  · subst e
    rw [hm] at hm'
    cases hm'
    exact ⟨hc, hn⟩
  · exact h c' e C' hm'
end
theorem fz_bad {P : Program} {w : World} {K : PySem.W.Frag} {mg : Str → Option Value} {base : Heap} {k : Nat} {f : Addr} : FZ P w K mg base k f (fun _ _ => .bad) := fun A outer s H us vs Q E hr e0 r ⟨_, _, _, _, _, p⟩ => p.elim
theorem cx_false {P : Program} {w : World} {outer : List Env} {H : Hp} {s : Shared} {e : Value} {s' : Shared} (h : Z.CX P w outer H s (fun _ _ _ => False) e s') : False := by
  obtain ⟨_, _, _, _, _, _, _, _, _, _, _, _, z⟩ := h
  exact z
end Z
namespace Z
open PySem PySem.Spec L2
theorem modI_int {i j : Int} (h : 0 < j) (S : Store) : modI (.int i) (.int j) S = .ok (.int (i % j)) S := by simp [modI, iiC, h]
theorem divI_int {i j : Int} (h : 0 < j) (h2 : j.natAbs.log2 < 9000) (S : Store) : divI (.int i) (.int j) S = .ok (.int (i / j)) S := by simp [divI, iiC, divB, h, h2]
theorem mulX_int {i j : Int} (h : i.natAbs.log2 + j.natAbs.log2 < 1000000) (S : Store) : mulX (.int i) (.int j) S = .ok (.int (i * j)) S := by
  simp [mulX, orS2, mulI, iiC, mulB, h]
theorem ix_ptr {S : Store} {n : Nat} {xs : List D} {i : Int} (h : S[n]? = some (.lst xs)) : ixX (.ptr n) (.int i) S = match atI xs i with
    | some x => .ok x S
    | none => .bad := by
  simp only [ixX, orS2, ixSeq, asS, asL, h]
  cases e : atI xs i with
  | some x => rfl
  | none => simp [ixDct, asD, h]
theorem frzL_of {k : Nat} {S : Store} {f : Nat} {ds : List D} (h : underL k ds = true) : frzL (frzP S k f) ds = some ds := frz_underL (fun n hn => frzP_lt hn) ds h
theorem frz_lst {S1 : Store} {acc : List D} (h : underL S1.length acc = true) : frzD (frzP (S1 ++ [.lst acc]) S1.length 6) (.ptr S1.length) = some (.lst acc) := by
  rw [frzD, frzP, if_neg (Nat.lt_irrefl _)]
  rw [List.getElem?_append_right (Nat.le_refl _)]
  simp only [Nat.sub_self, List.getElem?_cons_zero]
  rw [frzL_of h]
  rfl
end Z
namespace Z
open PySem PySem.Spec L2
section
variable {α β : Type} {P : α → Store → Prop} {X : D → Store → Prop} {Q : Q0} {S : Store} {sl : Sl}
/-- the same end, told as an equation -/
theorem we_eq {o : Out α} {a : α} (h : o = .ok a S) (p : P a S) : We o P X := by rw [h, we_ok]; exact p
variable {f g : SX} {c : BX} {fe : EX} {fa : AX} {tg : GX}
theorem w_sFor {it : IX} : Wo (sFor it tg f sl S) Q = We (it sl S) (fun p S' => Wo (forL p.2 tg f p.1 sl S') Q) (fun e S' => Q.ex e sl S') := by unfold sFor; exact wo_toS
/-- a statement, then the rest, with a word between them -/
theorem wo_cut {f g : SX} {Q : Q0} (M : Sl → Store → Prop) (h : Wo (f sl S) { Q with nx := M }) (k : ∀ sl S, M sl S → Wo (g sl S) Q) : Wo (sSeq f g sl S) Q := by
  rw [w_sSeq]
  exact h.mono (fun sl S h => k sl S h) (fun _ _ h => h) (fun _ _ h => h) (fun _ _ h => h) (fun _ _ _ h => h)
variable {P : D → Store → Prop} {PB : Bool → Store → Prop} {PA : List D → Store → Prop} {f1 f2 f3 : EX} {c1 c2 : BX} {fs : AX}
variable {PO : Option Int → Store → Prop} {fl fu : OX}
theorem we_defH {N : Nat} {body : SX} {ds : List D} : We (defH N body ds S) P X = Wo (body (ds.map some ++ List.replicate (N - ds.length) none) S) ⟨fun _ S' => P .non S', fun _ _ => False, fun _ _ => False, P, fun e _ S' => X e S'⟩ := we_out
theorem finP_app {S1 T : Store} {d : D} (h : Keep S S1) (hd : under S.length d = true) (p : P d S1) : FinP S P d (S1 ++ T) := finP_keep h (frz_of hd) p
theorem finP_lst {S1 : Store} {acc : List D} (h : Keep S S1) (hu : underL S.length acc = true) (p : P (.lst acc) S1) : FinP S P (.ptr S1.length) (S1 ++ [.lst acc]) := by
  refine finP_keep h ?_ p
  rw [← h.len] at hu ⊢
  exact frz_lst hu
mutual
theorem under_mono {j k : Nat} (h : j ≤ k) : ∀ d, under j d = true → under k d = true
  | .non, _ => by simp [under]
  | .bl _, _ => by simp [under]
  | .int _, _ => by simp [under]
  | .str _, _ => by simp [under]
  | .ty _, _ => by simp [under]
  | .cls _, _ => by simp [under]
  | .scr _, _ => by simp [under]
  | .exc _ _ vs, q => by simp only [under] at q ⊢; exact underL_mono h vs q
  | .lam _ _, _ => by simp [under]
  | .lamc _ vs, q => by simp only [under] at q ⊢; exact underL_mono h vs q
  | .tup xs, q => by simp only [under] at q ⊢; exact underL_mono h xs q
  | .tpx xs, q => by simp only [under] at q ⊢; exact underL_mono h xs q
  | .lst xs, q => by simp only [under] at q ⊢; exact underL_mono h xs q
  | .dct ks vs, q => by
    simp only [under, Bool.and_eq_true] at q ⊢
    exact ⟨underL_mono h ks q.1, underL_mono h vs q.2⟩
  | .ins _ _ vs, q => by simp only [under] at q ⊢; exact underL_mono h vs q
  | .ptr n, q => by
    simp only [under, decide_eq_true_eq] at q ⊢
    omega
theorem underL_mono {j k : Nat} (h : j ≤ k) : ∀ ds, underL j ds = true → underL k ds = true
  | [], _ => by simp [underL]
  | d :: ds, q => by
    simp only [underL, Bool.and_eq_true] at q ⊢
    exact ⟨under_mono h d q.1, underL_mono h ds q.2⟩
end
theorem under_of {k : Nat} {d : D} (h : under 0 d = true) : under k d = true := under_mono (Nat.zero_le k) d h
end
section
variable {X : D → Store → Prop} {Q : Q0} {S : Store} {sl : Sl} {G : Store → Prop} {g : GX} {body : SX}
theorem wo_forL (I : List D → Sl → Store → Prop) : ∀ (xs pre : List D) (sl : Sl) (S : Store), I pre sl S →
    (∀ p x post sl S, pre ++ xs = p ++ x :: post → I p sl S → G S ∧ Wo (g x sl S) ⟨fun sl1 S1 => Wo (body sl1 S1) ⟨fun sl2 S2 => I (p ++ [x]) sl2 S2, Q.nx, fun sl2 S2 => I (p ++ [x]) sl2 S2, Q.rt, Q.ex⟩, fun _ _ => False, fun _ _ => False, fun _ _ => False, fun _ _ _ => False⟩) →
    (∀ sl S, I (pre ++ xs) sl S → G S ∧ Q.nx sl S) → Wo (forL G g body xs sl S) Q
  | [], pre, sl, S, h0, step, hend => by
    rw [List.append_nil] at hend
    obtain ⟨h1, h2⟩ := hend sl S h0
    simp only [forL, if_pos h1, wo_nx]
    exact h2
  | x :: xs, pre, sl, S, h0, step, hend => by
    obtain ⟨h1, h2⟩ := step pre x xs sl S rfl h0
    simp only [forL, if_pos h1]
    cases e : g x sl S with
    | nx sl1 S1 =>
      rw [e] at h2
      simp only [wo_nx] at h2
      dsimp only
      have hl : pre ++ x :: xs = (pre ++ [x]) ++ xs := by simp
      have next : ∀ sl2 S2, I (pre ++ [x]) sl2 S2 → Wo (forL G g body xs sl2 S2) Q := fun sl2 S2 hI =>
        wo_forL I xs (pre ++ [x]) sl2 S2 hI (fun p y post sl S he hp => step p y post sl S (by rw [hl]; exact he) hp) (fun sl S hI => hend sl S (by rw [hl]; exact hI))
      cases e2 : body sl1 S1 with
      | nx sl2 S2 => rw [e2, wo_nx] at h2; exact next _ _ h2
      | ct sl2 S2 => rw [e2, wo_ct] at h2; exact next _ _ h2
      | bk sl2 S2 => rw [e2, wo_bk] at h2; dsimp only; rw [wo_nx]; exact h2
      | rt d S2 => rw [e2, wo_rt] at h2; dsimp only; rw [wo_rt]; exact h2
      | ex e sl2 S2 => rw [e2, wo_ex] at h2; dsimp only; rw [wo_ex]; exact h2
      | bad => rw [e2, wo_bad] at h2; exact h2.elim
    | bk _ _ => rw [e, wo_bk] at h2; exact h2.elim
    | ct _ _ => rw [e, wo_ct] at h2; exact h2.elim
    | rt _ _ => rw [e, wo_rt] at h2; exact h2.elim
    | ex _ _ _ => rw [e, wo_ex] at h2; exact h2.elim
    | bad => rw [e, wo_bad] at h2; exact h2.elim
/-- a for: I of what was walked, the slots, the store -/
theorem wo_for {it : IX} {xs : List D} {S' : Store} (hit : it sl S = .ok (xs, G) S') (I : List D → Sl → Store → Prop) (h0 : I [] sl S')
    (step : ∀ p x post sl S, xs = p ++ x :: post → I p sl S → G S ∧ Wo (g x sl S) ⟨fun sl1 S1 => Wo (body sl1 S1) ⟨fun sl2 S2 => I (p ++ [x]) sl2 S2, Q.nx, fun sl2 S2 => I (p ++ [x]) sl2 S2, Q.rt, Q.ex⟩, fun _ _ => False, fun _ _ => False, fun _ _ => False, fun _ _ _ => False⟩)
    (hend : ∀ sl S, I xs sl S → G S ∧ Q.nx sl S) : Wo (sFor it g body sl S) Q := by
  rw [w_sFor, hit, we_ok]
  exact wo_forL I xs [] sl S' h0 step hend
/-- .. with the number told by I -/
theorem wo_whileN {c : BX} (I : Nat → Sl → Store → Prop) (step : ∀ k sl S, I k sl S → We (c sl S) (fun b S1 => if b = true then Wo (body sl S1) ⟨fun sl2 S2 => ∃ j, j < k ∧ I j sl2 S2, Q.nx, fun sl2 S2 => ∃ j, j < k ∧ I j sl2 S2, Q.rt, Q.ex⟩ else Q.nx sl S1) (fun e S1 => Q.ex e sl S1)) :
    ∀ (n k : Nat) (sl : Sl) (S : Store), I k sl S → k < n → Wo (whileL c body n sl S) Q
  | 0, _, _, _, _, h => absurd h (Nat.not_lt_zero _)
  | n + 1, k, sl, S, hI, h => by
    have h2 := step k sl S hI
    unfold whileL
    rw [wo_toS]
    refine h2.post fun b S1 hb => ?_
    cases b with
    | false => simpa using hb
    | true =>
      simp only [if_true] at hb ⊢
      cases e2 : body sl S1 with
      | nx sl2 S2 => rw [e2, wo_nx] at hb; obtain ⟨j, hj, hI2⟩ := hb; exact wo_whileN I step n j sl2 S2 hI2 (Nat.lt_of_lt_of_le hj (Nat.le_of_lt_succ h))
      | ct sl2 S2 => rw [e2, wo_ct] at hb; obtain ⟨j, hj, hI2⟩ := hb; exact wo_whileN I step n j sl2 S2 hI2 (Nat.lt_of_lt_of_le hj (Nat.le_of_lt_succ h))
      | bk sl2 S2 => rw [e2, wo_bk] at hb; dsimp only; rw [wo_nx]; exact hb
      | rt d S2 => rw [e2, wo_rt] at hb; dsimp only; rw [wo_rt]; exact hb
      | ex e sl2 S2 => rw [e2, wo_ex] at hb; dsimp only; rw [wo_ex]; exact hb
      | bad => rw [e2, wo_bad] at hb; exact hb.elim
theorem wo_whileK {c : BX} (k : Nat) (I : Nat → Sl → Store → Prop) (h0 : I k sl S) (hk : k < 1000000) (step : ∀ k sl S, I k sl S → We (c sl S) (fun b S1 => if b = true then Wo (body sl S1) ⟨fun sl2 S2 => ∃ j, j < k ∧ I j sl2 S2, Q.nx, fun sl2 S2 => ∃ j, j < k ∧ I j sl2 S2, Q.rt, Q.ex⟩ else Q.nx sl S1) (fun e S1 => Q.ex e sl S1)) : Wo (sWhile c body sl S) Q :=
  wo_whileN I step fuel k sl S h0 hk
variable {bt : BX} {fe : EX} {n : Nat}
theorem we_lcL {PU : Unit → Store → Prop} {slw : Sl} (I : List D → List D → Store → Prop) (hn : ∀ p acc S, I p acc S → S.length = n ∧ acc.length ≤ p.length) : ∀ (xs pre acc : List D) (S : Store), (pre ++ xs).length ≤ 1000000 → I pre acc S →
    (∀ p x post acc S, pre ++ xs = p ++ x :: post → I p acc S → G (S ++ [.lst acc]) ∧ Wo (g x slw (S ++ [.lst acc])) ⟨fun sl1 S1 => We (bt sl1 S1) (fun b S2 => if b = true then We (fe sl1 S2) (fun d S3 => ∃ S4, S3 = S4 ++ [.lst acc] ∧ I (p ++ [x]) (acc ++ [d]) S4) (fun _ _ => False) else ∃ S4, S2 = S4 ++ [.lst acc] ∧ I (p ++ [x]) acc S4) (fun _ _ => False), fun _ _ => False, fun _ _ => False, fun _ _ => False, fun _ _ _ => False⟩) →
    (∀ acc S, I (pre ++ xs) acc S → G (S ++ [.lst acc]) ∧ PU () (S ++ [.lst acc])) → We (lcL G g bt fe n slw xs (S ++ [.lst acc])) PU X
  | [], pre, acc, S, hl, h0, step, hend => by
    rw [List.append_nil] at hend
    obtain ⟨h1, h2⟩ := hend acc S h0
    simp only [lcL, if_pos h1, we_ok]
    exact h2
  | x :: xs, pre, acc, S, hl, h0, step, hend => by
    obtain ⟨h1, h2⟩ := step pre x xs acc S rfl h0
    simp only [lcL, if_pos h1]
    have hll : pre ++ x :: xs = (pre ++ [x]) ++ xs := by simp
    have next : ∀ acc S2, I (pre ++ [x]) acc S2 → We (lcL G g bt fe n slw xs (S2 ++ [.lst acc])) PU X := fun acc S2 hI =>
      we_lcL I hn xs (pre ++ [x]) acc S2 (by rw [← hll]; exact hl) hI (fun p y post acc S he hp => step p y post acc S (by rw [hll]; exact he) hp) (fun acc S hI => hend acc S (by rw [hll]; exact hI))
    cases e : g x slw (S ++ [.lst acc]) with
    | nx sl1 S1 =>
      rw [e] at h2
      simp only [wo_nx] at h2
      dsimp only
      cases e2 : bt sl1 S1 with
      | ok b S2 =>
        rw [e2, we_ok] at h2
        cases b with
        | false =>
          simp only [Bool.false_eq_true, if_false] at h2
          obtain ⟨S4, rfl, h4⟩ := h2
          exact next acc S4 h4
        | true =>
          simp only [if_true] at h2
          cases e3 : fe sl1 S2 with
          | ok d S3 =>
            rw [e3, we_ok] at h2
            obtain ⟨S4, rfl, h4⟩ := h2
            obtain ⟨hn1, hn2⟩ := hn _ _ _ h4
            have hg : (S4 ++ [MO.lst acc])[n]? = some (.lst acc) := by rw [List.getElem?_append_right (by omega), hn1]; simp
            have hlt : acc.length < 1000000 := by
              have := (hn _ _ _ h0).2
              simp only [List.length_append, List.length_cons] at hl
              omega
            dsimp only
            rw [e3]
            dsimp only
            rw [hg]
            dsimp only
            rw [if_pos hlt]
            have hs : (S4 ++ [MO.lst acc]).set n (.lst (acc ++ [d])) = S4 ++ [MO.lst (acc ++ [d])] := by
              rw [List.set_append_right _ _ (by omega), hn1]; simp
            rw [hs]
            exact next _ S4 h4
          | ex _ _ => rw [e3, we_ex] at h2; exact h2.elim
          | bad => rw [e3, we_bad] at h2; exact h2.elim
      | ex _ _ => rw [e2, we_ex] at h2; exact h2.elim
      | bad => rw [e2, we_bad] at h2; exact h2.elim
    | bk _ _ => rw [e, wo_bk] at h2; exact h2.elim
    | ct _ _ => rw [e, wo_ct] at h2; exact h2.elim
    | rt _ _ => rw [e, wo_rt] at h2; exact h2.elim
    | ex _ _ _ => rw [e, wo_ex] at h2; exact h2.elim
    | bad => rw [e, wo_bad] at h2; exact h2.elim
/-- [fe for g in it if bt]: I of what was walked, what was made, the store without it -/
theorem we_lc {it : IX} {own : List Nat} {P : D → Store → Prop} {xs : List D} {S' : Store} (hit : it sl S = .ok (xs, G) S') (hl : xs.length ≤ 1000000) (I : List D → List D → Store → Prop) (hn : ∀ p acc S, I p acc S → S.length = S'.length ∧ acc.length ≤ p.length) (h0 : I [] [] S')
    (step : ∀ p x post acc S, xs = p ++ x :: post → I p acc S → G (S ++ [.lst acc]) ∧ Wo (g x (wipeS sl own) (S ++ [.lst acc])) ⟨fun sl1 S1 => We (bt sl1 S1) (fun b S2 => if b = true then We (fe sl1 S2) (fun d S3 => ∃ S4, S3 = S4 ++ [.lst acc] ∧ I (p ++ [x]) (acc ++ [d]) S4) (fun _ _ => False) else ∃ S4, S2 = S4 ++ [.lst acc] ∧ I (p ++ [x]) acc S4) (fun _ _ => False), fun _ _ => False, fun _ _ => False, fun _ _ => False, fun _ _ _ => False⟩)
    (hend : ∀ acc S, I xs acc S → G (S ++ [.lst acc]) ∧ P (.ptr S.length) (S ++ [.lst acc])) : We (eLc it g bt fe own sl S) P X := by
  unfold eLc
  rw [we_bind, hit, we_ok]
  show We ((lcL G g bt fe S'.length (wipeS sl own) xs (S' ++ [.lst []])).bind fun _ S2 => .ok (.ptr S'.length) S2) P X
  rw [we_bind]
  refine we_lcL I hn xs [] [] S' hl h0 step fun acc S hI => ?_
  obtain ⟨h1, h2⟩ := hend acc S hI
  rw [(hn _ _ _ hI).1] at h2
  exact ⟨h1, by rw [we_ok]; exact h2⟩
/-- a comprehension that draws nothing: its list -/
theorem we_lc_pure {it : IX} {own : List Nat} {P : D → Store → Prop} {xs : List D} (p : D → Bool) (φ : D → D) (hit : it sl S = .ok (xs, G) S) (hl : xs.length ≤ 1000000) (hG : ∀ acc, G (S ++ [.lst acc]))
    (step : ∀ x ∈ xs, ∀ acc, Wo (g x (wipeS sl own) (S ++ [.lst acc])) ⟨fun sl1 S1 => We (bt sl1 S1) (fun b S2 => b = p x ∧ if p x = true then We (fe sl1 S2) (fun d S3 => S3 = S ++ [.lst acc] ∧ d = φ x) (fun _ _ => False) else S2 = S ++ [.lst acc]) (fun _ _ => False), fun _ _ => False, fun _ _ => False, fun _ _ => False, fun _ _ _ => False⟩)
    (hend : P (.ptr S.length) (S ++ [.lst ((xs.filter p).map φ)])) : We (eLc it g bt fe own sl S) P X := by
  refine we_lc hit hl (fun pre acc S1 => S1 = S ∧ acc = (pre.filter p).map φ) (fun pre acc S1 h => ⟨by rw [h.1], by rw [h.2, List.length_map]; exact List.length_filter_le _ _⟩) ⟨rfl, rfl⟩ (fun pre x post acc S1 he h => ?_) (fun acc S1 h => ?_)
  · obtain ⟨hS1, rfl⟩ := h
    subst hS1
    refine ⟨hG _, (step x (by rw [he]; simp) _).mono (fun sl1 S1 h => h.post fun b S2 h => ?_) (fun _ _ h => h) (fun _ _ h => h) (fun _ _ h => h) (fun _ _ _ h => h)⟩
    obtain ⟨rfl, h⟩ := h
    split at h
    · rename_i hp
      rw [if_pos hp]
      exact h.post fun d S3 ⟨e1, e2⟩ => ⟨_, e1, rfl, by rw [e2]; simp [hp]⟩
    · rename_i hp
      rw [if_neg hp]
      exact ⟨_, h, rfl, by simp [hp]⟩
  · obtain ⟨rfl, rfl⟩ := h
    exact ⟨hG _, hend⟩
/-- .. as a value -/
theorem we_lcF_pure {it : IX} {own : List Nat} {P : D → Store → Prop} {xs : List D} (p : D → Bool) (φ : D → D) (hit : it sl S = .ok (xs, G) S) (hl : xs.length ≤ 1000000) (hG : ∀ acc, G (S ++ [.lst acc]))
    (step : ∀ x ∈ xs, ∀ acc, Wo (g x (wipeS sl own) (S ++ [.lst acc])) ⟨fun sl1 S1 => We (bt sl1 S1) (fun b S2 => b = p x ∧ if p x = true then We (fe sl1 S2) (fun d S3 => S3 = S ++ [.lst acc] ∧ d = φ x) (fun _ _ => False) else S2 = S ++ [.lst acc]) (fun _ _ => False), fun _ _ => False, fun _ _ => False, fun _ _ => False, fun _ _ _ => False⟩)
    (hu : ∀ x ∈ xs, p x = true → under S.length (φ x) = true)
    (hend : P (.lst ((xs.filter p).map φ)) S) : We (eLc it g bt fe own sl S) (FinP S P) X := by
  refine we_lc_pure p φ hit hl hG step (finP_lst (Keep.refl S) ?_ hend)
  rw [underL_iff]
  intro d hd
  obtain ⟨x, hx, rfl⟩ := List.mem_map.mp hd
  obtain ⟨h1, h2⟩ := List.mem_filter.mp hx
  exact hu x h1 h2
end
theorem filter_tt {α : Type} {l : List α} : l.filter (fun _ => true) = l := List.filter_eq_self.mpr fun _ _ => (rfl)
section
variable {S : Store} {sl : Sl}
theorem itAny_of {f : EX} {d : D} {S1 : Store} {xs : List D} (h : f sl S = .ok d S1) (hx : srcD S1 d = some xs) : itAny f sl S = .ok (xs, fun S2 => srcD S2 d = some xs) S1 := by
  unfold itAny
  rw [h]
  show itK d S1 = _
  unfold itK
  cases d <;> first | (simp [srcD, asS, asL] at hx; done) | (simp only [hx])
theorem itRange1_of {f : EX} {j : Int} {S1 : Store} (h : f sl S = .ok (.int j) S1) (h1 : 0 ≤ j) (h2 : j < 2 ^ 62) : itRange1 (aCons f aNil) sl S = .ok (rangeD 0 j.toNat, fun _ => True) S1 := by
  simp only [itRange1, aCons, aNil, h, bind_ok]
  rw [if_pos ⟨by omega, h2⟩]
theorem itZip_of {f1 f2 : EX} {d e : D} {S1 S2 : Store} {xs ys : List D} (h1 : f1 sl S = .ok d S1) (h2 : f2 sl S1 = .ok e S2) (hx : srcD S2 d = some xs) (hy : srcD S2 e = some ys) :
    itZip (aCons f1 (aCons f2 aNil)) sl S = .ok (zipD xs ys, fun S2 => srcD S2 d = some xs ∧ srcD S2 e = some ys) S2 := by
  simp only [itZip, aCons, aNil, h1, h2, bind_ok, hx, hy]
theorem eName_of {i : Nat} {d : D} (h : sl[i]? = some (some d)) : eName i sl S = .ok d S := by simp only [eName, h]
end
end Z
namespace Z
open PySem PySem.Spec L2
section
variable {S : Store} {P : D → Store → Prop} {X : D → Store → Prop}
theorem inSg_sq {neg : Bool} {k e : D} {xs : List D} (h : asS S e = some xs) : inSg neg k e S = .bad := by
  cases e <;> first | (simp [asS, asL] at h; done) | (cases k <;> rfl)
theorem inDct_sq {neg : Bool} {k e : D} {xs : List D} (h : asS S e = some xs) : inDct neg k e S = .bad := by
  unfold inDct
  have : asD S e = none := by
    cases e with
    | ptr n =>
      simp only [asS, asL] at h
      split at h
      · rename_i ds e; simp [asD, e]
      · cases h
    | _ => first | rfl | (simp [asS, asL] at h; done)
  rw [this]
theorem inX_sq {k e : D} {xs : List D} (h : asS S e = some xs) (hk : flatD k = true) (hx : xs.all flatD = true) : inX k e S = .ok (.bl (inD k xs)) S := by
  unfold inX
  rw [orS2_r (inSg_sq h), orS2_r (inDct_sq h)]
  unfold inSq
  simp only [h]
  rw [if_pos ⟨hk, hx⟩]
  rfl
theorem all_const {α : Type} {xs : List α} : semAll [.lst (xs.map fun _ => .bl true)] S = .ok (.bl true) S := by
  have := all_lst (S := S) (p := fun _ : α => true) (xs := xs)
  rw [this]
  congr 2
  rw [List.all_eq_true]
  intros
  rfl
end
end Z
namespace Z
open PySem PySem.Spec L2
/-- _law_bag -/
noncomputable def m__law_bag : SX :=
  (sRet (eArgs semLstH (aCons (eArgs semListOf (aCons (eSl false (eName 0) oNone (oInt (eLit (.int 63)))) aNil)) (aCons (eLit (.int 0)) (aCons (eLit (.int 0)) (aCons (eLit (.int 5625)) aNil))))))
noncomputable def f__law_bag : SemL := arity 1 (defH 1 m__law_bag)
/-- _law_pick -/
noncomputable def m__law_pick : SX :=
  (sSeq (sIf (bAnd (bVal (eBin (eqD false) (eBin ixX (eName 0) (eLit (.int 2))) (eLit (.int 0)))) (bVal (eBin ltX (eBin ixX (eName 0) (eLit (.int 1))) (eArgs lenX (aCons (eBin ixX (eName 0) (eLit (.int 0))) aNil)))))
  (sSeq (sAsg (eBin ixX (eBin ixX (eName 0) (eLit (.int 0))) (eBin ixX (eName 0) (eLit (.int 1)))) (gSet 2))
  (sSeq (sAsg (eBin addX (eBin ixX (eName 0) (eLit (.int 1))) (eLit (.int 1))) (gSubX (eName 0) (eLit (.int 1))))
  (sIf (bVal (eBin geI (eName 2) (eBin powI (eLit (.int 10)) (eLit (.int 18)))))
  (sAsg (eName 2) (gSubX (eName 0) (eLit (.int 2))))
  (sAsg (eBin modI (eArgs semInt (aCons (eBin addX (eBin addX (eBin mulX (eBin ixX (eName 0) (eLit (.int 3))) (eLit (.int 48817))) (eBin mulX (eBin modI (eArgs semInt (aCons (eName 2) aNil)) (eLit (.int 2147483399))) (eLit (.int 9241)))) (eLit (.int 17))) aNil)) (eLit (.int 2147483563))) (gSubX (eName 0) (eLit (.int 3)))))))
  sNil)
  (sSeq (sIf (bVal (eBin gtI (eBin ixX (eName 0) (eLit (.int 2))) (eLit (.int 0))))
  (sSeq (sAsg (eBin modI (eArgs semInt (aCons (eBin ixX (eName 0) (eLit (.int 2))) aNil)) (eName 1)) (gSet 3))
  (sSeq (sAsg (eBin divI (eBin ixX (eName 0) (eLit (.int 2))) (eName 1)) (gSubX (eName 0) (eLit (.int 2))))
  (sRet (eName 3))))
  sNil)
  (sSeq (sAsg (eBin ixX (eName 0) (eLit (.int 3))) (gSet 4))
  (sSeq (sAsg (eBin modI (eArgs semInt (aCons (eBin addX (eBin addX (eBin mulX (eName 4) (eName 4)) (eBin mulX (eName 4) (eLit (.int 31013)))) (eLit (.int 1402361))) aNil)) (eLit (.int 2147483563))) (gSubX (eName 0) (eLit (.int 3))))
  (sRet (eBin modI (eArgs semInt (aCons (eBin addX (eBin divI (eBin ixX (eName 0) (eLit (.int 3))) (eLit (.int 71))) (eBin mulX (eBin modI (eArgs semInt (aCons (eBin ixX (eName 0) (eLit (.int 3))) aNil)) (eLit (.int 7907))) (eLit (.int 59)))) aNil)) (eName 1)))))))
noncomputable def f__law_pick : SemL := arity 2 (defS 5 m__law_pick)
/-- _law_of -/
noncomputable def m__law_of : SX :=
  (sRet (eBin ixX (eName 1) (eArgs f__law_pick (aCons (eName 0) (aCons (eArgs lenX (aCons (eName 1) aNil)) aNil)))))
noncomputable def f__law_of : SemL := arity 2 (defS 2 m__law_of)
/-- _law_same -/
noncomputable def m__law_same (again : SemL) : SX :=
  (sSeq (sIf (bVal (eArgs isiX (aCons (eName 1) (aCons (eArgs semTup (aCons (eLit (.ty "list")) (aCons (eLit (.ty "tuple")) aNil))) aNil))))
  (sSeq (sIf (bOr (bVal (eBin (eqD true) (eArgs isiX (aCons (eName 0) (aCons (eLit (.ty "list")) aNil))) (eArgs isiX (aCons (eName 1) (aCons (eLit (.ty "list")) aNil))))) (bVal (eBin (eqD true) (eArgs isiX (aCons (eName 0) (aCons (eLit (.ty "tuple")) aNil))) (eArgs isiX (aCons (eName 1) (aCons (eLit (.ty "tuple")) aNil))))))
  (sRet (eLit (.bl false)))
  sNil)
  (sRet (eAnd (eBin (eqD false) (eArgs lenX (aCons (eName 0) aNil)) (eArgs lenX (aCons (eName 1) aNil))) (eArgs semAll (aCons (eFin (eLc (itZip (aCons (eName 0) (aCons (eName 1) aNil))) (gTupX (gConsX (gSet 2) (gConsX (gSet 3) gNilX))) bTrue (eArgs again (aCons (eName 2) (aCons (eName 3) aNil))) [2, 3])) aNil)))))
  sNil)
  (sSeq (sIf (bOr (bVal (eBin (isN false) (eName 1) (eLit .non))) (bVal (eBin (isN false) (eName 0) (eLit .non))))
  (sRet (eAnd (eBin (isN false) (eName 1) (eLit .non)) (eBin (isN false) (eName 0) (eLit .non))))
  sNil)
  (sSeq (sIf (bOr (bVal (eBin (eqD true) (eArgs isiX (aCons (eName 0) (aCons (eLit (.ty "bool")) aNil))) (eArgs isiX (aCons (eName 1) (aCons (eLit (.ty "bool")) aNil))))) (bVal (eBin (eqD true) (eArgs isiX (aCons (eName 0) (aCons (eLit (.ty "int")) aNil))) (eArgs isiX (aCons (eName 1) (aCons (eLit (.ty "int")) aNil))))))
  (sRet (eLit (.bl false)))
  sNil)
  (sRet (eAnd (eBin (eqD false) (eArgs isiX (aCons (eName 0) (aCons (eLit (.ty "str")) aNil))) (eArgs isiX (aCons (eName 1) (aCons (eLit (.ty "str")) aNil)))) (eBin (eqD false) (eName 0) (eName 1)))))))
noncomputable def f__law_sameR : Nat → SemL
  | 0 => fun _ _ => .bad
  | k + 1 => arity 2 (defS 4 (m__law_same (f__law_sameR k)))
noncomputable def f__law_same : SemL := f__law_sameR 12
theorem pick_great (cs : List Int) (a g sd : Int) (S : Store) (n : Nat) (many : Int) (hS : S[n]? = some (bagD cs a g sd)) (hb : 0 < g) (hm : 0 < many) (hm2 : many.natAbs.log2 < 9000) :
    (m__law_pick [some (.ptr n), some (.int many), none, none, none] S).out = .ok (.int (g % many)) (S.set n (bagD cs a (g / many) sd)) := by
  unfold bagD at hS ⊢
  have hg : ¬ (g = 0) := by omega
  have hn : n < S.length := (List.getElem?_eq_some_iff.mp hS).1
  simp [m__law_pick, sSeq, sIf, bAnd, bVal, eBin, eName, eLit, ix_ptr hS, atI, ixN, hg, sNil, hb, sAsg, eArgs, aCons, aNil, semInt, modI_int hm, divI_int hm hm2, gSet, gSubX, setD, hS, sRet]
theorem atI_nat {xs : List D} {i : Int} (h0 : 0 ≤ i) (h : i < xs.length) : atI xs i = xs[i.toNat]? := by
  simp [atI, ixN, h0, h]
theorem pick_cell (cs : List Int) (a sd c : Int) (S : Store) (n : Nat) (many : Int) (hS : S[n]? = some (bagD cs a 0 sd)) (ha : 0 ≤ a) (hl : a < cs.length) (hc : cs[a.toNat]? = some c) (hc2 : 1000000000000000000 ≤ c) (hm : 0 < many) (hm2 : many.natAbs.log2 < 9000) :
    (m__law_pick [some (.ptr n), some (.int many), none, none, none] S).out = .ok (.int (c % many)) (S.set n (bagD cs (a + 1) (c / many) sd)) := by
  unfold bagD at hS ⊢
  have hn : n < S.length := (List.getElem?_eq_some_iff.mp hS).1
  have hc0 : 0 < c := by omega
  have hix : ixX (.lst (cs.map .int)) (.int a) S = .ok (.int c) S := by rw [ix_lst, atI_nat ha (by simpa using hl)]; simp [hc]
  have hset : ∀ m m' : MO, (S.set n m).set n m' = S.set n m' := fun m m' => by simp
  have hget : ∀ m : MO, (S.set n m)[n]? = some m := fun m => List.getElem?_set_self hn
  have hpow : powI (.int 10) (.int 18) = fun S => .ok (.int 1000000000000000000) S := by funext S; rfl
  simp [m__law_pick, sSeq, sIf, bAnd, bVal, eBin, eName, eLit, ix_ptr hS, atI, ixN, sNil, sAsg, eArgs, aCons, aNil, semInt, modI_int hm, divI_int hm hm2, gSet, gSubX, setD, hS, sRet, len_lst, hl, hix, ix_ptr (hget _), hget, hpow, hc2, hc0]
theorem log_small {i : Int} (h : i.natAbs < 2 ^ 60) : i.natAbs.log2 < 60 := by
  by_cases h0 : i.natAbs = 0
  · rw [h0]; decide
  · exact (Nat.log2_lt h0).mpr h
theorem mulX_small {i j : Int} (S : Store) (h : i.natAbs < 2 ^ 60) (h2 : j.natAbs < 2 ^ 60) : mulX (.int i) (.int j) S = .ok (.int (i * j)) S := by
  have := log_small h
  have := log_small h2
  exact mulX_int (by omega) S
def mixA (sd c : Int) : Int := (sd * 48817 + c % 2147483399 * 9241 + 17) % 2147483563
def mixB (sd : Int) : Int := (sd * sd + sd * 31013 + 1402361) % 2147483563
def mixD (sd : Int) : Int := sd / 71 + sd % 7907 * 59
theorem mixB_lt (sd : Int) : 0 ≤ mixB sd ∧ mixB sd < 2147483563 := ⟨Int.emod_nonneg _ (by decide), Int.emod_lt_of_pos _ (by decide)⟩
theorem mixA_lt (sd c : Int) : 0 ≤ mixA sd c ∧ mixA sd c < 2147483563 := ⟨Int.emod_nonneg _ (by decide), Int.emod_lt_of_pos _ (by decide)⟩
theorem pick_seed (cs : List Int) (a sd : Int) (S : Store) (n : Nat) (many : Int) (hS : S[n]? = some (bagD cs a 0 sd)) (ha : 0 ≤ a) (hl : ¬ a < cs.length) (h0 : 0 ≤ sd) (h1 : sd < 2147483563) (hm : 0 < many) (hm2 : many.natAbs.log2 < 9000) :
    (m__law_pick [some (.ptr n), some (.int many), none, none, none] S).out = .ok (.int (mixD (mixB sd) % many)) (S.set n (bagD cs a 0 (mixB sd))) := by
  unfold bagD at hS ⊢
  have hn : n < S.length := (List.getElem?_eq_some_iff.mp hS).1
  have hset : ∀ m m' : MO, (S.set n m).set n m' = S.set n m' := fun m m' => by simp
  have hget : ∀ m : MO, (S.set n m)[n]? = some m := fun m => List.getElem?_set_self hn
  have q1 : ∀ S, mulX (.int sd) (.int sd) S = .ok (.int (sd * sd)) S := fun S => mulX_small S (by omega) (by omega)
  have q2 : ∀ S, mulX (.int sd) (.int 31013) S = .ok (.int (sd * 31013)) S := fun S => mulX_small S (by omega) (by decide)
  have z : ∀ x : Int, (x % 7907).natAbs < 2 ^ 60 := fun x => by omega
  have q3 : ∀ S x, mulX (.int (x % 7907)) (.int 59) S = .ok (.int (x % 7907 * 59)) S := fun S x => mulX_small S (z x) (by decide)
  have m1 : ∀ S x, modI (.int x) (.int 2147483563) S = .ok (.int (x % 2147483563)) S := fun S x => modI_int (by decide) S
  have m2 : ∀ S x, modI (.int x) (.int 7907) S = .ok (.int (x % 7907)) S := fun S x => modI_int (by decide) S
  have d1 : ∀ S x, divI (.int x) (.int 71) S = .ok (.int (x / 71)) S := fun S x => divI_int (by decide) (by decide) S
  simp [m__law_pick, sSeq, sIf, bAnd, bVal, eBin, eName, eLit, ix_ptr hS, atI, ixN, sNil, sAsg, eArgs, aCons, aNil, semInt, modI_int hm, gSet, gSubX, setD, hS, sRet, len_lst, hl, ix_ptr (hget _), hget, q1, q2, q3, m1, m2, d1, mixD, mixB]
theorem pick_mix (cs : List Int) (a sd c : Int) (S : Store) (n : Nat) (many : Int) (hS : S[n]? = some (bagD cs a 0 sd)) (ha : 0 ≤ a) (hl : a < cs.length) (hc : cs[a.toNat]? = some c) (hc2 : ¬ 1000000000000000000 ≤ c) (h0 : 0 ≤ sd) (h1 : sd < 2147483563) (hm : 0 < many) (hm2 : many.natAbs.log2 < 9000) :
    (m__law_pick [some (.ptr n), some (.int many), none, none, none] S).out = .ok (.int (mixD (mixB (mixA sd c)) % many)) (S.set n (bagD cs (a + 1) 0 (mixB (mixA sd c)))) := by
  unfold bagD at hS ⊢
  have hn : n < S.length := (List.getElem?_eq_some_iff.mp hS).1
  have hix : ixX (.lst (cs.map .int)) (.int a) S = .ok (.int c) S := by rw [ix_lst, atI_nat ha (by simpa using hl)]; simp [hc]
  have hset : ∀ m m' : MO, (S.set n m).set n m' = S.set n m' := fun m m' => by simp
  have hget : ∀ m : MO, (S.set n m)[n]? = some m := fun m => List.getElem?_set_self hn
  have hpow : powI (.int 10) (.int 18) = fun S => .ok (.int 1000000000000000000) S := by funext S; rfl
  have e := mixA_lt sd c
  have z : ∀ x : Int, (x % 7907).natAbs < 2 ^ 60 := fun x => by omega
  have z2 : ∀ x : Int, (x % 2147483399).natAbs < 2 ^ 60 := fun x => by omega
  have z3 : (mixA sd c).natAbs < 2 ^ 60 := by omega
  have q0 : ∀ S, mulX (.int sd) (.int 48817) S = .ok (.int (sd * 48817)) S := fun S => mulX_small S (by omega) (by decide)
  have q4 : ∀ S x, mulX (.int (x % 2147483399)) (.int 9241) S = .ok (.int (x % 2147483399 * 9241)) S := fun S x => mulX_small S (z2 x) (by decide)
  have q1 : ∀ S, mulX (.int (mixA sd c)) (.int (mixA sd c)) S = .ok (.int (mixA sd c * mixA sd c)) S := fun S => mulX_small S z3 z3
  have q2 : ∀ S, mulX (.int (mixA sd c)) (.int 31013) S = .ok (.int (mixA sd c * 31013)) S := fun S => mulX_small S z3 (by decide)
  have q3 : ∀ S x, mulX (.int (x % 7907)) (.int 59) S = .ok (.int (x % 7907 * 59)) S := fun S x => mulX_small S (z x) (by decide)
  have m1 : ∀ S x, modI (.int x) (.int 2147483563) S = .ok (.int (x % 2147483563)) S := fun S x => modI_int (by decide) S
  have m2 : ∀ S x, modI (.int x) (.int 7907) S = .ok (.int (x % 7907)) S := fun S x => modI_int (by decide) S
  have m3 : ∀ S x, modI (.int x) (.int 2147483399) S = .ok (.int (x % 2147483399)) S := fun S x => modI_int (by decide) S
  have d1 : ∀ S x, divI (.int x) (.int 71) S = .ok (.int (x / 71)) S := fun S x => divI_int (by decide) (by decide) S
  have fA : (sd * 48817 + c % 2147483399 * 9241 + 17) % 2147483563 = mixA sd c := rfl
  have fB : (mixA sd c * mixA sd c + mixA sd c * 31013 + 1402361) % 2147483563 = mixB (mixA sd c) := rfl
  simp [m__law_pick, sSeq, sIf, bAnd, bVal, eBin, eName, eLit, ix_ptr hS, atI, ixN, sNil, sAsg, eArgs, aCons, aNil, semInt, modI_int hm, gSet, gSubX, setD, hS, sRet, len_lst, hl, hix, ix_ptr (hget _), hget, hpow, hc2, q0, q1, q2, q3, q4, m1, m2, m3, d1, fA, fB, mixD]
theorem closed_set {S : Store} {n : Nat} {m : MO} (h : underM S.length m = true) : Closed S (S.set n m) := fun i m' hi e => by
  by_cases q : n = i
  · subst q
    rw [List.getElem?_set_self hi] at e
    cases e
    exact .inr h
  · rw [List.getElem?_set_ne q] at e
    exact .inl e
theorem fin_set {S : Store} {n : Nat} {m : MO} {d : D} (h : underM S.length m = true) (hd : ∀ g, frzD g d = some d) : fin S (.ok d (S.set n m)) = .ok d (S.set n m) := by
  simp only [fin, if_pos (closed_set h), hd]
  rw [show (S.set n m).take S.length = S.set n m from List.take_of_length_le (by simp)]
section
variable {S S' S'' T : Store} {n : Nat} {cs : List Int}
theorem Drawn.refl (h : IsBag S n cs) : Drawn n cs S S := by
  refine ⟨h, ?_⟩
  obtain ⟨a, g, s, h⟩ := h
  refine ⟨a, g, s, ?_⟩
  have := h.at_
  rw [List.getElem?_eq_some_iff] at this
  obtain ⟨hn, e⟩ := this
  rw [← e, List.set_getElem_self]
end
section
variable {n : Nat} {cs : List Int} {h : Store → Out D} {R : D → Prop} {S T : Store} {P : D → Store → Prop} {X : D → Store → Prop}
theorem DF.we (H : DF n cs h R) (hB : IsBag S n cs) (k : ∀ d S', R d → Drawn n cs S S' → P d S') : We (h S) P X := (H S hB).mono (fun d S' ⟨h1, h2⟩ => k d S' h2 h1) fun _ _ q => q.elim
theorem fin_drawn {S S1 : Store} {d : D} (h : Drawn n cs S S1) (hd : under S.length d = true) (p : P d S1) : FinP S P d S1 := finP_keep0 h.keep hd p
end
theorem pick_dfB {n : Nat} {cs : List Int} {many : Int} (hm : 0 < many) (hlog : many.natAbs.log2 < 9000) : DF n cs (f__law_pick [.ptr n, .int many]) (fun d => ∃ k : Nat, (k : Int) < many ∧ d = .int k) := fun S hB => by
  have hB0 := hB
  obtain ⟨a, g, s, hb⟩ := hB
  have hn : n < S.length := (List.getElem?_eq_some_iff.mp hb.at_).1
  have key : ∀ (x a' g' s' : Int), (m__law_pick [some (.ptr n), some (.int many), none, none, none] S).out = .ok (.int (x % many)) (S.set n (bagD cs a' g' s')) → 0 ≤ a' → 0 ≤ g' → 0 ≤ s' → s' < 2147483563 →
      We (f__law_pick [.ptr n, .int many] S) (fun d S' => Drawn n cs S S' ∧ ∃ k : Nat, (k : Int) < many ∧ d = .int k) (fun _ _ => False) := fun x a' g' s' e h1 h2 h3 h4 => by
    have hx := Int.emod_nonneg x (show many ≠ 0 by omega)
    refine we_eq (a := .int (x % many)) (S := S.set n (bagD cs a' g' s')) ?_ ⟨⟨⟨a', g', s', List.getElem?_set_self hn, h1, h2, h3, h4⟩, a', g', s', rfl⟩, (x % many).toNat, by rw [Int.toNat_of_nonneg hx]; exact Int.emod_lt_of_pos _ hm, by rw [Int.toNat_of_nonneg hx]⟩
    show fin S (m__law_pick [some (.ptr n), some (.int many), none, none, none] S).out = _
    rw [e]
    exact fin_set (under_bag _ _ _ _ _) fun g => by simp [frzD]
  by_cases hg : 0 < g
  · exact key g a (g / many) s (pick_great cs a g s S n many hb.at_ hg hm hlog) hb.a0 (Int.ediv_nonneg hb.g0 (by omega)) hb.s0 hb.s1
  · have hg0 : g = 0 := by have := hb.g0; omega
    have hat := hb.at_
    rw [hg0] at hat
    by_cases hl : a < cs.length
    · have ha := hb.a0
      obtain ⟨c, hc⟩ : ∃ c, cs[a.toNat]? = some c := ⟨cs[a.toNat]'(by omega), by simp⟩
      by_cases h18 : 1000000000000000000 ≤ c
      · exact key c (a + 1) (c / many) s (pick_cell cs a s c S n many hat ha hl hc h18 hm hlog) (by omega) (Int.ediv_nonneg (by omega) (by omega)) hb.s0 hb.s1
      · exact key _ (a + 1) 0 _ (pick_mix cs a s c S n many hat ha hl hc h18 hb.s0 hb.s1 hm hlog) (by omega) (by omega) (mixB_lt _).1 (mixB_lt _).2
    · exact key _ a 0 _ (pick_seed cs a s S n many hat hb.a0 hl hb.s0 hb.s1 hm hlog) hb.a0 (by omega) (mixB_lt _).1 (mixB_lt _).2
theorem pick_df {n : Nat} {cs : List Int} {many : Int} (hm : 0 < many) (hm2 : many < 1000000) : DF n cs (f__law_pick [.ptr n, .int many]) (fun d => ∃ k : Nat, (k : Int) < many ∧ d = .int k) :=
  pick_dfB hm (by
    have := log_small (i := many) (by omega)
    omega)
theorem we_defO {N n : Nat} {body : SX} {ds : List D} {S : Store} {P X : D → Store → Prop} (hl : ds.length = n) (h : Wo (body (ds.map some ++ List.replicate (N - ds.length) none) S) ⟨fun _ S' => P .non S', fun _ _ => False, fun _ _ => False, P, fun e _ S' => X e S'⟩) : We (arity n (defH N body) ds S) P X := by
  rw [w_arity hl, we_defH]
  exact h
/-- .. with tables below -/
theorem bag_startT {P X : D → Store → Prop} (ns : List Int) (T : Store) (p : P (.ptr T.length) (T ++ [bagD (ns.take 63) 0 0 5625])) : We (f__law_bag [.scr ns] T) P X := by
  unfold f__law_bag
  refine we_defO rfl ?_
  simp [m__law_bag, ← List.map_take]
  exact p
theorem bag_isT (ns : List Int) (T : Store) : IsBag (T ++ [bagD (ns.take 63) 0 0 5625]) T.length (ns.take 63) := ⟨0, 0, 5625, by simp, by decide, by decide, by decide, by decide⟩
/-- one of some -/
theorem of_df {n : Nat} {cs : List Int} {xs : List D} (hx : xs ≠ []) (hl : xs.length < 1000000) (hu : underL 0 xs = true) : DF n cs (f__law_of [.ptr n, .lst xs]) (fun d => d ∈ xs) := fun S hB => by
  have h0 : 0 < xs.length := List.length_pos_iff.mpr hx
  unfold f__law_of
  refine we_def rfl ?_
  simp [m__law_of]
  refine (pick_df (by omega) (by omega)).we hB fun d S' ⟨k, hk, e⟩ hD => ?_
  subst e
  have hk' : k < xs.length := by omega
  simp [hk']
  exact fin_drawn hD (under_of (underL_iff.mp hu _ (List.getElem_mem _))) ⟨hD, List.getElem_mem _⟩
theorem set_last {S : Store} {n : Nat} {a b : MO} (h : S.length = n) : (S ++ [a]).set n b = S ++ [b] := by
  subst h
  rw [List.set_append_right _ _ (Nat.le_refl _)]
  simp
theorem plainL_iff {k : Nat} : ∀ {xs : List D}, plainL k xs ↔ ∀ x ∈ xs, plain k x
  | [] => by simp [plainL]
  | x :: xs => by simp [plainL, plainL_iff (xs := xs)]
theorem sameR_zero (k : Nat) (d : D) (S : Store) (h : plain 0 d) : f__law_sameR (k + 1) [d, d] S = .ok (.bl true) S := by
  refine eq_of_we ?_
  unfold f__law_sameR
  refine we_def rfl ?_
  cases d with
  | non => simp [m__law_same]
  | bl b => simp [m__law_same]
  | int i => simp [m__law_same]
  | str s =>
    rw [← tx_eta s] at h ⊢
    rw [plain_str] at h
    simp [m__law_same, eqD_str h h]
  | _ => simp [plain] at h
theorem same_refl : ∀ (k : Nat) (d : D) (S : Store), plain k d → f__law_sameR (k + 1) [d, d] S = .ok (.bl true) S := fun k => by
  induction k with
  | zero =>
    intro d S h
    exact sameR_zero 0 d S h
  | succ k ih =>
    intro d S h
    have seq : ∀ xs : List D, plainL k xs → xs.length ≤ 1000000 → ∀ d, d = .tup xs ∨ d = .lst xs ∨ d = .tpx xs → f__law_sameR (k + 1 + 1) [d, d] S = .ok (.bl true) S := fun xs hx hl d hd => by
      refine eq_of_we ?_
      rw [f__law_sameR]
      refine we_def rfl ?_
      have hz : (zipD xs xs) = xs.map fun x => .tup [x, x] := by
        unfold zipD
        rw [List.zipWith_self]
      have key : ∀ {P X X' : D → Store → Prop} {sl : Sl} {d : D}, P (.bl true) S → eName 0 sl S = .ok d S → eName 1 sl S = .ok d S → srcD S d = some xs → (∀ T, srcD (S ++ T) d = some xs) → sl.length = 4 →
          We (eLc (itZip (aCons (eName 0) (aCons (eName 1) aNil))) (gTupX (gConsX (gSet 2) (gConsX (gSet 3) gNilX))) bTrue (eArgs (f__law_sameR (k + 1)) (aCons (eName 2) (aCons (eName 3) aNil))) [2, 3] sl S) (FinP S fun d' S1 => We (semAll [d'] S1) P X) X' := fun {P X X' sl d} hP h1 h2 h3 h4 h5 => by
        have hit := itZip_of h1 h2 h3 h3
        rw [hz] at hit
        refine we_lcF_pure (xs := xs.map fun x => .tup [x, x]) (fun _ => true) (fun _ => .bl true) hit (by simpa using hl) (fun acc => ⟨h4 _, h4 _⟩) (fun x hx' T => ?_) (fun x hx _ => ?_) ?_
        · obtain ⟨y, hy, rfl⟩ := List.mem_map.mp hx'
          match sl, h5 with
          | [a, b, c, e], _ =>
            simp [wipeS, bTrue]
            rw [ih y _ (plainL_iff.mp hx y hy)]
            simp
        · simp
        · rw [all_const, we_ok]
          exact hP
      rcases hd with rfl | rfl | rfl
      · simp [m__law_same]
        refine key (d := .tup xs) ?_ ?_ ?_ ?_ ?_ ?_
        · simp
        · rfl
        · rfl
        · rfl
        · intro T; rfl
        · rfl
      · simp [m__law_same]
        refine key (d := .lst xs) ?_ ?_ ?_ ?_ ?_ ?_
        · simp
        · rfl
        · rfl
        · rfl
        · intro T; rfl
        · rfl
      · simp [m__law_same]
        refine key (d := .tpx xs) ?_ ?_ ?_ ?_ ?_ ?_
        · simp
        · rfl
        · rfl
        · rfl
        · intro T; rfl
        · rfl
    cases d with
    | tup xs => rw [plain] at h; exact seq xs h.1 h.2 _ (.inl rfl)
    | lst xs => rw [plain] at h; exact seq xs h.1 h.2 _ (.inr (.inl rfl))
    | tpx xs => rw [plain] at h; exact seq xs h.1 h.2 _ (.inr (.inr rfl))
    | non => exact sameR_zero _ _ S plain_non
    | bl b => exact sameR_zero _ _ S plain_bl
    | int i => exact sameR_zero _ _ S plain_int
    | str s =>
      refine sameR_zero _ _ S ?_
      rw [← tx_eta s] at h ⊢
      rw [plain_str] at h ⊢
      exact h
    | _ => simp [plain] at h
end Z
namespace ZX
open PySem PySem.W PySem.Calls PyProof.Rows PySem.Spec
/-- what all of it asks of the module -/
structure SupM (prog : Program) (K : Frag) (mg : Str → Option Value) (base : Heap) : Prop where
  mod : L2.Mod K mg base
  ms : mg "super" = none
  top : (prog.main.scope.names.lookup ("super" : Str)).isSome = false
  tp : nsIn K cStatics "thirdparty.any" = some none
/-- the scope of such a def -/
structure SupS (scope : Scope) (slf : Str) : Prop where
  ks : scope.names.lookup ("super" : Str) = some .globalImplicit
  kc : scope.names.lookup ("__class__" : Str) = some .free
  ka : scope.names.lookup slf = some .local
  kind : scope.kind = .function
  co : scope.isCoroutine = false
  gen : scope.isGenerator = false
  cell : ∀ x ∈ scope.names, x.2 ≠ .cell
section
variable {prog : Program} {w : World} {A : Around} {E : Value → Shared → Prop} {s : Shared} {K : Frag} {mg : Str → Option Value} {base : Heap} {L x C D f cc cda : Addr} {m : Str → Option Value} {ox : Obj} {odx : Option Obj} {slf : Str}
theorem node {body : List Stmt} {q : Str} {scope : Scope} {p0 p1 : Pos} {whole : Sem Value} {fd : FuncData} {ar : Arg} {vs : Array Value} {file : Str} {tf : Tok} {oc ccl cl : Value} {od cdd cld : Option Addr} {osl ccs csl : Array (Option Value)} {cdD : ClassData} {Q : Value → Shared → Prop}
    (M : SupM prog K mg base) (S : SupS scope ar.arg) (bk : ∀ b o, base.get? b = some o → s.heap.get? b = some o) (hn : s.heap.Ns L m)
    (hf : K.lookup f = some ⟨oc, od, .func fd, osl⟩) (hp : (fd.params.posonlyargs ++ fd.params.args).head? = some ar) (hv : m ar.arg = some (.ref x)) (I : InstAt s.heap x ox C odx)
    (hcode : K.lookup cda = some ⟨ccl, cdd, .fields vs, ccs⟩) (hvs : vs[2]? = some (.str file tf)) (hfile : ((prog.main.file : Str) == file) = true)
    (hcell : K.lookup cc = some ⟨cl, cld, .cell (some (.ref D)), csl⟩) (hD : clsIn K D = some cdD) (hsub : mroIn K C (.ref D) = some true)
    (h : ∀ h', h'.get? s.heap.objs.size = some (ks_superObj D x C) → (∀ b o, s.heap.get? b = some o → h'.get? b = some o) → Q (.ref s.heap.objs.size) { s with heap := h' }) :
    _root_.PySem.wpAt (model prog w) A (.func body (ksEnv q scope L f (.ref cda) cc)) (attributeBase (.Call (.Name "super" p0) [] [] p1) "__init__" (ksEnv q scope L f (.ref cda) cc) whole) Q E s := by
  have X : K.In s.heap := M.mod.kin.keeps bk
  obtain ⟨hh, g, d, t, os⟩ := s
  obtain ⟨oD, hD1, hD2⟩ : ∃ oD, hh.get? D = some oD ∧ oD.data = .cls cdD := by
    unfold clsIn at hD
    split at hD
    · rename_i c d cd' sl ho
      cases hD
      exact ⟨_, X _ _ ho, rfl⟩
    · cases hD
  obtain ⟨mb, hb1, hb2⟩ := M.mod.blt
  refine ks_wpAt_super_base (env := ksEnv q scope L f (.ref cda) cc) S.ks S.kc (by decide) rfl (X _ _ hf) rfl hp rfl (X _ _ hcode) rfl hvs hfile M.top ?_
  refine ks_loadName_global S.kind S.ks (loadGlobal_builtin (env := ksEnv q scope L f (.ref cda) cc) (M.mod.glob.keeps bk) M.ms (hb1.keeps bk) ((hb2 _ (by decide +kernel)).trans PyProof.Rows.Boot.«super») ⟨rfl, ?_⟩)
  refine wpAny_loadName_free S.kind S.kc rfl ⟨_, X _ _ hcell, rfl⟩ ?_
  refine wpAny_loadName_local S.kind S.ka hn hv ?_
  refine ks_wpAny_isType_cls hD1 hD2 ⟨rfl, ?_⟩
  refine ks_wpAny_call_super hD1 hD2 I.at_ I.cls (fun c e => ?_) (looks_mroIn X hsub) (fun h' e k => ?_)
  · have := I.no
    unfold notCls at this
    rw [e] at this
    exact Bool.noConfusion this
  · exact h _ e k
end
section
variable {prog : Program} {w : World} {A : Around} {E : Value → Shared → Prop} {s : Shared} {K : Frag} {mg : Str → Option Value} {base : Heap} {L x C D f : Addr} {m : Str → Option Value} {B i newId : String} {bmB : List Value}
/-- what the class of the exception says -/
structure ExC (K : Frag) (C : Addr) (bmB : List Value) (newId : String) : Prop where
  mkc : excInitIn K C bmB newId = true
  ov : excOver K C bmB = true
  cls : (clsIn K C).isSome = true
  sa : findIn K (.ref C) "__setattr__" = some (some (.builtin "object.__setattr__"))
theorem inst_exc {h : Heap} {t : Addr} {dd : Option Addr} {od : Obj} (hx : h.get? x = some (exd C t dd)) (hd : ∀ d, dd = some d → h.get? d = some od) : InstAt h x (exd C t dd) C (match dd with | none => none | some _ => some od) := by
  refine ⟨hx, rfl, rfl, ?_⟩
  cases dd with
  | none => trivial
  | some d => exact hd d rfl
/-- super().__init__(e) where the next class is built in: the args are laid anew -/
theorem sup_bi {body : List Stmt} {q : Str} {scope : Scope} {p0 p1 p2 p4 p5 : Pos} {fd : FuncData} {ar : Arg} {cc cda : Addr} {vs : Array Value} {file : Str} {tf : Tok} {oc ccl cl : Value} {od cdd cld : Option Addr} {osl ccs csl : Array (Option Value)} {cdD : ClassData} {Q : Flow → Shared → Prop} {e : Expr} {Rv : Value → Prop} {t : Addr} {pl : Sem Bool}
    (KF : KxsFacts B i) (FB : ExcBaseFacts B newId i bmB) (M : SupM prog K mg base) (S : SupS scope ar.arg) (T : ExC K C bmB newId) (bk : ∀ b o, base.get? b = some o → s.heap.get? b = some o) (hn : s.heap.Ns L m)
    (hf : K.lookup f = some ⟨oc, od, .func fd, osl⟩) (hp : (fd.params.posonlyargs ++ fd.params.args).head? = some ar) (hv : m ar.arg = some (.ref x)) (hx : s.heap.get? x = some (exd C t none))
    (hcode : K.lookup cda = some ⟨ccl, cdd, .fields vs, ccs⟩) (hvs : vs[2]? = some (.str file tf)) (hfile : ((prog.main.file : Str) == file) = true)
    (hcell : K.lookup cc = some ⟨cl, cld, .cell (some (.ref D)), csl⟩) (hD : clsIn K D = some cdD) (hsub : mroIn K C (.ref D) = some true)
    (hm : ks_superIn K C D "__init__" = some (some (.builtin i))) (hB : subIn K (.ref C) (.type B) = some true)
    (he : ∀ (s1 : Shared) (Q1 : Value → Shared → Prop), s1.heap.Ns L m → (∀ v tk, Rv v → Q1 v { s1 with toks := tk }) → wpAny (model prog w) A (eval e (ksEnv q scope L f (.ref cda) cc)) Q1 E s1)
    (h : ∀ h' t' tk, (∀ b o, b ≠ x → s.heap.get? b = some o → h'.get? b = some o) → h'.get? x = some (exd C t' none) → Q .next { s with heap := h', toks := tk })
    (hs : swapsWith (.Call (.Attribute (.Call (.Name "super" p0) [] [] p1) "__init__" p2) [e] [] p4) none p5.line (ksEnv q scope L f (.ref cda) cc) = pure false)
    (hev : eval (.Call (.Attribute (.Call (.Name "super" p0) [] [] p1) "__init__" p2) [e] [] p4) (ksEnv q scope L f (.ref cda) cc) = (do
      let ov ← attributeBase (.Call (.Name "super" p0) [] [] p1) "__init__" (ksEnv q scope L f (.ref cda) cc) (eval (.Call (.Name "super" p0) [] [] p1) (ksEnv q scope L f (.ref cda) cc))
      standAt p2.atName
      let (g, first) ← holding [ov] (getMethod ov "__init__" pl)
      callWith p4 g first (backTo p4 (starEach [e] (ksEnv q scope L f (.ref cda) cc))) []))
    (hst : starEach [e] (ksEnv q scope L f (.ref cda) cc) = [(false, eval e (ksEnv q scope L f (.ref cda) cc))]) :
    _root_.PySem.wpAt (model prog w) A (.func body (ksEnv q scope L f (.ref cda) cc)) (exec (.Expr (.Call (.Attribute (.Call (.Name "super" p0) [] [] p1) "__init__" p2) [e] [] p4) p5) (ksEnv q scope L f (.ref cda) cc)) Q E s := by
  have X : K.In s.heap := M.mod.kin.keeps bk
  obtain ⟨cdC, hcC⟩ := Option.isSome_iff_exists.mp T.cls
  refine ks_wpAt_Expr_any ?_ (by unfold interactive; rw [show (ksEnv q scope L f (.ref cda) cc).scope.kind = .function from S.kind]; rfl) hs
  refine ks_wpAt_MethodCall ?_ hev
  refine node M S bk hn hf hp hv (inst_exc (od := default) hx (fun d z => by cases z)) hcode hvs hfile hcell hD hsub (fun h1 hso k1 => ?_)
  have hx1 := k1 _ _ hx
  have X1 : K.In h1 := X.keeps k1
  have I1 : InstAt h1 x (exd C t none) C none := inst_exc (od := default) hx1 (fun d z => by cases z)
  unfold ks_superIn at hm
  rw [hcC] at hm
  obtain ⟨hh, g, d, tk, os⟩ := s
  refine kxs_getMethod KF hso (looks_opaque X1 M.tp) (l₀ := cdC.mro) (fun A Q E s k q => wpAny_bind ((looks_clsIn X1 hcC) A _ E s k (wpAny_pure q))) rfl X1 hm (I1.type.andThen (looks_subIn X1 hB)) (ks_ne X1 I1 hcC) (by decide) ?_
  have k2 : ∀ b o, hh.get? b = some o → (h1.push (kxs_mw i x)).get? b = some o := fun b o e => Heap.get?_push_of_some _ (k1 b o e)
  have hw : (h1.push (kxs_mw i x)).get? h1.objs.size = some (kxs_mw i x) := Heap.get?_push_at rfl rfl
  have hn2 : (h1.push (kxs_mw i x)).Ns L m := by
    obtain ⟨oL, es, ep, hL, r⟩ := hn
    exact ⟨oL, es, ep, k2 _ _ hL, r⟩
  refine kxs_callWith (i := i) (x := x) (by rw [hst]; rfl) ?_
  rw [hst]
  refine evalArgs_plain (spliced_cons (he _ _ hn2 fun v tk2 rv => ?_))
  refine spliced_nil ⟨hw, ?_⟩
  have hx2 := k2 _ _ hx
  obtain ⟨nm, N', qn, bs, bm, hdct, sn, sub, ab, col, dd, k0, k1', k2', k3, k5, hC, hT⟩ := excInit_of (X.keeps k2) T.mkc
  refine wpAny_call (codeAny_of_tree ?_)
  show wpAny _ A.in1 (callAny (.ref _) ⟨[v], []⟩) _ _ _
  simp only [callAny]
  refine wpAny_bind (wpAny_load hw ?_)
  simp only [kxs_mw, show (Value.type "method-wrapper" == Value.type "method" || Value.type "method-wrapper" == Value.type "builtin_function_or_method" || Value.type "method-wrapper" == Value.type "method-wrapper") = true by decide, if_true]
  refine KFB.if_so (by decide) ?_
  refine wpAny_bind (check_bound_init FB.toExcCallFacts hC hx2 rfl ?_)
  refine wpAny_bind (wpAny_pure (wpAny_pure ?_))
  refine ⟨plainId_quiet FB.init.plain _, codeAny_builtin FB.initEntry ?_⟩
  refine exc_init_tree (cls := .ref C) (t0 := t) (dv := none) (c2 := .none) (c3 := .none) (b4 := .bool false) hx2 (by show 1 ≤ sizeLine; rw [sizeLine_eq]; omega) fun h' k e' t' => ?_
  exact h h' _ _ (fun b o hb e => k b o hb (k2 b o e)) e'
/-- super().__init__(e) where the next class has its own __init__ -/
theorem sup_own {body : List Stmt} {q : Str} {scope : Scope} {p0 p1 p2 p4 p5 : Pos} {fd : FuncData} {ar : Arg} {cc cda : Addr} {vs : Array Value} {file : Str} {tf : Tok} {oc ccl cl : Value} {od cdd cld : Option Addr} {osl ccs csl : Array (Option Value)} {cdD : ClassData} {Q : Flow → Shared → Prop} {e : Expr} {Rv : Value → Prop} {t : Addr} {pl : Sem Bool}
    (M : SupM prog K mg base) (S : SupS scope ar.arg) (T : ExC K C bmB newId) (bk : ∀ b o, base.get? b = some o → s.heap.get? b = some o) (hn : s.heap.Ns L m)
    (hf : K.lookup f = some ⟨oc, od, .func fd, osl⟩) (hp : (fd.params.posonlyargs ++ fd.params.args).head? = some ar) (hv : m ar.arg = some (.ref x)) (hx : s.heap.get? x = some (exd C t none)) {f2 : Addr} (hf2 : (K.lookup f2).map (·.cls) = some (.type "function")) (hfn2 : fnIn K f2 = true)
    (hcode : K.lookup cda = some ⟨ccl, cdd, .fields vs, ccs⟩) (hvs : vs[2]? = some (.str file tf)) (hfile : ((prog.main.file : Str) == file) = true)
    (hcell : K.lookup cc = some ⟨cl, cld, .cell (some (.ref D)), csl⟩) (hD : clsIn K D = some cdD) (hsub : mroIn K C (.ref D) = some true)
    (hm : ks_superIn K C D "__init__" = some (some (.ref f2)))
    (he : ∀ (s1 : Shared) (Q1 : Value → Shared → Prop), s1.heap.Ns L m → (∀ v tk, Rv v → Q1 v { s1 with toks := tk }) → wpAny (model prog w) A (eval e (ksEnv q scope L f (.ref cda) cc)) Q1 E s1)
    (h : ∀ h' tk v, Rv v → (∀ b o, s.heap.get? b = some o → h'.get? b = some o) → codeAny (model prog w) A (.call (.ref f2) ⟨[.ref x, v], []⟩) (fun r s' => match r with | .ok (.ret _) => Q .next s' | .ok _ => False | .error e => E e s') { s with heap := h', toks := tk })
    (hs : swapsWith (.Call (.Attribute (.Call (.Name "super" p0) [] [] p1) "__init__" p2) [e] [] p4) none p5.line (ksEnv q scope L f (.ref cda) cc) = pure false)
    (hev : eval (.Call (.Attribute (.Call (.Name "super" p0) [] [] p1) "__init__" p2) [e] [] p4) (ksEnv q scope L f (.ref cda) cc) = (do
      let ov ← attributeBase (.Call (.Name "super" p0) [] [] p1) "__init__" (ksEnv q scope L f (.ref cda) cc) (eval (.Call (.Name "super" p0) [] [] p1) (ksEnv q scope L f (.ref cda) cc))
      standAt p2.atName
      let (g, first) ← holding [ov] (getMethod ov "__init__" pl)
      callWith p4 g first (backTo p4 (starEach [e] (ksEnv q scope L f (.ref cda) cc))) []))
    (hst : starEach [e] (ksEnv q scope L f (.ref cda) cc) = [(false, eval e (ksEnv q scope L f (.ref cda) cc))]) :
    _root_.PySem.wpAt (model prog w) A (.func body (ksEnv q scope L f (.ref cda) cc)) (exec (.Expr (.Call (.Attribute (.Call (.Name "super" p0) [] [] p1) "__init__" p2) [e] [] p4) p5) (ksEnv q scope L f (.ref cda) cc)) Q E s := by
  have X : K.In s.heap := M.mod.kin.keeps bk
  obtain ⟨cdC, hcC⟩ := Option.isSome_iff_exists.mp T.cls
  refine ks_wpAt_Expr_any ?_ (by unfold interactive; rw [show (ksEnv q scope L f (.ref cda) cc).scope.kind = .function from S.kind]; rfl) hs
  refine ks_wpAt_MethodCall ?_ hev
  refine node M S bk hn hf hp hv (inst_exc (od := default) hx (fun d z => by cases z)) hcode hvs hfile hcell hD hsub (fun h1 hso k1 => ?_)
  have hx1 := k1 _ _ hx
  have X1 : K.In h1 := X.keeps k1
  have I1 : InstAt h1 x (exd C t none) C none := inst_exc (od := default) hx1 (fun d z => by cases z)
  unfold ks_superIn at hm
  rw [hcC] at hm
  obtain ⟨hh, g, d, tk, os⟩ := s
  obtain ⟨of, hof, hofc⟩ : ∃ of, h1.get? f2 = some of ∧ of.cls = .type "function" := by
    cases z : K.lookup f2 with
    | none => rw [z] at hf2; cases hf2
    | some of => rw [z] at hf2; exact ⟨of, X1 _ _ z, Option.some.inj hf2⟩
  refine ks_wpAny_getMethod_super hso (looks_opaque X1 M.tp) (l₀ := cdC.mro) (fun A Q E s k q => wpAny_bind ((looks_clsIn X1 hcC) A _ E s k (wpAny_pure q))) rfl X1 hm hof hofc (ks_ne X1 I1 hcC) (by decide) ?_
  have k2 : ∀ b o, hh.get? b = some o → (h1.push (methodObj (.ref f2) (.ref x))).get? b = some o := fun b o e => Heap.get?_push_of_some _ (k1 b o e)
  have hw : (h1.push (methodObj (.ref f2) (.ref x))).get? h1.objs.size = some (methodObj (.ref f2) (.ref x)) := Heap.get?_push_at rfl rfl
  have hn2 : (h1.push (methodObj (.ref f2) (.ref x))).Ns L m := by
    obtain ⟨oL, es, ep, hL, r⟩ := hn
    exact ⟨oL, es, ep, k2 _ _ hL, r⟩
  rw [hst]
  refine callWith_of (by rfl) (keeps_M (K := K) (q := h1.objs.size) (f := f2) (self := .ref x) hfn2) (evalArgs_plain (spliced_cons (he _ _ hn2 fun v tk2 rv => ?_)))
  refine spliced_nil ⟨⟨hw, X.keeps k2⟩, ?_⟩
  refine wpAny_call (ks_codeAny_call_bound hw (codeAny_mono (h _ _ v rv k2) fun r s' z => ?_))
  rcases r with x | (v | _ | _ | _) <;> first | exact z | exact z.elim
variable {t dx : Addr} {name : Str} {v : Value} {m0 : Str → Option Value} {nl : List Str}
theorem st_new {Q : Unit → Shared → Prop} (SF : StoreFacts B bmB "object.__setattr__" "object") (X : K.In s.heap) (T : ExC K C bmB newId) (hx : s.heap.get? x = some (exd C t none)) (ha : findIn K (.ref C) name = some none) (hh : hasDictIn K C = true)
    (h : ∀ h' tk' dx, (∀ b o, b ≠ x → s.heap.get? b = some o → h'.get? b = some o) → s.heap.objs.size ≤ dx → h'.get? x = some (exd C t (some dx)) → h'.Ns1 dx (fun y => if y = name then some v else none) → Q () { s with heap := h', toks := tk' }) :
    wpAny (model prog w) A (setAttr (.ref x) name v) Q E s := by
  have ht : takerIn K C name = some none := by unfold takerIn; rw [ha]; rfl
  obtain ⟨cd, hc, hd'⟩ := any_some hh
  have hxl := Heap.lt_size hx
  have hxs : s.heap.objs.size ≠ x := Nat.ne_of_gt hxl
  have hne2 : x ≠ s.heap.objs.size := hxs.symm
  refine set_plain (od := none) X ⟨hx, rfl, rfl, trivial⟩ T.sa (osa_openX (od := none) (s := { s with toks := s.toks + 1 }) SF X ⟨hx, rfl, rfl, trivial⟩ T.ov ht fun b => ?_)
  refine wpAny_bind (wpAny_pure (wpAny_bind (instanceDict_exc (s := { s with toks := s.toks + 1 }) hx (looks_clsIn X hc) hd' ?_)))
  show wpAny _ _ (Builtin.ObjectAttr.storeInDict s.heap.objs.size (.str name s.toks) name v) _ _ _
  refine PySem.HandSPX.store_in_new ?_ ?_
  · exact ⟨dictOf [] 0, #[], 0, (Heap.get?_update_ne _ _ _ _ hxs).trans (Heap.get?_push_at rfl rfl), rfl, fun e he => absurd he (by simp), fun _ => rfl⟩
  · intro h' tk' hn' hs
    have hx₁ : (s.heap.push (dictOf [] 0)).get? x = some (exd C t none) := Heap.get?_push_of_some _ hx
    refine h h' tk' s.heap.objs.size (fun b o hb ho => ?_) (Nat.le_refl _) ?_ hn'
    · exact (hs.2 b (Nat.ne_of_lt (Heap.lt_size ho))).trans ((Heap.get?_update_ne _ _ _ _ hb).trans (Heap.get?_push_of_some _ ho))
    · exact (hs.2 x hxs.symm).trans (Heap.get?_update_self _ hx₁ rfl)
theorem st_old {Q : Unit → Shared → Prop} (SF : StoreFacts B bmB "object.__setattr__" "object") (X : K.In s.heap) (T : ExC K C bmB newId) (hx : s.heap.get? x = some (exd C t (some dx))) (hns : s.heap.Ns1 dx m0) (hw : Within m0 nl) (hz : nl.length ≤ 1000) (ha : findIn K (.ref C) name = some none) (hh : hasDictIn K C = true)
    (h : ∀ h' tk', (∀ b o, b ≠ dx → s.heap.get? b = some o → h'.get? b = some o) → h'.Ns1 dx (fun y => if y = name then some v else m0 y) → Q () { s with heap := h', toks := tk' }) :
    wpAny (model prog w) A (setAttr (.ref x) name v) Q E s := by
  have ht : takerIn K C name = some none := by unfold takerIn; rw [ha]; rfl
  obtain ⟨cd, hc, hd'⟩ := any_some hh
  obtain ⟨oD, esD, epD, hoD, hdD, _⟩ := hns.count hw
  refine set_plain (od := some oD) X ⟨hx, rfl, rfl, hoD⟩ T.sa (osa_openX (od := some oD) (s := { s with toks := s.toks + 1 }) SF X ⟨hx, rfl, rfl, hoD⟩ T.ov ht fun b => ?_)
  refine wpAny_bind (wpAny_pure (wpAny_bind (wpAny_bind (wpAny_loadPart hx (wpAny_bind (Looks.here (s := { s with toks := s.toks + 1 }) (looks_clsIn X hc) ?_))))))
  rw [hd']
  refine wpAny_pure (a := some dx) ?_
  refine PySem.OEX.store_in_old hns hw hz ?_
  intro h' tk' hn' hs
  exact h h' tk' (fun b o hb ho => (hs.2 b hb).trans ho) hn'
end
open L2 (V Vals RelV RelO)
inductive Asgs (env : Env) (slf : Str) : List Stmt → List (Str × Str) → Prop
  | nil : Asgs env slf [] []
  | cons {p6 p7 p8 p9 : Pos} {f p : Str} {r : List Stmt} {l : List (Str × Str)} (hs : swapsWith (.Name p p8) (some (.Attribute (.Name slf p6) f p7)) p9.line env = pure false) (hk : env.kindOf p = some .local) (hd : (p == ("__debug__" : Str)) = false) (t : Asgs env slf r l) :
      Asgs env slf (.Assign [.Attribute (.Name slf p6) f p7] (.Name p p8) p9 :: r) ((f, p) :: l)
section
variable {prog : Program} {w : World} {A : Around} {E : Value → Shared → Prop} {K : Frag} {mg : Str → Option Value} {base : Heap} {L x C D f : Addr} {m : Str → Option Value} {B i newId : String} {bmB : List Value} {slf : Str}
/-- the assignments behind the first -/
theorem asgs_run {env : Env} {Q : Flow → Shared → Prop} {vof : Str → V} (SF : StoreFacts B bmB "object.__setattr__" "object") (KB : K.In base) (T : ExC K C bmB newId) (hh : hasDictIn K C = true) (hk : env.scope.kind = .function) (hL : env.locals = L) (hks : env.kindOf slf = some .local) (hds : (slf == ("__debug__" : Str)) = false)
    (hv : m slf = some (.ref x)) : ∀ {sts : List Stmt} {l : List (Str × Str)} {s : Shared} {t dx : Addr} {fs : List (Str × V)} {m0 : Str → Option Value}, Asgs env slf sts l → (∀ b o, base.get? b = some o → s.heap.get? b = some o ∧ b ≠ dx) → (∀ fp ∈ l, findIn K (.ref C) fp.1 = some none ∧ ∃ u, m fp.2 = some u ∧ RelV (vof fp.2) u) →
      s.heap.Ns L m → L ≠ dx → x ≠ dx → s.heap.get? x = some (exd C t (some dx)) → s.heap.Ns1 dx m0 → (∀ g, RelO (fs.lookup g) (m0 g)) → fs.length + l.length ≤ 900 →
      (∀ h' tk m', (∀ b o, b ≠ dx → s.heap.get? b = some o → h'.get? b = some o) → h'.get? x = some (exd C t (some dx)) → h'.Ns1 dx m' → (∀ g, RelO ((l.foldl (fun fs fp => (fp.1, vof fp.2) :: fs) fs).lookup g) (m' g)) → Q .next { s with heap := h', toks := tk }) →
      wpAny (model prog w) A (execs sts env) Q E s
  | _, _, s, t, dx, fs, m0, .nil, bk, _, hn, _, _, hx, hns, rel, _, h => by
    refine wpAny_execs_nil ?_
    exact h s.heap s.toks m0 (fun _ _ _ e => e) hx hns rel
  | _, _, s, t, dx, fs, m0, .cons (f := g) (p := p) (l := l) hs hkp hd tl, bk, hl, hn, hLd, hxd, hx, hns, rel, hlen, h => by
    obtain ⟨hf, u, hu, ru⟩ := hl (g, p) (List.mem_cons_self ..)
    refine wpAny_execs_cons (plainObj_wpAny_Assign_Attribute (wpAny_Name (wpAny_loadName_local hk hkp (by rw [hL]; exact hn) hu ?_) hd) hs)
    refine wpAny_Name (wpAny_loadName_local hk hks (by rw [hL]; exact hn) hv ?_) hds
    have X : K.In s.heap := KB.keeps fun b o e => (bk b o e).1
    have hw := L2.within_of rel
    refine st_old SF X T hx hns hw (by rw [List.length_map]; omega) hf hh fun h' tk' k hn' => ?_
    have rel' : ∀ y, RelO (((g, vof p) :: fs).lookup y) (if y = g then some u else m0 y) := L2.relO_put ru rel
    refine asgs_run SF KB T hh hk hL hks hds hv tl (fun b o e => ⟨k b o (bk b o e).2 (bk b o e).1, (bk b o e).2⟩) (fun fp hm => hl fp (List.mem_cons_of_mem _ hm)) ?_ hLd hxd (k x _ hxd hx) hn' rel' (by simp only [List.length_cons] at hlen ⊢; omega) (fun h2 tk2 m2 k2 e1 e2 e3 => h h2 tk2 m2 (fun b o hb e => k2 b o hb (k b o hb e)) e1 e2 e3)
    obtain ⟨oL, es, ep, hoL, r⟩ := hn
    exact ⟨oL, es, ep, k _ _ hLd hoL, r⟩
end
section
variable {prog : Program} {w : World} {K : Frag} {mg : Str → Option Value} {base : Heap} {C D f : Addr} {B i newId : String} {bmB : List Value} {slf g qual : Str} {params : Arguments} {scope : Scope} {e0 e1 : Expr} {p0 p1 p2 p4 p5 p6 p7 p9 : Pos} {ps : List Str} {sts : List Stmt} {l : List (Str × Str)}
/-- the parameters, bound -/
structure ParOk (params : Arguments) (scope : Scope) (slf : Str) (ps : List Str) : Prop where
  head : (params.posonlyargs ++ params.args).head?.map (·.arg) = some slf
  loc : ∀ y ∈ slf :: ps, scope.names.lookup y = some .local
  only : ∀ y ∈ scope.names, y.2 = .local → y.1 ∈ slf :: ps
  nd : (slf :: ps).Nodup
  bind : ∀ (fd : FuncData) (us : List Value), fd.params = params → fd.defaults = .none → us.length = (slf :: ps).length → bindArgs fd ⟨us, []⟩ = pure ((slf :: ps).zip us)
theorem zip_lookup : ∀ {ps : List Str} {us : List Value} {vs : List V} {p : Str}, ps.Nodup → Vals vs us → us.length = ps.length → p ∈ ps → ∃ u v, (ps.zip us).lookup p = some u ∧ (ps.zip vs).lookup p = some v ∧ RelV v u := by
  intro ps
  induction ps with
  | nil => intro us vs p _ _ _ h; cases h
  | cons n ps ih =>
    intro us vs p nd r hl hm
    cases r with
    | nil => cases hl
    | @cons v u vs us rv r =>
      by_cases e : p = n
      · subst e
        exact ⟨u, v, by simp [List.lookup], by simp [List.lookup], rv⟩
      · have e' : (p == n) = false := by simpa using e
        obtain ⟨u', v', h1, h2, h3⟩ := ih (List.nodup_cons.mp nd).2 r (Nat.succ.inj hl) ((List.mem_cons.mp hm).resolve_left e)
        exact ⟨u', v', by simpa [List.lookup, e'] using h1, by simpa [List.lookup, e'] using h2, h3⟩
theorem lookup_rev : ∀ {ps : List Str} {us : List Value}, ps.Nodup → ∀ p, ((ps.zip us).reverse).lookup p = (ps.zip us).lookup p := by
  intro ps
  induction ps with
  | nil => intro us _ p; simp
  | cons n ps ih =>
    intro us nd p
    cases us with
    | nil => simp
    | cons u us =>
      have nd' := List.nodup_cons.mp nd
      rw [List.zip_cons_cons, List.reverse_cons, List.lookup_append, ih nd'.2]
      by_cases e : p = n
      · subst e
        have : (ps.zip us).lookup p = none := by
          cases q : (ps.zip us).lookup p with
          | none => rfl
          | some v => exact absurd (List.of_mem_zip (PySem.mem_of_lookup q)).1 nd'.1
        rw [this]
        simp [List.lookup]
      · have e' : (p == n) = false := by simpa using e
        cases q : (ps.zip us).lookup p <;> simp [List.lookup, e', q]
/-- the slots of the def, by value -/
def vofP (ps : List Str) (vs : List V) (p : Str) : V := ((ps.zip vs).lookup p).getD .non
/-- the text of super().__init__(e) is read as such -/
structure SupT (env : Env) (e : Expr) (p0 p1 p2 p4 p5 : Pos) : Prop where
  hs : swapsWith (.Call (.Attribute (.Call (.Name "super" p0) [] [] p1) "__init__" p2) [e] [] p4) none p5.line env = pure false
  hst : starEach [e] env = [(false, eval e env)]
  hev : ∃ pl : Sem Bool, eval (.Call (.Attribute (.Call (.Name "super" p0) [] [] p1) "__init__" p2) [e] [] p4) env = (do
      let ov ← attributeBase (.Call (.Name "super" p0) [] [] p1) "__init__" env (eval (.Call (.Name "super" p0) [] [] p1) env)
      standAt p2.atName
      let (g, first) ← holding [ov] (getMethod ov "__init__" pl)
      callWith p4 g first (backTo p4 (starEach [e] env)) [])
theorem zip_look {ps : List Str} {us : List Value} {vs : List V} (nd : ps.Nodup) (r : Vals vs us) (hl : us.length = ps.length) {p : Str} (hm : p ∈ ps) : ∃ u, ((ps.zip us).reverse).lookup p = some u ∧ RelV (vofP ps vs p) u := by
  obtain ⟨u, v, h1, h2, h3⟩ := zip_lookup nd r hl hm
  exact ⟨u, by rw [lookup_rev nd]; exact h1, by unfold vofP; rw [h2]; exact h3⟩
/-- __init__ over a built-in class: super().__init__(e0); self.g = e1 -/
theorem initBase (KF : KxsFacts B i) (FB : ExcBaseFacts B newId i bmB) (SF : StoreFacts B bmB "object.__setattr__" "object") (M : SupM prog K mg base)
    (FN : SupFn prog K f D qual params [.Expr (.Call (.Attribute (.Call (.Name "super" p0) [] [] p1) "__init__" p2) [e0] [] p4) p5, .Assign [.Attribute (.Name slf p6) g p7] e1 p9] scope)
    (S : SupS scope slf) (T : ExC K C bmB newId) (hh : hasDictIn K C = true) (P : ParOk params scope slf ps) (hsub : mroIn K C (.ref D) = some true) (hm : ks_superIn K C D "__init__" = some (some (.builtin i))) (hB : subIn K (.ref C) (.type B) = some true) (hg : findIn K (.ref C) g = some none)
    (hds : (slf == ("__debug__" : Str)) = false) (hT : ∀ env : Env, SupT env e0 p0 p1 p2 p4 p5) (hs : ∀ env : Env, swapsWith e1 (some (.Attribute (.Name slf p6) g p7)) p9.line env = pure false)
    {r0 r1 : (Str → V) → V} (h0 : ∀ (env : Env) (vof : Str → V), env.scope = scope → Rd1 env vof e0 (r0 vof)) (h1 : ∀ (env : Env) (vof : Str → V), env.scope = scope → Rd1 env vof e1 (r1 vof)) (hr1 : ∀ v1 v2 : Str → V, (∀ p ∈ ps, v1 p = v2 p) → r1 v1 = r1 v2) :
    InitOk prog w base 1 f C (fun vs => if vs.length = ps.length then some [(g, r1 (vofP ps vs))] else none) := by
  intro A s x t us vs fs R hdep bk hxb hx rv hG h
  dsimp only at hG
  split at hG
  · rename_i hl
    cases hG
    have hlu : us.length = ps.length := by rw [← rv.length]; exact hl
    obtain ⟨oc, od, name, kV, doc, pm, an, cda, cc, ct, osl, lk, hcd, ⟨ccl, cdd, ccs, vss, file, tf, lk2, hv2, hfile⟩, ⟨cl, cld, csl, lk3⟩⟩ := FN.ex
    obtain ⟨cdD, hD⟩ := FN.cls
    have X : K.In s.heap := M.mod.kin.keeps bk
    have lim : s.heap.NoLimit := M.mod.nolimit.keeps bk
    obtain ⟨ar, har, hars⟩ := Option.map_eq_some_iff.mp P.head
    refine ks_codeAny_call_defAt (binds := (slf :: ps).zip (.ref x :: us)) (by omega) (X _ _ lk) rfl lim (codeRec_of X hcd) rfl (BindsTo.of_eq (P.bind _ _ rfl rfl (by simp [hlu]))) S.cell (fun y hy => P.loc y.1 (List.of_mem_zip hy).1) (fun h₀ hns kp => ?_) S.co S.gen S.kind
    have hxs : x ≠ s.heap.objs.size := Nat.ne_of_lt (Heap.lt_size hx)
    have hz : ∀ {p : Str}, p ∈ slf :: ps → ∃ u, (((slf :: ps).zip (.ref x :: us)).reverse).lookup p = some u ∧ RelV (vofP (slf :: ps) (.ref x :: vs) p) u := fun {p} hp => zip_look P.nd (.cons (show RelV (.ref x) (.ref x) from rfl) rv) (by simp [hlu]) hp
    have hself : (((slf :: ps).zip (Value.ref x :: us)).reverse).lookup slf = some (.ref x) := by rw [lookup_rev P.nd]; simp [List.lookup]
    have hvof : ∀ p ∈ ps, vofP (slf :: ps) (.ref x :: vs) p = vofP ps vs p := fun p hp => by
      have : (p == slf) = false := by
        have := (List.nodup_cons.mp P.nd).1
        simp only [beq_eq_false_iff_ne, ne_eq]
        intro e; exact this (e ▸ hp)
      unfold vofP
      simp [List.lookup, this]
    have hx0 := kp _ _ hx
    refine ks_wpAt_execs_cons ?_
    show _root_.PySem.wpAt (model prog w) _ (.func _ (ksEnv qual scope s.heap.objs.size f (.ref cda) cc)) (exec _ (ksEnv qual scope s.heap.objs.size f (.ref cda) cc)) _ _ _
    obtain ⟨pl, hev⟩ := (hT (ksEnv qual scope s.heap.objs.size f (.ref cda) cc)).hev
    have hmL : ∀ p, (ksEnv qual scope s.heap.objs.size f (.ref cda) cc).kindOf p = some .local → ∃ u, (((slf :: ps).zip (Value.ref x :: us)).reverse).lookup p = some u ∧ RelV (vofP (slf :: ps) (.ref x :: vs) p) u := fun p hp => hz (P.only (p, .local) (PySem.mem_of_lookup hp) rfl)
    refine sup_bi (fd := ksFn name qual params _ scope .none kV doc pm an (.ref cda) ct cc) (ar := ar) (t := t) KF FB M (by rw [hars]; exact S) T (fun b o e => kp b o (bk b o e)) hns lk har (by rw [hars]; exact hself) hx0 lk2 hv2 hfile lk3 hD hsub hm hB (Rv := fun v => RelV (r0 (vofP (slf :: ps) (.ref x :: vs))) v)
      (fun s1 Q1 hn1 hq => (h0 (ksEnv qual scope s.heap.objs.size f (.ref cda) cc) _ rfl).run S.kind rfl hmL hn1 hq) (fun h' t' tk k hx' => ?_) (hT _).hs hev (hT _).hst
    have kL : s.heap.objs.size ≠ x := hxs.symm
    have hns' : h'.Ns s.heap.objs.size (fun y => ((slf :: ps).zip (Value.ref x :: us)).reverse.lookup y) := by
      obtain ⟨oL, es, ep, hL, r⟩ := hns
      exact ⟨oL, es, ep, k _ _ kL hL, r⟩
    refine ks_wpAt_execs_cons (wpAt_of_wpAny (plainObj_wpAny_Assign_Attribute ((h1 (ksEnv qual scope s.heap.objs.size f (.ref cda) cc) _ rfl).run S.kind rfl hmL hns' fun v tk2 rv1 => ?_) (hs _)))
    refine wpAny_Name (wpAny_loadName_local S.kind (P.loc slf (List.mem_cons_self ..)) hns' hself ?_) hds
    have bk' : ∀ b o, base.get? b = some o → h'.get? b = some o := fun b o e => k b o (fun z => by
      rw [z, hxb] at e
      cases e) (kp b o (bk b o e))
    refine st_new SF (M.mod.kin.keeps bk') T hx' hg hh fun h2 tk3 dx k2 hdx hx2 hn2 => ?_
    refine wpAt_of_wpAny (wpAny_execs_nil ?_)
    refine h h2 tk3 t' dx _ (fun b o hb e => k2 b o hb (k b o hb (kp b o e))) ?_ hx2 hn2 ?_
    · obtain ⟨oL, es, ep, hL, r⟩ := hns'
      exact Nat.le_trans (Nat.le_of_lt (Heap.lt_size hL)) hdx
    · have e1 : r1 (vofP (slf :: ps) (.ref x :: vs)) = r1 (vofP ps vs) := hr1 _ _ hvof
      rw [e1] at rv1
      exact L2.relO_put (fs := []) rv1 fun g => True.intro
  · cases hG
/-- __init__ over an own class: super().__init__(e0); self.f = p, .. -/
theorem initOwn {f2 : Addr} {G2 : List V → Option (List (Str × V))} {k : Nat} (F2 : InitOk prog w base k f2 C G2) (SF : StoreFacts B bmB "object.__setattr__" "object") (M : SupM prog K mg base)
    (FN : SupFn prog K f D qual params (.Expr (.Call (.Attribute (.Call (.Name "super" p0) [] [] p1) "__init__" p2) [e0] [] p4) p5 :: sts) scope)
    (S : SupS scope slf) (T : ExC K C bmB newId) (hh : hasDictIn K C = true) (P : ParOk params scope slf ps) (hsub : mroIn K C (.ref D) = some true) (hm : ks_superIn K C D "__init__" = some (some (.ref f2))) (hf2 : (K.lookup f2).map (·.cls) = some (.type "function")) (hfn2 : fnIn K f2 = true)
    (hds : (slf == ("__debug__" : Str)) = false) (hT : ∀ env : Env, SupT env e0 p0 p1 p2 p4 p5)
    {r0 : (Str → V) → V} (h0 : ∀ (env : Env) (vof : Str → V), env.scope = scope → Rd1 env vof e0 (r0 vof)) (hr0 : ∀ v1 v2 : Str → V, (∀ p ∈ ps, v1 p = v2 p) → r0 v1 = r0 v2)
    (ha : ∀ env : Env, env.scope = scope → Asgs env slf sts l) (hl : ∀ fp ∈ l, findIn K (.ref C) fp.1 = some none ∧ fp.2 ∈ ps) (hlen : l.length ≤ 100) (hG2 : ∀ vs fs, G2 vs = some fs → fs.length ≤ 800) :
    InitOk prog w base (k + 1) f C (fun vs => if vs.length = ps.length then (G2 [r0 (vofP ps vs)]).map (fun fs => l.foldl (fun fs fp => (fp.1, vofP ps vs fp.2) :: fs) fs) else none) := by
  intro A s x t us vs fs R hdep bk hxb hx rv hG h
  dsimp only at hG
  split at hG
  · rename_i hln
    obtain ⟨fs2, hfs2, hfs⟩ := Option.map_eq_some_iff.mp hG
    have hlu : us.length = ps.length := by rw [← rv.length]; exact hln
    obtain ⟨oc, od, name, kV, doc, pm, an, cda, cc, ct, osl, lk, hcd, ⟨ccl, cdd, ccs, vss, file, tf, lk2, hv2, hfile⟩, ⟨cl, cld, csl, lk3⟩⟩ := FN.ex
    obtain ⟨cdD, hD⟩ := FN.cls
    have X : K.In s.heap := M.mod.kin.keeps bk
    have lim : s.heap.NoLimit := M.mod.nolimit.keeps bk
    obtain ⟨ar, har, hars⟩ := Option.map_eq_some_iff.mp P.head
    refine ks_codeAny_call_defAt (binds := (slf :: ps).zip (.ref x :: us)) (by omega) (X _ _ lk) rfl lim (codeRec_of X hcd) rfl (BindsTo.of_eq (P.bind _ _ rfl rfl (by simp [hlu]))) S.cell (fun y hy => P.loc y.1 (List.of_mem_zip hy).1) (fun h₀ hns kp => ?_) S.co S.gen S.kind
    have hxs : x ≠ s.heap.objs.size := Nat.ne_of_lt (Heap.lt_size hx)
    have hz : ∀ {p : Str}, p ∈ slf :: ps → ∃ u, (((slf :: ps).zip (.ref x :: us)).reverse).lookup p = some u ∧ RelV (vofP (slf :: ps) (.ref x :: vs) p) u := fun {p} hp => zip_look P.nd (.cons (show RelV (.ref x) (.ref x) from rfl) rv) (by simp [hlu]) hp
    have hself : (((slf :: ps).zip (Value.ref x :: us)).reverse).lookup slf = some (.ref x) := by rw [lookup_rev P.nd]; simp [List.lookup]
    have hvof : ∀ p ∈ ps, vofP (slf :: ps) (.ref x :: vs) p = vofP ps vs p := fun p hp => by
      have : (p == slf) = false := by
        have := (List.nodup_cons.mp P.nd).1
        simp only [beq_eq_false_iff_ne, ne_eq]
        intro e; exact this (e ▸ hp)
      unfold vofP
      simp [List.lookup, this]
    have hx0 := kp _ _ hx
    refine ks_wpAt_execs_cons ?_
    show _root_.PySem.wpAt (model prog w) _ (.func _ (ksEnv qual scope s.heap.objs.size f (.ref cda) cc)) (exec _ (ksEnv qual scope s.heap.objs.size f (.ref cda) cc)) _ _ _
    obtain ⟨pl, hev⟩ := (hT (ksEnv qual scope s.heap.objs.size f (.ref cda) cc)).hev
    have hmL : ∀ p, (ksEnv qual scope s.heap.objs.size f (.ref cda) cc).kindOf p = some .local → ∃ u, (((slf :: ps).zip (Value.ref x :: us)).reverse).lookup p = some u ∧ RelV (vofP (slf :: ps) (.ref x :: vs) p) u := fun p hp => hz (P.only (p, .local) (PySem.mem_of_lookup hp) rfl)
    refine sup_own (fd := ksFn name qual params _ scope .none kV doc pm an (.ref cda) ct cc) (ar := ar) (t := t) M (by rw [hars]; exact S) T (fun b o e => kp b o (bk b o e)) hns lk har (by rw [hars]; exact hself) hx0 hf2 hfn2 lk2 hv2 hfile lk3 hD hsub hm (Rv := fun v => RelV (r0 (vofP (slf :: ps) (.ref x :: vs))) v)
      (fun s1 Q1 hn1 hq => (h0 (ksEnv qual scope s.heap.objs.size f (.ref cda) cc) _ rfl).run S.kind rfl hmL hn1 hq) (fun h' tk v rv0 kq => ?_) (hT _).hs hev (hT _).hst
    have e0' : r0 (vofP (slf :: ps) (.ref x :: vs)) = r0 (vofP ps vs) := hr0 _ _ hvof
    rw [e0'] at rv0
    have dd : (A.deeper (ksEnv qual scope s.heap.objs.size f (.ref cda) cc)).depth + k < recursionLimit := by
      show A.depth + 1 + k < _
      omega
    refine F2 _ _ x t [v] [r0 (vofP ps vs)] fs2 _ dd (fun b o e => kq b o (kp b o (bk b o e))) hxb (kq _ _ hx0) (.cons rv0 .nil) hfs2 fun h2 tk2 t' dx m k2 hdx hx2 hn2 rel => ?_
    have sz : s.heap.objs.size < h'.objs.size := by
      obtain ⟨oL, es, ep, hL, r⟩ := hns
      exact Heap.lt_size (kq _ _ hL)
    have hdx' : s.heap.objs.size < dx := Nat.lt_of_lt_of_le sz hdx
    have kL : s.heap.objs.size ≠ x := hxs.symm
    have hns' : h2.Ns s.heap.objs.size (fun y => ((slf :: ps).zip (Value.ref x :: us)).reverse.lookup y) := by
      obtain ⟨oL, es, ep, hL, r⟩ := hns
      exact ⟨oL, es, ep, k2 _ _ kL (kq _ _ hL), r⟩
    have nbx : ∀ {b : Addr} {o : Obj}, base.get? b = some o → b ≠ x := fun {b o} e z => by
      rw [z, hxb] at e
      cases e
    have hxd : x ≠ dx := Nat.ne_of_lt (Nat.lt_trans (Heap.lt_size hx) hdx')
    refine wpAt_of_wpAny (asgs_run (env := ksEnv qual scope s.heap.objs.size f (.ref cda) cc) (vof := vofP (slf :: ps) (.ref x :: vs)) (s := { s with heap := h2, toks := tk2 }) SF M.mod.kin T hh S.kind rfl (P.loc slf (List.mem_cons_self ..)) hds hself (ha _ rfl) (fun b o e => ⟨k2 b o (nbx e) (kq b o (kp b o (bk b o e))), Nat.ne_of_lt (Nat.lt_trans (Heap.lt_size (bk b o e)) hdx')⟩)
      (fun fp hm => ⟨(hl fp hm).1, hz (List.mem_cons_of_mem _ (hl fp hm).2)⟩) hns' (Nat.ne_of_lt hdx') hxd hx2 hn2 rel (by have := hG2 _ _ hfs2; omega) fun h3 tk3 m3 k3 hx3 hn3 rel3 => ?_)
    have hfold : ∀ (l' : List (Str × Str)) (fs : List (Str × V)), (∀ fp ∈ l', fp.2 ∈ ps) → l'.foldl (fun fs fp => (fp.1, vofP (slf :: ps) (.ref x :: vs) fp.2) :: fs) fs = l'.foldl (fun fs fp => (fp.1, vofP ps vs fp.2) :: fs) fs := by
      intro l'
      induction l' with
      | nil => intro fs _; rfl
      | cons fp l' ih =>
        intro fs hm
        rw [List.foldl_cons, List.foldl_cons, hvof _ (hm fp (List.mem_cons_self ..))]
        exact ih _ fun q hq => hm q (List.mem_cons_of_mem _ hq)
    rw [hfold l fs2 (fun fp hm => (hl fp hm).2), hfs] at rel3
    exact h h3 tk3 t' dx m3 (fun b o hb e => k3 b o (Nat.ne_of_lt (Nat.lt_trans (Heap.lt_size e) hdx')) (k2 b o hb (kq b o (kp b o e)))) (Nat.le_of_lt hdx') hx3 hn3 rel3
  · cases hG
end
end ZX
namespace Z
open PySem PySem.Spec L2
/-- the exceptions of a class: its fields by the call's values -/
def excFs (tag : Str) (flds : List Str) (vs : List V) : List (Str × V) := (flds.zip vs).reverse ++ [(("tag" : Str), V.str tag)]
structure XMk (P : Program) (w : World) (K : PySem.W.Frag) (mg : Str → Option Value) (base : Heap) (c : Str) (C : Addr) (k : Nat) (tag : Str) (flds : List Str) : Prop where
  hm : mg c = some (.ref C)
  keep : PySem.W.keepIn K (.ref C) = true
  ex : L2.Mod K mg base → ∃ (B newId initId : String) (bmB : List Value) (fI : Addr), PySem.ExcBaseFacts B newId initId bmB ∧ PySem.W.excInitIn K C bmB newId = true ∧ PySem.W.findIn K (.ref C) "__init__" = some (some (.ref fI)) ∧ PySem.W.typeIn K (.ref fI) = some (.type "function") ∧
    ZX.InitOk P w base k fI C (fun vs => if vs.length = flds.length then some (excFs tag flds vs) else none)
  exC : PySem.W.subIn K (.ref C) (.type "BaseException") = some true
  tyC : PySem.W.typeIn K (.ref C) = some (.type "type")
theorem repL_rev {K : PySem.W.Frag} {mg : Str → Option Value} {ρ : List Addr} {H : Hp} : ∀ {ds : List D} {vs : List V}, RepL K mg ρ H ds vs → RepL K mg ρ H ds.reverse vs.reverse
  | [], _, h => by rw [RepL] at h; subst h; exact RepL.nil
  | d :: ds, _, h => by
    rw [RepL] at h
    obtain ⟨v, r, e, h1, h2⟩ := h
    subst e
    rw [List.reverse_cons, List.reverse_cons]
    exact (repL_rev h2).append (RepL.cons h1 RepL.nil)
theorem zipx_fst : ∀ {a : List Str} {b : List V}, b.length = a.length → (a.zip b).map (·.1) = a
  | [], [], _ => rfl
  | x :: a, y :: b, h => by simp [zipx_fst (a := a) (b := b) (by simpa using h)]
theorem zipx_snd : ∀ {a : List Str} {b : List V}, b.length = a.length → (a.zip b).map (·.2) = b
  | [], [], _ => rfl
  | x :: a, y :: b, h => by simp [zipx_snd (a := a) (b := b) (by simpa using h)]
theorem excFs_rep {K : PySem.W.Frag} {mg : Str → Option Value} {ρ : List Addr} {H : Hp} {tag : Str} {flds : List Str} {ds : List D} {vs : List V} (r : RepL K mg ρ H ds vs) (hl : ds.length = flds.length) : vs.length = flds.length ∧ (excFs tag flds vs).map (·.1) = flds.reverse ++ [("tag" : Str)] ∧ RepL K mg ρ H (ds.reverse ++ [D.str tag]) ((excFs tag flds vs).map (·.2)) := by
  have hv : vs.length = flds.length := by rw [← r.len]; exact hl
  refine ⟨hv, ?_, ?_⟩
  · unfold excFs
    rw [List.map_append, List.map_reverse, zipx_fst hv]; rfl
  · unfold excFs
    rw [List.map_append, List.map_reverse, zipx_snd hv]
    exact (repL_rev r).append (RepL.cons (by rw [Rep]) RepL.nil)
section
variable {X : Cx} {pins : List (Addr × Obj)} {σ : L2.St} {H : Hp} {s : Shared}
/-- C(..) of an exception class, over the heap -/
theorem exc_core {c : Str} {C : Addr} {k : Nat} {tag : Str} {flds : List Str} {us : List Value} {vs : List V} {Q : Value → Shared → Prop} (M : XMk X.prog X.w X.K X.mg X.base c C k tag flds) (hr : Room (k + 1) X.A) (I : Inv X pins σ H s) (r : Vals vs us) (hl : vs.length = flds.length) (hz : flds.length ≤ 100)
    (h : ∀ a d h' tk' t' m, (∀ b o, s.heap.get? b = some o → h'.get? b = some o) → s.heap.objs.size ≤ a → s.heap.objs.size ≤ d → a ≠ d → h'.get? a = some (ZX.exd C t' (some d)) → h'.Ns1 d m → (∀ g, RelO ((excFs tag flds vs).lookup g) (m g)) → Q (.ref a) { s with heap := h', toks := tk' }) :
    wpAny (model X.prog X.w) X.A (call (.ref C) us) Q X.xe s := by
  obtain ⟨B, newId, initId, bmB, fI, FB, q, iC, tI, F⟩ := M.ex I.ok.mod
  obtain ⟨nm, N', qn, bs, bm, hdct, sn, sub, ab, col, dd, k0, k1, k2, k3, k5, hC, hT⟩ := PySem.W.excInit_of I.kIn q
  obtain ⟨hp, g, dr, tk, os⟩ := s
  have hus : us.length = flds.length := by rw [← r.length]; exact hl
  have kk : ∀ b o, hp.get? b = some o → ((hp.push (PySem.W.kdv_tup us)).push (PySem.HandSPX.excO C hp.objs.size)).get? b = some o := fun b o e => Heap.get?_push_of_some _ (Heap.get?_push_of_some _ e)
  have hget : ((hp.push (PySem.W.kdv_tup us)).push (PySem.HandSPX.excO C hp.objs.size)).get? (hp.objs.size + 1) = some (PySem.HandSPX.excO C hp.objs.size) := by heap_get
  have hsz : hp.objs.size + 1 + 1 = ((hp.push (PySem.W.kdv_tup us)).push (PySem.HandSPX.excO C hp.objs.size)).objs.size := by rw [Heap.size_push, Heap.size_push]
  have hbx : X.base.get? (hp.objs.size + 1) = none := by
    cases e : X.base.get? (hp.objs.size + 1) with
    | none => rfl
    | some o => exact absurd (Heap.lt_size (I.bk _ _ e)) (Nat.not_lt.mpr (Nat.le_succ _))
  have dep := (hr.make C us []).dp
  refine wpAny_call (PySem.HandSPX.call_own FB hT hC (PySem.W.looks_findIn I.kIn iC) (fun self => PySem.W.bind_fn I.kIn self tI) (by rw [hus, sizeLine_eq]; omega) ?_)
  refine F _ _ (hp.objs.size + 1) hp.objs.size us vs _ _ (by omega) (fun b o e => kk b o (I.bk b o e)) hbx hget r (if_pos hl) fun h' tk' t' dx m kq hdx hx hn rel => ?_
  refine ⟨rfl, ?_⟩
  have kold : ∀ b o, hp.get? b = some o → h'.get? b = some o := fun b o e => kq b o (Nat.ne_of_lt (Nat.lt_trans (Heap.lt_size e) (Nat.lt_succ_self _))) (kk b o e)
  have hdx' : hp.objs.size + 1 + 1 ≤ dx := by rw [hsz]; exact hdx
  exact h _ dx h' tk' t' m kold (Nat.le_succ _) (Nat.le_of_lt (Nat.lt_of_lt_of_le (Nat.lt_succ_of_lt (Nat.lt_succ_self _)) hdx')) (Nat.ne_of_lt hdx') hx hn rel
/-- .. raised: the object isn't tracked -/
theorem run_excM {c : Str} {C : Addr} {k : Nat} {tag : Str} {flds : List Str} {us : List Value} {vs : List V} {Q : XK} (M : XMk X.prog X.w X.K X.mg X.base c C k tag flds) (hr : Room (k + 1) X.A) (I : Inv X pins σ H s) (r : Vals vs us) (hl : vs.length = flds.length) (hz : flds.length ≤ 100)
    (h : ∀ d, H d = none → Q (.ref C) (some d) (upd H d (.xd (excFs tag flds vs)))) :
    wpAny (model X.prog X.w) X.A (call (.ref C) us) (L2N.MkP X pins σ Q) X.xe s := by
  refine exc_core M hr I r hl hz fun a d h' tk' t' m kold ha hd ne hx hn rel => ?_
  have hna : H a = none := I.hok.fresh ha
  have hnd : H d = none := I.hok.fresh hd
  obtain ⟨G, g1, g2⟩ := restrict h' fun b => decide (b ≠ a)
  have gk : ∀ b, b ≠ a → G.get? b = h'.get? b := fun b hb => g1 b (decide_eq_true hb)
  have ge : G.get? a = none := g2 a (by simp)
  have kG : ∀ b o, s.heap.get? b = some o → G.get? b = some o := fun b o e => by rw [gk b (Nat.ne_of_lt (Nat.lt_of_lt_of_le (Heap.lt_size e) ha))]; exact kold b o e
  have hG : ∀ b o, G.get? b = some o → h'.get? b = some o := fun b o e => by
    by_cases hb : b = a
    · rw [hb, ge] at e; cases e
    · rw [← gk b hb]; exact e
  have J : Inv X pins σ (upd H d (.xd (excFs tag flds vs))) { s with heap := G, toks := tk' } := I.laid (t' := tk') kG hd ⟨m, hn.at fun o y => (gk d (Ne.symm ne)).trans y, rel⟩
  exact ⟨a, _, _, { s with heap := G, toks := tk' }, _, .ref C, some d, rfl, J, hG, ge, hx, ⟨rfl, rfl, fun vs e => by cases e; rfl⟩, rfl, rfl, by rw [upd_ne ne]; exact hna, rfl, J.bare, raises_own M.exC M.tyC, h d hnd⟩
end
section
variable {X : Cx} {W : WX} {k : Nat} {C : Addr} {x tag : Str} {flds : List Str} {p pos : Pos} {e : Expr} {es : List Expr} {fa : AX}
theorem ex_exc {K : PySem.W.Frag} {mg : Str → Option Value} {ρ : List Addr} {H : Hp} {S : Store} {sl : Sl} {σ : L2.St} {ds : List D} {vs : List V} {Dd : Ends} {d : Addr} (hm : mg x = some (.ref C)) (w : WOk K mg ρ H S) (rs : RSt K mg ρ H σ sl) (r : RepL K mg ρ H ds vs) (hl : ds.length = flds.length) (hd : H d = none)
    (p : PostS K mg W ρ H Dd (.ex (.ins x (flds.reverse ++ [("tag" : Str)]) (ds.reverse ++ [D.str tag])) sl S)) : W (.ref C) (some d) σ (upd H d (.xd (excFs tag flds vs))) := by
  have x1 : Ext ρ H ρ (upd H d (.xd (excFs tag flds vs))) := Ext.new' hd
  obtain ⟨_, e1, e2⟩ := excFs_rep (tag := tag) r hl
  exact p _ _ σ ρ _ x1 (w.new' hd) (rs.ext x1) ⟨x, _, _, C, d, _, rfl, hm, rfl, rfl, w.nin hd, upd_same, e1, e2.ext x1⟩
theorem s_raiseZ (tk : Takes X W) (hc : X.calm = true) (M : XMk X.prog X.w X.K X.mg X.base x C k tag flds) (hr : Room (k + 1) X.A) (hz : flds.length ≤ 100) (ha : EA X W (e :: es) fa) {pr : Pos} (hg : Gl X x := by rfl)
    (hdb : (x == ("__debug__" : Str)) = false := by decide) (he : starEach (e :: es) X.env = (false, eval e X.env) :: starEach es X.env := by rfl) (hpl : (backTo pos (starEach es X.env)).any (·.1) = false := by rfl) :
    ES X W (.Raise (some (.Call (.Name x p) (e :: es) [] pos)) none pr) (sRaise (eArgs (excS x tag flds) fa)) := by
  refine PS.imp (ps_raisek hc tk (t := fun σ H Q => trA X.K X.mg W fa σ H fun vs H1 => vs.length = flds.length ∧ ∀ d, H1 d = none → Q (.ref C) (some d) (upd H1 d (.xd (excFs tag flds vs)))) ?_) fun Dd σ H ⟨ρ, S, sl, w, rs, p⟩ => ?_
  · intro pins s σ H Q I h
    refine wpAny_Call_Name_kw (ld_glob I hg M.hm ?_ hdb)
    refine PySem.W.callWith_K (h₀ := X.base) I.ok.mod.kin M.keep (thn (ha.run pos pins s σ H _ I h) fun us s1 ⟨vs, H1, I1, r, hl, q⟩ => ⟨I1.kIn, ?_⟩) he hpl
    exact run_excM M hr I1 r hl hz q
  · refine ⟨ρ, S, sl, w, rs, ?_⟩
    unfold sRaise eArgs at p
    cases o : fa sl S with
    | ok ds S1 =>
      intro vs ρ1 H1 x1 w1 r1
      have p : PostS X.K X.mg W ρ H Dd (match excS x tag flds ds S1 with | .ok (.exc c ns ds) S' => .ex (.ins c ns ds) sl S' | .ok _ _ => .bad | .ex e S' => .ex e sl S' | .bad => .bad) := by
        rw [o] at p; exact p
      unfold excS at p
      by_cases hl : ds.length = flds.length
      · rw [if_pos hl] at p
        exact ⟨by rw [← r1.len]; exact hl, fun d hd => ex_exc M.hm w1 (rs.ext x1) r1 hl hd (PostS.from x1 p)⟩
      · rw [if_neg hl] at p
        exact p.elim
    | ex e S1 =>
      have p : PostS X.K X.mg W ρ H Dd (.ex e sl S1) := by rw [o] at p; exact p
      exact fun C dd ρ1 H1 x1 w1 r1 => p C dd σ ρ1 H1 x1 w1 (rs.ext x1) r1
    | bad => rw [o] at p; exact p.elim
end
end Z
namespace L2
open PySem PySem.Spec PyProof.Rows
section
variable {X : Cx} {pins : List (Addr × Obj)} {σ : St} {H : Hp} {sI s s' : Shared} {B : Heap}
/-- landed, and the exception's object is tracked -/
theorem Inv.landedT {a C d : Addr} {oe : Obj} {vs : Array Value} (I : Inv X pins σ H sI) (nb : ∀ b o, sI.heap.get? b = some o → b ∉ frs X.stack → B.get? b = some o) (st : B.StaysIn s'.heap) (up : sI.heap.UpToSlots s'.heap) (os : s'.os = sI.os) (ag : AllBare s'.gens)
    (ha : s'.heap.get? a = some oe) (hz : Zc (.ref C) (some d) oe) (hd : oe.data = .fields vs) (na : H a = none) (nB : B.get? a = none) (nf : a ∉ frs X.stack) : Inv X pins σ (upd H a (Z.ExD a C d)) s' := by
  have nI : sI.heap.get? a = none := by
    cases e : sI.heap.get? a with
    | none => rfl
    | some o => have := nb a o e nf; rw [nB] at this; cases this
  have ne : ∀ {b : Addr} {o : Obj}, sI.heap.get? b = some o → b ≠ a := fun {b o} e z => by rw [z, nI] at e; cases e
  have nH : ∀ {b : Addr} {u : HO}, H b = some u → b ≠ a := fun {b u} e z => by rw [z, na] at e; cases e
  have nff : ∀ b ∈ frs X.stack, ∀ o, sI.heap.get? b = some o → ∃ sl, s'.heap.get? b = some { o with slots := sl } := fun b hb o e => by
    obtain ⟨_, o', e', hd⟩ := I.stack.mem hb
    rw [e] at e'; cases e'
    exact up b o e hd
  have hok : HOk X.prog X.w (upd H a (Z.ExD a C d)) s'.heap := fun b o e => by
    by_cases hb : b = a
    · subst hb
      rw [upd_same] at e; cases e
      exact ⟨⟨oe, vs, ha, hz, hd⟩, ⟨oe, ha⟩, fun h1 h2 ⟨oe, ws, e, z⟩ st => ⟨oe, ws, st _ e, z⟩⟩
    · rw [upd_ne hb] at e
      exact (((I.inGround nb).kept st) b o e).stay (fun c v _ q => q) (fun c q => by rw [upd_ne (nH q)]; exact q) fun c xs q => by rw [upd_ne (nH q)]; exact q
  have J := I.call (ch := []) (h' := s'.heap) (g' := s'.gens) (t' := s'.toks) (d' := s'.drawn) (H' := upd H a (Z.ExD a C d))
    ⟨fun b o e _ hb _ => st b o (nb b o e hb), fun b o e _ hb _ => nff b hb o e, fun b o e n _ => by rw [upd_ne (ne e)]; exact n, fun b o e _ => by
      by_cases hb : b ∈ frs X.stack
      · obtain ⟨sl, q⟩ := nff b hb o e
        exact ⟨_, q⟩
      · exact ⟨o, st b o (nb b o e hb)⟩, fun b xs e => by rw [upd_ne (nH e)]; exact e, fun b o u e => by rw [upd_ne (nH e)]; exact e, fun b ps e => ⟨#[], by rw [upd_ne (nH e), e]; simp⟩⟩
    hok ag (fun _ z => nomatch z)
  obtain ⟨h, g, dr, t, os'⟩ := s'
  obtain rfl : os' = sI.os := os
  exact J
theorem Inv.suiteT (I : Inv X pins σ H s) (a : Addr) : Inv (X.suite a (X.pn ++ pins)) [] σ H s :=
  ⟨I.ok.suite _ _, I.os, I.bare, I.base, I.loc, I.cell, I.free, I.freeC, fun p hp => by
    have hp' : p ∈ (X.pn ++ pins) ++ [] := hp
    rw [List.append_nil] at hp'
    exact I.pin p hp', I.hok, I.len⟩
theorem Inv.unsuiteT {a : Addr} {pn' : List (Addr × Obj)} (I : Inv (X.suite a (X.pn ++ pins)) pn' σ H s) (ok : X.Ok) : Inv X pins σ H s :=
  ⟨ok, I.os, I.bare, I.base, I.loc, I.cell, I.free, I.freeC, fun p hp => I.pin p (List.mem_append_left _ hp), I.hok, I.len⟩
end
/-- the test of a clause: it gives a value, by which the exception is asked -/
def TestEv (X : Cx) (test : Expr) (cs : List Value) : Prop :=
  ∀ (a : Addr) (pn : List (Addr × Obj)) (σ : St) (H : Hp) (s : Shared) (cls : Value) (b : Bool) (Q : Value → Shared → Prop) (E : Value → Shared → Prop), Inv (X.suite a pn) [] σ H s → PySem.W.exmAny X.K cls cs = some b → PySem.W.Looks (model X.prog X.w) s.heap (typeOf (.ref a)) cls →
    (∀ c s', s'.os = s.os → s'.gens = s.gens → (∀ b o, s.heap.get? b = some o → s'.heap.get? b = some o) → PySem.W.Looks (model X.prog X.w) s'.heap (excMatches (.ref a) c) b → Q c s') → wpAny (model X.prog X.w) (X.A.mark (some (.ref a))) (eval test X.env) Q E s
section
variable {X : Cx}
theorem suite_glob {a : Addr} {pn : List (Addr × Obj)} {σ : St} {H : Hp} {s : Shared} {x : Str} {C : Value} {p : Pos} {Q E : Value → Shared → Prop} (I : Inv (X.suite a pn) [] σ H s) (hg : Gl X x) (hm : X.mg x = some C) (h : Q C s) (hd : (x == ("__debug__" : Str)) = false := by decide) :
    wpAny (model X.prog X.w) (X.A.mark (some (.ref a))) (eval (.Name x p) X.env) Q E s := ld_glob (X := X.suite a pn) I hg hm h hd
theorem test_tup3 {x1 x2 x3 : Str} {C1 C2 C3 : Value} {p1 p2 p3 p : Pos} {k : _} (g1 : Gl X x1) (m1 : X.mg x1 = some C1) (g2 : Gl X x2) (m2 : X.mg x2 = some C2) (g3 : Gl X x3) (m3 : X.mg x3 = some C3)
    (he : ∀ A : Unit, starEach [.Name x1 p1, .Name x2 p2, .Name x3 p3] X.env = [(false, eval (.Name x1 p1) X.env), (false, eval (.Name x2 p2) X.env), (false, eval (.Name x3 p3) X.env)] := by intro _; rfl)
    (d1 : (x1 == ("__debug__" : Str)) = false := by decide) (d2 : (x2 == ("__debug__" : Str)) = false := by decide) (d3 : (x3 == ("__debug__" : Str)) = false := by decide) : TestEv X (.Tuple [.Name x1 p1, .Name x2 p2, .Name x3 p3] k p) [C1, C2, C3] := by
  intro a pn σ H s cls b Q E I hb LT h
  refine wpAny_Tuple_spliced ?_
  rw [he ()]
  refine Calls.spliced_cons (suite_glob I g1 m1 ?_ d1)
  refine Calls.spliced_cons (suite_glob I g2 m2 ?_ d2)
  refine Calls.spliced_cons (suite_glob I g3 m3 ?_ d3)
  refine Calls.spliced_nil ⟨by show 3 ≤ sizeLine; rw [sizeLine_eq]; omega, ?_⟩
  have k : ∀ b o, s.heap.get? b = some o → (s.heap.push { cls := .type "tuple", data := .seq [C1, C2, C3].toArray }).get? b = some o := fun b o e => Heap.get?_push_of_some _ e
  exact h _ _ rfl rfl k (PySem.W.exm_tup3 (I.kIn.keeps k) (LT.keeps k) (Heap.get?_push_size _ rfl) hb)
end
/-- what the clause wishes of an exception of the body: slot i is n's -/
def wHold (K : PySem.W.Frag) (cs : List Value) (i : Nat) (ts : TS) (Wout : WX) (D : Ends) : WX := fun cls d σ H =>
  ∃ b C dd, cls = .ref C ∧ d = some dd ∧ PySem.W.exmAny K cls cs = some b ∧ (b = true → ∀ a, H a = none → ts { nx := fun σ' H' => D.nx (σ'.set i none) H', rt := D.rt, bk := fun σ' H' => D.bk (σ'.set i none) H', ct := fun σ' H' => D.ct (σ'.set i none) H' } (σ.set i (some (.ref a))) (upd H a (Z.ExD a C dd))) ∧
    (b = false → Wout cls d σ H)
theorem fly_keeps {B h h' : Heap} {l : List Env} {a : Addr} {Z : Obj → Prop} (k : ∀ b o, h.get? b = some o → h'.get? b = some o) (f : HandSPX.FlyingZ B l a Z h) : HandSPX.FlyingZ B l a Z h' := by
  obtain ⟨k1, k2, k3, oe, vs, T, oT, ts, he, hz, hd, h1, hnT, hTe, hT, hdT, h3⟩ := f
  exact ⟨fun b o e => k b o (k1 b o e), k2, k3.of_keeps fun b o e _ => ⟨o, k b o e, rfl⟩, oe, vs, T, oT, ts, k _ _ he, hz, hd, h1, hnT, hTe, k _ _ hT, hdT, h3⟩
section
variable {X : Cx} {n : Str} {cs : List Value} {i : Nat} {body suite : List Stmt} {b₀ : Stmt} {test : Expr} {pos pos' : Pos} {tb : WX → TS} {ts : TS} {Wout : WX}
theorem ps_try_hold (hs : X.stack = X.env :: X.outer) (hf : X.env.frame = some X.env.locals) (hN : X.N.Nodup) (hi : X.N[i]? = some n) (hln : X.env.kindOf n = some .local) (hc : TestEv X test cs) (tk : Z.Takes X Wout)
    (hb : ∀ (W : WX) (pn : List (Addr × Obj)) (xe : Value → Shared → Prop), Z.Takes (X.tr pn xe) W → PassesOwn (model X.prog X.w) X.A X.env xe → PSs (X.tr pn xe) body (tb W))
    (hsu : ∀ (a : Addr) (pn : List (Addr × Obj)), PSs (X.suite a pn) (b₀ :: suite) ts) :
    PS X (.Try body [.ExceptHandler (some test) (some n) (b₀ :: suite) pos'] [] [] pos) (fun D σ H => tb (wHold X.K cs i ts Wout D) D σ H) := by
  refine ⟨fun pins s σ H D I h => ?_⟩
  have ok := I.ok
  have hfr : X.A.frames = some (X.env :: X.outer) := by rw [ok.frames, hs]
  have hloc : Loc X.env.scope n := .inl hln
  refine wpAny_Try_except ?_
  refine wpAny_mono ((hb (wHold X.K cs i ts Wout D) (X.pn ++ pins) (fun e s₁ => wpAny (model X.prog X.w) X.A (noteFrame e X.env) (fun _ s₂ => wpAny (model X.prog X.w) X.A (setFlight e none) (fun _ s₃ =>
    wpAny (model X.prog X.w) X.A (handleBy e X.env [.ExceptHandler (some test) (some n) (b₀ :: suite) pos']) (SP X pins D) X.xe s₃) X.xe s₂) X.xe s₁) (fun u s' xx => ?_) PassesOwn.looking).run [] s σ H D (I.toTry _) h) (fun f s1 hsp => ?_) (fun e s1 he => he)
  · -- the catch
    obtain ⟨a, B, sI, pins', σ', H', cls, d, rfl, J', nb, up, sky, na, os, ag, b, C, dd, rfl, rfl, hb1, hyes, hno⟩ := xx
    have J : Inv X pins σ' H' sI := J'.ofTry ok
    have sky' : Sky B (X.env :: X.outer) a (Z.Zk B H' (.ref C) (some dd)) X.env.locals s'.heap := by rw [← hs]; exact sky
    show wpAny (model X.prog X.w) X.A (noteFrame (.ref a) X.env) _ _ _
    refine L2N.Sky.land Z.Zk.steady hfr hf sky' fun h3 fl3 up3 => ?_
    have J3 : Inv X pins σ' H' { s' with heap := h3 } := J.landed nb fl3.1 (up.trans up3) os ag
    obtain ⟨oe3, vs3, he3, hz3, hd3⟩ := fl3.there
    have notFr : ∀ {h : Heap} {o : Obj} {vs : Array Value}, h.FunFrames B (X.env :: X.outer) → h.get? a = some o → o.data = .fields vs → a ∉ frs (X.env :: X.outer) := fun {h o vs} ff e dd hm => by
      obtain ⟨_, o', e', hnf⟩ := ff.mem hm
      rw [e] at e'; cases e'
      exact hnf _ dd
    have nfr := notFr fl3.2.2.1 he3 hd3
    have nfs : a ∉ frs X.stack := by rw [hs]; exact nfr
    have S3 : Inv (X.suite a (X.pn ++ pins)) [] σ' H' { s' with heap := h3 } := J3.suiteT a
    refine wpAny_handleBy_cons (codeAny_handlers_test ?_) (by intro q; cases q)
    have LT : PySem.W.Looks (model X.prog X.w) h3 (typeOf (.ref a)) (.ref C) := fun A Q E s k q => wpAny_typeOf_ref (k _ _ he3) (by rw [hz3.1]; exact q)
    refine hc a (X.pn ++ pins) σ' H' { s' with heap := h3 } (.ref C) b _ _ S3 hb1 LT fun c s3' os3 ag3 k3 LM => ?_
    have fl3' := fly_keeps k3 fl3
    have up3' : h3.UpToSlots s3'.heap := fun b o e _ => ⟨o.slots, k3 b o e⟩
    have osT : s3'.os = sI.os := os3.trans os
    have agT : AllBare s3'.gens := by rw [ag3]; exact ag
    refine LM.here ?_
    cases b with
    | true =>
      refine codeAny_handlers_suite_as ?_
      refine HandSPX.lands_againZ fl3' fun h4 fl4 up4 => ?_
      obtain ⟨oe4, vs4, he4, hz4, hd4⟩ := fl4.there
      have J4 : Inv X pins σ' (upd H' a (Z.ExD a C dd)) { s3' with heap := h4 } := J.landedT nb fl4.1 (((up.trans up3).trans up3').trans up4) osT agT he4 hz4.zc hd4 na fl4.2.1 nfs
      have S4 := J4.suiteT a
      refine store_ok (X := X.suite a (X.pn ++ pins)) (v := .ref a) S4 hN hi hloc rfl (fun s5 S5 => ?_) (.inr hln)
      refine wpAny_mono ((hsu a (X.pn ++ pins)).run [] s5 _ _ _ S5 (hyes rfl a na)) (fun f s6 hsp => ?_) (fun _ _ z => False.elim z)
      have end_ : ∀ {σ6 : St} {H6 : Hp} {Q : Shared → Prop}, Inv (X.suite a (X.pn ++ pins)) [] σ6 H6 s6 → (∀ s7, Inv X pins (σ6.set i none) H6 s7 → Q s7) →
          wpAny (model X.prog X.w) X.A (do bindName X.env n .none; unbindBehindTheSuite X.env n pos') (fun _ s7 => Q s7) X.xe s6 := fun {σ6 H6 Q} S6 hq => gone_ok (S6.unsuiteT ok) hN hi hln hq
      cases f with
      | next =>
        obtain ⟨σ6, H6, S6, q6⟩ := hsp
        exact end_ S6 fun s7 J7 => ⟨_, _, J7, q6⟩
      | brk =>
        obtain ⟨σ6, H6, S6, q6⟩ := hsp
        exact end_ S6 fun s7 J7 => ⟨_, _, J7, q6⟩
      | cont =>
        obtain ⟨σ6, H6, S6, q6⟩ := hsp
        exact end_ S6 fun s7 J7 => ⟨_, _, J7, q6⟩
      | ret u =>
        obtain ⟨v6, σ6, H6, S6, r6, q6⟩ := hsp
        exact end_ S6 fun s7 J7 => ⟨_, _, _, J7, r6, q6⟩
    | false =>
      show wpAny _ X.A (handleBy (.ref a) X.env []) _ _ _
      refine wpAny_handleBy_nil ?_
      obtain ⟨k1, k2, kk3, oe, vs, T, oT, ts', he, hz, hd, h1, hr⟩ := id fl3'
      unfold PySem.passOn
      refine wpAny_bind (wpAny_field he hd h1 ?_)
      rw [if_neg (show ¬ ((Value.ref T == Value.none) = true) from by simp)]
      have fin : wpAny (model X.prog X.w) X.A (setFlight (.ref a) X.env.frame) (fun _ s4 => wpAny (model X.prog X.w) X.A (throw (.ref a) : Sem Flow) (SP X pins D) X.xe s4) X.xe s3' := by
        rw [hf]
        refine HandSPX.setFlight_upZ fl3' fun h4 hh4 up4 => wpAny_throw (tk _ _ ?_)
        exact ⟨a, B, sI, pins, σ', H', .ref C, some dd, rfl, J, nb, ((up.trans up3).trans up3').trans up4, .inr (.inr (by rw [hs]; exact hh4)), na, osT, agT, hno rfl⟩
      first
        | exact wpAny_bind (wpAny_pure (wpAny_bind fin))
        | exact wpAny_bind fin
  · cases f with
    | next =>
      obtain ⟨σ', H', J', q⟩ := hsp
      exact wpAny_execs_nil ⟨σ', H', J'.ofTry ok, q⟩
    | brk =>
      obtain ⟨σ', H', J', q⟩ := hsp
      exact ⟨σ', H', J'.ofTry ok, q⟩
    | cont =>
      obtain ⟨σ', H', J', q⟩ := hsp
      exact ⟨σ', H', J'.ofTry ok, q⟩
    | ret u =>
      obtain ⟨v, σ', H', J', r, q⟩ := hsp
      exact ⟨v, σ', H', J'.ofTry ok, r, q⟩
end
end L2
namespace Z
open PySem PySem.Spec L2 PyProof.Rows
def FnT (P : Program) (w : World) (K : PySem.W.Frag) (mg : Str → Option Value) (base : Heap) (k : Nat) (f : Addr) (sp : Sp) : Prop :=
  ∀ (A : Around) (outer : List Env) (s : Shared) (H : Hp) (us : List Value) (vs : List V) (Q : VK) (E : XK), L2H.RoomH k A → Env0 P w K mg base A outer s H → Vals vs us → sp vs H Q E → codeAny (model P w) A (.call (.ref f) ⟨us, []⟩) (CR (Z.CX P w) outer P w H s Q E) s
abbrev FZT (P : Program) (w : World) (K : PySem.W.Frag) (mg : Str → Option Value) (base : Heap) (k : Nat) (f : Addr) (g : SemL) : Prop := FnT P w K mg base k f (spZ K mg g)
def cxT (CX : CXT) (P : Program) (w : World) (K : PySem.W.Frag) (mg : Str → Option Value) (base : Heap) (N : List Str) (qual : Str) (scope : Scope) (f : Addr) (cd : Value) (A : Around) (outer : List Env) (s : Shared) (H : Hp) (E : XK) : Cx :=
  { cxOf CX P w K mg base N qual scope f cd A outer s H E with calm := false }
theorem inv_startT {CX : CXT} {P : Program} {w : World} {K : PySem.W.Frag} {mg : Str → Option Value} {base : Heap} {N ps : List Str} {qual : Str} {scope : Scope} {f : Addr} {cd : Value} {A : Around} {outer : List Env} {s s1 : Shared} {H : Hp} {E : XK} {us : List Value} {vs : List V}
    (S : FnScope N ps scope) (e0 : Env0 P w K mg base A outer s H) (hl : vs.length = ps.length) (r : Vals vs us)
    (x : InCallC s s.heap.objs.size (bindL (envOfC qual scope s.heap.objs.size f cd).kindOf (ps.zip us) fun _ => none) (cellsFrom (s.heap.objs.size + 1) scope.names []) (bindC (envOfC qual scope s.heap.objs.size f cd).kindOf (ps.zip us) fun _ => none) s1) :
    Inv (cxT CX P w K mg base N qual scope f cd A outer s H E) [] (L2.start N vs) H s1 := by
  have hpl : ps.length ≤ N.length := by have := congrArg List.length S.pre; rw [List.length_take] at this; omega
  obtain ⟨h1, tk, rfl, hk⟩ := x.done
  have noA : ∀ b : Addr, b ∉ (cxT CX P w K mg base N qual scope f cd A outer s H E).ex := fun b z => absurd (show b ∈ ([] : List Addr) from z) (by simp)
  refine ⟨⟨e0.mod, S.kind, rfl, rfl, Nat.le_refl _, fun y z c h1 h2 => ?_, fun y hy => ?_, fun y c _ h => ?_, (fun z => Bool.noConfusion (show false = true from z)), Around.frames_deeper e0.frames, .inr ⟨rfl, rfl⟩, fun b z => absurd z (noA b), e0.bs, e0.bsz, fun b _ _ => noA b, fun b z => absurd z (noA b), e0.funs, e0.frf⟩,
    rfl, e0.bare, Un.kept hk, ⟨_, x.toInCall.ns, fun i y v h1 h2 h3 => ?_⟩, fun y c h => ⟨_, x.cell y c h⟩, e0.hok.fresh (Nat.le_refl _), fun y c h => ?_, fun q hq => ?_, e0.hok.kept hk, ?_⟩
  · exact name_of_addr x.apart (PySem.mem_of_lookup h1) (PySem.mem_of_lookup h2)
  · have hy : scope.names.lookup y = some .cell ∨ scope.names.lookup y = some .free := hy
    rcases hy with hy | hy
    · exact cell_has hy
    · exact absurd rfl (S.nofree _ (PySem.mem_of_lookup hy))
  · exact Nat.le_of_lt (x.above y c (PySem.mem_of_lookup h))
  · have hi : i < vs.length := by
      unfold L2.start at h2
      by_cases hi : i < vs.length
      · exact hi
      · rw [List.getElem?_append_right (by simpa using hi)] at h2
        rw [List.getElem?_replicate] at h2
        split at h2 <;> cases h2
    have ha : vs[i]? = some v := by
      unfold L2.start at h2
      rw [List.getElem?_append_left (by simpa using hi), List.getElem?_map] at h2
      cases e : vs[i]? with
      | none => rw [e] at h2; cases h2
      | some a => rw [e] at h2; cases h2; rfl
    obtain ⟨u, hu, rv⟩ := r.get ha
    have hp : ps[i]? = some y := by
      rw [← S.pre, List.getElem?_take_of_lt (by omega)]; exact h1
    have ndP : ps.Nodup := by rw [← S.pre]; exact S.nd.sublist (List.take_sublist _ _)
    refine ⟨u, rv, ?_⟩
    rcases S.par y (List.mem_of_getElem? hp) with k | k
    · exact .inl ⟨k, bindL_get ndP hp hu k⟩
    · obtain ⟨c, e⟩ := cell_has (n := s.heap.objs.size + 1) k
      refine .inr ⟨.inl k, c, e, ?_⟩
      have q := x.cell y c e
      rw [bindC_get ndP hp hu (by show scope.names.lookup y ≠ _; rw [k]; decide)] at q
      exact q
  · exact e0.hok.fresh (Nat.le_of_lt (x.above y c (PySem.mem_of_lookup h)))
  · exact absurd (show q ∈ ([] : List (Addr × Obj)) ++ [] from hq) (by simp)
  · unfold L2.start
    show _ = N.length
    rw [List.length_append, List.length_map, List.length_replicate]
    omega
section
variable {P : Program} {w : World} {K : PySem.W.Frag} {mg : Str → Option Value} {base : Heap}
theorem fz_hot {x qual : Str} {st : Stmt} {f : Addr} {fd : FuncData} {N ps : List Str} {k : Nat} {body : SX} (F : Fun K x qual st f fd) (Sc : FnScope N ps (defScope st)) (hbi : Binds K fd ps [])
    (hb : ∀ (cdv : Value) (A : Around) (outer : List Env) (s : Shared) (H : Hp) (E : XK), L2H.RoomH k (A.deeper (envOfC qual (defScope st) s.heap.objs.size f cdv)) →
      ESs (cxT (Z.CX P w) P w K mg base N qual (defScope st) f cdv A outer s H E) (fun c d _ H' => E c d H') (defBody st) body) :
    FZT P w K mg base (k + 1) f (arity ps.length (defS N.length body)) := by
  obtain ⟨oc, od, kV, doc, pm, an, cdv, ct, osl, rfl, lk, hcd⟩ := F.ex
  intro A outer s H us vs Q E hr e0 r ⟨ρ, S, ds, w0, rl, p⟩
  unfold arity at p
  split at p
  · rename_i hln
    have hl : vs.length = ps.length := by rw [← rl.len]; exact hln
    have hus : us.length = ps.length := by rw [← r.length]; exact hl
    have KX : K.In s.heap := e0.mod.kin.keeps fun b o e => (e0.bs b o e).1
    have lim : s.heap.NoLimit := e0.mod.nolimit.keeps fun b o e => (e0.bs b o e).1
    have hbd := hbi s us KX (by rw [List.append_nil]; exact hus)
    rw [List.append_nil] at hbd
    have hkind : ∀ y ∈ ps.zip us, (defScope st).names.lookup y.1 = some .local ∨ ((defScope st).names.lookup y.1 = some .cell ∧ ((cellsFrom (s.heap.objs.size + 1) (defScope st).names []).lookup y.1).isSome = true) := fun ⟨n, v⟩ hy => by
      rcases Sc.par n (List.of_mem_zip hy).1 with q | q
      · exact .inl q
      · exact .inr ⟨q, PySem.W.cellsFrom_some _ _ _ (.inl q)⟩
    refine codeAny_call_function hr.depth (KX _ _ lk) rfl Sc.co Sc.gen rfl (PySem.W.codeRec_of KX hcd) (hbd _ _ _ _ ?_)
    refine wpAny_newFunctionEnv_cells Sc.kind hkind fun env he s1 x => ?_
    subst he
    refine ⟨lim.keeps x.toInCall.keep, codeAny_func ?_⟩
    have I := inv_startT (CX := Z.CX P w) (E := E) (cd := cdv) (f := f) (qual := qual) Sc e0 hl r x
    have p := fin_imp w0 p
    refine wpAny_mono ((hb cdv A outer s H E (hr.deeper _)).run [] s1 (L2.start N vs) H { nx := fun _ H' => Q .non H', rt := Q } I ⟨ρ, S, _, w0, rst_start rl, ?_⟩) (fun fl s' hs => ?_) fun e s' hs => hs
    · cases q : body (ds.map some ++ List.replicate (N.length - ds.length) none) S with
      | nx sl S' => rw [q] at p; exact fun σ' ρ' H' x w1 r1 => p .non ρ' H' x w1 (by rw [Rep])
      | rt d S' => rw [q] at p; exact p
      | ex e sl S' => rw [q] at p; exact fun C dd σ' ρ' H' x w1 _ r1 => p C dd ρ' H' x w1 r1
      | bk sl S' => rw [q] at p; exact p.elim
      | ct sl S' => rw [q] at p; exact p.elim
      | bad => rw [q] at p; exact p.elim
    · have fin : ∀ {σ' : L2.St} {H' : Hp} {v : V} {u : Value}, Inv (cxT (Z.CX P w) P w K mg base N qual (defScope st) f cdv A outer s H E) [] σ' H' s' → RelV v u → Q v H' → CE outer P w H s Q u s' :=
        fun {σ' H' v u} J rv q => ⟨v, H', J.os, J.bare, J.base, J.hok, rv, q⟩
      cases fl with
      | ret u =>
        obtain ⟨v, σ', H', J, rv, q⟩ := hs
        exact fin J rv q
      | next =>
        obtain ⟨σ', H', J, q⟩ := hs
        exact fin (v := V.non) (u := Value.none) J rfl q
      | brk =>
        obtain ⟨_, _, _, q⟩ := hs
        exact False.elim q
      | cont =>
        obtain ⟨_, _, _, q⟩ := hs
        exact False.elim q
  · exact p.elim
end
section
variable {X : Cx} {W : WX} {k : Nat} {f : Addr} {g : SemL} {x : Str} {p pos : Pos} {e : Expr} {es : List Expr} {fa : AX}
theorem run_fnT {pins : List (Addr × Obj)} {σ : L2.St} {H : Hp} {s : Shared} {Q : VK} {us : List Value} {vs : List V} {sp : Sp} {E : XK} (F : FnT X.prog X.w X.K X.mg X.base k f sp) (hr : L2H.RoomH k X.A) (hx : PassesAt (Z.CX X.prog X.w) X σ E) (I : Inv X pins σ H s) (r : Vals vs us) (h : sp vs H Q E) :
    wpAny (model X.prog X.w) X.A (PySem.call (.ref f) us) (EP X pins σ Q) X.xe s := by
  refine wpAny_call (codeAny_mono (F X.A X.stack s H us vs Q E hr I.env0 r h) fun r s' hq => ?_)
  cases r with
  | error e => exact hx pins H s e s' I hq
  | ok fl =>
    cases fl with
    | ret u => exact I.after hq
    | next => exact False.elim hq
    | brk => exact False.elim hq
    | cont => exact False.elim hq
theorem r_callHot (tk : Takes X W) (F : FZT X.prog X.w X.K X.mg X.base k f g) (hr : L2H.RoomH k X.A) (hm : X.mg x = some (.ref f)) (hk : PySem.W.keepIn X.K (.ref f) = true)
    (ha : EA X W (e :: es) fa) (hg : Gl X x := by rfl) (hdb : (x == ("__debug__" : Str)) = false := by decide) (he : starEach (e :: es) X.env = (false, eval e X.env) :: starEach es X.env := by rfl) (hpl : (backTo pos (starEach es X.env)).any (·.1) = false := by rfl) :
    E X W (.Call (.Name x p) (e :: es) [] pos) (eArgs g fa) := by
  refine ⟨fun pins s σ H Q I h => ?_⟩
  refine wpAny_Call_Name_kw (ld_glob I hg hm ?_ hdb)
  have h' := argsem_imp (k := fun vs H1 => spZ X.K X.mg g vs H1 Q (WE W σ)) h fun ρ S H1 ds vs w r p => ⟨ρ, S, ds, w, r, p⟩
  refine PySem.W.callWith_K (h₀ := X.base) I.ok.mod.kin hk (thn (ha.run pos pins s σ H _ I h') fun us s1 ⟨vs, H1, I1, r, q⟩ => ⟨I1.kIn, ?_⟩) he hpl
  exact run_fnT F hr (passAt tk σ) I1 r q
end
/-- the classes whose held instances have the field -/
def XatOk (X : Cx) (f : Str) (cs : List Str) : Prop := ∀ c ∈ cs, ∀ C, X.mg c = some (.ref C) → XfC X.K C ∧ PySem.W.findIn X.K (.ref C) f = some none
theorem r_xat {X : Cx} {W : WX} {f : Str} {cs : List Str} {o : Expr} {fo : EX} {pos : Pos} (ht : XatOk X f cs) (ho : E X W o fo) (hb : attributeBase o f X.env (eval o X.env) = eval o X.env := by rfl) : E X W (.Attribute o f pos) (eXat f cs fo) := by
  refine ⟨fun pins s σ H Q I h => ?_⟩
  obtain ⟨ρ, S, sl, w, rs, p⟩ := h
  refine attr_of hb (thn (ho.run pins s σ H _ I ⟨ρ, S, sl, w, rs, PostE.bindE p⟩) fun u s1 ⟨x, H1, I1, rx, ρ1, S1, d, x1, w1, r1, _, p1⟩ => ?_)
  cases d with
  | exc c ns vs =>
    dsimp only at p1
    split at p1
    · rename_i hc
      rw [Rep] at r1
      obtain ⟨a, C, dd, fs, ex, na, nd, hm, ha, hd, hn, rl⟩ := r1
      subst ex
      obtain rfl : u = Value.ref a := rx
      obtain ⟨T, hno⟩ := ht c hc C hm
      split at p1
      · rename_i v ev
        obtain ⟨v', h1, h2⟩ := lookN_rep hn rl ev
        obtain ⟨⟨oe, ws, he, hz, hdt⟩, _, _⟩ : ObjOk X.prog X.w H1 s1.heap a (.ext fun h => ∃ (oe : Obj) (vs : Array Value), h.get? a = some oe ∧ Zc (.ref C) (some dd) oe ∧ oe.data = .fields vs) := I1.hok a _ ha
        have hx : ObjOk X.prog X.w H1 s1.heap dd (.xd fs) := I1.hok dd _ hd
        obtain ⟨mA, hns, hr⟩ := hx
        obtain ⟨od, ho', hl⟩ := lookIn_ns hns
        obtain ⟨u', hu, ru⟩ := RelO.some_of (v := v') (o := mA f) (by rw [← h1]; exact hr f)
        have J : PySem.W.InstAt s1.heap a oe C (some od) := ⟨he, hz.1, by unfold PySem.W.notCls; rw [hdt] <;> rfl, by rw [hz.2]; exact ho'⟩
        exact HandSPX.exc_get I1.kIn J T.ga T.gg T.exC (PySem.W.findObj_own T.hdC hno rfl (by rw [hl, hu])) (handed_of ru) ⟨v', H1, I1.tok _, ru, post_ok p1 w1 h2⟩
      · exact p1.elim
    · exact p1.elim
  | _ => exact p1.elim
def TryOk (X : Cx) (cs : List Value) (tab : List (Str × Bool)) : Prop := ∀ c b, tab.lookup c = some b → ∀ C, X.mg c = some (.ref C) → PySem.W.exmAny X.K (.ref C) cs = some b
theorem RSt.setN {K : PySem.W.Frag} {mg : Str → Option Value} {ρ : List Addr} {H : Hp} {σ : L2.St} {sl : Sl} (r : RSt K mg ρ H σ sl) (i : Nat) : RSt K mg ρ H (σ.set i none) (sl.set i none) := by
  refine ⟨by simp [r.len], fun j d e => ?_⟩
  by_cases h : i = j
  · subst h
    by_cases hl : i < sl.length
    · rw [List.getElem?_set_self hl] at e; cases e
    · rw [List.getElem?_eq_none (by simpa using hl)] at e; cases e
  · rw [List.getElem?_set_ne h] at e
    obtain ⟨v, e1, e2⟩ := r.at_ j d e
    exact ⟨v, by rw [List.getElem?_set_ne h]; exact e1, e2⟩
theorem s_tryZ {X : Cx} {W : WX} {n : Str} {cs : List Value} {tab : List (Str × Bool)} {i : Nat} {body suite : List Stmt} {b₀ : Stmt} {test : Expr} {pos pos' : Pos} {fb fs : SX} (hs : X.stack = X.env :: X.outer) (hf : X.env.frame = some X.env.locals) (hN : X.N.Nodup) (hi : X.N[i]? = some n) (hln : X.env.kindOf n = some .local) (hc : TestEv X test cs) (tk : Takes X W) (ht : TryOk X cs tab)
    (hb : ∀ (W' : WX) (pn : List (Addr × Obj)) (xe : Value → Shared → Prop), Takes (X.tr pn xe) W' → ESs (X.tr pn xe) W' body fb)
    (hsu : ∀ (a : Addr) (pn : List (Addr × Obj)), ESs (X.suite a pn) WF (b₀ :: suite) fs) :
    ES X W (.Try body [.ExceptHandler (some test) (some n) (b₀ :: suite) pos'] [] [] pos) (sTry tab i fb fs) := by
  refine PS.imp (ps_try_hold (tb := fun W' => trS X.K X.mg W' fb) (ts := trS X.K X.mg WF fs) hs hf hN hi hln hc tk (fun W' pn xe tk' _ => hb W' pn xe tk') hsu) fun D σ H ⟨ρ, S, sl, w, rs, p⟩ => ?_
  refine ⟨ρ, S, sl, w, rs, ?_⟩
  unfold sTry at p
  cases o : fb sl S with
  | nx sl1 S1 => rw [o] at p; exact p
  | bk sl1 S1 => rw [o] at p; exact p
  | ct sl1 S1 => rw [o] at p; exact p
  | rt d S1 => rw [o] at p; exact p
  | bad => rw [o] at p; exact p.elim
  | ex e sl1 S1 =>
    rw [o] at p
    intro C dd σ1 ρ1 H1 x1 w1 rs1 r1
    obtain ⟨c, ns, ds, Ca, da, fs', rfl, hm, rfl, rfl, nd, hd, hn, rl⟩ := r1
    dsimp only at p
    cases q : tab.lookup c with
    | none => rw [q] at p; exact p.elim
    | some b =>
      refine ⟨b, Ca, da, rfl, rfl, ht c b q Ca hm, fun hbt a na => ?_, fun hbf => ?_⟩
      · subst hbt
        rw [q] at p
        dsimp only at p
        have hda : da ≠ a := fun z => by rw [z, na] at hd; cases hd
        have x2 : Ext ρ1 H1 ρ1 (upd H1 a (ExD a Ca da)) := Ext.new' na
        have w2 : WOk X.K X.mg ρ1 (upd H1 a (ExD a Ca da)) S1 := w1.new' na
        have rv : Rep X.K X.mg ρ1 (upd H1 a (ExD a Ca da)) (.exc c ns ds) (.ref a) := by
          rw [Rep]
          exact ⟨a, Ca, da, fs', rfl, w1.nin na, nd, hm, upd_same, by rw [upd_ne hda]; exact hd, hn, rl.ext x2⟩
        refine ⟨ρ1, S1, sl1.set i (some (.exc c ns ds)), w2, (rs1.ext x2).set rv i, ?_⟩
        have x3 := x1.trans x2
        cases o2 : fs (sl1.set i (some (.exc c ns ds))) S1 with
        | nx sl2 S2 => rw [o2] at p; exact fun σ' ρ' H' x w r => p _ ρ' H' (x3.trans x) w (r.setN i)
        | bk sl2 S2 => rw [o2] at p; exact fun σ' ρ' H' x w r => p _ ρ' H' (x3.trans x) w (r.setN i)
        | ct sl2 S2 => rw [o2] at p; exact fun σ' ρ' H' x w r => p _ ρ' H' (x3.trans x) w (r.setN i)
        | rt d S2 => rw [o2] at p; exact fun v ρ' H' x w r => p v ρ' H' (x3.trans x) w r
        | ex e sl2 S2 => rw [o2] at p; exact p.elim
        | bad => rw [o2] at p; exact p.elim
      · subst hbf
        rw [q] at p
        exact p _ _ σ1 ρ1 H1 x1 w1 rs1 ⟨c, ns, ds, Ca, da, fs', rfl, hm, rfl, rfl, nd, hd, hn, rl⟩
end Z
namespace Z
open PySem PySem.Spec L2 PyProof.Rows
def addC (cs : Cs) (H : Hp) : Hp := fun b => match cs.lookup b with
  | some o => some (.frz o (.own 0))
  | none => H b
def delC (cs : Cs) (H : Hp) : Hp := fun b => match cs.lookup b with
  | some _ => none
  | none => H b
theorem addC_in {cs : Cs} {H : Hp} {b : Addr} {o : Obj} (h : cs.lookup b = some o) : addC cs H b = some (.frz o (.own 0)) := by unfold addC; rw [h]
theorem addC_out {cs : Cs} {H : Hp} {b : Addr} (h : cs.lookup b = none) : addC cs H b = H b := by unfold addC; rw [h]
theorem delC_in {cs : Cs} {H : Hp} {b : Addr} {o : Obj} (h : cs.lookup b = some o) : delC cs H b = none := by unfold delC; rw [h]
theorem delC_out {cs : Cs} {H : Hp} {b : Addr} (h : cs.lookup b = none) : delC cs H b = H b := by unfold delC; rw [h]
section
variable {P : Program} {w : World} {cs : Cs} {fs ρ : List Addr} {H H' H2 : Hp} {h h' : Heap} {K : PySem.W.Frag} {mg : Str → Option Value} {S : Store}
theorem CsIn.out0 (c : CsIn cs H) {b : Addr} (e : H b = none) : cs.lookup b = none := by
  cases q : cs.lookup b with
  | none => rfl
  | some o => rw [c b o q] at e; cases e
theorem add_in : CsIn cs (addC cs H) := fun c o q => addC_in q
theorem ext_add (c : CsOk cs fs H h) : Ext ρ H ρ (addC cs H) := ⟨⟨[], by simp⟩, fun a x n => absurd x n, fun a o _ e => .inl (by rw [addC_out (c.out e)]; exact e)⟩
theorem wok_add (c : CsOk cs fs H h) (w : WOk K mg ρ H S) : WOk K mg ρ (addC cs H) S := by
  have eq : ∀ a ∈ ρ, addC cs H a = H a := fun a ha => by
    have t := w.tr a ha
    cases e : H a with
    | none => exact absurd e t
    | some u => rw [addC_out (c.out e), e]
  refine ⟨w.len, w.nd, fun a ha => by rw [eq a ha]; exact w.tr a ha, fun n a m e1 e2 => ?_⟩
  exact MRep.ext (ext_add c) (eq a (List.mem_of_getElem? e1)) (w.ob n a m e1 e2)
theorem hok_add (c : CsOk cs fs H h) (x : HOk P w H h) : HOk P w (addC cs H) h := fun b u e => by
  cases q : cs.lookup b with
  | some o =>
    rw [addC_in q] at e; cases e
    exact ⟨c.get b o q, o, c.get b o q⟩
  | none =>
    rw [addC_out q] at e
    exact (x b u e).stay (fun d v _ y => y) (fun d y => by rw [addC_out (c.out y)]; exact y) fun d xs y => by rw [addC_out (c.out y)]; exact y
theorem hok_del (c : CsIn cs H) (x : HOk P w H h) : HOk P w (delC cs H) h := fun b u e => by
  cases q : cs.lookup b with
  | some o => rw [delC_in q] at e; cases e
  | none =>
    rw [delC_out q] at e
    exact (x b u e).stay (fun d v _ y => y) (fun d y => by rw [delC_out (c.out y (by intros; nofun))]; exact y) fun d xs y => by rw [delC_out (c.out y (by intros; nofun))]; exact y
theorem kp_del (c : CsIn cs H) : Kp ρ H ρ (delC cs H) where
  rd := fun a u n1 n2 n r => ⟨n, by
    rcases r with r | ⟨o, r⟩
    · exact .inl (by rw [delC_out (c.out r (fun o e => n1 o _ e))]; exact r)
    · exact .inr ⟨o, by rw [delC_out (c.out r (fun o' e => by injection e with _ e2; exact n2 0 e2))]; exact r⟩⟩
  lst := fun a vs _ e => by rw [delC_out (c.out e (by intros; nofun))]; exact e
  tup := fun a vs _ e => by rw [delC_out (c.out e (by intros; nofun))]; exact e
  ins := fun a C dx fs _ e => by rw [delC_out (c.out e (by intros; nofun))]; exact e
  get := fun n a e => e
  ext := fun a φ n e => ⟨n, by rw [delC_out (c.out e (by intros; nofun))]; exact e⟩
  xd := fun a fs n e => ⟨n, by rw [delC_out (c.out e (by intros; nofun))]; exact e⟩
  frz := fun a o vs n e => ⟨n, by rw [delC_out (c.out e (fun o' e' => by injection e' with _ e2; cases e2))]; exact e⟩
theorem rep_del (c : CsIn cs H) {d : D} {v : V} (n : noLc d = true) (r : Rep K mg ρ H d v) : Rep K mg ρ (delC cs H) d v := Rep.kp (kp_del c) d v (.inr n) r
theorem repL_del (c : CsIn cs H) {ds : List D} {vs : List V} (n : noLcL ds = true) (r : RepL K mg ρ H ds vs) : RepL K mg ρ (delC cs H) ds vs := RepL.kp (kp_del c) ds vs (.inr n) r
theorem mrep_del (c : CsIn cs H) {a : Addr} {m : MO} (n : noLcM m = true) (r : MRep K mg ρ H a m) : MRep K mg ρ (delC cs H) a m := by
  cases m with
  | lst ds =>
    obtain ⟨vs, h1, h2⟩ := r
    exact ⟨vs, by rw [delC_out (c.out h1 (by intros; nofun))]; exact h1, repL_del c n h2⟩
  | dct lk ks ds =>
    obtain ⟨kvs, h1, h2, h3⟩ := r
    have n : (noLcL ks && noLcL ds) = true := n
    rw [Bool.and_eq_true] at n
    refine ⟨kvs, ?_, repL_del c n.1 h2, repL_del c n.2 h3⟩
    cases lk with
    | true =>
      rw [if_pos rfl] at h1 ⊢
      rcases h1 with h1 | ⟨o, h1⟩
      · exact .inl (by rw [delC_out (c.out h1 (by intros; nofun))]; exact h1)
      · exact .inr ⟨o, by rw [delC_out (c.out h1 (by intros; nofun))]; exact h1⟩
    | false =>
      rw [if_neg Bool.false_ne_true] at h1 ⊢
      rw [delC_out (c.out h1 (by intros; nofun))]; exact h1
  | ins cl ns ds =>
    obtain ⟨C, dx, fs, h0, h1, h2, h3⟩ := r
    exact ⟨C, dx, fs, h0, by rw [delC_out (c.out h1 (by intros; nofun))]; exact h1, h2, repL_del c n h3⟩
  | tab P q =>
    obtain ⟨hP, ps, h1, h2, h3⟩ := r
    refine ⟨hP, ps, by rw [delC_out (c.out h1 (by intros; nofun))]; exact h1, h2, fun pos cv hc => ?_⟩
    obtain ⟨k, e1, nk, e2⟩ := h3 pos cv hc
    exact ⟨k, e1, nk, by unfold LamX.CodeO at e2 ⊢; rw [delC_out (c.out e2 (by intros; nofun))]; exact e2⟩
theorem wok_del (c : CsIn cs H) (nr : ∀ b o, cs.lookup b = some o → b ∉ ρ) (n : noLcS S = true) (w : WOk K mg ρ H S) : WOk K mg ρ (delC cs H) S := by
  refine ⟨w.len, w.nd, fun a ha => ?_, fun i a m e1 e2 => mrep_del c (List.all_eq_true.mp n m (List.mem_of_getElem? e2)) (w.ob i a m e1 e2)⟩
  cases q : cs.lookup a with
  | some o => exact absurd ha (nr a o q)
  | none => rw [delC_out q]; exact w.tr a ha
/-- behind a call that ran with the cells tracked -/
theorem un_del (c : CsOk cs fs H h) (x : HOk P w H2 h') (ci : CsIn cs H2) (u : Un fs [] (addC cs H) H2 h h') : Un fs [] H (delC cs H2) h h' where
  keep := fun b o e n hb hx => by
    cases q : cs.lookup b with
    | some oc =>
      have e2 := c.get b oc q
      rw [e2] at e
      obtain rfl : oc = o := Option.some.inj e
      exact (x b _ (ci b _ q)).1
    | none => exact u.keep b o e (by rw [addC_out q]; exact n) hb hx
  slot := fun b o e n hb hx => by
    cases q : cs.lookup b with
    | some oc => exact absurd hb (c.nofs b oc q)
    | none => exact u.slot b o e (by rw [addC_out q]; exact n) hb hx
  free := fun b o e n hx => by
    cases q : cs.lookup b with
    | some oc => exact delC_in q
    | none => rw [delC_out q]; exact u.free b o e (by rw [addC_out q]; exact n) hx
  there := u.there
  tups := fun b xs e => by rw [delC_out (c.out e)]; exact u.tups b xs (by rw [addC_out (c.out e)]; exact e)
  frzs := fun b o v e => by rw [delC_out (c.out e)]; exact u.frzs b o v (by rw [addC_out (c.out e)]; exact e)
  tbls := fun b ps e => by rw [delC_out (c.out e)]; exact u.tbls b ps (by rw [addC_out (c.out e)]; exact e)
theorem ext_del {ρ' : List Addr} (c : CsOk cs fs H h) (x : Ext ρ (addC cs H) ρ' H2) : Ext ρ H ρ' (delC cs H2) := by
  refine ⟨x.pre, fun a ha n => ?_, fun a o n e => ?_⟩
  · have q := x.new a ha n
    cases y : cs.lookup a with
    | some o => rw [addC_in y] at q; cases q
    | none => rw [addC_out y] at q; exact q
  · have y := c.out e
    rw [delC_out y]
    exact x.keep a o n (by rw [addC_out y]; exact e)
theorem ext_in {ρ' : List Addr} (nr : ∀ b o, cs.lookup b = some o → b ∉ ρ) (c : CsIn cs H) (x : Ext ρ H ρ' H2) : CsIn cs H2 ∧ ∀ b o, cs.lookup b = some o → b ∉ ρ' := ⟨fun b o q => x.kept (nr b o q) (c b o q) (by intros; nofun), fun b o q => x.nin (nr b o q) (c b o q)⟩
/-- around a lambda's run: the cells are let go and tracked again -/
theorem del_ok (c : CsIn cs H) (hf : ∀ b o, cs.lookup b = some o → b ∉ fs) (x : HOk P w H h) : CsOk cs fs (delC cs H) h := ⟨fun b o q => (x b _ (c b o q)).1, fun b o q => delC_in q, hf⟩
theorem add_del (c : CsIn cs H) : addC cs (delC cs H) = H := by
  funext b
  cases q : cs.lookup b with
  | some o => rw [addC_in q, c b o q]
  | none => rw [addC_out q, delC_out q]
theorem CsOk.un (c : CsOk cs fs H h) (u : Un fs [] H H' h h') : CsOk cs fs H' h' := ⟨fun b o q => u.keep b o (c.get b o q) (c.non b o q) (c.nofs b o q) (by simp), fun b o q => u.free b o (c.get b o q) (c.non b o q) (by simp), c.nofs⟩
theorem un_add (c : CsOk cs fs H h) (u : Un fs [] H H' h h') : Un fs [] (addC cs H) (addC cs H') h h' := by
  have c' := c.un u
  refine ⟨fun b o e n hb hx => ?_, fun b o e n hb hx => ?_, fun b o e n hx => ?_, u.there, fun b xs e => ?_, fun b o v e => ?_, fun b ps e => ?_⟩
  · have q := (add_in (cs := cs) (H := H)).out0 n
    rw [addC_out q] at n
    exact u.keep b o e n hb hx
  · have q := (add_in (cs := cs) (H := H)).out0 n
    rw [addC_out q] at n
    exact u.slot b o e n hb hx
  · have q := (add_in (cs := cs) (H := H)).out0 n
    rw [addC_out q] at n ⊢
    exact u.free b o e n hx
  · have q := (add_in (cs := cs) (H := H)).out e (by intros; nofun)
    rw [addC_out q] at e ⊢
    exact u.tups b xs e
  · cases q : cs.lookup b with
    | some oc => rw [addC_in q] at e ⊢; exact e
    | none => rw [addC_out q] at e ⊢; exact u.frzs b o v e
  · have q := (add_in (cs := cs) (H := H)).out e (by intros; nofun)
    rw [addC_out q] at e ⊢
    exact u.tbls b ps e
end
end Z
namespace Z
open PySem PySem.Spec L2 PyProof.Rows
theorem zip_at : ∀ {N : List Str} {sl : Sl} {n : Str} {d : Option D}, (N.zip sl).lookup n = some d → ∃ i : Nat, N[i]? = some n ∧ sl[i]? = some d
  | [], _, _, _, h => by simp at h
  | m :: N, [], _, _, h => by simp at h
  | m :: N, s :: sl, n, d, h => by
    rw [List.zip_cons_cons, List.lookup_cons] at h
    cases q : n == m with
    | true =>
      rw [q] at h
      cases h
      have : n = m := by simpa using q
      subst this
      exact ⟨0, rfl, rfl⟩
    | false =>
      rw [q] at h
      obtain ⟨i, h1, h2⟩ := zip_at h
      exact ⟨i + 1, by simpa using h1, by simpa using h2⟩
theorem slotAt_at {N : List Str} {sl : Sl} {n : Str} {d : D} (h : slotAt N sl n = some d) : ∃ i : Nat, N[i]? = some n ∧ sl[i]? = some (some d) := by
  unfold slotAt at h
  obtain ⟨x, h1, h2⟩ := Option.bind_eq_some_iff.mp h
  cases h2
  exact zip_at h1
section
variable {X : Cx} {pins : List (Addr × Obj)} {σ : L2.St} {H : Hp} {s : Shared}
/-- the def's cells, known -/
theorem cells_cs (I : Inv X pins σ H s) (hfn : ∀ x, X.fn x = true) : ∀ (cn : List Str), (∀ n ∈ cn, X.env.kindOf n = some .cell) → ∃ cs : Cs, CsOk cs (frs X.stack) H s.heap ∧ (∀ b o, cs.lookup b = some o → X.base.get? b = none) ∧ ∀ n ∈ cn, ∃ c o, X.env.cells.lookup n = some c ∧ cs.lookup c = some o
  | [], _ => ⟨([] : Cs), ⟨(fun c o h => by simp at h), (fun c o h => by simp at h), (fun c o h => by simp at h)⟩, (fun c o h => by simp at h), (fun n h => by simp at h)⟩
  | n :: cn, hk => by
    obtain ⟨cs, h1, h2, h3⟩ := cells_cs I hfn cn fun m hm => hk m (List.mem_cons_of_mem _ hm)
    obtain ⟨c, hc⟩ := I.ok.has n (.inl (hk n (List.mem_cons_self ..)))
    obtain ⟨v, o, ho, hd⟩ := I.cell n c hc
    have habove := I.ok.cab n c (hfn n) hc
    have nL := I.cne n c hc
    have nfs : c ∉ frs X.stack := fun hm => by
      rcases List.mem_cons.mp (I.stkSub c hm) with e | e
      · exact nL e
      · obtain ⟨_, o', ho', _⟩ := I.ok.funs.mem e
        exact absurd (Nat.lt_of_lt_of_le (Heap.lt_size ho') habove) (Nat.lt_irrefl _)
    have nb : X.base.get? c = none := by
      cases q : X.base.get? c with
      | none => rfl
      | some o' => exact absurd (Nat.lt_of_lt_of_le (Heap.lt_size q) (Nat.le_trans I.ok.bsz habove)) (Nat.lt_irrefl _)
    have cons : ∀ {b : Addr} {u : Obj}, ((c, o) :: cs).lookup b = some u → (b = c ∧ u = o) ∨ cs.lookup b = some u := fun {b u} h => by
      rw [List.lookup_cons] at h
      cases q : b == c with
      | true => rw [q] at h; cases h; exact .inl ⟨by simpa using q, rfl⟩
      | false => rw [q] at h; exact .inr h
    refine ⟨(c, o) :: cs, ⟨fun b u h => ?_, fun b u h => ?_, fun b u h => ?_⟩, fun b u h => ?_, fun m hm => ?_⟩
    · rcases cons h with ⟨rfl, rfl⟩ | h
      · exact ho
      · exact h1.get b u h
    · rcases cons h with ⟨rfl, rfl⟩ | h
      · exact I.freeC n _ hc
      · exact h1.non b u h
    · rcases cons h with ⟨rfl, rfl⟩ | h
      · exact nfs
      · exact h1.nofs b u h
    · rcases cons h with ⟨rfl, rfl⟩ | h
      · exact nb
      · exact h2 b u h
    · rcases List.mem_cons.mp hm with rfl | hm
      · exact ⟨c, o, hc, by simp [List.lookup]⟩
      · obtain ⟨c', o', e1, e2⟩ := h3 m hm
        refine ⟨c', ?_⟩
        by_cases q : c' = c
        · subst q
          exact ⟨o, e1, by simp [List.lookup]⟩
        · have q' : (c' == c) = false := by simpa using q
          exact ⟨o', e1, by simp [List.lookup, q', e2]⟩
theorem caps_cells {ρ : List Addr} {S : Store} {sl : Sl} {cs : Cs} {cn : List Str} {clo : List (Str × Addr)} {T : LamText} (I : Inv X pins σ H s) (w : WOk X.K X.mg ρ H S) (rs : RSt X.K X.mg ρ H σ sl) (c : CsOk cs (frs X.stack) H s.heap) (hk : ∀ n ∈ cn, X.env.kindOf n = some .cell) (hcn : ∀ n ∈ cn, ∃ c o, X.env.cells.lookup n = some c ∧ cs.lookup c = some o)
    (hclo : clo = cloFrom X.env.cells T.scope.names []) : ∀ {ns : List Str} {caps : List D}, ns.Nodup → (∀ n ∈ ns, n ∈ cn ∧ T.scope.names.lookup n = some .free) → capsOf X.N sl ns = some caps → ∃ vs, CellsAt ρ (addC cs H) clo ns vs ∧ RepL X.K X.mg ρ (addC cs H) caps vs
  | [], caps, _, _, h => by cases h; exact ⟨[], rfl, RepL.nil⟩
  | n :: ns, caps, nd, hn, h => by
    rw [capsOf] at h
    split at h
    · rename_i d r ed er
      cases h
      obtain ⟨vs, h1, h2⟩ := caps_cells I w rs c hk hcn hclo (List.nodup_cons.mp nd).2 (fun m hm => hn m (List.mem_cons_of_mem _ hm)) er
      obtain ⟨hnc, hfree⟩ := hn n (List.mem_cons_self ..)
      obtain ⟨i, e1, e2⟩ := slotAt_at ed
      obtain ⟨v, ev, rv⟩ := rs.at_ i d e2
      obtain ⟨ca, o, hl, ho⟩ := hcn n hnc
      obtain ⟨m, hns, hloc⟩ := I.loc
      obtain ⟨u, ru, lk⟩ := hloc i n v e1 ev (.inr (.inl (hk n hnc)))
      have hcell : s.heap.IsCell ca (some u) := by
        rcases lk with ⟨k, _⟩ | ⟨_, c', e', z⟩
        · rw [hk n hnc] at k; cases k
        · rw [hl] at e'; cases e'; exact z
      obtain ⟨o', ho', hd'⟩ := hcell
      have hoo : o' = o := by
        have := c.get ca o ho
        rw [this] at ho'; cases ho'; rfl
      subst hoo
      have hclk : clo.lookup n = some ca := by
        have hmem := cloFrom_has (cells := X.env.cells) (acc := []) (PySem.mem_of_lookup hfree)
        rw [hl, Option.getD_some, ← hclo] at hmem
        obtain ⟨c2, hc2⟩ := mem_lookup hmem
        rw [hc2]
        rcases cloFrom_mem (by rw [← hclo]; exact PySem.mem_of_lookup hc2) with hm | ⟨_, e⟩
        · cases hm
        · rw [e, hl]; rfl
      have nr : ca ∉ ρ := w.nin (c.non ca _ ho)
      have hdist : ∀ m ∈ ns, clo.lookup m ≠ some ca := fun m hm e => by
        rcases cloFrom_mem (by rw [← hclo]; exact PySem.mem_of_lookup e) with h0 | ⟨_, e'⟩
        · cases h0
        · obtain ⟨ca', o', hl', _⟩ := hcn m (hn m (List.mem_cons_of_mem _ hm)).1
          rw [hl', Option.getD_some] at e'
          subst e'
          have := I.ok.inj m n ca hl' hl
          subst this
          exact (List.nodup_cons.mp nd).1 hm
      exact ⟨v :: vs, ⟨v, vs, ca, _, u, rfl, hclk, nr, addC_in ho, hd', ru, hdist, h1⟩, RepL.cons (rv.ext (ext_add c)) h2⟩
    · cases h
mutual
theorem conv_rep {ρ : List Addr} {S : Store} {sl : Sl} {cs : Cs} {cn : List Str} (I : Inv X pins σ H s) (w : WOk X.K X.mg ρ H S) (rs : RSt X.K X.mg ρ H σ sl) (c : CsOk cs (frs X.stack) H s.heap) (hk : ∀ n ∈ cn, X.env.kindOf n = some .cell) (hcn : ∀ n ∈ cn, ∃ c o, X.env.cells.lookup n = some c ∧ cs.lookup c = some o) :
    ∀ (d d' : D) (v : V), conv cn X.N X.env.cells sl d = some d' → Rep X.K X.mg ρ H d v → Rep X.K X.mg ρ (addC cs H) d' v
  | .lam T clo, d', v, e, r => by
    rw [conv] at e
    split at e
    · rename_i hf
      obtain ⟨caps, e1, e2⟩ := Option.map_eq_some_iff.mp e
      subst e2
      obtain ⟨vs, h1, h2⟩ := caps_cells I w rs c hk hcn hf.1 hf.2.1 hf.2.2 e1
      rw [Rep] at r
      obtain ⟨f, ev, hl⟩ := r
      rw [Rep]
      exact ⟨f, clo, vs, ev, hl.kp (ext_add c).kp, h1, h2⟩
    · cases e
  | .tpx xs, d', v, e, r => by
    rw [conv] at e
    obtain ⟨ys, e1, e2⟩ := Option.map_eq_some_iff.mp e
    subst e2
    rw [Rep] at r ⊢
    obtain ⟨a, vs, ev, t, rl⟩ := r
    exact ⟨a, vs, ev, t.kp (ext_add c).kp, convL_rep I w rs c hk hcn xs ys vs e1 rl⟩
  | .lst xs, d', v, e, r => by
    rw [conv] at e
    obtain ⟨ys, e1, e2⟩ := Option.map_eq_some_iff.mp e
    subst e2
    rw [Rep] at r ⊢
    obtain ⟨a, vs, ev, t, rl⟩ := r
    exact ⟨a, vs, ev, t.kp (ext_add c).kp, convL_rep I w rs c hk hcn xs ys vs e1 rl⟩
  | .tup xs, d', v, e, r => by
    rw [conv] at e
    obtain ⟨ys, e1, e2⟩ := Option.map_eq_some_iff.mp e
    subst e2
    rw [Rep] at r ⊢
    obtain ⟨a, vs, ev, t, rl⟩ := r
    exact ⟨a, vs, ev, t.kp (ext_add c).kp, convL_rep I w rs c hk hcn xs ys vs e1 rl⟩
  | .non, d', v, e, r => by rw [conv] at e; all_goals (first | (cases e; exact r.ext (ext_add c)) | (intros; contradiction))
  | .bl _, d', v, e, r => by rw [conv] at e; all_goals (first | (cases e; exact r.ext (ext_add c)) | (intros; contradiction))
  | .int _, d', v, e, r => by rw [conv] at e; all_goals (first | (cases e; exact r.ext (ext_add c)) | (intros; contradiction))
  | .str _, d', v, e, r => by rw [conv] at e; all_goals (first | (cases e; exact r.ext (ext_add c)) | (intros; contradiction))
  | .ty _, d', v, e, r => by rw [conv] at e; all_goals (first | (cases e; exact r.ext (ext_add c)) | (intros; contradiction))
  | .cls _, d', v, e, r => by rw [conv] at e; all_goals (first | (cases e; exact r.ext (ext_add c)) | (intros; contradiction))
  | .dct _ _, d', v, e, r => by rw [conv] at e; all_goals (first | (cases e; exact r.ext (ext_add c)) | (intros; contradiction))
  | .ins _ _ _, d', v, e, r => by rw [conv] at e; all_goals (first | (cases e; exact r.ext (ext_add c)) | (intros; contradiction))
  | .ptr _, d', v, e, r => by rw [conv] at e; all_goals (first | (cases e; exact r.ext (ext_add c)) | (intros; contradiction))
  | .scr _, d', v, e, r => by rw [conv] at e; all_goals (first | (cases e; exact r.ext (ext_add c)) | (intros; contradiction))
  | .exc _ _ _, d', v, e, r => by rw [conv] at e; all_goals (first | (cases e; exact r.ext (ext_add c)) | (intros; contradiction))
  | .lamc _ _, d', v, e, r => by rw [conv] at e; all_goals (first | (cases e; exact r.ext (ext_add c)) | (intros; contradiction))
theorem convL_rep {ρ : List Addr} {S : Store} {sl : Sl} {cs : Cs} {cn : List Str} (I : Inv X pins σ H s) (w : WOk X.K X.mg ρ H S) (rs : RSt X.K X.mg ρ H σ sl) (c : CsOk cs (frs X.stack) H s.heap) (hk : ∀ n ∈ cn, X.env.kindOf n = some .cell) (hcn : ∀ n ∈ cn, ∃ c o, X.env.cells.lookup n = some c ∧ cs.lookup c = some o) :
    ∀ (ds ds' : List D) (vs : List V), convL cn X.N X.env.cells sl ds = some ds' → RepL X.K X.mg ρ H ds vs → RepL X.K X.mg ρ (addC cs H) ds' vs
  | [], ds', vs, e, r => by rw [convL] at e; cases e; rw [RepL] at r; subst r; exact RepL.nil
  | d :: ds, ds', vs, e, r => by
    rw [convL] at e
    split at e
    · rename_i a b ea eb
      cases e
      rw [RepL] at r
      obtain ⟨v, rr, ev, h1, h2⟩ := r
      subst ev
      exact RepL.cons (conv_rep I w rs c hk hcn d a v ea h1) (convL_rep I w rs c hk hcn ds b rr eb h2)
    · cases e
end
end
section
variable {X : Cx} {W : WX} {k : Nat} {f : Addr} {g : SemL} {x : Str} {p pos : Pos} {e : Expr} {es : List Expr} {fa : AX} {cn : List Str}
theorem env0_add {pins : List (Addr × Obj)} {σ : L2.St} {H : Hp} {s : Shared} {cs : Cs} (I : Inv X pins σ H s) (c : CsOk cs (frs X.stack) H s.heap) (hb : ∀ b o, cs.lookup b = some o → X.base.get? b = none) : Env0 X.prog X.w X.K X.mg X.base X.A X.stack s (addC cs H) := by
  have e0 := I.env0
  refine ⟨e0.frames, e0.mod, fun b o q => ⟨(e0.bs b o q).1, ?_⟩, e0.bsz, e0.funs, fun b hm => ?_, hok_add c e0.hok, e0.bare⟩
  · cases y : cs.lookup b with
    | some u => have := hb b u y; rw [this] at q; cases q
    | none => rw [addC_out y]; exact (e0.bs b o q).2
  · cases y : cs.lookup b with
    | some u => exact absurd hm (c.nofs b u y)
    | none => rw [addC_out y]; exact e0.frf b hm
theorem r_callL (F : FZ X.prog X.w X.K X.mg X.base k f g) (hr : Room k X.A) (hm : X.mg x = some (.ref f)) (hk : PySem.W.keepIn X.K (.ref f) = true) (hfn : ∀ x, X.fn x = true) (hcn : ∀ n ∈ cn, X.env.kindOf n = some .cell)
    (ha : EA X W (e :: es) fa) (hg : Gl X x := by rfl) (hdb : (x == ("__debug__" : Str)) = false := by decide) (he : starEach (e :: es) X.env = (false, eval e X.env) :: starEach es X.env := by rfl) (hpl : (backTo pos (starEach es X.env)).any (·.1) = false := by rfl) :
    E X W (.Call (.Name x p) (e :: es) [] pos) (callL cn X.N X.env.cells g fa) := by
  refine ⟨fun pins s σ H Q I h => ?_⟩
  refine wpAny_Call_Name_kw (ld_glob I hg hm ?_ hdb)
  obtain ⟨ρ, S, sl, w, rs, p⟩ := h
  refine PySem.W.callWith_K (h₀ := X.base) I.ok.mod.kin hk (thn (ha.run pos pins s σ H (fun vs H1 => ∃ ρ1 S1 ds, Ext ρ H ρ1 H1 ∧ WOk X.K X.mg ρ1 H1 S1 ∧ RepL X.K X.mg ρ1 H1 ds vs ∧ PostE X.K X.mg (WE W σ) ρ1 H1 Q (match convL cn X.N X.env.cells sl ds with
    | some ds' => (match g ds' S1 with
      | .ok d S2 => if noLc d = true ∧ noLcS S2 = true then .ok d S2 else .bad
      | _ => .bad)
    | none => .bad)) I ⟨ρ, S, sl, w, rs, PostA.mono (PostA.bindE p) fun vs H1 ⟨ρ1, S1, ds, x1, w1, r1, _, p1⟩ => ⟨ρ1, S1, ds, x1, w1, r1, p1⟩⟩) fun us s1 ⟨vs, H1, I1, r, ρ1, S1, ds, x1, w1, rl, q⟩ => ⟨I1.kIn, ?_⟩) he hpl
  have rs1 := rs.ext x1
  obtain ⟨cs, c, hcb, hcn'⟩ := cells_cs I1 hfn cn hcn
  cases ec : convL cn X.N X.env.cells sl ds with
  | none => rw [ec] at q; exact q.elim
  | some ds' =>
    rw [ec] at q
    dsimp only at q
    cases eg : g ds' S1 with
    | bad => rw [eg] at q; exact q.elim
    | ex _ _ => rw [eg] at q; exact q.elim
    | ok d S2 =>
      rw [eg] at q
      dsimp only at q
      by_cases hn : noLc d = true ∧ noLcS S2 = true
      · rw [if_pos hn] at q
        have rl' := convL_rep I1 w1 rs1 c hcn hcn' ds ds' vs ec rl
        have nr : ∀ b o, cs.lookup b = some o → b ∉ ρ1 := fun b o y => w1.nin (c.non b o y)
        have hsp : spZ X.K X.mg g vs (addC cs H1) (fun v H2 => ∃ ρ2, Ext ρ1 (addC cs H1) ρ2 H2 ∧ WOk X.K X.mg ρ2 H2 S2 ∧ Rep X.K X.mg ρ2 H2 d v) (fun _ _ _ => False) := by
          refine ⟨ρ1, S1, ds', wok_add c w1, rl', ?_⟩
          rw [eg]
          exact fun v ρ2 H2 x2 w2 r2 => ⟨ρ2, x2, w2, r2⟩
        refine wpAny_call (codeAny_mono (F X.A X.stack s1 (addC cs H1) us vs _ (fun _ _ _ => False) hr (env0_add I1 c hcb) r hsp) fun r s' hq => ?_)
        cases r with
        | error er => exact (cx_false hq).elim
        | ok fl =>
          cases fl with
          | ret u =>
            obtain ⟨v, H2, os2, bare2, un2, hok2, rv, ρ2, x2, w2, r2⟩ := hq
            obtain ⟨ci, nr2⟩ := ext_in nr add_in x2
            refine I1.after ⟨v, delC cs H2, os2, bare2, un_del c hok2 ci un2, hok_del ci hok2, rv, ?_⟩
            exact q v ρ2 (delC cs H2) (ext_del c x2) (wok_del ci nr2 hn.2 w2) (rep_del ci hn.1 r2)
          | next => exact False.elim hq
          | brk => exact False.elim hq
          | cont => exact False.elim hq
      · rw [if_neg hn] at q; exact q.elim
end
end Z
namespace Z
open PySem PySem.Spec L2 PyProof.Rows
/-- x() of a lambda -/
def callLc (L : LamText → Option SemL) (i : Nat) : EX := fun sl S => match sl[i]? with
  | some (some (.lamc T caps)) => (match L T with
    | some l => if noLcS S = true ∧ noLcL caps = true then l caps S else .bad
    | none => .bad)
  | _ => .bad
section
variable {H : Hp} {h : Heap} {ρ : List Addr} {clo : List (Str × Addr)}
/-- the known cells, as a list -/
theorem cells_list {P : Program} {w : World} (x : HOk P w H h) : ∀ {ns : List Str} {vs : List V}, CellsAt ρ H clo ns vs → ∃ cs : Cs, CsIn cs H ∧ (∀ b o, cs.lookup b = some o → b ∉ ρ) ∧ (∀ b o, cs.lookup b = some o → ∀ vs, o.data ≠ .fields vs) ∧ ∀ n ∈ ns, ∃ c o, clo.lookup n = some c ∧ cs.lookup c = some o
  | [], _, _ => ⟨([] : Cs), (fun c o q => by simp at q), (fun c o q => by simp at q), (fun c o q => by simp at q), (fun n q => by simp at q)⟩
  | n :: ns, _, ⟨v, r, c, o, u, e, h1, n1, h2, h3, h4, hd, h5⟩ => by
    obtain ⟨cs, a1, a2, a4, a3⟩ := cells_list x h5
    have cons : ∀ {b : Addr} {y : Obj}, ((c, o) :: cs).lookup b = some y → (b = c ∧ y = o) ∨ cs.lookup b = some y := fun {b y} q => by
      rw [List.lookup_cons] at q
      cases z : b == c with
      | true => rw [z] at q; cases q; exact .inl ⟨by simpa using z, rfl⟩
      | false => rw [z] at q; exact .inr q
    refine ⟨(c, o) :: cs, fun b y q => ?_, fun b y q => ?_, fun b y q vs e => ?_, fun m hm => ?_⟩
    · rcases cons q with ⟨rfl, rfl⟩ | q
      · exact h2
      · exact a1 b y q
    · rcases cons q with ⟨rfl, rfl⟩ | q
      · exact n1
      · exact a2 b y q
    · rcases cons q with ⟨rfl, rfl⟩ | q
      · rw [h3] at e; cases e
      · exact a4 b y q vs e
    · rcases List.mem_cons.mp hm with rfl | hm
      · exact ⟨c, o, h1, by simp [List.lookup]⟩
      · obtain ⟨c2, o2, e1, e2⟩ := a3 m hm
        refine ⟨c2, ?_⟩
        by_cases z : c2 = c
        · subst z; exact ⟨o, e1, by simp [List.lookup]⟩
        · have z' : (c2 == c) = false := by simpa using z
          exact ⟨o2, e1, by simp [List.lookup, z', e2]⟩
theorem cells_h {P : Program} {w : World} {cs : Cs} (x : HOk P w H h) (ci : CsIn cs H) : ∀ {ns : List Str} {vs : List V}, (∀ n ∈ ns, ∃ c o, clo.lookup n = some c ∧ cs.lookup c = some o) → CellsAt ρ H clo ns vs → CellsH (delC cs H) h clo ns vs
  | [], _, _, hc => hc
  | n :: ns, _, hcs, ⟨v, r, c, o, u, e, h1, n1, h2, h3, h4, hd, h5⟩ => by
    obtain ⟨c2, o2, e1, e2⟩ := hcs n (List.mem_cons_self ..)
    rw [h1] at e1; cases e1
    exact ⟨v, r, c, o, u, e, h1, delC_in e2, (x c _ h2).1, h3, h4, hd, cells_h x ci (fun m hm => hcs m (List.mem_cons_of_mem _ hm)) h5⟩
end
section
variable {P : Program} {w : World} {cs : Cs} {fs ρ ρ' : List Addr} {H H' : Hp} {h h' B : Heap}
theorem ub_add (c : CsOk cs fs H h) (u : UB fs H H' h B h') : UB fs (addC cs H) (addC cs H') h B h' := by
  refine ⟨fun b o e n hb => ?_, fun b o e hb => u.slot b o e hb, fun b o e n => ?_, u.there, fun b xs e => ?_, fun b o v e => ?_, fun b ps e => ?_⟩
  · have q := (add_in (cs := cs) (H := H)).out0 n
    rw [addC_out q] at n
    exact u.keep b o e n hb
  · have q := (add_in (cs := cs) (H := H)).out0 n
    rw [addC_out q] at n ⊢
    exact u.free b o e n
  · have q := (add_in (cs := cs) (H := H)).out e (by intros; nofun)
    rw [addC_out q] at e ⊢
    exact u.tups b xs e
  · cases q : cs.lookup b with
    | some oc => rw [addC_in q] at e ⊢; exact e
    | none => rw [addC_out q] at e ⊢; exact u.frzs b o v e
  · have q := (add_in (cs := cs) (H := H)).out e (by intros; nofun)
    rw [addC_out q] at e ⊢
    exact u.tbls b ps e
/-- behind a lambda's run, seen with the cells -/
theorem ext_readd (ci : CsIn cs H) (nr : ∀ b o, cs.lookup b = some o → b ∉ ρ) (hn : ∀ b o, cs.lookup b = some o → b ∉ ρ') (x : Ext ρ (delC cs H) ρ' H') : Ext ρ H ρ' (addC cs H') := by
  refine ⟨x.pre, fun a ha n => ?_, fun a o n e => ?_⟩
  · have q := x.new a ha n
    cases y : cs.lookup a with
    | some o => exact absurd ha (hn a o y)
    | none => rw [delC_out y] at q; exact q
  · cases y : cs.lookup a with
    | some oc => rw [ci a oc y] at e; cases e; exact .inl (addC_in y)
    | none => rw [addC_out y]; exact x.keep a o n (by rw [delC_out y]; exact e)
end
section
variable {X : Cx} {W : WX} {k i : Nat} {a : Str} {p1 p2 : Pos} {L : LamText → Option SemL}
theorem r_lamc (tk : Takes X W) (hL : ∀ T l, L T = some l → LamOk X.prog X.w X.K X.mg X.base k T l) (hr : Room k X.A) (hN : X.N[i]? = some a) (hv : Vis X.env.scope a) (hd : (a == ("__debug__" : Str)) = false := by decide) (hcd : (a == ("__classdict__" : Str)) = false := by decide) :
    E X W (.Call (.Name a p1) [] [] p2) (callLc L i) := by
  refine ⟨fun pins s σ H Q I h => ?_⟩
  obtain ⟨ρ, S, sl, w, rs, p⟩ := h
  unfold callLc at p
  split at p
  · rename_i T caps esl
    split at p
    · rename_i l el
      split at p
      · rename_i hn
        obtain ⟨v, ev, rv⟩ := rs.at_ i _ esl
        rw [Rep] at rv
        obtain ⟨f, clo, vs, e, ⟨nf, hκ, pm, doc, dV, ctv, c', hfo, nc', hco, hdf⟩, hcl, rl⟩ := rv
        subst e
        refine wpAny_Call_Name_kw (thn ((pe_var (pos := p1) (i := i) hN hv hd hcd).run pins s σ H (fun v H1 => v = .ref f ∧ H1 = H) I ⟨.ref f, ev, rfl, rfl⟩) fun u s1 ⟨v, H1, I1, r1, q1⟩ => ?_)
        obtain ⟨ev', eH⟩ := q1
        subst ev'
        subst eH
        obtain rfl : u = Value.ref f := r1
        have of1 : s1.heap.get? f = some (PySem.W.kdv_obj "<lambda>" T.qual T.params (.expr T.body) T.scope clo dV doc pm c' ctv) := (I1.hok f _ hfo).1
        obtain ⟨cs, ci, nr, ndf, hcs⟩ := cells_list I1.hok hcl
        have nofs : ∀ b o, cs.lookup b = some o → b ∉ frs X.stack := fun b o y hm => by
          have := I1.stkFree b hm
          rw [ci b o y] at this; cases this
        have cok := del_ok ci nofs I1.hok
        have e0 : Env0 X.prog X.w X.K X.mg X.base X.A X.stack s1 (delC cs H1) := by
          have z := I1.env0
          refine ⟨z.frames, z.mod, fun b o q => ⟨(z.bs b o q).1, ?_⟩, z.bsz, z.funs, fun b hm => ?_, hok_del ci z.hok, z.bare⟩
          · cases y : cs.lookup b with
            | some u => exact delC_in y
            | none => rw [delC_out y]; exact (z.bs b o q).2
          · cases y : cs.lookup b with
            | some u => exact delC_in y
            | none => rw [delC_out y]; exact z.frf b hm
        have hcode : ∃ (oc : Obj) (ws : Array Value) (t : Tok), s1.heap.get? c' = some oc ∧ oc.data = .fields ws ∧ ws[1]? = some (.str T.qual t) := (I1.hok c' _ hco).1
        have hdf' : DfH s1.heap T.dvs dV := by
          rcases hdf with ⟨h1, h2⟩ | ⟨h1, t, h2, _, h3⟩
          · exact .inl ⟨h1, h2⟩
          · obtain ⟨_, us, ru, ht⟩ : ObjOk X.prog X.w H1 s1.heap t (.tup T.dvs) := I1.hok t _ h3
            exact .inr ⟨h1, t, us, h2, ru, ht⟩
        refine PySem.W.callWith_F0 ⟨_, _, _, _, of1⟩ ?_
        have back : ∀ {ρ2 : List Addr} {S2 : Store} {H2 : Hp}, (∀ b o, cs.lookup b = some o → H2 b = none) → Ext ρ (delC cs H1) ρ2 H2 → WOk X.K X.mg ρ2 H2 S2 → Ext ρ H1 ρ2 (addC cs H2) ∧ Ext ρ2 H2 ρ2 (addC cs H2) ∧ WOk X.K X.mg ρ2 (addC cs H2) S2 := fun {ρ2 S2 H2} hno x2 w2 => by
          have cO : ∀ {h3 : Heap}, (∀ c o, cs.lookup c = some o → h3.get? c = some o) → CsOk cs [] H2 h3 := fun {h3} hg => ⟨hg, hno, fun c o _ => by simp⟩
          have c3 : CsOk cs [] H2 s1.heap := cO cok.get
          exact ⟨ext_readd ci nr (fun b o y => w2.nin (hno b o y)) x2, ext_add c3, wok_add c3 w2⟩
        have hrun := hL T l el X.A X.stack s1 (delC cs H1) f c' clo pm doc dV ctv ρ S caps vs
          (fun v H2 => ∃ ρ2 S2 d, l caps S = .ok d S2 ∧ Ext ρ (delC cs H1) ρ2 H2 ∧ WOk X.K X.mg ρ2 H2 S2 ∧ Rep X.K X.mg ρ2 H2 d v)
          (fun C dd H2 => ∃ ρ2 S2 d, l caps S = .ex d S2 ∧ Ext ρ (delC cs H1) ρ2 H2 ∧ WOk X.K X.mg ρ2 H2 S2 ∧ ExRep X.K X.mg ρ2 H2 d C dd) hr e0 of1 hcode hdf' (cells_h I1.hok ci hcs hcl) hκ (wok_del ci nr hn.1 w) (repL_del ci hn.2 rl) (by
            cases o : l caps S with
            | ok d S2 => exact fun v ρ2 H2 x2 w2 r2 => ⟨ρ2, S2, d, rfl, x2, w2, r2⟩
            | ex d S2 => exact fun C dd ρ2 H2 x2 w2 r2 => ⟨ρ2, S2, d, rfl, x2, w2, r2⟩
            | bad => rw [o] at p; exact p.elim)
        refine wpAny_call (codeAny_mono hrun fun r s' hq => ?_)
        cases r with
        | ok fl =>
          cases fl with
          | ret u =>
            obtain ⟨v, H2, os2, bare2, un2, hok2, rv2, ρ2, S2, d, eo, x2, w2, r2⟩ := hq
            have c2 := cok.un un2
            obtain ⟨b1, b2, b3⟩ := back c2.non x2 w2
            rw [eo] at p
            have un3 : Un (frs X.stack) [] H1 (addC cs H2) s1.heap s'.heap := by
              have z := un_add cok un2
              rw [add_del ci] at z
              exact z
            exact I1.after ⟨v, addC cs H2, os2, bare2, un3, hok_add c2 hok2, rv2, p v ρ2 _ b1 b3 (r2.ext b2)⟩
          | next => exact False.elim hq
          | brk => exact False.elim hq
          | cont => exact False.elim hq
        | error er =>
          obtain ⟨ea, B, H2, cls, dd, rfl, fly, hokB, ub, na, os2, bare2, ρ2, S2, d, eo, x2, w2, r2⟩ := hq
          have hno : ∀ b o, cs.lookup b = some o → H2 b = none := fun b o y => ub.free b o (cok.get b o y) (cok.non b o y)
          have gB : ∀ b o, cs.lookup b = some o → B.get? b = some o := fun b o y => ub.keep b o (cok.get b o y) (cok.non b o y) (nofs b o y)
          obtain ⟨b1, b2, b3⟩ := back hno x2 w2
          rw [eo] at p
          have ub3 : UB (frs X.stack) H1 (addC cs H2) s1.heap B s'.heap := by
            have z := ub_add cok ub
            rw [add_del ci] at z
            exact z
          have nea : cs.lookup ea = none := by
            cases y : cs.lookup ea with
            | none => rfl
            | some o =>
              have := gB ea o y
              rw [fly.2.1] at this; cases this
          have cB : CsOk cs [] H2 B := ⟨gB, hno, fun c o _ => by simp⟩
          refine passAt tk σ pins H1 s1 _ s' I1 ⟨ea, B, addC cs H2, cls, dd, rfl, flyingk fly fun b o vs e1 e2 e3 => ⟨e1, by
            cases y : cs.lookup b with
            | none => rw [addC_out y]; exact e2
            | some oc =>
              have := gB b oc y
              rw [e1] at this
              cases this
              exact absurd e3 (ndf b o y vs)⟩, hok_add cB hokB, ub3, by rw [addC_out nea]; exact na, os2, bare2, ?_⟩
          refine p cls dd ρ2 _ b1 b3 ?_
          obtain ⟨c0, ns0, ds0, Ca, da, fs0, e1, e2, e3, e4, e5, e6, e7, e8⟩ := r2
          have hda : cs.lookup da = none := by
            cases y : cs.lookup da with
            | none => rfl
            | some o => rw [hno da o y] at e6; cases e6
          exact ⟨c0, ns0, ds0, Ca, da, fs0, e1, e2, e3, e4, e5, by rw [addC_out hda]; exact e6, e7, e8.ext b2⟩
      · exact p.elim
    · exact p.elim
  · exact p.elim
end
end Z
namespace Z
open PySem PySem.Spec L2 PyProof.Rows
/-- a lambda's text: its captured names, its parameters' names -/
structure LamWf (T : LamText) (locs : List Str) : Prop where
  kind : T.scope.kind = .function
  co : T.scope.isCoroutine = false
  gen : T.scope.isGenerator = false
  nocell : ∀ y ∈ T.scope.names, y.2 ≠ .cell
  free : ∀ n ∈ T.names, T.scope.names.lookup n = some .free
  all : ∀ y ∈ T.scope.names, y.2 = .free → y.1 ∈ T.names
  loc : ∀ n ∈ locs, T.scope.names.lookup n = some .local
  nd : (T.names ++ locs).Nodup
  len : locs.length = T.dvs.length
  bind : ∀ (s : Shared) (clo : List (Str × Addr)) (pm doc cdv ctv dV : Value), DfH s.heap T.dvs dV → ∃ us, Vals T.dvs us ∧ BindsTo s (PySem.W.kdv_fn "<lambda>" T.qual T.params (.expr T.body) T.scope clo dV doc pm cdv ctv) ⟨[], []⟩ (locs.zip us)
abbrev lamE (T : LamText) (L f c' : Addr) (clo : List (Str × Addr)) : Env := PySem.W.envX T.qual T.scope L f (.ref c') clo
/-- the context of the lambda's body -/
def cxL (P : Program) (w : World) (K : PySem.W.Frag) (mg : Str → Option Value) (base : Heap) (T : LamText) (locs : List Str) (A : Around) (outer : List Env) (s : Shared) (H : Hp) (E : XK) (f c' : Addr) (clo : List (Str × Addr)) : Cx where
  prog := P
  w := w
  K := K
  mg := mg
  base := base
  A := A.deeper (lamE T s.heap.objs.size f c' clo)
  N := T.names ++ locs
  s_0 := s
  H_0 := H
  env := lamE T s.heap.objs.size f c' clo
  outer := outer
  stack := lamE T s.heap.objs.size f c' clo :: outer
  ex := []
  fn := fun _ => false
  calm := true
  pn := []
  xe := fun e s' => wpAny (model P w) (A.deeper (lamE T s.heap.objs.size f c' clo)) (leaving (lamE T s.heap.objs.size f c' clo) e) (fun _ s'' => Z.CX P w outer H s E e s'') (fun e' s'' => Z.CX P w outer H s E e' s'') s'
theorem cellsH_at {H : Hp} {h : Heap} {clo : List (Str × Addr)} : ∀ {ns : List Str} {vs : List V}, CellsH H h clo ns vs → ns.length = vs.length ∧ (∀ (i : Nat) n v, ns[i]? = some n → vs[i]? = some v → ∃ c o u, clo.lookup n = some c ∧ H c = none ∧ h.get? c = some o ∧ o.data = .cell (some u) ∧ RelV v u) ∧ (∀ n ∈ ns, ∃ c o u, clo.lookup n = some c ∧ H c = none ∧ h.get? c = some o ∧ o.data = .cell (some u)) ∧ ∀ x ∈ ns, ∀ y ∈ ns, ∀ c, clo.lookup x = some c → clo.lookup y = some c → x = y
  | [], vs, e => by
    have e : vs = [] := e
    subst e
    exact ⟨rfl, fun i n v q => by simp at q, fun n q => by simp at q, fun x q => by simp at q⟩
  | n :: ns, _, ⟨v, r, c, o, u, e, h1, h2, h3, h4, h5, hd, hc⟩ => by
    subst e
    obtain ⟨a1, a2, a3, a4⟩ := cellsH_at hc
    refine ⟨by simp [a1], fun i m y q1 q2 => ?_, fun m hm => ?_, fun x hx y hy c2 e1 e2 => ?_⟩
    · cases i with
      | zero => simp at q1 q2; subst q1 q2; exact ⟨c, o, u, h1, h2, h3, h4, h5⟩
      | succ i => exact a2 i m y (by simpa using q1) (by simpa using q2)
    · rcases List.mem_cons.mp hm with rfl | hm
      · exact ⟨c, o, u, h1, h2, h3, h4⟩
      · exact a3 m hm
    · rcases List.mem_cons.mp hx with zx | hx2
      · subst zx
        rcases List.mem_cons.mp hy with zy | hy2
        · exact zy.symm
        · rw [h1] at e1; cases e1
          exact absurd e2 (hd y hy2)
      · rcases List.mem_cons.mp hy with zy | hy2
        · subst zy
          rw [h1] at e2; cases e2
          exact absurd e1 (hd x hx2)
        · exact a4 x hx2 y hy2 c2 e1 e2
section
variable {P : Program} {w : World} {K : PySem.W.Frag} {mg : Str → Option Value} {base : Heap} {T : LamText} {locs : List Str} {k : Nat} {fl : EX}
theorem lam_inv {A : Around} {outer : List Env} {s : Shared} {H : Hp} {E : XK} {f c' : Addr} {clo : List (Str × Addr)} {vs : List V} {us : List Value} {h₁ : Heap} {tk : Nat} (L : LamWf T locs) (e0 : Env0 P w K mg base A outer s H) (hd : A.handled = none) (hc : CellsH H s.heap clo T.names vs) (hκ : ∃ κ, clo = cloFrom κ T.scope.names []) (ru : Vals T.dvs us)
    (hns : h₁.Ns s.heap.objs.size fun y => (locs.zip us).reverse.lookup y) (kp : ∀ b o, s.heap.get? b = some o → h₁.get? b = some o) : Inv (cxL P w K mg base T locs A outer s H E f c' clo) [] ((vs ++ T.dvs).map some) H { s with heap := h₁, toks := tk } := by
  obtain ⟨hl, hat, hall, hinj⟩ := cellsH_at hc
  have inN : ∀ {x : Str} {c : Addr}, clo.lookup x = some c → x ∈ T.names := fun {x c} e => by
    obtain ⟨κ, eκ⟩ := hκ
    rcases cloFrom_mem (by rw [← eκ]; exact PySem.mem_of_lookup e) with hm | ⟨hm, _⟩
    · cases hm
    · exact L.all _ hm rfl
  have noA : ∀ b : Addr, b ∉ (cxL P w K mg base T locs A outer s H E f c' clo).ex := fun b z => absurd (show b ∈ ([] : List Addr) from z) (by simp)
  refine ⟨⟨e0.mod, L.kind, rfl, rfl, Nat.le_refl _, fun y z c e1 e2 => hinj y (inN e1) z (inN e2) c e1 e2, fun y hy => ?_, fun y c z _ => ?_, fun _ => hd, Around.frames_deeper e0.frames, .inr ⟨rfl, rfl⟩, fun b z => absurd z (noA b), e0.bs, e0.bsz, fun b _ _ => noA b,
      fun b z => absurd z (noA b), e0.funs, e0.frf⟩,
    rfl, e0.bare, Un.kept kp, ⟨_, hns, fun i y v e1 e2 e3 => ?_⟩, fun y c e => ?_, e0.hok.fresh (Nat.le_refl _), fun y c e => ?_, fun q hq => absurd (show q ∈ ([] : List (Addr × Obj)) ++ [] from hq) (by simp), e0.hok.kept kp, ?_⟩
  · have hy : T.scope.names.lookup y = some .cell ∨ T.scope.names.lookup y = some .free := hy
    rcases hy with hy | hy
    · exact absurd rfl (L.nocell _ (PySem.mem_of_lookup hy))
    · obtain ⟨c, o, u, q, _⟩ := hall y (L.all _ (PySem.mem_of_lookup hy) rfl)
      exact ⟨c, q⟩
  · exact absurd (show false = true from z) (by simp)
  · have e1 : (T.names ++ locs)[i]? = some y := e1
    have e2 : ((vs ++ T.dvs).map some)[i]? = some (some v) := e2
    rw [List.getElem?_map] at e2
    obtain ⟨v', e2, e4⟩ := Option.map_eq_some_iff.mp e2
    cases e4
    by_cases hi : i < T.names.length
    · rw [List.getElem?_append_left hi] at e1
      rw [List.getElem?_append_left (by rw [← hl]; exact hi)] at e2
      obtain ⟨c, o, u, q1, q2, q3, q4, q5⟩ := hat i y v e1 e2
      exact ⟨u, q5, .inr ⟨.inr (L.free y (List.mem_of_getElem? e1)), c, q1, o, kp _ _ q3, q4⟩⟩
    · rw [List.getElem?_append_right (by omega)] at e1
      rw [List.getElem?_append_right (by rw [← hl]; omega)] at e2
      rw [← hl] at e2
      have hm := List.mem_of_getElem? e1
      have nd : locs.Nodup := (List.nodup_append.mp L.nd).2.1
      obtain ⟨u, hu, ru'⟩ := ru.get e2
      refine ⟨u, ru', .inl ⟨L.loc y hm, ?_⟩⟩
      show (locs.zip us).reverse.lookup y = some u
      rw [ZX.lookup_rev nd]
      obtain ⟨u2, v2, z1, z2, z3⟩ := ZX.zip_lookup nd ru (by rw [← ru.length, L.len]) hm
      have hidx : ∀ {locs : List Str} {us : List Value} {j : Nat}, locs.Nodup → locs[j]? = some y → us[j]? = some u → (locs.zip us).lookup y = some u := by
        intro locs
        induction locs with
        | nil => intro us j _ q; simp at q
        | cons n locs ih =>
          intro us j nd q1 q2
          cases us with
          | nil => simp at q2
          | cons u0 us =>
            cases j with
            | zero => simp at q1 q2; subst q1 q2; simp [List.lookup]
            | succ j =>
              have q1 : locs[j]? = some y := by simpa using q1
              have ne : (y == n) = false := by
                simp only [beq_eq_false_iff_ne, ne_eq]
                rintro rfl
                exact (List.nodup_cons.mp nd).1 (List.mem_of_getElem? q1)
              rw [List.zip_cons_cons, List.lookup_cons, ne]
              exact ih (List.nodup_cons.mp nd).2 q1 (by simpa using q2)
      exact hidx nd e1 hu
  · obtain ⟨c2, o, u, q1, q2, q3, q4⟩ := hall y (inN e)
    have e : clo.lookup y = some c := e
    rw [e] at q1; cases q1
    exact ⟨some u, o, kp _ _ q3, q4⟩
  · obtain ⟨c2, o, u, q1, q2, q3, q4⟩ := hall y (inN e)
    have e : clo.lookup y = some c := e
    rw [e] at q1; cases q1
    exact q2
  · show ((vs ++ T.dvs).map some).length = (T.names ++ locs).length
    simp [hl, L.len]
/-- the lambda's reading: its captured values, then its parameters' -/
noncomputable def lamF (dds : List D) (fl : EX) : SemL := fun caps S => fin S (fl ((caps ++ dds).map some) S)
theorem lam_ok {dds : List D} (L : LamWf T locs) (hdd : ∀ ρ H, RepL K mg ρ H dds T.dvs)
    (hb : ∀ (A : Around) (outer : List Env) (s : Shared) (H : Hp) (E : XK) (f c' : Addr) (clo : List (Str × Addr)), Room k (A.deeper (lamE T s.heap.objs.size f c' clo)) → Z.E (cxL P w K mg base T locs A outer s H E f c' clo) (fun c d _ H' => E c d H') T.body fl) :
    LamOk P w K mg base (k + 1) T (lamF dds fl) := by
  intro A outer s H f c' clo pm doc dV ctv ρ S caps vs Q E hr e0 hf hcd hdf hc hκ w0 rl p
  obtain ⟨oc, ws, t, hoc, hdc, hvc⟩ := hcd
  obtain ⟨us, ru, hbd⟩ := L.bind s clo pm doc (.ref c') ctv dV hdf
  have lim : s.heap.NoLimit := e0.mod.nolimit.keeps fun b o e => (e0.bs b o e).1
  refine PySem.W.kla_callFunE hr.depth hf rfl L.co L.gen rfl ⟨c', oc, ws, t, rfl, hoc, hdc, hvc⟩ (hbd _ _ _ _ ?_)
  refine wpAny_newFunctionEnv L.nocell (fun y hy => L.loc y.1 (List.of_mem_zip hy).1) (fun h₁ hns hsb => ⟨lim.fresh _ hsb, ?_⟩) L.kind
  show codeAny _ _ (.expr T.body (lamE T s.heap.objs.size f c' clo)) _ _
  have kp : ∀ b o, s.heap.get? b = some o → h₁.get? b = some o := fun b o e => hsb.extBut b o (Nat.ne_of_lt (Heap.lt_size e)) (Heap.get?_push_of_some _ e)
  have J := lam_inv (E := E) (f := f) (c' := c') (tk := s.toks + (locs.zip us).length) L e0 hr.hd hc hκ ru hns kp
  have p := fin_imp w0 p
  refine PySem.W.kla_codeExpr (wpAny_mono ((hb A outer s H E f c' clo (hr.deeper _)).run [] _ _ H Q J ⟨ρ, S, (caps ++ dds).map some, w0, ⟨?_, fun i d e => ?_⟩, p⟩) (fun v s' hq => ?_) fun e s' hq => hq)
  · simp [rl.len, (hdd ρ H).len]
  · rw [List.getElem?_map] at e
    obtain ⟨d', e1, e2⟩ := Option.map_eq_some_iff.mp e
    cases e2
    obtain ⟨v, h1, h2⟩ := (rl.append (hdd ρ H)).get e1
    exact ⟨v, by rw [List.getElem?_map, h1]; rfl, h2⟩
  · obtain ⟨w', H', J', rv, q⟩ := hq
    exact ⟨w', H', J'.os, J'.bare, J'.base, J'.hok, rv, q⟩
end
end Z
namespace Z
open PySem PySem.Spec L2 PyProof.Rows
section
variable {X : Cx} {pins : List (Addr × Obj)} {σ : L2.St} {H : Hp} {s : Shared}
/-- the function's object is made: its code object is new, or found in the table -/
theorem lam_tail {ρ : List Addr} {S : Store} {ti : Nat} {c P : Addr} {q : Str} {params : Arguments} {body : Expr} {scope : Scope} {pos : Pos} {ln : Nat} {dV : Value} {E : Value → Shared → Prop} {Q : Value → Shared → Prop} (I : Inv X pins σ H s) (TB : LamX.TabB X.base X.mg c P) (hcode : X.env.code = .ref c)
    (w : WOk X.K X.mg ρ H S) (hS : S[ti]? = some (.tab P q)) (hfree : ∀ y ∈ scope.names, y.2 = .free → ∃ c, X.env.cells.lookup y.1 = some c)
    (h : ∀ (f c' : Addr) (pm doc ctv : Value) (H1 : Hp) (s' : Shared), Inv X pins σ (upd H1 f (XO f (PySem.W.kdv_obj "<lambda>" q params (.expr body) scope (cloFrom X.env.cells scope.names []) dV doc pm c' ctv))) s' → H1 f = none → Ext ρ H ρ H1 → WOk X.K X.mg ρ H1 S → c' ∉ ρ → H1 c' = some (LamX.CodeO c' q) → Q (.ref f) s') :
    wpAny (model X.prog X.w) X.A (makeTail "<lambda>" q params (.expr body) scope X.env dV .none none pos ln) Q E s := by
  obtain ⟨a, hρ⟩ : ∃ a, ρ[ti]? = some a := by
    have hl := (List.getElem?_eq_some_iff.mp hS).1
    rw [← w.len] at hl
    exact ⟨ρ[ti], List.getElem?_eq_getElem hl⟩
  obtain ⟨hP0, ps, hP, ht, ha⟩ := w.ob ti a _ hρ hS
  subst hP0
  have hPρ : a ∈ ρ := List.mem_of_getElem? hρ
  have bP : s.heap.BuiltinsAt X.mg a := TB.bm.keeps I.bk
  have hP' : s.heap.get? a = some { cls := .none, data := .fields ps } := I.hok a _ hP
  cases hc : codeAmong pos ps.toList with
  | none =>
    refine PySem.W.kdv_makeTail (mg := X.mg) (c := c) (P := a) (ps := ps) (closure_ok hfree) I.ok.glob (I.mod.glob.keeps I.bk) hcode (TB.code.keeps I.bk) hP' ht hc TB.gP bP fun c' ctv doc h' tk hx hge hlt hrec htb => ?_
    obtain ⟨c2, oc, vs, t, e2, hoc, hd, hv⟩ := hrec
    cases e2
    have nC : H c' = none := I.hok.fresh hge
    have I1 := LamX.inv_table (t' := tk) (more := #[rawInt pos.line, rawInt pos.col, .ref c']) (h' := h') (q := q) I hP (fun b o hb e => hx b o hb e) htb hge ⟨oc, vs, t, hoc, hd, hv⟩
    have nPc : a ≠ c' := ne_of_none hP nC
    have hE : Ext ρ H ρ (upd (upd H a (.tbl (ps ++ #[rawInt pos.line, rawInt pos.col, .ref c']))) c' (LamX.CodeO c' q)) := ⟨⟨[], by simp⟩, fun b x n => absurd x n, fun b o n e => .inl (by
      have nb : b ≠ a := fun z => n (by rw [z]; exact hPρ)
      rw [upd_ne (ne_of_none e nC), upd_ne nb]; exact e)⟩
    have eL : (ps ++ #[rawInt pos.line, rawInt pos.col, .ref c']).toList = ps.toList ++ [rawInt pos.line, rawInt pos.col, .ref c'] := by simp
    have ncρ : c' ∉ ρ := w.nin nC
    have w1 : WOk X.K X.mg ρ (upd (upd H a (.tbl (ps ++ #[rawInt pos.line, rawInt pos.col, .ref c']))) c' (LamX.CodeO c' q)) S := by
      have at_ : ∀ b ∈ ρ, b ≠ a → upd (upd H a (.tbl (ps ++ #[rawInt pos.line, rawInt pos.col, .ref c']))) c' (LamX.CodeO c' q) b = H b := fun b hb n => by
        have nb : b ≠ c' := fun z => ncρ (by rw [← z]; exact hb)
        rw [upd_ne nb, upd_ne n]
      refine ⟨w.len, w.nd, fun b hb => ?_, fun n b m e1 e2 => ?_⟩
      · by_cases z : b = a
        · rw [z, upd_ne nPc, upd_same]; simp
        · rw [at_ b hb z]; exact w.tr b hb
      · by_cases z : b = a
        · subst z
          have hn : n = ti := by
            have l1 := List.getElem?_eq_some_iff.mp e1
            have l2 := List.getElem?_eq_some_iff.mp hρ
            obtain ⟨a1, b1⟩ := l1
            obtain ⟨a2, b2⟩ := l2
            exact (List.getElem_inj (h₀ := a1) (h₁ := a2) w.nd).mp (b1.trans b2.symm)
          subst hn
          rw [hS] at e2
          cases e2
          refine ⟨rfl, _, by rw [upd_ne nPc, upd_same], by rw [eL]; exact PySem.TriplesOk_snoc _ _ _ _ ht, fun p' cv hcv => ?_⟩
          rw [eL] at hcv
          rcases LamX.among_app _ ht hcv with z | z
          · obtain ⟨c0, e1, n0, e3⟩ := ha p' cv z
            exact ⟨c0, e1, n0, hE.kept n0 e3 (by intros; nofun)⟩
          · exact ⟨c', z, ncρ, upd_same⟩
        · exact MRep.ext hE (at_ b (List.mem_of_getElem? e1) z) (w.ob n b m e1 e2)
    have n1 : h'.objs.size ≠ c' := Nat.ne_of_gt hlt
    have hsz : s.heap.objs.size ≤ h'.objs.size := Nat.le_trans hge (Nat.le_of_lt hlt)
    have n2 : h'.objs.size ≠ a := Nat.ne_of_gt (Nat.lt_of_lt_of_le (Heap.lt_size hP') hsz)
    have hget : (h'.push (PySem.W.kdv_obj "<lambda>" q params (.expr body) scope (cloFrom X.env.cells scope.names []) dV doc ((X.mg "__name__").getD .none) c' ctv)).get? h'.objs.size = some (PySem.W.kdv_obj "<lambda>" q params (.expr body) scope (cloFrom X.env.cells scope.names []) dV doc ((X.mg "__name__").getD .none) c' ctv) := Heap.get?_push_size _ rfl
    have I2 := I1.laid (t' := tk) (a := h'.objs.size) (o := XO h'.objs.size (PySem.W.kdv_obj "<lambda>" q params (.expr body) scope (cloFrom X.env.cells scope.names []) dV doc ((X.mg "__name__").getD .none) c' ctv)) (h' := h'.push (PySem.W.kdv_obj "<lambda>" q params (.expr body) scope (cloFrom X.env.cells scope.names []) dV doc ((X.mg "__name__").getD .none) c' ctv)) (fun b o e => Heap.get?_push_of_some _ e) (Nat.le_refl _) ⟨hget, ⟨_, hget⟩, fun h1 h2 e st => st _ e⟩
    exact h h'.objs.size c' _ doc ctv _ _ I2 (by rw [upd_ne n1, upd_ne n2]; exact I.hok.fresh hsz) hE w1 ncρ upd_same
  | some cv =>
    obtain ⟨c', e, ncρ, hco⟩ := ha pos cv hc
    subst e
    refine PySem.W.kdv_makeTailHit (mg := X.mg) (c := c) (P := a) (ps := ps) (closure_ok hfree) I.ok.glob (I.mod.glob.keeps I.bk) hcode (TB.code.keeps I.bk) hP' ht hc bP fun ctv doc h' tk hx hsz => ?_
    have hget : (h'.push (PySem.W.kdv_obj "<lambda>" q params (.expr body) scope (cloFrom X.env.cells scope.names []) dV doc ((X.mg "__name__").getD .none) c' ctv)).get? h'.objs.size = some (PySem.W.kdv_obj "<lambda>" q params (.expr body) scope (cloFrom X.env.cells scope.names []) dV doc ((X.mg "__name__").getD .none) c' ctv) := Heap.get?_push_size _ rfl
    have I1 : Inv X pins σ H { s with heap := h', toks := tk } := I.kept hx
    have I2 := I1.laid (t' := tk) (a := h'.objs.size) (o := XO h'.objs.size (PySem.W.kdv_obj "<lambda>" q params (.expr body) scope (cloFrom X.env.cells scope.names []) dV doc ((X.mg "__name__").getD .none) c' ctv)) (h' := h'.push (PySem.W.kdv_obj "<lambda>" q params (.expr body) scope (cloFrom X.env.cells scope.names []) dV doc ((X.mg "__name__").getD .none) c' ctv)) (fun b o e => Heap.get?_push_of_some _ e) (Nat.le_refl _) ⟨hget, ⟨_, hget⟩, fun h1 h2 e st => st _ e⟩
    exact h h'.objs.size c' _ doc ctv H _ I2 (I.hok.fresh hsz) Ext.refl w ncρ hco
variable {W : WX} {ti : Nat} {c P : Addr} {T : LamText} {pos : Pos}
/-- lambda: e -/
theorem r_lam0 (TB : LamX.TabB X.base X.mg c P) (hcode : X.env.code = .ref c) (hq : T.qual = X.env.qual ++ "<lambda>") (hdv : T.dvs = []) (hdef : defaultsOf T.params X.env = ([], [])) (hfree : ∀ y ∈ T.scope.names, y.2 = .free → X.env.kindOf y.1 = some .cell) :
    E X W (.Lambda T.params T.body T.scope pos) (eLam ti P X.env.cells T) := by
  refine ⟨fun pins s σ H Q I h => ?_⟩
  obtain ⟨ρ, S, sl, w, rs, p⟩ := h
  unfold eLam at p
  split at p
  · rename_i P' q eS
    split at p
    · rename_i hpq
      obtain ⟨rfl, rfl⟩ := hpq
      refine PySem.W.kla_eval hdef ?_
      rw [makeFunction_eq]
      simp only [List.zip_nil_right, List.filterMap_nil, List.isEmpty_nil, if_true, pure_bind]
      rw [← hq]
      refine lam_tail I TB hcode w eS (fun y hy e => I.ok.has _ (.inl (hfree y hy e))) fun f c' pm doc ctv H1 s' J nf x1 w1 nc hco => ?_
      have x2 : Ext ρ H1 ρ (upd H1 f (XO f (PySem.W.kdv_obj "<lambda>" T.qual T.params (.expr T.body) T.scope (cloFrom X.env.cells T.scope.names []) .none doc pm c' ctv))) := Ext.new' nf
      have hcf : c' ≠ f := fun z => by rw [z, nf] at hco; cases hco
      refine ⟨.ref f, _, J, rfl, p _ ρ _ (x1.trans x2) (w1.new' nf) ?_⟩
      rw [Rep]
      exact ⟨f, rfl, w1.nin nf, ⟨_, rfl⟩, pm, doc, .none, ctv, c', upd_same, nc, by rw [upd_ne hcf]; exact hco, .inl ⟨hdv, rfl⟩⟩
    · exact p.elim
  · exact p.elim
end
end Z
namespace Z
open PySem PySem.Spec L2 PyProof.Rows
end Z
namespace Z
open PySem L2
end Z
namespace Z
open PySem PySem.Spec L2
section
variable {X : Cx}
def semAbs : SemL := fun ds S => match ds with
  | [.int i] => .ok (.int (if i < 0 then -i else i)) S
  | _ => .bad
theorem d_abs : CallD X (.builtin "abs") semAbs := by
  refine ⟨_, call_abs, fun Wp ρ H S ds xs Q w r p => ?_⟩
  unfold semAbs at p
  split at p
  · obtain ⟨v, e, h1⟩ := repL_one r
    rw [rep_int h1] at e
    exact ⟨_, e, post_ok p w mk_int⟩
  · exact p.elim
def semStr : SemL := fun ds S => match ds with
  | [.int i] => if i.natAbs.log2 < 1920 then .ok (.str (toString i)) S else .bad
  | _ => .bad
theorem d_str : CallD X (.type "str") semStr := by
  refine ⟨_, call_str_int, fun Wp ρ H S ds xs Q w r p => ?_⟩
  unfold semStr at p
  split at p
  · split at p
    · rename_i h
      obtain ⟨v, e, h1⟩ := repL_one r
      rw [rep_int h1] at e
      exact ⟨_, e, h, post_ok p w mk_str⟩
    · exact p.elim
  · exact p.elim
end
end Z
namespace PySem.W
open PySem PySem.Calls PyProof.Rows Builtin
end PySem.W
namespace Z
open PySem PySem.Spec L2 PyProof.Rows
structure TruW (X : Cx) (W : WX) (sem : SemB) : Prop where
  go : ∀ (pins : List (Addr × Obj)) (s : Shared) (σ : L2.St) (ρ : List Addr) (H : Hp) (S : Store) (d : D) (x : V) (v : Value) (Q : Bool → Hp → Prop), Inv X pins σ H s → RelV x v → WOk X.K X.mg ρ H S → Rep X.K X.mg ρ H d x →
    PostB X.K X.mg (fun C dd H' => W C dd σ H') ρ H Q (sem d S) → wpAny (model X.prog X.w) X.A (truthy v) (TP X pins σ Q) X.xe s
section
variable {X : Cx} {W : WX} {a b : Expr} {fa fb : EX} {pos : Pos}
theorem OpW.or {f : Value → Value → Sem Value} {s t : Sem2} (h : OpW X W f s) (h' : OpW X W f t) : OpW X W f (orS2 s t) := ⟨fun pins s0 σ ρ H S d e x y v u Q I rv ru w rx ry p => by
  unfold orS2 at p
  cases q : s d e S with
  | bad => rw [q] at p; exact h'.go pins s0 σ ρ H S d e x y v u Q I rv ru w rx ry p
  | ok a b => rw [q] at p; exact h.go pins s0 σ ρ H S d e x y v u Q I rv ru w rx ry (by rw [q]; exact p)
  | ex a b => rw [q] at p; exact h.go pins s0 σ ρ H S d e x y v u Q I rv ru w rx ry (by rw [q]; exact p)⟩
theorem UnW.or {f : Value → Sem Value} {s t : Sem1} (h : UnW X W f s) (h' : UnW X W f t) : UnW X W f (orS1 s t) := ⟨fun pins s0 σ ρ H S d x v Q I rv w rx p => by
  unfold orS1 at p
  cases q : s d S with
  | bad => rw [q] at p; exact h'.go pins s0 σ ρ H S d x v Q I rv w rx p
  | ok a b => rw [q] at p; exact h.go pins s0 σ ρ H S d x v Q I rv w rx (by rw [q]; exact p)
  | ex a b => rw [q] at p; exact h.go pins s0 σ ρ H S d x v Q I rv w rx (by rw [q]; exact p)⟩
theorem CallW.or {f : Value} {s t : SemL} (h : CallW X W f s) (h' : CallW X W f t) : CallW X W f (orSL s t) := ⟨fun pins s0 σ ρ H S d x v Q I rv w rx p => by
  unfold orSL at p
  cases q : s d S with
  | bad => rw [q] at p; exact h'.go pins s0 σ ρ H S d x v Q I rv w rx p
  | ok a b => rw [q] at p; exact h.go pins s0 σ ρ H S d x v Q I rv w rx (by rw [q]; exact p)
  | ex a b => rw [q] at p; exact h.go pins s0 σ ρ H S d x v Q I rv w rx (by rw [q]; exact p)⟩
theorem TruW.or {s t : SemB} (h : TruW X W s) (h' : TruW X W t) : TruW X W (orSB s t) := ⟨fun pins s0 σ ρ H S d x v Q I rv w rx p => by
  unfold orSB at p
  cases q : s d S with
  | bad => rw [q] at p; exact h'.go pins s0 σ ρ H S d x v Q I rv w rx p
  | ok a b => rw [q] at p; exact h.go pins s0 σ ρ H S d x v Q I rv w rx (by rw [q]; exact p)
  | ex a b => rw [q] at p; exact h.go pins s0 σ ρ H S d x v Q I rv w rx (by rw [q]; exact p)⟩
theorem kd_sub (K : PySem.W.Frag) (k : Kd) (C : Addr) : PySem.W.subIn K (.type k.name) (.ref C) = some false := by
  cases k <;> first | rfl | kernel_rfl
/-- D: the classes that are below it, the classes that are not -/
structure IsiOk (X : Cx) (tab : List (Str × List Str × List Str)) : Prop where
  at_ : ∀ D yes no, tab.lookup D = some (yes, no) → ∀ DC, X.mg D = some (.ref DC) → ((PySem.W.clsIn X.K DC).isSome && PySem.W.typeIn X.K (.ref DC) == some (.type "type")) = true ∧
    (∀ c ∈ yes, ∀ C, X.mg c = some (.ref C) → InsT X.K C ∧ PySem.W.kitOne X.K (.ref C) (.ref DC) = some true) ∧ (∀ c ∈ no, ∀ C, X.mg c = some (.ref C) → InsT X.K C ∧ PySem.W.kitOne X.K (.ref C) (.ref DC) = some false)
theorem kit_kd {K : PySem.W.Frag} {DC : Addr} (h : ((PySem.W.clsIn K DC).isSome && PySem.W.typeIn K (.ref DC) == some (.type "type")) = true) (k : Kd) : PySem.W.kitOne K (.type k.name) (.ref DC) = some false := by
  unfold PySem.W.kitOne
  rw [if_neg (by simp)]
  unfold PySem.W.kitCls
  dsimp only
  rw [if_pos h]
  exact kd_sub K k DC
theorem ow_isi {tab : List (Str × List Str × List Str)} (ht : IsiOk X tab) : CallD X (.builtin "isinstance") (isiO tab) := by
  refine ⟨_, call_isi, fun Wp ρ H S ds xs Q w r p => ?_⟩
  unfold isiO at p
  split at p
  · rename_i d D
    split at p
    · rename_i yes no ey
      rw [RepL] at r
      obtain ⟨v, r', e, h1, h2⟩ := r
      rw [RepL] at h2
      obtain ⟨u, r2, e2, h3, h4⟩ := h2
      rw [RepL] at h4
      subst h4 e2 e
      rw [Rep] at h3
      obtain ⟨DC, hD, eu⟩ := h3
      subst eu
      obtain ⟨a1, a2, a3⟩ := ht.at_ D yes no ey DC hD
      split at p
      · rename_i c ns vs ef
        obtain ⟨a, C, dx, fs, ex, hm, ea, hn, rl⟩ := flds_rep w h1 ef
        subst ex
        split at p
        · rename_i hy
          obtain ⟨t, kk⟩ := a2 c hy C hm
          exact ⟨.ref a, .ref DC, _, .ref DC, true, rfl, .own DC, t.ty ea, kk, post_ok p w mk_bl⟩
        · split at p
          · rename_i hy
            obtain ⟨t, kk⟩ := a3 c hy C hm
            exact ⟨.ref a, .ref DC, _, .ref DC, false, rfl, .own DC, t.ty ea, kk, post_ok p w mk_bl⟩
          · exact p.elim
      · split at p
        · rename_i hk
          obtain ⟨kk, hkk⟩ := Option.isSome_iff_exists.mp hk
          exact ⟨v, .ref DC, _, .ref DC, false, rfl, .own DC, kd_rep w h1 hkk, kit_kd a1 kk, post_ok p w mk_bl⟩
        · exact p.elim
    · exact p.elim
  · exact p.elim
end
end Z
namespace Z
open PySem PySem.Spec L2 PyProof.Rows
section
variable {P : Program} {w : World} {K : PySem.W.Frag} {mg : Str → Option Value} {base : Heap}
theorem spOf_body {N ps : List Str} {qual : Str} {scope : Scope} {f : Addr} {A : Around} {outer : List Env} {s : Shared} {k : Nat} {st : List Stmt} {body : SX} {cdv : Value}
    (hb : ∀ (H : Hp) (E : XK), ESs (cxOf (Z.CX P w) P w K mg base N qual scope f cdv A outer s H E) (fun c d _ H' => E c d H') st body) {H : Hp} {vs : List V} {Q : VK} {E : XK} (h : spOf K mg ps.length (defS N.length body) vs H Q E) :
    ∃ t, PSs (cxOf (Z.CX P w) P w K mg base N qual scope f cdv A outer s H E) st t ∧ t { nx := fun _ H' => Q .non H', rt := Q } (L2.start N vs) H := by
  obtain ⟨ρ, S, ds, hl, w0, r, p⟩ := h
  refine ⟨_, hb H E, ρ, S, _, w0, rst_start r, ?_⟩
  have p := fin_imp w0 p
  cases q : body (ds.map some ++ List.replicate (N.length - ds.length) none) S with
  | nx sl S' => rw [q] at p; exact fun σ' ρ' H' x w1 r1 => p .non ρ' H' x w1 (by rw [Rep])
  | rt d S' => rw [q] at p; exact p
  | ex e sl S' => rw [q] at p; exact fun C dd σ' ρ' H' x w1 _ r1 => p C dd ρ' H' x w1 r1
  | bk sl S' => rw [q] at p; exact p.elim
  | ct sl S' => rw [q] at p; exact p.elim
  | bad => rw [q] at p; exact p.elim
theorem spOf_bodyH {N ps : List Str} {qual : Str} {scope : Scope} {f : Addr} {A : Around} {outer : List Env} {s : Shared} {k : Nat} {st : List Stmt} {body : SX} {cdv : Value}
    (hb : ∀ (H : Hp) (E : XK), ESs (cxOf (Z.CX P w) P w K mg base N qual scope f cdv A outer s H E) (fun c d _ H' => E c d H') st body) {H : Hp} {vs : List V} {Q : VK} {E : XK} (h : spOf K mg ps.length (defH N.length body) vs H Q E) :
    ∃ t, PSs (cxOf (Z.CX P w) P w K mg base N qual scope f cdv A outer s H E) st t ∧ t { nx := fun _ H' => Q .non H', rt := Q } (L2.start N vs) H := by
  obtain ⟨ρ, S, ds, hl, w0, r, p⟩ := h
  refine ⟨_, hb H E, ρ, S, _, w0, rst_start r, ?_⟩
  have p : PostE K mg E ρ H Q (body (ds.map some ++ List.replicate (N.length - ds.length) none) S).out := p
  cases q : body (ds.map some ++ List.replicate (N.length - ds.length) none) S with
  | nx sl S' => rw [q] at p; exact fun σ' ρ' H' x w1 r1 => p .non ρ' H' x w1 (by rw [Rep])
  | rt d S' => rw [q] at p; exact p
  | ex e sl S' => rw [q] at p; exact fun C dd σ' ρ' H' x w1 _ r1 => p C dd ρ' H' x w1 r1
  | bk sl S' => rw [q] at p; exact p.elim
  | ct sl S' => rw [q] at p; exact p.elim
  | bad => rw [q] at p; exact p.elim
theorem spOf_len {n : Nat} {g : SemL} (vs : List V) (H : Hp) (Q : VK) (E : XK) (h : spOf K mg n g vs H Q E) : vs.length = n := by
  obtain ⟨ρ, S, ds, hl, _, r, _⟩ := h
  rw [← r.len, hl]
/-- a def whose code object is told -/
theorem fn_okD {x qual : Str} {params : Arguments} {stb : List Stmt} {scope : Scope} {dvs : List V} {kws : List (Str × V)} {f : Addr} {fd : FuncData} {N ps : List Str} {k : Nat} {body : SX} (F : FunD K x qual params stb scope dvs kws f fd) (Sc : FnScope N ps scope)
    (hb : ∀ (A : Around) (outer : List Env) (s : Shared) (H : Hp) (E : XK), Room k (A.deeper (envOfC qual scope s.heap.objs.size f fd.code)) →
      ESs (cxOf (Z.CX P w) P w K mg base N qual scope f fd.code A outer s H E) (fun c d _ H' => E c d H') stb body) :
    FnOk P w K mg base (Z.CX P w) (k + 1) f fd ps (spOf K mg ps.length (defS N.length body)) := by
  obtain ⟨oc, od, dV, kV, doc, pm, an, cdv, ct, osl, rfl, lk, hcd, _, _⟩ := F.ex
  exact fn_of lk hcd Sc spOf_len fun A outer s H vs Q E hr h => spOf_body (ps := ps) (k := k) (fun H E => hb A outer s H E hr) h
theorem fn_okHD {x qual : Str} {params : Arguments} {stb : List Stmt} {scope : Scope} {dvs : List V} {kws : List (Str × V)} {f : Addr} {fd : FuncData} {N ps : List Str} {k : Nat} {body : SX} (F : FunD K x qual params stb scope dvs kws f fd) (Sc : FnScope N ps scope)
    (hb : ∀ (A : Around) (outer : List Env) (s : Shared) (H : Hp) (E : XK), Room k (A.deeper (envOfC qual scope s.heap.objs.size f fd.code)) →
      ESs (cxOf (Z.CX P w) P w K mg base N qual scope f fd.code A outer s H E) (fun c d _ H' => E c d H') stb body) :
    FnOk P w K mg base (Z.CX P w) (k + 1) f fd ps (spOf K mg ps.length (defH N.length body)) := by
  obtain ⟨oc, od, dV, kV, doc, pm, an, cdv, ct, osl, rfl, lk, hcd, _, _⟩ := F.ex
  exact fn_of lk hcd Sc spOf_len fun A outer s H vs Q E hr h => spOf_bodyH (ps := ps) (k := k) (fun H E => hb A outer s H E hr) h
theorem fz_of2 {f : Addr} {fd : FuncData} {ps : List Str} {k n : Nat} {g : SemL} {dvs : List V} {dds : List D} (F : FnOk P w K mg base (Z.CX P w) k f fd ps (spOf K mg n g)) (h0 : Binds K fd ps []) (h1 : ∃ ds, Vals dvs ds ∧ Binds K fd ps ds) (hdf : ∀ ρ H, RepL K mg ρ H dds dvs) : FZ P w K mg base k f (defsS n dds g) := by
  obtain ⟨dfs, hd, hb⟩ := h1
  intro A outer s H us vs Q E hr e0 r ⟨ρ, S, ds, w0, rd, p⟩
  unfold defsS at p
  split at p
  · rename_i hl
    exact (F.raw h0 .nil) A outer s H us vs Q E hr e0 r ⟨ρ, S, ds, hl, w0, by rw [List.append_nil]; exact rd, p⟩
  · split at p
    · rename_i hl
      exact (F.raw hb hd) A outer s H us vs Q E hr e0 r ⟨ρ, S, ds ++ dds, by simpa using hl, w0, rd.append (hdf ρ H), p⟩
    · exact p.elim
def pickL {α : Type} (ix : List Nat) (xs : List α) : List α := ix.filterMap fun i => xs[i]?
theorem pickL_rep {ρ : List Addr} {H : Hp} {ds : List D} {vs : List V} (r : RepL K mg ρ H ds vs) : ∀ ix : List Nat, RepL K mg ρ H (pickL ix ds) (pickL ix vs)
  | [] => RepL.nil
  | i :: ix => by
    have ih := pickL_rep r ix
    unfold pickL at ih ⊢
    rw [List.filterMap_cons, List.filterMap_cons]
    cases e : ds[i]? with
    | some d =>
      obtain ⟨v, e2, q⟩ := r.get e
      rw [e2]
      exact RepL.cons q ih
    | none =>
      have e2 : vs[i]? = none := by
        rw [List.getElem?_eq_none_iff] at e ⊢
        rw [← r.len]; exact e
      rw [e2]
      exact ih
theorem pickL_vals {vs : List V} {us : List Value} (r : Vals vs us) : ∀ ix : List Nat, Vals (pickL ix vs) (pickL ix us)
  | [] => .nil
  | i :: ix => by
    have ih := pickL_vals r ix
    unfold pickL at ih ⊢
    rw [List.filterMap_cons, List.filterMap_cons]
    cases e : vs[i]? with
    | some d =>
      obtain ⟨v, e2, q⟩ := r.get e
      rw [e2]
      exact .cons q ih
    | none =>
      have e2 : us[i]? = none := by
        rw [List.getElem?_eq_none_iff] at e ⊢
        rw [← r.length]; exact e
      rw [e2]
      exact ih
def FnRK (P : Program) (w : World) (K : PySem.W.Frag) (mg : Str → Option Value) (base : Heap) (CX : CXT) (k : Nat) (f : Addr) (n : Nat) (ks : List Str) (sp : Sp) : Prop :=
  ∀ (A : Around) (outer : List Env) (s : Shared) (H : Hp) (us ws : List Value) (vs zs : List V) (Q : VK) (E : XK), Room k A → Env0 P w K mg base A outer s H → Vals vs us → Vals zs ws → us.length = n → ws.length = ks.length → sp (vs ++ zs) H Q E →
    codeAny (model P w) A (.call (.ref f) ⟨us, ks.zip ws⟩) (CR CX outer P w H s Q E) s
abbrev FZK (P : Program) (w : World) (K : PySem.W.Frag) (mg : Str → Option Value) (base : Heap) (k : Nat) (f : Addr) (n : Nat) (ks : List Str) (g : SemL) : Prop := FnRK P w K mg base (Z.CX P w) k f n ks (spZ K mg g)
/-- n written values, m by keywords, the defaults: in the parameters' order -/
def kwS (n m N : Nat) (ix : List Nat) (dds : List D) (g : SemL) : SemL := fun ds S => if ds.length = n + m ∧ (pickL ix (ds ++ dds)).length = N then g (pickL ix (ds ++ dds)) S else .bad
theorem fzk_of {f : Addr} {fd : FuncData} {ps ks : List Str} {k n N : Nat} {ix : List Nat} {g : SemL} {dvs : List V} {dds : List D} {its : List Value} (F : FnOk P w K mg base (Z.CX P w) k f fd ps (spOf K mg N g))
    (hb : KBn K fd ps n ks (fun us ws => pickL ix (us ++ ws ++ its)) (fun vs zs => pickL ix (vs ++ zs ++ dvs))) (hdf : ∀ ρ H, RepL K mg ρ H dds dvs) : FZK P w K mg base k f n ks (kwS n ks.length N ix dds g) := by
  intro A outer s H us ws vs zs Q E hr e0 r rz l1 l2 ⟨ρ, S, ds, w0, rd, p⟩
  unfold kwS at p
  split at p
  · rename_i hl
    have KX : K.In s.heap := e0.mod.kin.keeps fun b o e => (e0.bs b o e).1
    exact F.run A outer s H ⟨us, ks.zip ws⟩ _ _ Q E hr e0 (hb.to s us ws KX l1 l2) (hb.rel r rz) ⟨ρ, S, _, hl.2, w0, pickL_rep (rd.append (hdf ρ H)) ix, p⟩
  · exact p.elim
theorem kbn0N {x qual : Str} {params : Arguments} {stb : List Stmt} {scope : Scope} {kws : List (Str × V)} {f : Addr} {fd : FuncData} {ps ks : List Str} {n : Nat} {ix : List Nat} (F : FunD K x qual params stb scope [] kws f fd)
    (h : ∀ (kV doc pm : Value) (an : Option Addr) (cdv ct : Value) (us ws : List Value), us.length = n → ws.length = ks.length → bindArgs (PySem.W.fnOf x qual params stb scope .none kV doc pm an cdv ct) ⟨us, ks.zip ws⟩ = pure (ps.zip (pickL ix (us ++ ws ++ [])))) :
    KBn K fd ps n ks (fun us ws => pickL ix (us ++ ws ++ [])) (fun vs zs => pickL ix (vs ++ zs ++ [])) := by
  obtain ⟨oc, od, dV, kV, doc, pm, an, cdv, ct, osl, rfl, lk, hcd, hD, hK⟩ := F.ex
  rcases hD with ⟨_, rfl⟩ | ⟨e, _⟩
  · exact ⟨fun s us ws _ l1 l2 => .of_eq (h kV doc pm an cdv ct us ws l1 l2), fun r rz => pickL_vals ((r.append rz).append .nil) ix⟩
  · exact absurd rfl e
end
section
variable {X : Cx} {W : WX}
def EK (X : Cx) (W : WX) (kws : List Keyword) (f : AX) : Prop := PK X kws (trA X.K X.mg W f)
theorem k_nil : EK X W [] aNil := PK.imp pk_nil fun σ H Q ⟨ρ, S, sl, w, rs, p⟩ => p [] ρ H Ext.refl w RepL.nil
theorem k_cons {nm : Option Str} {e : Expr} {kpos : Pos} {kws : List Keyword} {f : EX} {g : AX} (ha : E X W e f) (hr : EK X W kws g) : EK X W (⟨nm, e, kpos⟩ :: kws) (aCons f g) :=
  PK.imp (pk_cons ha hr) fun σ H Q h => args_imp h
variable {k n : Nat} {f C : Addr} {g : SemL} {x m : Str} {p pos apos : Pos} {e o : Expr} {es : List Expr} {fa fk : AX} {fo fe : EX} {ks : List Str} {kws : List Keyword}
theorem run_fnRK {pins : List (Addr × Obj)} {σ : L2.St} {H : Hp} {s : Shared} {Q : VK} {us ws : List Value} {vs zs : List V} {sp : Sp} {E : XK} (F : FnRK X.prog X.w X.K X.mg X.base (Z.CX X.prog X.w) k f n ks sp) (hr : Room k X.A) (hx : PassesAt (Z.CX X.prog X.w) X σ E) (I : Inv X pins σ H s) (r : Vals vs us) (rz : Vals zs ws) (l1 : us.length = n) (l2 : ws.length = ks.length) (h : sp (vs ++ zs) H Q E) :
    wpAny (model X.prog X.w) X.A (PySem.call (.ref f) us (ks.zip ws)) (EP X pins σ Q) X.xe s := by
  refine wpAny_call (codeAny_mono (F X.A X.stack s H us ws vs zs Q E hr I.env0 r rz l1 l2 h) fun r s' hq => ?_)
  cases r with
  | error e => exact hx pins H s e s' I hq
  | ok fl =>
    cases fl with
    | ret u => exact I.after hq
    | next => exact False.elim hq
    | brk => exact False.elim hq
    | cont => exact False.elim hq
end
end Z
namespace Z
open PySem PySem.Spec L2 PyProof.Rows
section
variable {X : Cx} {W : WX} {k n : Nat} {f C : Addr} {g : SemL} {x m : Str} {p pos apos : Pos} {e o : Expr} {es : List Expr} {fa fk : AX} {fo fe : EX} {ks : List Str} {kws : List Keyword}
theorem r_fmt (he : E X W e fe) : E X W (.FormattedValue e (-1) none pos) (eUn semFmt fe) := PE.imp (pe_fmt he) fun σ H Q h => un_imp (g := fun _ => semFmt) h fun ρ S sl H1 d v w _ rv p => by
  cases d with
  | str y =>
    unfold semFmt at p
    dsimp only at p
    split at p
    · rename_i hl
      exact .inl ⟨y, rep_str rv, line_of hl, post_ok p w mk_str⟩
    · exact p.elim
  | int i =>
    unfold semFmt at p
    dsimp only at p
    split at p
    · rename_i hl
      exact .inr ⟨i, rep_int rv, hl, post_ok p w mk_str⟩
    · exact p.elim
  | _ => exact p.elim
inductive EJ (X : Cx) (W : WX) : List Expr → List EX → Prop where
  | nil : EJ X W [] []
  | cons {e : Expr} {f : EX} {es : List Expr} {fs : List EX} (h : E X W e f) (r : EJ X W es fs) : EJ X W (e :: es) (f :: fs)
theorem EJ.pj {es : List Expr} {fs : List EX} (h : EJ X W es fs) : PJ X es (fs.map (trE X.K X.mg W)) := by
  induction h with
  | nil => exact .nil
  | cons h _ ih => exact .cons h ih
theorem join_imp : ∀ {fs : List EX} {acc : Str} {σ : L2.St} {H : Hp} {Q : VK}, trE X.K X.mg W (joinGo fs acc) σ H Q → tJs (fs.map (trE X.K X.mg W)) acc σ H fun out H1 => Q (.str out) H1
  | [], acc, σ, H, Q, ⟨ρ, S, sl, w, rs, p⟩ => post_ok (d := .str acc) p w mk_str
  | f :: fs, acc, σ, H, Q, ⟨ρ, S, sl, w, rs, p⟩ => by
    refine ⟨ρ, S, sl, w, rs, PostE.mono (PostE.bindE p) fun v H1 ⟨ρ1, S1, d, x1, w1, r1, _, p1⟩ => ?_⟩
    cases d with
    | str y =>
      dsimp only at p1
      split at p1
      · rename_i hl
        exact ⟨y, rep_str r1, line_of hl, join_imp ⟨ρ1, S1, sl, w1, rs.ext x1, p1⟩⟩
      · exact p1.elim
    | _ => exact p1.elim
theorem r_fstr {v1 v2 : Expr} {rest : List Expr} {fs : List EX} (h : EJ X W (v1 :: v2 :: rest) fs) : E X W (.JoinedStr (v1 :: v2 :: rest) pos) (eJoin fs) := PE.imp (pe_joined h.pj) fun σ H Q h => join_imp h
end
end Z
namespace ZX
open PySem PySem.W PySem.Calls PyProof.Rows PySem.Spec
open L2 (V Vals RelV RelO)
theorem vofP_same : ∀ {ps : List Str} {vs : List V}, ps.Nodup → vs.length = ps.length → ps.map (fun f => (f, vofP ps vs f)) = ps.zip vs := by
  have core : ∀ (ps : List Str) (vs : List V), ps.Nodup → vs.length = ps.length → ∀ f v, (f, v) ∈ ps.zip vs → vofP ps vs f = v := by
    intro ps
    induction ps with
    | nil => intro vs _ _ f v h; simp at h
    | cons p ps ih =>
      intro vs hn hl f v h
      cases vs with
      | nil => simp at hl
      | cons u vs =>
        rw [List.zip_cons_cons] at h
        rcases List.mem_cons.mp h with e | h
        · cases e
          simp [vofP, List.lookup]
        · have hf : f ∈ ps := (List.of_mem_zip h).1
          have ne : f ≠ p := fun e => (List.nodup_cons.mp hn).1 (e ▸ hf)
          have r := ih vs (List.nodup_cons.mp hn).2 (by simpa using hl) f v h
          unfold vofP at r ⊢
          rw [List.zip_cons_cons, List.lookup_cons, beq_eq_false_iff_ne.mpr ne]
          exact r
  intro ps vs hn hl
  have : ∀ (l : List Str) (ws : List V), l.length = ws.length → (∀ f v, (f, v) ∈ l.zip ws → vofP ps vs f = v) → l.map (fun f => (f, vofP ps vs f)) = l.zip ws := by
    intro l
    induction l with
    | nil => intro ws _ _; simp
    | cons a l ih =>
      intro ws h1 h2
      cases ws with
      | nil => simp at h1
      | cons b ws =>
        rw [List.map_cons, List.zip_cons_cons, h2 a b (by simp), ih ws (by simpa using h1) fun f v h => h2 f v (by simp [h])]
  exact this ps vs hl.symm (core ps vs hn hl)
theorem foldl_own {f : Str → V} : ∀ (l : List Str) (fs : List (Str × V)), (l.map fun p => (p, p)).foldl (fun fs fp => (fp.1, f fp.2) :: fs) fs = (l.map fun p => (p, f p)).reverse ++ fs
  | [], fs => rfl
  | a :: l, fs => by rw [List.map_cons, List.foldl_cons, foldl_own l, List.map_cons, List.reverse_cons, List.append_assoc]; rfl
theorem InitOk.cast {prog : Program} {w : World} {base : Heap} {k : Nat} {f C : Addr} {G G' : List V → Option (List (Str × V))} (h : InitOk prog w base k f C G) (e : ∀ vs, G' vs = G vs) : InitOk prog w base k f C G' := by
  have : G' = G := funext e
  rw [this]; exact h
/-- what __init__(self, tag): self.tag = tag keeps -/
def G1 : List V → Option (List (Str × V)) := fun vs => if vs.length = 1 then some [("tag", vofP ["tag"] vs "tag")] else none
theorem own_eq {tag : Str} {flds : List Str} (hn : flds.Nodup) (vs : List V) :
    (if vs.length = flds.length then some (Z.excFs tag flds vs) else none) = (if vs.length = flds.length then (G1 [.str tag]).map (fun fs => (flds.map fun p => (p, p)).foldl (fun fs fp => (fp.1, vofP flds vs fp.2) :: fs) fs) else none) := by
  by_cases h : vs.length = flds.length
  · rw [if_pos h, if_pos h]
    unfold G1 Z.excFs
    have e1 : (if [V.str tag].length = 1 then some [(("tag" : Str), vofP ["tag"] [V.str tag] "tag")] else none) = some [(("tag" : Str), V.str tag)] := by simp [vofP, List.lookup]
    rw [e1, Option.map_some, foldl_own, vofP_same hn h]
  · rw [if_neg h, if_neg h]
end ZX
namespace Z
open PySem PySem.Spec L2 PyProof.Rows
section
variable {P : Program} {w : World} {K : PySem.W.Frag} {mg : Str → Option Value} {base : Heap}
/-- a def by its body; the body may speak of its own cells -/
theorem fn_okT {x qual : Str} {params : Arguments} {stb : List Stmt} {scope : Scope} {dvs : List V} {kws : List (Str × V)} {f : Addr} {fd : FuncData} {N ps : List Str} {k : Nat} {body : List (Str × Addr) → SX} (F : FunD K x qual params stb scope dvs kws f fd) (Sc : FnScope N ps scope)
    (hb : ∀ (A : Around) (outer : List Env) (s : Shared) (H : Hp) (E : XK), Room k (A.deeper (envOfC qual scope s.heap.objs.size f fd.code)) →
      ESs (cxOf (Z.CX P w) P w K mg base N qual scope f fd.code A outer s H E) (fun c d _ H' => E c d H') stb (body (cellsFrom (s.heap.objs.size + 1) scope.names []))) :
    FnOk P w K mg base (Z.CX P w) (k + 1) f fd ps (fun vs H Q E => ∀ κ, spOf K mg ps.length (defS N.length (body κ)) vs H Q E) := by
  obtain ⟨oc, od, dV, kV, doc, pm, an, cdv, ct, osl, rfl, lk, hcd, _, _⟩ := F.ex
  exact fn_of lk hcd Sc (fun vs H Q E h => spOf_len vs H Q E (h [])) fun A outer s H vs Q E hr h => spOf_body (ps := ps) (k := k) (fun H E => hb A outer s H E hr) (h _)
/-- the same whatever the cells are -/
noncomputable def allK (g : List (Str × Addr) → SemL) : SemL := fun ds S => open Classical in if ∃ o, ∀ κ, g κ ds S = o then g [] ds S else .bad
theorem allK_eq {g : List (Str × Addr) → SemL} {ds : List D} {S : Store} {o : Out D} (h : ∀ κ, g κ ds S = o) : allK g ds S = o := by
  unfold allK
  rw [if_pos ⟨o, h⟩]
  exact h []
end
def tabsOf (cs : List (Addr × Str)) : Store := cs.map fun c => .tab c.1 c.2
theorem wok_tabs {K : PySem.W.Frag} {mg : Str → Option Value} {H : Hp} {cs : List (Addr × Str)} (nd : (cs.map (·.1)).Nodup) (hP : ∀ c ∈ cs, H c.1 = some (.tbl #[])) : WOk K mg (cs.map (·.1)) H (tabsOf cs) := by
  refine ⟨by simp [tabsOf], nd, fun a ha => ?_, fun n a m e1 e2 => ?_⟩
  · obtain ⟨c, hc, rfl⟩ := List.mem_map.mp ha
    rw [hP c hc]; simp
  · unfold tabsOf at e2
    rw [List.getElem?_map] at e1 e2
    obtain ⟨c, hc, rfl⟩ := Option.map_eq_some_iff.mp e1
    rw [hc] at e2
    cases e2
    exact ⟨rfl, #[], hP c (List.mem_of_getElem? hc), True.intro, fun pos cv hc => by
      have z : codeAmong pos [] = some cv := hc
      simp [codeAmong] at z⟩
theorem law_startT {K : PySem.W.Frag} {mg : Str → Option Value} {H : Hp} {cs : List (Addr × Str)} {a : Addr} {ns : List Int} {g : SemL} (nd : (cs.map (·.1)).Nodup) (hP : ∀ c ∈ cs, H c.1 = some (.tbl #[])) (hS : SqL K H a (ns.map V.int)) (h : ∃ S, g [.scr ns] (tabsOf cs) = .ok (.bl true) S) : spOf K mg 1 g [.ref a] H (fun v _ => v = .bl true) fun _ _ _ => False := by
  obtain ⟨S', e⟩ := h
  refine ⟨cs.map (·.1), tabsOf cs, [.scr ns], rfl, wok_tabs nd hP, RepL.cons ?_ RepL.nil, ?_⟩
  · rw [Rep]
    refine ⟨a, rfl, ?_⟩
    rcases hS with h1 | h1
    · refine .inl ⟨fun hm => ?_, h1⟩
      obtain ⟨c, hc, ea⟩ := List.mem_map.mp hm
      subst ea
      rcases h1 with h1 | ⟨o, h1⟩ <;> (rw [hP c hc] at h1; cases h1)
    · exact .inr h1
  · rw [e]
    exact fun v ρ' H' _ _ r => rep_bl r
def bodyS : Stmt → List Stmt
  | .FunctionDef _ _ b .. => b
  | .If _ b .. => b
  | .For _ _ b .. => b
  | .While _ b .. => b
  | .Try b .. => b
  | _ => []
def nthS (l : List Stmt) (i : Nat) : Stmt := l.getD i (.Pass ⟨0, 0, 0, 0⟩)
def valS : Stmt → Expr
  | .Assign _ v _ => v
  | .Return (some v) _ => v
  | .Expr v _ => v
  | .If v .. => v
  | _ => .Constant .none 0 ⟨0, 0, 0, 0⟩
def nthE (l : List Expr) (i : Nat) : Expr := l.getD i (.Constant .none 0 ⟨0, 0, 0, 0⟩)
/-- the i-th part of an expression -/
def kidE : Expr → Nat → Expr
  | .List es _, i => nthE es i
  | .Tuple es _ _, i => nthE es i
  | .Call _ es _ _, i => nthE es i
  | .BinOp a _ b _, i => if i = 0 then a else b
  | .UnaryOp _ a _, _ => a
  | .BoolOp _ es _, i => nthE es i
  | .Compare a _ es _, i => if i = 0 then a else nthE es (i - 1)
  | .IfExp c a b _, i => if i = 0 then c else if i = 1 then a else b
  | .Subscript a b _, i => if i = 0 then a else b
  | _, _ => .Constant .none 0 ⟨0, 0, 0, 0⟩
def lamParams : Expr → Arguments
  | .Lambda a _ _ _ => a
  | _ => ⟨[], [], none, [], [], none, []⟩
def lamBody : Expr → Expr
  | .Lambda _ b _ _ => b
  | e => e
def lamScope (d : Scope) : Expr → Scope
  | .Lambda _ _ s _ => s
  | _ => d
theorem lam_bind0 {T : LamText} (hd : T.dvs = []) (h : ∀ (clo : List (Str × Addr)) (pm doc cdv ctv : Value), bindArgs (PySem.W.kdv_fn "<lambda>" T.qual T.params (.expr T.body) T.scope clo .none doc pm cdv ctv) ⟨[], []⟩ = pure []) (s : Shared) (clo : List (Str × Addr)) (pm doc cdv ctv dV : Value) (D : DfH s.heap T.dvs dV) :
    ∃ us, Vals T.dvs us ∧ BindsTo s (PySem.W.kdv_fn "<lambda>" T.qual T.params (.expr T.body) T.scope clo dV doc pm cdv ctv) ⟨[], []⟩ (([] : List Str).zip us) := by
  rcases D with ⟨_, rfl⟩ | ⟨n, _⟩
  · exact ⟨[], by rw [hd]; exact .nil, .of_eq (h clo pm doc cdv ctv)⟩
  · exact absurd hd n
end Z
namespace Z
open PySem PySem.Spec L2 PyProof.Rows
section
variable {X : Cx} {W : WX}
theorem r_bad {e : Expr} : E X W e eBad := ⟨fun pins s σ H Q I ⟨ρ, S, sl, w, r, p⟩ => p.elim⟩
theorem try_nil {cs : List Value} : TryOk X cs [] := fun c b h => by cases h
theorem try_cons {cs : List Value} {c : Str} {C : Addr} {b : Bool} {tab : List (Str × Bool)} (hm : X.mg c = some (.ref C)) (h : PySem.W.exmAny X.K (.ref C) cs = some b) (r : TryOk X cs tab) : TryOk X cs ((c, b) :: tab) := fun c' b' h' C' hm' => by
  rw [List.lookup_cons] at h'
  cases q : c' == c with
  | true =>
    rw [q] at h'
    cases h'
    have : c' = c := by simpa using q
    subst this
    rw [hm] at hm'
    cases hm'
    exact h
  | false =>
    rw [q] at h'
    exact r c' b' h' C' hm'
theorem xat_nil {f : Str} : XatOk X f [] := fun c h => by cases h
theorem xat_cons {f c : Str} {C : Addr} {cs : List Str} (hm : X.mg c = some (.ref C)) (h : XfC X.K C) (hf : PySem.W.findIn X.K (.ref C) f = some none) (r : XatOk X f cs) : XatOk X f (c :: cs) := fun c' h' C' hm' => by
  rcases List.mem_cons.mp h' with e | e
  · subst e
    rw [hm] at hm'
    cases hm'
    exact ⟨h, hf⟩
  · exact r c' e C' hm'
theorem hcn_nil : ∀ n ∈ ([] : List Str), X.env.kindOf n = some .cell := fun n h => by cases h
theorem hcn_cons {n : Str} {l : List Str} (h : X.env.kindOf n = some .cell) (r : ∀ m ∈ l, X.env.kindOf m = some .cell) : ∀ m ∈ n :: l, X.env.kindOf m = some .cell := fun m hm => by
  rcases List.mem_cons.mp hm with e | e
  · rw [e]; exact h
  · exact r m e
theorem RoomH.hot {k j : Nat} {A : Around} (r : Room k A) (h : j ≤ k) {x : Option Value} : L2H.RoomH j (A.mark x) := ⟨by have := r.dp; show A.depth + 3 * j + 5 < _; omega, by have := r.un; show A.units + 16 * j + 200 < _; omega⟩
theorem hotU {k : Nat} {A : Around} (r : L2H.RoomH k A) : A.units + 64 < cLine := by have := r.un; omega
theorem isi_nil : IsiOk X [] := ⟨fun D y n h => by cases h⟩
theorem isi_cons {D : Str} {DC : Addr} {yes no : List Str} {tab : List (Str × List Str × List Str)} (hm : X.mg D = some (.ref DC)) (h1 : ((PySem.W.clsIn X.K DC).isSome && PySem.W.typeIn X.K (.ref DC) == some (.type "type")) = true)
    (h2 : ∀ c ∈ yes, ∀ C, X.mg c = some (.ref C) → InsT X.K C ∧ PySem.W.kitOne X.K (.ref C) (.ref DC) = some true) (h3 : ∀ c ∈ no, ∀ C, X.mg c = some (.ref C) → InsT X.K C ∧ PySem.W.kitOne X.K (.ref C) (.ref DC) = some false) (r : IsiOk X tab) : IsiOk X ((D, yes, no) :: tab) := ⟨fun D' y n h' C' hm' => by
  rw [List.lookup_cons] at h'
  cases q : D' == D with
  | true =>
    rw [q] at h'
    cases h'
    have : D' = D := by simpa using q
    subst this
    rw [hm] at hm'
    cases hm'
    exact ⟨h1, h2, h3⟩
  | false =>
    rw [q] at h'
    exact r.at_ D' y n h' C' hm'⟩
theorem ici_nil {DC : Addr} {b : Bool} : ∀ c ∈ ([] : List Str), ∀ C, X.mg c = some (.ref C) → InsT X.K C ∧ PySem.W.kitOne X.K (.ref C) (.ref DC) = some b := fun c h => by cases h
theorem ici_cons {DC C : Addr} {b : Bool} {c : Str} {l : List Str} (hm : X.mg c = some (.ref C)) (t : InsT X.K C) (h : PySem.W.kitOne X.K (.ref C) (.ref DC) = some b) (r : ∀ c ∈ l, ∀ C, X.mg c = some (.ref C) → InsT X.K C ∧ PySem.W.kitOne X.K (.ref C) (.ref DC) = some b) : ∀ c' ∈ c :: l, ∀ C, X.mg c' = some (.ref C) → InsT X.K C ∧ PySem.W.kitOne X.K (.ref C) (.ref DC) = some b := fun c' h' C' hm' => by
  rcases List.mem_cons.mp h' with e | e
  · subst e
    rw [hm] at hm'
    cases hm'
    exact ⟨t, h⟩
  · exact r c' e C' hm'
end
noncomputable def consL (T : LamText) (l : SemL) (L : LamText → Option SemL) : LamText → Option SemL := fun T' => open Classical in if T' = T then some l else L T'
def nilL : LamText → Option SemL := fun _ => none
section
variable {P : Program} {w : World} {K : PySem.W.Frag} {mg : Str → Option Value} {base : Heap}
def LOk (P : Program) (w : World) (K : PySem.W.Frag) (mg : Str → Option Value) (base : Heap) (k : Nat) (L : LamText → Option SemL) : Prop := ∀ T l, L T = some l → LamOk P w K mg base k T l
theorem lok_nil {k : Nat} : LOk P w K mg base k nilL := fun T l h => by cases h
theorem lok_cons {j k : Nat} {T : LamText} {l : SemL} {L : LamText → Option SemL} (h : LamOk P w K mg base j T l) (e : j ≤ k) (r : LOk P w K mg base k L) : LOk P w K mg base k (consL T l L) := fun T' l' h' => by
  unfold consL at h'
  split at h'
  · rename_i q
    cases h'
    subst q
    exact h.mono e
  · exact r T' l' h'
end
theorem consL_same {T : LamText} {l : SemL} {L : LamText → Option SemL} : consL T l L T = some l := if_pos rfl
theorem consL_ne {T T' : LamText} {l : SemL} {L : LamText → Option SemL} (h : T'.id ≠ T.id) : consL T l L T' = L T' := if_neg fun e => h (by rw [e])
end Z
namespace PySem.W
open PySem PySem.Calls PyProof.Rows
end PySem.W
namespace Z
open PySem PySem.Spec L2
section
variable {X : Cx} {W : WX}
theorem hw1 {A : Around} (h : A.units + 64 < cLine) : A.units + 1 < cLine := by omega
end
end Z
namespace Z
open PySem PySem.Spec L2 PyProof.Rows
end Z
namespace Z
open PySem PySem.Spec L2 PyProof.Rows
end Z
namespace Z
open PySem PySem.Spec L2 PyProof.Rows
end Z
namespace Z
open PySem PySem.Spec L2 PyProof.Rows
end Z
namespace Z
open PySem PySem.Spec L2 PyProof.Rows
end Z
namespace Z
open PySem PySem.Spec L2 PyProof.Rows
end Z
namespace Z
open PySem PySem.Spec L2
section
variable {sl : Sl} {S : Store} {P : D → Store → Prop} {PB : Bool → Store → Prop} {X : D → Store → Prop} {Q : Q0} {f1 f2 : EX} {fa fk : AX} {fb fs : SX}
theorem convL_c {cn N : List Str} {κ : List (Str × Addr)} {d a : D} {ds b : List D} (h : conv cn N κ sl d = some a) (h2 : convL cn N κ sl ds = some b) : convL cn N κ sl (d :: ds) = some (a :: b) := by rw [convL, h, h2]
theorem convL_n {cn N : List Str} {κ : List (Str × Addr)} : convL cn N κ sl [] = some [] := by rw [convL]
theorem conv_lst {cn N : List Str} {κ : List (Str × Addr)} {ds b : List D} (h : convL cn N κ sl ds = some b) : conv cn N κ sl (.lst ds) = some (.lst b) := by rw [conv, h]; rfl
theorem w_callLc {L : LamText → Option SemL} {i : Nat} {T : LamText} {caps : List D} {l : SemL} (h1 : sl[i]? = some (some (.lamc T caps))) (h2 : L T = some l) (h3 : noLcS S = true) (h4 : noLcL caps = true) : We (callLc L i sl S) P X = We (l caps S) P X := by
  unfold callLc
  rw [h1]
  dsimp only
  rw [h2]
  dsimp only
  rw [if_pos ⟨h3, h4⟩]
theorem we_lamF {dds : List D} {fl : EX} {caps : List D} : We (lamF dds fl caps S) P X = We (fl ((caps ++ dds).map some) S) (FinP S P) (FinP S X) := we_fin
theorem conv_lam {cn N : List Str} {κ : List (Str × Addr)} {T : LamText} {caps : List D} (h1 : T.names.Nodup) (h2 : ∀ n ∈ T.names, n ∈ cn ∧ T.scope.names.lookup n = some .free) (h3 : capsOf N sl T.names = some caps) : conv cn N κ sl (.lam T (cloFrom κ T.scope.names [])) = some (.lamc T caps) := by
  rw [conv, if_pos ⟨rfl, h1, h2⟩, h3]
  rfl
theorem kwS_eq {n m N : Nat} {ix : List Nat} {dds ds : List D} {g : SemL} (h : ds.length = n + m ∧ (pickL ix (ds ++ dds)).length = N) : kwS n m N ix dds g ds S = g (pickL ix (ds ++ dds)) S := if_pos h
end
end Z
namespace Z
open PySem PySem.Spec L2
/-- common_divisor -/
noncomputable def m_common_divisor : SX :=
  (sSeq (sPar 0 1 (aCons (eArgs semAbs (aCons (eName 0) aNil)) (aCons (eArgs semAbs (aCons (eName 1) aNil)) aNil)))
  (sSeq (sWhile (bVal (eBin gtI (eName 1) (eLit (.int 0))))
  (sPar 0 1 (aCons (eName 1) (aCons (eBin modI (eName 0) (eName 1)) aNil))))
  (sRet (eName 0))))
noncomputable def f_common_divisor : SemL := arity 2 (defS 2 m_common_divisor)
/-- is_whole -/
noncomputable def m_is_whole : SX :=
  (sRet (eAnd (eArgs isiX (aCons (eName 0) (aCons (eLit (.ty "int")) aNil))) (eNot (eArgs isiX (aCons (eName 0) (aCons (eLit (.ty "bool")) aNil))))))
noncomputable def f_is_whole : SemL := arity 1 (defS 1 m_is_whole)
/-- Ratio.__init__ -/
noncomputable def m_Ratio___init__ : SX :=
  (sSeq (sIf (bNot (bVal (eArgs f_is_whole (aCons (eName 1) aNil))))
  (sRaise (eArgs (excS "InvalidRatio" "InvalidRatio" ["value"]) (aCons (eName 1) aNil)))
  sNil)
  (sSeq (sIf (bOr (bNot (bVal (eArgs f_is_whole (aCons (eName 2) aNil)))) (bVal (eBin (eqD false) (eName 2) (eLit (.int 0)))))
  (sRaise (eArgs (excS "InvalidRatio" "InvalidRatio" ["value"]) (aCons (eName 2) aNil)))
  sNil)
  (sSeq (sAsg (eArgs f_common_divisor (aCons (eName 1) (aCons (eName 2) aNil))) (gSet 3))
  (sSeq (sFldZ ["Ratio"] "own_top" (eIf (bVal (eBin gtI (eName 2) (eLit (.int 0)))) (eBin divI (eName 1) (eName 3)) (eBin divI (eUn negI (eName 1)) (eName 3))) (eName 0))
  (sFldZ ["Ratio"] "own_bottom" (eBin divI (eArgs semAbs (aCons (eName 2) aNil)) (eName 3)) (eName 0))))))
noncomputable def f_Ratio___init__ : SemL := defsS 3 [(.int 1)] (defS 4 m_Ratio___init__)
/-- _law_gcd -/
noncomputable def m__law_gcd : SX :=
  (sSeq (sPar 2 3 (aCons (eArgs semAbs (aCons (eName 0) aNil)) (aCons (eArgs semAbs (aCons (eName 1) aNil)) aNil)))
  (sSeq (sWhile (bVal (eBin gtI (eName 3) (eLit (.int 0))))
  (sPar 2 3 (aCons (eName 3) (aCons (eBin modI (eArgs semInt (aCons (eName 2) aNil)) (eName 3)) aNil))))
  (sRet (eName 2))))
noncomputable def f__law_gcd : SemL := arity 2 (defS 4 m__law_gcd)
/-- _law_frac -/
noncomputable def m__law_frac : SX :=
  (sSeq (sAsg (eArgs f__law_gcd (aCons (eName 0) (aCons (eName 1) aNil))) (gSet 2))
  (sRet (eIf (bVal (eBin gtI (eName 1) (eLit (.int 0)))) (eArgs semTup (aCons (eBin divI (eName 0) (eName 2)) (aCons (eBin divI (eName 1) (eName 2)) aNil))) (eArgs semTup (aCons (eBin subI (eLit (.int 0)) (eBin divI (eName 0) (eName 2))) (aCons (eBin subI (eLit (.int 0)) (eBin divI (eName 1) (eName 2))) aNil))))))
noncomputable def f__law_frac : SemL := arity 2 (defS 3 m__law_frac)
theorem Bd.log {n : Nat} {x : Int} (h : Bd n x) (hn : 0 < n) : x.natAbs.log2 < n := by
  by_cases h0 : x.natAbs = 0
  · rw [h0]; simpa using hn
  · exact (Nat.log2_lt h0).mpr h
theorem mulB_of {n m : Nat} {x y : Int} (S : Store) (h : Bd n x) (h2 : Bd m y) (hn : 0 < n) (hm : 0 < m) (hl : n + m ≤ 1000000) : mulX (.int x) (.int y) S = .ok (.int (x * y)) S := by
  have := h.log hn
  have := h2.log hm
  exact mulX_int (by omega) S
theorem euclid_step {a b k : Nat} (hb : 0 < b) (hab : b ≤ a) (h : a * b < 2 ^ k) : ∃ j, j < k ∧ b * (a % b) < 2 ^ j := by
  have hk : 0 < k := by
    rcases Nat.eq_zero_or_pos k with rfl | h'
    · have : 0 < a * b := Nat.mul_pos (by omega) hb
      simp at h; omega
    · exact h'
  refine ⟨k - 1, by omega, ?_⟩
  have h1 : 2 * (a % b) ≤ a := by
    have h2 := Nat.mod_lt a hb
    have h3 : a % b + b ≤ a := by
      have := Nat.div_add_mod a b
      have h5 : 0 < a / b := Nat.div_pos hab hb
      have h6 : b * 1 ≤ b * (a / b) := Nat.mul_le_mul_left b h5
      omega
    omega
  have h2 : 2 * (b * (a % b)) ≤ a * b := by
    calc 2 * (b * (a % b)) = (2 * (a % b)) * b := by rw [← Nat.mul_assoc, Nat.mul_comm 2 b, Nat.mul_assoc, Nat.mul_comm]
    _ ≤ a * b := Nat.mul_le_mul_right b h1
  have h3 : 2 ^ k = 2 * 2 ^ (k - 1) := by
    conv => lhs; rw [show k = (k - 1) + 1 by omega]
    rw [Nat.pow_succ, Nat.mul_comm]
  omega
/-- the pair, k steps before the end -/
def EuI (g : Nat) (k : Nat) (a b : Int) : Prop := ∃ m n : Nat, a = m ∧ b = n ∧ Nat.gcd m n = g ∧ ((n ≤ m ∧ m * n < 2 ^ k) ∨ (1 ≤ k ∧ m < n ∧ m * n < 2 ^ (k - 1)))
theorem EuI.step {g k : Nat} {a b : Int} (h : EuI g k a b) (hb : 0 < b) : ∃ j, j < k ∧ EuI g j b (a % b) := by
  obtain ⟨m, n, rfl, rfl, hg, h⟩ := h
  have hn : 0 < n := by omega
  have e : ((m : Int) % (n : Int)) = ((m % n : Nat) : Int) := by simp
  have hg' : Nat.gcd n (m % n) = g := by rw [← hg, Nat.gcd_comm m n, Nat.gcd_rec n m, Nat.gcd_comm]
  rcases h with ⟨h1, h2⟩ | ⟨h0, h1, h2⟩
  · obtain ⟨j, hj, h3⟩ := euclid_step hn h1 h2
    exact ⟨j, hj, n, m % n, rfl, e, hg', .inl ⟨Nat.le_of_lt (Nat.mod_lt _ hn), h3⟩⟩
  · refine ⟨k - 1, by omega, n, m % n, rfl, e, hg', .inl ⟨Nat.le_of_lt (Nat.mod_lt _ hn), ?_⟩⟩
    rw [Nat.mod_eq_of_lt h1, Nat.mul_comm]; exact h2
theorem EuI.start {n m : Nat} {p q : Int} (h : Bd n p) (h2 : Bd m q) : EuI (Int.gcd p q) (n + m + 1) (if p < 0 then -p else p) (if q < 0 then -q else q) := by
  have e : ∀ x : Int, (if x < 0 then -x else x) = (x.natAbs : Int) := fun x => by split <;> omega
  refine ⟨p.natAbs, q.natAbs, e p, e q, rfl, ?_⟩
  have h3 : p.natAbs * q.natAbs < 2 ^ (n + m) := by have := h.mul h2; unfold Bd at this; rwa [Int.natAbs_mul] at this
  by_cases q' : q.natAbs ≤ p.natAbs
  · exact .inl ⟨q', Nat.lt_of_lt_of_le h3 (Nat.pow_le_pow_right (by decide) (by omega))⟩
  · exact .inr ⟨by omega, by omega, by simpa using h3⟩
theorem EuI.last {g k : Nat} {a b : Int} (h : EuI g k a b) (hb : ¬ 0 < b) : a = g := by
  obtain ⟨m, n, rfl, rfl, hg, _⟩ := h
  have : n = 0 := by omega
  subst this
  rw [← hg]; simp
theorem cd_eq {p q : Int} {n m : Nat} (hp : Bd n p) (hq : Bd m q) (hl : n + m < 900000) (S : Store) : f_common_divisor [.int p, .int q] S = .ok (.int (Int.gcd p q)) S := by
  refine eq_of_we ?_
  unfold f_common_divisor
  refine we_def rfl ?_
  simp [m_common_divisor, semAbs]
  refine wo_whileK (n + m + 1) (fun k sl S1 => S1 = S ∧ ∃ a b, sl = [some (.int a), some (.int b)] ∧ EuI (Int.gcd p q) k a b) ⟨rfl, _, _, rfl, EuI.start hp hq⟩ (by omega) ?_
  rintro k sl S1 ⟨rfl, a, b, rfl, h⟩
  by_cases hb : 0 < b
  · simp [hb, modI_int hb]
    obtain ⟨j, h1, h2⟩ := h.step hb
    exact ⟨j, h1, _, _, ⟨rfl, rfl⟩, h2⟩
  · simp [hb]
    exact h.last hb
theorem lgcd_eq {p q : Int} {n m : Nat} (hp : Bd n p) (hq : Bd m q) (hl : n + m < 900000) (S : Store) : f__law_gcd [.int p, .int q] S = .ok (.int (Int.gcd p q)) S := by
  refine eq_of_we ?_
  unfold f__law_gcd
  refine we_def rfl ?_
  simp [m__law_gcd, semAbs]
  refine wo_whileK (n + m + 1) (fun k sl S1 => S1 = S ∧ ∃ a b, sl = [some (.int p), some (.int q), some (.int a), some (.int b)] ∧ EuI (Int.gcd p q) k a b) ⟨rfl, _, _, rfl, EuI.start hp hq⟩ (by omega) ?_
  rintro k sl S1 ⟨rfl, a, b, rfl, h⟩
  by_cases hb : 0 < b
  · simp [hb, modI_int hb, semInt]
    obtain ⟨j, h1, h2⟩ := h.step hb
    exact ⟨j, h1, _, _, ⟨rfl, rfl⟩, h2⟩
  · simp [hb]
    exact h.last hb
theorem gcd_bd {n : Nat} {p q : Int} (h : Bd n q) (hq : q ≠ 0) : Bd n (Int.gcd p q : Int) := by
  refine h.of_le ?_
  have := Nat.le_of_dvd (by omega) (Int.gcd_dvd_natAbs_right p q)
  simpa using this
theorem frac_eq {p q : Int} {n m : Nat} (hp : Bd n p) (hq : Bd m q) (hl : n + m < 8000) (hm : 0 < m) (h0 : q ≠ 0) (S : Store) : f__law_frac [.int p, .int q] S = .ok (fracD p q) S := by
  refine eq_of_we ?_
  unfold f__law_frac
  refine we_def rfl ?_
  have hg := gcd_pos (p := p) h0
  have hgl := (gcd_bd (p := p) hq h0).log hm
  have e1 : ∀ i S, divI (.int i) (.int (Int.gcd p q)) S = .ok (.int (i / (Int.gcd p q : Int))) S := fun i S => divI_int hg (by omega) S
  simp [m__law_frac, lgcd_eq hp hq (by omega)]
  by_cases q0 : 0 < q
  · have ea : (q.natAbs : Int) = q := by omega
    simp [q0, e1, fracD, num, den, ea]
    exact finP_same (by simp) ⟨rfl, rfl⟩
  · have ea : (q.natAbs : Int) = -q := by omega
    simp [q0, e1, fracD, num, den, ea, Int.neg_ediv_of_dvd (Int.gcd_dvd_left p q), Int.neg_ediv_of_dvd (Int.gcd_dvd_right p q)]
    exact finP_same (by simp) ⟨rfl, rfl⟩
theorem frz_ins {S1 : Store} {c : Str} {ns : List Str} {vs : List D} (h : underL S1.length vs = true) : frzD (frzP (S1 ++ [.ins c ns vs]) S1.length 6) (.ptr S1.length) = some (.ins c ns vs) := by
  rw [frzD, frzP, if_neg (Nat.lt_irrefl _)]
  rw [List.getElem?_append_right (Nat.le_refl _)]
  simp only [Nat.sub_self, List.getElem?_cons_zero]
  rw [frzL_of h]
  rfl
theorem finP_ins {S S1 : Store} {P : D → Store → Prop} {c : Str} {ns : List Str} {vs : List D} (h : Keep S S1) (hu : underL S.length vs = true) (p : P (.ins c ns vs) S1) : FinP S P (.ptr S1.length) (S1 ++ [.ins c ns vs]) := by
  refine finP_keep h ?_ p
  rw [← h.len] at hu ⊢
  exact frz_ins hu
theorem setF_at {cs : List Str} {f c : Str} {n : Nat} {v : D} {S : Store} {ns : List Str} {vs : List D} (h : S[n]? = some (.ins c ns vs)) (hc : c ∈ cs) (hn : ns.length < 1000) : setF cs f (.ptr n) v S = some (S.set n (.ins c (putN f v ns vs).1 (putN f v ns vs).2)) := by
  simp only [setF, h]
  rw [if_pos ⟨hc, hn⟩]
theorem whole_int (i : Int) (S : Store) : f_is_whole [.int i] S = .ok (.bl true) S := by
  refine eq_of_we ?_
  unfold f_is_whole
  refine we_def rfl ?_
  simp [m_is_whole]
theorem put_top {v : D} : putN "own_top" v [] [] = ((["own_top"] : List Str), [v]) := by simp [putN]
theorem put_bottom {v u : D} : putN "own_bottom" v ["own_top"] [u] = ((["own_top", "own_bottom"] : List Str), [u, v]) := by
  simp only [putN]
  rw [if_neg (by decide)]
theorem init_ok {p q : Int} {n m : Nat} (hp : Bd n p) (hq : Bd m q) (hl : n + m < 8000) (hm : 0 < m) (h0 : q ≠ 0) (S : Store) {P X : D → Store → Prop} (hP : P .non (S ++ [.ins "Ratio" ["own_top", "own_bottom"] [.int (num p q), .int (den p q)]])) :
    We (defS 4 m_Ratio___init__ [.ptr S.length, .int p, .int q] (S ++ [.ins "Ratio" [] []])) P X := by
  refine we_defS.mpr ?_
  have hg := gcd_pos (p := p) h0
  have hgl := (gcd_bd (p := p) hq h0).log hm
  have e1 : ∀ i S, divI (.int i) (.int (Int.gcd p q)) S = .ok (.int (i / (Int.gcd p q : Int))) S := fun i S => divI_int hg (by omega) S
  have ea : (if q < 0 then -q else q) = (q.natAbs : Int) := by split <;> omega
  have hkeep := Keep.set (S := S ++ [.ins "Ratio" [] []]) (n := S.length) (m := .ins "Ratio" ["own_top", "own_bottom"] [.int (num p q), .int (den p q)]) (by simp [underM])
  rw [set_last rfl] at hkeep
  by_cases q0 : 0 < q
  · simp [m_Ratio___init__, whole_int, h0, cd_eq hp hq (by omega), q0, e1, semAbs, ea]
    refine ⟨_, setF_at (c := "Ratio") (ns := []) (vs := []) (by simp) (by simp) (by simp), _, setF_at (c := "Ratio") (ns := ["own_top"]) (vs := [.int (p / (Int.gcd p q : Int))]) (by simp [put_top]) (by simp) (by simp), ?_⟩
    rw [set_last rfl, set_last rfl]
    simp only [put_top, put_bottom]
    have : num p q = p / (Int.gcd p q : Int) := by simp [num, q0]
    rw [← this]
    exact finP_keep0 hkeep (by simp) hP
  · simp [m_Ratio___init__, whole_int, h0, cd_eq hp hq (by omega), q0, e1, semAbs, ea]
    refine ⟨_, setF_at (c := "Ratio") (ns := []) (vs := []) (by simp) (by simp) (by simp), _, setF_at (c := "Ratio") (ns := ["own_top"]) (vs := [.int ((-p) / (Int.gcd p q : Int))]) (by simp [put_top]) (by simp) (by simp), ?_⟩
    rw [set_last rfl, set_last rfl]
    simp only [put_top, put_bottom]
    have : num p q = (-p) / (Int.gcd p q : Int) := by simp [num, q0]
    rw [← this]
    exact finP_keep0 hkeep (by simp) hP
section
variable {S : Store} {P X : D → Store → Prop} {p q : Int} {n m : Nat}
theorem make_ok (hp : Bd n p) (hq : Bd m q) (hl : n + m < 8000) (hm : 0 < m) (h0 : q ≠ 0) (h : P (ratD (num p q) (den p q)) S) : We (makeS "Ratio" f_Ratio___init__ [.int p, .int q] S) (FinP S P) X := by
  unfold makeS
  rw [we_bind]
  unfold f_Ratio___init__
  rw [w_defsS (by simp)]
  refine init_ok hp hq hl hm h0 S ?_
  simp
  exact finP_ins (Keep.refl S) (by simp) h
theorem num1 : num p 1 = p := by simp [num]
theorem den1 : den p 1 = 1 := by simp [den]
end
end Z
namespace PySem.W
open PySem PySem.Spec PySem.Calls PyProof.Rows
end PySem.W
namespace Z
open PySem PySem.Spec L2 PyProof.Rows
end Z
namespace ZX
open PySem PySem.W PySem.Calls PyProof.Rows PySem.Spec
open L2 (V Vals RelV RelO)
/-- an __init__ that is called with mk's arguments -/
def InitOkA (mk : List Value → Args) (prog : Program) (w : World) (base : Heap) (k : Nat) (f C : Addr) (G : List V → Option (List (Str × V))) : Prop :=
  ∀ (A : Around) (s : Shared) (x t : Addr) (us : List Value) (vs : List V) (fs : List (Str × V)) (R : Result → Shared → Prop), A.depth + k < recursionLimit → (∀ b o, base.get? b = some o → s.heap.get? b = some o) → base.get? x = none → s.heap.get? x = some (exd C t none) → Vals vs us → G vs = some fs →
    (∀ h' tk t' dx m, (∀ b o, b ≠ x → s.heap.get? b = some o → h'.get? b = some o) → s.heap.objs.size ≤ dx → h'.get? x = some (exd C t' (some dx)) → h'.Ns1 dx m → (∀ g, RelO (fs.lookup g) (m g)) → R (.ok (.ret .none)) { s with heap := h', toks := tk }) →
    codeAny (model prog w) A (.call (.ref f) (mk (.ref x :: us))) R s
theorem InitOkA.cast {mk : List Value → Args} {prog : Program} {w : World} {base : Heap} {k : Nat} {f C : Addr} {G G' : List V → Option (List (Str × V))} (h : InitOkA mk prog w base k f C G) (e : ∀ vs, G' vs = G vs) : InitOkA mk prog w base k f C G' := fun A s x t us vs fs R h1 h2 h3 h4 h5 h6 h7 => h A s x t us vs fs R h1 h2 h3 h4 h5 (by rw [← e]; exact h6) h7
end ZX
namespace PySem.HandSPX
open PySem PySem.Spec Builtin Builtin.ObjectAttr
end PySem.HandSPX
namespace Z
open PySem PySem.Spec L2
end Z
namespace Z
open PySem PySem.Spec L2
theorem excB_ok {K : PySem.W.Frag} {D : Addr} (h : excB K D = true) : ExcC K D := by
  unfold excB at h
  simp only [Bool.and_eq_true, decide_eq_true_eq] at h
  obtain ⟨h1, h2, h3, h4, h5, h6⟩ := h
  exact ⟨h1, h2, h3, h4, h5, cls_get K, cls_takes K, h6⟩
end Z
namespace Z
open PySem PySem.Spec L2
theorem xh2_ok {K : PySem.W.Frag} {C Cb ai ab : Addr} {bm : List Value} {R nw it : String} {nx : Value} {fs : List Str} (h : xh2B K C Cb ai ab bm R nw it nx fs = true) : XH2 K C Cb ai ab bm R nw it nx fs := by
  unfold xh2B at h
  obtain ⟨h1, h⟩ := Bool.and_eq_true_iff.mp h
  obtain ⟨h2, h⟩ := Bool.and_eq_true_iff.mp h
  obtain ⟨h3, h⟩ := Bool.and_eq_true_iff.mp h
  obtain ⟨h4, h⟩ := Bool.and_eq_true_iff.mp h
  obtain ⟨h5, h⟩ := Bool.and_eq_true_iff.mp h
  obtain ⟨h6, h⟩ := Bool.and_eq_true_iff.mp h
  obtain ⟨h7, h⟩ := Bool.and_eq_true_iff.mp h
  obtain ⟨h8, h⟩ := Bool.and_eq_true_iff.mp h
  obtain ⟨h9, h⟩ := Bool.and_eq_true_iff.mp h
  obtain ⟨h10, h⟩ := Bool.and_eq_true_iff.mp h
  obtain ⟨h11, h⟩ := Bool.and_eq_true_iff.mp h
  obtain ⟨h12, h⟩ := Bool.and_eq_true_iff.mp h
  obtain ⟨h13, h⟩ := Bool.and_eq_true_iff.mp h
  obtain ⟨h14, h⟩ := Bool.and_eq_true_iff.mp h
  obtain ⟨h15, h⟩ := Bool.and_eq_true_iff.mp h
  obtain ⟨h16, h⟩ := Bool.and_eq_true_iff.mp h
  obtain ⟨h17, h⟩ := Bool.and_eq_true_iff.mp h
  obtain ⟨h18, h⟩ := Bool.and_eq_true_iff.mp h
  exact ⟨h1, h2, h3, h4, of_decide_eq_true h5, h6, of_decide_eq_true h7, of_decide_eq_true h8, of_decide_eq_true h9, of_decide_eq_true h10, of_decide_eq_true h11, of_decide_eq_true h12, of_decide_eq_true h13, of_decide_eq_true h14, of_decide_eq_true h15, of_decide_eq_true h16, h17, h18, h⟩
theorem XH2.xf {K : PySem.W.Frag} {C Cb ai ab : Addr} {bm : List Value} {R nw it : String} {nx : Value} {fs : List Str} (h : XH2 K C Cb ai ab bm R nw it nx fs) : XfC K C := by
  have := excB_ok h.xe
  exact ⟨this.hg, this.hk, this.hs, this.hd⟩
end Z
namespace Z
open PySem PySem.Spec L2 PyProof.Rows
end Z
namespace Z
open PySem PySem.Spec L2
theorem digits_len : ∀ (k fuel n : Nat) (ds : List Char), n < 2 ^ k → (Nat.toDigitsCore 10 fuel n ds).length ≤ ds.length + (k + 1)
  | k, 0, n, ds, h => by simp [Nat.toDigitsCore]
  | k, fuel + 1, n, ds, h => by
    unfold Nat.toDigitsCore
    simp only
    split
    · simp
    · rename_i h0
      match k, h with
      | 0, h => simp at h; subst h; simp at h0
      | k + 1, h =>
        have h2 : n / 10 < 2 ^ k := by rw [Nat.pow_succ] at h; omega
        have := digits_len k fuel (n / 10) (Nat.digitChar (n % 10) :: ds) h2
        simp at this ⊢
        omega
theorem repr_len {k n : Nat} (h : n < 2 ^ k) : (Nat.repr n).length ≤ k + 1 := by
  have := digits_len k (n + 1) n [] h
  simpa [Nat.repr, Nat.toDigits] using this
theorem dg_len {k : Nat} {i : Int} (h : Bd k i) : (dg i).length ≤ k + 2 := by
  have e : (dg i).length = (toString i).length := by
    have := PyProof.Rows.ofString_len (toString i)
    unfold dg
    simpa [Str.length] using this
  rw [e]
  cases i with
  | ofNat m =>
    have := repr_len (k := k) (n := m) (by unfold Bd at h; simpa using h)
    show (Nat.repr m).length ≤ _
    omega
  | negSucc m =>
    have := repr_len (k := k) (n := m + 1) (by unfold Bd at h; simpa using h)
    show ("-" ++ Nat.repr (m + 1)).length ≤ _
    have h1 : "-".length = 1 := by decide
    rw [String.length_append]
    omega
theorem dg_ok (i : Int) : okS (dg i) := okS_lit _
section
variable {sl : Sl} {S : Store} {P X : D → Store → Prop}
theorem w_joinNil {acc : List Nat} : We (joinGo [] (tx acc) sl S) P X = P (.str (tx acc)) S := by rw [joinGo]; simp
theorem w_joinCons {f : EX} {fs : List EX} {acc : List Nat} : We (joinGo (f :: fs) (tx acc) sl S) P X = We (f sl S) (fun d S1 => isS d fun l => acc.length + l.length ≤ 1000000 ∧ We (joinGo fs (tx (acc ++ l)) sl S1) P X) X := by
  rw [joinGo, we_bind]; congr 1; funext d S1
  cases d with
  | str y =>
    obtain ⟨l, rfl⟩ : ∃ l, y = tx l := ⟨_, (tx_eta y).symm⟩
    rw [isS_tx]
    simp only [tx_app, tx_len, List.length_append]
    by_cases h : acc.length + l.length ≤ 1000000
    · rw [if_pos h]; simp [h]
    · rw [if_neg h]; simp [h]
  | _ => simp [isS]
/-- the text of a fraction -/
def ratT (p q : Int) : List Nat := if q = 1 then dg p else dg p ++ 47 :: dg q
/-- Ratio.text -/
noncomputable def m_Ratio_text : SX :=
  (sRet (eIf (bVal (eBin (eqD false) (eAttrZ "own_bottom" [("Ratio", .fld)] (eName 0)) (eLit (.int 1)))) (eArgs semStr (aCons (eAttrZ "own_top" [("Ratio", .fld)] (eName 0)) aNil)) (eJoin [(eUn semFmt (eAttrZ "own_top" [("Ratio", .fld)] (eName 0))), (eLit (.str "/")), (eUn semFmt (eAttrZ "own_bottom" [("Ratio", .fld)] (eName 0)))])))
noncomputable def f_Ratio_text : SemL := arity 1 (defS 1 m_Ratio_text)
/-- _law_frac_text -/
noncomputable def m__law_frac_text : SX :=
  (sRet (eIf (bVal (eBin (eqD false) (eBin ixX (eName 0) (eLit (.int 1))) (eLit (.int 1)))) (eArgs semStr (aCons (eBin ixX (eName 0) (eLit (.int 0))) aNil)) (eBin addX (eBin addX (eArgs semStr (aCons (eBin ixX (eName 0) (eLit (.int 0))) aNil)) (eLit (.str "/"))) (eArgs semStr (aCons (eBin ixX (eName 0) (eLit (.int 1))) aNil)))))
noncomputable def f__law_frac_text : SemL := arity 1 (defS 1 m__law_frac_text)
/-- _law_field -/
noncomputable def m__law_field : SX :=
  (sSeq (sIf (bVal (eBin inX (eXat "tag" ["InvalidRatio"] (eName 0)) (eArgs semTup (aCons (eLit (.str "InvalidRatio")) (aCons (eLit (.str "InvalidWorld")) (aCons (eLit (.str "InvalidElement")) (aCons (eLit (.str "InvalidStep")) (aCons (eLit (.str "InvalidLimit")) aNil))))))))
  (sRet (eXat "value" ["InvalidRatio"] (eName 0)))
  sNil)
  (sSeq (sIf (bVal (eBin inX (eXat "tag" ["InvalidRatio"] (eName 0)) (eArgs semTup (aCons (eLit (.str "InvalidName")) (aCons (eLit (.str "WrongKind")) (aCons (eLit (.str "CircularName")) (aCons (eLit (.str "UnknownName")) aNil)))))))
  (sRet eBad)
  sNil)
  (sSeq (sIf (bVal (eBin inX (eXat "tag" ["InvalidRatio"] (eName 0)) (eArgs semTup (aCons (eLit (.str "InvalidPlan")) (aCons (eLit (.str "EmptyLoop")) aNil)))))
  (sRet eBad)
  sNil)
  (sSeq (sIf (bVal (eBin inX (eXat "tag" ["InvalidRatio"] (eName 0)) (eArgs semTup (aCons (eLit (.str "TooMany")) (aCons (eLit (.str "CapacityExceeded")) aNil)))))
  (sRet eBad)
  sNil)
  (sSeq (sIf (bVal (eBin inX (eXat "tag" ["InvalidRatio"] (eName 0)) (eArgs semTup (aCons (eLit (.str "InvalidText")) (aCons (eLit (.str "InvalidProgram")) aNil)))))
  (sRet (eIf (bVal (eBin (eqD false) (eXat "tag" ["InvalidRatio"] (eName 0)) (eLit (.str "InvalidText")))) eBad eBad))
  sNil)
  (sSeq (sIf (bVal (eBin inX (eXat "tag" ["InvalidRatio"] (eName 0)) (eArgs semTup (aCons (eLit (.str "InUse")) (aCons (eLit (.str "Breaks")) aNil)))))
  (sRet (eIf (bVal (eBin (eqD false) (eXat "tag" ["InvalidRatio"] (eName 0)) (eLit (.str "InUse")))) eBad (eArgs semTup (aCons eBad (aCons eBad aNil)))))
  sNil)
  (sSeq (sIf (bVal (eBin inX (eXat "tag" ["InvalidRatio"] (eName 0)) (eArgs semTup (aCons (eLit (.str "InvalidCommand")) (aCons (eLit (.str "InvalidPage")) aNil)))))
  (sRet (eIf (bVal (eBin (eqD false) (eXat "tag" ["InvalidRatio"] (eName 0)) (eLit (.str "InvalidCommand")))) eBad eBad))
  sNil)
  (sRet (eIf (bVal (eBin (eqD false) (eXat "tag" ["InvalidRatio"] (eName 0)) (eLit (.str "InvalidReader")))) eBad (eLit .non))))))))))
noncomputable def f__law_field : SemL := arity 1 (defS 1 m__law_field)
variable {p q : Int} {n : Nat}
theorem ratT_len (hp : Bd n p) (hq : Bd n q) : (ratT p q).length ≤ 2 * n + 5 := by
  have := dg_len hp
  have := dg_len hq
  unfold ratT
  split <;> simp <;> omega
theorem ratT_ok : okS (ratT p q) := by
  unfold ratT
  split
  · exact dg_ok p
  · intro c hc
    simp at hc
    rcases hc with hc | rfl | hc
    · exact dg_ok p c hc
    · decide
    · exact dg_ok q c hc
theorem semStr_int {i : Int} (h : Bd n i) (hl : n ≤ 1000) : semStr [.int i] S = .ok (.str (tx (dg i))) S := by
  have : i.natAbs.log2 < 1920 := by have := (h.mono (show n ≤ n + 1 by omega)).log (by omega); omega
  unfold semStr
  simp only [if_pos this]
  rw [← str_dg]
theorem semFmt_int {i : Int} (h : Bd n i) (hl : n ≤ 1000) : semFmt (.int i) S = .ok (.str (tx (dg i))) S := by
  have : i.natAbs.log2 < 1920 := by have := (h.mono (show n ≤ n + 1 by omega)).log (by omega); omega
  unfold semFmt
  simp only [if_pos this]
  rw [← str_dg]
theorem text_eq (h : LT n p q) (hl : n ≤ 1000) : f_Ratio_text [ratD p q] S = .ok (.str (tx (ratT p q))) S := by
  refine eq_of_we ?_
  unfold f_Ratio_text
  refine we_def rfl ?_
  have i1 := dg_len h.up
  have i2 := dg_len h.dn
  by_cases h1 : q = 1
  · simp [m_Ratio_text, h1, semStr_int h.up hl, ratT]
  · simp [m_Ratio_text, h1, w_joinCons, w_joinNil, semFmt_int h.up hl, semFmt_int h.dn hl, ratT]
    omega
theorem ltext_eq (h : LT n p q) (hl : n ≤ 1000) : f__law_frac_text [pairD p q] S = .ok (.str (tx (ratT p q))) S := by
  refine eq_of_we ?_
  unfold f__law_frac_text
  refine we_def rfl ?_
  have i1 := dg_len h.up
  have i2 := dg_len h.dn
  by_cases h1 : q = 1
  · simp [m__law_frac_text, h1, semStr_int h.up hl, ratT]
  · simp [m__law_frac_text, h1, semStr_int h.up hl, semStr_int h.dn hl, ratT]
    omega
noncomputable def whyM (L : LamText → Option SemL) : SX :=
  (sTry [("InvalidRatio", true)] 1
  (sRet (eArgs semTup (aCons (eLit (.str "value")) (aCons (callLc L 0) aNil))))
  (sRet (eArgs semTup (aCons (eXat "tag" ["InvalidRatio"] (eName 1)) (aCons (eArgs f__law_field (aCons (eName 1) aNil)) aNil)))))
noncomputable def whyF (L : LamText → Option SemL) : SemL := arity 1 (defS 2 (whyM L))
variable {T : LamText} {caps : List D} {l : SemL} {v : D} {L : LamText → Option SemL}
theorem plain_pair {k : Nat} {p q : Int} : Z.plain (k + 1) (pairD p q) := by simp [pairD, Z.plain, plainL]
theorem same_eq {d : D} (h : Z.plain 11 d) : f__law_same [d, d] S = .ok (.bl true) S := same_refl 11 d S h
theorem noLc_rat {p q : Int} : noLc (ratD p q) = true := by simp [ratD, noLc, noLcL]
theorem noLcL_ints : ∀ cs : List Int, noLcL (cs.map .int) = true
  | [] => rfl
  | c :: cs => by rw [List.map_cons, noLcL, noLcL_ints cs]; rfl
theorem noLc_bag {cs : List Int} {a g s : Int} : noLcM (bagD cs a g s) = true := by simp [bagD, noLcM, noLcL, noLc, noLcL_ints]
theorem noLcS_drawn {n : Nat} {cs : List Int} {S S' : Store} (h : noLcS S = true) (hD : Drawn n cs S S') : noLcS S' = true := by
  obtain ⟨_, a, g, s, rfl⟩ := hD
  unfold noLcS at *
  rw [List.all_eq_true] at *
  intro x hx
  rcases List.mem_or_eq_of_mem_set hx with hx | rfl
  · exact h x hx
  · exact noLc_bag
theorem noLcS_app {S : Store} {m : MO} (h : noLcS S = true) (h2 : noLcM m = true) : noLcS (S ++ [m]) = true := by
  simp [noLcS] at *
  exact ⟨h, h2⟩
/-- a list of askers, each refused or told -/
noncomputable def whysM (L : LamText → Option SemL) : SX :=
  (sRet (eFin (eLc (itAny (eName 0)) (gSet 1) bTrue (eArgs (whyF L) (aCons (eName 1) aNil)) [1])))
noncomputable def whysF (L : LamText → Option SemL) : SemL := arity 1 (defS 2 (whysM L))
theorem whys_eq {xs ys : List D} (hS : noLcS S = true) (hl : xs.length = ys.length) (hx : xs.length ≤ 1000) (hw : ∀ i x y, xs[i]? = some x → ys[i]? = some y → ∀ S, noLcS S = true → (∃ T, S = T ++ [.lst (ys.take i)]) → whyF L [x] S = .ok y S) (hy : ∀ y ∈ ys, under 0 y = true ∧ noLc y = true) (hs : ∀ x ∈ xs, under 0 x = true) :
    whysF L [.lst xs] S = .ok (.lst ys) S := by
  refine eq_of_we ?_
  unfold whysF
  refine we_def rfl ?_
  simp [whysM]
  have hnl : ∀ k, noLcL (ys.take k) = true := fun k => by
    have : ∀ zs : List D, (∀ z ∈ zs, noLc z = true) → noLcL zs = true := fun zs => by
      induction zs with
      | nil => intro _; rfl
      | cons z zs ih => intro h; rw [noLcL, h z (by simp), ih fun y hy => h y (by simp [hy])]; rfl
    exact this _ fun z hz => (hy z (List.mem_of_mem_take hz)).2
  have hu : underL S.length ys = true := underL_iff.mpr fun y h => under_of (hy y h).1
  refine we_lc (xs := xs) (itAny_of (eName_of rfl) (by simp)) (by omega) (fun pre acc S1 => S1 = S ∧ acc = ys.take pre.length) (fun p acc S1 h => ⟨by rw [h.1], by rw [h.2]; simp; omega⟩) ⟨rfl, by simp⟩ (fun pre x post acc S1 he hI => ⟨by simp, ?_⟩) fun acc S1 hI => ⟨by simp, ?_⟩
  · obtain ⟨rfl, rfl⟩ := hI
    have hlen := congrArg List.length he
    simp at hlen
    have hi : pre.length < ys.length := by omega
    have h1 : xs[pre.length]? = some x := by rw [he]; simp
    have h2 : ys[pre.length]? = some (ys[pre.length]'hi) := by simp
    have hS2 : noLcS (S1 ++ [MO.lst (ys.take pre.length)]) = true := noLcS_app hS (hnl _)
    simp [wipeS, bTrue, hw _ _ _ h1 h2 _ hS2 ⟨_, rfl⟩]
  · obtain ⟨rfl, rfl⟩ := hI
    rw [hl, List.take_length]
    exact finP_lst (Keep.refl _) hu (finP_same (by simpa using hu) ⟨rfl, rfl⟩)
end
end Z
namespace ZK
open PySem PySem.W PySem.Calls PyProof.Rows He He5
theorem prop_ok {K : Frag} {p : Addr} (h : propOk K p = true) : ∃ pr, recIn K p "property" = some (.ref (propB K p) :: pr) := by
  unfold propOk at h
  unfold propB
  split at h
  · rename_i a pr e
    exact ⟨pr, by rw [e]⟩
  · cases h
theorem obsZ_eq {n : AsF} {fn : List DefA} {fs : List DefS} {tf : List Defn} {ex : Frag → Bool} {g : Addr → Option Obj} {s : Shared} (h : ∀ a, g a = s.heap.get? a) : obsZ n fn fs tf ex g = (hookZ n fn fs tf ex).obs s := by
  have e : g = s.heap.get? := funext h
  rw [e] <;> rfl
theorem SaysZ.def_ {fn : List DefA} {fs : List DefS} {tf : List Defn} {ex : Frag → Bool} {h : Heap} {K : Frag} (c : SaysZ fn fs tf ex h K) (i : Nat) {d : DefA} (hi : fn[i]? = some d := by rfl) : ∃ fd, L2.FunD K d.name d.qual d.params d.body d.scope (d.dvs K) (d.kws K) (d.at_ K) fd := by
  have h1 := List.all_eq_true.mp c.ok d (List.mem_of_getElem? hi)
  have h2 := congrArg (fun l => l[i]?) c.at_
  simp only [List.getElem?_map, hi, Option.map_some] at h2
  exact DefA.funD (Option.some.inj h2) h1
theorem SaysZ.sup_ {fn : List DefA} {fs : List DefS} {tf : List Defn} {ex : Frag → Bool} {h : Heap} {K : Frag} (c : SaysZ fn fs tf ex h K) (i : Nat) {d : DefS} (hi : fs[i]? = some d := by rfl) : fnS K (d.at_ K) = d.val := by
  have h2 := congrArg (fun l => l[i]?) c.sup
  simp only [List.getElem?_map, hi, Option.map_some] at h2
  exact Option.some.inj h2
/-- the code object of a def -/
theorem code_ref {K : Frag} {x qual : Str} {params : Arguments} {body : List Stmt} {scope : Scope} {dvs : List L2.V} {kws : List (Str × L2.V)} {p : Str × Option Str} {fd : FuncData} (F : L2.FunD K x qual params body scope dvs kws (fAd K p) fd) : fd.code = .ref (codeOf K p) := by
  obtain ⟨oc, od, dV, kV, doc, pm, an, cdv, ct, osl, e, l, c, _, _⟩ := F.ex
  subst e
  obtain ⟨c0, hc⟩ := codeIn_ref c
  have := codeOf_eq l (c := c0) (by show cdv = _; exact hc)
  show cdv = _
  rw [hc, this]
end ZK
namespace Z
open PySem PySem.Spec L2 PyProof.Rows
end Z
namespace Z
open PySem PySem.Spec L2 PyProof.Rows
end Z
namespace Z
open PySem PySem.Spec L2
end Z
namespace Z
open PySem PySem.Spec L2
end Z
namespace ZM
end ZM
namespace ZM
theorem Can.head {a : Int × Int} {xs : Ls} (h : Can (a :: xs)) : ∀ b ∈ xs, a.1 < b.1 := (List.pairwise_cons.mp h.1).1
end ZM
namespace Z
open PySem PySem.Spec L2 PyProof.Rows
end Z
namespace Z
open PySem PySem.Spec L2 PyProof.Rows
end Z
namespace Z
open PySem PySem.Spec L2
end Z
namespace Z
open PySem PySem.Spec L2
end Z
namespace Z
open PySem PySem.Spec L2
end Z
namespace Z
open PySem PySem.Spec L2 PyProof.Rows
end Z
namespace Z
open PySem PySem.Spec L2 PyProof.Rows
end Z
namespace Z
open PySem PySem.Spec L2 PyProof.Rows
def semPartition : SemM := fun d ds S => match d, ds with
  | .str a, [.str b] => if b.length ≠ 0 ∧ a.length ≤ 1000000 then .ok (.tup [.str (Txt.partition a b).1, .str (Txt.partition a b).2.1, .str (Txt.partition a b).2.2]) S else .bad
  | _, _ => .bad
section
variable {X : Cx}
theorem d_partition : MtD X "str.partition" semPartition := by
  refine ⟨_, mt_partition, fun Wp ρ H S d ds x xs Q w rx rl p => ?_⟩
  unfold semPartition at p
  split at p
  · rename_i a b
    split at p
    · rename_i hl
      obtain ⟨v, e2, r2⟩ := repL_one rl
      refine ⟨a, b, rep_str rx, by rw [e2, rep_str r2], by simp [hl.1], line_of hl.2, fun q hq => post_tup (ds := [.str _, .str _, .str _]) p w (mk_strs [_, _, _]) hq⟩
    · exact p.elim
  · exact p.elim
end
end Z
namespace Z
open PySem PySem.Spec L2 PyProof.Rows PySem.Builtin.Str
theorem mulOk_of {a : Str} {n : Int} (h1 : 0 ≤ n) (h2 : n ≤ 1000) (h3 : a.length ≤ 1000) : MulOk a n := by
  refine ⟨?_, fun h _ => ?_, fun h _ => ?_⟩
  · rw [decide_eq_false (by omega), decide_eq_false (by omega)]
    rfl
  · have hn : 1 ≤ n := by omega
    have e : (1001 : Int) ≤ (2 ^ 63 - 1) / n := by
      rw [Int.le_ediv_iff_mul_le (by omega)]
      omega
    omega
  · unfold tooLong sizeLine
    have : a.length * n.toNat ≤ 1000 * 1000 := Nat.mul_le_mul h3 (by omega)
    exact decide_eq_false (by omega)
section
variable {X : Cx}
theorem op_mulS : OpR X (binaryOp .Mult) (fun x y H Q => ∃ a n, x = V.str a ∧ y = .int n ∧ 0 ≤ n ∧ n ≤ 1000 ∧ a.length ≤ 1000 ∧ Q (.str (Txt.mul a n)) H) := by
  intro pins s σ H x y v u Q I rx ry ⟨a, n, ex, ey, h1, h2, h3, q⟩
  subst ex ey
  obtain ⟨t, rfl⟩ := rx
  obtain ⟨t2, rfl⟩ := ry
  exact SB.mul (mulOk_of h1 h2 h3) fun t' k => ⟨.str (Txt.mul a n), H, I.tok k, ⟨t', rfl⟩, q⟩
def mulTx : Sem2 := fun d e S => match d, e with
  | .str a, .int n => if 0 ≤ n ∧ n ≤ 1000 ∧ a.length ≤ 1000 then .ok (.str (Txt.mul a n)) S else .bad
  | _, _ => .bad
theorem d_mulTx : OpD X (binaryOp .Mult) mulTx := by
  refine ⟨_, op_mulS, fun Wp ρ H S d e x y Q w rx ry p => ?_⟩
  unfold mulTx at p
  split at p
  · rename_i a n
    split at p
    · rename_i hl
      exact ⟨a, n, rep_str rx, rep_int ry, hl.1, hl.2.1, hl.2.2, post_ok p w mk_str⟩
    · exact p.elim
  · exact p.elim
def mulXT : Sem2 := orS2 mulX mulTx
theorem d_mulXT : OpD X (binaryOp .Mult) mulXT := d_mulX.or d_mulTx
end
end Z
namespace Z
open PySem PySem.Spec L2
end Z
namespace Z
open PySem PySem.Spec L2 PyProof.Rows
end Z
namespace Z
open PySem PySem.Spec L2 PyProof.Rows
/-- the contexts from v on, none of them x -/
inductive ChH (h : Heap) (x : Addr) : Value → Prop
  | nil : ChH h x .none
  | cons {b : Addr} {o : Obj} {vs : Array Value} {c : Value} (ne : x ≠ b) (h0 : h.get? b = some o) (hd : o.data = .fields vs) (hc : vs[2]? = some c) (r : ChH h x c) : ChH h x (.ref b)
section
variable {prog : Program} {w : World} {A : Around} {E : Value → Shared → Prop} {s : Shared}
theorem ChH.to {h h' : Heap} {x : Addr} {v : Value} (c : ChH h x v) (k : ∀ b o, x ≠ b → h.get? b = some o → h'.get? b = some o) : ChH h' x v := by
  induction c with
  | nil => exact .nil
  | cons ne h0 hd hc r ih => exact .cons ne (k _ _ ne h0) hd hc ih
end
end Z
namespace L2
open PySem PySem.Spec PyProof.Rows
end L2
namespace Z
open PySem PySem.Spec L2 PyProof.Rows
end Z
namespace Z
open PySem PySem.Spec L2 PyProof.Rows
noncomputable def retL (cn N : List Str) (κ : List (Str × Addr)) (fe : EX) : EX := fun sl S => (fe sl S).bind fun d S1 => match conv cn N κ sl d with
  | some d' => .ok d' S1
  | none => .bad
noncomputable def defR (N : Nat) (fe : EX) : SemL := fun ds S => fin S (fe (ds.map some ++ List.replicate (N - ds.length) none) S)
section
variable {X : Cx} {pins : List (Addr × Obj)} {σ : L2.St} {H : Hp} {s : Shared}
/-- the def's cells, known: none of them stood before -/
theorem cells_cs2 (I : Inv X pins σ H s) (hfn : ∀ x, X.fn x = true) : ∀ (cn : List Str), (∀ n ∈ cn, X.env.kindOf n = some .cell) → ∃ cs : Cs, CsOk cs (frs X.stack) H s.heap ∧ (∀ b o, cs.lookup b = some o → X.s_0.heap.objs.size ≤ b) ∧ ∀ n ∈ cn, ∃ c o, X.env.cells.lookup n = some c ∧ cs.lookup c = some o
  | [], _ => ⟨([] : Cs), ⟨(fun c o h => by simp at h), (fun c o h => by simp at h), (fun c o h => by simp at h)⟩, (fun c o h => by simp at h), (fun n h => by simp at h)⟩
  | n :: cn, hk => by
    obtain ⟨cs, h1, h2, h3⟩ := cells_cs2 I hfn cn fun m hm => hk m (List.mem_cons_of_mem _ hm)
    obtain ⟨c, hc⟩ := I.ok.has n (.inl (hk n (List.mem_cons_self ..)))
    obtain ⟨v, o, ho, hd⟩ := I.cell n c hc
    have habove := I.ok.cab n c (hfn n) hc
    have nL := I.cne n c hc
    have nfs : c ∉ frs X.stack := fun hm => by
      rcases List.mem_cons.mp (I.stkSub c hm) with e | e
      · exact nL e
      · obtain ⟨_, o', ho', _⟩ := I.ok.funs.mem e
        exact absurd (Nat.lt_of_lt_of_le (Heap.lt_size ho') habove) (Nat.lt_irrefl _)
    have cons : ∀ {b : Addr} {u : Obj}, ((c, o) :: cs).lookup b = some u → (b = c ∧ u = o) ∨ cs.lookup b = some u := fun {b u} h => by
      rw [List.lookup_cons] at h
      cases q : b == c with
      | true => rw [q] at h; cases h; exact .inl ⟨by simpa using q, rfl⟩
      | false => rw [q] at h; exact .inr h
    refine ⟨(c, o) :: cs, ⟨fun b u h => ?_, fun b u h => ?_, fun b u h => ?_⟩, fun b u h => ?_, fun m hm => ?_⟩
    · rcases cons h with ⟨rfl, rfl⟩ | h
      · exact ho
      · exact h1.get b u h
    · rcases cons h with ⟨rfl, rfl⟩ | h
      · exact I.freeC n _ hc
      · exact h1.non b u h
    · rcases cons h with ⟨rfl, rfl⟩ | h
      · exact nfs
      · exact h1.nofs b u h
    · rcases cons h with ⟨rfl, rfl⟩ | h
      · exact habove
      · exact h2 b u h
    · rcases List.mem_cons.mp hm with rfl | hm
      · exact ⟨c, o, hc, by simp [List.lookup]⟩
      · obtain ⟨c', o', e1, e2⟩ := h3 m hm
        refine ⟨c', ?_⟩
        by_cases q : c' = c
        · subst q
          exact ⟨o, e1, by simp [List.lookup]⟩
        · have q' : (c' == c) = false := by simpa using q
          exact ⟨o', e1, by simp [List.lookup, q', e2]⟩
end
section
variable {P : Program} {w : World} {K : PySem.W.Frag} {mg : Str → Option Value} {base : Heap}
theorem fz_lamret {x qual : Str} {params : Arguments} {scope : Scope} {f : Addr} {fd : FuncData} {N ps cn : List Str} {k : Nat} {e : Expr} {pos : Pos} {stb : List Stmt} {fe : List (Str × Addr) → EX} (F : FunD K x qual params stb scope [] [] f fd) (Sc : FnScope N ps scope) (hst : stb = [.Return (some e) pos]) (hbi : Binds K fd ps [])
    (hk : ∀ n ∈ cn, scope.names.lookup n = some .cell)
    (hb : ∀ (A : Around) (outer : List Env) (s : Shared) (H : Hp) (E : XK), L2H.RoomH k (A.deeper (envOfC qual scope s.heap.objs.size f fd.code)) →
      Z.E (cxT (Z.CX P w) P w K mg base N qual scope f fd.code A outer s H E) (fun c d _ H' => E c d H') e (fe (cellsFrom (s.heap.objs.size + 1) scope.names []))) :
    FZ P w K mg base (k + 1) f (arity ps.length (allK fun κ => defR N.length (retL cn N κ (fe κ)))) := by
  subst hst
  obtain ⟨oc, od, dV, kV, doc, pm, an, cdv, ct, osl, rfl, lk, hcd, _, _⟩ := F.ex
  intro A outer s H us vs Q E hr e0 r ⟨ρ, S, ds, w0, rl, p⟩
  have hr := L2H.roomH_of hr
  unfold arity at p
  split at p
  · rename_i hln
    have hl : vs.length = ps.length := by rw [← rl.len]; exact hln
    have hus : us.length = ps.length := by rw [← r.length]; exact hl
    have KX : K.In s.heap := e0.mod.kin.keeps fun b o e => (e0.bs b o e).1
    have lim : s.heap.NoLimit := e0.mod.nolimit.keeps fun b o e => (e0.bs b o e).1
    have hbd := hbi s us KX (by rw [List.append_nil]; exact hus)
    rw [List.append_nil] at hbd
    have hkind : ∀ y ∈ ps.zip us, scope.names.lookup y.1 = some .local ∨ (scope.names.lookup y.1 = some .cell ∧ ((cellsFrom (s.heap.objs.size + 1) scope.names []).lookup y.1).isSome = true) := fun ⟨n, v⟩ hy => by
      rcases Sc.par n (List.of_mem_zip hy).1 with q | q
      · exact .inl q
      · exact .inr ⟨q, PySem.W.cellsFrom_some _ _ _ (.inl q)⟩
    refine codeAny_call_function hr.depth (KX _ _ lk) rfl Sc.co Sc.gen rfl (PySem.W.codeRec_of KX hcd) (hbd _ _ _ _ ?_)
    refine wpAny_newFunctionEnv_cells Sc.kind hkind fun env he s1 x => ?_
    subst he
    refine ⟨lim.keeps x.toInCall.keep, codeAny_func ?_⟩
    have I := inv_startT (CX := Z.CX P w) (E := E) (cd := cdv) (f := f) (qual := qual) Sc e0 hl r x
    have p2 : PostE K mg E ρ H Q (defR N.length (retL cn N (cellsFrom (s.heap.objs.size + 1) scope.names []) (fe (cellsFrom (s.heap.objs.size + 1) scope.names []))) ds S) := by
      unfold allK at p
      split at p
      · rename_i h
        obtain ⟨o, ho⟩ := h
        have e1 := ho (cellsFrom (s.heap.objs.size + 1) scope.names [])
        have e2 := ho []
        dsimp only at e1 e2 p
        rw [e1, ← e2]
        exact p
      · exact p.elim
    have p3 : PostE K mg E ρ H Q ((fe (cellsFrom (s.heap.objs.size + 1) scope.names []) (ds.map some ++ List.replicate (N.length - ds.length) none) S).bind fun d S1 => match conv cn N (cellsFrom (s.heap.objs.size + 1) scope.names []) (ds.map some ++ List.replicate (N.length - ds.length) none) d with
      | some d' => .ok d' S1
      | none => .bad) := fin_imp w0 p2
    refine wpAny_execs_cons (wpAny_Return_some (thn ((hb A outer s H E (hr.deeper _)).run [] s1 (L2.start N vs) H _ I ⟨ρ, S, _, w0, rst_start rl, PostE.bindE p3⟩) fun u s' ⟨v, H1, J, rv, ρ1, S1, d, x1, w1, r1, _, p4⟩ => ?_))
    show CE outer P w H s Q u s'
    obtain ⟨cs, c, hcb, hcn⟩ := cells_cs2 J (fun _ => rfl) cn fun n hn => hk n hn
    cases ec : conv cn N (cellsFrom (s.heap.objs.size + 1) scope.names []) (ds.map some ++ List.replicate (N.length - ds.length) none) d with
    | none => rw [ec] at p4; exact p4.elim
    | some d' =>
      rw [ec] at p4
      have rr := conv_rep J w1 ((rst_start (N := N) rl).ext x1) c (fun n hn => hk n hn) hcn d d' v ec r1
      have hout : ∀ b o, s.heap.get? b = some o → cs.lookup b = none := fun b o e => by
        cases y : cs.lookup b with
        | none => rfl
        | some oc => exact absurd (Heap.lt_size e) (Nat.not_lt.mpr (hcb b oc y))
      have un : Un (frs outer) [] H (addC cs H1) s.heap s'.heap := ⟨J.base.keep, J.base.slot, fun b o e n hx => by rw [addC_out (hout b o e)]; exact J.base.free b o e n hx, J.base.there,
        fun b xs e => by rw [addC_out (c.out (J.base.tups b xs e))]; exact J.base.tups b xs e, fun b o u e => by rw [addC_out (c.out (J.base.frzs b o u e))]; exact J.base.frzs b o u e,
        fun b qs e => by
          obtain ⟨more, h⟩ := J.base.tbls b qs e
          exact ⟨more, by rw [addC_out (c.out h)]; exact h⟩⟩
      exact ⟨v, addC cs H1, J.os, J.bare, un, hok_add c J.hok, rv, p4 v ρ1 (addC cs H1) (ext_add c) (wok_add c w1) rr⟩
  · exact p.elim
end
/-- what the def returns -/
theorem retL_eq {cn N : List Str} {κ : List (Str × Addr)} {ti : Nat} {P : Addr} {T : LamText} {ds caps : List D} {S : Store} (hS : S[ti]? = some (.tab P T.qual)) (h1 : T.names.Nodup) (h2 : ∀ n ∈ T.names, n ∈ cn ∧ T.scope.names.lookup n = some .free) (h3 : capsOf N (ds.map some ++ List.replicate (N.length - ds.length) none) T.names = some caps) (hu : underL S.length caps = true) :
    defR N.length (retL cn N κ (eLam ti P κ T)) ds S = .ok (.lamc T caps) S := by
  unfold defR retL
  have e : eLam ti P κ T (ds.map some ++ List.replicate (N.length - ds.length) none) S = .ok (.lam T (cloFrom κ T.scope.names [])) S := by
    unfold eLam
    rw [hS]
    simp
  rw [e]
  show fin S (match conv cn N κ _ (.lam T (cloFrom κ T.scope.names [])) with
    | some d' => .ok d' S
    | none => .bad) = _
  rw [conv_lam h1 h2 h3]
  refine eq_of_we ?_
  rw [we_fin, we_ok]
  exact finP_same (by rw [under]; exact hu) ⟨rfl, rfl⟩
end Z
namespace Z
open PySem PySem.Spec L2 PyProof.Rows
def semIntT : SemL := fun ds S => match ds with
  | [.str a] => (match PySem.intText? a with
    | some n => if a.length ≤ 640 then .ok (.int n) S else .bad
    | none => .bad)
  | _ => .bad
theorem d_intT {X : Cx} : CallD X (.type "int") semIntT := by
  refine ⟨_, call_int_str, fun Wp ρ H S ds xs Q w r p => ?_⟩
  unfold semIntT at p
  split at p
  · rename_i a
    obtain ⟨v, e, h1⟩ := repL_one r
    rw [rep_str h1] at e
    split at p
    · rename_i n en
      split at p
      · rename_i hl
        exact ⟨a, n, e, en, hl, post_ok p w mk_int⟩
      · exact p.elim
    · exact p.elim
  · exact p.elim
def semIntX : SemL := orSL semInt semIntT
theorem d_intX {X : Cx} : CallD X (.type "int") semIntX := d_int.or d_intT
/-- the value of digits -/
def dval (l : List Nat) : Nat := l.foldl (fun a c => a * 10 + (c - 48)) 0
section
variable {S : Store} {l : List Nat}
theorem intX_digits (h : ∀ c ∈ l, 48 ≤ c ∧ c ≤ 57) (hne : l ≠ []) (hl : l.length ≤ 640) : semIntX [.str (tx l)] S = .ok (.int (dval l)) S := by
  have e : PySem.intText? (tx l) = some ((dval l : Nat) : Int) := PySem.intText_digits (x := tx l) (fun c hc => h c (by simpa [tx] using hc)) (by simpa [tx] using hne) (by rw [tx_len]; omega)
  have : semIntT [.str (tx l)] S = .ok (.int (dval l)) S := by
    unfold semIntT
    simp only [e, tx_len]
    rw [if_pos hl]
  unfold semIntX orSL
  rw [this]
  rfl
theorem intX_minus (h : ∀ c ∈ l, 48 ≤ c ∧ c ≤ 57) (hne : l ≠ []) (hl : l.length ≤ 600) : semIntX [.str (tx (45 :: l))] S = .ok (.int (-(dval l : Int))) S := by
  have e : PySem.intText? (tx (45 :: l)) = some (-((dval l : Nat) : Int)) := PySem.intText_neg (x := tx (45 :: l)) (cs := l) (by simp [tx]) (fun c hc => h c hc) hne (by rw [tx_len, List.length_cons]; omega)
  have : semIntT [.str (tx (45 :: l))] S = .ok (.int (-(dval l : Int))) S := by
    unfold semIntT
    simp only [e, tx_len, List.length_cons]
    rw [if_pos (by omega)]
  unfold semIntX orSL
  rw [this]
  rfl
end
end Z
namespace Z
open PySem PySem.Spec L2 PyProof.Rows
/-- C.m is a staticmethod: its record at p, its def at g -/
structure SmOk (K : PySem.W.Frag) (C p g : Addr) (m : Str) : Prop where
  at_ : PySem.W.findCls K (.ref C) (.type "type") m = some (.get (.builtin "staticmethod.__get__") (.ref p) .none (.ref C))
  rc : ∃ rest, PySem.W.recIn K p "staticmethod" = some (.ref g :: rest)
  rd : PySem.W.readsIn K C (.type "type") = true
  ga : PySem.W.specialIn K (.ref C) "__getattribute__" = some (some (.builtin "type.__getattribute__"))
  kp : PySem.W.keepIn K (.ref g) = true
theorem sm_ok {K : PySem.W.Frag} {C p g : Addr} {m : Str} (h : smB K C p g m = true) : SmOk K C p g m := by
  unfold smB at h
  rw [Bool.and_eq_true, Bool.and_eq_true, Bool.and_eq_true, Bool.and_eq_true] at h
  obtain ⟨h1, h2, h3, h4, h5⟩ := h
  refine ⟨?_, ?_, h3, of_decide_eq_true h4, h5⟩
  · split at h1
    · rename_i b p' D e
      simp only [Bool.and_eq_true, decide_eq_true_eq] at h1
      obtain ⟨k1, k2, k3⟩ := h1
      rw [e, k1, k2, k3]
    · cases h1
  · split at h2
    · rename_i f rest e
      rw [e, of_decide_eq_true h2]
      exact ⟨rest, rfl⟩
    · cases h2
section
variable {X : Cx} {W : WX} {k : Nat} {C p g : Addr} {sem : SemL} {c m : Str} {p1 apos pos : Pos} {e : Expr} {es : List Expr} {fa fk : AX} {pl : Sem Bool} {ks : List Str} {n : Nat} {kws : List Keyword}
theorem getsm_ok {pins : List (Addr × Obj)} {σ : L2.St} {H : Hp} {s : Shared} {A : Around} {E : Value → Shared → Prop} {Q : Value × List Value → Shared → Prop} (I : Inv X pins σ H s) (M : SmOk X.K C p g m) (h : Q (.ref g, []) { s with toks := s.toks + 1 }) :
    wpAny (model X.prog X.w) A (getMethod (.ref C) m pl) Q E s := by
  obtain ⟨rest, hp⟩ := M.rc
  refine PySem.W.method_cls I.kIn M.ga (PySem.W.cls_bind I.kIn M.rd M.at_ ?_)
  exact wpAny_call (PySem.W.sm_get (s := { s with toks := s.toks + 1 }) I.kIn hp (PySem.W.handed_on rfl h))
theorem r_callSm (tk : Takes X W) (F : FZ X.prog X.w X.K X.mg X.base k g sem) (hr : Room k X.A) (hm : X.mg c = some (.ref C)) (M : SmOk X.K C p g m) (ha : EA X W (e :: es) fa) (hg : Gl X c := by rfl) (hdb : (c == ("__debug__" : Str)) = false := by decide)
    (he : starEach (e :: es) X.env = (false, eval e X.env) :: starEach es X.env := by rfl) (hpl : (backTo pos (starEach es X.env)).any (·.1) = false := by rfl)
    (ht : eval (.Call (.Attribute (.Name c p1) m apos) (e :: es) [] pos) X.env = (do
      let ov ← eval (.Name c p1) X.env
      standAt apos.atName
      let (f, first) ← holding [ov] (getMethod ov m pl)
      callWith pos f first (backTo pos (starEach (e :: es) X.env)) (backToKw pos (keywordEach [] X.env))) := by rfl) :
    E X W (.Call (.Attribute (.Name c p1) m apos) (e :: es) [] pos) (eArgs sem fa) := by
  refine ⟨fun pins s σ H Q I h => ?_⟩
  refine PySem.W.methodCall_KW (pl := pl) (ld_glob I hg hm ?_ hdb) ht
  refine getsm_ok I M ?_
  have I0 := I.tok (s.toks + 1)
  have h' := argsem_imp (k := fun vs H1 => spZ X.K X.mg sem vs H1 Q (WE W σ)) h fun ρ S H1 ds vs w r p => ⟨ρ, S, ds, w, r, p⟩
  refine PySem.W.callWith_K (h₀ := X.base) (first := []) I.ok.mod.kin M.kp (thn (ha.run pos pins _ σ H _ I0 h') fun us s1 ⟨vs, H1, I1, r, q⟩ => ⟨I1.kIn, ?_⟩) he hpl
  exact run_fnR F hr (passAt tk σ) I1 r q
/-- C.m(x=..) -/
theorem r_callSmK0 (tk : Takes X W) (F : FZK X.prog X.w X.K X.mg X.base k g 0 ks sem) (hr : Room k X.A) (hm : X.mg c = some (.ref C)) (M : SmOk X.K C p g m)
    (hkw : EK X W kws fk) (hg : Gl X c := by rfl) (hall : (backToKw pos (keywordEach kws X.env)).all (·.1.isSome) = true := by rfl) (hks : (backToKw pos (keywordEach kws X.env)).filterMap (·.1) = ks := by rfl) (hdb : (c == ("__debug__" : Str)) = false := by decide)
    (hpl : ((backTo pos (starEach [] X.env)).any (·.1) || (backToKw pos (keywordEach kws X.env)).any (·.1.isNone)) = false := by rfl)
    (ht : eval (.Call (.Attribute (.Name c p1) m apos) [] kws pos) X.env = (do
      let ov ← eval (.Name c p1) X.env
      standAt apos.atName
      let (f, first) ← holding [ov] (getMethod ov m pl)
      callWith pos f first (backTo pos (starEach [] X.env)) (backToKw pos (keywordEach kws X.env))) := by rfl) :
    E X W (.Call (.Attribute (.Name c p1) m apos) [] kws pos) (eCallK 0 ks.length sem aNil fk) := by
  refine ⟨fun pins s σ H Q I h => ?_⟩
  obtain ⟨ρ, S, sl, w, rs, q⟩ := h
  refine PySem.W.methodCall_KW (pl := pl) (ld_glob I hg hm ?_ hdb) ht
  refine getsm_ok I M ?_
  have I0 := I.tok (s.toks + 1)
  refine PySem.W.callWith_KW0 (h₀ := X.base) (first := []) I.ok.mod.kin M.kp hall ?_ hpl
  refine thn (hkw.run pos pins _ σ H _ I0 ⟨ρ, S, sl, w, rs, PostA.bindE q⟩) fun ws s2 ⟨zs, H2, I2, rz, ρ2, S2, es', x2, w2, re, _, p2⟩ => ⟨I2.kIn, ?_⟩
  rw [hks]
  split at p2
  · rename_i hl
    exact run_fnRK (us := []) (vs := []) F hr (passAt tk σ) I2 .nil rz rfl (by rw [← rz.length, ← re.len, hl.2]) ⟨ρ2, S2, _, w2, re, p2⟩
  · exact p2.elim
end
end Z
namespace Z
open PySem PySem.Spec L2
end Z
namespace Z
open PySem PySem.Spec L2
end Z
namespace Z
open PySem PySem.Spec L2
end Z
namespace Z
open PySem PySem.Spec L2
end Z
namespace Z
open PySem PySem.Spec L2
end Z
namespace Z
open PySem PySem.Spec L2
end Z
namespace Z
open PySem PySem.Spec L2
section
variable {sl : Sl} {S : Store} {Q : Q0} {body : SX}
theorem rangeD_at {lo : Int} {n : Nat} {pre post : List D} {x : D} (h : rangeD lo n = pre ++ x :: post) : x = .int (lo + pre.length) ∧ pre.length < n := by
  have h1 : (rangeD lo n)[pre.length]? = some x := by rw [h]; simp
  have h2 := (List.getElem?_eq_some_iff.mp h1).1
  simp [rangeD] at h2
  unfold rangeD at h1
  rw [List.getElem?_map, List.getElem?_range h2] at h1
  simp at h1
  exact ⟨h1.symm, h2⟩
theorem wo_range {it : IX} {g : GX} {lo : Int} {n : Nat} (hit : it sl S = .ok (rangeD lo n, fun _ => True) S) (I : Nat → Sl → Store → Prop) (h0 : I 0 sl S)
    (step : ∀ i sl S, i < n → I i sl S → Wo (g (.int (lo + i)) sl S) ⟨fun sl1 S1 => Wo (body sl1 S1) ⟨fun sl2 S2 => I (i + 1) sl2 S2, Q.nx, fun sl2 S2 => I (i + 1) sl2 S2, Q.rt, Q.ex⟩, fun _ _ => False, fun _ _ => False, fun _ _ => False, fun _ _ _ => False⟩)
    (hend : ∀ sl S, I n sl S → Q.nx sl S) : Wo (sFor it g body sl S) Q := by
  refine wo_for hit (fun pre sl S => I pre.length sl S) h0 (fun pre x post sl S he hI => ⟨trivial, ?_⟩) fun sl S hI => ⟨trivial, hend sl S ?_⟩
  · obtain ⟨rfl, hl⟩ := rangeD_at he
    have := step _ sl S hl hI
    simpa only [List.length_append, List.length_singleton] using this
  · simpa [rangeD] using hI
end
end Z
namespace Z
open PySem PySem.Spec L2
end Z
namespace Z
open PySem PySem.Spec L2
end Z
namespace Z
open PySem PySem.Spec L2
end Z
namespace Z
open PySem PySem.Spec L2
end Z
namespace Z
open PySem PySem.Spec L2
end Z
namespace Z
open PySem PySem.Spec L2
end Z
namespace Z
open PySem PySem.Spec L2
end Z
namespace Z
open PySem PySem.Spec L2
end Z
namespace Z
open PySem PySem.Spec L2
end Z
namespace Z
open PySem PySem.Spec L2
end Z
namespace ZM
variable {n : Nat} {x y z : List Int}
end ZM
namespace Z
open PySem PySem.Spec L2 ZM
end Z
namespace Z
open PySem PySem.Spec L2 ZM
end Z
namespace Z
open PySem PySem.Spec L2 ZM
end Z
namespace Z
open PySem PySem.Spec L2 ZM
/-- is_digits -/
noncomputable def m_is_digits : SX :=
  (sSeq (sIf (bOr (bNot (bVal (eChain leI leI (eLit (.int 1)) (eArgs lenX (aCons (eName 0) aNil)) (eLit (.int 30))))) (bNot (bVal (eArgs semAll (aCons (eFin (eLc (itAny (eName 0)) (gSet 1) bTrue (eBin inX (eName 1) (eLit (.str "0123456789"))) [1])) aNil)))))
  (sRet (eLit (.bl false)))
  sNil)
  (sRet (eOr (eBin (eqD false) (eName 0) (eLit (.str "0"))) (eBin (eqD true) (eBin ixX (eName 0) (eLit (.int 0))) (eLit (.str "0"))))))
noncomputable def f_is_digits : SemL := arity 1 (defS 2 m_is_digits)
end Z
namespace Z
open PySem PySem.Spec L2 ZM
section
variable {S : Store} {P X : D → Store → Prop} {Q : Q0}
theorem itR1 {sl : Sl} {f : EX} {k : Nat} (h : f sl S = .ok (.int k) S) (hk : k < 2 ^ 60) : itRange1 (aCons f aNil) sl S = .ok (rangeD 0 k, fun _ => True) S := by
  have h2 : (2 : Int) ^ 62 = 4611686018427387904 := by decide
  have h3 : (2 : Nat) ^ 60 = 1152921504606846976 := by decide
  have := itRange1_of h (by omega) (by omega)
  simpa using this
end
end Z
namespace Z
open PySem PySem.Spec L2 ZM
section
variable {S : Store} {P X : D → Store → Prop} {Q : Q0} {sl : Sl}
def dv (xs : Ls) : List D := xs.map fun a => .int a.2
end
end Z
namespace Z
open PySem PySem.Spec L2 ZM
end Z
namespace Z
open PySem PySem.Spec L2
end Z
namespace Z
open PySem PySem.Spec L2 ZM
end Z
namespace Z
open PySem PySem.Spec L2 ZM
end Z
namespace Z
open PySem PySem.Spec L2 ZM
end Z
namespace Z
open PySem PySem.Spec L2 ZM
end Z
namespace Z
open PySem PySem.Spec L2 ZM
end Z
namespace Z
open PySem PySem.Spec L2 ZM
def nsW : Wd → List Str
  | .thr _ _ => ["letters", "pairs"]
  | .st _ => ["size"]
  | .la => []
  | .du => []
  | .bo _ _ => ["one", "other"]
section
variable {S : Store} {P X : D → Store → Prop} {sl : Sl} {W : Wd} {fw fs ft fl fd fb g : SemL} {m : Str} {f1 : EX} {as : AX}
/-- a method's name that is no field -/
def NoFld (m : Str) : Prop := m ∉ (["letters", "pairs", "size", "one", "other"] : List Str)
theorem NoFld.ns (h : NoFld m) : m ∉ nsW W := by
  unfold NoFld at h
  simp only [List.mem_cons, List.not_mem_nil, or_false, not_or] at h
  obtain ⟨h1, h2, h3, h4, h5⟩ := h
  cases W <;> simp [nsW, *]
end
end Z
namespace Z
open PySem PySem.Spec L2 ZM
end Z
namespace Z
open PySem PySem.Spec L2 ZM
end Z
namespace Z
open PySem PySem.Spec L2 ZM
section
variable {S : Store} {P X : D → Store → Prop} {n : Nat} {cs : List Int}
theorem firsts {α : Type} [BEq α] [LawfulBEq α] (l : List α) : (List.range l.length).filterMap (fun k => match l[k]? with | some a => if a ∈ l.take k then none else some a | none => none) = l.eraseDups := by
  have : ∀ (m r : List α), l = m ++ r → (List.range m.length).filterMap (fun k => match l[k]? with | some a => if a ∈ l.take k then none else some a | none => none) = m.eraseDups := fun m => by
    induction hn : m.length generalizing m with
    | zero => intro r _; have : m = [] := List.eq_nil_of_length_eq_zero hn; subst this; simp
    | succ n ih =>
      intro r h
      have hne : m ≠ [] := fun e => by subst e; simp at hn
      obtain ⟨m', a, rfl⟩ : ∃ m' a, m = m' ++ [a] := ⟨m.dropLast, m.getLast hne, (List.dropLast_concat_getLast hne).symm⟩
      have hn' : m'.length = n := by simpa using hn
      have ih := ih m' hn' ([a] ++ r) (by rw [h]; simp)
      rw [List.range_succ, List.filterMap_append, ih, List.eraseDups_append]
      congr 1
      have e1 : l[n]? = some a := by rw [h, ← hn']; simp
      have e2 : l.take n = m' := by rw [h, ← hn']; simp
      simp only [List.filterMap_cons, List.filterMap_nil, e1, e2]
      by_cases hm : a ∈ m'
      · rw [if_pos hm]
        simp [List.removeAll, hm]
      · rw [if_neg hm]
        have e3 : List.removeAll [a] m' = [a] := by simp [List.removeAll, hm]
        rw [e3, List.eraseDups_cons]
        simp
  simpa using this l [] (by simp)
end
end Z
namespace Z
open PySem PySem.Spec L2 ZM
section
variable {S : Store} {sl : Sl} {G : Store → Prop} {g : GX} {bt : BX} {fe : EX} {it : IX} {own : List Nat} {xs : List D}
theorem lc_eq (p : D → Bool) (φ : D → D) (hit : it sl S = .ok (xs, G) S) (hl : xs.length ≤ 1000000) (hG : ∀ acc, G (S ++ [.lst acc]))
    (step : ∀ x ∈ xs, ∀ acc, ∃ sl1, g x (wipeS sl own) (S ++ [.lst acc]) = .nx sl1 (S ++ [.lst acc]) ∧ bt sl1 (S ++ [.lst acc]) = .ok (p x) (S ++ [.lst acc]) ∧ (p x = true → fe sl1 (S ++ [.lst acc]) = .ok (φ x) (S ++ [.lst acc]))) :
    eLc it g bt fe own sl S = .ok (.ptr S.length) (S ++ [.lst ((xs.filter p).map φ)]) := by
  refine eq_of_we (we_lc_pure p φ hit hl hG (fun x hx acc => ?_) ⟨rfl, rfl⟩)
  obtain ⟨sl1, e1, e2, e3⟩ := step x hx acc
  rw [e1, wo_nx]
  show We (bt sl1 (S ++ [.lst acc])) _ _
  rw [e2, we_ok]
  refine ⟨rfl, ?_⟩
  by_cases h : p x = true
  · rw [if_pos h, e3 h, we_ok]
    exact ⟨rfl, rfl⟩
  · rw [if_neg h]
theorem fin_eq {f : EX} {acc : List D} (h : f sl S = .ok (.ptr S.length) (S ++ [.lst acc])) (hu : underL S.length acc = true) : eFin f sl S = .ok (.lst acc) S := by
  refine eq_of_we ?_
  rw [w_eFin, h, we_ok]
  exact finP_lst (Keep.refl S) hu (by exact ⟨rfl, rfl⟩)
theorem lcF_eq (p : D → Bool) (φ : D → D) (hit : it sl S = .ok (xs, G) S) (hl : xs.length ≤ 1000000) (hG : ∀ acc, G (S ++ [.lst acc]))
    (step : ∀ x ∈ xs, ∀ acc, ∃ sl1, g x (wipeS sl own) (S ++ [.lst acc]) = .nx sl1 (S ++ [.lst acc]) ∧ bt sl1 (S ++ [.lst acc]) = .ok (p x) (S ++ [.lst acc]) ∧ (p x = true → fe sl1 (S ++ [.lst acc]) = .ok (φ x) (S ++ [.lst acc])))
    (hu : ∀ x ∈ xs, p x = true → under S.length (φ x) = true) : eFin (eLc it g bt fe own) sl S = .ok (.lst ((xs.filter p).map φ)) S := by
  refine fin_eq (lc_eq p φ hit hl hG step) ?_
  rw [underL_iff]
  intro d hd
  obtain ⟨x, hx, rfl⟩ := List.mem_map.mp hd
  obtain ⟨h1, h2⟩ := List.mem_filter.mp hx
  exact hu x h1 h2
end
section
variable {S : Store} {P X : D → Store → Prop} {n : Nat} {cs : List Int}
/-- the sums of the law -/
def smL' (x y : La) (ks : List Int) : Ls := ks.map fun p => (p, laF x y p)
theorem smL_mem {x y : La} {ks : List Int} {p q : Int} : ((p, laF x y p) ∈ smL' x y ks) ↔ p ∈ ks := by
  unfold smL'
  constructor
  · intro h
    obtain ⟨r, hr, e⟩ := List.mem_map.mp h
    simp only [Prod.mk.injEq] at e
    rw [← e.1]; exact hr
  · intro h
    exact List.mem_map.mpr ⟨p, h, rfl⟩
theorem fm_congr {α β : Type} {f g : α → Option β} : ∀ {l : List α}, (∀ x ∈ l, f x = g x) → l.filterMap f = l.filterMap g
  | [], _ => rfl
  | a :: l, h => by
    rw [List.filterMap_cons, List.filterMap_cons, h a (by simp), fm_congr fun x hx => h x (by simp [hx])]
/-- the first of each, without zeros -/
theorem lit_list (x y : La) (ks : List Int) : ((rangeD 0 (smL' x y ks).length).filter (fun d => match d with | .int k => decide (((smL' x y ks).getD k.toNat (0, 0)).2 ≠ 0) && !decide ((smL' x y ks).getD k.toNat (0, 0) ∈ (smL' x y ks).take k.toNat) | _ => false)).map (fun d => match d with | .int k => lampD ((smL' x y ks).getD k.toNat (0, 0)) | d => d)
    = ((ks.eraseDups.filter fun p => decide (laF x y p ≠ 0)).map fun p => (p, laF x y p)).map lampD := by
  have h0 : (smL' x y ks).length = ks.length := by simp [smL']
  have h1 : ∀ (k : Nat) (a : Int), ks[k]? = some a → (smL' x y ks).getD k (0, 0) = (a, laF x y a) := fun k a h => by simp [smL', List.getD, h]
  have h2 : ∀ (k : Nat) (p : Int), ((p, laF x y p) ∈ (smL' x y ks).take k) ↔ p ∈ ks.take k := fun k p => by
    have : (smL' x y ks).take k = smL' x y (ks.take k) := by simp [smL']
    rw [this]
    exact smL_mem (q := 0)
  have h3 := firsts ks
  rw [← h3, List.filter_filterMap, List.map_filterMap, List.map_filterMap]
  unfold rangeD
  rw [h0, List.filter_map, List.map_map, ← List.filterMap_eq_map, ← List.filterMap_eq_filter, List.filterMap_filterMap]
  refine fm_congr fun k hk => ?_
  have hk := List.mem_range.mp hk
  obtain ⟨a, e⟩ : ∃ a, ks[k]? = some a := ⟨_, List.getElem?_eq_getElem hk⟩
  have e0 : ((0 : Int) + (k : Int)).toNat = k := by omega
  have g1 := h1 k a e
  have h2 := h2 k a
  have g1' : (smL' x y ks)[k]?.getD (0, 0) = (a, laF x y a) := by rw [← g1]; exact (List.getD_eq_getElem?_getD ..).symm
  simp only [Function.comp, e0, g1, e]
  by_cases hm : a ∈ ks.take k
  · have := h2.mpr hm
    simp [hm, this, Option.guard, g1']
  · have : ¬ (a, laF x y a) ∈ (smL' x y ks).take k := fun q => hm (h2.mp q)
    by_cases hz : laF x y a = 0
    · simp [hm, this, hz, Option.guard, Option.filter, g1']
    · simp [hm, this, hz, Option.guard, Option.filter, g1']
end
end Z
namespace Z
open PySem PySem.Spec L2 ZM
end Z
namespace Z
open PySem PySem.Spec L2 ZM
end Z
namespace Z
open PySem PySem.Spec L2 ZM
end Z
namespace Z
open PySem PySem.Spec L2 ZM
section
variable {S S1 S2 : Store} {sl : Sl} {W : Wd} {f f1 f2 : EX} {fs as : AX} {d e r : D} {ds : List D} {g : SemL} {m : Str} {Q : Q0} {c1 : BX} {s1 s2 : SX}
theorem q_n {i : Nat} (h : sl[i]? = some (some d)) : eName i sl S = .ok d S := eName_of h
theorem q_0 : aNil sl S = .ok [] S := rfl
theorem q_c (h : f sl S = .ok d S1) (h2 : fs sl S1 = .ok ds S2) : aCons f fs sl S = .ok (d :: ds) S2 := by simp only [aCons, h, h2, bind_ok]
theorem q_a {sem : SemL} (h : fs sl S = .ok ds S1) (h2 : sem ds S1 = .ok r S2) : eArgs sem fs sl S = .ok r S2 := by simp only [eArgs, h, bind_ok]; exact h2
theorem q_b {sem : Sem2} (h : f1 sl S = .ok d S) (h2 : f2 sl S = .ok e S1) (h3 : sem d e S1 = .ok r S2) : eBin sem f1 f2 sl S = .ok r S2 := by simp only [eBin, h, h2, bind_ok]; exact h3
theorem q_lst (h : fs sl S = .ok ds S) (hl : ds.length ≤ 1000000) : eArgs semLst fs sl S = .ok (.lst ds) S := q_a h (by unfold semLst; rw [if_pos hl])
theorem q_tup (h : fs sl S = .ok ds S) (hl : ds.length ≤ 1000000) : eArgs semTup fs sl S = .ok (.tup ds) S := q_a h (by unfold semTup; rw [if_pos hl])
/-- if not c: return False, where c holds -/
theorem wo_ask {r : SX} (h : f sl S = .ok (.bl true) S) (hq : Q.nx sl S) : Wo (sIf (bNot (bVal f)) r sNil sl S) Q := by
  rw [w_sIf, w_bNot, w_bVal, h, we_ok, isB_bl]
  simpa using hq
theorem wo_set {i : Nat} (h : f sl S = .ok d S) (hq : Q.nx (sl.set i (some d)) S) : Wo (sAsg f (gSet i) sl S) Q := by
  rw [w_sAsg, h, we_ok, w_gSet]
  exact hq
end
end Z
namespace Z
open PySem PySem.Spec L2
end Z
namespace Z
open PySem PySem.Spec L2 ZM
end Z
namespace Z
open PySem PySem.Spec L2 ZM
end Z
namespace Z
open PySem PySem.Spec L2 ZM
end Z
namespace Z
open PySem PySem.Spec L2 ZM
end Z
namespace Z
open PySem PySem.Spec L2 ZM
end Z
namespace ZM
end ZM
namespace Z
open PySem PySem.Spec L2 ZM
end Z
namespace Z
open PySem PySem.Spec L2 ZM
end Z
namespace Z
open PySem PySem.Spec L2 ZM
end Z
namespace Z
open PySem PySem.Spec L2 ZM
section
variable {S S1 S2 : Store} {sl : Sl} {W : Wd} {f f1 f2 fo : EX} {fs as : AX} {d e r : D} {ds : List D} {g : SemL} {m : Str} {Q : Q0} {tab : List (Str × SemL)}
theorem q_add {xs ys : List D} (h : f1 sl S = .ok (.lst xs) S) (h2 : f2 sl S = .ok (.lst ys) S) (hl : xs.length + ys.length ≤ 1000000) : eBin addX f1 f2 sl S = .ok (.lst (xs ++ ys)) S :=
  q_b h h2 (eq_of_we (by rw [w_add_lst]; exact ⟨hl, rfl, rfl⟩))
end
end Z
namespace Z
open PySem PySem.Spec L2 ZM TL
section
variable {S : Store} {P X : D → Store → Prop} {sl : Sl} {Q : Q0} {n : Nat} {ls : List Nat} {ps : List (Nat × Nat)} {W : Wd}
theorem okS_low {l : List Nat} (h : ∀ c ∈ l, c < 128) : okS l := fun c hc => by
  have := h c hc
  omega
end
end Z
namespace Z
open PySem PySem.Spec L2 ZM
end Z
namespace K04
open PySem PySem.Spec L2 Z PyProof.Rows
def T_law_0 : LamText := ⟨0, lamParams (kidE (valS (nthS (bodyS (nthS (defBody s_law) 1)) 6)) 0), lamBody (kidE (valS (nthS (bodyS (nthS (defBody s_law) 1)) 6)) 0), lamScope (defScope s_law) (kidE (valS (nthS (bodyS (nthS (defBody s_law) 1)) 6)) 0), "law.<locals>.<lambda>", [], ["_law_bent"]⟩
def T__law_reader_0 : LamText := ⟨1, lamParams (valS (nthS (defBody s__law_reader) 0)), lamBody (valS (nthS (defBody s__law_reader) 0)), lamScope (defScope s__law_reader) (valS (nthS (defBody s__law_reader) 0)), "_law_reader.<locals>.<lambda>", [], ["_law_asked"]⟩
/-- is_digits -/
noncomputable def m_is_digits : SX :=
  (sSeq (sIf (bOr (bNot (bVal (eChain leI leI (eLit (.int 1)) (eArgs lenX (aCons (eName 0) aNil)) (eLit (.int 30))))) (bNot (bVal (eArgs semAll (aCons (eFin (eLc (itAny (eName 0)) (gSet 1) bTrue (eBin inX (eName 1) (eLit (.str "0123456789"))) [1])) aNil)))))
  (sRet (eLit (.bl false)))
  sNil)
  (sRet (eOr (eBin (eqD false) (eName 0) (eLit (.str "0"))) (eBin (eqD true) (eBin ixX (eName 0) (eLit (.int 0))) (eLit (.str "0"))))))
noncomputable def f_is_digits : SemL := arity 1 (defS 2 m_is_digits)
/-- is_signed -/
noncomputable def m_is_signed : SX :=
  (sRet (eOr (eArgs f_is_digits (aCons (eName 0) aNil)) (eAnd (eBin (eqD false) (eSl false (eName 0) oNone (oInt (eLit (.int 1)))) (eLit (.str "-"))) (eAnd (eBin (eqD true) (eName 0) (eLit (.str "-0"))) (eArgs f_is_digits (aCons (eSl false (eName 0) (oInt (eLit (.int 1))) oNone) aNil))))))
noncomputable def f_is_signed : SemL := arity 1 (defS 1 m_is_signed)
/-- Ratio.read -/
noncomputable def m_Ratio_read : SX :=
  (sSeq (sIf (bNot (bVal (eArgs isiX (aCons (eName 0) (aCons (eLit (.ty "str")) aNil)))))
  (sRaise (eArgs (excS "InvalidText" "InvalidText" ["given"]) (aCons (eName 0) aNil)))
  sNil)
  (sSeq (sAsg (eMet tyStr semPartition (eName 0) (aCons (eLit (.str "/")) aNil)) (gTupX (gConsX (gSet 1) (gConsX (gSet 2) (gConsX (gSet 3) gNilX)))))
  (sSeq (sIf (bOr (bNot (bVal (eArgs f_is_signed (aCons (eName 1) aNil)))) (bAnd (bVal (eBin (eqD true) (eName 2) (eLit (.str "")))) (bOr (bNot (bVal (eArgs f_is_digits (aCons (eName 3) aNil)))) (bVal (eBin (eqD false) (eName 3) (eLit (.str "0")))))))
  (sRaise (eArgs (excS "InvalidText" "InvalidText" ["given"]) (aCons (eName 0) aNil)))
  sNil)
  (sSeq (sAsg (eFin (eArgs (makeS "Ratio" f_Ratio___init__) (aCons (eArgs semIntX (aCons (eName 1) aNil)) (aCons (eIf (bVal (eBin (eqD true) (eName 2) (eLit (.str "")))) (eArgs semIntX (aCons (eName 3) aNil)) (eLit (.int 1))) aNil)))) (gSet 4))
  (sSeq (sIf (bVal (eBin (eqD true) (eMethZ "text" [("Ratio", f_Ratio_text)] (eName 4) aNil) (eName 0)))
  (sRaise (eArgs (excS "InvalidText" "InvalidText" ["given"]) (aCons (eName 0) aNil)))
  sNil)
  (sRet (eName 4)))))))
noncomputable def f_Ratio_read : SemL := arity 1 (defS 5 m_Ratio_read)
noncomputable def fk_Ratio_read_0 : SemL := kwS 0 1 1 [0] [] (defS 5 m_Ratio_read)
/-- _law_reader -/
noncomputable def m__law_reader (Ps : Nat → Addr) (κ : List (Str × Addr)) : EX :=
  (eLam 0 (Ps 0) κ T__law_reader_0)
noncomputable def f__law_reader (Ps : Nat → Addr) : SemL := arity 1 (allK fun κ => defR 1 (retL ["_law_asked"] ["_law_asked"] κ (m__law_reader Ps κ)))
/-- _law_field -/
noncomputable def m__law_field : SX :=
  (sSeq (sIf (bVal (eBin inX (eXat "tag" ["InvalidRatio", "InvalidText"] (eName 0)) (eArgs semTup (aCons (eLit (.str "InvalidRatio")) (aCons (eLit (.str "InvalidWorld")) (aCons (eLit (.str "InvalidElement")) (aCons (eLit (.str "InvalidStep")) (aCons (eLit (.str "InvalidLimit")) aNil))))))))
  (sRet (eXat "value" ["InvalidRatio"] (eName 0)))
  sNil)
  (sSeq (sIf (bVal (eBin inX (eXat "tag" ["InvalidRatio", "InvalidText"] (eName 0)) (eArgs semTup (aCons (eLit (.str "InvalidName")) (aCons (eLit (.str "WrongKind")) (aCons (eLit (.str "CircularName")) (aCons (eLit (.str "UnknownName")) aNil)))))))
  (sRet eBad)
  sNil)
  (sSeq (sIf (bVal (eBin inX (eXat "tag" ["InvalidRatio", "InvalidText"] (eName 0)) (eArgs semTup (aCons (eLit (.str "InvalidPlan")) (aCons (eLit (.str "EmptyLoop")) aNil)))))
  (sRet eBad)
  sNil)
  (sSeq (sIf (bVal (eBin inX (eXat "tag" ["InvalidRatio", "InvalidText"] (eName 0)) (eArgs semTup (aCons (eLit (.str "TooMany")) (aCons (eLit (.str "CapacityExceeded")) aNil)))))
  (sRet eBad)
  sNil)
  (sSeq (sIf (bVal (eBin inX (eXat "tag" ["InvalidRatio", "InvalidText"] (eName 0)) (eArgs semTup (aCons (eLit (.str "InvalidText")) (aCons (eLit (.str "InvalidProgram")) aNil)))))
  (sRet (eIf (bVal (eBin (eqD false) (eXat "tag" ["InvalidRatio", "InvalidText"] (eName 0)) (eLit (.str "InvalidText")))) (eXat "given" ["InvalidText"] (eName 0)) eBad))
  sNil)
  (sSeq (sIf (bVal (eBin inX (eXat "tag" ["InvalidRatio", "InvalidText"] (eName 0)) (eArgs semTup (aCons (eLit (.str "InUse")) (aCons (eLit (.str "Breaks")) aNil)))))
  (sRet (eIf (bVal (eBin (eqD false) (eXat "tag" ["InvalidRatio", "InvalidText"] (eName 0)) (eLit (.str "InUse")))) eBad (eArgs semTup (aCons eBad (aCons eBad aNil)))))
  sNil)
  (sSeq (sIf (bVal (eBin inX (eXat "tag" ["InvalidRatio", "InvalidText"] (eName 0)) (eArgs semTup (aCons (eLit (.str "InvalidCommand")) (aCons (eLit (.str "InvalidPage")) aNil)))))
  (sRet (eIf (bVal (eBin (eqD false) (eXat "tag" ["InvalidRatio", "InvalidText"] (eName 0)) (eLit (.str "InvalidCommand")))) eBad eBad))
  sNil)
  (sRet (eIf (bVal (eBin (eqD false) (eXat "tag" ["InvalidRatio", "InvalidText"] (eName 0)) (eLit (.str "InvalidReader")))) eBad (eLit .non))))))))))
noncomputable def f__law_field : SemL := arity 1 (defS 1 m__law_field)
/-- a lambda of law -/
noncomputable def l_law_0 : SemL := lamF [] (eCallK 0 1 fk_Ratio_read_0 aNil (aCons (eName 0) aNil))
/-- a lambda of _law_reader -/
noncomputable def l__law_reader_0 : SemL := lamF [] (eArgs f_Ratio_read (aCons (eName 0) aNil))
noncomputable def lamTab (Ps : Nat → Addr) : LamText → Option SemL := consL T_law_0 l_law_0 (consL T__law_reader_0 l__law_reader_0 (nilL))
/-- _law_why -/
noncomputable def m__law_why (Ps : Nat → Addr) : SX :=
  (sTry [("InvalidRatio", true), ("InvalidText", true)] 1
  (sRet (eArgs semTup (aCons (eLit (.str "value")) (aCons (callLc (lamTab Ps) 0) aNil))))
  (sRet (eArgs semTup (aCons (eXat "tag" ["InvalidRatio", "InvalidText"] (eName 1)) (aCons (eArgs f__law_field (aCons (eName 1) aNil)) aNil)))))
noncomputable def f__law_why (Ps : Nat → Addr) : SemL := arity 1 (defS 2 (m__law_why Ps))
/-- _law_whys -/
noncomputable def m__law_whys (Ps : Nat → Addr) : SX :=
  (sRet (eFin (eLc (itAny (eName 0)) (gSet 1) bTrue (eArgs (f__law_why Ps) (aCons (eName 1) aNil)) [1])))
noncomputable def f__law_whys (Ps : Nat → Addr) : SemL := arity 1 (defS 2 (m__law_whys Ps))
/-- law -/
noncomputable def m_law (Ps : Nat → Addr) (κ : List (Str × Addr)) : SX :=
  (sSeq (sAsg (eArgs f__law_bag (aCons (eName 0) aNil)) (gSet 1))
  (sSeq (sFor (itRange1 (aCons (eLit (.int 8)) aNil)) (gSet 2)
  (sSeq (sAsg (eArgs f__law_of (aCons (eName 1) (aCons (eArgs semLst (aCons (eLit (.int 12)) (aCons (eBin powI (eLit (.int 10)) (eLit (.int 6))) (aCons (eBin subI (eBin powI (eLit (.int 10)) (eLit (.int 30))) (eLit (.int 1))) aNil)))) aNil))) (gSet 3))
  (sSeq (sAsg (eArgs f__law_frac (aCons (eBin subI (eArgs f__law_pick (aCons (eName 1) (aCons (eBin mulXT (eLit (.int 2)) (eName 3)) aNil))) (eName 3)) (aCons (eBin addX (eLit (.int 1)) (eArgs f__law_pick (aCons (eName 1) (aCons (eName 3) aNil)))) aNil))) (gSet 4))
  (sSeq (sAsg (eArgs f__law_frac_text (aCons (eName 4) aNil)) (gSet 5))
  (sSeq (sIf (bNot (bVal (eArgs f__law_same (aCons (eArgs f__law_pair (aCons (eArgs f_Ratio_read (aCons (eName 5) aNil)) aNil)) (aCons (eName 4) aNil)))))
  (sRet (eLit (.bl false)))
  sNil)
  (sSeq (sPar 6 7 (aCons (eArgs f__law_pick (aCons (eName 1) (aCons (eBin addX (eArgs lenX (aCons (eName 5) aNil)) (eLit (.int 1))) aNil))) (aCons (eArgs f__law_of (aCons (eName 1) (aCons (eArgs semLst (aCons (eLit (.str "")) (aCons (eLit (.str "0")) (aCons (eLit (.str "1")) (aCons (eLit (.str "2")) (aCons (eLit (.str "-")) (aCons (eLit (.str "/")) (aCons (eLit (.str " ")) (aCons (eLit (.str "+")) (aCons (eLit (.str ".")) aNil)))))))))) aNil))) aNil)))
  (sSeq (sAsg (eBin addX (eBin addX (eSl false (eName 5) oNone (oInt (eName 6))) (eName 7)) (eSl false (eName 5) (oInt (eBin addX (eName 6) (eArgs f__law_pick (aCons (eName 1) (aCons (eLit (.int 2)) aNil))))) oNone)) (gSet 8))
  (sSeq (sAsg (callL ["_law_bent"] ["_law_script", "_law_bag_here", "_law_turn", "_law_wide", "_law_due", "_law_text_z", "_law_at", "_law_sign", "_law_bent", "_law_told", "_law_odd", "_law_one"] κ (f__law_why Ps) (aCons (eLam 1 (Ps 1) κ T_law_0) aNil)) (gSet 9))
  (sIf (bVal (eBin (eqD false) (eBin ixX (eName 9) (eLit (.int 0))) (eLit (.str "value"))))
  (sIf (bVal (eBin (eqD true) (eArgs f__law_frac_text (aCons (eArgs f__law_pair (aCons (eBin ixX (eName 9) (eLit (.int 1))) aNil)) aNil)) (eName 8)))
  (sRet (eLit (.bl false)))
  sNil)
  (sIf (bOr (bNot (bVal (eArgs f__law_same (aCons (eName 9) (aCons (eArgs semTup (aCons (eLit (.str "InvalidText")) (aCons (eName 8) aNil))) aNil))))) (bVal (eBin (eqD false) (eName 8) (eName 5))))
  (sRet (eLit (.bl false)))
  sNil))))))))))
  (sSeq (sAsg (eArgs semLst (aCons (eLit (.str "")) (aCons (eLit (.str "-")) (aCons (eLit (.str "/")) (aCons (eLit (.str "1/")) (aCons (eLit (.str "/2")) (aCons (eLit (.str "2/4")) (aCons (eLit (.str "3/1")) (aCons (eLit (.str "1/0")) (aCons (eLit (.str "0/3")) (aCons (eLit (.str "-0")) (aCons (eLit (.str "00")) (aCons (eLit (.str "01")) (aCons (eLit (.str "1/02")) (aCons (eLit (.str "+1")) (aCons (eLit (.str " 1")) aNil)))))))))))))))) (gSet 10))
  (sSeq (sAsg (eBin addX (eName 10) (eArgs semLst (aCons (eLit (.str "1 ")) (aCons (eLit (.str "1/-2")) (aCons (eLit (.str "--1")) aNil))))) (gSet 10))
  (sSeq (sAsg (eBin addX (eName 10) (eArgs semLst (aCons (eLit (.str "1/2/3")) (aCons (eLit (.str "1.5")) (aCons (eLit (.str "a")) (aCons (eLit (.str "-1/-2")) (aCons (eBin mulXT (eLit (.str "1")) (eLit (.int 31))) (aCons (eBin addX (eLit (.str "1/")) (eBin mulXT (eLit (.str "3")) (eLit (.int 31)))) (aCons (eLit .non) (aCons (eLit (.int 1)) (aCons (eLit (.bl true)) (aCons (eArgs semTup (aCons (eLit (.str "1")) aNil)) (aCons (eArgs semLst (aCons (eLit (.str "1")) aNil)) aNil))))))))))))) (gSet 10))
  (sRet (eArgs f__law_same (aCons (callL ["_law_bent"] ["_law_script", "_law_bag_here", "_law_turn", "_law_wide", "_law_due", "_law_text_z", "_law_at", "_law_sign", "_law_bent", "_law_told", "_law_odd", "_law_one"] κ (f__law_whys Ps) (aCons (eFin (eLc (itAny (eName 10)) (gSet 11) bTrue (eArgs (f__law_reader Ps) (aCons (eName 11) aNil)) [11])) aNil)) (aCons (eFin (eLc (itAny (eName 10)) (gSet 11) bTrue (eArgs semTup (aCons (eLit (.str "InvalidText")) (aCons (eName 11) aNil))) [11])) aNil)))))))))
theorem sc_common_divisor : FnScope ["one", "other"] ["one", "other"] (defScope s_common_divisor) := ⟨rfl, rfl, rfl, by decide +kernel, rfl, by decide +kernel, by decide +kernel⟩
theorem sc_is_whole : FnScope ["value"] ["value"] (defScope s_is_whole) := ⟨rfl, rfl, rfl, by decide +kernel, rfl, by decide +kernel, by decide +kernel⟩
theorem sc_Ratio___init__ : FnScope ["self", "top", "bottom", "share"] ["self", "top", "bottom"] (defScope s_Ratio___init__) := ⟨rfl, rfl, rfl, by decide +kernel, rfl, by decide +kernel, by decide +kernel⟩
theorem sc_Ratio_text : FnScope ["self"] ["self"] (defScope s_Ratio_text) := ⟨rfl, rfl, rfl, by decide +kernel, rfl, by decide +kernel, by decide +kernel⟩
theorem sc_is_digits : FnScope ["text", "sign"] ["text"] (defScope s_is_digits) := ⟨rfl, rfl, rfl, by decide +kernel, rfl, by decide +kernel, by decide +kernel⟩
theorem sc_is_signed : FnScope ["text"] ["text"] (defScope s_is_signed) := ⟨rfl, rfl, rfl, by decide +kernel, rfl, by decide +kernel, by decide +kernel⟩
theorem sc_Ratio_read : FnScope ["text", "head", "bar", "tail", "found"] ["text"] (defScope s_Ratio_read) := ⟨rfl, rfl, rfl, by decide +kernel, rfl, by decide +kernel, by decide +kernel⟩
theorem sc__law_bag : FnScope ["_law_script"] ["_law_script"] (defScope s__law_bag) := ⟨rfl, rfl, rfl, by decide +kernel, rfl, by decide +kernel, by decide +kernel⟩
theorem sc__law_gcd : FnScope ["_law_one", "_law_other", "_law_high", "_law_low"] ["_law_one", "_law_other"] (defScope s__law_gcd) := ⟨rfl, rfl, rfl, by decide +kernel, rfl, by decide +kernel, by decide +kernel⟩
theorem sc__law_frac : FnScope ["_law_up", "_law_down", "_law_share"] ["_law_up", "_law_down"] (defScope s__law_frac) := ⟨rfl, rfl, rfl, by decide +kernel, rfl, by decide +kernel, by decide +kernel⟩
theorem sc__law_frac_text : FnScope ["_law_pair_here"] ["_law_pair_here"] (defScope s__law_frac_text) := ⟨rfl, rfl, rfl, by decide +kernel, rfl, by decide +kernel, by decide +kernel⟩
theorem sc__law_pick : FnScope ["_law_bag_here", "_law_many", "_law_cell", "_law_digit", "_law_seed"] ["_law_bag_here", "_law_many"] (defScope s__law_pick) := ⟨rfl, rfl, rfl, by decide +kernel, rfl, by decide +kernel, by decide +kernel⟩
theorem sc__law_of : FnScope ["_law_bag_here", "_law_some"] ["_law_bag_here", "_law_some"] (defScope s__law_of) := ⟨rfl, rfl, rfl, by decide +kernel, rfl, by decide +kernel, by decide +kernel⟩
theorem sc_Ratio_bottom : FnScope ["self"] ["self"] (defScope s_Ratio_bottom) := ⟨rfl, rfl, rfl, by decide +kernel, rfl, by decide +kernel, by decide +kernel⟩
theorem sc_Ratio_top : FnScope ["self"] ["self"] (defScope s_Ratio_top) := ⟨rfl, rfl, rfl, by decide +kernel, rfl, by decide +kernel, by decide +kernel⟩
theorem sc__law_pair : FnScope ["_law_found"] ["_law_found"] (defScope s__law_pair) := ⟨rfl, rfl, rfl, by decide +kernel, rfl, by decide +kernel, by decide +kernel⟩
theorem sc__law_reader : FnScope ["_law_asked"] ["_law_asked"] (defScope s__law_reader) := ⟨rfl, rfl, rfl, by decide +kernel, rfl, by decide +kernel, by decide +kernel⟩
theorem sc__law_same : FnScope ["_law_found", "_law_due", "_law_a", "_law_b"] ["_law_found", "_law_due"] (defScope s__law_same) := ⟨rfl, rfl, rfl, by decide +kernel, rfl, by decide +kernel, by decide +kernel⟩
theorem sc__law_field : FnScope ["_law_e"] ["_law_e"] (defScope s__law_field) := ⟨rfl, rfl, rfl, by decide +kernel, rfl, by decide +kernel, by decide +kernel⟩
theorem sc__law_why : FnScope ["_law_ask", "_law_e"] ["_law_ask"] (defScope s__law_why) := ⟨rfl, rfl, rfl, by decide +kernel, rfl, by decide +kernel, by decide +kernel⟩
theorem sc__law_whys : FnScope ["_law_asks", "_law_ask"] ["_law_asks"] (defScope s__law_whys) := ⟨rfl, rfl, rfl, by decide +kernel, rfl, by decide +kernel, by decide +kernel⟩
theorem sc_law : FnScope ["_law_script", "_law_bag_here", "_law_turn", "_law_wide", "_law_due", "_law_text_z", "_law_at", "_law_sign", "_law_bent", "_law_told", "_law_odd", "_law_one"] ["_law_script"] (defScope s_law) := ⟨rfl, rfl, rfl, by decide +kernel, rfl, by decide +kernel, by decide +kernel⟩
theorem lw_law_0 : LamWf T_law_0 [] := ⟨rfl, rfl, rfl, by decide +kernel, by decide +kernel, by decide +kernel, by decide +kernel, by decide +kernel, rfl, (lam_bind0 rfl fun _ _ _ _ _ => rfl)⟩
theorem lw__law_reader_0 : LamWf T__law_reader_0 [] := ⟨rfl, rfl, rfl, by decide +kernel, by decide +kernel, by decide +kernel, by decide +kernel, by decide +kernel, rfl, (lam_bind0 rfl fun _ _ _ _ _ => rfl)⟩
/-- what the walk asks of the written part -/
structure Tx (K : PySem.W.Frag) (mg : Str → Option Value) (a_common_divisor a_is_whole a_is_digits a_is_signed a__law_bag a__law_gcd a__law_frac a__law_frac_text a__law_pick a__law_of a__law_pair a__law_reader a__law_same a__law_field a__law_why a__law_whys a_law C_Ratio a_Ratio___init__ a_Ratio_text a_Ratio_read a_Ratio_bottom a_Ratio_top p_Ratio_read p_Ratio_bottom p_Ratio_top C_WayError C_Missing C_InvalidRatio C_InvalidText C_NothingLeft : Addr) : Prop where
  m_common_divisor : mg "common_divisor" = some (.ref a_common_divisor)
  k_common_divisor : PySem.W.keepIn K (.ref a_common_divisor) = true
  m_is_whole : mg "is_whole" = some (.ref a_is_whole)
  k_is_whole : PySem.W.keepIn K (.ref a_is_whole) = true
  m_is_digits : mg "is_digits" = some (.ref a_is_digits)
  k_is_digits : PySem.W.keepIn K (.ref a_is_digits) = true
  m_is_signed : mg "is_signed" = some (.ref a_is_signed)
  k_is_signed : PySem.W.keepIn K (.ref a_is_signed) = true
  m__law_bag : mg "_law_bag" = some (.ref a__law_bag)
  k__law_bag : PySem.W.keepIn K (.ref a__law_bag) = true
  m__law_gcd : mg "_law_gcd" = some (.ref a__law_gcd)
  k__law_gcd : PySem.W.keepIn K (.ref a__law_gcd) = true
  m__law_frac : mg "_law_frac" = some (.ref a__law_frac)
  k__law_frac : PySem.W.keepIn K (.ref a__law_frac) = true
  m__law_frac_text : mg "_law_frac_text" = some (.ref a__law_frac_text)
  k__law_frac_text : PySem.W.keepIn K (.ref a__law_frac_text) = true
  m__law_pick : mg "_law_pick" = some (.ref a__law_pick)
  k__law_pick : PySem.W.keepIn K (.ref a__law_pick) = true
  m__law_of : mg "_law_of" = some (.ref a__law_of)
  k__law_of : PySem.W.keepIn K (.ref a__law_of) = true
  m__law_pair : mg "_law_pair" = some (.ref a__law_pair)
  k__law_pair : PySem.W.keepIn K (.ref a__law_pair) = true
  m__law_reader : mg "_law_reader" = some (.ref a__law_reader)
  k__law_reader : PySem.W.keepIn K (.ref a__law_reader) = true
  m__law_same : mg "_law_same" = some (.ref a__law_same)
  k__law_same : PySem.W.keepIn K (.ref a__law_same) = true
  m__law_field : mg "_law_field" = some (.ref a__law_field)
  k__law_field : PySem.W.keepIn K (.ref a__law_field) = true
  m__law_why : mg "_law_why" = some (.ref a__law_why)
  k__law_why : PySem.W.keepIn K (.ref a__law_why) = true
  m__law_whys : mg "_law_whys" = some (.ref a__law_whys)
  k__law_whys : PySem.W.keepIn K (.ref a__law_whys) = true
  m_law : mg "law" = some (.ref a_law)
  k_law : PySem.W.keepIn K (.ref a_law) = true
  m_Ratio : mg "Ratio" = some (.ref C_Ratio)
  cl_Ratio : Cls K C_Ratio
  mk_Ratio : Mk K C_Ratio a_Ratio___init__
  na_Ratio_own_bottom : NoAttr K C_Ratio "own_bottom"
  na_Ratio_own_top : NoAttr K C_Ratio "own_top"
  me_Ratio_text : Meth K C_Ratio "text" a_Ratio_text
  it_Ratio : InsT K C_Ratio
  pr_Ratio_bottom : PropOf K C_Ratio "bottom" p_Ratio_bottom a_Ratio_bottom
  pr_Ratio_top : PropOf K C_Ratio "top" p_Ratio_top a_Ratio_top
  sm_Ratio_read : SmOk K C_Ratio p_Ratio_read a_Ratio_read "read"
  kt_Ratio_Ratio : PySem.W.kitOne K (.ref C_Ratio) (.ref C_Ratio) = some true
  ty_Ratio : ((PySem.W.clsIn K C_Ratio).isSome && PySem.W.typeIn K (.ref C_Ratio) == some (.type "type")) = true
  m_WayError : mg "WayError" = some (.ref C_WayError)
  m_Missing : mg "Missing" = some (.ref C_Missing)
  m_InvalidRatio : mg "InvalidRatio" = some (.ref C_InvalidRatio)
  m_InvalidText : mg "InvalidText" = some (.ref C_InvalidText)
  m_NothingLeft : mg "NothingLeft" = some (.ref C_NothingLeft)
  xf_InvalidRatio : XfC K C_InvalidRatio
  xn_InvalidRatio_tag : PySem.W.findIn K (.ref C_InvalidRatio) "tag" = some none
  xn_InvalidRatio_value : PySem.W.findIn K (.ref C_InvalidRatio) "value" = some none
  xf_InvalidText : XfC K C_InvalidText
  xn_InvalidText_given : PySem.W.findIn K (.ref C_InvalidText) "given" = some none
  xn_InvalidText_tag : PySem.W.findIn K (.ref C_InvalidText) "tag" = some none
  tr_InvalidRatio_WayError_Missing_NothingLeft : PySem.W.exmAny K (.ref C_InvalidRatio) [.ref C_WayError, .ref C_Missing, .ref C_NothingLeft] = some true
  tr_InvalidText_WayError_Missing_NothingLeft : PySem.W.exmAny K (.ref C_InvalidText) [.ref C_WayError, .ref C_Missing, .ref C_NothingLeft] = some true
  c_DIGITS : ∃ t, mg "DIGITS" = some (.str "0123456789" t)
  c_MOST_DIGITS : ∃ t, mg "MOST_DIGITS" = some (.int 30 t)
  b_abs : mg "abs" = none
  b_all : mg "all" = none
  b_bool : mg "bool" = none
  b_int : mg "int" = none
  b_isinstance : mg "isinstance" = none
  b_len : mg "len" = none
  b_list : mg "list" = none
  b_range : mg "range" = none
  b_str : mg "str" = none
  b_tuple : mg "tuple" = none
  b_zip : mg "zip" = none
section
variable {P : Program} {w : World} {K : PySem.W.Frag} {mg : Str → Option Value} {base : Heap} {a_common_divisor a_is_whole a_is_digits a_is_signed a__law_bag a__law_gcd a__law_frac a__law_frac_text a__law_pick a__law_of a__law_pair a__law_reader a__law_same a__law_field a__law_why a__law_whys a_law C_Ratio a_Ratio___init__ a_Ratio_text a_Ratio_read a_Ratio_bottom a_Ratio_top p_Ratio_read p_Ratio_bottom p_Ratio_top C_WayError C_Missing C_InvalidRatio C_InvalidText C_NothingLeft : Addr}
theorem o_common_divisor (T : Tx K mg a_common_divisor a_is_whole a_is_digits a_is_signed a__law_bag a__law_gcd a__law_frac a__law_frac_text a__law_pick a__law_of a__law_pair a__law_reader a__law_same a__law_field a__law_why a__law_whys a_law C_Ratio a_Ratio___init__ a_Ratio_text a_Ratio_read a_Ratio_bottom a_Ratio_top p_Ratio_read p_Ratio_bottom p_Ratio_top C_WayError C_Missing C_InvalidRatio C_InvalidText C_NothingLeft) {fd : FuncData} (F : FunD K "common_divisor" "common_divisor" (defArgs s_common_divisor) (defBody s_common_divisor) (defScope s_common_divisor) [] [] a_common_divisor fd)  : FnOk P w K mg base (Z.CX P w) 1 a_common_divisor fd ["one", "other"] (spOf K mg 2 (defS 2 (m_common_divisor))) := by
  refine fn_okD (N := ["one", "other"]) F sc_common_divisor (k := 0) (body := m_common_divisor) fun A outer s H E hr => ?_
  have tk : Z.Takes (cxOf (Z.CX P w) P w K mg base ["one", "other"] "common_divisor" (defScope s_common_divisor) a_common_divisor fd.code A outer s H E) (fun c d _ H' => E c d H') := Z.takes_of rfl rfl rfl rfl
  have hp : PassesOwn (model P w) (cxOf (Z.CX P w) P w K mg base ["one", "other"] "common_divisor" (defScope s_common_divisor) a_common_divisor fd.code A outer s H E).A (cxOf (Z.CX P w) P w K mg base ["one", "other"] "common_divisor" (defScope s_common_divisor) a_common_divisor fd.code A outer s H E).env (cxOf (Z.CX P w) P w K mg base ["one", "other"] "common_divisor" (defScope s_common_divisor) a_common_divisor fd.code A outer s H E).xe := passes_of rfl
  unfold m_common_divisor
  exact (s_cons (s_par (i := 0) (j := 1) rfl sc_common_divisor.nd (a_cons (r_callB d_abs rfl T.b_abs PyProof.Rows.boot_abs (a_cons (r_name (i := 0)) a_nil)) (a_cons (r_callB d_abs rfl T.b_abs PyProof.Rows.boot_abs (a_cons (r_name (i := 1)) a_nil)) a_nil)))
  (s_cons (s_while hp (b_cmp d_gtI (r_name (i := 1)) r_int)
  (s_one (s_par (i := 0) (j := 1) rfl sc_common_divisor.nd (a_cons (r_name (i := 1)) (a_cons (r_bin d_modI (r_name (i := 0)) (r_name (i := 1))) a_nil)))))
  (s_one (s_ret (r_name (i := 0))))))
theorem d_common_divisor {fd : FuncData} (F : FunD K "common_divisor" "common_divisor" (defArgs s_common_divisor) (defBody s_common_divisor) (defScope s_common_divisor) [] [] a_common_divisor fd) (O : FnOk P w K mg base (Z.CX P w) 1 a_common_divisor fd ["one", "other"] (spOf K mg 2 (defS 2 (m_common_divisor)))) : FZ P w K mg base 1 a_common_divisor f_common_divisor := fz_of0 O (F.bindsN (ps := ["one", "other"]) fun _ _ _ _ _ _ us hl => match us, hl with | [_, _], _ => rfl)
theorem o_is_whole (T : Tx K mg a_common_divisor a_is_whole a_is_digits a_is_signed a__law_bag a__law_gcd a__law_frac a__law_frac_text a__law_pick a__law_of a__law_pair a__law_reader a__law_same a__law_field a__law_why a__law_whys a_law C_Ratio a_Ratio___init__ a_Ratio_text a_Ratio_read a_Ratio_bottom a_Ratio_top p_Ratio_read p_Ratio_bottom p_Ratio_top C_WayError C_Missing C_InvalidRatio C_InvalidText C_NothingLeft) {fd : FuncData} (F : FunD K "is_whole" "is_whole" (defArgs s_is_whole) (defBody s_is_whole) (defScope s_is_whole) [] [] a_is_whole fd)  : FnOk P w K mg base (Z.CX P w) 1 a_is_whole fd ["value"] (spOf K mg 1 (defS 1 (m_is_whole))) := by
  refine fn_okD (N := ["value"]) F sc_is_whole (k := 0) (body := m_is_whole) fun A outer s H E hr => ?_
  have tk : Z.Takes (cxOf (Z.CX P w) P w K mg base ["value"] "is_whole" (defScope s_is_whole) a_is_whole fd.code A outer s H E) (fun c d _ H' => E c d H') := Z.takes_of rfl rfl rfl rfl
  have hp : PassesOwn (model P w) (cxOf (Z.CX P w) P w K mg base ["value"] "is_whole" (defScope s_is_whole) a_is_whole fd.code A outer s H E).A (cxOf (Z.CX P w) P w K mg base ["value"] "is_whole" (defScope s_is_whole) a_is_whole fd.code A outer s H E).env (cxOf (Z.CX P w) P w K mg base ["value"] "is_whole" (defScope s_is_whole) a_is_whole fd.code A outer s H E).xe := passes_of rfl
  unfold m_is_whole
  exact (s_one (s_ret (r_and (r_callB d_isiX rfl T.b_isinstance PyProof.Rows.boot_isinstance (a_cons (r_name (i := 0)) (a_cons (r_ty rfl T.b_int PyProof.Rows.boot_int) a_nil))) (r_one (r_not (r_callB d_isiX rfl T.b_isinstance PyProof.Rows.boot_isinstance (a_cons (r_name (i := 0)) (a_cons (r_ty rfl T.b_bool PyProof.Rows.boot_bool) a_nil))))))))
theorem d_is_whole {fd : FuncData} (F : FunD K "is_whole" "is_whole" (defArgs s_is_whole) (defBody s_is_whole) (defScope s_is_whole) [] [] a_is_whole fd) (O : FnOk P w K mg base (Z.CX P w) 1 a_is_whole fd ["value"] (spOf K mg 1 (defS 1 (m_is_whole)))) : FZ P w K mg base 1 a_is_whole f_is_whole := fz_of0 O (F.bindsN (ps := ["value"]) fun _ _ _ _ _ _ us hl => match us, hl with | [_], _ => rfl)
theorem o_Ratio___init__ (T : Tx K mg a_common_divisor a_is_whole a_is_digits a_is_signed a__law_bag a__law_gcd a__law_frac a__law_frac_text a__law_pick a__law_of a__law_pair a__law_reader a__law_same a__law_field a__law_why a__law_whys a_law C_Ratio a_Ratio___init__ a_Ratio_text a_Ratio_read a_Ratio_bottom a_Ratio_top p_Ratio_read p_Ratio_bottom p_Ratio_top C_WayError C_Missing C_InvalidRatio C_InvalidText C_NothingLeft) {fd : FuncData} (F : FunD K "__init__" "Ratio.__init__" (defArgs s_Ratio___init__) (defBody s_Ratio___init__) (defScope s_Ratio___init__) [(V.int 1)] [] a_Ratio___init__ fd) (Z_common_divisor : FZ P w K mg base 1 a_common_divisor f_common_divisor) (Z_is_whole : FZ P w K mg base 1 a_is_whole f_is_whole) (X_InvalidRatio : XMk P w K mg base "InvalidRatio" C_InvalidRatio 2 "InvalidRatio" ["value"]) : FnOk P w K mg base (Z.CX P w) 4 a_Ratio___init__ fd ["self", "top", "bottom"] (spOf K mg 3 (defS 4 (m_Ratio___init__))) := by
  refine fn_okD (N := ["self", "top", "bottom", "share"]) F sc_Ratio___init__ (k := 3) (body := m_Ratio___init__) fun A outer s H E hr => ?_
  have tk : Z.Takes (cxOf (Z.CX P w) P w K mg base ["self", "top", "bottom", "share"] "Ratio.__init__" (defScope s_Ratio___init__) a_Ratio___init__ fd.code A outer s H E) (fun c d _ H' => E c d H') := Z.takes_of rfl rfl rfl rfl
  have hp : PassesOwn (model P w) (cxOf (Z.CX P w) P w K mg base ["self", "top", "bottom", "share"] "Ratio.__init__" (defScope s_Ratio___init__) a_Ratio___init__ fd.code A outer s H E).A (cxOf (Z.CX P w) P w K mg base ["self", "top", "bottom", "share"] "Ratio.__init__" (defScope s_Ratio___init__) a_Ratio___init__ fd.code A outer s H E).env (cxOf (Z.CX P w) P w K mg base ["self", "top", "bottom", "share"] "Ratio.__init__" (defScope s_Ratio___init__) a_Ratio___init__ fd.code A outer s H E).xe := passes_of rfl
  unfold m_Ratio___init__
  exact (s_cons (s_if (b_not (b_val (r_callZ tk Z_is_whole (hr.mono (by omega)) T.m_is_whole T.k_is_whole (a_cons (r_name (i := 1)) a_nil))))
  (s_one (s_raiseZ tk rfl X_InvalidRatio (hr.mono (by omega)) (by decide) (a_cons (r_name (i := 1)) a_nil)))
  s_nil)
  (s_cons (s_if (EW.eb (w_or (b_not (b_val (r_callZ tk Z_is_whole (hr.mono (by omega)) T.m_is_whole T.k_is_whole (a_cons (r_name (i := 2)) a_nil)))) (w_or1 (b_cmp (d_eq hr.units) (r_name (i := 2)) r_int))))
  (s_one (s_raiseZ tk rfl X_InvalidRatio (hr.mono (by omega)) (by decide) (a_cons (r_name (i := 2)) a_nil)))
  s_nil)
  (s_cons (s_set (i := 3) sc_Ratio___init__.nd (r_callZ tk Z_common_divisor (hr.mono (by omega)) T.m_common_divisor T.k_common_divisor (a_cons (r_name (i := 1)) (a_cons (r_name (i := 2)) a_nil))))
  (s_cons (s_fldZ (cls_cons T.m_Ratio T.cl_Ratio T.na_Ratio_own_top cls_nil) (r_name (i := 0)) (r_if (b_cmp d_gtI (r_name (i := 2)) r_int) (r_bin d_divI (r_name (i := 1)) (r_name (i := 3))) (r_bin d_divI (r_un d_negI (r_name (i := 1))) (r_name (i := 3)))))
  (s_one (s_fldZ (cls_cons T.m_Ratio T.cl_Ratio T.na_Ratio_own_bottom cls_nil) (r_name (i := 0)) (r_bin d_divI (r_callB d_abs rfl T.b_abs PyProof.Rows.boot_abs (a_cons (r_name (i := 2)) a_nil)) (r_name (i := 3)))))))))
theorem d_Ratio___init__ {fd : FuncData} (F : FunD K "__init__" "Ratio.__init__" (defArgs s_Ratio___init__) (defBody s_Ratio___init__) (defScope s_Ratio___init__) [(V.int 1)] [] a_Ratio___init__ fd) (O : FnOk P w K mg base (Z.CX P w) 4 a_Ratio___init__ fd ["self", "top", "bottom"] (spOf K mg 3 (defS 4 (m_Ratio___init__)))) : FZ P w K mg base 4 a_Ratio___init__ f_Ratio___init__ := by
  have h0 : Binds K fd ["self", "top", "bottom"] [] := by
    obtain ⟨ds, hd, hb⟩ := (F.binds1 (ps := ["self", "top", "bottom"]) 3 1 (by simp) rfl fun _ _ _ _ _ _ _ us its hl hd => match us, hl, its, hd with | [_, _, _], _, [_], _ => ⟨_, rfl, rfl⟩)
    cases hd
    exact hb
  have h1 := (F.binds1 (ps := ["self", "top", "bottom"]) 2 0 (by simp) rfl fun _ _ _ _ _ _ _ us its hl hd => match us, hl, its, hd with | [_, _], _, [_], _ => ⟨_, rfl, rfl⟩)
  exact fz_of2 O h0 h1 (fun ρ H => RepL.cons mk_int (RepL.nil))
theorem o_Ratio_text (T : Tx K mg a_common_divisor a_is_whole a_is_digits a_is_signed a__law_bag a__law_gcd a__law_frac a__law_frac_text a__law_pick a__law_of a__law_pair a__law_reader a__law_same a__law_field a__law_why a__law_whys a_law C_Ratio a_Ratio___init__ a_Ratio_text a_Ratio_read a_Ratio_bottom a_Ratio_top p_Ratio_read p_Ratio_bottom p_Ratio_top C_WayError C_Missing C_InvalidRatio C_InvalidText C_NothingLeft) {fd : FuncData} (F : FunD K "text" "Ratio.text" (defArgs s_Ratio_text) (defBody s_Ratio_text) (defScope s_Ratio_text) [] [] a_Ratio_text fd)  : FnOk P w K mg base (Z.CX P w) 1 a_Ratio_text fd ["self"] (spOf K mg 1 (defS 1 (m_Ratio_text))) := by
  refine fn_okD (N := ["self"]) F sc_Ratio_text (k := 0) (body := m_Ratio_text) fun A outer s H E hr => ?_
  have tk : Z.Takes (cxOf (Z.CX P w) P w K mg base ["self"] "Ratio.text" (defScope s_Ratio_text) a_Ratio_text fd.code A outer s H E) (fun c d _ H' => E c d H') := Z.takes_of rfl rfl rfl rfl
  have hp : PassesOwn (model P w) (cxOf (Z.CX P w) P w K mg base ["self"] "Ratio.text" (defScope s_Ratio_text) a_Ratio_text fd.code A outer s H E).A (cxOf (Z.CX P w) P w K mg base ["self"] "Ratio.text" (defScope s_Ratio_text) a_Ratio_text fd.code A outer s H E).env (cxOf (Z.CX P w) P w K mg base ["self"] "Ratio.text" (defScope s_Ratio_text) a_Ratio_text fd.code A outer s H E).xe := passes_of rfl
  unfold m_Ratio_text
  exact (s_one (s_ret (r_if (b_cmp (d_eq hr.units) (r_attrZ (attr_cons T.m_Ratio T.cl_Ratio T.na_Ratio_own_bottom attr_nil) (r_name (i := 0))) r_int) (r_callT d_str rfl T.b_str PyProof.Rows.boot_str (a_cons (r_attrZ (attr_cons T.m_Ratio T.cl_Ratio T.na_Ratio_own_top attr_nil) (r_name (i := 0))) a_nil)) (r_fstr (.cons (r_fmt (r_attrZ (attr_cons T.m_Ratio T.cl_Ratio T.na_Ratio_own_top attr_nil) (r_name (i := 0)))) (.cons r_str (.cons (r_fmt (r_attrZ (attr_cons T.m_Ratio T.cl_Ratio T.na_Ratio_own_bottom attr_nil) (r_name (i := 0)))) .nil)))))))
theorem d_Ratio_text {fd : FuncData} (F : FunD K "text" "Ratio.text" (defArgs s_Ratio_text) (defBody s_Ratio_text) (defScope s_Ratio_text) [] [] a_Ratio_text fd) (O : FnOk P w K mg base (Z.CX P w) 1 a_Ratio_text fd ["self"] (spOf K mg 1 (defS 1 (m_Ratio_text)))) : FZ P w K mg base 1 a_Ratio_text f_Ratio_text := fz_of0 O (F.bindsN (ps := ["self"]) fun _ _ _ _ _ _ us hl => match us, hl with | [_], _ => rfl)
theorem o_is_digits (T : Tx K mg a_common_divisor a_is_whole a_is_digits a_is_signed a__law_bag a__law_gcd a__law_frac a__law_frac_text a__law_pick a__law_of a__law_pair a__law_reader a__law_same a__law_field a__law_why a__law_whys a_law C_Ratio a_Ratio___init__ a_Ratio_text a_Ratio_read a_Ratio_bottom a_Ratio_top p_Ratio_read p_Ratio_bottom p_Ratio_top C_WayError C_Missing C_InvalidRatio C_InvalidText C_NothingLeft) {fd : FuncData} (F : FunD K "is_digits" "is_digits" (defArgs s_is_digits) (defBody s_is_digits) (defScope s_is_digits) [] [] a_is_digits fd)  : FnOk P w K mg base (Z.CX P w) 1 a_is_digits fd ["text"] (spOf K mg 1 (defS 2 (m_is_digits))) := by
  refine fn_okD (N := ["text", "sign"]) F sc_is_digits (k := 0) (body := m_is_digits) fun A outer s H E hr => ?_
  have tk : Z.Takes (cxOf (Z.CX P w) P w K mg base ["text", "sign"] "is_digits" (defScope s_is_digits) a_is_digits fd.code A outer s H E) (fun c d _ H' => E c d H') := Z.takes_of rfl rfl rfl rfl
  have hp : PassesOwn (model P w) (cxOf (Z.CX P w) P w K mg base ["text", "sign"] "is_digits" (defScope s_is_digits) a_is_digits fd.code A outer s H E).A (cxOf (Z.CX P w) P w K mg base ["text", "sign"] "is_digits" (defScope s_is_digits) a_is_digits fd.code A outer s H E).env (cxOf (Z.CX P w) P w K mg base ["text", "sign"] "is_digits" (defScope s_is_digits) a_is_digits fd.code A outer s H E).xe := passes_of rfl
  unfold m_is_digits
  exact (s_cons (s_if (EW.eb (w_or (b_not (b_chain d_leI d_leI r_int (r_callB d_lenX rfl T.b_len PySem.boot_len (a_cons (r_name (i := 0)) a_nil)) (r_gint T.c_MOST_DIGITS))) (w_or1 (b_not (b_val (r_callB (d_all rfl) rfl T.b_all PyProof.Rows.boot_all (a_cons (r_fin (r_lc (own := [("sign", 1)]) rfl sc_is_digits.nd (blkOk_by (by rfl)) (i_any (r_name (i := 0))) (fun _ _ _ _ _ => (gw_name sc_is_digits.nd (i := 1))) (fun _ _ _ _ _ => ts_nil) (fun _ _ _ _ _ => (r_cmp (d_inX hr.units) (r_name (i := 1)) (r_gstr T.c_DIGITS))))) a_nil)))))))
  (s_one (s_ret r_bl))
  s_nil)
  (s_one (s_ret (r_or (r_cmp (d_eq hr.units) (r_name (i := 0)) r_str) (r_one (r_cmp (d_ne hr.units) (r_ix (d_ixX hr.units) (r_name (i := 0)) r_int) r_str))))))
theorem d_is_digits {fd : FuncData} (F : FunD K "is_digits" "is_digits" (defArgs s_is_digits) (defBody s_is_digits) (defScope s_is_digits) [] [] a_is_digits fd) (O : FnOk P w K mg base (Z.CX P w) 1 a_is_digits fd ["text"] (spOf K mg 1 (defS 2 (m_is_digits)))) : FZ P w K mg base 1 a_is_digits f_is_digits := fz_of0 O (F.bindsN (ps := ["text"]) fun _ _ _ _ _ _ us hl => match us, hl with | [_], _ => rfl)
theorem o_is_signed (T : Tx K mg a_common_divisor a_is_whole a_is_digits a_is_signed a__law_bag a__law_gcd a__law_frac a__law_frac_text a__law_pick a__law_of a__law_pair a__law_reader a__law_same a__law_field a__law_why a__law_whys a_law C_Ratio a_Ratio___init__ a_Ratio_text a_Ratio_read a_Ratio_bottom a_Ratio_top p_Ratio_read p_Ratio_bottom p_Ratio_top C_WayError C_Missing C_InvalidRatio C_InvalidText C_NothingLeft) {fd : FuncData} (F : FunD K "is_signed" "is_signed" (defArgs s_is_signed) (defBody s_is_signed) (defScope s_is_signed) [] [] a_is_signed fd) (Z_is_digits : FZ P w K mg base 1 a_is_digits f_is_digits) : FnOk P w K mg base (Z.CX P w) 2 a_is_signed fd ["text"] (spOf K mg 1 (defS 1 (m_is_signed))) := by
  refine fn_okD (N := ["text"]) F sc_is_signed (k := 1) (body := m_is_signed) fun A outer s H E hr => ?_
  have tk : Z.Takes (cxOf (Z.CX P w) P w K mg base ["text"] "is_signed" (defScope s_is_signed) a_is_signed fd.code A outer s H E) (fun c d _ H' => E c d H') := Z.takes_of rfl rfl rfl rfl
  have hp : PassesOwn (model P w) (cxOf (Z.CX P w) P w K mg base ["text"] "is_signed" (defScope s_is_signed) a_is_signed fd.code A outer s H E).A (cxOf (Z.CX P w) P w K mg base ["text"] "is_signed" (defScope s_is_signed) a_is_signed fd.code A outer s H E).env (cxOf (Z.CX P w) P w K mg base ["text"] "is_signed" (defScope s_is_signed) a_is_signed fd.code A outer s H E).xe := passes_of rfl
  unfold m_is_signed
  exact (s_one (s_ret (r_or (r_callZ tk Z_is_digits (hr.mono (by omega)) T.m_is_digits T.k_is_digits (a_cons (r_name (i := 0)) a_nil)) (r_one (r_and (r_cmp (d_eq hr.units) (r_sl (r_name (i := 0)) o_none (o_int r_int)) r_str) (r_and (r_cmp (d_ne hr.units) (r_name (i := 0)) r_str) (r_one (r_callZ tk Z_is_digits (hr.mono (by omega)) T.m_is_digits T.k_is_digits (a_cons (r_sl (r_name (i := 0)) (o_int r_int) o_none) a_nil)))))))))
theorem d_is_signed {fd : FuncData} (F : FunD K "is_signed" "is_signed" (defArgs s_is_signed) (defBody s_is_signed) (defScope s_is_signed) [] [] a_is_signed fd) (O : FnOk P w K mg base (Z.CX P w) 2 a_is_signed fd ["text"] (spOf K mg 1 (defS 1 (m_is_signed)))) : FZ P w K mg base 2 a_is_signed f_is_signed := fz_of0 O (F.bindsN (ps := ["text"]) fun _ _ _ _ _ _ us hl => match us, hl with | [_], _ => rfl)
theorem o_Ratio_read (T : Tx K mg a_common_divisor a_is_whole a_is_digits a_is_signed a__law_bag a__law_gcd a__law_frac a__law_frac_text a__law_pick a__law_of a__law_pair a__law_reader a__law_same a__law_field a__law_why a__law_whys a_law C_Ratio a_Ratio___init__ a_Ratio_text a_Ratio_read a_Ratio_bottom a_Ratio_top p_Ratio_read p_Ratio_bottom p_Ratio_top C_WayError C_Missing C_InvalidRatio C_InvalidText C_NothingLeft) {fd : FuncData} (F : FunD K "read" "Ratio.read" (defArgs s_Ratio_read) (defBody s_Ratio_read) (defScope s_Ratio_read) [] [] a_Ratio_read fd) (Z_Ratio___init__ : FZ P w K mg base 4 a_Ratio___init__ f_Ratio___init__) (Z_Ratio_text : FZ P w K mg base 1 a_Ratio_text f_Ratio_text) (Z_is_digits : FZ P w K mg base 1 a_is_digits f_is_digits) (Z_is_signed : FZ P w K mg base 2 a_is_signed f_is_signed) (X_InvalidText : XMk P w K mg base "InvalidText" C_InvalidText 2 "InvalidText" ["given"]) : FnOk P w K mg base (Z.CX P w) 6 a_Ratio_read fd ["text"] (spOf K mg 1 (defS 5 (m_Ratio_read))) := by
  refine fn_okD (N := ["text", "head", "bar", "tail", "found"]) F sc_Ratio_read (k := 5) (body := m_Ratio_read) fun A outer s H E hr => ?_
  have tk : Z.Takes (cxOf (Z.CX P w) P w K mg base ["text", "head", "bar", "tail", "found"] "Ratio.read" (defScope s_Ratio_read) a_Ratio_read fd.code A outer s H E) (fun c d _ H' => E c d H') := Z.takes_of rfl rfl rfl rfl
  have hp : PassesOwn (model P w) (cxOf (Z.CX P w) P w K mg base ["text", "head", "bar", "tail", "found"] "Ratio.read" (defScope s_Ratio_read) a_Ratio_read fd.code A outer s H E).A (cxOf (Z.CX P w) P w K mg base ["text", "head", "bar", "tail", "found"] "Ratio.read" (defScope s_Ratio_read) a_Ratio_read fd.code A outer s H E).env (cxOf (Z.CX P w) P w K mg base ["text", "head", "bar", "tail", "found"] "Ratio.read" (defScope s_Ratio_read) a_Ratio_read fd.code A outer s H E).xe := passes_of rfl
  unfold m_Ratio_read
  exact (s_cons (s_if (b_not (b_val (r_callB d_isiX rfl T.b_isinstance PyProof.Rows.boot_isinstance (a_cons (r_name (i := 0)) (a_cons (r_ty rfl T.b_str PyProof.Rows.boot_str) a_nil)))))
  (s_one (s_raiseZ tk rfl X_InvalidText (hr.mono (by omega)) (by decide) (a_cons (r_name (i := 0)) a_nil)))
  s_nil)
  (s_cons (s_asg (r_met d_partition (fun _ _ _ _ _ => tyStr_is) PySem.F.plainAttrs_str PySem.F.slot_str_partition PySem.F.type_str_partition (r_name (i := 0)) (a_cons r_str a_nil)) (g_tup rfl (gs_cons (g_name sc_Ratio_read.nd (i := 1)) (gs_cons (g_name sc_Ratio_read.nd (i := 2)) (gs_cons (g_name sc_Ratio_read.nd (i := 3)) gs_nil))) (len_consN (nx_set 1) (len_consN (nx_set 2) (len_consN (nx_set 3) len_nil)))) (nx_tup (nx_cons (nx_set 1) (nx_cons (nx_set 2) (nx_cons (nx_set 3) nx_nil)))))
  (s_cons (s_if (EW.eb (w_or (b_not (b_val (r_callZ tk Z_is_signed (hr.mono (by omega)) T.m_is_signed T.k_is_signed (a_cons (r_name (i := 1)) a_nil)))) (w_or1 (EW.eb (w_and (b_cmp (d_ne hr.units) (r_name (i := 2)) r_str) (w_and1 (EW.eb (w_or (b_not (b_val (r_callZ tk Z_is_digits (hr.mono (by omega)) T.m_is_digits T.k_is_digits (a_cons (r_name (i := 3)) a_nil)))) (w_or1 (b_cmp (d_eq hr.units) (r_name (i := 3)) r_str))))))))))
  (s_one (s_raiseZ tk rfl X_InvalidText (hr.mono (by omega)) (by decide) (a_cons (r_name (i := 0)) a_nil)))
  s_nil)
  (s_cons (s_set (i := 4) sc_Ratio_read.nd (r_fin (r_makeZ tk T.mk_Ratio Z_Ratio___init__ (hr.mono (by omega)) T.m_Ratio (a_cons (r_callT d_intX rfl T.b_int PyProof.Rows.boot_int (a_cons (r_name (i := 1)) a_nil)) (a_cons (r_if (b_cmp (d_ne hr.units) (r_name (i := 2)) r_str) (r_callT d_intX rfl T.b_int PyProof.Rows.boot_int (a_cons (r_name (i := 3)) a_nil)) r_int) a_nil)))))
  (s_cons (s_if (b_cmp (d_ne hr.units) (r_methZ0 tk (meth_cons T.m_Ratio T.cl_Ratio T.me_Ratio_text Z_Ratio_text (hr.mono (by omega)) meth_nil) (r_name (i := 4))) (r_name (i := 0)))
  (s_one (s_raiseZ tk rfl X_InvalidText (hr.mono (by omega)) (by decide) (a_cons (r_name (i := 0)) a_nil)))
  s_nil)
  (s_one (s_ret (r_name (i := 4)))))))))
theorem d_Ratio_read {fd : FuncData} (F : FunD K "read" "Ratio.read" (defArgs s_Ratio_read) (defBody s_Ratio_read) (defScope s_Ratio_read) [] [] a_Ratio_read fd) (O : FnOk P w K mg base (Z.CX P w) 6 a_Ratio_read fd ["text"] (spOf K mg 1 (defS 5 (m_Ratio_read)))) : FZ P w K mg base 6 a_Ratio_read f_Ratio_read := fz_of0 O (F.bindsN (ps := ["text"]) fun _ _ _ _ _ _ us hl => match us, hl with | [_], _ => rfl)
theorem dk_Ratio_read_0 {fd : FuncData} (F : FunD K "read" "Ratio.read" (defArgs s_Ratio_read) (defBody s_Ratio_read) (defScope s_Ratio_read) [] [] a_Ratio_read fd) (O : FnOk P w K mg base (Z.CX P w) 6 a_Ratio_read fd ["text"] (spOf K mg 1 (defS 5 (m_Ratio_read)))) : FZK P w K mg base 6 a_Ratio_read 0 ["text"] fk_Ratio_read_0 :=
  fzk_of (ix := [0]) (dvs := []) (its := []) O (kbn0N F fun _ _ _ _ _ _ us ws h1 h2 => match us, h1, ws, h2 with | [], _, [_], _ => rfl) fun ρ H => RepL.nil
theorem o__law_bag (T : Tx K mg a_common_divisor a_is_whole a_is_digits a_is_signed a__law_bag a__law_gcd a__law_frac a__law_frac_text a__law_pick a__law_of a__law_pair a__law_reader a__law_same a__law_field a__law_why a__law_whys a_law C_Ratio a_Ratio___init__ a_Ratio_text a_Ratio_read a_Ratio_bottom a_Ratio_top p_Ratio_read p_Ratio_bottom p_Ratio_top C_WayError C_Missing C_InvalidRatio C_InvalidText C_NothingLeft) {fd : FuncData} (F : FunD K "_law_bag" "_law_bag" (defArgs s__law_bag) (defBody s__law_bag) (defScope s__law_bag) [] [] a__law_bag fd)  : FnOk P w K mg base (Z.CX P w) 1 a__law_bag fd ["_law_script"] (spOf K mg 1 (defH 1 (m__law_bag))) := by
  refine fn_okHD (N := ["_law_script"]) F sc__law_bag (k := 0) (body := m__law_bag) fun A outer s H E hr => ?_
  have tk : Z.Takes (cxOf (Z.CX P w) P w K mg base ["_law_script"] "_law_bag" (defScope s__law_bag) a__law_bag fd.code A outer s H E) (fun c d _ H' => E c d H') := Z.takes_of rfl rfl rfl rfl
  have hp : PassesOwn (model P w) (cxOf (Z.CX P w) P w K mg base ["_law_script"] "_law_bag" (defScope s__law_bag) a__law_bag fd.code A outer s H E).A (cxOf (Z.CX P w) P w K mg base ["_law_script"] "_law_bag" (defScope s__law_bag) a__law_bag fd.code A outer s H E).env (cxOf (Z.CX P w) P w K mg base ["_law_script"] "_law_bag" (defScope s__law_bag) a__law_bag fd.code A outer s H E).xe := passes_of rfl
  unfold m__law_bag
  exact (s_one (s_ret (r_lstH (a_cons (r_callT d_listOf rfl T.b_list PyProof.Rows.boot_list (a_cons (r_sl (r_name (i := 0)) o_none (o_int r_int)) a_nil)) (a_cons r_int (a_cons r_int (a_cons r_int a_nil)))))))
theorem d__law_bag {fd : FuncData} (F : FunD K "_law_bag" "_law_bag" (defArgs s__law_bag) (defBody s__law_bag) (defScope s__law_bag) [] [] a__law_bag fd) (O : FnOk P w K mg base (Z.CX P w) 1 a__law_bag fd ["_law_script"] (spOf K mg 1 (defH 1 (m__law_bag)))) : FZ P w K mg base 1 a__law_bag f__law_bag := fz_of0 O (F.bindsN (ps := ["_law_script"]) fun _ _ _ _ _ _ us hl => match us, hl with | [_], _ => rfl)
theorem o__law_gcd (T : Tx K mg a_common_divisor a_is_whole a_is_digits a_is_signed a__law_bag a__law_gcd a__law_frac a__law_frac_text a__law_pick a__law_of a__law_pair a__law_reader a__law_same a__law_field a__law_why a__law_whys a_law C_Ratio a_Ratio___init__ a_Ratio_text a_Ratio_read a_Ratio_bottom a_Ratio_top p_Ratio_read p_Ratio_bottom p_Ratio_top C_WayError C_Missing C_InvalidRatio C_InvalidText C_NothingLeft) {fd : FuncData} (F : FunD K "_law_gcd" "_law_gcd" (defArgs s__law_gcd) (defBody s__law_gcd) (defScope s__law_gcd) [] [] a__law_gcd fd)  : FnOk P w K mg base (Z.CX P w) 1 a__law_gcd fd ["_law_one", "_law_other"] (spOf K mg 2 (defS 4 (m__law_gcd))) := by
  refine fn_okD (N := ["_law_one", "_law_other", "_law_high", "_law_low"]) F sc__law_gcd (k := 0) (body := m__law_gcd) fun A outer s H E hr => ?_
  have tk : Z.Takes (cxOf (Z.CX P w) P w K mg base ["_law_one", "_law_other", "_law_high", "_law_low"] "_law_gcd" (defScope s__law_gcd) a__law_gcd fd.code A outer s H E) (fun c d _ H' => E c d H') := Z.takes_of rfl rfl rfl rfl
  have hp : PassesOwn (model P w) (cxOf (Z.CX P w) P w K mg base ["_law_one", "_law_other", "_law_high", "_law_low"] "_law_gcd" (defScope s__law_gcd) a__law_gcd fd.code A outer s H E).A (cxOf (Z.CX P w) P w K mg base ["_law_one", "_law_other", "_law_high", "_law_low"] "_law_gcd" (defScope s__law_gcd) a__law_gcd fd.code A outer s H E).env (cxOf (Z.CX P w) P w K mg base ["_law_one", "_law_other", "_law_high", "_law_low"] "_law_gcd" (defScope s__law_gcd) a__law_gcd fd.code A outer s H E).xe := passes_of rfl
  unfold m__law_gcd
  exact (s_cons (s_par (i := 2) (j := 3) rfl sc__law_gcd.nd (a_cons (r_callB d_abs rfl T.b_abs PyProof.Rows.boot_abs (a_cons (r_name (i := 0)) a_nil)) (a_cons (r_callB d_abs rfl T.b_abs PyProof.Rows.boot_abs (a_cons (r_name (i := 1)) a_nil)) a_nil)))
  (s_cons (s_while hp (b_cmp d_gtI (r_name (i := 3)) r_int)
  (s_one (s_par (i := 2) (j := 3) rfl sc__law_gcd.nd (a_cons (r_name (i := 3)) (a_cons (r_bin d_modI (r_callT d_int rfl T.b_int PyProof.Rows.boot_int (a_cons (r_name (i := 2)) a_nil)) (r_name (i := 3))) a_nil)))))
  (s_one (s_ret (r_name (i := 2))))))
theorem d__law_gcd {fd : FuncData} (F : FunD K "_law_gcd" "_law_gcd" (defArgs s__law_gcd) (defBody s__law_gcd) (defScope s__law_gcd) [] [] a__law_gcd fd) (O : FnOk P w K mg base (Z.CX P w) 1 a__law_gcd fd ["_law_one", "_law_other"] (spOf K mg 2 (defS 4 (m__law_gcd)))) : FZ P w K mg base 1 a__law_gcd f__law_gcd := fz_of0 O (F.bindsN (ps := ["_law_one", "_law_other"]) fun _ _ _ _ _ _ us hl => match us, hl with | [_, _], _ => rfl)
theorem o__law_frac (T : Tx K mg a_common_divisor a_is_whole a_is_digits a_is_signed a__law_bag a__law_gcd a__law_frac a__law_frac_text a__law_pick a__law_of a__law_pair a__law_reader a__law_same a__law_field a__law_why a__law_whys a_law C_Ratio a_Ratio___init__ a_Ratio_text a_Ratio_read a_Ratio_bottom a_Ratio_top p_Ratio_read p_Ratio_bottom p_Ratio_top C_WayError C_Missing C_InvalidRatio C_InvalidText C_NothingLeft) {fd : FuncData} (F : FunD K "_law_frac" "_law_frac" (defArgs s__law_frac) (defBody s__law_frac) (defScope s__law_frac) [] [] a__law_frac fd) (Z__law_gcd : FZ P w K mg base 1 a__law_gcd f__law_gcd) : FnOk P w K mg base (Z.CX P w) 2 a__law_frac fd ["_law_up", "_law_down"] (spOf K mg 2 (defS 3 (m__law_frac))) := by
  refine fn_okD (N := ["_law_up", "_law_down", "_law_share"]) F sc__law_frac (k := 1) (body := m__law_frac) fun A outer s H E hr => ?_
  have tk : Z.Takes (cxOf (Z.CX P w) P w K mg base ["_law_up", "_law_down", "_law_share"] "_law_frac" (defScope s__law_frac) a__law_frac fd.code A outer s H E) (fun c d _ H' => E c d H') := Z.takes_of rfl rfl rfl rfl
  have hp : PassesOwn (model P w) (cxOf (Z.CX P w) P w K mg base ["_law_up", "_law_down", "_law_share"] "_law_frac" (defScope s__law_frac) a__law_frac fd.code A outer s H E).A (cxOf (Z.CX P w) P w K mg base ["_law_up", "_law_down", "_law_share"] "_law_frac" (defScope s__law_frac) a__law_frac fd.code A outer s H E).env (cxOf (Z.CX P w) P w K mg base ["_law_up", "_law_down", "_law_share"] "_law_frac" (defScope s__law_frac) a__law_frac fd.code A outer s H E).xe := passes_of rfl
  unfold m__law_frac
  exact (s_cons (s_set (i := 2) sc__law_frac.nd (r_callZ tk Z__law_gcd (hr.mono (by omega)) T.m__law_gcd T.k__law_gcd (a_cons (r_name (i := 0)) (a_cons (r_name (i := 1)) a_nil))))
  (s_one (s_ret (r_if (b_cmp d_gtI (r_name (i := 1)) r_int) (r_tup (a_cons (r_bin d_divI (r_name (i := 0)) (r_name (i := 2))) (a_cons (r_bin d_divI (r_name (i := 1)) (r_name (i := 2))) a_nil))) (r_tup (a_cons (r_bin d_subI r_int (r_bin d_divI (r_name (i := 0)) (r_name (i := 2)))) (a_cons (r_bin d_subI r_int (r_bin d_divI (r_name (i := 1)) (r_name (i := 2)))) a_nil)))))))
theorem d__law_frac {fd : FuncData} (F : FunD K "_law_frac" "_law_frac" (defArgs s__law_frac) (defBody s__law_frac) (defScope s__law_frac) [] [] a__law_frac fd) (O : FnOk P w K mg base (Z.CX P w) 2 a__law_frac fd ["_law_up", "_law_down"] (spOf K mg 2 (defS 3 (m__law_frac)))) : FZ P w K mg base 2 a__law_frac f__law_frac := fz_of0 O (F.bindsN (ps := ["_law_up", "_law_down"]) fun _ _ _ _ _ _ us hl => match us, hl with | [_, _], _ => rfl)
theorem o__law_frac_text (T : Tx K mg a_common_divisor a_is_whole a_is_digits a_is_signed a__law_bag a__law_gcd a__law_frac a__law_frac_text a__law_pick a__law_of a__law_pair a__law_reader a__law_same a__law_field a__law_why a__law_whys a_law C_Ratio a_Ratio___init__ a_Ratio_text a_Ratio_read a_Ratio_bottom a_Ratio_top p_Ratio_read p_Ratio_bottom p_Ratio_top C_WayError C_Missing C_InvalidRatio C_InvalidText C_NothingLeft) {fd : FuncData} (F : FunD K "_law_frac_text" "_law_frac_text" (defArgs s__law_frac_text) (defBody s__law_frac_text) (defScope s__law_frac_text) [] [] a__law_frac_text fd)  : FnOk P w K mg base (Z.CX P w) 1 a__law_frac_text fd ["_law_pair_here"] (spOf K mg 1 (defS 1 (m__law_frac_text))) := by
  refine fn_okD (N := ["_law_pair_here"]) F sc__law_frac_text (k := 0) (body := m__law_frac_text) fun A outer s H E hr => ?_
  have tk : Z.Takes (cxOf (Z.CX P w) P w K mg base ["_law_pair_here"] "_law_frac_text" (defScope s__law_frac_text) a__law_frac_text fd.code A outer s H E) (fun c d _ H' => E c d H') := Z.takes_of rfl rfl rfl rfl
  have hp : PassesOwn (model P w) (cxOf (Z.CX P w) P w K mg base ["_law_pair_here"] "_law_frac_text" (defScope s__law_frac_text) a__law_frac_text fd.code A outer s H E).A (cxOf (Z.CX P w) P w K mg base ["_law_pair_here"] "_law_frac_text" (defScope s__law_frac_text) a__law_frac_text fd.code A outer s H E).env (cxOf (Z.CX P w) P w K mg base ["_law_pair_here"] "_law_frac_text" (defScope s__law_frac_text) a__law_frac_text fd.code A outer s H E).xe := passes_of rfl
  unfold m__law_frac_text
  exact (s_one (s_ret (r_if (b_cmp (d_eq hr.units) (r_ix (d_ixX hr.units) (r_name (i := 0)) r_int) r_int) (r_callT d_str rfl T.b_str PyProof.Rows.boot_str (a_cons (r_ix (d_ixX hr.units) (r_name (i := 0)) r_int) a_nil)) (r_bin d_addX (r_bin d_addX (r_callT d_str rfl T.b_str PyProof.Rows.boot_str (a_cons (r_ix (d_ixX hr.units) (r_name (i := 0)) r_int) a_nil)) r_str) (r_callT d_str rfl T.b_str PyProof.Rows.boot_str (a_cons (r_ix (d_ixX hr.units) (r_name (i := 0)) r_int) a_nil))))))
theorem d__law_frac_text {fd : FuncData} (F : FunD K "_law_frac_text" "_law_frac_text" (defArgs s__law_frac_text) (defBody s__law_frac_text) (defScope s__law_frac_text) [] [] a__law_frac_text fd) (O : FnOk P w K mg base (Z.CX P w) 1 a__law_frac_text fd ["_law_pair_here"] (spOf K mg 1 (defS 1 (m__law_frac_text)))) : FZ P w K mg base 1 a__law_frac_text f__law_frac_text := fz_of0 O (F.bindsN (ps := ["_law_pair_here"]) fun _ _ _ _ _ _ us hl => match us, hl with | [_], _ => rfl)
theorem o__law_pick (T : Tx K mg a_common_divisor a_is_whole a_is_digits a_is_signed a__law_bag a__law_gcd a__law_frac a__law_frac_text a__law_pick a__law_of a__law_pair a__law_reader a__law_same a__law_field a__law_why a__law_whys a_law C_Ratio a_Ratio___init__ a_Ratio_text a_Ratio_read a_Ratio_bottom a_Ratio_top p_Ratio_read p_Ratio_bottom p_Ratio_top C_WayError C_Missing C_InvalidRatio C_InvalidText C_NothingLeft) {fd : FuncData} (F : FunD K "_law_pick" "_law_pick" (defArgs s__law_pick) (defBody s__law_pick) (defScope s__law_pick) [] [] a__law_pick fd)  : FnOk P w K mg base (Z.CX P w) 1 a__law_pick fd ["_law_bag_here", "_law_many"] (spOf K mg 2 (defS 5 (m__law_pick))) := by
  refine fn_okD (N := ["_law_bag_here", "_law_many", "_law_cell", "_law_digit", "_law_seed"]) F sc__law_pick (k := 0) (body := m__law_pick) fun A outer s H E hr => ?_
  have tk : Z.Takes (cxOf (Z.CX P w) P w K mg base ["_law_bag_here", "_law_many", "_law_cell", "_law_digit", "_law_seed"] "_law_pick" (defScope s__law_pick) a__law_pick fd.code A outer s H E) (fun c d _ H' => E c d H') := Z.takes_of rfl rfl rfl rfl
  have hp : PassesOwn (model P w) (cxOf (Z.CX P w) P w K mg base ["_law_bag_here", "_law_many", "_law_cell", "_law_digit", "_law_seed"] "_law_pick" (defScope s__law_pick) a__law_pick fd.code A outer s H E).A (cxOf (Z.CX P w) P w K mg base ["_law_bag_here", "_law_many", "_law_cell", "_law_digit", "_law_seed"] "_law_pick" (defScope s__law_pick) a__law_pick fd.code A outer s H E).env (cxOf (Z.CX P w) P w K mg base ["_law_bag_here", "_law_many", "_law_cell", "_law_digit", "_law_seed"] "_law_pick" (defScope s__law_pick) a__law_pick fd.code A outer s H E).xe := passes_of rfl
  unfold m__law_pick
  exact (s_cons (s_if (EW.eb (w_and (b_cmp (d_eq hr.units) (r_ix (d_ixX hr.units) (r_name (i := 0)) r_int) r_int) (w_and1 (b_cmp d_ltX (r_ix (d_ixX hr.units) (r_name (i := 0)) r_int) (r_callB d_lenX rfl T.b_len PySem.boot_len (a_cons (r_ix (d_ixX hr.units) (r_name (i := 0)) r_int) a_nil))))))
  (s_cons (s_set (i := 2) sc__law_pick.nd (r_ix (d_ixX hr.units) (r_ix (d_ixX hr.units) (r_name (i := 0)) r_int) (r_ix (d_ixX hr.units) (r_name (i := 0)) r_int)))
  (s_cons (s_asg (r_bin d_addX (r_ix (d_ixX hr.units) (r_name (i := 0)) r_int) r_int) (g_sub (hu1 hr.units) (r_name (i := 0)) r_int) (nx_sub _ _))
  (s_one (s_if (b_cmp d_geI (r_name (i := 2)) (r_bin d_powI r_int r_int))
  (s_one (s_asg (r_name (i := 2)) (g_sub (hu1 hr.units) (r_name (i := 0)) r_int) (nx_sub _ _)))
  (s_one (s_asg (r_bin d_modI (r_callT d_int rfl T.b_int PyProof.Rows.boot_int (a_cons (r_bin d_addX (r_bin d_addX (r_bin d_mulX (r_ix (d_ixX hr.units) (r_name (i := 0)) r_int) r_int) (r_bin d_mulX (r_bin d_modI (r_callT d_int rfl T.b_int PyProof.Rows.boot_int (a_cons (r_name (i := 2)) a_nil)) r_int) r_int)) r_int) a_nil)) r_int) (g_sub (hu1 hr.units) (r_name (i := 0)) r_int) (nx_sub _ _)))))))
  s_nil)
  (s_cons (s_if (b_cmp d_gtI (r_ix (d_ixX hr.units) (r_name (i := 0)) r_int) r_int)
  (s_cons (s_set (i := 3) sc__law_pick.nd (r_bin d_modI (r_callT d_int rfl T.b_int PyProof.Rows.boot_int (a_cons (r_ix (d_ixX hr.units) (r_name (i := 0)) r_int) a_nil)) (r_name (i := 1))))
  (s_cons (s_asg (r_bin d_divI (r_ix (d_ixX hr.units) (r_name (i := 0)) r_int) (r_name (i := 1))) (g_sub (hu1 hr.units) (r_name (i := 0)) r_int) (nx_sub _ _))
  (s_one (s_ret (r_name (i := 3))))))
  s_nil)
  (s_cons (s_set (i := 4) sc__law_pick.nd (r_ix (d_ixX hr.units) (r_name (i := 0)) r_int))
  (s_cons (s_asg (r_bin d_modI (r_callT d_int rfl T.b_int PyProof.Rows.boot_int (a_cons (r_bin d_addX (r_bin d_addX (r_bin d_mulX (r_name (i := 4)) (r_name (i := 4))) (r_bin d_mulX (r_name (i := 4)) r_int)) r_int) a_nil)) r_int) (g_sub (hu1 hr.units) (r_name (i := 0)) r_int) (nx_sub _ _))
  (s_one (s_ret (r_bin d_modI (r_callT d_int rfl T.b_int PyProof.Rows.boot_int (a_cons (r_bin d_addX (r_bin d_divI (r_ix (d_ixX hr.units) (r_name (i := 0)) r_int) r_int) (r_bin d_mulX (r_bin d_modI (r_callT d_int rfl T.b_int PyProof.Rows.boot_int (a_cons (r_ix (d_ixX hr.units) (r_name (i := 0)) r_int) a_nil)) r_int) r_int)) a_nil)) (r_name (i := 1)))))))))
theorem d__law_pick {fd : FuncData} (F : FunD K "_law_pick" "_law_pick" (defArgs s__law_pick) (defBody s__law_pick) (defScope s__law_pick) [] [] a__law_pick fd) (O : FnOk P w K mg base (Z.CX P w) 1 a__law_pick fd ["_law_bag_here", "_law_many"] (spOf K mg 2 (defS 5 (m__law_pick)))) : FZ P w K mg base 1 a__law_pick f__law_pick := fz_of0 O (F.bindsN (ps := ["_law_bag_here", "_law_many"]) fun _ _ _ _ _ _ us hl => match us, hl with | [_, _], _ => rfl)
theorem o__law_of (T : Tx K mg a_common_divisor a_is_whole a_is_digits a_is_signed a__law_bag a__law_gcd a__law_frac a__law_frac_text a__law_pick a__law_of a__law_pair a__law_reader a__law_same a__law_field a__law_why a__law_whys a_law C_Ratio a_Ratio___init__ a_Ratio_text a_Ratio_read a_Ratio_bottom a_Ratio_top p_Ratio_read p_Ratio_bottom p_Ratio_top C_WayError C_Missing C_InvalidRatio C_InvalidText C_NothingLeft) {fd : FuncData} (F : FunD K "_law_of" "_law_of" (defArgs s__law_of) (defBody s__law_of) (defScope s__law_of) [] [] a__law_of fd) (Z__law_pick : FZ P w K mg base 1 a__law_pick f__law_pick) : FnOk P w K mg base (Z.CX P w) 2 a__law_of fd ["_law_bag_here", "_law_some"] (spOf K mg 2 (defS 2 (m__law_of))) := by
  refine fn_okD (N := ["_law_bag_here", "_law_some"]) F sc__law_of (k := 1) (body := m__law_of) fun A outer s H E hr => ?_
  have tk : Z.Takes (cxOf (Z.CX P w) P w K mg base ["_law_bag_here", "_law_some"] "_law_of" (defScope s__law_of) a__law_of fd.code A outer s H E) (fun c d _ H' => E c d H') := Z.takes_of rfl rfl rfl rfl
  have hp : PassesOwn (model P w) (cxOf (Z.CX P w) P w K mg base ["_law_bag_here", "_law_some"] "_law_of" (defScope s__law_of) a__law_of fd.code A outer s H E).A (cxOf (Z.CX P w) P w K mg base ["_law_bag_here", "_law_some"] "_law_of" (defScope s__law_of) a__law_of fd.code A outer s H E).env (cxOf (Z.CX P w) P w K mg base ["_law_bag_here", "_law_some"] "_law_of" (defScope s__law_of) a__law_of fd.code A outer s H E).xe := passes_of rfl
  unfold m__law_of
  exact (s_one (s_ret (r_ix (d_ixX hr.units) (r_name (i := 1)) (r_callZ tk Z__law_pick (hr.mono (by omega)) T.m__law_pick T.k__law_pick (a_cons (r_name (i := 0)) (a_cons (r_callB d_lenX rfl T.b_len PySem.boot_len (a_cons (r_name (i := 1)) a_nil)) a_nil))))))
theorem d__law_of {fd : FuncData} (F : FunD K "_law_of" "_law_of" (defArgs s__law_of) (defBody s__law_of) (defScope s__law_of) [] [] a__law_of fd) (O : FnOk P w K mg base (Z.CX P w) 2 a__law_of fd ["_law_bag_here", "_law_some"] (spOf K mg 2 (defS 2 (m__law_of)))) : FZ P w K mg base 2 a__law_of f__law_of := fz_of0 O (F.bindsN (ps := ["_law_bag_here", "_law_some"]) fun _ _ _ _ _ _ us hl => match us, hl with | [_, _], _ => rfl)
theorem o_Ratio_bottom (T : Tx K mg a_common_divisor a_is_whole a_is_digits a_is_signed a__law_bag a__law_gcd a__law_frac a__law_frac_text a__law_pick a__law_of a__law_pair a__law_reader a__law_same a__law_field a__law_why a__law_whys a_law C_Ratio a_Ratio___init__ a_Ratio_text a_Ratio_read a_Ratio_bottom a_Ratio_top p_Ratio_read p_Ratio_bottom p_Ratio_top C_WayError C_Missing C_InvalidRatio C_InvalidText C_NothingLeft) {fd : FuncData} (F : FunD K "bottom" "Ratio.bottom" (defArgs s_Ratio_bottom) (defBody s_Ratio_bottom) (defScope s_Ratio_bottom) [] [] a_Ratio_bottom fd)  : FnOk P w K mg base (Z.CX P w) 1 a_Ratio_bottom fd ["self"] (spOf K mg 1 (defS 1 (m_Ratio_bottom))) := by
  refine fn_okD (N := ["self"]) F sc_Ratio_bottom (k := 0) (body := m_Ratio_bottom) fun A outer s H E hr => ?_
  have tk : Z.Takes (cxOf (Z.CX P w) P w K mg base ["self"] "Ratio.bottom" (defScope s_Ratio_bottom) a_Ratio_bottom fd.code A outer s H E) (fun c d _ H' => E c d H') := Z.takes_of rfl rfl rfl rfl
  have hp : PassesOwn (model P w) (cxOf (Z.CX P w) P w K mg base ["self"] "Ratio.bottom" (defScope s_Ratio_bottom) a_Ratio_bottom fd.code A outer s H E).A (cxOf (Z.CX P w) P w K mg base ["self"] "Ratio.bottom" (defScope s_Ratio_bottom) a_Ratio_bottom fd.code A outer s H E).env (cxOf (Z.CX P w) P w K mg base ["self"] "Ratio.bottom" (defScope s_Ratio_bottom) a_Ratio_bottom fd.code A outer s H E).xe := passes_of rfl
  unfold m_Ratio_bottom
  exact (s_one (s_ret (r_attrZ (attr_cons T.m_Ratio T.cl_Ratio T.na_Ratio_own_bottom attr_nil) (r_name (i := 0)))))
theorem d_Ratio_bottom {fd : FuncData} (F : FunD K "bottom" "Ratio.bottom" (defArgs s_Ratio_bottom) (defBody s_Ratio_bottom) (defScope s_Ratio_bottom) [] [] a_Ratio_bottom fd) (O : FnOk P w K mg base (Z.CX P w) 1 a_Ratio_bottom fd ["self"] (spOf K mg 1 (defS 1 (m_Ratio_bottom)))) : FZ P w K mg base 1 a_Ratio_bottom f_Ratio_bottom := fz_of0 O (F.bindsN (ps := ["self"]) fun _ _ _ _ _ _ us hl => match us, hl with | [_], _ => rfl)
theorem o_Ratio_top (T : Tx K mg a_common_divisor a_is_whole a_is_digits a_is_signed a__law_bag a__law_gcd a__law_frac a__law_frac_text a__law_pick a__law_of a__law_pair a__law_reader a__law_same a__law_field a__law_why a__law_whys a_law C_Ratio a_Ratio___init__ a_Ratio_text a_Ratio_read a_Ratio_bottom a_Ratio_top p_Ratio_read p_Ratio_bottom p_Ratio_top C_WayError C_Missing C_InvalidRatio C_InvalidText C_NothingLeft) {fd : FuncData} (F : FunD K "top" "Ratio.top" (defArgs s_Ratio_top) (defBody s_Ratio_top) (defScope s_Ratio_top) [] [] a_Ratio_top fd)  : FnOk P w K mg base (Z.CX P w) 1 a_Ratio_top fd ["self"] (spOf K mg 1 (defS 1 (m_Ratio_top))) := by
  refine fn_okD (N := ["self"]) F sc_Ratio_top (k := 0) (body := m_Ratio_top) fun A outer s H E hr => ?_
  have tk : Z.Takes (cxOf (Z.CX P w) P w K mg base ["self"] "Ratio.top" (defScope s_Ratio_top) a_Ratio_top fd.code A outer s H E) (fun c d _ H' => E c d H') := Z.takes_of rfl rfl rfl rfl
  have hp : PassesOwn (model P w) (cxOf (Z.CX P w) P w K mg base ["self"] "Ratio.top" (defScope s_Ratio_top) a_Ratio_top fd.code A outer s H E).A (cxOf (Z.CX P w) P w K mg base ["self"] "Ratio.top" (defScope s_Ratio_top) a_Ratio_top fd.code A outer s H E).env (cxOf (Z.CX P w) P w K mg base ["self"] "Ratio.top" (defScope s_Ratio_top) a_Ratio_top fd.code A outer s H E).xe := passes_of rfl
  unfold m_Ratio_top
  exact (s_one (s_ret (r_attrZ (attr_cons T.m_Ratio T.cl_Ratio T.na_Ratio_own_top attr_nil) (r_name (i := 0)))))
theorem d_Ratio_top {fd : FuncData} (F : FunD K "top" "Ratio.top" (defArgs s_Ratio_top) (defBody s_Ratio_top) (defScope s_Ratio_top) [] [] a_Ratio_top fd) (O : FnOk P w K mg base (Z.CX P w) 1 a_Ratio_top fd ["self"] (spOf K mg 1 (defS 1 (m_Ratio_top)))) : FZ P w K mg base 1 a_Ratio_top f_Ratio_top := fz_of0 O (F.bindsN (ps := ["self"]) fun _ _ _ _ _ _ us hl => match us, hl with | [_], _ => rfl)
theorem o__law_pair (T : Tx K mg a_common_divisor a_is_whole a_is_digits a_is_signed a__law_bag a__law_gcd a__law_frac a__law_frac_text a__law_pick a__law_of a__law_pair a__law_reader a__law_same a__law_field a__law_why a__law_whys a_law C_Ratio a_Ratio___init__ a_Ratio_text a_Ratio_read a_Ratio_bottom a_Ratio_top p_Ratio_read p_Ratio_bottom p_Ratio_top C_WayError C_Missing C_InvalidRatio C_InvalidText C_NothingLeft) {fd : FuncData} (F : FunD K "_law_pair" "_law_pair" (defArgs s__law_pair) (defBody s__law_pair) (defScope s__law_pair) [] [] a__law_pair fd) (Z_Ratio_bottom : FZ P w K mg base 1 a_Ratio_bottom f_Ratio_bottom) (Z_Ratio_top : FZ P w K mg base 1 a_Ratio_top f_Ratio_top) : FnOk P w K mg base (Z.CX P w) 3 a__law_pair fd ["_law_found"] (spOf K mg 1 (defS 1 (m__law_pair))) := by
  refine fn_okD (N := ["_law_found"]) F sc__law_pair (k := 2) (body := m__law_pair) fun A outer s H E hr => ?_
  have tk : Z.Takes (cxOf (Z.CX P w) P w K mg base ["_law_found"] "_law_pair" (defScope s__law_pair) a__law_pair fd.code A outer s H E) (fun c d _ H' => E c d H') := Z.takes_of rfl rfl rfl rfl
  have hp : PassesOwn (model P w) (cxOf (Z.CX P w) P w K mg base ["_law_found"] "_law_pair" (defScope s__law_pair) a__law_pair fd.code A outer s H E).A (cxOf (Z.CX P w) P w K mg base ["_law_found"] "_law_pair" (defScope s__law_pair) a__law_pair fd.code A outer s H E).env (cxOf (Z.CX P w) P w K mg base ["_law_found"] "_law_pair" (defScope s__law_pair) a__law_pair fd.code A outer s H E).xe := passes_of rfl
  unfold m__law_pair
  exact (s_one (s_ret (r_if (b_val (r_callB (ow_isi (isi_cons T.m_Ratio T.ty_Ratio (ici_cons T.m_Ratio T.it_Ratio T.kt_Ratio_Ratio ici_nil) ici_nil isi_nil)) rfl T.b_isinstance PyProof.Rows.boot_isinstance (a_cons (r_name (i := 0)) (a_cons (r_cls rfl T.m_Ratio) a_nil)))) (r_tup (a_cons (r_attrZ (attr_cons T.m_Ratio T.cl_Ratio ⟨_, _, _, T.pr_Ratio_top, Z_Ratio_top, hr.mono (by omega)⟩ attr_nil) (r_name (i := 0))) (a_cons (r_attrZ (attr_cons T.m_Ratio T.cl_Ratio ⟨_, _, _, T.pr_Ratio_bottom, Z_Ratio_bottom, hr.mono (by omega)⟩ attr_nil) (r_name (i := 0))) a_nil))) r_non)))
theorem d__law_pair {fd : FuncData} (F : FunD K "_law_pair" "_law_pair" (defArgs s__law_pair) (defBody s__law_pair) (defScope s__law_pair) [] [] a__law_pair fd) (O : FnOk P w K mg base (Z.CX P w) 3 a__law_pair fd ["_law_found"] (spOf K mg 1 (defS 1 (m__law_pair)))) : FZ P w K mg base 3 a__law_pair f__law_pair := fz_of0 O (F.bindsN (ps := ["_law_found"]) fun _ _ _ _ _ _ us hl => match us, hl with | [_], _ => rfl)
theorem lfr__law_reader_0 : ∀ y ∈ T__law_reader_0.scope.names, y.2 = .free → (defScope s__law_reader).names.lookup y.1 = some .cell := by decide +kernel
theorem d__law_reader (Ps : Nat → Addr) (T : Tx K mg a_common_divisor a_is_whole a_is_digits a_is_signed a__law_bag a__law_gcd a__law_frac a__law_frac_text a__law_pick a__law_of a__law_pair a__law_reader a__law_same a__law_field a__law_why a__law_whys a_law C_Ratio a_Ratio___init__ a_Ratio_text a_Ratio_read a_Ratio_bottom a_Ratio_top p_Ratio_read p_Ratio_bottom p_Ratio_top C_WayError C_Missing C_InvalidRatio C_InvalidText C_NothingLeft) {fd : FuncData} {cc : Addr} (F : FunD K "_law_reader" "_law_reader" (defArgs s__law_reader) (defBody s__law_reader) (defScope s__law_reader) [] [] a__law_reader fd) (TB : LamX.TabB base mg cc (Ps 0)) (hc : fd.code = .ref cc) : FZ P w K mg base 1 a__law_reader (f__law_reader Ps) := by
  have lfree__law_reader_0 := lfr__law_reader_0
  refine fz_lamret (N := ["_law_asked"]) (ps := ["_law_asked"]) (cn := ["_law_asked"]) (k := 0) (fe := fun κ => m__law_reader Ps κ) F sc__law_reader rfl (F.bindsN (ps := ["_law_asked"]) fun _ _ _ _ _ _ us hl => match us, hl with | [_], _ => rfl) (by decide +kernel) fun A outer s H E hr => ?_
  unfold m__law_reader
  exact (r_lam0 (ti := 0) (T := T__law_reader_0) TB hc rfl rfl rfl lfree__law_reader_0)
theorem d__law_same (T : Tx K mg a_common_divisor a_is_whole a_is_digits a_is_signed a__law_bag a__law_gcd a__law_frac a__law_frac_text a__law_pick a__law_of a__law_pair a__law_reader a__law_same a__law_field a__law_why a__law_whys a_law C_Ratio a_Ratio___init__ a_Ratio_text a_Ratio_read a_Ratio_bottom a_Ratio_top p_Ratio_read p_Ratio_bottom p_Ratio_top C_WayError C_Missing C_InvalidRatio C_InvalidText C_NothingLeft) {fd : FuncData} (F : FunD K "_law_same" "_law_same" (defArgs s__law_same) (defBody s__law_same) (defScope s__law_same) [] [] a__law_same fd)  : ∀ k, FZ P w K mg base (k + 1) a__law_same (f__law_sameR k)
  | 0 => fz_bad
  | k + 1 => by
    have ZR := d__law_same T F  k
    have hrec : k + 1 ≤ k + 1 := Nat.le_refl _
    refine fz_of0 (fn_okD (N := ["_law_found", "_law_due", "_law_a", "_law_b"]) F sc__law_same (k := k + 1) (body := m__law_same (f__law_sameR k)) fun A outer s H E hr => ?_) (F.bindsN (ps := ["_law_found", "_law_due"]) fun _ _ _ _ _ _ us hl => match us, hl with | [_, _], _ => rfl)
    have tk : Z.Takes (cxOf (Z.CX P w) P w K mg base ["_law_found", "_law_due", "_law_a", "_law_b"] "_law_same" (defScope s__law_same) a__law_same fd.code A outer s H E) (fun c d _ H' => E c d H') := Z.takes_of rfl rfl rfl rfl
    have hp : PassesOwn (model P w) (cxOf (Z.CX P w) P w K mg base ["_law_found", "_law_due", "_law_a", "_law_b"] "_law_same" (defScope s__law_same) a__law_same fd.code A outer s H E).A (cxOf (Z.CX P w) P w K mg base ["_law_found", "_law_due", "_law_a", "_law_b"] "_law_same" (defScope s__law_same) a__law_same fd.code A outer s H E).env (cxOf (Z.CX P w) P w K mg base ["_law_found", "_law_due", "_law_a", "_law_b"] "_law_same" (defScope s__law_same) a__law_same fd.code A outer s H E).xe := passes_of rfl
    unfold m__law_same
    exact (s_cons (s_if (b_val (r_callB d_isiX rfl T.b_isinstance PyProof.Rows.boot_isinstance (a_cons (r_name (i := 1)) (a_cons (r_tup (a_cons (r_ty rfl T.b_list PyProof.Rows.boot_list) (a_cons (r_ty rfl T.b_tuple PyProof.Rows.boot_tuple) a_nil))) a_nil))))
    (s_cons (s_if (EW.eb (w_or (b_cmp (d_ne hr.units) (r_callB d_isiX rfl T.b_isinstance PyProof.Rows.boot_isinstance (a_cons (r_name (i := 0)) (a_cons (r_ty rfl T.b_list PyProof.Rows.boot_list) a_nil))) (r_callB d_isiX rfl T.b_isinstance PyProof.Rows.boot_isinstance (a_cons (r_name (i := 1)) (a_cons (r_ty rfl T.b_list PyProof.Rows.boot_list) a_nil)))) (w_or1 (b_cmp (d_ne hr.units) (r_callB d_isiX rfl T.b_isinstance PyProof.Rows.boot_isinstance (a_cons (r_name (i := 0)) (a_cons (r_ty rfl T.b_tuple PyProof.Rows.boot_tuple) a_nil))) (r_callB d_isiX rfl T.b_isinstance PyProof.Rows.boot_isinstance (a_cons (r_name (i := 1)) (a_cons (r_ty rfl T.b_tuple PyProof.Rows.boot_tuple) a_nil)))))))
    (s_one (s_ret r_bl))
    s_nil)
    (s_one (s_ret (r_and (r_cmp (d_eq hr.units) (r_callB d_lenX rfl T.b_len PySem.boot_len (a_cons (r_name (i := 0)) a_nil)) (r_callB d_lenX rfl T.b_len PySem.boot_len (a_cons (r_name (i := 1)) a_nil))) (r_one (r_callB (d_all rfl) rfl T.b_all PyProof.Rows.boot_all (a_cons (r_fin (r_lc (own := [("_law_a", 2), ("_law_b", 3)]) rfl sc__law_same.nd (blkOk_by (by rfl)) (i_zip (a_cons (r_name (i := 0)) (a_cons (r_name (i := 1)) a_nil)) rfl T.b_zip) (fun _ _ _ _ _ => (gw_tup rfl (gsw_cons (gw_name sc__law_same.nd (i := 2)) (gsw_cons (gw_name sc__law_same.nd (i := 3)) gsw_nil)) (len_consN (nx_set 2) (len_consN (nx_set 3) len_nil)))) (fun _ _ _ _ _ => ts_nil) (fun _ _ _ _ _ => (r_callZ takesF ZR (hr.mono hrec) T.m__law_same T.k__law_same (a_cons (r_name (i := 2)) (a_cons (r_name (i := 3)) a_nil)))))) a_nil)))))))
    s_nil)
    (s_cons (s_if (EW.eb (w_or (b_cmp d_isN (r_name (i := 1)) r_non) (w_or1 (b_cmp d_isN (r_name (i := 0)) r_non))))
    (s_one (s_ret (r_and (r_cmp d_isN (r_name (i := 1)) r_non) (r_one (r_cmp d_isN (r_name (i := 0)) r_non)))))
    s_nil)
    (s_cons (s_if (EW.eb (w_or (b_cmp (d_ne hr.units) (r_callB d_isiX rfl T.b_isinstance PyProof.Rows.boot_isinstance (a_cons (r_name (i := 0)) (a_cons (r_ty rfl T.b_bool PyProof.Rows.boot_bool) a_nil))) (r_callB d_isiX rfl T.b_isinstance PyProof.Rows.boot_isinstance (a_cons (r_name (i := 1)) (a_cons (r_ty rfl T.b_bool PyProof.Rows.boot_bool) a_nil)))) (w_or1 (b_cmp (d_ne hr.units) (r_callB d_isiX rfl T.b_isinstance PyProof.Rows.boot_isinstance (a_cons (r_name (i := 0)) (a_cons (r_ty rfl T.b_int PyProof.Rows.boot_int) a_nil))) (r_callB d_isiX rfl T.b_isinstance PyProof.Rows.boot_isinstance (a_cons (r_name (i := 1)) (a_cons (r_ty rfl T.b_int PyProof.Rows.boot_int) a_nil)))))))
    (s_one (s_ret r_bl))
    s_nil)
    (s_one (s_ret (r_and (r_cmp (d_eq hr.units) (r_callB d_isiX rfl T.b_isinstance PyProof.Rows.boot_isinstance (a_cons (r_name (i := 0)) (a_cons (r_ty rfl T.b_str PyProof.Rows.boot_str) a_nil))) (r_callB d_isiX rfl T.b_isinstance PyProof.Rows.boot_isinstance (a_cons (r_name (i := 1)) (a_cons (r_ty rfl T.b_str PyProof.Rows.boot_str) a_nil)))) (r_one (r_cmp (d_eq hr.units) (r_name (i := 0)) (r_name (i := 1))))))))))
theorem d__law_field (T : Tx K mg a_common_divisor a_is_whole a_is_digits a_is_signed a__law_bag a__law_gcd a__law_frac a__law_frac_text a__law_pick a__law_of a__law_pair a__law_reader a__law_same a__law_field a__law_why a__law_whys a_law C_Ratio a_Ratio___init__ a_Ratio_text a_Ratio_read a_Ratio_bottom a_Ratio_top p_Ratio_read p_Ratio_bottom p_Ratio_top C_WayError C_Missing C_InvalidRatio C_InvalidText C_NothingLeft) {fd : FuncData} (F : Fun K "_law_field" "_law_field" s__law_field a__law_field fd)  : FZT P w K mg base 1 a__law_field f__law_field := by
  refine fz_hot (N := ["_law_e"]) F sc__law_field (k := 0) (body := m__law_field) (F.binds (ps := ["_law_e"]) fun _ _ _ _ _ _ us hl => match us, hl with | [_], _ => rfl) fun cdv A outer s H E hr => ?_
  have tk : Z.Takes (cxT (Z.CX P w) P w K mg base ["_law_e"] "_law_field" (defScope s__law_field) a__law_field cdv A outer s H E) (fun c d _ H' => E c d H') := Z.takes_of rfl rfl rfl rfl
  have hp : PassesOwn (model P w) (cxT (Z.CX P w) P w K mg base ["_law_e"] "_law_field" (defScope s__law_field) a__law_field cdv A outer s H E).A (cxT (Z.CX P w) P w K mg base ["_law_e"] "_law_field" (defScope s__law_field) a__law_field cdv A outer s H E).env (cxT (Z.CX P w) P w K mg base ["_law_e"] "_law_field" (defScope s__law_field) a__law_field cdv A outer s H E).xe := passes_of rfl
  unfold m__law_field
  exact (s_cons (s_if (b_cmp (d_inX (hotU hr)) (r_xat (xat_cons T.m_InvalidRatio T.xf_InvalidRatio T.xn_InvalidRatio_tag (xat_cons T.m_InvalidText T.xf_InvalidText T.xn_InvalidText_tag xat_nil)) (r_name (i := 0))) (r_tup (a_cons r_str (a_cons r_str (a_cons r_str (a_cons r_str (a_cons r_str a_nil)))))))
  (s_one (s_ret (r_xat (xat_cons T.m_InvalidRatio T.xf_InvalidRatio T.xn_InvalidRatio_value xat_nil) (r_name (i := 0)))))
  s_nil)
  (s_cons (s_if (b_cmp (d_inX (hotU hr)) (r_xat (xat_cons T.m_InvalidRatio T.xf_InvalidRatio T.xn_InvalidRatio_tag (xat_cons T.m_InvalidText T.xf_InvalidText T.xn_InvalidText_tag xat_nil)) (r_name (i := 0))) (r_tup (a_cons r_str (a_cons r_str (a_cons r_str (a_cons r_str a_nil))))))
  (s_one (s_ret r_bad))
  s_nil)
  (s_cons (s_if (b_cmp (d_inX (hotU hr)) (r_xat (xat_cons T.m_InvalidRatio T.xf_InvalidRatio T.xn_InvalidRatio_tag (xat_cons T.m_InvalidText T.xf_InvalidText T.xn_InvalidText_tag xat_nil)) (r_name (i := 0))) (r_tup (a_cons r_str (a_cons r_str a_nil))))
  (s_one (s_ret r_bad))
  s_nil)
  (s_cons (s_if (b_cmp (d_inX (hotU hr)) (r_xat (xat_cons T.m_InvalidRatio T.xf_InvalidRatio T.xn_InvalidRatio_tag (xat_cons T.m_InvalidText T.xf_InvalidText T.xn_InvalidText_tag xat_nil)) (r_name (i := 0))) (r_tup (a_cons r_str (a_cons r_str a_nil))))
  (s_one (s_ret r_bad))
  s_nil)
  (s_cons (s_if (b_cmp (d_inX (hotU hr)) (r_xat (xat_cons T.m_InvalidRatio T.xf_InvalidRatio T.xn_InvalidRatio_tag (xat_cons T.m_InvalidText T.xf_InvalidText T.xn_InvalidText_tag xat_nil)) (r_name (i := 0))) (r_tup (a_cons r_str (a_cons r_str a_nil))))
  (s_one (s_ret (r_if (b_cmp (d_eq (hotU hr)) (r_xat (xat_cons T.m_InvalidRatio T.xf_InvalidRatio T.xn_InvalidRatio_tag (xat_cons T.m_InvalidText T.xf_InvalidText T.xn_InvalidText_tag xat_nil)) (r_name (i := 0))) r_str) (r_xat (xat_cons T.m_InvalidText T.xf_InvalidText T.xn_InvalidText_given xat_nil) (r_name (i := 0))) r_bad)))
  s_nil)
  (s_cons (s_if (b_cmp (d_inX (hotU hr)) (r_xat (xat_cons T.m_InvalidRatio T.xf_InvalidRatio T.xn_InvalidRatio_tag (xat_cons T.m_InvalidText T.xf_InvalidText T.xn_InvalidText_tag xat_nil)) (r_name (i := 0))) (r_tup (a_cons r_str (a_cons r_str a_nil))))
  (s_one (s_ret (r_if (b_cmp (d_eq (hotU hr)) (r_xat (xat_cons T.m_InvalidRatio T.xf_InvalidRatio T.xn_InvalidRatio_tag (xat_cons T.m_InvalidText T.xf_InvalidText T.xn_InvalidText_tag xat_nil)) (r_name (i := 0))) r_str) r_bad (r_tup (a_cons r_bad (a_cons r_bad a_nil))))))
  s_nil)
  (s_cons (s_if (b_cmp (d_inX (hotU hr)) (r_xat (xat_cons T.m_InvalidRatio T.xf_InvalidRatio T.xn_InvalidRatio_tag (xat_cons T.m_InvalidText T.xf_InvalidText T.xn_InvalidText_tag xat_nil)) (r_name (i := 0))) (r_tup (a_cons r_str (a_cons r_str a_nil))))
  (s_one (s_ret (r_if (b_cmp (d_eq (hotU hr)) (r_xat (xat_cons T.m_InvalidRatio T.xf_InvalidRatio T.xn_InvalidRatio_tag (xat_cons T.m_InvalidText T.xf_InvalidText T.xn_InvalidText_tag xat_nil)) (r_name (i := 0))) r_str) r_bad r_bad)))
  s_nil)
  (s_one (s_ret (r_if (b_cmp (d_eq (hotU hr)) (r_xat (xat_cons T.m_InvalidRatio T.xf_InvalidRatio T.xn_InvalidRatio_tag (xat_cons T.m_InvalidText T.xf_InvalidText T.xn_InvalidText_tag xat_nil)) (r_name (i := 0))) r_str) r_bad r_non))))))))))
theorem lo_law_0 (T : Tx K mg a_common_divisor a_is_whole a_is_digits a_is_signed a__law_bag a__law_gcd a__law_frac a__law_frac_text a__law_pick a__law_of a__law_pair a__law_reader a__law_same a__law_field a__law_why a__law_whys a_law C_Ratio a_Ratio___init__ a_Ratio_text a_Ratio_read a_Ratio_bottom a_Ratio_top p_Ratio_read p_Ratio_bottom p_Ratio_top C_WayError C_Missing C_InvalidRatio C_InvalidText C_NothingLeft) (Z_Ratio_read : FZ P w K mg base 6 a_Ratio_read f_Ratio_read) (ZK_Ratio_read_0 : FZK P w K mg base 6 a_Ratio_read 0 ["text"] fk_Ratio_read_0) : LamOk P w K mg base 7 T_law_0 (l_law_0) := by
  refine lam_ok (fl := (eCallK 0 1 fk_Ratio_read_0 aNil (aCons (eName 0) aNil))) lw_law_0 (fun ρ H => RepL.nil) fun A outer s H E f c' clo hr => ?_
  have tk : Z.Takes (cxL P w K mg base T_law_0 [] A outer s H E f c' clo) (fun c d _ H' => E c d H') := Z.takes_of rfl rfl rfl rfl
  exact (r_callSmK0 tk ZK_Ratio_read_0 (hr.mono (by omega)) T.m_Ratio T.sm_Ratio_read (k_cons (r_name (i := 0)) k_nil))
theorem lo__law_reader_0 (T : Tx K mg a_common_divisor a_is_whole a_is_digits a_is_signed a__law_bag a__law_gcd a__law_frac a__law_frac_text a__law_pick a__law_of a__law_pair a__law_reader a__law_same a__law_field a__law_why a__law_whys a_law C_Ratio a_Ratio___init__ a_Ratio_text a_Ratio_read a_Ratio_bottom a_Ratio_top p_Ratio_read p_Ratio_bottom p_Ratio_top C_WayError C_Missing C_InvalidRatio C_InvalidText C_NothingLeft) (Z_Ratio_read : FZ P w K mg base 6 a_Ratio_read f_Ratio_read) : LamOk P w K mg base 7 T__law_reader_0 (l__law_reader_0) := by
  refine lam_ok (fl := (eArgs f_Ratio_read (aCons (eName 0) aNil))) lw__law_reader_0 (fun ρ H => RepL.nil) fun A outer s H E f c' clo hr => ?_
  have tk : Z.Takes (cxL P w K mg base T__law_reader_0 [] A outer s H E f c' clo) (fun c d _ H' => E c d H') := Z.takes_of rfl rfl rfl rfl
  exact (r_callSm tk Z_Ratio_read (hr.mono (by omega)) T.m_Ratio T.sm_Ratio_read (a_cons (r_name (i := 0)) a_nil))
theorem o__law_why (Ps : Nat → Addr) (T : Tx K mg a_common_divisor a_is_whole a_is_digits a_is_signed a__law_bag a__law_gcd a__law_frac a__law_frac_text a__law_pick a__law_of a__law_pair a__law_reader a__law_same a__law_field a__law_why a__law_whys a_law C_Ratio a_Ratio___init__ a_Ratio_text a_Ratio_read a_Ratio_bottom a_Ratio_top p_Ratio_read p_Ratio_bottom p_Ratio_top C_WayError C_Missing C_InvalidRatio C_InvalidText C_NothingLeft) {fd : FuncData} (F : FunD K "_law_why" "_law_why" (defArgs s__law_why) (defBody s__law_why) (defScope s__law_why) [] [] a__law_why fd) (Z_Ratio_read : FZ P w K mg base 6 a_Ratio_read f_Ratio_read) (Z__law_field : FZT P w K mg base 1 a__law_field f__law_field) (HL : LOk P w K mg base 7 (lamTab Ps)) : FnOk P w K mg base (Z.CX P w) 8 a__law_why fd ["_law_ask"] (spOf K mg 1 (defS 2 (m__law_why Ps))) := by
  refine fn_okD (N := ["_law_ask", "_law_e"]) F sc__law_why (k := 7) (body := m__law_why Ps) fun A outer s H E hr => ?_
  have tk : Z.Takes (cxOf (Z.CX P w) P w K mg base ["_law_ask", "_law_e"] "_law_why" (defScope s__law_why) a__law_why fd.code A outer s H E) (fun c d _ H' => E c d H') := Z.takes_of rfl rfl rfl rfl
  have hp : PassesOwn (model P w) (cxOf (Z.CX P w) P w K mg base ["_law_ask", "_law_e"] "_law_why" (defScope s__law_why) a__law_why fd.code A outer s H E).A (cxOf (Z.CX P w) P w K mg base ["_law_ask", "_law_e"] "_law_why" (defScope s__law_why) a__law_why fd.code A outer s H E).env (cxOf (Z.CX P w) P w K mg base ["_law_ask", "_law_e"] "_law_why" (defScope s__law_why) a__law_why fd.code A outer s H E).xe := passes_of rfl
  unfold m__law_why
  exact (s_one (s_tryZ (n := "_law_e") (i := 1) (tab := [("InvalidRatio", true), ("InvalidText", true)]) rfl rfl sc__law_why.nd rfl rfl (test_tup3 rfl T.m_WayError rfl T.m_Missing rfl T.m_NothingLeft) tk (try_cons T.m_InvalidRatio T.tr_InvalidRatio_WayError_Missing_NothingLeft (try_cons T.m_InvalidText T.tr_InvalidText_WayError_Missing_NothingLeft try_nil)) (fun W' pn xe tk =>
  (s_one (s_ret (r_tup (a_cons r_str (a_cons (r_lamc (i := 0) tk HL (hr.mono (by omega)) rfl (.inl rfl)) a_nil)))))) (fun a pn =>
  (s_one (s_ret (r_tup (a_cons (r_xat (xat_cons T.m_InvalidRatio T.xf_InvalidRatio T.xn_InvalidRatio_tag (xat_cons T.m_InvalidText T.xf_InvalidText T.xn_InvalidText_tag xat_nil)) (r_name (i := 1))) (a_cons (r_callHot takesF Z__law_field (RoomH.hot hr (by omega)) T.m__law_field T.k__law_field (a_cons (r_name (i := 1)) a_nil)) a_nil))))))))
theorem d__law_why (Ps : Nat → Addr) {fd : FuncData} (F : FunD K "_law_why" "_law_why" (defArgs s__law_why) (defBody s__law_why) (defScope s__law_why) [] [] a__law_why fd) (O : FnOk P w K mg base (Z.CX P w) 8 a__law_why fd ["_law_ask"] (spOf K mg 1 (defS 2 (m__law_why Ps)))) : FZ P w K mg base 8 a__law_why (f__law_why Ps) := fz_of0 O (F.bindsN (ps := ["_law_ask"]) fun _ _ _ _ _ _ us hl => match us, hl with | [_], _ => rfl)
theorem o__law_whys (Ps : Nat → Addr) (T : Tx K mg a_common_divisor a_is_whole a_is_digits a_is_signed a__law_bag a__law_gcd a__law_frac a__law_frac_text a__law_pick a__law_of a__law_pair a__law_reader a__law_same a__law_field a__law_why a__law_whys a_law C_Ratio a_Ratio___init__ a_Ratio_text a_Ratio_read a_Ratio_bottom a_Ratio_top p_Ratio_read p_Ratio_bottom p_Ratio_top C_WayError C_Missing C_InvalidRatio C_InvalidText C_NothingLeft) {fd : FuncData} (F : FunD K "_law_whys" "_law_whys" (defArgs s__law_whys) (defBody s__law_whys) (defScope s__law_whys) [] [] a__law_whys fd) (Z__law_why : FZ P w K mg base 8 a__law_why (f__law_why Ps)) : FnOk P w K mg base (Z.CX P w) 9 a__law_whys fd ["_law_asks"] (spOf K mg 1 (defS 2 (m__law_whys Ps))) := by
  refine fn_okD (N := ["_law_asks", "_law_ask"]) F sc__law_whys (k := 8) (body := m__law_whys Ps) fun A outer s H E hr => ?_
  have tk : Z.Takes (cxOf (Z.CX P w) P w K mg base ["_law_asks", "_law_ask"] "_law_whys" (defScope s__law_whys) a__law_whys fd.code A outer s H E) (fun c d _ H' => E c d H') := Z.takes_of rfl rfl rfl rfl
  have hp : PassesOwn (model P w) (cxOf (Z.CX P w) P w K mg base ["_law_asks", "_law_ask"] "_law_whys" (defScope s__law_whys) a__law_whys fd.code A outer s H E).A (cxOf (Z.CX P w) P w K mg base ["_law_asks", "_law_ask"] "_law_whys" (defScope s__law_whys) a__law_whys fd.code A outer s H E).env (cxOf (Z.CX P w) P w K mg base ["_law_asks", "_law_ask"] "_law_whys" (defScope s__law_whys) a__law_whys fd.code A outer s H E).xe := passes_of rfl
  unfold m__law_whys
  exact (s_one (s_ret (r_fin (r_lc (own := [("_law_ask", 1)]) rfl sc__law_whys.nd (blkOk_by (by rfl)) (i_any (r_name (i := 0))) (fun _ _ _ _ _ => (gw_name sc__law_whys.nd (i := 1))) (fun _ _ _ _ _ => ts_nil) (fun _ _ _ _ _ => (r_callZ takesF Z__law_why (hr.mono (by omega)) T.m__law_why T.k__law_why (a_cons (r_name (i := 1)) a_nil)))))))
theorem d__law_whys (Ps : Nat → Addr) {fd : FuncData} (F : FunD K "_law_whys" "_law_whys" (defArgs s__law_whys) (defBody s__law_whys) (defScope s__law_whys) [] [] a__law_whys fd) (O : FnOk P w K mg base (Z.CX P w) 9 a__law_whys fd ["_law_asks"] (spOf K mg 1 (defS 2 (m__law_whys Ps)))) : FZ P w K mg base 9 a__law_whys (f__law_whys Ps) := fz_of0 O (F.bindsN (ps := ["_law_asks"]) fun _ _ _ _ _ _ us hl => match us, hl with | [_], _ => rfl)
theorem lfr_law_0 : ∀ y ∈ T_law_0.scope.names, y.2 = .free → (defScope s_law).names.lookup y.1 = some .cell := by decide +kernel
theorem o_law (Ps : Nat → Addr) (T : Tx K mg a_common_divisor a_is_whole a_is_digits a_is_signed a__law_bag a__law_gcd a__law_frac a__law_frac_text a__law_pick a__law_of a__law_pair a__law_reader a__law_same a__law_field a__law_why a__law_whys a_law C_Ratio a_Ratio___init__ a_Ratio_text a_Ratio_read a_Ratio_bottom a_Ratio_top p_Ratio_read p_Ratio_bottom p_Ratio_top C_WayError C_Missing C_InvalidRatio C_InvalidText C_NothingLeft) {fd : FuncData} {cc : Addr} (F : FunD K "law" "law" (defArgs s_law) (defBody s_law) (defScope s_law) [] [] a_law fd) (TB : LamX.TabB base mg cc (Ps 1)) (hc : fd.code = .ref cc) (Z_Ratio_read : FZ P w K mg base 6 a_Ratio_read f_Ratio_read) (Z__law_bag : FZ P w K mg base 1 a__law_bag f__law_bag) (Z__law_frac : FZ P w K mg base 2 a__law_frac f__law_frac) (Z__law_frac_text : FZ P w K mg base 1 a__law_frac_text f__law_frac_text) (Z__law_of : FZ P w K mg base 2 a__law_of f__law_of) (Z__law_pair : FZ P w K mg base 3 a__law_pair f__law_pair) (Z__law_pick : FZ P w K mg base 1 a__law_pick f__law_pick) (Z__law_reader : FZ P w K mg base 1 a__law_reader (f__law_reader Ps)) (Z__law_same : FZ P w K mg base 13 a__law_same f__law_same) (Z__law_why : FZ P w K mg base 8 a__law_why (f__law_why Ps)) (Z__law_whys : FZ P w K mg base 9 a__law_whys (f__law_whys Ps)) : FnOk P w K mg base (Z.CX P w) 14 a_law fd ["_law_script"] (fun vs H Q E => ∀ κ, spOf K mg 1 (defS 12 (m_law Ps κ)) vs H Q E) := by
  refine fn_okT (N := ["_law_script", "_law_bag_here", "_law_turn", "_law_wide", "_law_due", "_law_text_z", "_law_at", "_law_sign", "_law_bent", "_law_told", "_law_odd", "_law_one"]) F sc_law (k := 13) (body := fun κ => m_law Ps κ) fun A outer s H E hr => ?_
  have tk : Z.Takes (cxOf (Z.CX P w) P w K mg base ["_law_script", "_law_bag_here", "_law_turn", "_law_wide", "_law_due", "_law_text_z", "_law_at", "_law_sign", "_law_bent", "_law_told", "_law_odd", "_law_one"] "law" (defScope s_law) a_law fd.code A outer s H E) (fun c d _ H' => E c d H') := Z.takes_of rfl rfl rfl rfl
  have hp : PassesOwn (model P w) (cxOf (Z.CX P w) P w K mg base ["_law_script", "_law_bag_here", "_law_turn", "_law_wide", "_law_due", "_law_text_z", "_law_at", "_law_sign", "_law_bent", "_law_told", "_law_odd", "_law_one"] "law" (defScope s_law) a_law fd.code A outer s H E).A (cxOf (Z.CX P w) P w K mg base ["_law_script", "_law_bag_here", "_law_turn", "_law_wide", "_law_due", "_law_text_z", "_law_at", "_law_sign", "_law_bent", "_law_told", "_law_odd", "_law_one"] "law" (defScope s_law) a_law fd.code A outer s H E).env (cxOf (Z.CX P w) P w K mg base ["_law_script", "_law_bag_here", "_law_turn", "_law_wide", "_law_due", "_law_text_z", "_law_at", "_law_sign", "_law_bent", "_law_told", "_law_odd", "_law_one"] "law" (defScope s_law) a_law fd.code A outer s H E).xe := passes_of rfl
  have lfree_law_0 : ∀ y ∈ T_law_0.scope.names, y.2 = .free → (cxOf (Z.CX P w) P w K mg base ["_law_script", "_law_bag_here", "_law_turn", "_law_wide", "_law_due", "_law_text_z", "_law_at", "_law_sign", "_law_bent", "_law_told", "_law_odd", "_law_one"] "law" (defScope s_law) a_law fd.code A outer s H E).env.kindOf y.1 = some .cell := lfr_law_0
  unfold m_law
  exact (s_cons (s_set (i := 1) sc_law.nd (r_callZ tk Z__law_bag (hr.mono (by omega)) T.m__law_bag T.k__law_bag (a_cons (r_name (i := 0)) a_nil)))
  (s_cons (s_for hp rfl (i_range1 (a_cons r_int a_nil) rfl T.b_range) (g_name sc_law.nd (i := 2))
  (s_cons (s_set (i := 3) sc_law.nd (r_callZ tk Z__law_of (hr.mono (by omega)) T.m__law_of T.k__law_of (a_cons (r_name (i := 1)) (a_cons (r_lst (a_cons r_int (a_cons (r_bin d_powI r_int r_int) (a_cons (r_bin d_subI (r_bin d_powI r_int r_int) r_int) a_nil)))) a_nil))))
  (s_cons (s_set (i := 4) sc_law.nd (r_callZ tk Z__law_frac (hr.mono (by omega)) T.m__law_frac T.k__law_frac (a_cons (r_bin d_subI (r_callZ tk Z__law_pick (hr.mono (by omega)) T.m__law_pick T.k__law_pick (a_cons (r_name (i := 1)) (a_cons (r_bin d_mulXT r_int (r_name (i := 3))) a_nil))) (r_name (i := 3))) (a_cons (r_bin d_addX r_int (r_callZ tk Z__law_pick (hr.mono (by omega)) T.m__law_pick T.k__law_pick (a_cons (r_name (i := 1)) (a_cons (r_name (i := 3)) a_nil)))) a_nil))))
  (s_cons (s_set (i := 5) sc_law.nd (r_callZ tk Z__law_frac_text (hr.mono (by omega)) T.m__law_frac_text T.k__law_frac_text (a_cons (r_name (i := 4)) a_nil)))
  (s_cons (s_if (b_not (b_val (r_callZ tk Z__law_same (hr.mono (by omega)) T.m__law_same T.k__law_same (a_cons (r_callZ tk Z__law_pair (hr.mono (by omega)) T.m__law_pair T.k__law_pair (a_cons (r_callSm tk Z_Ratio_read (hr.mono (by omega)) T.m_Ratio T.sm_Ratio_read (a_cons (r_name (i := 5)) a_nil)) a_nil)) (a_cons (r_name (i := 4)) a_nil)))))
  (s_one (s_ret r_bl))
  s_nil)
  (s_cons (s_par (i := 6) (j := 7) rfl sc_law.nd (a_cons (r_callZ tk Z__law_pick (hr.mono (by omega)) T.m__law_pick T.k__law_pick (a_cons (r_name (i := 1)) (a_cons (r_bin d_addX (r_callB d_lenX rfl T.b_len PySem.boot_len (a_cons (r_name (i := 5)) a_nil)) r_int) a_nil))) (a_cons (r_callZ tk Z__law_of (hr.mono (by omega)) T.m__law_of T.k__law_of (a_cons (r_name (i := 1)) (a_cons (r_lst (a_cons r_str (a_cons r_str (a_cons r_str (a_cons r_str (a_cons r_str (a_cons r_str (a_cons r_str (a_cons r_str (a_cons r_str a_nil)))))))))) a_nil))) a_nil)))
  (s_cons (s_set (i := 8) sc_law.nd (r_bin d_addX (r_bin d_addX (r_sl (r_name (i := 5)) o_none (o_int (r_name (i := 6)))) (r_name (i := 7))) (r_sl (r_name (i := 5)) (o_int (r_bin d_addX (r_name (i := 6)) (r_callZ tk Z__law_pick (hr.mono (by omega)) T.m__law_pick T.k__law_pick (a_cons (r_name (i := 1)) (a_cons r_int a_nil))))) o_none)))
  (s_cons (s_set (i := 9) sc_law.nd (r_callL (cn := ["_law_bent"]) Z__law_why (hr.mono (by omega)) T.m__law_why T.k__law_why (fun _ => rfl) (hcn_cons rfl hcn_nil) (a_cons (r_lam0 (ti := 1) (T := T_law_0) TB hc rfl rfl rfl lfree_law_0) a_nil)))
  (s_one (s_if (b_cmp (d_eq hr.units) (r_ix (d_ixX hr.units) (r_name (i := 9)) r_int) r_str)
  (s_one (s_if (b_cmp (d_ne hr.units) (r_callZ tk Z__law_frac_text (hr.mono (by omega)) T.m__law_frac_text T.k__law_frac_text (a_cons (r_callZ tk Z__law_pair (hr.mono (by omega)) T.m__law_pair T.k__law_pair (a_cons (r_ix (d_ixX hr.units) (r_name (i := 9)) r_int) a_nil)) a_nil)) (r_name (i := 8)))
  (s_one (s_ret r_bl))
  s_nil))
  (s_one (s_if (EW.eb (w_or (b_not (b_val (r_callZ tk Z__law_same (hr.mono (by omega)) T.m__law_same T.k__law_same (a_cons (r_name (i := 9)) (a_cons (r_tup (a_cons r_str (a_cons (r_name (i := 8)) a_nil))) a_nil))))) (w_or1 (b_cmp (d_eq hr.units) (r_name (i := 8)) (r_name (i := 5))))))
  (s_one (s_ret r_bl))
  s_nil))))))))))))
  (s_cons (s_set (i := 10) sc_law.nd (r_lst (a_cons r_str (a_cons r_str (a_cons r_str (a_cons r_str (a_cons r_str (a_cons r_str (a_cons r_str (a_cons r_str (a_cons r_str (a_cons r_str (a_cons r_str (a_cons r_str (a_cons r_str (a_cons r_str (a_cons r_str a_nil)))))))))))))))))
  (s_cons (s_set (i := 10) sc_law.nd (r_bin d_addX (r_name (i := 10)) (r_lst (a_cons r_str (a_cons r_str (a_cons r_str a_nil))))))
  (s_cons (s_set (i := 10) sc_law.nd (r_bin d_addX (r_name (i := 10)) (r_lst (a_cons r_str (a_cons r_str (a_cons r_str (a_cons r_str (a_cons (r_bin d_mulXT r_str r_int) (a_cons (r_bin d_addX r_str (r_bin d_mulXT r_str r_int)) (a_cons r_non (a_cons r_int (a_cons r_bl (a_cons (r_tup (a_cons r_str a_nil)) (a_cons (r_lst (a_cons r_str a_nil)) a_nil))))))))))))))
  (s_one (s_ret (r_callZ tk Z__law_same (hr.mono (by omega)) T.m__law_same T.k__law_same (a_cons (r_callL (cn := ["_law_bent"]) Z__law_whys (hr.mono (by omega)) T.m__law_whys T.k__law_whys (fun _ => rfl) (hcn_cons rfl hcn_nil) (a_cons (r_fin (r_lc (own := [("_law_one", 11)]) rfl sc_law.nd (blkOk_by (by rfl)) (i_any (r_name (i := 10))) (fun _ _ _ _ _ => (gw_name sc_law.nd (i := 11))) (fun _ _ _ _ _ => ts_nil) (fun _ _ _ _ _ => (r_callZ takesF Z__law_reader (hr.mono (by omega)) T.m__law_reader T.k__law_reader (a_cons (r_name (i := 11)) a_nil))))) a_nil)) (a_cons (r_fin (r_lc (own := [("_law_one", 11)]) rfl sc_law.nd (blkOk_by (by rfl)) (i_any (r_name (i := 10))) (fun _ _ _ _ _ => (gw_name sc_law.nd (i := 11))) (fun _ _ _ _ _ => ts_nil) (fun _ _ _ _ _ => (r_tup (a_cons r_str (a_cons (r_name (i := 11)) a_nil)))))) a_nil))))))))))
end
theorem ss_InvalidRatio : ZX.SupS (defScope s_InvalidRatio___init__) "self" := ⟨rfl, rfl, rfl, rfl, rfl, rfl, by decide +kernel⟩
theorem po_InvalidRatio : ZX.ParOk (defArgs s_InvalidRatio___init__) (defScope s_InvalidRatio___init__) "self" ["value"] := ⟨rfl, by decide +kernel, by decide +kernel, by decide +kernel, fun fd us h hd hl => by
  obtain ⟨⟩ := fd
  cases h
  cases hd
  exact match us, hl with | [_, _], _ => rfl⟩
theorem ss_WayError : ZX.SupS (defScope s_WayError___init__) "self" := ⟨rfl, rfl, rfl, rfl, rfl, rfl, by decide +kernel⟩
theorem po_WayError : ZX.ParOk (defArgs s_WayError___init__) (defScope s_WayError___init__) "self" ["tag"] := ⟨rfl, by decide +kernel, by decide +kernel, by decide +kernel, fun fd us h hd hl => by
  obtain ⟨⟩ := fd
  cases h
  cases hd
  exact match us, hl with | [_, _], _ => rfl⟩
theorem ss_InvalidText : ZX.SupS (defScope s_InvalidText___init__) "self" := ⟨rfl, rfl, rfl, rfl, rfl, rfl, by decide +kernel⟩
theorem po_InvalidText : ZX.ParOk (defArgs s_InvalidText___init__) (defScope s_InvalidText___init__) "self" ["given"] := ⟨rfl, by decide +kernel, by decide +kernel, by decide +kernel, fun fd us h hd hl => by
  obtain ⟨⟩ := fd
  cases h
  cases hd
  exact match us, hl with | [_, _], _ => rfl⟩
theorem xm_X_InvalidRatio {l : PySem.W.OpenLaw} {w : World} {K : PySem.W.Frag} {h : Heap} {mg : Str → Option Value} {base : Heap}
    {ai_InvalidRatio : Addr} {ai_WayError : Addr} {C_WayError : Addr} {C_InvalidRatio : Addr}
    (X : K.In h) (G : h.Ns mainGlobals mg)
    (h_InvalidRatio : PySem.W.nsIn K mainGlobals "InvalidRatio" = some (some (.ref C_InvalidRatio)))
    (FN_InvalidRatio : ZX.SupFn l.prog K ai_InvalidRatio C_InvalidRatio "InvalidRatio.__init__" (defArgs s_InvalidRatio___init__) (defBody s_InvalidRatio___init__) (defScope s_InvalidRatio___init__))
    (FN_WayError : ZX.SupFn l.prog K ai_WayError C_WayError "WayError.__init__" (defArgs s_WayError___init__) (defBody s_WayError___init__) (defScope s_WayError___init__))
    (xb_InvalidRatio : xh2B K C_InvalidRatio C_WayError ai_InvalidRatio ai_WayError [.type "ValueError", .type "Exception", .type "BaseException", .type "object"] "ValueError" "ValueError.__new__" "ValueError.__init__" (.ref ai_WayError) ["tag", "value"] = true)
    (b_super : PySem.W.nsIn K mainGlobals "super" = some none)
    (tp_any : PySem.W.nsIn K cStatics "thirdparty.any" = some none)
    (top_super : (l.prog.main.scope.names.lookup ("super" : Str)).isSome = false)
    : XMk l.prog w K mg base "InvalidRatio" C_InvalidRatio 2 "InvalidRatio" ["value"] := by
  have SMk : L2.Mod K mg base → ZX.SupM l.prog K mg base := fun M => ⟨M, PySem.W.mg_none_of X G b_super, top_super, tp_any⟩
  obtain ⟨kc_InvalidRatio, xi_InvalidRatio, xo_InvalidRatio, xk_InvalidRatio, xs_InvalidRatio, xD_InvalidRatio, xI_InvalidRatio, xt_InvalidRatio, xB_InvalidRatio, xR_InvalidRatio, xT_InvalidRatio, xm_InvalidRatio_InvalidRatio, xu_InvalidRatio_InvalidRatio, xm_InvalidRatio_WayError, xu_InvalidRatio_WayError, xg_WayError, xh_WayError, _, _⟩ := xh2_ok xb_InvalidRatio
  have xa_InvalidRatio_tag : PySem.W.findIn K (.ref C_InvalidRatio) "tag" = some none := (xh2_ok xb_InvalidRatio).at_ (by decide +kernel)
  have xa_InvalidRatio_value : PySem.W.findIn K (.ref C_InvalidRatio) "value" = some none := (xh2_ok xb_InvalidRatio).at_ (by decide +kernel)
  have TX_InvalidRatio : ZX.ExC K C_InvalidRatio [.type "ValueError", .type "Exception", .type "BaseException", .type "object"] "ValueError.__new__" := ⟨xi_InvalidRatio, xo_InvalidRatio, xk_InvalidRatio, xs_InvalidRatio⟩
  refine ⟨PySem.W.mg_of X G h_InvalidRatio, kc_InvalidRatio, fun M => ⟨"ValueError", "ValueError.__new__", "ValueError.__init__", _, ai_InvalidRatio, PySem.F.excBase_ValueError, xi_InvalidRatio, xI_InvalidRatio, xt_InvalidRatio, ?_⟩, xB_InvalidRatio, xT_InvalidRatio⟩
  have F2 : ZX.InitOk l.prog w base 1 ai_WayError C_InvalidRatio ZX.G1 := ZX.initBase PySem.W.kxs_ValueError PySem.F.excBase_ValueError PySem.F.store_ValueError (SMk M) FN_WayError ss_WayError TX_InvalidRatio xD_InvalidRatio po_WayError xm_InvalidRatio_WayError xu_InvalidRatio_WayError xR_InvalidRatio xa_InvalidRatio_tag rfl (fun env => ⟨rfl, rfl, ⟨_, rfl⟩⟩) (fun env => rfl) (r0 := (fun v => v "tag")) (r1 := (fun v => v "tag")) (fun env vof h => ZX.Rd1.par (by show env.scope.names.lookup _ = _; rw [h]; rfl) rfl) (fun env vof h => ZX.Rd1.par (by show env.scope.names.lookup _ = _; rw [h]; rfl) rfl) (fun v1 v2 h => h "tag" (by simp))
  have F1 := ZX.initOwn (l := (["value"] : List Str).map fun p => (p, p)) F2 PySem.F.store_ValueError (SMk M) FN_InvalidRatio ss_InvalidRatio TX_InvalidRatio xD_InvalidRatio po_InvalidRatio xm_InvalidRatio_InvalidRatio xu_InvalidRatio_InvalidRatio xg_WayError xh_WayError rfl (fun env => ⟨rfl, rfl, ⟨_, rfl⟩⟩) (r0 := fun _ => V.str "InvalidRatio") (fun env vof h => ZX.Rd1.txt) (fun v1 v2 h => rfl) (fun env h => .cons rfl (by show env.scope.names.lookup _ = _; rw [h]; rfl) rfl (.nil)) (fun fp hm => by
    simp only [List.map_cons, List.map_nil, List.mem_cons, List.not_mem_nil, or_false] at hm
    subst hm; exact ⟨xa_InvalidRatio_value, by simp⟩) (by simp) (fun vs fs h => by unfold ZX.G1 at h; split at h <;> cases h; simp)
  exact F1.cast (fun vs => ZX.own_eq (by decide) vs)
theorem xm_X_InvalidText {l : PySem.W.OpenLaw} {w : World} {K : PySem.W.Frag} {h : Heap} {mg : Str → Option Value} {base : Heap}
    {ai_WayError : Addr} {ai_InvalidText : Addr} {C_WayError : Addr} {C_InvalidText : Addr}
    (X : K.In h) (G : h.Ns mainGlobals mg)
    (h_InvalidText : PySem.W.nsIn K mainGlobals "InvalidText" = some (some (.ref C_InvalidText)))
    (FN_WayError : ZX.SupFn l.prog K ai_WayError C_WayError "WayError.__init__" (defArgs s_WayError___init__) (defBody s_WayError___init__) (defScope s_WayError___init__))
    (FN_InvalidText : ZX.SupFn l.prog K ai_InvalidText C_InvalidText "InvalidText.__init__" (defArgs s_InvalidText___init__) (defBody s_InvalidText___init__) (defScope s_InvalidText___init__))
    (xb_InvalidText : xh2B K C_InvalidText C_WayError ai_InvalidText ai_WayError [.type "ValueError", .type "Exception", .type "BaseException", .type "object"] "ValueError" "ValueError.__new__" "ValueError.__init__" (.ref ai_WayError) ["tag", "given"] = true)
    (b_super : PySem.W.nsIn K mainGlobals "super" = some none)
    (tp_any : PySem.W.nsIn K cStatics "thirdparty.any" = some none)
    (top_super : (l.prog.main.scope.names.lookup ("super" : Str)).isSome = false)
    : XMk l.prog w K mg base "InvalidText" C_InvalidText 2 "InvalidText" ["given"] := by
  have SMk : L2.Mod K mg base → ZX.SupM l.prog K mg base := fun M => ⟨M, PySem.W.mg_none_of X G b_super, top_super, tp_any⟩
  obtain ⟨kc_InvalidText, xi_InvalidText, xo_InvalidText, xk_InvalidText, xs_InvalidText, xD_InvalidText, xI_InvalidText, xt_InvalidText, xB_InvalidText, xR_InvalidText, xT_InvalidText, xm_InvalidText_InvalidText, xu_InvalidText_InvalidText, xm_InvalidText_WayError, xu_InvalidText_WayError, xg_WayError, xh_WayError, _, _⟩ := xh2_ok xb_InvalidText
  have xa_InvalidText_tag : PySem.W.findIn K (.ref C_InvalidText) "tag" = some none := (xh2_ok xb_InvalidText).at_ (by decide +kernel)
  have xa_InvalidText_given : PySem.W.findIn K (.ref C_InvalidText) "given" = some none := (xh2_ok xb_InvalidText).at_ (by decide +kernel)
  have TX_InvalidText : ZX.ExC K C_InvalidText [.type "ValueError", .type "Exception", .type "BaseException", .type "object"] "ValueError.__new__" := ⟨xi_InvalidText, xo_InvalidText, xk_InvalidText, xs_InvalidText⟩
  refine ⟨PySem.W.mg_of X G h_InvalidText, kc_InvalidText, fun M => ⟨"ValueError", "ValueError.__new__", "ValueError.__init__", _, ai_InvalidText, PySem.F.excBase_ValueError, xi_InvalidText, xI_InvalidText, xt_InvalidText, ?_⟩, xB_InvalidText, xT_InvalidText⟩
  have F2 : ZX.InitOk l.prog w base 1 ai_WayError C_InvalidText ZX.G1 := ZX.initBase PySem.W.kxs_ValueError PySem.F.excBase_ValueError PySem.F.store_ValueError (SMk M) FN_WayError ss_WayError TX_InvalidText xD_InvalidText po_WayError xm_InvalidText_WayError xu_InvalidText_WayError xR_InvalidText xa_InvalidText_tag rfl (fun env => ⟨rfl, rfl, ⟨_, rfl⟩⟩) (fun env => rfl) (r0 := (fun v => v "tag")) (r1 := (fun v => v "tag")) (fun env vof h => ZX.Rd1.par (by show env.scope.names.lookup _ = _; rw [h]; rfl) rfl) (fun env vof h => ZX.Rd1.par (by show env.scope.names.lookup _ = _; rw [h]; rfl) rfl) (fun v1 v2 h => h "tag" (by simp))
  have F1 := ZX.initOwn (l := (["given"] : List Str).map fun p => (p, p)) F2 PySem.F.store_ValueError (SMk M) FN_InvalidText ss_InvalidText TX_InvalidText xD_InvalidText po_InvalidText xm_InvalidText_InvalidText xu_InvalidText_InvalidText xg_WayError xh_WayError rfl (fun env => ⟨rfl, rfl, ⟨_, rfl⟩⟩) (r0 := fun _ => V.str "InvalidText") (fun env vof h => ZX.Rd1.txt) (fun v1 v2 h => rfl) (fun env h => .cons rfl (by show env.scope.names.lookup _ = _; rw [h]; rfl) rfl (.nil)) (fun fp hm => by
    simp only [List.map_cons, List.map_nil, List.mem_cons, List.not_mem_nil, or_false] at hm
    subst hm; exact ⟨xa_InvalidText_given, by simp⟩) (by simp) (fun vs fs h => by unfold ZX.G1 at h; split at h <;> cases h; simp)
  exact F1.cast (fun vs => ZX.own_eq (by decide) vs)
theorem all_mk {l : PySem.W.OpenLaw} {w : World} {K : PySem.W.Frag} {h : Heap} {mg : Str → Option Value} {fa a_common_divisor a_is_whole a_is_digits a_is_signed a__law_bag a__law_gcd a__law_frac a__law_frac_text a__law_pick a__law_of a__law_pair a__law_reader a__law_same a__law_field a__law_why a__law_whys a_law C_Ratio a_Ratio___init__ a_Ratio_text a_Ratio_read a_Ratio_bottom a_Ratio_top p_Ratio_read p_Ratio_bottom p_Ratio_top C_WayError C_Missing C_InvalidRatio C_InvalidText C_NothingLeft : Addr} (law_ok : ∀ (Ps : Nat → Addr) (ns : List Int), ns.length ≤ 63 → (∀ z ∈ ns, Builtin.Int.intBits z ≤ 1048576) → ∀ (κ : List (Str × Addr)), ∃ S, defS 12 (m_law Ps κ) [.scr ns] (tabsOf [(Ps 0, "_law_reader.<locals>.<lambda>"), (Ps 1, "law.<locals>.<lambda>")]) = .ok (.bl true) S) (X : K.In h) (G : h.Ns mainGlobals mg) (hfa : mg "law" = some (.ref fa))
    {fdv_common_divisor : FuncData}
    {fdv_is_whole : FuncData}
    {fdv_Ratio___init__ : FuncData}
    {fdv_Ratio_text : FuncData}
    {fdv_is_digits : FuncData}
    {fdv_is_signed : FuncData}
    {fdv_Ratio_read : FuncData}
    {fdv__law_bag : FuncData}
    {fdv__law_gcd : FuncData}
    {fdv__law_frac : FuncData}
    {fdv__law_frac_text : FuncData}
    {fdv__law_pick : FuncData}
    {fdv__law_of : FuncData}
    {fdv_Ratio_bottom : FuncData}
    {pr_Ratio_bottom : List Value}
    {fdv_Ratio_top : FuncData}
    {pr_Ratio_top : List Value}
    {fdv__law_pair : FuncData}
    {fdv__law_reader : FuncData}
    {fdv__law_same : FuncData}
    {fdv__law_field : FuncData}
    {fdv__law_why : FuncData}
    {fdv__law_whys : FuncData}
    {fdv_law : FuncData}
    {ai_InvalidRatio : Addr}
    {ai_WayError : Addr}
    {ai_InvalidText : Addr}
    {cb__law_reader P__law_reader : Addr}
    {cb_law P_law : Addr}
    (h_Ratio : PySem.W.nsIn K mainGlobals "Ratio" = some (some (.ref C_Ratio)))
    (pg_Ratio : PySem.W.plainGet K C_Ratio Str.empty = true)
    (hd_Ratio : PySem.W.hasDictIn K C_Ratio = true)
    (po_Ratio : PySem.W.plainOver K C_Ratio = true)
    (sa_Ratio : PySem.W.findIn K (.ref C_Ratio) "__setattr__" = some (some (.builtin "object.__setattr__")))
    (mk_Ratio : PySem.W.makesIn K C_Ratio = true)
    (kc_Ratio : PySem.W.keepIn K (.ref C_Ratio) = true)
    (in_Ratio : PySem.W.findIn K (.ref C_Ratio) "__init__" = some (some (.ref a_Ratio___init__)))
    (na_Ratio_own_bottom : PySem.W.findIn K (.ref C_Ratio) "own_bottom" = some none)
    (na_Ratio_own_top : PySem.W.findIn K (.ref C_Ratio) "own_top" = some none)
    (fd_Ratio_text : PySem.W.findIn K (.ref C_Ratio) "text" = some (some (.ref a_Ratio_text)))
    (ca_Ratio : PySem.W.findIn K (.ref C_Ratio) "__class__" = some (some (.builtin "object.__class__")))
    (ob_Ratio : PySem.W.mroIn K C_Ratio (.type "object") = some true)
    (fp_Ratio_bottom : PySem.W.findIn K (.ref C_Ratio) "bottom" = some (some (.ref p_Ratio_bottom)))
    (fp_Ratio_top : PySem.W.findIn K (.ref C_Ratio) "top" = some (some (.ref p_Ratio_top)))
    (sb_Ratio_read : smB K C_Ratio p_Ratio_read a_Ratio_read "read" = true)
    (kt_Ratio_Ratio : PySem.W.kitOne K (.ref C_Ratio) (.ref C_Ratio) = some true)
    (tyc_Ratio : ((PySem.W.clsIn K C_Ratio).isSome && PySem.W.typeIn K (.ref C_Ratio) == some (.type "type")) = true)
    (h_common_divisor : PySem.W.nsIn K mainGlobals "common_divisor" = some (some (.ref a_common_divisor)))
    (F_common_divisor : FunD K "common_divisor" "common_divisor" (defArgs s_common_divisor) (defBody s_common_divisor) (defScope s_common_divisor) [] [] a_common_divisor fdv_common_divisor)
    (h_is_whole : PySem.W.nsIn K mainGlobals "is_whole" = some (some (.ref a_is_whole)))
    (F_is_whole : FunD K "is_whole" "is_whole" (defArgs s_is_whole) (defBody s_is_whole) (defScope s_is_whole) [] [] a_is_whole fdv_is_whole)
    (i_Ratio___init__ : PySem.W.isFn K (.ref a_Ratio___init__) = true)
    (F_Ratio___init__ : FunD K "__init__" "Ratio.__init__" (defArgs s_Ratio___init__) (defBody s_Ratio___init__) (defScope s_Ratio___init__) [(V.int 1)] [] a_Ratio___init__ fdv_Ratio___init__)
    (i_Ratio_text : PySem.W.isFn K (.ref a_Ratio_text) = true)
    (F_Ratio_text : FunD K "text" "Ratio.text" (defArgs s_Ratio_text) (defBody s_Ratio_text) (defScope s_Ratio_text) [] [] a_Ratio_text fdv_Ratio_text)
    (h_is_digits : PySem.W.nsIn K mainGlobals "is_digits" = some (some (.ref a_is_digits)))
    (F_is_digits : FunD K "is_digits" "is_digits" (defArgs s_is_digits) (defBody s_is_digits) (defScope s_is_digits) [] [] a_is_digits fdv_is_digits)
    (h_is_signed : PySem.W.nsIn K mainGlobals "is_signed" = some (some (.ref a_is_signed)))
    (F_is_signed : FunD K "is_signed" "is_signed" (defArgs s_is_signed) (defBody s_is_signed) (defScope s_is_signed) [] [] a_is_signed fdv_is_signed)
    (i_Ratio_read : PySem.W.isFn K (.ref a_Ratio_read) = true)
    (F_Ratio_read : FunD K "read" "Ratio.read" (defArgs s_Ratio_read) (defBody s_Ratio_read) (defScope s_Ratio_read) [] [] a_Ratio_read fdv_Ratio_read)
    (h__law_bag : PySem.W.nsIn K mainGlobals "_law_bag" = some (some (.ref a__law_bag)))
    (F__law_bag : FunD K "_law_bag" "_law_bag" (defArgs s__law_bag) (defBody s__law_bag) (defScope s__law_bag) [] [] a__law_bag fdv__law_bag)
    (h__law_gcd : PySem.W.nsIn K mainGlobals "_law_gcd" = some (some (.ref a__law_gcd)))
    (F__law_gcd : FunD K "_law_gcd" "_law_gcd" (defArgs s__law_gcd) (defBody s__law_gcd) (defScope s__law_gcd) [] [] a__law_gcd fdv__law_gcd)
    (h__law_frac : PySem.W.nsIn K mainGlobals "_law_frac" = some (some (.ref a__law_frac)))
    (F__law_frac : FunD K "_law_frac" "_law_frac" (defArgs s__law_frac) (defBody s__law_frac) (defScope s__law_frac) [] [] a__law_frac fdv__law_frac)
    (h__law_frac_text : PySem.W.nsIn K mainGlobals "_law_frac_text" = some (some (.ref a__law_frac_text)))
    (F__law_frac_text : FunD K "_law_frac_text" "_law_frac_text" (defArgs s__law_frac_text) (defBody s__law_frac_text) (defScope s__law_frac_text) [] [] a__law_frac_text fdv__law_frac_text)
    (h__law_pick : PySem.W.nsIn K mainGlobals "_law_pick" = some (some (.ref a__law_pick)))
    (F__law_pick : FunD K "_law_pick" "_law_pick" (defArgs s__law_pick) (defBody s__law_pick) (defScope s__law_pick) [] [] a__law_pick fdv__law_pick)
    (h__law_of : PySem.W.nsIn K mainGlobals "_law_of" = some (some (.ref a__law_of)))
    (F__law_of : FunD K "_law_of" "_law_of" (defArgs s__law_of) (defBody s__law_of) (defScope s__law_of) [] [] a__law_of fdv__law_of)
    (pg_Ratio_bottom : PySem.W.specialIn K (.ref p_Ratio_bottom) "__get__" = some (some (.builtin "property.__get__")))
    (pt_Ratio_bottom : PySem.W.takesIn K (.ref p_Ratio_bottom) = some true)
    (pp_Ratio_bottom : PySem.W.recIn K p_Ratio_bottom "property" = some (.ref a_Ratio_bottom :: pr_Ratio_bottom))
    (i_Ratio_bottom : PySem.W.isFn K (.ref a_Ratio_bottom) = true)
    (F_Ratio_bottom : FunD K "bottom" "Ratio.bottom" (defArgs s_Ratio_bottom) (defBody s_Ratio_bottom) (defScope s_Ratio_bottom) [] [] a_Ratio_bottom fdv_Ratio_bottom)
    (pg_Ratio_top : PySem.W.specialIn K (.ref p_Ratio_top) "__get__" = some (some (.builtin "property.__get__")))
    (pt_Ratio_top : PySem.W.takesIn K (.ref p_Ratio_top) = some true)
    (pp_Ratio_top : PySem.W.recIn K p_Ratio_top "property" = some (.ref a_Ratio_top :: pr_Ratio_top))
    (i_Ratio_top : PySem.W.isFn K (.ref a_Ratio_top) = true)
    (F_Ratio_top : FunD K "top" "Ratio.top" (defArgs s_Ratio_top) (defBody s_Ratio_top) (defScope s_Ratio_top) [] [] a_Ratio_top fdv_Ratio_top)
    (h__law_pair : PySem.W.nsIn K mainGlobals "_law_pair" = some (some (.ref a__law_pair)))
    (F__law_pair : FunD K "_law_pair" "_law_pair" (defArgs s__law_pair) (defBody s__law_pair) (defScope s__law_pair) [] [] a__law_pair fdv__law_pair)
    (h__law_reader : PySem.W.nsIn K mainGlobals "_law_reader" = some (some (.ref a__law_reader)))
    (F__law_reader : FunD K "_law_reader" "_law_reader" (defArgs s__law_reader) (defBody s__law_reader) (defScope s__law_reader) [] [] a__law_reader fdv__law_reader)
    (h__law_same : PySem.W.nsIn K mainGlobals "_law_same" = some (some (.ref a__law_same)))
    (F__law_same : FunD K "_law_same" "_law_same" (defArgs s__law_same) (defBody s__law_same) (defScope s__law_same) [] [] a__law_same fdv__law_same)
    (h__law_field : PySem.W.nsIn K mainGlobals "_law_field" = some (some (.ref a__law_field)))
    (F__law_field : FunD K "_law_field" "_law_field" (defArgs s__law_field) (defBody s__law_field) (defScope s__law_field) [] [] a__law_field fdv__law_field)
    (h__law_why : PySem.W.nsIn K mainGlobals "_law_why" = some (some (.ref a__law_why)))
    (F__law_why : FunD K "_law_why" "_law_why" (defArgs s__law_why) (defBody s__law_why) (defScope s__law_why) [] [] a__law_why fdv__law_why)
    (h__law_whys : PySem.W.nsIn K mainGlobals "_law_whys" = some (some (.ref a__law_whys)))
    (F__law_whys : FunD K "_law_whys" "_law_whys" (defArgs s__law_whys) (defBody s__law_whys) (defScope s__law_whys) [] [] a__law_whys fdv__law_whys)
    (h_law : PySem.W.nsIn K mainGlobals "law" = some (some (.ref a_law)))
    (F_law : FunD K "law" "law" (defArgs s_law) (defBody s_law) (defScope s_law) [] [] a_law fdv_law)
    (h_WayError : PySem.W.nsIn K mainGlobals "WayError" = some (some (.ref C_WayError)))
    (h_Missing : PySem.W.nsIn K mainGlobals "Missing" = some (some (.ref C_Missing)))
    (h_InvalidRatio : PySem.W.nsIn K mainGlobals "InvalidRatio" = some (some (.ref C_InvalidRatio)))
    (h_InvalidText : PySem.W.nsIn K mainGlobals "InvalidText" = some (some (.ref C_InvalidText)))
    (h_NothingLeft : PySem.W.nsIn K mainGlobals "NothingLeft" = some (some (.ref C_NothingLeft)))
    (tr_InvalidRatio_WayError_Missing_NothingLeft : PySem.W.exmAny K (.ref C_InvalidRatio) [.ref C_WayError, .ref C_Missing, .ref C_NothingLeft] = some true)
    (tr_InvalidText_WayError_Missing_NothingLeft : PySem.W.exmAny K (.ref C_InvalidText) [.ref C_WayError, .ref C_Missing, .ref C_NothingLeft] = some true)
    (xj_InvalidRatio : PySem.W.findIn K (.ref C_InvalidRatio) "__init__" = some (some (.ref ai_InvalidRatio)))
    (FN_InvalidRatio : ZX.SupFn l.prog K ai_InvalidRatio C_InvalidRatio "InvalidRatio.__init__" (defArgs s_InvalidRatio___init__) (defBody s_InvalidRatio___init__) (defScope s_InvalidRatio___init__))
    (xj_WayError : PySem.W.findIn K (.ref C_WayError) "__init__" = some (some (.ref ai_WayError)))
    (FN_WayError : ZX.SupFn l.prog K ai_WayError C_WayError "WayError.__init__" (defArgs s_WayError___init__) (defBody s_WayError___init__) (defScope s_WayError___init__))
    (xj_InvalidText : PySem.W.findIn K (.ref C_InvalidText) "__init__" = some (some (.ref ai_InvalidText)))
    (FN_InvalidText : ZX.SupFn l.prog K ai_InvalidText C_InvalidText "InvalidText.__init__" (defArgs s_InvalidText___init__) (defBody s_InvalidText___init__) (defScope s_InvalidText___init__))
    (xb_InvalidRatio : xh2B K C_InvalidRatio C_WayError ai_InvalidRatio ai_WayError [.type "ValueError", .type "Exception", .type "BaseException", .type "object"] "ValueError" "ValueError.__new__" "ValueError.__init__" (.ref ai_WayError) ["tag", "value"] = true)
    (xb_InvalidText : xh2B K C_InvalidText C_WayError ai_InvalidText ai_WayError [.type "ValueError", .type "Exception", .type "BaseException", .type "object"] "ValueError" "ValueError.__new__" "ValueError.__init__" (.ref ai_WayError) ["tag", "given"] = true)
    (b_super : PySem.W.nsIn K mainGlobals "super" = some none)
    (tp_any : PySem.W.nsIn K cStatics "thirdparty.any" = some none)
    (top_super : (l.prog.main.scope.names.lookup ("super" : Str)).isSome = false)
    (h_DIGITS : ∃ t, mg "DIGITS" = some (.str "0123456789" t))
    (h_MOST_DIGITS : ∃ t, mg "MOST_DIGITS" = some (.int 30 t))
    (b_abs : PySem.W.nsIn K mainGlobals "abs" = some none)
    (b_all : PySem.W.nsIn K mainGlobals "all" = some none)
    (b_bool : PySem.W.nsIn K mainGlobals "bool" = some none)
    (b_int : PySem.W.nsIn K mainGlobals "int" = some none)
    (b_isinstance : PySem.W.nsIn K mainGlobals "isinstance" = some none)
    (b_len : PySem.W.nsIn K mainGlobals "len" = some none)
    (b_list : PySem.W.nsIn K mainGlobals "list" = some none)
    (b_range : PySem.W.nsIn K mainGlobals "range" = some none)
    (b_str : PySem.W.nsIn K mainGlobals "str" = some none)
    (b_tuple : PySem.W.nsIn K mainGlobals "tuple" = some none)
    (b_zip : PySem.W.nsIn K mainGlobals "zip" = some none)
    (te__law_reader : fdv__law_reader.code = .ref cb__law_reader)
    (th__law_reader : PySem.W.codeHdIn K cb__law_reader P__law_reader = true)
    (tn__law_reader : K.lookup P__law_reader = none)
    (tm__law_reader : h.get? P__law_reader = some { cls := .none, data := .fields #[] })
    (te_law : fdv_law.code = .ref cb_law)
    (th_law : PySem.W.codeHdIn K cb_law P_law = true)
    (tn_law : K.lookup P_law = none)
    (tm_law : h.get? P_law = some { cls := .none, data := .fields #[] })
    (t_nd : [P__law_reader, P_law].Nodup)
    : LamX.LawAtS l w K (Z.CX l.prog w) 14 63 "_law_script" mg fa h := by
  have e := hfa.symm.trans (PySem.W.mg_of X G h_law)
  have e2 : a_law = fa := by injection e with e; injection e with e; exact e.symm
  subst e2
  have T : Tx K mg a_common_divisor a_is_whole a_is_digits a_is_signed a__law_bag a__law_gcd a__law_frac a__law_frac_text a__law_pick a__law_of a__law_pair a__law_reader a__law_same a__law_field a__law_why a__law_whys a_law C_Ratio a_Ratio___init__ a_Ratio_text a_Ratio_read a_Ratio_bottom a_Ratio_top p_Ratio_read p_Ratio_bottom p_Ratio_top C_WayError C_Missing C_InvalidRatio C_InvalidText C_NothingLeft := { m_common_divisor := PySem.W.mg_of X G h_common_divisor, k_common_divisor := F_common_divisor.kp, m_is_whole := PySem.W.mg_of X G h_is_whole, k_is_whole := F_is_whole.kp, m_is_digits := PySem.W.mg_of X G h_is_digits, k_is_digits := F_is_digits.kp, m_is_signed := PySem.W.mg_of X G h_is_signed, k_is_signed := F_is_signed.kp, m__law_bag := PySem.W.mg_of X G h__law_bag, k__law_bag := F__law_bag.kp, m__law_gcd := PySem.W.mg_of X G h__law_gcd, k__law_gcd := F__law_gcd.kp, m__law_frac := PySem.W.mg_of X G h__law_frac, k__law_frac := F__law_frac.kp, m__law_frac_text := PySem.W.mg_of X G h__law_frac_text, k__law_frac_text := F__law_frac_text.kp, m__law_pick := PySem.W.mg_of X G h__law_pick, k__law_pick := F__law_pick.kp, m__law_of := PySem.W.mg_of X G h__law_of, k__law_of := F__law_of.kp, m__law_pair := PySem.W.mg_of X G h__law_pair, k__law_pair := F__law_pair.kp, m__law_reader := PySem.W.mg_of X G h__law_reader, k__law_reader := F__law_reader.kp, m__law_same := PySem.W.mg_of X G h__law_same, k__law_same := F__law_same.kp, m__law_field := PySem.W.mg_of X G h__law_field, k__law_field := F__law_field.kp, m__law_why := PySem.W.mg_of X G h__law_why, k__law_why := F__law_why.kp, m__law_whys := PySem.W.mg_of X G h__law_whys, k__law_whys := F__law_whys.kp, m_law := PySem.W.mg_of X G h_law, k_law := F_law.kp, m_Ratio := PySem.W.mg_of X G h_Ratio, cl_Ratio := ⟨pg_Ratio, hd_Ratio, po_Ratio, sa_Ratio⟩, mk_Ratio := ⟨mk_Ratio, in_Ratio, i_Ratio___init__, kc_Ratio⟩, na_Ratio_own_bottom := na_Ratio_own_bottom, na_Ratio_own_top := na_Ratio_own_top, me_Ratio_text := ⟨fd_Ratio_text, i_Ratio_text, F_Ratio_text.kp⟩, it_Ratio := ⟨⟨pg_Ratio, hd_Ratio, po_Ratio, sa_Ratio⟩, ca_Ratio, ob_Ratio⟩, pr_Ratio_bottom := ⟨fp_Ratio_bottom, pg_Ratio_bottom, pt_Ratio_bottom, ⟨_, pp_Ratio_bottom⟩⟩, pr_Ratio_top := ⟨fp_Ratio_top, pg_Ratio_top, pt_Ratio_top, ⟨_, pp_Ratio_top⟩⟩, sm_Ratio_read := sm_ok sb_Ratio_read, kt_Ratio_Ratio := kt_Ratio_Ratio, ty_Ratio := tyc_Ratio, m_WayError := PySem.W.mg_of X G h_WayError, m_Missing := PySem.W.mg_of X G h_Missing, m_InvalidRatio := PySem.W.mg_of X G h_InvalidRatio, m_InvalidText := PySem.W.mg_of X G h_InvalidText, m_NothingLeft := PySem.W.mg_of X G h_NothingLeft, xf_InvalidRatio := (xh2_ok xb_InvalidRatio).xf, xn_InvalidRatio_tag := (xh2_ok xb_InvalidRatio).at_ (by decide +kernel), xn_InvalidRatio_value := (xh2_ok xb_InvalidRatio).at_ (by decide +kernel), xf_InvalidText := (xh2_ok xb_InvalidText).xf, xn_InvalidText_given := (xh2_ok xb_InvalidText).at_ (by decide +kernel), xn_InvalidText_tag := (xh2_ok xb_InvalidText).at_ (by decide +kernel), tr_InvalidRatio_WayError_Missing_NothingLeft := tr_InvalidRatio_WayError_Missing_NothingLeft, tr_InvalidText_WayError_Missing_NothingLeft := tr_InvalidText_WayError_Missing_NothingLeft, c_DIGITS := h_DIGITS, c_MOST_DIGITS := h_MOST_DIGITS, b_abs := PySem.W.mg_none_of X G b_abs, b_all := PySem.W.mg_none_of X G b_all, b_bool := PySem.W.mg_none_of X G b_bool, b_int := PySem.W.mg_none_of X G b_int, b_isinstance := PySem.W.mg_none_of X G b_isinstance, b_len := PySem.W.mg_none_of X G b_len, b_list := PySem.W.mg_none_of X G b_list, b_range := PySem.W.mg_none_of X G b_range, b_str := PySem.W.mg_none_of X G b_str, b_tuple := PySem.W.mg_none_of X G b_tuple, b_zip := PySem.W.mg_none_of X G b_zip }
  have F__law_field := He5.fun_of F__law_field
  have hbl : ∀ (s : Shared) (v : Value), BindsTo s fdv_law ⟨[v], []⟩ [("_law_script", v)] := fun s v => (FunD.bindsA (ps := ["_law_script"]) F_law fun _ _ _ _ _ _ us hl => match us, hl with | [_], _ => rfl) s [v] rfl
  let Ps : Nat → Addr := (fun i => [P__law_reader, P_law].getD i 0)
  have hcs : ∀ p ∈ [(cb__law_reader, P__law_reader), (cb_law, P_law)], h.get? p.2 = some { cls := .none, data := .fields #[] } ∧ K.lookup p.2 = none ∧ PySem.W.CodeHd h p.1 p.2 := by
    intro p hp
    simp only [List.mem_cons, List.not_mem_nil, or_false] at hp
    rcases hp with rfl | rfl
    · exact ⟨tm__law_reader, tn__law_reader, PySem.W.codeHd_of_K X th__law_reader⟩
    · exact ⟨tm_law, tn_law, PySem.W.codeHd_of_K X th_law⟩
  refine ⟨fdv_law, [(cb__law_reader, P__law_reader), (cb_law, P_law)], (fun vs H Q E => ∀ κ, spOf K mg 1 (defS 12 (m_law Ps κ)) vs H Q E), fun p hp => (hcs p hp).1, fun p hp => (hcs p hp).2.1, fun p hp => (hcs p hp).2.2, hbl, fun H a ns hl hbits hP hS κ => ?_, fun base hKb _ hTB => ?_⟩
  · refine law_startT (cs := [(Ps 0, "_law_reader.<locals>.<lambda>"), (Ps 1, "law.<locals>.<lambda>")]) t_nd (fun c hc => ?_) hS (law_ok Ps ns hl hbits κ)
    simp only [List.mem_cons, List.not_mem_nil, or_false] at hc
    rcases hc with rfl | rfl
    · exact hP (cb__law_reader, P__law_reader) (by simp)
    · exact hP (cb_law, P_law) (by simp)
  · have X_InvalidRatio := xm_X_InvalidRatio (l := l) (w := w) (base := base) X G h_InvalidRatio FN_InvalidRatio FN_WayError xb_InvalidRatio b_super tp_any top_super
    have X_InvalidText := xm_X_InvalidText (l := l) (w := w) (base := base) X G h_InvalidText FN_WayError FN_InvalidText xb_InvalidText b_super tp_any top_super
    have O_common_divisor := o_common_divisor (P := l.prog) (w := w) (base := base) T F_common_divisor 
    have Z_common_divisor := d_common_divisor F_common_divisor O_common_divisor
    have O_is_whole := o_is_whole (P := l.prog) (w := w) (base := base) T F_is_whole 
    have Z_is_whole := d_is_whole F_is_whole O_is_whole
    have O_Ratio___init__ := o_Ratio___init__ (P := l.prog) (w := w) (base := base) T F_Ratio___init__ Z_common_divisor Z_is_whole X_InvalidRatio
    have Z_Ratio___init__ := d_Ratio___init__ F_Ratio___init__ O_Ratio___init__
    have O_Ratio_text := o_Ratio_text (P := l.prog) (w := w) (base := base) T F_Ratio_text 
    have Z_Ratio_text := d_Ratio_text F_Ratio_text O_Ratio_text
    have O_is_digits := o_is_digits (P := l.prog) (w := w) (base := base) T F_is_digits 
    have Z_is_digits := d_is_digits F_is_digits O_is_digits
    have O_is_signed := o_is_signed (P := l.prog) (w := w) (base := base) T F_is_signed Z_is_digits
    have Z_is_signed := d_is_signed F_is_signed O_is_signed
    have O_Ratio_read := o_Ratio_read (P := l.prog) (w := w) (base := base) T F_Ratio_read Z_Ratio___init__ Z_Ratio_text Z_is_digits Z_is_signed X_InvalidText
    have Z_Ratio_read := d_Ratio_read F_Ratio_read O_Ratio_read
    have ZK_Ratio_read_0 := dk_Ratio_read_0 F_Ratio_read O_Ratio_read
    have O__law_bag := o__law_bag (P := l.prog) (w := w) (base := base) T F__law_bag 
    have Z__law_bag := d__law_bag F__law_bag O__law_bag
    have O__law_gcd := o__law_gcd (P := l.prog) (w := w) (base := base) T F__law_gcd 
    have Z__law_gcd := d__law_gcd F__law_gcd O__law_gcd
    have O__law_frac := o__law_frac (P := l.prog) (w := w) (base := base) T F__law_frac Z__law_gcd
    have Z__law_frac := d__law_frac F__law_frac O__law_frac
    have O__law_frac_text := o__law_frac_text (P := l.prog) (w := w) (base := base) T F__law_frac_text 
    have Z__law_frac_text := d__law_frac_text F__law_frac_text O__law_frac_text
    have O__law_pick := o__law_pick (P := l.prog) (w := w) (base := base) T F__law_pick 
    have Z__law_pick := d__law_pick F__law_pick O__law_pick
    have O__law_of := o__law_of (P := l.prog) (w := w) (base := base) T F__law_of Z__law_pick
    have Z__law_of := d__law_of F__law_of O__law_of
    have O_Ratio_bottom := o_Ratio_bottom (P := l.prog) (w := w) (base := base) T F_Ratio_bottom 
    have Z_Ratio_bottom := d_Ratio_bottom F_Ratio_bottom O_Ratio_bottom
    have O_Ratio_top := o_Ratio_top (P := l.prog) (w := w) (base := base) T F_Ratio_top 
    have Z_Ratio_top := d_Ratio_top F_Ratio_top O_Ratio_top
    have O__law_pair := o__law_pair (P := l.prog) (w := w) (base := base) T F__law_pair Z_Ratio_bottom Z_Ratio_top
    have Z__law_pair := d__law_pair F__law_pair O__law_pair
    have Z__law_reader := d__law_reader (P := l.prog) (w := w) (base := base) Ps T F__law_reader (hTB (cb__law_reader, P__law_reader) (by simp)) te__law_reader
    have Z__law_same := d__law_same (P := l.prog) (w := w) (base := base) T F__law_same  12
    have Z__law_field := d__law_field (P := l.prog) (w := w) (base := base) T F__law_field 
    have HL : LOk l.prog w K mg base 7 (lamTab Ps) := lok_cons (lo_law_0 T Z_Ratio_read ZK_Ratio_read_0) (by omega) (lok_cons (lo__law_reader_0 T Z_Ratio_read) (by omega) (lok_nil))
    have O__law_why := o__law_why (P := l.prog) (w := w) (base := base) Ps T F__law_why Z_Ratio_read Z__law_field HL
    have Z__law_why := d__law_why Ps F__law_why O__law_why
    have O__law_whys := o__law_whys (P := l.prog) (w := w) (base := base) Ps T F__law_whys Z__law_why
    have Z__law_whys := d__law_whys Ps F__law_whys O__law_whys
    exact o_law (P := l.prog) (w := w) (base := base) Ps T F_law (hTB (cb_law, P_law) (by simp)) te_law Z_Ratio_read Z__law_bag Z__law_frac Z__law_frac_text Z__law_of Z__law_pair Z__law_pick Z__law_reader Z__law_same Z__law_why Z__law_whys
theorem end_ {w : World} {K : PySem.W.Frag} {h : Heap} {mg : Str → Option Value} {fa : Addr} (law_ok : ∀ (Ps : Nat → Addr) (ns : List Int), ns.length ≤ 63 → (∀ z ∈ ns, Builtin.Int.intBits z ≤ 1048576) → ∀ (κ : List (Str × Addr)), ∃ S, defS 12 (m_law Ps κ) [.scr ns] (tabsOf [(Ps 0, "_law_reader.<locals>.<lambda>"), (Ps 1, "law.<locals>.<lambda>")]) = .ok (.bl true) S) (X : K.In h) (G : h.Ns mainGlobals mg) (hfa : mg "law" = some (.ref fa)) (c : ZK.SaysZ fnL fsL tfL exK h K) : LamX.LawAtS PySem.Challenge.rw_waysagree_k04_texts_of_ratios w K (Z.CX PySem.Challenge.rw_waysagree_k04_texts_of_ratios.prog w) 14 63 "_law_script" mg fa h := by
  obtain ⟨fdv_common_divisor, z_F_common_divisor⟩ := c.def_ 0 (d := fD_0)
  obtain ⟨fdv_is_whole, z_F_is_whole⟩ := c.def_ 1 (d := fD_1)
  obtain ⟨fdv_Ratio___init__, z_F_Ratio___init__⟩ := c.def_ 2 (d := fD_2)
  obtain ⟨fdv_Ratio_text, z_F_Ratio_text⟩ := c.def_ 3 (d := fD_3)
  obtain ⟨fdv_is_digits, z_F_is_digits⟩ := c.def_ 4 (d := fD_4)
  obtain ⟨fdv_is_signed, z_F_is_signed⟩ := c.def_ 5 (d := fD_5)
  obtain ⟨fdv_Ratio_read, z_F_Ratio_read⟩ := c.def_ 6 (d := fD_6)
  obtain ⟨fdv__law_bag, z_F__law_bag⟩ := c.def_ 7 (d := fD_7)
  obtain ⟨fdv__law_gcd, z_F__law_gcd⟩ := c.def_ 8 (d := fD_8)
  obtain ⟨fdv__law_frac, z_F__law_frac⟩ := c.def_ 9 (d := fD_9)
  obtain ⟨fdv__law_frac_text, z_F__law_frac_text⟩ := c.def_ 10 (d := fD_10)
  obtain ⟨fdv__law_pick, z_F__law_pick⟩ := c.def_ 11 (d := fD_11)
  obtain ⟨fdv__law_of, z_F__law_of⟩ := c.def_ 12 (d := fD_12)
  obtain ⟨fdv_Ratio_bottom, z_F_Ratio_bottom⟩ := c.def_ 13 (d := fD_13)
  obtain ⟨fdv_Ratio_top, z_F_Ratio_top⟩ := c.def_ 14 (d := fD_14)
  obtain ⟨fdv__law_pair, z_F__law_pair⟩ := c.def_ 15 (d := fD_15)
  obtain ⟨fdv__law_reader, z_F__law_reader⟩ := c.def_ 16 (d := fD_16)
  obtain ⟨fdv__law_same, z_F__law_same⟩ := c.def_ 17 (d := fD_17)
  obtain ⟨fdv__law_field, z_F__law_field⟩ := c.def_ 18 (d := fD_18)
  obtain ⟨fdv__law_why, z_F__law_why⟩ := c.def_ 19 (d := fD_19)
  obtain ⟨fdv__law_whys, z_F__law_whys⟩ := c.def_ 20 (d := fD_20)
  obtain ⟨fdv_law, z_F_law⟩ := c.def_ 21 (d := fD_21)
  have c0 := c.more
  obtain ⟨c1, c0⟩ := He.ba (show (_ && _) = true from c0)
  obtain ⟨z_h_Ratio, c1⟩ := He.ba (show (_ && _) = true from c1)
  obtain ⟨z_pg_Ratio, c1⟩ := He.ba (show (_ && _) = true from c1)
  obtain ⟨z_hd_Ratio, c1⟩ := He.ba (show (_ && _) = true from c1)
  obtain ⟨z_po_Ratio, c1⟩ := He.ba (show (_ && _) = true from c1)
  obtain ⟨z_sa_Ratio, c1⟩ := He.ba (show (_ && _) = true from c1)
  obtain ⟨z_mk_Ratio, c1⟩ := He.ba (show (_ && _) = true from c1)
  obtain ⟨z_kc_Ratio, c1⟩ := He.ba (show (_ && _) = true from c1)
  obtain ⟨z_in_Ratio, c1⟩ := He.ba (show (_ && _) = true from c1)
  obtain ⟨z_na_Ratio_own_bottom, c1⟩ := He.ba (show (_ && _) = true from c1)
  obtain ⟨z_na_Ratio_own_top, c1⟩ := He.ba (show (_ && _) = true from c1)
  obtain ⟨z_fd_Ratio_text, c1⟩ := He.ba (show (_ && _) = true from c1)
  obtain ⟨z_ca_Ratio, c1⟩ := He.ba (show (_ && _) = true from c1)
  obtain ⟨z_ob_Ratio, c1⟩ := He.ba (show (_ && _) = true from c1)
  obtain ⟨z_fp_Ratio_bottom, c1⟩ := He.ba (show (_ && _) = true from c1)
  obtain ⟨z_fp_Ratio_top, c1⟩ := He.ba (show (_ && _) = true from c1)
  obtain ⟨z_sb_Ratio_read, c1⟩ := He.ba (show (_ && _) = true from c1)
  obtain ⟨z_kt_Ratio_Ratio, c1⟩ := He.ba (show (_ && _) = true from c1)
  obtain ⟨z_tyc_Ratio, c1⟩ := He.ba (show (_ && _) = true from c1)
  obtain ⟨z_h_common_divisor, c1⟩ := He.ba (show (_ && _) = true from c1)
  obtain ⟨z_h_is_whole, c1⟩ := He.ba (show (_ && _) = true from c1)
  obtain ⟨c1, c0⟩ := He.ba (show (_ && _) = true from c0)
  obtain ⟨z_i_Ratio___init__, c1⟩ := He.ba (show (_ && _) = true from c1)
  obtain ⟨z_i_Ratio_text, c1⟩ := He.ba (show (_ && _) = true from c1)
  obtain ⟨z_h_is_digits, c1⟩ := He.ba (show (_ && _) = true from c1)
  obtain ⟨z_h_is_signed, c1⟩ := He.ba (show (_ && _) = true from c1)
  obtain ⟨z_i_Ratio_read, c1⟩ := He.ba (show (_ && _) = true from c1)
  obtain ⟨z_h__law_bag, c1⟩ := He.ba (show (_ && _) = true from c1)
  obtain ⟨z_h__law_gcd, c1⟩ := He.ba (show (_ && _) = true from c1)
  obtain ⟨z_h__law_frac, c1⟩ := He.ba (show (_ && _) = true from c1)
  obtain ⟨z_h__law_frac_text, c1⟩ := He.ba (show (_ && _) = true from c1)
  obtain ⟨z_h__law_pick, c1⟩ := He.ba (show (_ && _) = true from c1)
  obtain ⟨z_h__law_of, c1⟩ := He.ba (show (_ && _) = true from c1)
  obtain ⟨z_pg_Ratio_bottom, c1⟩ := He.ba (show (_ && _) = true from c1)
  obtain ⟨z_pt_Ratio_bottom, c1⟩ := He.ba (show (_ && _) = true from c1)
  obtain ⟨z_pp_Ratio_bottom, c1⟩ := He.ba (show (_ && _) = true from c1)
  obtain ⟨z_i_Ratio_bottom, c1⟩ := He.ba (show (_ && _) = true from c1)
  obtain ⟨z_pg_Ratio_top, c1⟩ := He.ba (show (_ && _) = true from c1)
  obtain ⟨z_pt_Ratio_top, c1⟩ := He.ba (show (_ && _) = true from c1)
  obtain ⟨z_pp_Ratio_top, c1⟩ := He.ba (show (_ && _) = true from c1)
  obtain ⟨z_i_Ratio_top, c1⟩ := He.ba (show (_ && _) = true from c1)
  obtain ⟨z_h__law_pair, c1⟩ := He.ba (show (_ && _) = true from c1)
  obtain ⟨c1, c0⟩ := He.ba (show (_ && _) = true from c0)
  obtain ⟨z_h__law_reader, c1⟩ := He.ba (show (_ && _) = true from c1)
  obtain ⟨z_h__law_same, c1⟩ := He.ba (show (_ && _) = true from c1)
  obtain ⟨z_h__law_field, c1⟩ := He.ba (show (_ && _) = true from c1)
  obtain ⟨z_h__law_why, c1⟩ := He.ba (show (_ && _) = true from c1)
  obtain ⟨z_h__law_whys, c1⟩ := He.ba (show (_ && _) = true from c1)
  obtain ⟨z_h_law, c1⟩ := He.ba (show (_ && _) = true from c1)
  obtain ⟨z_h_WayError, c1⟩ := He.ba (show (_ && _) = true from c1)
  obtain ⟨z_h_Missing, c1⟩ := He.ba (show (_ && _) = true from c1)
  obtain ⟨z_h_InvalidRatio, c1⟩ := He.ba (show (_ && _) = true from c1)
  obtain ⟨z_h_InvalidText, c1⟩ := He.ba (show (_ && _) = true from c1)
  obtain ⟨z_h_NothingLeft, c1⟩ := He.ba (show (_ && _) = true from c1)
  obtain ⟨z_tr_InvalidRatio_WayError_Missing_NothingLeft, c1⟩ := He.ba (show (_ && _) = true from c1)
  obtain ⟨z_tr_InvalidText_WayError_Missing_NothingLeft, c1⟩ := He.ba (show (_ && _) = true from c1)
  obtain ⟨z_xj_InvalidRatio, c1⟩ := He.ba (show (_ && _) = true from c1)
  obtain ⟨s_FN_InvalidRatio, c1⟩ := He.ba (show (_ && _) = true from c1)
  obtain ⟨z_xj_WayError, c1⟩ := He.ba (show (_ && _) = true from c1)
  obtain ⟨s_FN_WayError, c1⟩ := He.ba (show (_ && _) = true from c1)
  obtain ⟨z_xj_InvalidText, c1⟩ := He.ba (show (_ && _) = true from c1)
  obtain ⟨s_FN_InvalidText, c1⟩ := He.ba (show (_ && _) = true from c1)
  obtain ⟨z_xb_InvalidRatio, c1⟩ := He.ba (show (_ && _) = true from c1)
  obtain ⟨c1, c0⟩ := He.ba (show (_ && _) = true from c0)
  obtain ⟨z_xb_InvalidText, c1⟩ := He.ba (show (_ && _) = true from c1)
  obtain ⟨z_b_super, c1⟩ := He.ba (show (_ && _) = true from c1)
  obtain ⟨z_tp_any, c1⟩ := He.ba (show (_ && _) = true from c1)
  obtain ⟨z_h_DIGITS, c1⟩ := He.ba (show (_ && _) = true from c1)
  obtain ⟨z_h_MOST_DIGITS, c1⟩ := He.ba (show (_ && _) = true from c1)
  obtain ⟨z_b_abs, c1⟩ := He.ba (show (_ && _) = true from c1)
  obtain ⟨z_b_all, c1⟩ := He.ba (show (_ && _) = true from c1)
  obtain ⟨z_b_bool, c1⟩ := He.ba (show (_ && _) = true from c1)
  obtain ⟨z_b_int, c1⟩ := He.ba (show (_ && _) = true from c1)
  obtain ⟨z_b_isinstance, c1⟩ := He.ba (show (_ && _) = true from c1)
  obtain ⟨z_b_len, c1⟩ := He.ba (show (_ && _) = true from c1)
  obtain ⟨z_b_list, c1⟩ := He.ba (show (_ && _) = true from c1)
  obtain ⟨z_b_range, c1⟩ := He.ba (show (_ && _) = true from c1)
  obtain ⟨z_b_str, c1⟩ := He.ba (show (_ && _) = true from c1)
  obtain ⟨z_b_tuple, c1⟩ := He.ba (show (_ && _) = true from c1)
  obtain ⟨z_b_zip, c1⟩ := He.ba (show (_ && _) = true from c1)
  obtain ⟨z_t_nd, c1⟩ := He.ba (show (_ && _) = true from c1)
  have z_FN_InvalidRatio := ZK.DefS.sup (prog := PySem.Challenge.pw_waysagree_k04_texts_of_ratios) (d := fS_0) (c.sup_ 0) rfl s_FN_InvalidRatio
  have z_FN_WayError := ZK.DefS.sup (prog := PySem.Challenge.pw_waysagree_k04_texts_of_ratios) (d := fS_1) (c.sup_ 1) rfl s_FN_WayError
  have z_FN_InvalidText := ZK.DefS.sup (prog := PySem.Challenge.pw_waysagree_k04_texts_of_ratios) (d := fS_2) (c.sup_ 2) rfl s_FN_InvalidText
  exact all_mk (l := PySem.Challenge.rw_waysagree_k04_texts_of_ratios) law_ok X G hfa (of_decide_eq_true z_h_Ratio) z_pg_Ratio z_hd_Ratio z_po_Ratio (of_decide_eq_true z_sa_Ratio) z_mk_Ratio z_kc_Ratio (of_decide_eq_true z_in_Ratio) (of_decide_eq_true z_na_Ratio_own_bottom) (of_decide_eq_true z_na_Ratio_own_top) (of_decide_eq_true z_fd_Ratio_text) (of_decide_eq_true z_ca_Ratio) (of_decide_eq_true z_ob_Ratio) (of_decide_eq_true z_fp_Ratio_bottom) (of_decide_eq_true z_fp_Ratio_top) z_sb_Ratio_read (of_decide_eq_true z_kt_Ratio_Ratio) z_tyc_Ratio (of_decide_eq_true z_h_common_divisor) z_F_common_divisor (of_decide_eq_true z_h_is_whole) z_F_is_whole z_i_Ratio___init__ z_F_Ratio___init__ z_i_Ratio_text z_F_Ratio_text (of_decide_eq_true z_h_is_digits) z_F_is_digits (of_decide_eq_true z_h_is_signed) z_F_is_signed z_i_Ratio_read z_F_Ratio_read (of_decide_eq_true z_h__law_bag) z_F__law_bag (of_decide_eq_true z_h__law_gcd) z_F__law_gcd (of_decide_eq_true z_h__law_frac) z_F__law_frac (of_decide_eq_true z_h__law_frac_text) z_F__law_frac_text (of_decide_eq_true z_h__law_pick) z_F__law_pick (of_decide_eq_true z_h__law_of) z_F__law_of (of_decide_eq_true z_pg_Ratio_bottom) (of_decide_eq_true z_pt_Ratio_bottom) (ZK.prop_ok z_pp_Ratio_bottom).choose_spec z_i_Ratio_bottom z_F_Ratio_bottom (of_decide_eq_true z_pg_Ratio_top) (of_decide_eq_true z_pt_Ratio_top) (ZK.prop_ok z_pp_Ratio_top).choose_spec z_i_Ratio_top z_F_Ratio_top (of_decide_eq_true z_h__law_pair) z_F__law_pair (of_decide_eq_true z_h__law_reader) z_F__law_reader (of_decide_eq_true z_h__law_same) z_F__law_same (of_decide_eq_true z_h__law_field) z_F__law_field (of_decide_eq_true z_h__law_why) z_F__law_why (of_decide_eq_true z_h__law_whys) z_F__law_whys (of_decide_eq_true z_h_law) z_F_law (of_decide_eq_true z_h_WayError) (of_decide_eq_true z_h_Missing) (of_decide_eq_true z_h_InvalidRatio) (of_decide_eq_true z_h_InvalidText) (of_decide_eq_true z_h_NothingLeft) (of_decide_eq_true z_tr_InvalidRatio_WayError_Missing_NothingLeft) (of_decide_eq_true z_tr_InvalidText_WayError_Missing_NothingLeft) (of_decide_eq_true z_xj_InvalidRatio) z_FN_InvalidRatio (of_decide_eq_true z_xj_WayError) z_FN_WayError (of_decide_eq_true z_xj_InvalidText) z_FN_InvalidText z_xb_InvalidRatio z_xb_InvalidText (of_decide_eq_true z_b_super) (of_decide_eq_true z_tp_any) rfl (He.str_ok X G z_h_DIGITS) (He.int_ok X G z_h_MOST_DIGITS) (of_decide_eq_true z_b_abs) (of_decide_eq_true z_b_all) (of_decide_eq_true z_b_bool) (of_decide_eq_true z_b_int) (of_decide_eq_true z_b_isinstance) (of_decide_eq_true z_b_len) (of_decide_eq_true z_b_list) (of_decide_eq_true z_b_range) (of_decide_eq_true z_b_str) (of_decide_eq_true z_b_tuple) (of_decide_eq_true z_b_zip) (ZK.code_ref (p := ("_law_reader", none)) z_F__law_reader) (c.hd ("_law_reader", none) (by simp)) (c.out ("_law_reader", none) (by simp)) (c.empty ("_law_reader", none) (by simp)) (ZK.code_ref (p := ("law", none)) z_F_law) (c.hd ("law", none) (by simp)) (c.out ("law", none) (by simp)) (c.empty ("law", none) (by simp)) (of_decide_eq_true z_t_nd)
theorem obZ_eq (s : PySem.W.SharedT) : obZ s = hkZ.obs s.abs := ZK.obsZ_eq (HandSHeadRun.getT_eq s)
end K04
namespace K04
open PySem PySem.Spec L2 Z TL
def dgN (n : Nat) : List Nat := (Nat.toDigits 10 n).map Char.toNat
theorem lit_list (s : String) : (Str.ofString s).cps.toList = s.toList.map Char.toNat := by rw [Str.ofString_eq_toList]
theorem dg_nat (n : Nat) : dg (n : Int) = dgN n := by
  unfold dg dgN
  rw [lit_list]
  show (Nat.repr n).toList.map Char.toNat = _
  rw [Nat.toList_repr]
theorem dg_neg (n : Nat) : dg (-((n + 1 : Nat) : Int)) = 45 :: dgN (n + 1) := by
  unfold dg dgN
  rw [lit_list]
  show ("-" ++ Nat.repr (n + 1)).toList.map Char.toNat = _
  rw [String.toList_append, List.map_append, Nat.toList_repr]
  rfl
theorem dgN_low {n c : Nat} (h : c ∈ dgN n) : 48 ≤ c ∧ c ≤ 57 := by
  obtain ⟨d, hd, rfl⟩ := List.mem_map.mp h
  have := Nat.isDigit_of_mem_toDigits (by omega) (by omega) hd
  unfold Char.isDigit at this
  simp only [Bool.and_eq_true, decide_eq_true_eq] at this
  have h1 : d.toNat = d.val.toNat := rfl
  obtain ⟨a, b⟩ := this
  have a' : (48 : UInt32).toNat ≤ d.val.toNat := UInt32.le_iff_toNat_le.mp a
  have b' : d.val.toNat ≤ (57 : UInt32).toNat := UInt32.le_iff_toNat_le.mp b
  rw [h1]
  exact ⟨a', b'⟩
theorem dgN_ne (n : Nat) : dgN n ≠ [] := by
  unfold dgN
  simp
theorem dgN_small {n : Nat} (h : n < 10) : dgN n = [48 + n] := by
  unfold dgN
  rw [Nat.toDigits_of_lt_base h]
  simp [Nat.toNat_digitChar_of_lt_ten h]
theorem dgN_big {n : Nat} (h : 10 ≤ n) : dgN n = dgN (n / 10) ++ [48 + n % 10] := by
  unfold dgN
  rw [Nat.toDigits_of_base_le (by omega) h, List.map_append]
  simp [Nat.toNat_digitChar_of_lt_ten (Nat.mod_lt n (by omega : 10 > 0))]
theorem dval_snoc (l : List Nat) (c : Nat) : dval (l ++ [c]) = dval l * 10 + (c - 48) := by
  unfold dval
  rw [List.foldl_append]
  rfl
theorem dval_dgN (n : Nat) : dval (dgN n) = n := by
  induction n using Nat.strongRecOn with
  | ind n ih =>
    by_cases h : n < 10
    · rw [dgN_small h]
      simp [dval]
    · rw [dgN_big (by omega), dval_snoc, ih (n / 10) (by omega)]
      omega
theorem dgN_head {n : Nat} (h : n ≠ 0) : (dgN n).headD 0 ≠ 48 := by
  induction n using Nat.strongRecOn with
  | ind n ih =>
    by_cases h2 : n < 10
    · rw [dgN_small h2]
      show 48 + n ≠ 48
      omega
    · rw [dgN_big (by omega)]
      have := ih (n / 10) (by omega) (by omega)
      cases e : dgN (n / 10) with
      | nil => exact absurd e (dgN_ne _)
      | cons c r =>
        rw [e] at this
        exact this
theorem dgN_len {n k : Nat} (h : n < 10 ^ k) (hk : 0 < k) : (dgN n).length ≤ k := by
  unfold dgN
  rw [List.length_map]
  exact (Nat.length_toDigits_le_iff (by omega) hk).mpr h
theorem dgN_zero : dgN 0 = [48] := dgN_small (by omega)
theorem dval_lt (l : List Nat) (h : ∀ c ∈ l, 48 ≤ c ∧ c ≤ 57) : dval l < 10 ^ l.length := by
  have key : ∀ (l : List Nat) (a : Nat), (∀ c ∈ l, 48 ≤ c ∧ c ≤ 57) → l.foldl (fun a c => a * 10 + (c - 48)) a < (a + 1) * 10 ^ l.length := fun l => by
    induction l with
    | nil => intro a _; simp
    | cons c l ih =>
      intro a h
      have hc := h c (by simp)
      have := ih (a * 10 + (c - 48)) fun d hd => h d (by simp [hd])
      rw [List.foldl_cons, List.length_cons, Nat.pow_succ]
      refine Nat.lt_of_lt_of_le this ?_
      have e : (a + 1) * (10 ^ l.length * 10) = ((a + 1) * 10) * 10 ^ l.length := by
        rw [Nat.mul_assoc, Nat.mul_comm 10]
      rw [e]
      exact Nat.mul_le_mul_right _ (by omega)
  have := key l 0 h
  unfold dval
  simpa using this
def digB (l : List Nat) : Bool := decide (1 ≤ l.length ∧ l.length ≤ 30) && (l.all (fun c => decide (48 ≤ c ∧ c ≤ 57)) && (decide (l = [48]) || decide (l.headD 0 ≠ 48)))
def sigB (l : List Nat) : Bool := digB l || (decide (l.take 1 = [45]) && (decide (l ≠ [45, 48]) && digB (l.drop 1)))
def sval (l : List Nat) : Int := if digB l = true then dval l else -(dval (l.drop 1) : Int)
def cutA : List Nat → Option (List Nat × List Nat)
  | [] => none
  | x :: l => if x = 47 then some ([], l) else (cutA l).map fun p => (x :: p.1, p.2)
theorem cutA_some : ∀ {l a b : List Nat}, cutA l = some (a, b) → l = a ++ 47 :: b ∧ 47 ∉ a
  | [], a, b, h => by cases h
  | x :: l, a, b, h => by
    unfold cutA at h
    split at h
    · rename_i e
      cases h
      subst e
      exact ⟨rfl, by simp⟩
    · rename_i e
      obtain ⟨p, hp, he⟩ := Option.map_eq_some_iff.mp h
      obtain ⟨p1, p2⟩ := p
      cases he
      obtain ⟨q1, q2⟩ := cutA_some hp
      refine ⟨by rw [q1]; rfl, fun hm => ?_⟩
      rcases List.mem_cons.mp hm with h | h
      · exact e h.symm
      · exact q2 h
theorem cutA_none : ∀ {l : List Nat}, cutA l = none → 47 ∉ l
  | [], h => by simp
  | x :: l, h => by
    unfold cutA at h
    split at h
    · cases h
    · rename_i e
      have := cutA_none (Option.map_eq_none_iff.mp h)
      intro hm
      rcases List.mem_cons.mp hm with h | h
      · exact e h.symm
      · exact this h
theorem cutA_app : ∀ (a b : List Nat), 47 ∉ a → cutA (a ++ 47 :: b) = some (a, b)
  | [], b, _ => rfl
  | x :: a, b, h => by
    simp only [List.mem_cons, not_or] at h
    rw [List.cons_append, cutA, if_neg (fun e => h.1 e.symm), cutA_app a b h.2]
    rfl
theorem cutA_no : ∀ (a : List Nat), 47 ∉ a → cutA a = none
  | [], _ => rfl
  | x :: a, h => by
    simp only [List.mem_cons, not_or] at h
    rw [cutA, if_neg (fun e => h.1 e.symm), cutA_no a h.2]
    rfl
/-- head, bar, tail -/
def headP (l : List Nat) : List Nat := match cutA l with
  | some (a, _) => a
  | none => l
def barP (l : List Nat) : List Nat := match cutA l with
  | some _ => [47]
  | none => []
def tailP (l : List Nat) : List Nat := match cutA l with
  | some (_, b) => b
  | none => []
theorem part_eq (l : List Nat) : Txt.partition (tx l) (tx [47]) = (tx (headP l), tx (barP l), tx (tailP l)) := by
  unfold headP barP tailP
  cases h : cutA l with
  | none => exact partition_none (y := tx [47]) (s := 47) (S := []) rfl (cutA_none h)
  | some p =>
    obtain ⟨a, b⟩ := p
    obtain ⟨e, h2⟩ := cutA_some h
    have e2 : tx l = tx a ++ tx [47] ++ tx b := by
      rw [e, Z.tx_app, Z.tx_app]
      simp
    rw [e2]
    exact partition_app (y := tx [47]) (s := 47) (S := []) rfl h2
/-- the numbers of a text of the right form -/
def formB (l : List Nat) : Bool := sigB (headP l) && (decide (barP l = []) || (digB (tailP l) && decide (tailP l ≠ [48])))
def botP (l : List Nat) : Nat := if barP l = [] then 1 else dval (tailP l)
def readP (l : List Nat) : Option (Int × Int) := if formB l = true ∧ ratT (num (sval (headP l)) (botP l)) (den (sval (headP l)) (botP l)) = l then some (num (sval (headP l)) (botP l), den (sval (headP l)) (botP l)) else none
theorem readP_text {l : List Nat} {r : Int × Int} (h : readP l = some r) : ratT r.1 r.2 = l ∧ formB l = true ∧ r = (num (sval (headP l)) (botP l), den (sval (headP l)) (botP l)) := by
  unfold readP at h
  split at h
  · rename_i hc
    cases h
    exact ⟨hc.2, hc.1, rfl⟩
  · cases h
theorem digB_ok {l : List Nat} (h : digB l = true) : (∀ c ∈ l, 48 ≤ c ∧ c ≤ 57) ∧ 1 ≤ l.length ∧ l.length ≤ 30 ∧ (l = [48] ∨ l.headD 0 ≠ 48) := by
  unfold digB at h
  simp only [Bool.and_eq_true, Bool.or_eq_true, decide_eq_true_eq] at h
  obtain ⟨h1, h2, h3⟩ := h
  exact ⟨fun c hc => by simpa using List.all_eq_true.mp h2 c hc, h1.1, h1.2, h3⟩
theorem pow30 : (10 : Nat) ^ 30 < 2 ^ 100 := by decide
theorem dval_bd {l : List Nat} (h : digB l = true) : Bd 100 (dval l) := by
  obtain ⟨h1, _, h3, _⟩ := digB_ok h
  have := dval_lt l h1
  have h4 : 10 ^ l.length ≤ 10 ^ 30 := Nat.pow_le_pow_right (by omega) h3
  have := pow30
  unfold Bd
  rw [Int.natAbs_natCast]
  omega
theorem dval_pos {l : List Nat} (h : digB l = true) (h0 : l ≠ [48]) : 0 < dval l := by
  obtain ⟨h1, h2, _, h4⟩ := digB_ok h
  have h4 := h4.resolve_left h0
  have key : ∀ (r : List Nat) (a : Nat), 0 < a → 0 < r.foldl (fun a c => a * 10 + (c - 48)) a := fun r => by
    induction r with
    | nil => exact fun a h => h
    | cons c r ih =>
      intro a h
      rw [List.foldl_cons]
      refine ih _ ?_
      omega
  cases l with
  | nil => simp at h2
  | cons c r =>
    have hc := h1 c (by simp)
    have h4 : c ≠ 48 := h4
    unfold dval
    rw [List.foldl_cons]
    refine key r _ ?_
    omega
theorem sval_bd {l : List Nat} (h : sigB l = true) : Bd 100 (sval l) := by
  unfold sval
  split
  · rename_i hd
    exact dval_bd hd
  · rename_i hd
    unfold sigB at h
    simp only [Bool.or_eq_true, Bool.and_eq_true] at h
    exact (dval_bd (h.resolve_left hd).2.2).neg
theorem botP_ok {l : List Nat} (h : formB l = true) : Bd 100 (botP l) ∧ (botP l : Int) ≠ 0 := by
  unfold formB at h
  simp only [Bool.and_eq_true, Bool.or_eq_true, decide_eq_true_eq] at h
  unfold botP
  split
  · exact ⟨by unfold Bd; decide, by decide⟩
  · rename_i hb
    obtain ⟨h1, h2⟩ := h.2.resolve_left hb
    have := dval_pos h1 h2
    exact ⟨dval_bd h1, by omega⟩
theorem head_ok {l : List Nat} (h : formB l = true) : sigB (headP l) = true := by
  unfold formB at h
  simp only [Bool.and_eq_true] at h
  exact h.1
theorem readP_lt {l : List Nat} {p q : Int} (h : readP l = some (p, q)) : LT 200 p q := by
  obtain ⟨_, hf, e⟩ := readP_text h
  cases e
  obtain ⟨hb, h0⟩ := botP_ok hf
  exact LT.of (n := 100) (m := 100) (sval_bd (head_ok hf)) hb h0
theorem digB_dgN {n : Nat} (h : n < 10 ^ 30) : digB (dgN n) = true := by
  unfold digB
  simp only [Bool.and_eq_true, Bool.or_eq_true, decide_eq_true_eq]
  refine ⟨⟨List.length_pos_iff.mpr (dgN_ne n), dgN_len h (by omega)⟩, List.all_eq_true.mpr fun c hc => by simpa using dgN_low hc, ?_⟩
  by_cases h0 : n = 0
  · subst h0
    exact .inl dgN_zero
  · exact .inr (dgN_head h0)
theorem no47 {n : Nat} : 47 ∉ dgN n := fun h => by
  have := dgN_low h
  omega
theorem dg_cases (p : Int) : (∃ n : Nat, p = n ∧ dg p = dgN n) ∨ ∃ n : Nat, p = -((n + 1 : Nat) : Int) ∧ dg p = 45 :: dgN (n + 1) := by
  cases p with
  | ofNat n => exact .inl ⟨n, rfl, dg_nat n⟩
  | negSucc n => exact .inr ⟨n, rfl, dg_neg n⟩
theorem sig_dg {p : Int} (h : p.natAbs < 10 ^ 30) : sigB (dg p) = true ∧ sval (dg p) = p ∧ 47 ∉ dg p := by
  rcases dg_cases p with ⟨n, rfl, e⟩ | ⟨n, rfl, e⟩
  · rw [e]
    have hd := digB_dgN (n := n) (by omega)
    refine ⟨by unfold sigB; rw [hd]; rfl, ?_, no47⟩
    unfold sval
    rw [if_pos hd, dval_dgN]
  · rw [e]
    have hd := digB_dgN (n := n + 1) (by omega)
    have hnd : digB (45 :: dgN (n + 1)) = false := by
      unfold digB
      simp
    have hne : dgN (n + 1) ≠ [48] := fun e2 => by
      have := dgN_head (n := n + 1) (by omega)
      rw [e2] at this
      exact this rfl
    refine ⟨?_, ?_, ?_⟩
    · unfold sigB
      rw [hnd, List.drop_succ_cons, List.drop_zero, hd]
      simp [hne]
    · unfold sval
      rw [hnd, if_neg (by simp), List.drop_succ_cons, List.drop_zero, dval_dgN]
    · simp only [List.mem_cons, not_or]
      exact ⟨by omega, no47⟩
theorem readP_ratT {n : Nat} {p q : Int} (h : LT n p q) (hp : p.natAbs < 10 ^ 30) (hq : q.natAbs < 10 ^ 30) : readP (ratT p q) = some (p, q) := by
  obtain ⟨s1, s2, s3⟩ := sig_dg hp
  by_cases h1 : q = 1
  · subst h1
    have e : ratT p 1 = dg p := by unfold ratT; rw [if_pos rfl]
    rw [e]
    have hc := cutA_no _ s3
    have e1 : headP (dg p) = dg p := by unfold headP; rw [hc]
    have e2 : barP (dg p) = [] := by unfold barP; rw [hc]
    have e3 : botP (dg p) = 1 := by unfold botP; rw [if_pos e2]
    unfold readP formB
    rw [e1, e2, e3, s1, s2]
    have n1 : num p ((1 : Nat) : Int) = p := num1
    have d1 : den p ((1 : Nat) : Int) = 1 := den1
    rw [n1, d1, e]
    simp
  · have e : ratT p q = dg p ++ 47 :: dg q := by unfold ratT; rw [if_neg h1]
    obtain ⟨m, rfl⟩ : ∃ m : Nat, q = m := ⟨q.toNat, by have := h.pos; omega⟩
    have hm : m < 10 ^ 30 := by omega
    have hpos := h.pos
    have hd := digB_dgN hm
    have hc : cutA (ratT p m) = some (dg p, dg m) := by rw [e]; exact cutA_app _ _ s3
    have e1 : headP (ratT p m) = dg p := by unfold headP; rw [hc]
    have e2 : barP (ratT p m) = [47] := by unfold barP; rw [hc]
    have e4 : tailP (ratT p m) = dgN m := by unfold tailP; rw [hc, ← dg_nat]
    have e3 : botP (ratT p m) = m := by unfold botP; rw [e2, if_neg (by simp), e4, dval_dgN]
    have hne : dgN m ≠ [48] := fun e2 => by
      have := dgN_head (n := m) (by omega)
      rw [e2] at this
      exact this rfl
    unfold readP formB
    rw [e1, e2, e3, e4, s1, s2, h.num, h.den, hd]
    simp [hne]
end K04
namespace K04
open PySem PySem.Spec L2 Z ZM TL
section
variable {S : Store} {P X : D → Store → Prop} {v d : D} {sl : Sl} {Q : Q0} {l : List Nat}
theorem okS_lo (h : Lo l) : okS l := okS_low h
theorem okS_one {c : Nat} (h : c < 128) : okS [c] := okS_low fun d hd => by simp at hd; omega
theorem wo_ret {f : EX} {d : D} {S1 : Store} (h : f sl S = .ok d S1) (hq : Q.rt d S1) : Wo (sRet f sl S) Q := by
  rw [w_sRet, h, we_ok]
  exact hq
theorem q_sl {f1 : EX} {fl fu : OX} {lo hi : Option Int} {r : List Nat} (h : f1 sl S = .ok (.str (tx l)) S) (h1 : fl sl S = .ok lo S) (h2 : fu sl S = .ok hi S) (hl : l.length ≤ 1000000) (hr : cutS (tx l) lo hi = tx r) : eSl false f1 fl fu sl S = .ok (.str (tx r)) S := eq_of_we (by
  rw [w_eSl, h, we_ok, h1, we_ok, h2, we_ok, w_sl_str, hr]
  exact ⟨hl, rfl, rfl⟩)
theorem q_oI {f : EX} {i : Int} (h : f sl S = .ok (.int i) S) : oInt f sl S = .ok (some i) S := by
  unfold oInt
  rw [h]
  rfl
def digs : List Nat := [48, 49, 50, 51, 52, 53, 54, 55, 56, 57]
theorem mem_digs {c : Nat} : c ∈ digs ↔ 48 ≤ c ∧ c ≤ 57 := by
  simp only [digs, List.mem_cons, List.not_mem_nil, or_false]
  omega
theorem digits_eq (hlo : Lo l) (hl : l.length ≤ 1000) : f_is_digits [.str (tx l)] S = .ok (.bl (digB l)) S := by
  refine eq_of_we ?_
  unfold f_is_digits
  refine we_def rfl ?_
  show Wo (m_is_digits [some (.str (tx l)), none] S) _
  unfold m_is_digits
  have i3 : l.length ≤ 1000000 := by omega
  have h2 : eChain leI leI (eLit (.int 1)) (eArgs lenX (aCons (eName 0) aNil)) (eLit (.int 30)) [some (.str (tx l)), none] S = .ok (.bl (decide (1 ≤ l.length ∧ l.length ≤ 30))) S := eq_of_we (by
    by_cases q : 1 ≤ (l.length : Int)
    · have : (1 : Nat) ≤ l.length := by omega
      simp [q, i3, this]
      omega
    · have : ¬ (1 : Nat) ≤ l.length := by omega
      simp [q, i3, this])
  have hlit : ("0123456789" : Str) = tx digs := by decide +kernel
  have p1 := lcF_eq (S := S) (sl := [some (.str (tx l)), none]) (it := itAny (eName 0)) (g := gSet 1) (bt := bTrue) (fe := eBin inX (eName 1) (eLit (.str "0123456789"))) (own := [1]) (xs := l.map sg) (fun _ => true) (fun d => match d with | .str s => .bl (decide (s.cps.toList.headD 0 ∈ digs)) | d => d) (itAny_of (eName_of rfl) (by simp)) (by simp; omega) (fun acc => by simp) (fun d hd acc => by
      obtain ⟨a, ha, rfl⟩ := List.mem_map.mp hd
      exact ⟨_, rfl, rfl, fun _ => eq_of_we (by rw [hlit]; simp [wipeS])⟩) (fun d hd _ => by
      obtain ⟨a, ha, rfl⟩ := List.mem_map.mp hd
      simp)
  have e2 : ((l.map sg).filter (fun _ => true)).map (fun d => match d with | .str s => D.bl (decide (s.cps.toList.headD 0 ∈ digs)) | d => d) = l.map fun c => .bl (decide (c ∈ digs)) := by
    rw [filter_tt, List.map_map]
    rfl
  rw [e2] at p1
  have h3 := q_a (q_c p1 q_0) all_lst
  have eall : (l.all fun c => decide (48 ≤ c ∧ c ≤ 57)) = l.all fun c => decide (c ∈ digs) := by
    congr 1
    funext c
    exact decide_eq_decide.mpr mem_digs.symm
  unfold digB
  rw [eall]
  by_cases q1 : 1 ≤ l.length ∧ l.length ≤ 30
  · by_cases q2 : (l.all fun c => decide (c ∈ digs)) = true
    · refine wo_cut (fun sl S1 => S1 = S ∧ sl = [some (.str (tx l)), none]) ?_ ?_
      · rw [w_sIf, w_bOr, w_bNot, w_bVal, h2, we_ok, isB_bl, decide_eq_true q1, Bool.not_true, if_neg (by simp), w_bNot, w_bVal, h3, we_ok, isB_bl, q2, Bool.not_true, if_neg (by simp), w_sNil]
        exact ⟨rfl, rfl⟩
      rintro sl S1 ⟨rfl, rfl⟩
      rw [decide_eq_true q1, q2, Bool.true_and, Bool.true_and]
      obtain ⟨c, r, rfl⟩ : ∃ c r, l = c :: r := by
        cases l with
        | nil => simp at q1
        | cons c r => exact ⟨c, r, rfl⟩
      have hc : c < 128 := hlo c (by simp)
      have a1 : eBin (eqD false) (eName 0) (eLit (.str "0")) [some (.str (tx (c :: r))), none] S1 = .ok (.bl (decide (c :: r = [48]))) S1 := q_b (q_n rfl) rfl (eqD_str (b := [48]) (okS_lo hlo) (okS_one (by omega)))
      have a0 : eBin ixX (eName 0) (eLit (.int 0)) [some (.str (tx (c :: r))), none] S1 = .ok (sg c) S1 := eq_of_we (by
        have i4 : r.length ≤ 999999 := by simp at i3; omega
        simp [i4])
      have a2 : eBin (eqD true) (eBin ixX (eName 0) (eLit (.int 0))) (eLit (.str "0")) [some (.str (tx (c :: r))), none] S1 = .ok (.bl (!decide (c = 48))) S1 := q_b a0 rfl (by
        have := neD_str (S := S1) (okS_one hc) (okS_one (c := 48) (by omega))
        rw [show sg c = D.str (tx [c]) from rfl, show D.str (Str.ofString "0") = D.str (tx [48]) from rfl, this]
        simp)
      rw [w_sRet, w_eOr, a1, we_ok]
      by_cases h : c :: r = [48]
      · rw [decide_eq_true h, isB_bl, if_pos rfl, qf_rt]
        exact finP_same rfl ⟨rfl, rfl⟩
      · rw [decide_eq_false h, isB_bl, if_neg (by simp), a2, we_ok, qf_rt]
        refine finP_same rfl ⟨?_, rfl⟩
        simp
    · have q2 : (l.all fun c => decide (c ∈ digs)) = false := by simpa using q2
      refine wo_cut (fun _ _ => False) ?_ (fun _ _ h => h.elim)
      rw [w_sIf, w_bOr, w_bNot, w_bVal, h2, we_ok, isB_bl, decide_eq_true q1, Bool.not_true, if_neg (by simp), w_bNot, w_bVal, h3, we_ok, isB_bl, q2, Bool.not_false, if_pos rfl]
      refine wo_ret rfl ?_
      rw [qf_rt]
      exact finP_same rfl ⟨by simp, rfl⟩
  · refine wo_cut (fun _ _ => False) ?_ (fun _ _ h => h.elim)
    rw [w_sIf, w_bOr, w_bNot, w_bVal, h2, we_ok, isB_bl, decide_eq_false q1, Bool.not_false, if_pos rfl, if_pos rfl]
    refine wo_ret rfl ?_
    rw [qf_rt]
    exact finP_same rfl ⟨by simp, rfl⟩
def excT (v : D) : D := .ins "InvalidText" ["given", "tag"] [v, .str "InvalidText"]
theorem under_excT {k : Nat} (h : under k d = true) : under k (excT d) = true := by simp [excT, h]
theorem raise_t {i : Nat} (h : sl[i]? = some (some d)) (hq : Q.ex (excT d) sl S) : Wo (sRaise (eArgs (excS "InvalidText" "InvalidText" ["given"]) (aCons (eName i) aNil)) sl S) Q := by
  rw [w_sRaise, w_eArgs, q_c (q_n h) q_0, we_ok, w_excS]
  refine ⟨rfl, ?_⟩
  exact hq
theorem eq_of_out {o R : Out D} (h : We o (fun d S' => R = .ok d S') (fun e S' => R = .ex e S')) : o = R := by
  unfold We at h
  cases o with
  | ok d T => exact h.symm
  | ex e T => exact h.symm
  | bad => exact h.elim
theorem signed_eq (hlo : Lo l) (hl : l.length ≤ 1000) : f_is_signed [.str (tx l)] S = .ok (.bl (sigB l)) S := by
  refine eq_of_we ?_
  unfold f_is_signed
  refine we_def rfl ?_
  show Wo (m_is_signed [some (.str (tx l))] S) _
  unfold m_is_signed sigB
  have a1 := q_a (q_c (q_n (sl := [some (.str (tx l))]) (i := 0) rfl) q_0) (digits_eq (S := S) hlo hl)
  have a2 : eBin (eqD false) (eSl false (eName 0) oNone (oInt (eLit (.int 1)))) (eLit (.str "-")) [some (.str (tx l))] S = .ok (.bl (decide (l.take 1 = [45]))) S :=
    q_b (q_sl (q_n rfl) rfl (q_oI rfl) (by omega) (cutS_to1 l)) rfl (eqD_str (b := [45]) (okS_lo (hlo.take 1)) (okS_one (by omega)))
  have a3 : eBin (eqD true) (eName 0) (eLit (.str "-0")) [some (.str (tx l))] S = .ok (.bl (decide (l ≠ [45, 48]))) S := q_b (q_n rfl) rfl (by
    have := neD_str (S := S) (b := [45, 48]) (okS_lo hlo) (okS_low fun c hc => by simp at hc; omega)
    rw [show Str.ofString "-0" = tx [45, 48] from rfl, this]
    simp)
  have a4 := q_a (q_c (q_sl (sl := [some (.str (tx l))]) (S := S) (f1 := eName 0) (fl := oInt (eLit (.int 1))) (fu := oNone) (q_n rfl) (q_oI rfl) rfl (by omega) (cutS_from1 l)) q_0) (digits_eq (S := S) (hlo.drop 1) (by simp; omega))
  rw [w_sRet, w_eOr, a1, we_ok, isB_bl]
  cases digB l
  · rw [if_neg (by simp), w_eAnd, a2, we_ok, isB_bl]
    by_cases h1 : l.take 1 = [45]
    · rw [decide_eq_true h1, if_pos rfl, w_eAnd, a3, we_ok, isB_bl]
      by_cases h2 : l ≠ [45, 48]
      · rw [decide_eq_true h2, if_pos rfl, a4, we_ok, qf_rt]
        exact finP_same rfl ⟨by simp, rfl⟩
      · rw [decide_eq_false h2, if_neg (by simp), qf_rt]
        exact finP_same rfl ⟨by simp, rfl⟩
    · rw [decide_eq_false h1, if_neg (by simp), qf_rt]
      exact finP_same rfl ⟨by simp, rfl⟩
  · rw [if_pos rfl, qf_rt]
    exact finP_same rfl ⟨rfl, rfl⟩
theorem int_sig (h : sigB l = true) : semIntX [.str (tx l)] S = .ok (.int (sval l)) S := by
  unfold sval
  split
  · rename_i hd
    obtain ⟨h1, h2, h3, _⟩ := digB_ok hd
    exact intX_digits h1 (by intro e; subst e; simp at h2) (by omega)
  · rename_i hd
    unfold sigB at h
    simp only [Bool.or_eq_true, Bool.and_eq_true, decide_eq_true_eq] at h
    obtain ⟨h1, h2, h3⟩ := h.resolve_left hd
    obtain ⟨k1, k2, k3, _⟩ := digB_ok h3
    cases l with
    | nil => cases h1
    | cons c r =>
      have hc : c = 45 := by simpa using h1
      subst hc
      have k3 : r.length ≤ 30 := by simpa using k3
      exact intX_minus k1 (by intro e; subst e; simp at k2) (by omega)
theorem part_lo (h : Lo l) : Lo (headP l) ∧ Lo (barP l) ∧ Lo (tailP l) := by
  unfold headP barP tailP
  cases e : cutA l with
  | none => exact ⟨h, (fun c hc => by cases hc), fun c hc => by cases hc⟩
  | some p =>
    obtain ⟨a, b⟩ := p
    obtain ⟨rfl, _⟩ := cutA_some e
    exact ⟨fun c hc => h c (by simp [hc]), (fun c hc => by simp at hc; omega), fun c hc => h c (by simp [hc])⟩
theorem part_len : (headP l).length ≤ l.length ∧ (tailP l).length ≤ l.length := by
  unfold headP tailP
  cases e : cutA l with
  | none => exact ⟨Nat.le_refl _, by simp⟩
  | some p =>
    obtain ⟨a, b⟩ := p
    obtain ⟨rfl, _⟩ := cutA_some e
    exact ⟨by simp, by simp; omega⟩
/-- what reading answers -/
def outR (o : Option (Int × Int)) (l : List Nat) (S : Store) : Out D := match o with
  | some r => .ok (ratD r.1 r.2) S
  | none => .ex (excT (.str (tx l))) S
theorem w_g3 {i j k : Nat} {d e f : D} : Wo (gTupX (gConsX (gSet i) (gConsX (gSet j) (gConsX (gSet k) gNilX))) (.tup [d, e, f]) sl S) Q = Q.nx (((sl.set i (some d)).set j (some e)).set k (some f)) S := by
  rw [w_gTup, w_gCons, w_gSet]
  dsimp only
  rw [w_gCons, w_gSet]
  dsimp only
  rw [w_gCons, w_gSet]
  dsimp only
  rw [w_gNil]
theorem read_eq (hlo : Lo l) (hl : l.length ≤ 1000) : f_Ratio_read [.str (tx l)] S = outR (readP l) l S := by
  refine eq_of_out ?_
  unfold f_Ratio_read
  refine we_def rfl ?_
  show Wo (m_Ratio_read [some (.str (tx l)), none, none, none, none] S) _
  unfold m_Ratio_read
  obtain ⟨lo1, lo2, lo3⟩ := part_lo hlo
  obtain ⟨len1, len3⟩ := part_len (l := l)
  have raised : ∀ (sl : Sl) (Q : Q0), readP l = none → sl[0]? = some (some (.str (tx l))) → Q.ex = (QF S (fun d S' => outR (readP l) l S = .ok d S') (fun e S' => outR (readP l) l S = .ex e S')).ex → Wo (sRaise (eArgs (excS "InvalidText" "InvalidText" ["given"]) (aCons (eName 0) aNil)) sl S) Q := fun sl Q h h0 hQ => by
    refine raise_t h0 ?_
    rw [hQ, qf_ex]
    refine finP_same (under_excT rfl) ?_
    rw [h]
    rfl
  refine wo_cut (fun sl S1 => S1 = S ∧ sl = [some (.str (tx l)), none, none, none, none]) ?_ ?_
  · have e : eArgs isiX (aCons (eName 0) (aCons (eLit (.ty "str")) aNil)) [some (.str (tx l)), none, none, none, none] S = .ok (.bl true) S := eq_of_we (by simp)
    exact wo_ask e ⟨rfl, rfl⟩
  rintro sl S1 ⟨rfl, rfl⟩
  refine wo_cut (fun sl S2 => S2 = S1 ∧ sl = [some (.str (tx l)), some (.str (tx (headP l))), some (.str (tx (barP l))), some (.str (tx (tailP l))), none]) ?_ ?_
  · have e1 : eMet tyStr semPartition (eName 0) (aCons (eLit (.str "/")) aNil) [some (.str (tx l)), none, none, none, none] S1 = .ok (.tup [.str (tx (headP l)), .str (tx (barP l)), .str (tx (tailP l))]) S1 := by
      refine eq_of_we ?_
      rw [w_eMet, q_n rfl, we_ok, if_pos (by rfl), q_c (d := .str (tx [47])) rfl q_0, we_ok]
      have : semPartition (.str (tx l)) [.str (tx [47])] S1 = .ok (.tup [.str (tx (headP l)), .str (tx (barP l)), .str (tx (tailP l))]) S1 := by
        unfold semPartition
        dsimp only
        have hc : (tx [47]).length ≠ 0 ∧ (tx l).length ≤ 1000000 := ⟨by decide, by rw [tx_len]; omega⟩
        rw [if_pos hc, part_eq]
      rw [this, we_ok]
      exact ⟨rfl, rfl⟩
    rw [w_sAsg, e1, we_ok, w_g3]
    exact ⟨rfl, rfl⟩
  rintro sl S2 ⟨rfl, rfl⟩
  -- the form
  refine wo_cut (fun sl S3 => S3 = S2 ∧ formB l = true ∧ sl = [some (.str (tx l)), some (.str (tx (headP l))), some (.str (tx (barP l))), some (.str (tx (tailP l))), none]) ?_ ?_
  · have a1 := q_a (q_c (q_n (sl := [some (.str (tx l)), some (.str (tx (headP l))), some (.str (tx (barP l))), some (.str (tx (tailP l))), none]) (i := 1) rfl) q_0) (signed_eq (S := S2) lo1 (by omega))
    have a2 : eBin (eqD true) (eName 2) (eLit (.str "")) [some (.str (tx l)), some (.str (tx (headP l))), some (.str (tx (barP l))), some (.str (tx (tailP l))), none] S2 = .ok (.bl (!decide (barP l = []))) S2 := q_b (q_n rfl) rfl (neD_str (b := []) (okS_lo lo2) (by intro c hc; cases hc))
    have a3 := q_a (q_c (q_n (sl := [some (.str (tx l)), some (.str (tx (headP l))), some (.str (tx (barP l))), some (.str (tx (tailP l))), none]) (i := 3) rfl) q_0) (digits_eq (S := S2) lo3 (by omega))
    have a4 : eBin (eqD false) (eName 3) (eLit (.str "0")) [some (.str (tx l)), some (.str (tx (headP l))), some (.str (tx (barP l))), some (.str (tx (tailP l))), none] S2 = .ok (.bl (decide (tailP l = [48]))) S2 := q_b (q_n rfl) rfl (eqD_str (b := [48]) (okS_lo lo3) (okS_one (by omega)))
    have nf : formB l = false → readP l = none := fun h => by
      unfold readP
      rw [if_neg]
      rintro ⟨h1, _⟩
      rw [h] at h1
      cases h1
    rw [w_sIf, w_bOr, w_bNot, w_bVal, a1, we_ok, isB_bl]
    cases h1 : sigB (headP l)
    · rw [Bool.not_false, if_pos rfl, if_pos rfl]
      refine raised _ _ (nf ?_) rfl rfl
      unfold formB
      rw [h1]
      rfl
    · rw [Bool.not_true, if_neg (by simp), w_bAnd, w_bVal, a2, we_ok, isB_bl]
      by_cases h2 : barP l = []
      · rw [decide_eq_true h2, Bool.not_true, if_neg (by simp), if_neg (by simp), w_sNil]
        refine ⟨rfl, ?_, rfl⟩
        unfold formB
        rw [h1, decide_eq_true h2]
        rfl
      · rw [decide_eq_false h2, Bool.not_false, if_pos rfl, w_bOr, w_bNot, w_bVal, a3, we_ok, isB_bl]
        have hf : formB l = (digB (tailP l) && decide (tailP l ≠ [48])) := by
          unfold formB
          rw [h1, decide_eq_false h2]
          rfl
        cases h3 : digB (tailP l)
        · rw [Bool.not_false, if_pos rfl, if_pos rfl]
          refine raised _ _ (nf ?_) rfl rfl
          rw [hf, h3]
          rfl
        · rw [Bool.not_true, if_neg (by simp), w_bVal, a4, we_ok, isB_bl]
          by_cases h4 : tailP l = [48]
          · rw [decide_eq_true h4, if_pos rfl]
            refine raised _ _ (nf ?_) rfl rfl
            rw [hf, h3, h4]
            rfl
          · rw [decide_eq_false h4, if_neg (by simp), w_sNil]
            refine ⟨rfl, ?_, rfl⟩
            rw [hf, h3, decide_eq_true h4]
            rfl
  rintro sl S3 ⟨rfl, hf, rfl⟩
  obtain ⟨hb, h0⟩ := botP_ok hf
  have hs := sval_bd (head_ok hf)
  have hlt : LT 200 (num (sval (headP l)) (botP l)) (den (sval (headP l)) (botP l)) := LT.of (n := 100) (m := 100) hs hb h0
  refine wo_cut (fun sl S4 => S4 = S3 ∧ sl = [some (.str (tx l)), some (.str (tx (headP l))), some (.str (tx (barP l))), some (.str (tx (tailP l))), some (ratD (num (sval (headP l)) (botP l)) (den (sval (headP l)) (botP l)))]) ?_ ?_
  · have a2 : eBin (eqD true) (eName 2) (eLit (.str "")) [some (.str (tx l)), some (.str (tx (headP l))), some (.str (tx (barP l))), some (.str (tx (tailP l))), none] S3 = .ok (.bl (!decide (barP l = []))) S3 := q_b (q_n rfl) rfl (neD_str (b := []) (okS_lo lo2) (by intro c hc; cases hc))
    have b1 := q_a (q_c (q_n (sl := [some (.str (tx l)), some (.str (tx (headP l))), some (.str (tx (barP l))), some (.str (tx (tailP l))), none]) (i := 1) rfl) q_0) (int_sig (S := S3) (head_ok hf))
    have b2 : eIf (bVal (eBin (eqD true) (eName 2) (eLit (.str "")))) (eArgs semIntX (aCons (eName 3) aNil)) (eLit (.int 1)) [some (.str (tx l)), some (.str (tx (headP l))), some (.str (tx (barP l))), some (.str (tx (tailP l))), none] S3 = .ok (.int (botP l)) S3 := eq_of_we (by
      rw [w_eIf, w_bVal, a2, we_ok, isB_bl]
      unfold botP
      by_cases h2 : barP l = []
      · rw [decide_eq_true h2, Bool.not_true, if_neg (by simp), if_pos h2, show eLit (.int 1) [some (.str (tx l)), some (.str (tx (headP l))), some (.str (tx (barP l))), some (.str (tx (tailP l))), none] S3 = .ok (.int 1) S3 from rfl, we_ok]
        exact ⟨rfl, rfl⟩
      · have hd : digB (tailP l) = true := by
          unfold formB at hf
          simp only [Bool.and_eq_true, Bool.or_eq_true, decide_eq_true_eq] at hf
          exact (hf.2.resolve_left h2).1
        obtain ⟨k1, k2, k3, _⟩ := digB_ok hd
        rw [decide_eq_false h2, Bool.not_false, if_pos rfl, if_neg h2, q_a (q_c (q_n rfl) q_0) (intX_digits k1 (by intro e; rw [e] at k2; simp at k2) (by omega)), we_ok]
        exact ⟨rfl, rfl⟩)
    rw [w_sAsg, w_eFin, w_eArgs, q_c b1 (q_c b2 q_0), we_ok]
    refine make_ok hs hb (by omega) (by omega) h0 ?_
    rw [w_gSet]
    exact ⟨rfl, rfl⟩
  rintro sl S4 ⟨rfl, rfl⟩
  have ht : eMethZ "text" [("Ratio", f_Ratio_text)] (eName 4) aNil [some (.str (tx l)), some (.str (tx (headP l))), some (.str (tx (barP l))), some (.str (tx (tailP l))), some (ratD (num (sval (headP l)) (botP l)) (den (sval (headP l)) (botP l)))] S4 = .ok (.str (tx (ratT (num (sval (headP l)) (botP l)) (den (sval (headP l)) (botP l))))) S4 := eq_of_we (by
    have := text_eq (S := S4) hlt (by omega)
    simp [this])
  have a1 := q_b (sem := eqD true) ht (q_n (i := 0) rfl) (neD_str ratT_ok (okS_lo hlo))
  by_cases h : ratT (num (sval (headP l)) (botP l)) (den (sval (headP l)) (botP l)) = l
  · have hr : readP l = some (num (sval (headP l)) (botP l), den (sval (headP l)) (botP l)) := by
      unfold readP
      rw [if_pos ⟨hf, h⟩]
    refine wo_cut (fun sl S5 => S5 = S4 ∧ sl = [some (.str (tx l)), some (.str (tx (headP l))), some (.str (tx (barP l))), some (.str (tx (tailP l))), some (ratD (num (sval (headP l)) (botP l)) (den (sval (headP l)) (botP l)))]) ?_ ?_
    · rw [w_sIf, w_bVal, a1, we_ok, isB_bl, decide_eq_true h, Bool.not_true, if_neg (by simp), w_sNil]
      exact ⟨rfl, rfl⟩
    rintro sl S5 ⟨rfl, rfl⟩
    refine wo_ret (q_n rfl) ?_
    rw [qf_rt]
    refine finP_same under_ratD ?_
    rw [hr]
    rfl
  · have hr : readP l = none := by
      unfold readP
      rw [if_neg fun q => h q.2]
    refine wo_cut (fun _ _ => False) ?_ (fun _ _ h => h.elim)
    rw [w_sIf, w_bVal, a1, we_ok, isB_bl, decide_eq_false h, Bool.not_false, if_pos rfl]
    exact raised _ _ hr rfl rfl
/-- what is no text -/
theorem read_no (h : isiX [d, .ty "str"] S = .ok (.bl false) S) (hu : under 0 d = true) : f_Ratio_read [d] S = .ex (excT d) S := by
  refine eq_of_out ?_
  unfold f_Ratio_read
  refine we_def rfl ?_
  show Wo (m_Ratio_read [some d, none, none, none, none] S) _
  unfold m_Ratio_read
  refine wo_cut (fun _ _ => False) ?_ (fun _ _ h => h.elim)
  rw [w_sIf, w_bNot, w_bVal, q_a (q_c (q_n rfl) (q_c rfl q_0)) h, we_ok, isB_bl, if_pos (by simp)]
  refine raise_t rfl ?_
  rw [qf_ex]
  exact finP_same (under_excT (under_of hu)) rfl
end
end K04
namespace K04
open PySem PySem.Spec L2 Z ZM TL
variable {Ps : Nat → Addr} {κ : List (Str × Addr)}
abbrev cnL : List Str := ["_law_bent"]
abbrev NL : List Str := ["_law_script", "_law_bag_here", "_law_turn", "_law_wide", "_law_due", "_law_text_z", "_law_at", "_law_sign", "_law_bent", "_law_told", "_law_odd", "_law_one"]
abbrev lamD (κ : List (Str × Addr)) (T : LamText) : D := .lam T (cloFrom κ T.scope.names [])
abbrev tabL (Ps : Nat → Addr) : List (Addr × Str) := [(Ps 0, "_law_reader.<locals>.<lambda>"), (Ps 1, "law.<locals>.<lambda>")]
/-- the store of the law -/
abbrev S0 (Ps : Nat → Addr) (ns : List Int) : Store := tabsOf (tabL Ps) ++ [bagD (ns.take 63) 0 0 5625]
theorem noLc_S0 (ns : List Int) : noLcS (S0 Ps ns) = true := by
  unfold S0
  refine noLcS_app ?_ noLc_bag
  simp [tabsOf, noLcS, noLcM]
theorem bag_S0 (ns : List Int) : IsBag (S0 Ps ns) 2 (ns.take 63) := bag_isT ns _
section
variable {S : Store} {P X : D → Store → Prop} {v d : D} {T : LamText} {caps : List D} {L : SemL} {sl : Sl} {Q : Q0} {l : List Nat} {ns : List Int} {x0 x1 x2 x3 x4 x5 x6 x7 x8 x9 x10 x11 : Option D}
def itT (v : D) : D := .tup [.str "InvalidText", v]
def itV (v : D) : D := .tup [.str "value", v]
theorem in_lits {s : String} {xs : List D} {b : Bool} (h : inD (.str (Str.ofString s)) xs = b) (hx : xs.all flatD = true) : inX (.str (Str.ofString s)) (.tup xs) S = .ok (.bl b) S := by
  rw [inX_sq (xs := xs) rfl rfl hx, h]
theorem whys_eq {xs ys : List D} (hS : noLcS S = true) (hl : xs.length = ys.length) (hx : xs.length ≤ 1000) (hw : ∀ i x y, xs[i]? = some x → ys[i]? = some y → ∀ S, noLcS S = true → (∃ T, S = T ++ [.lst (ys.take i)]) → f__law_why Ps [x] S = .ok y S) (hy : ∀ y ∈ ys, under 0 y = true ∧ noLc y = true) (hs : ∀ x ∈ xs, under 0 x = true) :
    f__law_whys Ps [.lst xs] S = .ok (.lst ys) S := by
  refine eq_of_we ?_
  unfold f__law_whys
  refine we_def rfl ?_
  simp [m__law_whys]
  have hnl : ∀ k, noLcL (ys.take k) = true := fun k => by
    have : ∀ zs : List D, (∀ z ∈ zs, noLc z = true) → noLcL zs = true := fun zs => by
      induction zs with
      | nil => intro _; rfl
      | cons z zs ih => intro h; rw [noLcL, h z (by simp), ih fun y hy => h y (by simp [hy])]; rfl
    exact this _ fun z hz => (hy z (List.mem_of_mem_take hz)).2
  have hu : underL S.length ys = true := underL_iff.mpr fun y h => under_of (hy y h).1
  refine we_lc (xs := xs) (itAny_of (eName_of rfl) (by simp)) (by omega) (fun pre acc S1 => S1 = S ∧ acc = ys.take pre.length) (fun p acc S1 h => ⟨by rw [h.1], by rw [h.2]; simp; omega⟩) ⟨rfl, by simp⟩ (fun pre x post acc S1 he hI => ⟨by simp, ?_⟩) fun acc S1 hI => ⟨by simp, ?_⟩
  · obtain ⟨rfl, rfl⟩ := hI
    have hlen := congrArg List.length he
    simp at hlen
    have hi : pre.length < ys.length := by omega
    have h1 : xs[pre.length]? = some x := by rw [he]; simp
    have h2 : ys[pre.length]? = some (ys[pre.length]'hi) := by simp
    have hS2 : noLcS (S1 ++ [MO.lst (ys.take pre.length)]) = true := noLcS_app hS (hnl _)
    simp [wipeS, bTrue, hw _ _ _ h1 h2 _ hS2 ⟨_, rfl⟩]
  · obtain ⟨rfl, rfl⟩ := hI
    rw [hl, List.take_length]
    exact finP_lst (Keep.refl _) hu (finP_same (by simpa using hu) ⟨rfl, rfl⟩)
theorem e1 {a b : D} : lookN "tag" ["given", "tag"] [a, b] = some b := by
  simp only [lookN]
  rw [if_neg (by decide)]
  simp
theorem fieldT (hu : under S.length v = true) : f__law_field [.exc "InvalidText" ["given", "tag"] [v, .str "InvalidText"]] S = .ok v S := by
  refine eq_of_we ?_
  unfold f__law_field
  refine we_def rfl ?_
  have e3 : ∀ a b : D, lookN "given" ["given", "tag"] [a, b] = some a := fun a b => by simp [lookN]
  have t1 : ∀ S, inX (.str "InvalidText") (.tup [.str "InvalidRatio", .str "InvalidWorld", .str "InvalidElement", .str "InvalidStep", .str "InvalidLimit"]) S = .ok (.bl false) S := fun S => in_lits (by decide +kernel) rfl
  have t2 : ∀ S, inX (.str "InvalidText") (.tup [.str "InvalidName", .str "WrongKind", .str "CircularName", .str "UnknownName"]) S = .ok (.bl false) S := fun S => in_lits (by decide +kernel) rfl
  have t3 : ∀ S, inX (.str "InvalidText") (.tup [.str "InvalidPlan", .str "EmptyLoop"]) S = .ok (.bl false) S := fun S => in_lits (by decide +kernel) rfl
  have t4 : ∀ S, inX (.str "InvalidText") (.tup [.str "TooMany", .str "CapacityExceeded"]) S = .ok (.bl false) S := fun S => in_lits (by decide +kernel) rfl
  have t5 : ∀ S, inX (.str "InvalidText") (.tup [.str "InvalidText", .str "InvalidProgram"]) S = .ok (.bl true) S := fun S => in_lits (by decide +kernel) rfl
  simp [m__law_field, t1, t2, t3, t4, t5, e1, e3]
  exact finP_same hu ⟨rfl, rfl⟩
theorem why_exT (hL : lamTab Ps T = some L) (hS : noLcS S = true) (hc : noLcL caps = true) (h : We (L caps S) (fun _ _ => False) (fun e S' => e = excT v ∧ S' = S)) (hu : under S.length v = true) : f__law_why Ps [.lamc T caps] S = .ok (itT v) S := by
  refine eq_of_we ?_
  unfold f__law_why
  refine we_def rfl ?_
  simp [m__law_why]
  rw [w_callLc rfl hL hS hc]
  refine h.mono (fun _ _ h => h.elim) ?_
  rintro e S' ⟨rfl, rfl⟩
  simp [excT, catchQ, e1, fieldT hu]
  exact finP_same (by simpa using hu) ⟨rfl, rfl⟩
theorem why_okT (hL : lamTab Ps T = some L) (hS : noLcS S = true) (hc : noLcL caps = true) (h : L caps S = .ok v S) (hu : under S.length v = true) : f__law_why Ps [.lamc T caps] S = .ok (itV v) S := by
  refine eq_of_we ?_
  unfold f__law_why
  refine we_def rfl ?_
  simp [m__law_why]
  rw [w_callLc rfl hL hS hc, h, we_ok]
  exact finP_same (by simpa using hu) ⟨rfl, rfl⟩
theorem L_law_0 : lamTab Ps T_law_0 = some l_law_0 := consL_same
theorem L_rd : lamTab Ps T__law_reader_0 = some l__law_reader_0 := (consL_ne (by decide +kernel)).trans consL_same
theorem fk_read : fk_Ratio_read_0 [d] S = f_Ratio_read [d] S := by
  unfold fk_Ratio_read_0 f_Ratio_read
  rw [kwS_eq (by simp [pickL]), w_arity (n := 1) rfl]
  rfl
theorem lam_bent {o : Option (Int × Int)} (h : f_Ratio_read [.str (tx l)] S = outR o l S) : We (l_law_0 [.str (tx l)] S) (fun d S' => ∃ r, o = some r ∧ d = ratD r.1 r.2 ∧ S' = S) (fun e S' => o = none ∧ e = excT (.str (tx l)) ∧ S' = S) := by
  unfold l_law_0
  rw [we_lamF]
  show We (eCallK 0 1 fk_Ratio_read_0 aNil (aCons (eName 0) aNil) [some (.str (tx l))] S) _ _
  rw [w_eCallK, q_0, we_ok, q_c (q_n rfl) q_0, we_ok]
  refine ⟨⟨rfl, rfl⟩, ?_⟩
  show We (fk_Ratio_read_0 [.str (tx l)] S) _ _
  rw [fk_read, h]
  cases o with
  | none =>
    rw [show outR none l S = .ex (excT (.str (tx l))) S from rfl, we_ex]
    exact finP_same (under_excT rfl) ⟨rfl, rfl, rfl⟩
  | some r =>
    rw [show outR (some r) l S = .ok (ratD r.1 r.2) S from rfl, we_ok]
    exact finP_same under_ratD ⟨r, rfl, rfl, rfl⟩
theorem lam_rd (h : f_Ratio_read [d] S = .ex (excT d) S) (hu : under 0 d = true) : We (l__law_reader_0 [d] S) (fun _ _ => False) (fun e S' => e = excT d ∧ S' = S) := by
  unfold l__law_reader_0
  rw [we_lamF]
  show We (eArgs f_Ratio_read (aCons (eName 0) aNil) [some d] S) _ _
  rw [w_eArgs, q_c (q_n rfl) q_0, we_ok]
  rw [h, we_ex]
  exact finP_same (under_excT (under_of hu)) ⟨rfl, rfl⟩
/-- the reader -/
theorem reader_eq (hS : S[0]? = some (.tab (Ps 0) "_law_reader.<locals>.<lambda>")) (hu : under S.length d = true) : f__law_reader Ps [d] S = .ok (.lamc T__law_reader_0 [d]) S := by
  unfold f__law_reader
  rw [w_arity (n := 1) rfl]
  refine allK_eq fun κ => ?_
  exact retL_eq (N := ["_law_asked"]) (T := T__law_reader_0) (ds := [d]) (caps := [d]) hS (by decide +kernel) (by decide +kernel) rfl (by simpa using hu)
theorem whys_all {xs : List D} (hS : noLcS S = true) (hx : xs.length ≤ 1000) (h : ∀ x ∈ xs, (∀ S, f_Ratio_read [x] S = .ex (excT x) S) ∧ under 0 x = true ∧ noLc x = true) : f__law_whys Ps [.lst (xs.map fun x => .lamc T__law_reader_0 [x])] S = .ok (.lst (xs.map itT)) S := by
  refine whys_eq hS (by simp) (by simpa using hx) (fun i x y h1 h2 S hS _ => ?_) (fun y hy => ?_) fun x hx => ?_
  · rw [List.getElem?_map] at h1 h2
    obtain ⟨d, hd, rfl⟩ := Option.map_eq_some_iff.mp h1
    rw [hd] at h2
    cases h2
    obtain ⟨g1, g2, g3⟩ := h d (List.mem_of_getElem? hd)
    exact why_exT L_rd hS (by simp [noLcL, g3]) (lam_rd (g1 S) g2) (under_of g2)
  · obtain ⟨d, hd, rfl⟩ := List.mem_map.mp hy
    obtain ⟨g1, g2, g3⟩ := h d hd
    exact ⟨by simp [itT, g2], by simp [itT, noLc, noLcL, g3]⟩
  · obtain ⟨d, hd, rfl⟩ := List.mem_map.mp hx
    obtain ⟨g1, g2, g3⟩ := h d hd
    rw [under]
    simp [g2]
structure Refused (x : D) : Prop where
  no : ∀ S, f_Ratio_read [x] S = .ex (excT x) S
  u : under 0 x = true
  n : noLc x = true
  p : Z.plain 9 x
theorem ref_tx (hlo : Lo l) (hl : l.length ≤ 900) (h : formB l = false ∨ ratT (num (sval (headP l)) (botP l)) (den (sval (headP l)) (botP l)) ≠ l) : Refused (.str (tx l)) := by
  refine ⟨fun S => ?_, rfl, rfl, by simpa using okS_lo hlo⟩
  have hr : readP l = none := by
    unfold readP
    rw [if_neg]
    rintro ⟨h1, h2⟩
    rcases h with h | h
    · rw [h] at h1
      cases h1
    · exact h h2
  rw [read_eq hlo (by omega), hr]
  rfl
def litB (s : String) : Bool := (s : Str).cps.toList.all (fun c => decide (c < 128)) && (!formB (s : Str).cps.toList && decide ((s : Str).cps.toList.length ≤ 900))
theorem ref_lit {s : String} (h : litB s = true) : Refused (.str s) := by
  unfold litB at h
  simp only [Bool.and_eq_true, decide_eq_true_eq, Bool.not_eq_true'] at h
  obtain ⟨h1, h2, h3⟩ := h
  have := ref_tx (l := (s : Str).cps.toList) (fun c hc => by simpa using List.all_eq_true.mp h1 c hc) h3 (.inl h2)
  rwa [tx_eta] at this
theorem ref_frac {l : List Nat} {a b : Nat} {p q : Int} (hlo : Lo l) (hl : l.length ≤ 900) (h1 : sval (headP l) = a) (h2 : botP l = b) (hp : num a b = p) (hq : den a b = q) (hr : ratT p q ≠ l) : Refused (.str (tx l)) := ref_tx hlo hl (.inr (by
  rw [h1, h2, hp, hq]
  exact hr))
theorem dg1 {n : Nat} (h : n < 10) : dg (n : Int) = [48 + n] := by rw [dg_nat, dgN_small h]
theorem ref_24 : Refused (.str "2/4") := ref_frac (l := [50, 47, 52]) (a := 2) (b := 4) (p := 1) (q := 2) (by unfold Lo; decide) (by decide) (by decide) (by decide) (by decide) (by decide) (by
  unfold ratT
  rw [if_neg (by decide), show (1 : Int) = ((1 : Nat) : Int) from rfl, show (2 : Int) = ((2 : Nat) : Int) from rfl, dg1 (by omega), dg1 (by omega)]
  decide)
theorem ref_31 : Refused (.str "3/1") := ref_frac (l := [51, 47, 49]) (a := 3) (b := 1) (p := 3) (q := 1) (by unfold Lo; decide) (by decide) (by decide) (by decide) (by decide) (by decide) (by
  unfold ratT
  rw [if_pos rfl, show (3 : Int) = ((3 : Nat) : Int) from rfl, dg1 (by omega)]
  decide)
theorem ref_03 : Refused (.str "0/3") := ref_frac (l := [48, 47, 51]) (a := 0) (b := 3) (p := 0) (q := 1) (by unfold Lo; decide) (by decide) (by decide) (by decide) (by decide) (by decide) (by
  unfold ratT
  rw [if_pos rfl, show (0 : Int) = ((0 : Nat) : Int) from rfl, dg1 (by omega)]
  decide)
theorem lo_rep (n c : Nat) (hc : c < 128) : Lo (List.replicate n c) := fun x hx => by
  rw [(List.mem_replicate.mp hx).2]
  exact hc
theorem ref_ones : Refused (.str (tx (List.replicate 31 49))) := ref_tx (lo_rep 31 49 (by omega)) (by simp) (.inl (by decide +kernel))
theorem ref_threes : Refused (.str (tx ([49, 47] ++ List.replicate 31 51))) := ref_tx (fun c hc => by
  rcases List.mem_append.mp hc with h | h
  · simp at h; omega
  · exact lo_rep 31 51 (by omega) c h) (by simp) (.inl (by decide +kernel))
theorem ref_non : Refused .non := ⟨fun S => read_no (eq_of_we (by simp)) rfl, rfl, rfl, by simp [Z.plain]⟩
theorem ref_int {n : Int} : Refused (.int n) := ⟨fun S => read_no (eq_of_we (by simp)) rfl, rfl, rfl, by simp [Z.plain]⟩
theorem ref_bl {b : Bool} : Refused (.bl b) := ⟨fun S => read_no (eq_of_we (by simp)) rfl, rfl, rfl, by simp [Z.plain]⟩
theorem ref_tup : Refused (.tup [.str "1"]) := ⟨fun S => read_no (eq_of_we (by simp)) rfl, rfl, rfl, by simp [Z.plain, plainL, okS_lit]⟩
theorem ref_lst : Refused (.lst [.str "1"]) := ⟨fun S => read_no (eq_of_we (by simp)) rfl, rfl, rfl, by simp [Z.plain, plainL, okS_lit]⟩
def odd1 : List D := [.str "", .str "-", .str "/", .str "1/", .str "/2", .str "2/4", .str "3/1", .str "1/0", .str "0/3", .str "-0", .str "00", .str "01", .str "1/02", .str "+1", .str " 1"]
def odd2 : List D := [.str "1 ", .str "1/-2", .str "--1"]
def odd3 : List D := [.str "1/2/3", .str "1.5", .str "a", .str "-1/-2", .str (tx (List.replicate 31 49)), .str (tx ([49, 47] ++ List.replicate 31 51)), .non, .int 1, .bl true, .tup [.str "1"], .lst [.str "1"]]
def oddL : List D := (odd1 ++ odd2) ++ odd3
theorem ref_1 : ∀ x ∈ odd1, Refused x := fun x hx => by
  simp only [odd1, List.mem_cons, List.not_mem_nil, or_false] at hx
  rcases hx with rfl | rfl | rfl | rfl | rfl | rfl | rfl | rfl | rfl | rfl | rfl | rfl | rfl | rfl | rfl <;> first | exact ref_24 | exact ref_31 | exact ref_03 | exact ref_lit (by decide +kernel)
theorem ref_2 : ∀ x ∈ odd2, Refused x := fun x hx => by
  simp only [odd2, List.mem_cons, List.not_mem_nil, or_false] at hx
  rcases hx with rfl | rfl | rfl <;> exact ref_lit (by decide +kernel)
theorem ref_3 : ∀ x ∈ odd3, Refused x := fun x hx => by
  simp only [odd3, List.mem_cons, List.not_mem_nil, or_false] at hx
  rcases hx with rfl | rfl | rfl | rfl | rfl | rfl | rfl | rfl | rfl | rfl | rfl
  · exact ref_lit (by decide +kernel)
  · exact ref_lit (by decide +kernel)
  · exact ref_lit (by decide +kernel)
  · exact ref_lit (by decide +kernel)
  · exact ref_ones
  · exact ref_threes
  · exact ref_non
  · exact ref_int
  · exact ref_bl
  · exact ref_tup
  · exact ref_lst
theorem ref_all : ∀ x ∈ oddL, Refused x := fun x hx => by
  simp only [oddL, List.mem_append] at hx
  rcases hx with (h | h) | h
  · exact ref_1 x h
  · exact ref_2 x h
  · exact ref_3 x h
theorem odd_len : oddL.length = 29 := rfl
theorem plain_its {xs : List D} (h : ∀ x ∈ xs, Refused x) (hl : xs.length ≤ 1000) : Z.plain 11 (.lst (xs.map itT)) := by
  rw [Z.plain]
  refine ⟨plainL_iff.mpr fun y hy => ?_, by simp; omega⟩
  obtain ⟨x, hx, rfl⟩ := List.mem_map.mp hy
  have := (h x hx).p
  unfold itT
  rw [Z.plain]
  refine ⟨plainL_iff.mpr fun z hz => ?_, by simp⟩
  simp at hz
  rcases hz with rfl | rfl
  · simp [Z.plain, okS_lit]
  · exact this
theorem mul_rep (n c : Nat) (hn : 2 ≤ n) : Txt.mul (tx [c]) n = tx (List.replicate n c) := by
  have h : ∀ (n : Nat) (X : Array Nat), (List.replicate n (#[c] : Array Nat)).foldl (· ++ ·) X = X ++ (List.replicate n c).toArray := fun n => by
    induction n with
    | zero => intro X; simp
    | succ n ih =>
      intro X
      rw [List.replicate_succ, List.foldl_cons, ih, List.replicate_succ]
      apply Array.toList_inj.mp
      simp
  unfold Txt.mul
  have hc : ((n : Int) == 1 || (tx [c]).length == 0) = false := by
    have a : ((n : Int) == 1) = false := by simp; omega
    rw [a]
    rfl
  rw [if_neg (by omega), hc, if_neg (by simp)]
  show (⟨(List.replicate n (tx [c]).cps).foldl (· ++ ·) #[]⟩ : Str) = _
  rw [show (tx [c]).cps = (#[c] : Array Nat) from rfl, h]
  simp [tx]
theorem q_mul {s : String} {c : Nat} (hs : (s : Str) = tx [c]) : eBin mulXT (eLit (.str s)) (eLit (.int 31)) sl S = .ok (.str (tx (List.replicate 31 c))) S := by
  refine q_b (d := .str (tx [c])) (by rw [← hs]; rfl) rfl ?_
  have : mulTx (.str (tx [c])) (.int 31) S = .ok (.str (Txt.mul (tx [c]) 31)) S := by
    unfold mulTx
    dsimp only
    rw [if_pos ⟨by omega, by omega, by rw [tx_len]; simp⟩]
  rw [show mulXT (.str (tx [c])) (.int 31) S = mulTx (.str (tx [c])) (.int 31) S from orS2_r (by rfl), this]
  rw [← mul_rep 31 c (by omega)]
  rfl
theorem q_bar : addX (.str "1/") (.str (tx (List.replicate 31 51))) S = .ok (.str (tx ([49, 47] ++ List.replicate 31 51))) S := eq_of_we (by
  rw [show Str.ofString "1/" = tx [49, 47] from rfl, w_add_str]
  exact ⟨by simp, rfl, rfl⟩)
def signL : List D := [.str "", .str "0", .str "1", .str "2", .str "-", .str "/", .str " ", .str "+", .str "."]
theorem sign_lo (h : d ∈ signL) : ∃ s, d = .str (tx s) ∧ Lo s ∧ s.length ≤ 1 := by
  simp only [signL, List.mem_cons, List.not_mem_nil, or_false] at h
  have one : ∀ c : Nat, c < 128 → Lo [c] := fun c hc x hx => by simp at hx; omega
  rcases h with rfl | rfl | rfl | rfl | rfl | rfl | rfl | rfl | rfl
  · exact ⟨[], rfl, (fun c hc => by cases hc), by simp⟩
  · exact ⟨[48], rfl, one _ (by omega), by simp⟩
  · exact ⟨[49], rfl, one _ (by omega), by simp⟩
  · exact ⟨[50], rfl, one _ (by omega), by simp⟩
  · exact ⟨[45], rfl, one _ (by omega), by simp⟩
  · exact ⟨[47], rfl, one _ (by omega), by simp⟩
  · exact ⟨[32], rfl, one _ (by omega), by simp⟩
  · exact ⟨[43], rfl, one _ (by omega), by simp⟩
  · exact ⟨[46], rfl, one _ (by omega), by simp⟩
def wideL : List D := [.int 12, .int 1000000, .int 999999999999999999999999999999]
theorem wides (h : d ∈ wideL) : ∃ w : Nat, d = .int w ∧ 1 ≤ w ∧ w < 10 ^ 30 := by
  simp only [wideL, List.mem_cons, List.not_mem_nil, or_false] at h
  rcases h with rfl | rfl | rfl
  · exact ⟨12, rfl, by omega, by decide⟩
  · exact ⟨1000000, rfl, by omega, by decide⟩
  · exact ⟨999999999999999999999999999999, rfl, by omega, by decide⟩
theorem num_le {p q : Int} (hq : 0 < q) : (num p q).natAbs ≤ p.natAbs := by
  unfold num
  rw [if_pos hq]
  exact natAbs_ediv_le' (gcd_pos (by omega)) (Int.gcd_dvd_left ..)
theorem den_le {p q : Int} (hq : 0 < q) : (den p q).natAbs ≤ q.natAbs := by
  unfold den
  have : (q.natAbs : Int) = q := Int.natAbs_of_nonneg (by omega)
  rw [this]
  exact natAbs_ediv_le' (gcd_pos (by omega)) (Int.gcd_dvd_right ..)
theorem bd30 {p : Int} (h : p.natAbs ≤ 10 ^ 30) : Bd 100 p := by
  have := pow30
  unfold Bd
  omega
theorem log30 {m : Int} (h : m.natAbs ≤ 2 * 10 ^ 30) : m.natAbs.log2 < 9000 := by
  have : Bd 101 m := by
    have := pow30
    unfold Bd
    have e : (2 : Nat) ^ 101 = 2 * 2 ^ 100 := by rw [Nat.pow_succ, Nat.mul_comm]
    omega
  have := this.log (by omega)
  omega
theorem ratT_lo {p q : Int} : Lo (ratT p q) := fun c hc => by
  have hd : ∀ i : Int, ∀ c ∈ dg i, c < 128 := fun i c hc => by
    rcases dg_cases i with ⟨n, _, e⟩ | ⟨n, _, e⟩
    · rw [e] at hc
      have := dgN_low hc
      omega
    · rw [e] at hc
      rcases List.mem_cons.mp hc with rfl | hc
      · omega
      · have := dgN_low hc
        omega
  unfold ratT at hc
  split at hc
  · exact hd _ _ hc
  · rcases List.mem_append.mp hc with h | h
    · exact hd _ _ h
    · rcases List.mem_cons.mp h with rfl | h
      · omega
      · exact hd _ _ h
theorem tab0 (h : Drawn 2 (ns.take 63) (S0 Ps ns) S) : S[0]? = some (.tab (Ps 0) "_law_reader.<locals>.<lambda>") := by
  obtain ⟨_, a, g, s, rfl⟩ := h
  rfl
theorem tab1 (h : Drawn 2 (ns.take 63) (S0 Ps ns) S) : S[1]? = some (.tab (Ps 1) "law.<locals>.<lambda>") := by
  obtain ⟨_, a, g, s, rfl⟩ := h
  rfl
theorem conv_l0 : conv cnL NL κ [x0, x1, x2, x3, x4, x5, x6, x7, some v, x9, x10, x11] (lamD κ T_law_0) = some (.lamc T_law_0 [v]) :=
  conv_lam (by decide +kernel) (by decide +kernel) (by rfl)
theorem mkL (h : Drawn 2 (ns.take 63) (S0 Ps ns) S) : eLam 1 (Ps 1) κ T_law_0 sl S = .ok (lamD κ T_law_0) S := eq_of_we (by
  rw [w_eLam]
  exact ⟨tab1 h, rfl, rfl⟩)
theorem conv_ask : ∀ xs : List D, convL cnL NL κ sl (xs.map fun x => D.lamc T__law_reader_0 [x]) = some (xs.map fun x => D.lamc T__law_reader_0 [x])
  | [] => convL_n
  | x :: xs => by
    rw [List.map_cons]
    exact convL_c (by simp [conv]) (conv_ask xs)
def toldD (o : Option (Int × Int)) (l : List Nat) : D := match o with
  | some r => itV (ratD r.1 r.2)
  | none => itT (.str (tx l))
theorem told_eq (hS : noLcS S = true) {o : Option (Int × Int)} (h : ∀ S, f_Ratio_read [.str (tx l)] S = outR o l S) : f__law_why Ps [.lamc T_law_0 [.str (tx l)]] S = .ok (toldD o l) S := by
  have hl := lam_bent (h S)
  cases o with
  | none =>
    refine why_exT L_law_0 hS rfl (hl.mono (fun d S' ⟨W, e, _⟩ => by cases e) fun e S' h => ⟨h.2.1, h.2.2⟩) rfl
  | some W =>
    refine why_okT L_law_0 hS rfl ?_ under_ratD
    refine eq_of_we (hl.mono (fun d S' ⟨V, e, h1, h2⟩ => ?_) fun e S' h => by cases h.1)
    cases e
    exact ⟨h1, h2⟩
theorem noLc_told {o : Option (Int × Int)} : noLc (toldD o l) = true := by
  cases o with
  | none => rfl
  | some W =>
    show noLc (itV (ratD W.1 W.2)) = true
    simp [itV, noLc, noLcL, noLc_rat]
theorem told_call (hD : Drawn 2 (ns.take 63) (S0 Ps ns) S) {o : Option (Int × Int)} (h : ∀ S, f_Ratio_read [.str (tx l)] S = outR o l S) : callL cnL NL κ (f__law_why Ps) (aCons (eLam 1 (Ps 1) κ T_law_0) aNil) [x0, x1, x2, x3, x4, x5, x6, x7, some (.str (tx l)), x9, x10, x11] S = .ok (toldD o l) S := eq_of_we (by
  have hS := noLcS_drawn (noLc_S0 ns) hD
  rw [w_callL, q_c (mkL hD) q_0, we_ok]
  rw [convL_c conv_l0 convL_n, isO_some, told_eq hS h, we_ok]
  exact ⟨⟨noLc_told, hS⟩, rfl, rfl⟩)
theorem told0 {o : Option (Int × Int)} {i : Nat} (h : sl[i]? = some (some (toldD o l))) : eBin ixX (eName i) (eLit (.int 0)) sl S = .ok (.str (match o with | some _ => "value" | none => "InvalidText")) S := by
  refine q_b (q_n h) rfl (eq_of_we ?_)
  cases o <;> simp [toldD, itV, itT]
/-- the asked, at the end -/
theorem asks_eq (hD : Drawn 2 (ns.take 63) (S0 Ps ns) S) : eFin (eLc (itAny (eName 10)) (gSet 11) bTrue (eArgs (f__law_reader Ps) (aCons (eName 11) aNil)) [11]) [x0, x1, x2, x3, x4, x5, x6, x7, x8, x9, some (.lst oddL), x11] S = .ok (.lst (oddL.map fun x => .lamc T__law_reader_0 [x])) S := by
  have p1 := lcF_eq (S := S) (sl := [x0, x1, x2, x3, x4, x5, x6, x7, x8, x9, some (.lst oddL), x11]) (it := itAny (eName 10)) (g := gSet 11) (bt := bTrue) (fe := eArgs (f__law_reader Ps) (aCons (eName 11) aNil)) (own := [11]) (xs := oddL) (fun _ => true) (fun x => .lamc T__law_reader_0 [x]) (itAny_of (eName_of rfl) (by simp)) (by rw [odd_len]; omega) (fun acc => by simp) (fun d hd acc => by
    refine ⟨[x0, x1, x2, x3, x4, x5, x6, x7, x8, x9, some (.lst oddL), some d], rfl, rfl, fun _ => ?_⟩
    refine q_a (q_c (q_n rfl) q_0) (reader_eq ?_ (under_of (ref_all d hd).u))
    have h0 := tab0 hD
    have hlt := (List.getElem?_eq_some_iff.mp h0).1
    rw [List.getElem?_append_left hlt]
    exact h0) (fun d hd _ => by
    rw [under]
    simp [under_of (ref_all d hd).u])
  have e : ∀ xs : List D, (xs.filter fun _ => true) = xs := fun xs => by simp
  rw [e] at p1
  exact p1
theorem wants_eq : eFin (eLc (itAny (eName 10)) (gSet 11) bTrue (eArgs semTup (aCons (eLit (.str "InvalidText")) (aCons (eName 11) aNil))) [11]) [x0, x1, x2, x3, x4, x5, x6, x7, x8, x9, some (.lst oddL), x11] S = .ok (.lst (oddL.map itT)) S := by
  have p1 := lcF_eq (S := S) (sl := [x0, x1, x2, x3, x4, x5, x6, x7, x8, x9, some (.lst oddL), x11]) (it := itAny (eName 10)) (g := gSet 11) (bt := bTrue) (fe := eArgs semTup (aCons (eLit (.str "InvalidText")) (aCons (eName 11) aNil))) (own := [11]) (xs := oddL) (fun _ => true) itT (itAny_of (eName_of rfl) (by simp)) (by rw [odd_len]; omega) (fun acc => by simp) (fun d hd acc => by
    refine ⟨[x0, x1, x2, x3, x4, x5, x6, x7, x8, x9, some (.lst oddL), some d], rfl, rfl, fun _ => ?_⟩
    exact q_tup (q_c rfl (q_c (q_n rfl) q_0)) (by simp)) (fun d hd _ => by
    unfold itT
    simp [under_of (ref_all d hd).u])
  have e : ∀ xs : List D, (xs.filter fun _ => true) = xs := fun xs => by simp
  rw [e] at p1
  exact p1
theorem noLc_its : ∀ xs : List D, (∀ x ∈ xs, Refused x) → noLcL (xs.map itT) = true
  | [], _ => rfl
  | x :: xs, h => by
    rw [List.map_cons, noLcL, noLc_its xs fun y hy => h y (by simp [hy])]
    have := (h x (by simp)).n
    simp [itT, noLc, noLcL, this]
theorem whys_call (hD : Drawn 2 (ns.take 63) (S0 Ps ns) S) : callL cnL NL κ (f__law_whys Ps) (aCons (eFin (eLc (itAny (eName 10)) (gSet 11) bTrue (eArgs (f__law_reader Ps) (aCons (eName 11) aNil)) [11])) aNil) [x0, x1, x2, x3, x4, x5, x6, x7, x8, x9, some (.lst oddL), x11] S = .ok (.lst (oddL.map itT)) S := eq_of_we (by
  have hS := noLcS_drawn (noLc_S0 ns) hD
  rw [w_callL, q_c (asks_eq hD) q_0, we_ok]
  rw [convL_c (conv_lst (conv_ask oddL)) convL_n, isO_some, whys_all hS (by rw [odd_len]; omega) (fun x hx => ⟨(ref_all x hx).no, (ref_all x hx).u, (ref_all x hx).n⟩), we_ok]
  exact ⟨⟨by rw [noLc]; exact noLc_its _ ref_all, hS⟩, rfl, rfl⟩)
end
end K04
namespace K04
open PySem PySem.Spec L2 Z ZM TL
variable {Ps : Nat → Addr} {κ : List (Str × Addr)} {S : Store}
theorem law_we (Ps : Nat → Addr) (κ : List (Str × Addr)) (ns : List Int) : We (defS 12 (m_law Ps κ) [.scr ns] (tabsOf (tabL Ps))) (fun d S => d = .bl true) (fun _ _ => False) := by
  rw [we_defS]
  unfold m_law
  refine wo_cut (fun sl S1 => S1 = S0 Ps ns ∧ sl = [some (.scr ns), some (.ptr 2), none, none, none, none, none, none, none, none, none, none]) ?_ ?_
  · rw [w_sAsg, w_eArgs, w_aCons, w_eName]
    refine ⟨_, rfl, ?_⟩
    rw [w_aNil]
    refine bag_startT ns _ ?_
    rw [w_gSet]
    exact ⟨rfl, rfl⟩
  rintro sl S1 ⟨rfl, rfl⟩
  have hB0 := bag_S0 (Ps := Ps) ns
  refine wo_cut (fun sl S2 => Drawn 2 (ns.take 63) (S0 Ps ns) S2 ∧ ∃ x2 x3 x4 x5 x6 x7 x8 x9 x10 x11, sl = [some (.scr ns), some (.ptr 2), x2, x3, x4, x5, x6, x7, x8, x9, x10, x11]) ?_ ?_
  · have h60 : (8 : Nat) < 2 ^ 60 := by decide
    refine wo_range (itR1 (k := 8) rfl h60) (fun i sl S2 => Drawn 2 (ns.take 63) (S0 Ps ns) S2 ∧ ∃ x2 x3 x4 x5 x6 x7 x8 x9 x10 x11, sl = [some (.scr ns), some (.ptr 2), x2, x3, x4, x5, x6, x7, x8, x9, x10, x11]) ⟨Drawn.refl hB0, _, _, _, _, _, _, _, _, _, _, rfl⟩ ?_ ?_
    · rintro i sl S2 hi ⟨hD2, x2, x3, x4, x5, x6, x7, x8, x9, x10, x11, rfl⟩
      rw [w_gSet]
      generalize D.int ((0 : Int) + (i : Int)) = dturn
      refine wo_cut (fun sl S3 => Drawn 2 (ns.take 63) (S0 Ps ns) S3 ∧ ∃ w : Nat, 1 ≤ w ∧ w < 10 ^ 30 ∧ sl = [some (.scr ns), some (.ptr 2), some dturn, some (.int w), x4, x5, x6, x7, x8, x9, x10, x11]) ?_ ?_
      · show Wo (sAsg _ _ [some (.scr ns), some (.ptr 2), some dturn, x3, x4, x5, x6, x7, x8, x9, x10, x11] S2) _
        have p6 : ∀ T, powI (.int 10) (.int 6) T = .ok (.int 1000000) T := fun T => rfl
        have p30 : ∀ T, powI (.int 10) (.int 30) T = .ok (.int 1000000000000000000000000000000) T := fun T => rfl
        have s1 : ∀ T, subI (.int 1000000000000000000000000000000) (.int 1) T = .ok (.int 999999999999999999999999999999) T := fun T => rfl
        have hq := q_lst (ds := wideL) (S := S2) (sl := [some (.scr ns), some (.ptr 2), some dturn, x3, x4, x5, x6, x7, x8, x9, x10, x11])
          (q_c (f := eLit (.int 12)) rfl (q_c (q_b (f1 := eLit (.int 10)) (f2 := eLit (.int 6)) rfl rfl (p6 _)) (q_c (q_b (f2 := eLit (.int 1)) (q_b (f1 := eLit (.int 10)) (f2 := eLit (.int 30)) rfl rfl (p30 _)) rfl (s1 _)) q_0))) (by simp [wideL])
        rw [w_sAsg, w_eArgs, q_c (q_n rfl) (q_c hq q_0), we_ok]
        refine (of_df (by simp [wideL]) (by simp [wideL]) (by rfl)).we hD2.1 fun d S3 hd hD3 => ?_
        obtain ⟨w, rfl, h1, h2⟩ := wides hd
        rw [w_gSet]
        exact ⟨hD2.trans hD3, w, h1, h2, rfl⟩
      rintro sl S3 ⟨hD3, w, hw1, hw2, rfl⟩
      refine wo_cut (fun sl S4 => Drawn 2 (ns.take 63) (S0 Ps ns) S4 ∧ ∃ p q : Int, LT 200 p q ∧ p.natAbs < 10 ^ 30 ∧ q.natAbs < 10 ^ 30 ∧ sl = [some (.scr ns), some (.ptr 2), some dturn, some (.int w), some (pairD p q), x5, x6, x7, x8, x9, x10, x11]) ?_ ?_
      · have m2 : ∀ (sl : Sl) T, sl[3]? = some (some (.int w)) → eBin mulXT (eLit (.int 2)) (eName 3) sl T = .ok (.int (2 * (w : Int))) T := fun sl T h => q_b rfl (q_n h) (orS2_l (mulB_of T (n := 2) (m := 100) (by unfold Bd; decide) (bd30 (by omega)) (by omega) (by omega) (by omega)))
        rw [w_sAsg, w_eArgs, w_aCons, w_eBin, w_eArgs, q_c (q_n rfl) (q_c (m2 _ _ rfl) q_0), we_ok]
        refine (pick_dfB (by omega) (log30 (by omega))).we hD3.1 fun d S4 ⟨a, ha, e⟩ hD4 => ?_
        subst e
        rw [q_n rfl, we_ok, show subI (.int (a : Int)) (.int (w : Int)) S4 = .ok (.int ((a : Int) - w)) S4 from eq_of_we (by simp), we_ok, w_aCons, w_eBin, show eLit (.int 1) [some (.scr ns), some (.ptr 2), some dturn, some (.int w), x4, x5, x6, x7, x8, x9, x10, x11] S4 = .ok (.int 1) S4 from rfl, we_ok, w_eArgs, q_c (q_n rfl) (q_c (q_n rfl) q_0), we_ok]
        refine (pick_dfB (by omega) (log30 (by omega))).we (hD3.trans hD4).1 fun d S5 ⟨b, hb, e⟩ hD5 => ?_
        subst e
        rw [show addX (.int 1) (.int (b : Int)) S5 = .ok (.int (1 + (b : Int))) S5 from eq_of_we (by simp), we_ok, q_0, we_ok]
        have b1 : Bd 100 ((a : Int) - w) := bd30 (by omega)
        have b2 : Bd 100 (1 + (b : Int)) := bd30 (by omega)
        rw [frac_eq b1 b2 (by omega) (by omega) (by omega), we_ok, w_gSet]
        have n1 := num_le (p := (a : Int) - w) (q := 1 + (b : Int)) (by omega)
        have n2 := den_le (p := (a : Int) - w) (q := 1 + (b : Int)) (by omega)
        exact ⟨(hD3.trans hD4).trans hD5, _, _, LT.of b1 b2 (by omega), by omega, by omega, rfl⟩
      rintro sl S4 ⟨hD4, p, q, hlt, hp, hq, rfl⟩
      have hlen : (ratT p q).length ≤ 500 := by
        have := ratT_len hlt.up hlt.dn
        omega
      have hread := readP_ratT hlt hp hq
      have hlow := ratT_lo (p := p) (q := q)
      refine wo_cut (fun sl S5 => S5 = S4 ∧ sl = [some (.scr ns), some (.ptr 2), some dturn, some (.int w), some (pairD p q), some (.str (tx (ratT p q))), x6, x7, x8, x9, x10, x11]) (wo_set (q_a (q_c (q_n rfl) q_0) (ltext_eq hlt (by omega))) ⟨rfl, rfl⟩) ?_
      rintro sl S5 ⟨rfl, rfl⟩
      generalize hsh : ratT p q = sh at *
      have oksh : okS sh := okS_lo hlow
      refine wo_cut (fun sl S6 => S6 = S5 ∧ sl = [some (.scr ns), some (.ptr 2), some dturn, some (.int w), some (pairD p q), some (.str (tx sh)), x6, x7, x8, x9, x10, x11]) ?_ ?_
      · have hr : f_Ratio_read [.str (tx sh)] S5 = .ok (ratD p q) S5 := by
          rw [read_eq hlow (by omega), hread]
          rfl
        exact wo_ask (q_a (q_c (q_a (q_c (q_a (q_c (q_n rfl) q_0) hr) q_0) pair_eq) (q_c (q_n rfl) q_0)) (same_eq plain_pair)) ⟨rfl, rfl⟩
      rintro sl S6 ⟨rfl, rfl⟩
      refine wo_cut (fun sl S7 => Drawn 2 (ns.take 63) (S0 Ps ns) S7 ∧ ∃ (k : Nat) (s : List Nat), Lo s ∧ s.length ≤ 1 ∧ sl = [some (.scr ns), some (.ptr 2), some dturn, some (.int w), some (pairD p q), some (.str (tx sh)), some (.int k), some (.str (tx s)), x8, x9, x10, x11]) ?_ ?_
      · have hn : eBin addX (eArgs lenX (aCons (eName 5) aNil)) (eLit (.int 1)) [some (.scr ns), some (.ptr 2), some dturn, some (.int w), some (pairD p q), some (.str (tx sh)), x6, x7, x8, x9, x10, x11] S6 = .ok (.int ((sh.length : Int) + 1)) S6 := eq_of_we (by
          have i3 : sh.length ≤ 1000000 := by omega
          simp [i3])
        rw [w_sPar2, w_eArgs, q_c (q_n rfl) (q_c hn q_0), we_ok]
        refine (pick_df (by omega) (by omega)).we hD4.1 fun d S7 ⟨k, hk, e⟩ hD7 => ?_
        subst e
        have hq := q_lst (ds := signL) (S := S7) (sl := [some (.scr ns), some (.ptr 2), some dturn, some (.int w), some (pairD p q), some (.str (tx sh)), x6, x7, x8, x9, x10, x11])
          (q_c (f := eLit (.str "")) rfl (q_c (f := eLit (.str "0")) rfl (q_c (f := eLit (.str "1")) rfl (q_c (f := eLit (.str "2")) rfl (q_c (f := eLit (.str "-")) rfl (q_c (f := eLit (.str "/")) rfl (q_c (f := eLit (.str " ")) rfl (q_c (f := eLit (.str "+")) rfl (q_c (f := eLit (.str ".")) rfl q_0))))))))) (by simp [signL])
        rw [w_eArgs, q_c (q_n rfl) (q_c hq q_0), we_ok]
        refine (of_df (by simp [signL]) (by simp [signL]) (by rfl)).we (hD4.trans hD7).1 fun d S8 hd hD8 => ?_
        obtain ⟨s, rfl, hs1, hs2⟩ := sign_lo hd
        exact ⟨(hD4.trans hD7).trans hD8, k, s, hs1, hs2, rfl⟩
      rintro sl S7 ⟨hD7, k, s, hs1, hs2, rfl⟩
      refine wo_cut (fun sl S8 => Drawn 2 (ns.take 63) (S0 Ps ns) S8 ∧ ∃ b : List Nat, Lo b ∧ b.length ≤ 1000 ∧ sl = [some (.scr ns), some (.ptr 2), some dturn, some (.int w), some (pairD p q), some (.str (tx sh)), some (.int k), some (.str (tx s)), some (.str (tx b)), x9, x10, x11]) ?_ ?_
      · have a1 : eSl false (eName 5) oNone (oInt (eName 6)) [some (.scr ns), some (.ptr 2), some dturn, some (.int w), some (pairD p q), some (.str (tx sh)), some (.int k), some (.str (tx s)), x8, x9, x10, x11] S7 = .ok (.str (tx (sh.take k))) S7 := q_sl (q_n rfl) rfl (q_oI (q_n rfl)) (by omega) (cutS_to sh k)
        have a2 : eBin addX (eSl false (eName 5) oNone (oInt (eName 6))) (eName 7) [some (.scr ns), some (.ptr 2), some dturn, some (.int w), some (pairD p q), some (.str (tx sh)), some (.int k), some (.str (tx s)), x8, x9, x10, x11] S7 = .ok (.str (tx (sh.take k ++ s))) S7 := q_b a1 (q_n rfl) (eq_of_we (by
          rw [w_add_str]
          exact ⟨by simp; omega, rfl, rfl⟩))
        rw [w_sAsg, w_eBin, a2, we_ok, w_eSl, q_n rfl, we_ok, w_oInt, w_eBin, q_n rfl, we_ok, w_eArgs, q_c (q_n rfl) (q_c rfl q_0), we_ok]
        refine (pick_df (by omega) (by omega)).we hD7.1 fun d S8 ⟨j, hj, e⟩ hD8 => ?_
        subst e
        have e3 : addX (.int (k : Int)) (.int (j : Int)) S8 = .ok (.int ((k + j : Nat) : Int)) S8 := eq_of_we (by simp)
        rw [e3, we_ok]
        refine ⟨_, rfl, ?_⟩
        rw [show oNone [some (D.scr ns), some (D.ptr 2), some dturn, some (D.int w), some (pairD p q), some (D.str (tx sh)), some (D.int k), some (D.str (tx s)), x8, x9, x10, x11] S8 = .ok none S8 from rfl, we_ok, w_sl_str, cutS_from]
        refine ⟨by omega, ?_⟩
        rw [w_add_str]
        refine ⟨by simp; omega, ?_⟩
        rw [w_gSet]
        refine ⟨hD7.trans hD8, sh.take k ++ s ++ sh.drop (k + j), fun c hc => ?_, ?_, rfl⟩
        · rcases List.mem_append.mp hc with h | h
          · rcases List.mem_append.mp h with h | h
            · exact hlow c (List.mem_of_mem_take h)
            · exact hs1 c h
          · exact hlow c (List.mem_of_mem_drop h)
        · simp
          omega
      rintro sl S8 ⟨hD8, b, hb1, hb2, rfl⟩
      have rdB : ∀ S, f_Ratio_read [.str (tx b)] S = outR (readP b) b S := fun S => read_eq hb1 hb2
      have okb : okS b := okS_lo hb1
      refine wo_cut (fun sl S9 => S9 = S8 ∧ sl = [some (.scr ns), some (.ptr 2), some dturn, some (.int w), some (pairD p q), some (.str (tx sh)), some (.int k), some (.str (tx s)), some (.str (tx b)), some (toldD (readP b) b), x10, x11]) (wo_set (told_call hD8 rdB) ⟨rfl, rfl⟩) ?_
      rintro sl S9 ⟨rfl, rfl⟩
      have t0 := told0 (S := S9) (sl := [some (.scr ns), some (.ptr 2), some dturn, some (.int w), some (pairD p q), some (.str (tx sh)), some (.int k), some (.str (tx s)), some (.str (tx b)), some (toldD (readP b) b), x10, x11]) (o := readP b) (l := b) (i := 9) rfl
      have done : Drawn 2 (ns.take 63) (S0 Ps ns) S9 ∧ ∃ y2 y3 y4 y5 y6 y7 y8 y9 y10 y11, [some (.scr ns), some (.ptr 2), some dturn, some (.int w), some (pairD p q), some (.str (tx sh)), some (.int k), some (.str (tx s)), some (.str (tx b)), some (toldD (readP b) b), x10, x11] = [some (.scr ns), some (.ptr 2), y2, y3, y4, y5, y6, y7, y8, y9, y10, y11] := ⟨hD8, _, _, _, _, _, _, _, _, _, _, rfl⟩
      cases ho : readP b with
      | some r =>
        rw [ho] at t0 done
        have c0 : eqD false (.str "value") (.str "value") S9 = .ok (.bl true) S9 := eq_of_we (by simp)
        have tV := (readP_text ho).1
        have hlt2 := readP_lt (p := r.1) (q := r.2) ho
        have x1 : eBin ixX (eName 9) (eLit (.int 1)) [some (.scr ns), some (.ptr 2), some dturn, some (.int w), some (pairD p q), some (.str (tx sh)), some (.int k), some (.str (tx s)), some (.str (tx b)), some (toldD (some r) b), x10, x11] S9 = .ok (ratD r.1 r.2) S9 := q_b (q_n rfl) rfl (eq_of_we (by simp [toldD, itV]))
        have ht := q_a (q_c (q_a (q_c x1 q_0) pair_eq) q_0) (ltext_eq hlt2 (by omega))
        rw [tV] at ht
        have e1 := neD_str (S := S9) okb okb
        simp only [decide_true, Bool.not_true] at e1
        rw [w_sIf, w_bVal, q_b t0 rfl c0, we_ok, isB_bl, if_pos rfl, w_sIf, w_bVal, q_b ht (q_n rfl) e1, we_ok, isB_bl, if_neg (by simp), w_sNil]
        exact done
      | none =>
        rw [ho] at t0 done
        have c0 : eqD false (.str "InvalidText") (.str "value") S9 = .ok (.bl false) S9 := eq_of_we (by simp)
        have hne : b ≠ sh := fun e => by
          rw [e, hread] at ho
          cases ho
        have e1 := eqD_str (S := S9) okb oksh
        have hp : Z.plain 11 (toldD none b) := by
          show Z.plain 11 (.tup [.str "InvalidText", .str (tx b)])
          rw [Z.plain]
          refine ⟨plainL_iff.mpr fun y hy => ?_, by simp⟩
          simp at hy
          rcases hy with rfl | rfl
          · simp [Z.plain, okS_lit]
          · simpa using okb
        rw [w_sIf, w_bVal, q_b t0 rfl c0, we_ok, isB_bl, if_neg (by simp), w_sIf, w_bOr, w_bNot, w_bVal, q_a (q_c (q_n (d := toldD none b) rfl) (q_c (q_tup (q_c rfl (q_c (q_n rfl) q_0)) (by simp)) q_0)) (same_eq hp), we_ok, isB_bl, if_neg (by simp), w_bVal, q_b (q_n rfl) (q_n rfl) e1, we_ok, isB_bl, decide_eq_false hne, if_neg (by simp), w_sNil]
        exact done
    · rintro sl S2 h
      exact h
  rintro sl S2 ⟨hD, x2, x3, x4, x5, x6, x7, x8, x9, x10, x11, rfl⟩
  refine wo_cut (fun sl S3 => S3 = S2 ∧ sl = [some (.scr ns), some (.ptr 2), x2, x3, x4, x5, x6, x7, x8, x9, some (.lst odd1), x11]) ?_ ?_
  · exact wo_set (q_lst (q_c (f := eLit (.str "")) rfl (q_c (f := eLit (.str "-")) rfl (q_c (f := eLit (.str "/")) rfl (q_c (f := eLit (.str "1/")) rfl (q_c (f := eLit (.str "/2")) rfl (q_c (f := eLit (.str "2/4")) rfl (q_c (f := eLit (.str "3/1")) rfl (q_c (f := eLit (.str "1/0")) rfl (q_c (f := eLit (.str "0/3")) rfl (q_c (f := eLit (.str "-0")) rfl (q_c (f := eLit (.str "00")) rfl (q_c (f := eLit (.str "01")) rfl (q_c (f := eLit (.str "1/02")) rfl (q_c (f := eLit (.str "+1")) rfl (q_c (f := eLit (.str " 1")) rfl q_0))))))))))))))) (by simp)) ⟨rfl, rfl⟩
  rintro sl S3 ⟨rfl, rfl⟩
  refine wo_cut (fun sl S4 => S4 = S3 ∧ sl = [some (.scr ns), some (.ptr 2), x2, x3, x4, x5, x6, x7, x8, x9, some (.lst (odd1 ++ odd2)), x11]) ?_ ?_
  · exact wo_set (q_add (q_n rfl) (q_lst (ds := odd2) (q_c (f := eLit (.str "1 ")) rfl (q_c (f := eLit (.str "1/-2")) rfl (q_c (f := eLit (.str "--1")) rfl q_0))) (by simp [odd2])) (by simp [odd1, odd2])) ⟨rfl, rfl⟩
  rintro sl S4 ⟨rfl, rfl⟩
  refine wo_cut (fun sl S5 => S5 = S4 ∧ sl = [some (.scr ns), some (.ptr 2), x2, x3, x4, x5, x6, x7, x8, x9, some (.lst oddL), x11]) ?_ ?_
  · exact wo_set (q_add (q_n rfl) (q_lst (ds := odd3) (q_c (f := eLit (.str "1/2/3")) rfl (q_c (f := eLit (.str "1.5")) rfl (q_c (f := eLit (.str "a")) rfl (q_c (f := eLit (.str "-1/-2")) rfl (q_c (q_mul (c := 49) rfl) (q_c (q_b rfl (q_mul (c := 51) rfl) q_bar) (q_c (f := eLit .non) rfl (q_c (f := eLit (.int 1)) rfl (q_c (f := eLit (.bl true)) rfl (q_c (q_tup (q_c (f := eLit (.str "1")) rfl q_0) (by simp)) (q_c (q_lst (q_c (f := eLit (.str "1")) rfl q_0) (by simp)) q_0))))))))))) (by simp [odd3])) (by simp [odd1, odd2, odd3])) ⟨rfl, rfl⟩
  rintro sl S5 ⟨rfl, rfl⟩
  rw [w_sRet, q_a (q_c (whys_call hD) (q_c wants_eq q_0)) (same_eq (plain_its ref_all (by rw [odd_len]; omega))), we_ok, qf_rt]
  obtain ⟨_, a, g, s, rfl⟩ := hD
  have e : (S0 Ps ns).set 2 (bagD (ns.take 63) a g s) = tabsOf (tabL Ps) ++ [bagD (ns.take 63) a g s] := rfl
  rw [e]
  exact finP_app (Keep.refl _) rfl rfl
theorem law_ok : ∀ (Ps : Nat → Addr) (ns : List Int), ns.length ≤ 63 → (∀ z ∈ ns, Builtin.Int.intBits z ≤ 1048576) → ∀ (κ : List (Str × Addr)), ∃ S, defS 12 (m_law Ps κ) [.scr ns] (tabsOf [(Ps 0, "_law_reader.<locals>.<lambda>"), (Ps 1, "law.<locals>.<lambda>")]) = .ok (.bl true) S := fun Ps ns _ _ κ => by
  obtain ⟨a, S', e, rfl⟩ := (law_we Ps κ ns).get
  exact ⟨S', e⟩
end K04
open PySem PySem.W PySem.Calls PyProof.Rows
set_option maxRecDepth 100000 in
set_option maxHeartbeats 0 in
theorem PySem.Challenge.cw_waysagree_k04_texts_of_ratios_holds : PySem.Challenge.rw_waysagree_k04_texts_of_ratios.Holds := by
  w_on; o_law
  refine HandSHeadRun.head_any (r := OpenLaw.row PySem.Challenge.rw_waysagree_k04_texts_of_ratios) (q := K04.qv) (H := K04.hkZ) (ob := K04.obZ) (M := 40000) (loose := K04.looseN) (d := HandSHeadRun.topDef (OpenLaw.row PySem.Challenge.rw_waysagree_k04_texts_of_ratios).prog 30) (kwd := []) K04.obZ_eq (by kernel_rfl) (fun s => by kernel_rfl) K04.runZ (by kernel_rfl) (by kernel_rfl) (by kernel_rfl) (by rfl) (by first | assumption | decide +kernel) (by decide +kernel) ⟨rfl, rfl, rfl, rfl, rfl, by decide +kernel⟩ ?hw ?hc
  case hw => w_witness2
  case hc =>
    refine LamX.walk_ofTsE (l := PySem.Challenge.rw_waysagree_k04_texts_of_ratios) (n := 63) (k := 14) (x := "_law_script") (CX := fun w => Z.CX (PySem.Challenge.rw_waysagree_k04_texts_of_ratios).prog w) rfl (by decide) (by kernel_rfl) ⟨rfl, by decide, by decide⟩ ?F (fun _ _ _ _ _ z => Z.cx_false z)
    intro w mg fa h Y G hmg0
    obtain ⟨K, KX, c⟩ := Y
    have hmg : mg ("law" : PySem.Str) = some (.ref fa) := by
      have e : (HandSHeadRun.topDef (OpenLaw.row PySem.Challenge.rw_waysagree_k04_texts_of_ratios).prog 30).name = ("law" : PySem.Str) := by kernel_rfl
      rw [← e]
      exact hmg0
    exact ⟨K, KX, K04.end_ K04.law_ok KX G hmg c⟩
