import PyProof.Rows.All
import Wide.All
import OpenK.AllK
import Wide.FinOn
import HandS.ForMost
import HandS.Exc
import HandS.IsInst
import HandS.Walk
import HandS.Star
import HandS.CallSlots
import HandS.ExcOwn
import HandS.Property
import HandS.WordsExc
import HandS.Wide
import HandS.TupAny
import HandS.TupMul
import HandS.WordsDict
import HandS.Zip
import HandS.Rev
import KE.GoesMore
import KE.GoesZip
import KE.GoesEnum
import HandS.Small
import HandS.StrMore
import HandS.Comp
import HandS.Iter
import KE.SortData
import KE.KDictSum
import PyProof.CollectStr
import HandS.More
import PySem.Challenge.RW_waysagree_k51_texts_read
set_option Elab.async false
set_option linter.all false
set_option maxRecDepth 100000
set_option maxHeartbeats 4000000
/-! Z0: values as data, mutable things by handles in a store; what a value of the heap stands for; readings by functions on data. -/
namespace Z
open PySem PySem.Spec L2

inductive D where
  | non
  | bl (b : Bool)
  | int (i : Int)
  | str (s : Str)
  | ty (n : String)
  | cls (c : Str)
  | tup (xs : List D)
  | lst (xs : List D)
  | dct (ks vs : List D)
  | ins (c : Str) (ns : List Str) (vs : List D)
  | ptr (n : Nat)
  /-- the script: a list of ints that nobody changes -/
  | scr (xs : List Int)

/-- a mutable thing; lk: it is being walked (read only) -/
inductive MO where
  | lst (xs : List D)
  | dct (lk : Bool) (ks vs : List D)
  | ins (c : Str) (ns : List Str) (vs : List D)
abbrev Store := List MO

inductive Out (α : Type) where
  | ok (a : α) (S : Store)
  | ex (e : D) (S : Store)
  | bad
def Out.bind {α β : Type} (o : Out α) (k : α → Store → Out β) : Out β := match o with
  | .ok a S => k a S
  | .ex e S => .ex e S
  | .bad => .bad
abbrev Sl := List (Option D)
abbrev EX := Sl → Store → Out D
abbrev AX := Sl → Store → Out (List D)
abbrev BX := Sl → Store → Out Bool
/-- a statement's end -/
inductive SO where
  | nx (sl : Sl) (S : Store)
  | bk (sl : Sl) (S : Store)
  | ct (sl : Sl) (S : Store)
  | rt (d : D) (S : Store)
  | ex (e : D) (sl : Sl) (S : Store)
  | bad
abbrev SX := Sl → Store → SO

/-! ### what a value stands for -/
section
variable (K : PySem.W.Frag) (mg : Str → Option Value) (ρ : List Addr) (H : Hp)
/-- a list, a tuple of the written part -/
def KLst (a : Addr) (vs : List V) : Prop := ∃ (o : Obj) (its : Array Value) (n : Nat), K.lookup a = some o ∧ o.cls = .type "list" ∧ o.dict = none ∧ o.data = .seq its n ∧ its.size ≤ sizeLine ∧ Vals vs its.toList
def KTup (a : Addr) (vs : List V) : Prop := ∃ (o : Obj) (its : Array Value) (n : Nat), K.lookup a = some o ∧ o.cls = .type "tuple" ∧ o.data = .seq its n ∧ its.size ≤ sizeLine ∧ Vals vs its.toList
def ScrAt (a : Addr) (vs : List V) : Prop := (a ∉ ρ ∧ Rd H a (.lst vs)) ∨ KLst K a vs
def LstAt (a : Addr) (vs : List V) : Prop := a ∉ ρ ∧ H a = some (.lst vs)
def TupAt (a : Addr) (vs : List V) : Prop := (a ∉ ρ ∧ H a = some (.tup vs)) ∨ KTup K a vs
/-- a dict whose keys are ints and texts -/
def DctAt (a : Addr) (ks vs : List V) : Prop := a ∉ ρ ∧ ∃ kvs : List (Key × V), Rd H a (.dK kvs) ∧ ks = kvs.map (fun p => kV p.1) ∧ vs = kvs.map (·.2)
mutual
def Rep : D → V → Prop
  | .non, v => v = .non
  | .bl b, v => v = .bl b
  | .int i, v => v = .int i
  | .str s, v => v = .str s
  | .ty n, v => v = .ty n
  | .cls c, v => ∃ C, mg c = some (.ref C) ∧ v = .ref C
  | .tup ds, v => ∃ a vs, v = .ref a ∧ TupAt K ρ H a vs ∧ RepL ds vs
  | .lst ds, v => ∃ a vs, v = .ref a ∧ LstAt ρ H a vs ∧ RepL ds vs
  | .dct ks ds, v => ∃ a kv vs, v = .ref a ∧ DctAt ρ H a kv vs ∧ RepL ks kv ∧ RepL ds vs
  | .ins c ns ds, v => ∃ a C dx fs, v = .ref a ∧ a ∉ ρ ∧ mg c = some (.ref C) ∧ H a = some (.ins C dx fs) ∧ fs.map (·.1) = ns ∧ RepL ds (fs.map (·.2))
  | .ptr n, v => ∃ a, v = .ref a ∧ ρ[n]? = some a
  | .scr xs, v => ∃ a, v = .ref a ∧ ScrAt K ρ H a (xs.map V.int)
def RepL : List D → List V → Prop
  | [], vs => vs = []
  | d :: ds, vs => ∃ v r, vs = v :: r ∧ Rep d v ∧ RepL ds r
end
def MRep (a : Addr) : MO → Prop
  | .lst ds => ∃ vs, H a = some (.lst vs) ∧ RepL K mg ρ H ds vs
  | .dct lk ks ds => ∃ kvs : List (Key × V), (if lk = true then Rd H a (.dK kvs) else H a = some (.dK kvs)) ∧ RepL K mg ρ H ks (kvs.map (fun p => kV p.1)) ∧ RepL K mg ρ H ds (kvs.map (·.2))
  | .ins c ns ds => ∃ C dx fs, mg c = some (.ref C) ∧ H a = some (.ins C dx fs) ∧ fs.map (·.1) = ns ∧ RepL K mg ρ H ds (fs.map (·.2))
/-- the store is held: the n-th thing stands at the n-th address -/
structure WOk (S : Store) : Prop where
  len : ρ.length = S.length
  nd : ρ.Nodup
  tr : ∀ a ∈ ρ, H a ≠ none
  ob : ∀ (n : Nat) a m, ρ[n]? = some a → S[n]? = some m → MRep K mg ρ H a m
/-- the slots -/
structure RSt (σ : St) (sl : Sl) : Prop where
  len : σ.length = sl.length
  at_ : ∀ (i : Nat) d, sl[i]? = some (some d) → ∃ v, σ[i]? = some (some v) ∧ Rep K mg ρ H d v
/-- an exception of the class c with its fields, its class at C, its own dict at dd -/
def ExRep (e : D) (C : Value) (dd : Option Addr) : Prop := ∃ c ns ds Ca da fs, e = .ins c ns ds ∧ mg c = some (.ref Ca) ∧ C = .ref Ca ∧ dd = some da ∧ da ∉ ρ ∧ H da = some (.xd fs) ∧ fs.map (·.1) = ns ∧ RepL K mg ρ H ds (fs.map (·.2))
end
/-- new handles are new; all but the handles' things stay -/
structure Ext (ρ : List Addr) (H : Hp) (ρ' : List Addr) (H' : Hp) : Prop where
  pre : ∃ t, ρ' = ρ ++ t
  new : ∀ a ∈ ρ', a ∉ ρ → H a = none
  /-- a dict may be locked for good -/
  keep : ∀ a o, a ∉ ρ → H a = some o → H' a = some o ∨ ((∃ kvs, o = .dK kvs) ∧ ∃ od, H' a = some (.frz od o))

section
variable {K : PySem.W.Frag} {mg : Str → Option Value} {ρ ρ' ρ'' : List Addr} {H H' H'' : Hp}
theorem Ext.refl : Ext ρ H ρ H := ⟨⟨[], by simp⟩, fun a h n => absurd h n, fun _ _ _ h => .inl h⟩
/-- what is no dict stays -/
theorem Ext.kept (x : Ext ρ H ρ' H') {a : Addr} {o : HO} (n : a ∉ ρ) (h : H a = some o) (nd : ∀ kvs, o ≠ .dK kvs) : H' a = some o := by
  rcases x.keep a o n h with h | ⟨⟨kvs, e⟩, _⟩
  · exact h
  · exact absurd e (nd kvs)
theorem Ext.nin (x : Ext ρ H ρ' H') {a : Addr} {o : HO} (n : a ∉ ρ) (h : H a = some o) : a ∉ ρ' := fun q => by
  have := x.new a q n
  rw [h] at this; cases this
theorem Ext.trans (x : Ext ρ H ρ' H') (y : Ext ρ' H' ρ'' H'') : Ext ρ H ρ'' H'' := by
  obtain ⟨t, e⟩ := x.pre
  obtain ⟨t', e'⟩ := y.pre
  refine ⟨⟨t ++ t', by rw [e', e, List.append_assoc]⟩, fun a h n => ?_, fun a o n h => ?_⟩
  rotate_left
  · rcases x.keep a o n h with h1 | ⟨hk, od, h1⟩
    · exact y.keep a o (x.nin n h) h1
    · exact .inr ⟨hk, od, y.kept (x.nin n h) h1 (by intros; nofun)⟩
  by_cases q : a ∈ ρ'
  · exact x.new a q n
  · have z := y.new a h q
    cases e : H a with
    | none => rfl
    | some o =>
      rcases x.keep a o n e with this | ⟨_, _, this⟩ <;> (rw [z] at this; cases this)
theorem Ext.get (x : Ext ρ H ρ' H') {n : Nat} {a : Addr} (h : ρ[n]? = some a) : ρ'[n]? = some a := by
  obtain ⟨t, e⟩ := x.pre
  subst e
  have := (List.getElem?_eq_some_iff.mp h).1
  rw [List.getElem?_append_left this]; exact h
theorem Rd.ext (x : Ext ρ H ρ' H') {a : Addr} {u : HO} (n : a ∉ ρ) (r : Rd H a u) : a ∉ ρ' ∧ Rd H' a u := by
  rcases r with r | ⟨o, r⟩
  · rcases x.keep _ _ n r with q | ⟨_, od, q⟩
    · exact ⟨x.nin n r, .inl q⟩
    · exact ⟨x.nin n r, .inr ⟨od, q⟩⟩
  · exact ⟨x.nin n r, .inr ⟨o, x.kept n r (by intros; nofun)⟩⟩
/-- keeping what is read: for values -/
structure Kp (ρ : List Addr) (H : Hp) (ρ' : List Addr) (H' : Hp) : Prop where
  rd : ∀ a u, (∀ o u', u ≠ HO.frz o u') → a ∉ ρ → Rd H a u → a ∉ ρ' ∧ Rd H' a u
  lst : ∀ a vs, a ∉ ρ → H a = some (.lst vs) → H' a = some (.lst vs)
  tup : ∀ a vs, a ∉ ρ → H a = some (.tup vs) → H' a = some (.tup vs)
  ins : ∀ a C dx fs, a ∉ ρ → H a = some (.ins C dx fs) → H' a = some (.ins C dx fs)
  get : ∀ (n : Nat) a, ρ[n]? = some a → ρ'[n]? = some a
theorem Ext.kp (x : Ext ρ H ρ' H') : Kp ρ H ρ' H' := ⟨fun a u _ n r => Rd.ext x n r, fun a vs n h => x.kept n h (by intros; nofun), fun a vs n h => x.kept n h (by intros; nofun), fun a C dx fs n h => x.kept n h (by intros; nofun), fun n a h => x.get h⟩
theorem ScrAt.kp (x : Kp ρ H ρ' H') {a : Addr} {vs : List V} (h : ScrAt K ρ H a vs) : ScrAt K ρ' H' a vs := by
  rcases h with ⟨n, r⟩ | h
  · exact .inl (x.rd _ _ (by intros; nofun) n r)
  · exact .inr h
theorem LstAt.kp (x : Kp ρ H ρ' H') {a : Addr} {vs : List V} (h : LstAt ρ H a vs) : LstAt ρ' H' a vs := ⟨(x.rd _ _ (by intros; nofun) h.1 (.inl h.2)).1, x.lst _ _ h.1 h.2⟩
theorem TupAt.kp (x : Kp ρ H ρ' H') {a : Addr} {vs : List V} (h : TupAt K ρ H a vs) : TupAt K ρ' H' a vs := by
  rcases h with ⟨n, r⟩ | h
  · exact .inl ⟨(x.rd _ _ (by intros; nofun) n (.inl r)).1, x.tup _ _ n r⟩
  · exact .inr h
theorem DctAt.kp (x : Kp ρ H ρ' H') {a : Addr} {ks vs : List V} (h : DctAt ρ H a ks vs) : DctAt ρ' H' a ks vs := by
  obtain ⟨n, kvs, r, e1, e2⟩ := h
  obtain ⟨n', r'⟩ := x.rd _ _ (by intros; nofun) n r
  exact ⟨n', kvs, r', e1, e2⟩
mutual
theorem Rep.kp (x : Kp ρ H ρ' H') : ∀ (d : D) (v : V), Rep K mg ρ H d v → Rep K mg ρ' H' d v
  | .non, v, h => by rw [Rep] at h ⊢; exact h
  | .bl b, v, h => by rw [Rep] at h ⊢; exact h
  | .int i, v, h => by rw [Rep] at h ⊢; exact h
  | .str s, v, h => by rw [Rep] at h ⊢; exact h
  | .ty n, v, h => by rw [Rep] at h ⊢; exact h
  | .cls c, v, h => by rw [Rep] at h ⊢; exact h
  | .tup ds, v, h => by
    rw [Rep] at h ⊢
    obtain ⟨a, vs, e, t, r⟩ := h
    exact ⟨a, vs, e, t.kp x, RepL.kp x ds vs r⟩
  | .lst ds, v, h => by
    rw [Rep] at h ⊢
    obtain ⟨a, vs, e, t, r⟩ := h
    exact ⟨a, vs, e, t.kp x, RepL.kp x ds vs r⟩
  | .dct ks ds, v, h => by
    rw [Rep] at h ⊢
    obtain ⟨a, kv, vs, e, t, r1, r2⟩ := h
    exact ⟨a, kv, vs, e, t.kp x, RepL.kp x ks kv r1, RepL.kp x ds vs r2⟩
  | .ins c ns ds, v, h => by
    rw [Rep] at h ⊢
    obtain ⟨a, C, dx, fs, e, n, hm, ha, hn, r⟩ := h
    exact ⟨a, C, dx, fs, e, (x.rd a _ (by intros; nofun) n (.inl ha)).1, hm, x.ins a C dx fs n ha, hn, RepL.kp x ds _ r⟩
  | .ptr n, v, h => by
    rw [Rep] at h ⊢
    obtain ⟨a, e, q⟩ := h
    exact ⟨a, e, x.get n a q⟩
  | .scr xs, v, h => by
    rw [Rep] at h ⊢
    obtain ⟨a, e, q⟩ := h
    exact ⟨a, e, q.kp x⟩
theorem RepL.kp (x : Kp ρ H ρ' H') : ∀ (ds : List D) (vs : List V), RepL K mg ρ H ds vs → RepL K mg ρ' H' ds vs
  | [], vs, h => by rw [RepL] at h ⊢; exact h
  | d :: ds, vs, h => by
    rw [RepL] at h ⊢
    obtain ⟨v, r, e, h1, h2⟩ := h
    exact ⟨v, r, e, Rep.kp x d v h1, RepL.kp x ds r h2⟩
end
theorem Rep.ext (x : Ext ρ H ρ' H') {d : D} {v : V} (h : Rep K mg ρ H d v) : Rep K mg ρ' H' d v := Rep.kp x.kp d v h
theorem RepL.ext (x : Ext ρ H ρ' H') {ds : List D} {vs : List V} (h : RepL K mg ρ H ds vs) : RepL K mg ρ' H' ds vs := RepL.kp x.kp ds vs h
theorem RSt.ext (x : Ext ρ H ρ' H') {σ : St} {sl : Sl} (h : RSt K mg ρ H σ sl) : RSt K mg ρ' H' σ sl := ⟨h.len, fun i d e => by
  obtain ⟨v, e1, r⟩ := h.at_ i d e
  exact ⟨v, e1, r.ext x⟩⟩
theorem ScrAt.sq {a : Addr} {vs : List V} (h : ScrAt K ρ H a vs) : SqL K H a vs := by
  rcases h with ⟨_, r⟩ | h
  · exact .inl r
  · exact .inr h
theorem LstAt.sq {a : Addr} {vs : List V} (h : LstAt ρ H a vs) : SqL K H a vs := .inl (.inl h.2)
theorem TupAt.sq {a : Addr} {vs : List V} (h : TupAt K ρ H a vs) : SqT K H a vs := by
  rcases h with ⟨_, r⟩ | h
  · exact .inl (.inl r)
  · exact .inr h
theorem RepL.len : ∀ {ds : List D} {vs : List V}, RepL K mg ρ H ds vs → ds.length = vs.length
  | [], _, h => by rw [RepL] at h; subst h; rfl
  | d :: ds, _, h => by
    rw [RepL] at h
    obtain ⟨v, r, e, _, h2⟩ := h
    subst e
    simp [RepL.len h2]
theorem RepL.get : ∀ {ds : List D} {vs : List V} {i : Nat} {d : D}, RepL K mg ρ H ds vs → ds[i]? = some d → ∃ v, vs[i]? = some v ∧ Rep K mg ρ H d v
  | [], _, _, _, _, e => by simp at e
  | x :: ds, _, 0, d, h, e => by
    rw [RepL] at h
    obtain ⟨v, r, e', h1, _⟩ := h
    subst e'
    simp at e; subst e
    exact ⟨v, by simp, h1⟩
  | x :: ds, _, i + 1, d, h, e => by
    rw [RepL] at h
    obtain ⟨v, r, e', _, h2⟩ := h
    subst e'
    obtain ⟨w, e1, q⟩ := RepL.get (i := i) h2 (by simpa using e)
    exact ⟨w, by simpa using e1, q⟩
theorem RepL.get' : ∀ {ds : List D} {vs : List V} {i : Nat} {v : V}, RepL K mg ρ H ds vs → vs[i]? = some v → ∃ d, ds[i]? = some d ∧ Rep K mg ρ H d v := fun {ds vs i v} h e => by
  have hl := h.len
  have hi := (List.getElem?_eq_some_iff.mp e).1
  have hd : ds[i]? = some (ds[i]'(by omega)) := by simp
  obtain ⟨w, e1, q⟩ := h.get hd
  rw [e] at e1; cases e1
  exact ⟨_, hd, q⟩
theorem RepL.nil : RepL K mg ρ H [] [] := by rw [RepL]
theorem RepL.cons {d : D} {v : V} {ds : List D} {vs : List V} (h : Rep K mg ρ H d v) (r : RepL K mg ρ H ds vs) : RepL K mg ρ H (d :: ds) (v :: vs) := by
  rw [RepL]; exact ⟨v, vs, rfl, h, r⟩
theorem RepL.append : ∀ {ds es : List D} {vs ws : List V}, RepL K mg ρ H ds vs → RepL K mg ρ H es ws → RepL K mg ρ H (ds ++ es) (vs ++ ws)
  | [], _, _, _, h, q => by rw [RepL] at h; subst h; exact q
  | d :: ds, _, _, _, h, q => by
    rw [RepL] at h
    obtain ⟨v, r, e, h1, h2⟩ := h
    subst e
    exact RepL.cons h1 (RepL.append h2 q)
theorem RepL.set {d : D} {v : V} (h : Rep K mg ρ H d v) : ∀ {ds : List D} {vs : List V} (i : Nat), RepL K mg ρ H ds vs → RepL K mg ρ H (ds.set i d) (vs.set i v)
  | [], _, _, q => by rw [RepL] at q; subst q; exact RepL.nil
  | x :: ds, _, 0, q => by
    rw [RepL] at q
    obtain ⟨w, r, e, _, h2⟩ := q
    subst e
    exact RepL.cons h h2
  | x :: ds, _, i + 1, q => by
    rw [RepL] at q
    obtain ⟨w, r, e, h1, h2⟩ := q
    subst e
    exact RepL.cons h1 (RepL.set h i h2)
theorem RepL.take : ∀ {ds : List D} {vs : List V} (n : Nat), RepL K mg ρ H ds vs → RepL K mg ρ H (ds.take n) (vs.take n)
  | _, _, 0, _ => by simp only [List.take_zero]; exact RepL.nil
  | [], _, n + 1, q => by rw [RepL] at q; subst q; exact RepL.nil
  | x :: ds, _, n + 1, q => by
    rw [RepL] at q
    obtain ⟨w, r, e, h1, h2⟩ := q
    subst e
    exact RepL.cons h1 (RepL.take n h2)
theorem RepL.drop : ∀ {ds : List D} {vs : List V} (n : Nat), RepL K mg ρ H ds vs → RepL K mg ρ H (ds.drop n) (vs.drop n)
  | _, _, 0, q => by simpa using q
  | [], _, n + 1, q => by rw [RepL] at q; subst q; exact RepL.nil
  | x :: ds, _, n + 1, q => by
    rw [RepL] at q
    obtain ⟨w, r, e, h1, h2⟩ := q
    subst e
    simpa using RepL.drop n h2
end

/-! ### the readings -/
section
variable (K : PySem.W.Frag) (mg : Str → Option Value)
/-- behind an expression -/
def PostE (W : Value → Option Addr → Hp → Prop) (ρ : List Addr) (H : Hp) (Q : V → Hp → Prop) : Out D → Prop
  | .ok d S' => ∀ v ρ' H', Ext ρ H ρ' H' → WOk K mg ρ' H' S' → Rep K mg ρ' H' d v → Q v H'
  | .ex e S' => ∀ C dd ρ' H', Ext ρ H ρ' H' → WOk K mg ρ' H' S' → ExRep K mg ρ' H' e C dd → W C dd H'
  | .bad => False
def PostA (W : Value → Option Addr → Hp → Prop) (ρ : List Addr) (H : Hp) (Q : List V → Hp → Prop) : Out (List D) → Prop
  | .ok ds S' => ∀ vs ρ' H', Ext ρ H ρ' H' → WOk K mg ρ' H' S' → RepL K mg ρ' H' ds vs → Q vs H'
  | .ex e S' => ∀ C dd ρ' H', Ext ρ H ρ' H' → WOk K mg ρ' H' S' → ExRep K mg ρ' H' e C dd → W C dd H'
  | .bad => False
def PostB (W : Value → Option Addr → Hp → Prop) (ρ : List Addr) (H : Hp) (Q : Bool → Hp → Prop) : Out Bool → Prop
  | .ok b S' => ∀ ρ' H', Ext ρ H ρ' H' → WOk K mg ρ' H' S' → Q b H'
  | .ex e S' => ∀ C dd ρ' H', Ext ρ H ρ' H' → WOk K mg ρ' H' S' → ExRep K mg ρ' H' e C dd → W C dd H'
  | .bad => False
def PostS (W : WX) (ρ : List Addr) (H : Hp) (Dd : Ends) : SO → Prop
  | .nx sl S' => ∀ σ' ρ' H', Ext ρ H ρ' H' → WOk K mg ρ' H' S' → RSt K mg ρ' H' σ' sl → Dd.nx σ' H'
  | .bk sl S' => ∀ σ' ρ' H', Ext ρ H ρ' H' → WOk K mg ρ' H' S' → RSt K mg ρ' H' σ' sl → Dd.bk σ' H'
  | .ct sl S' => ∀ σ' ρ' H', Ext ρ H ρ' H' → WOk K mg ρ' H' S' → RSt K mg ρ' H' σ' sl → Dd.ct σ' H'
  | .rt d S' => ∀ v ρ' H', Ext ρ H ρ' H' → WOk K mg ρ' H' S' → Rep K mg ρ' H' d v → Dd.rt v H'
  | .ex e sl S' => ∀ C dd σ' ρ' H', Ext ρ H ρ' H' → WOk K mg ρ' H' S' → RSt K mg ρ' H' σ' sl → ExRep K mg ρ' H' e C dd → W C dd σ' H'
  | .bad => False
def trE (W : WX) (f : EX) : TE := fun σ H Q => ∃ ρ S sl, WOk K mg ρ H S ∧ RSt K mg ρ H σ sl ∧ PostE K mg (fun C d H' => W C d σ H') ρ H Q (f sl S)
def trA (W : WX) (f : AX) : TA := fun σ H Q => ∃ ρ S sl, WOk K mg ρ H S ∧ RSt K mg ρ H σ sl ∧ PostA K mg (fun C d H' => W C d σ H') ρ H Q (f sl S)
def trB (W : WX) (f : BX) : TT := fun σ H Q => ∃ ρ S sl, WOk K mg ρ H S ∧ RSt K mg ρ H σ sl ∧ PostB K mg (fun C d H' => W C d σ H') ρ H Q (f sl S)
def trS (W : WX) (f : SX) : TS := fun Dd σ H => ∃ ρ S sl, WOk K mg ρ H S ∧ RSt K mg ρ H σ sl ∧ PostS K mg W ρ H Dd (f sl S)
end
/-- e of the code is f on data -/
def E (X : Cx) (W : WX) (e : Expr) (f : EX) : Prop := PE X e (trE X.K X.mg W f)
def EA (X : Cx) (W : WX) (es : List Expr) (f : AX) : Prop := PA X es (trA X.K X.mg W f)
def EB (X : Cx) (W : WX) (e : Expr) (f : BX) : Prop := PT X e (trB X.K X.mg W f)
def ES (X : Cx) (W : WX) (st : Stmt) (f : SX) : Prop := PS X st (trS X.K X.mg W f)
def ESs (X : Cx) (W : WX) (st : List Stmt) (f : SX) : Prop := PSs X st (trS X.K X.mg W f)

section
variable {X : Cx}
theorem PE.imp {e : Expr} {t t' : TE} (h : PE X e t) (k : ∀ σ H Q, t' σ H Q → t σ H Q) : PE X e t' := ⟨fun pins s σ H Q I q => h.run pins s σ H Q I (k σ H Q q)⟩
theorem PA.imp {e : List Expr} {t t' : TA} (h : PA X e t) (k : ∀ σ H Q, t' σ H Q → t σ H Q) : PA X e t' := ⟨fun pos pins s σ H Q I q => h.run pos pins s σ H Q I (k σ H Q q)⟩
theorem PT.imp {e : Expr} {t t' : TT} (h : PT X e t) (k : ∀ σ H Q, t' σ H Q → t σ H Q) : PT X e t' := ⟨fun pins s σ H Q I q => h.run pins s σ H Q I (k σ H Q q)⟩
theorem PS.imp {e : Stmt} {t t' : TS} (h : PS X e t) (k : ∀ D σ H, t' D σ H → t D σ H) : PS X e t' := ⟨fun pins s σ H D I q => h.run pins s σ H D I (k D σ H q)⟩
theorem PSs.imp {e : List Stmt} {t t' : TS} (h : PSs X e t) (k : ∀ D σ H, t' D σ H → t D σ H) : PSs X e t' := ⟨fun pins s σ H D I q => h.run pins s σ H D I (k D σ H q)⟩
end
section
variable {K : PySem.W.Frag} {mg : Str → Option Value} {ρ ρ' : List Addr} {H H' : Hp}
variable {W : Value → Option Addr → Hp → Prop}
theorem PostE.from {Q : V → Hp → Prop} {o : Out D} (x : Ext ρ H ρ' H') (h : PostE K mg W ρ H Q o) : PostE K mg W ρ' H' Q o := by
  cases o with
  | ok d S => exact fun v ρ2 H2 y w r => h v ρ2 H2 (x.trans y) w r
  | ex e S => exact fun C dd ρ2 H2 y w r => h C dd ρ2 H2 (x.trans y) w r
  | bad => exact h
theorem PostA.from {Q : List V → Hp → Prop} {o : Out (List D)} (x : Ext ρ H ρ' H') (h : PostA K mg W ρ H Q o) : PostA K mg W ρ' H' Q o := by
  cases o with
  | ok d S => exact fun v ρ2 H2 y w r => h v ρ2 H2 (x.trans y) w r
  | ex e S => exact fun C dd ρ2 H2 y w r => h C dd ρ2 H2 (x.trans y) w r
  | bad => exact h
theorem PostB.from {Q : Bool → Hp → Prop} {o : Out Bool} (x : Ext ρ H ρ' H') (h : PostB K mg W ρ H Q o) : PostB K mg W ρ' H' Q o := by
  cases o with
  | ok d S => exact fun ρ2 H2 y w => h ρ2 H2 (x.trans y) w
  | ex e S => exact fun C dd ρ2 H2 y w r => h C dd ρ2 H2 (x.trans y) w r
  | bad => exact h
theorem PostS.from {Wx : WX} {Dd : Ends} {o : SO} (x : Ext ρ H ρ' H') (h : PostS K mg Wx ρ H Dd o) : PostS K mg Wx ρ' H' Dd o := by
  cases o with
  | nx sl S => exact fun σ ρ2 H2 y w r => h σ ρ2 H2 (x.trans y) w r
  | bk sl S => exact fun σ ρ2 H2 y w r => h σ ρ2 H2 (x.trans y) w r
  | ct sl S => exact fun σ ρ2 H2 y w r => h σ ρ2 H2 (x.trans y) w r
  | rt d S => exact fun v ρ2 H2 y w r => h v ρ2 H2 (x.trans y) w r
  | ex e sl S => exact fun C dd σ ρ2 H2 y w r1 r2 => h C dd σ ρ2 H2 (x.trans y) w r1 r2
  | bad => exact h
/-- an expression's end, then k's -/
theorem PostE.bindE {Q : V → Hp → Prop} {o : Out D} {k : D → Store → Out D} (h : PostE K mg W ρ H Q (o.bind k)) :
    PostE K mg W ρ H (fun v H1 => ∃ ρ1 S1 d, Ext ρ H ρ1 H1 ∧ WOk K mg ρ1 H1 S1 ∧ Rep K mg ρ1 H1 d v ∧ o = .ok d S1 ∧ PostE K mg W ρ1 H1 Q (k d S1)) o := by
  cases o with
  | ok d S => exact fun v ρ2 H2 y w r => ⟨ρ2, S, d, y, w, r, rfl, PostE.from y h⟩
  | ex e S => exact h
  | bad => exact h
theorem PostE.bindA {Q : List V → Hp → Prop} {o : Out D} {k : D → Store → Out (List D)} (h : PostA K mg W ρ H Q (o.bind k)) :
    PostE K mg W ρ H (fun v H1 => ∃ ρ1 S1 d, Ext ρ H ρ1 H1 ∧ WOk K mg ρ1 H1 S1 ∧ Rep K mg ρ1 H1 d v ∧ o = .ok d S1 ∧ PostA K mg W ρ1 H1 Q (k d S1)) o := by
  cases o with
  | ok d S => exact fun v ρ2 H2 y w r => ⟨ρ2, S, d, y, w, r, rfl, PostA.from y h⟩
  | ex e S => exact h
  | bad => exact h
theorem PostE.bindB {Q : Bool → Hp → Prop} {o : Out D} {k : D → Store → Out Bool} (h : PostB K mg W ρ H Q (o.bind k)) :
    PostE K mg W ρ H (fun v H1 => ∃ ρ1 S1 d, Ext ρ H ρ1 H1 ∧ WOk K mg ρ1 H1 S1 ∧ Rep K mg ρ1 H1 d v ∧ o = .ok d S1 ∧ PostB K mg W ρ1 H1 Q (k d S1)) o := by
  cases o with
  | ok d S => exact fun v ρ2 H2 y w r => ⟨ρ2, S, d, y, w, r, rfl, PostB.from y h⟩
  | ex e S => exact h
  | bad => exact h
theorem PostA.bindE {Q : V → Hp → Prop} {o : Out (List D)} {k : List D → Store → Out D} (h : PostE K mg W ρ H Q (o.bind k)) :
    PostA K mg W ρ H (fun v H1 => ∃ ρ1 S1 d, Ext ρ H ρ1 H1 ∧ WOk K mg ρ1 H1 S1 ∧ RepL K mg ρ1 H1 d v ∧ o = .ok d S1 ∧ PostE K mg W ρ1 H1 Q (k d S1)) o := by
  cases o with
  | ok d S => exact fun v ρ2 H2 y w r => ⟨ρ2, S, d, y, w, r, rfl, PostE.from y h⟩
  | ex e S => exact h
  | bad => exact h
theorem PostA.bindA {Q : List V → Hp → Prop} {o : Out (List D)} {k : List D → Store → Out (List D)} (h : PostA K mg W ρ H Q (o.bind k)) :
    PostA K mg W ρ H (fun v H1 => ∃ ρ1 S1 d, Ext ρ H ρ1 H1 ∧ WOk K mg ρ1 H1 S1 ∧ RepL K mg ρ1 H1 d v ∧ o = .ok d S1 ∧ PostA K mg W ρ1 H1 Q (k d S1)) o := by
  cases o with
  | ok d S => exact fun v ρ2 H2 y w r => ⟨ρ2, S, d, y, w, r, rfl, PostA.from y h⟩
  | ex e S => exact h
  | bad => exact h
theorem PostB.bindE {Q : V → Hp → Prop} {o : Out Bool} {k : Bool → Store → Out D} (h : PostE K mg W ρ H Q (o.bind k)) :
    PostB K mg W ρ H (fun b H1 => ∃ ρ1 S1, Ext ρ H ρ1 H1 ∧ WOk K mg ρ1 H1 S1 ∧ o = .ok b S1 ∧ PostE K mg W ρ1 H1 Q (k b S1)) o := by
  cases o with
  | ok d S => exact fun ρ2 H2 y w => ⟨ρ2, S, y, w, rfl, PostE.from y h⟩
  | ex e S => exact h
  | bad => exact h
theorem PostB.bindB {Q : Bool → Hp → Prop} {o : Out Bool} {k : Bool → Store → Out Bool} (h : PostB K mg W ρ H Q (o.bind k)) :
    PostB K mg W ρ H (fun b H1 => ∃ ρ1 S1, Ext ρ H ρ1 H1 ∧ WOk K mg ρ1 H1 S1 ∧ o = .ok b S1 ∧ PostB K mg W ρ1 H1 Q (k b S1)) o := by
  cases o with
  | ok d S => exact fun ρ2 H2 y w => ⟨ρ2, S, y, w, rfl, PostB.from y h⟩
  | ex e S => exact h
  | bad => exact h
end
end Z
/-! Z1: names, constants, operators, tests, calls of built-ins, displays. -/
namespace Z
open PySem PySem.Spec L2

/-! ### combinators -/
def eName (i : Nat) : EX := fun sl S => match sl[i]? with
  | some (some d) => .ok d S
  | _ => .bad
def eLit (d : D) : EX := fun _ S => .ok d S
abbrev Sem2 := D → D → Store → Out D
abbrev Sem1 := D → Store → Out D
abbrev SemL := List D → Store → Out D
def eBin (sem : Sem2) (fa fb : EX) : EX := fun sl S => (fa sl S).bind fun d S1 => (fb sl S1).bind fun e S2 => sem d e S2
def eUn (sem : Sem1) (fa : EX) : EX := fun sl S => (fa sl S).bind sem
def eArgs (sem : SemL) (fa : AX) : EX := fun sl S => (fa sl S).bind sem
def aNil : AX := fun _ S => .ok [] S
def aCons (f : EX) (g : AX) : AX := fun sl S => (f sl S).bind fun d S1 => (g sl S1).bind fun ds S2 => .ok (d :: ds) S2
def orS2 (f g : Sem2) : Sem2 := fun d e S => match f d e S with
  | .bad => g d e S
  | r => r
def orS1 (f g : Sem1) : Sem1 := fun d S => match f d S with
  | .bad => g d S
  | r => r
def orSL (f g : SemL) : SemL := fun d S => match f d S with
  | .bad => g d S
  | r => r
/-- a value that is a bool, as a test -/
def bVal (f : EX) : BX := fun sl S => (f sl S).bind fun d S1 => match d with
  | .bl b => .ok b S1
  | _ => .bad
def bNot (f : BX) : BX := fun sl S => (f sl S).bind fun b S1 => .ok (!b) S1
def bAnd (f g : BX) : BX := fun sl S => (f sl S).bind fun b S1 => if b = true then g sl S1 else .ok false S1
def bOr (f g : BX) : BX := fun sl S => (f sl S).bind fun b S1 => if b = true then .ok true S1 else g sl S1
def eAnd (f g : EX) : EX := fun sl S => (f sl S).bind fun d S1 => match d with
  | .bl true => g sl S1
  | .bl false => .ok (.bl false) S1
  | _ => .bad
def eOr (f g : EX) : EX := fun sl S => (f sl S).bind fun d S1 => match d with
  | .bl true => .ok (.bl true) S1
  | .bl false => g sl S1
  | _ => .bad
def eNot (f : EX) : EX := fun sl S => (f sl S).bind fun d S1 => match d with
  | .bl b => .ok (.bl (!b)) S1
  | _ => .bad
def eIf (c : BX) (f g : EX) : EX := fun sl S => (c sl S).bind fun b S1 => if b = true then f sl S1 else g sl S1
/-- a < b < c -/
def eChain (s1 s2 : Sem2) (fa fb fc : EX) : EX := fun sl S => (fa sl S).bind fun d S1 => (fb sl S1).bind fun e S2 => (s1 d e S2).bind fun r S3 => match r with
  | .bl true => (fc sl S3).bind fun g S4 => s2 e g S4
  | .bl false => .ok (.bl false) S3
  | _ => .bad

/-! ### what is not raised -/
def WN : Value → Option Addr → Hp → Prop := fun _ _ _ => False

section
variable {X : Cx} {W : WX}
/-- an operator by data; it raises nothing -/
structure OpD (X : Cx) (f : Value → Value → Sem Value) (sem : Sem2) : Prop where
  go : ∃ r : R2, OpR X f r ∧ ∀ (Wp : Value → Option Addr → Hp → Prop) (ρ : List Addr) (H : Hp) (S : Store) (d e : D) (x y : V) (Q : VK), WOk X.K X.mg ρ H S → Rep X.K X.mg ρ H d x → Rep X.K X.mg ρ H e y → PostE X.K X.mg Wp ρ H Q (sem d e S) → r x y H Q
structure UnD (X : Cx) (f : Value → Sem Value) (sem : Sem1) : Prop where
  go : ∃ r : V → Hp → VK → Prop, UnR X f r ∧ ∀ (Wp : Value → Option Addr → Hp → Prop) (ρ : List Addr) (H : Hp) (S : Store) (d : D) (x : V) (Q : VK), WOk X.K X.mg ρ H S → Rep X.K X.mg ρ H d x → PostE X.K X.mg Wp ρ H Q (sem d S) → r x H Q
structure CallD (X : Cx) (f : Value) (sem : SemL) : Prop where
  go : ∃ r : List V → Hp → VK → Prop, CallR X f r ∧ ∀ (Wp : Value → Option Addr → Hp → Prop) (ρ : List Addr) (H : Hp) (S : Store) (ds : List D) (xs : List V) (Q : VK), WOk X.K X.mg ρ H S → RepL X.K X.mg ρ H ds xs → PostE X.K X.mg Wp ρ H Q (sem ds S) → r xs H Q
theorem OpD.or {f : Value → Value → Sem Value} {s t : Sem2} (h : OpD X f s) (h' : OpD X f t) : OpD X f (orS2 s t) := by
  obtain ⟨r, o, g⟩ := h.go
  obtain ⟨r', o', g'⟩ := h'.go
  refine ⟨_, o.or o', fun Wp ρ H S d e x y Q w rx ry p => ?_⟩
  unfold orS2 at p
  cases q : s d e S with
  | bad => rw [q] at p; exact .inr (g' Wp ρ H S d e x y Q w rx ry p)
  | ok a S' => rw [q] at p; exact .inl (g Wp ρ H S d e x y Q w rx ry (by rw [q]; exact p))
  | ex a S' => rw [q] at p; exact .inl (g Wp ρ H S d e x y Q w rx ry (by rw [q]; exact p))
theorem CallD.or {f : Value} {s t : SemL} (h : CallD X f s) (h' : CallD X f t) : CallD X f (orSL s t) := by
  obtain ⟨r, o, g⟩ := h.go
  obtain ⟨r', o', g'⟩ := h'.go
  refine ⟨_, CallR.or o o', fun Wp ρ H S d x Q w rx p => ?_⟩
  unfold orSL at p
  cases q : s d S with
  | bad => rw [q] at p; exact .inr (g' Wp ρ H S d x Q w rx p)
  | ok a S' => rw [q] at p; exact .inl (g Wp ρ H S d x Q w rx (by rw [q]; exact p))
  | ex a S' => rw [q] at p; exact .inl (g Wp ρ H S d x Q w rx (by rw [q]; exact p))

/-- an end that makes nothing -/
theorem post_ok {K : PySem.W.Frag} {mg : Str → Option Value} {Wp : Value → Option Addr → Hp → Prop} {ρ : List Addr} {H : Hp} {Q : VK} {d : D} {S : Store} {v : V} (h : PostE K mg Wp ρ H Q (.ok d S)) (w : WOk K mg ρ H S) (r : Rep K mg ρ H d v) : Q v H :=
  h v ρ H Ext.refl w r

/-! ### rules -/
theorem r_name {i : Nat} {x : Str} {pos : Pos} (hN : X.N[i]? = some x := by rfl) (hv : Vis X.env.scope x := by first | exact Or.inl rfl | exact Or.inr (Or.inl rfl) | exact Or.inr (Or.inr rfl)) (hd : (x == ("__debug__" : Str)) = false := by decide)
    (hcd : (x == ("__classdict__" : Str)) = false := by decide) : E X W (.Name x pos) (eName i) := by
  refine PE.imp (pe_var hN hv hd hcd) fun σ H Q h => ?_
  obtain ⟨ρ, S, sl, w, r, p⟩ := h
  unfold eName at p
  cases q : sl[i]? with
  | none => rw [q] at p; exact p.elim
  | some o =>
    cases o with
    | none => rw [q] at p; exact p.elim
    | some d =>
      rw [q] at p
      obtain ⟨v, e, rv⟩ := r.at_ i d q
      exact ⟨v, e, post_ok p w rv⟩
theorem r_int {i : Int} {j pos} : E X W (.Constant (.int i) j pos) (eLit (.int i)) := PE.imp pe_int fun σ H Q ⟨ρ, S, sl, w, r, p⟩ => post_ok (d := .int i) p w (by rw [Rep])
theorem r_bl {b : Bool} {j pos} : E X W (.Constant (.bool b) j pos) (eLit (.bl b)) := PE.imp pe_bl fun σ H Q ⟨ρ, S, sl, w, r, p⟩ => post_ok (d := .bl b) p w (by rw [Rep])
theorem r_non {j pos} : E X W (.Constant .none j pos) (eLit .non) := PE.imp pe_non fun σ H Q ⟨ρ, S, sl, w, r, p⟩ => post_ok (d := .non) p w (by rw [Rep])
theorem r_str {x : Str} {j pos} : E X W (.Constant (.str x) j pos) (eLit (.str x)) := PE.imp pe_str fun σ H Q ⟨ρ, S, sl, w, r, p⟩ => post_ok (d := .str x) p w (by rw [Rep])
/-- a global whose value is the same at every heap -/
theorem r_glob {x : Str} {v : V} {u : Value} {pos : Pos} {d : D} (hg : Gl X x) (hm : X.mg x = some u) (rv : RelV v u) (rd : ∀ ρ H, Rep X.K X.mg ρ H d v) (hd : (x == ("__debug__" : Str)) = false := by decide) : E X W (.Name x pos) (eLit d) :=
  PE.imp (pe_glob hg hm rv hd) fun σ H Q ⟨ρ, S, sl, w, r, p⟩ => post_ok (d := d) p w (rd ρ H)
/-- a built-in class as a value -/
theorem r_ty {x : Str} {n : String} {pos : Pos} (hg : Gl X x) (hm : X.mg x = none) (hv : bootBuiltins x = some (.type n)) (hn : x ≠ "__name__" := by decide) (hd : (x == ("__debug__" : Str)) = false := by decide) : E X W (.Name x pos) (eLit (.ty n)) :=
  PE.imp (pe_bltn (v := .ty n) hg hm hv rfl hn hd) fun σ H Q ⟨ρ, S, sl, w, r, p⟩ => post_ok (d := .ty n) p w (by rw [Rep])
/-- an own class as a value -/
theorem r_cls {x : Str} {C : Addr} {pos : Pos} (hg : Gl X x) (hm : X.mg x = some (.ref C)) (hd : (x == ("__debug__" : Str)) = false := by decide) : E X W (.Name x pos) (eLit (.cls x)) :=
  PE.imp (pe_glob (v := .ref C) hg hm rfl hd) fun σ H Q ⟨ρ, S, sl, w, r, p⟩ => post_ok (d := .cls x) p w (by rw [Rep]; exact ⟨C, hm, rfl⟩)

/-- the state in the middle -/
theorem trE_of {K : PySem.W.Frag} {mg : Str → Option Value} {ρ : List Addr} {H : Hp} {S : Store} {sl : Sl} {σ : L2.St} {f : EX} {Q : VK} (w : WOk K mg ρ H S) (r : RSt K mg ρ H σ sl) (p : PostE K mg (fun C d H' => W C d σ H') ρ H Q (f sl S)) : trE K mg W f σ H Q := ⟨ρ, S, sl, w, r, p⟩
theorem trA_of {K : PySem.W.Frag} {mg : Str → Option Value} {ρ : List Addr} {H : Hp} {S : Store} {sl : Sl} {σ : L2.St} {f : AX} {Q : List V → Hp → Prop} (w : WOk K mg ρ H S) (r : RSt K mg ρ H σ sl) (p : PostA K mg (fun C d H' => W C d σ H') ρ H Q (f sl S)) : trA K mg W f σ H Q := ⟨ρ, S, sl, w, r, p⟩
theorem trB_of {K : PySem.W.Frag} {mg : Str → Option Value} {ρ : List Addr} {H : Hp} {S : Store} {sl : Sl} {σ : L2.St} {f : BX} {Q : Bool → Hp → Prop} (w : WOk K mg ρ H S) (r : RSt K mg ρ H σ sl) (p : PostB K mg (fun C d H' => W C d σ H') ρ H Q (f sl S)) : trB K mg W f σ H Q := ⟨ρ, S, sl, w, r, p⟩
theorem PostE.mono {K : PySem.W.Frag} {mg : Str → Option Value} {Wp : Value → Option Addr → Hp → Prop} {ρ : List Addr} {H : Hp} {Q Q' : VK} {o : Out D} (h : PostE K mg Wp ρ H Q o) (k : ∀ v H', Q v H' → Q' v H') : PostE K mg Wp ρ H Q' o := by
  cases o with
  | ok d S => exact fun v ρ' H' x w r => k _ _ (h v ρ' H' x w r)
  | ex e S => exact h
  | bad => exact h
theorem PostA.mono {K : PySem.W.Frag} {mg : Str → Option Value} {Wp : Value → Option Addr → Hp → Prop} {ρ : List Addr} {H : Hp} {Q Q' : List V → Hp → Prop} {o : Out (List D)} (h : PostA K mg Wp ρ H Q o) (k : ∀ v H', Q v H' → Q' v H') : PostA K mg Wp ρ H Q' o := by
  cases o with
  | ok d S => exact fun v ρ' H' x w r => k _ _ (h v ρ' H' x w r)
  | ex e S => exact h
  | bad => exact h
theorem PostB.mono {K : PySem.W.Frag} {mg : Str → Option Value} {Wp : Value → Option Addr → Hp → Prop} {ρ : List Addr} {H : Hp} {Q Q' : Bool → Hp → Prop} {o : Out Bool} (h : PostB K mg Wp ρ H Q o) (k : ∀ v H', Q v H' → Q' v H') : PostB K mg Wp ρ H Q' o := by
  cases o with
  | ok d S => exact fun ρ' H' x w => k _ _ (h ρ' H' x w)
  | ex e S => exact h
  | bad => exact h

variable {a b c : Expr} {fa fb fc : EX} {pos : Pos}
/-- one value, then what is done with it -/
theorem un_imp {f : EX} {g : Sl → D → Store → Out D} {K : PySem.W.Frag} {mg : Str → Option Value} {σ : L2.St} {H : Hp} {Q : VK} {k : V → Hp → Prop} (h : trE K mg W (fun sl S => (f sl S).bind (g sl)) σ H Q)
    (hk : ∀ ρ S sl H1 d v, WOk K mg ρ H1 S → RSt K mg ρ H1 σ sl → Rep K mg ρ H1 d v → PostE K mg (fun C d H' => W C d σ H') ρ H1 Q (g sl d S) → k v H1) : trE K mg W f σ H k := by
  obtain ⟨ρ, S, sl, w, r, p⟩ := h
  exact ⟨ρ, S, sl, w, r, PostE.mono (PostE.bindE p) fun v H1 ⟨ρ1, S1, d, x1, w1, r1, _, p1⟩ => hk ρ1 S1 sl H1 d v w1 (r.ext x1) r1 p1⟩
theorem bin_imp {g : Sem2} {K : PySem.W.Frag} {mg : Str → Option Value} {σ : L2.St} {H : Hp} {Q : VK} {k : V → V → Hp → Prop} (h : trE K mg W (eBin g fa fb) σ H Q)
    (hk : ∀ ρ S H2 d e x y, WOk K mg ρ H2 S → Rep K mg ρ H2 d x → Rep K mg ρ H2 e y → PostE K mg (fun C d H' => W C d σ H') ρ H2 Q (g d e S) → k x y H2) : trE K mg W fa σ H fun x H1 => trE K mg W fb σ H1 fun y H2 => k x y H2 := by
  obtain ⟨ρ, S, sl, w, r, p⟩ := h
  refine ⟨ρ, S, sl, w, r, PostE.mono (PostE.bindE p) fun v H1 ⟨ρ1, S1, d, x1, w1, r1, _, p1⟩ => ?_⟩
  refine ⟨ρ1, S1, sl, w1, r.ext x1, PostE.mono (PostE.bindE p1) fun y H2 ⟨ρ2, S2, e, x2, w2, r2, _, p2⟩ => ?_⟩
  exact hk ρ2 S2 H2 d e v y w2 (r1.ext x2) r2 p2
theorem r_bin {op : Operator} {sem : Sem2} (ho : OpD X (binaryOp op) sem) (ha : E X W a fa) (hb : E X W b fb) : E X W (.BinOp a op b pos) (eBin sem fa fb) := by
  obtain ⟨r, o, g⟩ := ho.go
  exact PE.imp (pe_op o ha hb) fun σ H Q h => bin_imp h fun ρ S H2 d e x y w rx ry p => g _ ρ H2 S d e x y Q w rx ry p
theorem r_cmp {op : CmpOp} {sem : Sem2} (ho : OpD X (compareOp op) sem) (ha : E X W a fa) (hb : E X W b fb) (hm : behindInMarks op b = false := by first | exact nomark _ | rfl) : E X W (.Compare a [op] [b] pos) (eBin sem fa fb) := by
  obtain ⟨r, o, g⟩ := ho.go
  exact PE.imp (pe_cmpR o ha hb hm) fun σ H Q h => bin_imp h fun ρ S H2 d e x y w rx ry p => g _ ρ H2 S d e x y Q w rx ry p
theorem r_un {op : UnaryOp} {sem : Sem1} (ho : UnD X (unaryOp op) sem) (ha : E X W a fa) : E X W (.UnaryOp op a pos) (eUn sem fa) := by
  obtain ⟨r, o, g⟩ := ho.go
  exact PE.imp (pe_un o ha) fun σ H Q h => un_imp (g := fun _ => sem) h fun ρ S sl H1 d v w _ rv p => g _ ρ H1 S d v Q w rv p
/-- a test by a comparison -/
theorem b_cmp {op : CmpOp} {sem : Sem2} (ho : OpD X (compareOp op) sem) (ha : E X W a fa) (hb : E X W b fb) (hm : behindInMarks op b = false := by first | exact nomark _ | rfl) : EB X W (.Compare a [op] [b] pos) (bVal (eBin sem fa fb)) := by
  obtain ⟨r, o, g⟩ := ho.go
  refine PT.imp (pt_cmpR o ha hb hm) fun σ H Q h => ?_
  obtain ⟨ρ, S, sl, w, rs, p⟩ := h
  have p' := PostE.bindB p
  refine bin_imp (Q := fun x H' => ∃ k, x = .bl k ∧ Q k H') ⟨ρ, S, sl, w, rs, PostE.mono p' fun v H1 ⟨ρ1, S1, d, x1, w1, r1, _, p1⟩ => ?_⟩ fun ρ S H2 d e x y w rx ry p => g _ ρ H2 S d e x y _ w rx ry p
  cases d with
  | bl k =>
    rw [Rep] at r1
    exact ⟨k, r1, p1 ρ1 H1 Ext.refl w1⟩
  | _ => exact p1.elim
/-- a bool's value as a test -/
theorem b_val (ha : E X W a fa) (he : ∀ whole, isTrue a X.env whole = (do let v ← whole; standAt a.pos; holding [v] (truthy v)) := by intro _; rfl) : EB X W a (bVal fa) := by
  refine PT.imp (pt_val ha he) fun σ H Q h => ?_
  obtain ⟨ρ, S, sl, w, rs, p⟩ := h
  refine ⟨ρ, S, sl, w, rs, PostE.mono (PostE.bindB p) fun v H1 ⟨ρ1, S1, d, x1, w1, r1, _, p1⟩ => ?_⟩
  cases d with
  | bl k =>
    rw [Rep] at r1
    exact ⟨k, r1, p1 ρ1 H1 Ext.refl w1⟩
  | _ => exact p1.elim
/-- and, or, not as tests -/
def EW (X : Cx) (W : WX) (e : Expr) (f : BX) : Prop := PW X e (trB X.K X.mg W f)
theorem EW.eb {e : Expr} {f : BX} (h : EW X W e f) : EB X W e f := PW.pt h
theorem PW.imp {e : Expr} {t t' : TT} (h : PW X e t) (k : ∀ σ H Q, t' σ H Q → t σ H Q) : PW X e t' := ⟨fun wh pins s σ H Q I q => h.run wh pins s σ H Q I (k σ H Q q)⟩
variable {ga gb : BX} {rest : List Expr}
theorem w_and1 (ha : EB X W a ga) : EW X W (.BoolOp .And [a] pos) ga := pw_and1 ha
theorem w_or1 (ha : EB X W a ga) : EW X W (.BoolOp .Or [a] pos) ga := pw_or1 ha
theorem w_and (ha : EB X W a ga) (hb : EW X W (.BoolOp .And (b :: rest) pos) gb) : EW X W (.BoolOp .And (a :: b :: rest) pos) (bAnd ga gb) := by
  refine PW.imp (pw_and ha hb) fun σ H Q h => ?_
  obtain ⟨ρ, S, sl, w, rs, p⟩ := h
  refine ⟨ρ, S, sl, w, rs, PostB.mono (PostB.bindB p) fun k H1 ⟨ρ1, S1, x1, w1, _, p1⟩ => ?_⟩
  cases k with
  | true => exact ⟨ρ1, S1, sl, w1, rs.ext x1, p1⟩
  | false => exact p1 ρ1 H1 Ext.refl w1
theorem w_or (ha : EB X W a ga) (hb : EW X W (.BoolOp .Or (b :: rest) pos) gb) : EW X W (.BoolOp .Or (a :: b :: rest) pos) (bOr ga gb) := by
  refine PW.imp (pw_or ha hb) fun σ H Q h => ?_
  obtain ⟨ρ, S, sl, w, rs, p⟩ := h
  refine ⟨ρ, S, sl, w, rs, PostB.mono (PostB.bindB p) fun k H1 ⟨ρ1, S1, x1, w1, _, p1⟩ => ?_⟩
  cases k with
  | false => exact ⟨ρ1, S1, sl, w1, rs.ext x1, p1⟩
  | true => exact p1 ρ1 H1 Ext.refl w1
theorem b_not (ha : EB X W a ga) : EB X W (.UnaryOp .Not a pos) (bNot ga) := by
  refine PT.imp (pt_not ha) fun σ H Q h => ?_
  obtain ⟨ρ, S, sl, w, rs, p⟩ := h
  exact ⟨ρ, S, sl, w, rs, PostB.mono (PostB.bindB p) fun k H1 ⟨ρ1, S1, x1, w1, _, p1⟩ => p1 ρ1 H1 Ext.refl w1⟩
theorem r_one {op : BoolOp} (ha : E X W a fa) : E X W (.BoolOp op [a] pos) fa := pe_one ha
def gAnd (g : EX) : Sl → D → Store → Out D := fun sl d S1 => match d with
  | .bl true => g sl S1
  | .bl false => .ok (.bl false) S1
  | _ => .bad
def gOr (g : EX) : Sl → D → Store → Out D := fun sl d S1 => match d with
  | .bl true => .ok (.bl true) S1
  | .bl false => g sl S1
  | _ => .bad
def gNot : Sl → D → Store → Out D := fun sl d S1 => match d with
  | .bl b => .ok (.bl (!b)) S1
  | _ => .bad
theorem r_and (ha : E X W a fa) (hb : E X W (.BoolOp .And (b :: rest) pos) fb) : E X W (.BoolOp .And (a :: b :: rest) pos) (eAnd fa fb) := by
  refine PE.imp (pe_and ha hb) fun σ H Q h => un_imp (g := gAnd fb) h fun ρ S sl H1 d v w r1 rv p => ?_
  cases d with
  | bl k =>
    rw [Rep] at rv
    refine ⟨k, rv, ?_⟩
    cases k with
    | true => rw [if_pos rfl]; exact ⟨ρ, S, sl, w, r1, p⟩
    | false => rw [if_neg Bool.false_ne_true]; exact post_ok p w (by rw [Rep])
  | _ => exact p.elim
theorem r_or (ha : E X W a fa) (hb : E X W (.BoolOp .Or (b :: rest) pos) fb) : E X W (.BoolOp .Or (a :: b :: rest) pos) (eOr fa fb) := by
  refine PE.imp (pe_or ha hb) fun σ H Q h => un_imp (g := gOr fb) h fun ρ S sl H1 d v w r1 rv p => ?_
  cases d with
  | bl k =>
    rw [Rep] at rv
    refine ⟨k, rv, ?_⟩
    cases k with
    | false => rw [if_neg Bool.false_ne_true]; exact ⟨ρ, S, sl, w, r1, p⟩
    | true => rw [if_pos rfl]; exact post_ok p w (by rw [Rep])
  | _ => exact p.elim
theorem r_not (ha : E X W a fa) : E X W (.UnaryOp .Not a pos) (eNot fa) := by
  refine PE.imp (pe_not ha) fun σ H Q h => un_imp (g := gNot) h fun ρ S sl H1 d v w r1 rv p => ?_
  cases d with
  | bl k =>
    rw [Rep] at rv
    exact ⟨k, rv, post_ok p w (by rw [Rep])⟩
  | _ => exact p.elim
theorem r_if (hc : EB X W c ga) (ha : E X W a fa) (hb : E X W b fb) : E X W (.IfExp c a b pos) (eIf ga fa fb) := by
  refine PE.imp (pe_ifExp hc ha hb) fun σ H Q h => ?_
  obtain ⟨ρ, S, sl, w, rs, p⟩ := h
  refine ⟨ρ, S, sl, w, rs, PostB.mono (PostB.bindE p) fun k H1 ⟨ρ1, S1, x1, w1, _, p1⟩ => ?_⟩
  cases k with
  | true => exact ⟨ρ1, S1, sl, w1, rs.ext x1, p1⟩
  | false => exact ⟨ρ1, S1, sl, w1, rs.ext x1, p1⟩
theorem chain_imp {s1 s2 : Sem2} {f g : Value → Value → Sem Value} (h1 : OpD X f s1) (h2 : OpD X g s2) : ∃ r r' : R2, OpR X f r ∧ OpR X g r' ∧ ∀ {σ : L2.St} {H : Hp} {Q : VK}, trE X.K X.mg W (eChain s1 s2 fa fb fc) σ H Q → tChain r r' (trE X.K X.mg W fa) (trE X.K X.mg W fb) (trE X.K X.mg W fc) σ H Q := by
  obtain ⟨r, o, g1⟩ := h1.go
  obtain ⟨r', o', g2⟩ := h2.go
  refine ⟨r, r', o, o', fun {σ H Q} h => ?_⟩
  obtain ⟨ρ, S, sl, w, rs, p⟩ := h
  refine ⟨ρ, S, sl, w, rs, PostE.mono (PostE.bindE p) fun v H1 ⟨ρ1, S1, d, x1, w1, r1, _, p1⟩ => ?_⟩
  refine ⟨ρ1, S1, sl, w1, rs.ext x1, PostE.mono (PostE.bindE p1) fun y H2 ⟨ρ2, S2, e, x2, w2, r2, _, p2⟩ => ?_⟩
  refine g1 _ ρ2 H2 S2 d e v y _ w2 (r1.ext x2) r2 (PostE.mono (PostE.bindE p2) fun z H3 ⟨ρ3, S3, k, x3, w3, r3, _, p3⟩ => ?_)
  cases k with
  | bl k =>
    rw [Rep] at r3
    refine ⟨k, r3, ?_⟩
    cases k with
    | true =>
      rw [if_pos rfl]
      refine ⟨ρ3, S3, sl, w3, (rs.ext (x1.trans (x2.trans x3))), PostE.mono (PostE.bindE p3) fun u H4 ⟨ρ4, S4, m, x4, w4, r4, _, p4⟩ => ?_⟩
      exact g2 _ ρ4 H4 S4 e m y u Q w4 (r2.ext (x3.trans x4)) r4 p4
    | false =>
      rw [if_neg Bool.false_ne_true]
      exact post_ok p3 w3 (by rw [Rep])
  | _ => exact p3.elim
theorem r_chain {op op' : CmpOp} {s1 s2 : Sem2} (h1 : OpD X (compareOp op) s1) (h2 : OpD X (compareOp op') s2) (ha : E X W a fa) (hb : E X W b fb) (hc : E X W c fc) (hm : lastMarks [op, op'] [b, c] = false := by rfl) : E X W (.Compare a [op, op'] [b, c] pos) (eChain s1 s2 fa fb fc) := by
  obtain ⟨r, r', o, o', k⟩ := chain_imp (W := W) (fa := fa) (fb := fb) (fc := fc) h1 h2
  exact PE.imp (pe_chain o o' ha hb hc hm) fun σ H Q h => k h
theorem b_chain {op op' : CmpOp} {s1 s2 : Sem2} (h1 : OpD X (compareOp op) s1) (h2 : OpD X (compareOp op') s2) (ha : E X W a fa) (hb : E X W b fb) (hc : E X W c fc) (hm : lastMarks [op, op'] [b, c] = false := by rfl) : EB X W (.Compare a [op, op'] [b, c] pos) (bVal (eChain s1 s2 fa fb fc)) := by
  obtain ⟨r, r', o, o', k⟩ := chain_imp (W := W) (fa := fa) (fb := fb) (fc := fc) h1 h2
  refine PT.imp (pt_chain o o' ha hb hc hm) fun σ H Q h => ?_
  obtain ⟨ρ, S, sl, w, rs, p⟩ := h
  refine k (Q := fun x H' => ∃ k, x = .bl k ∧ Q k H') ⟨ρ, S, sl, w, rs, PostE.mono (PostE.bindB p) fun v H1 ⟨ρ1, S1, d, x1, w1, r1, _, p1⟩ => ?_⟩
  cases d with
  | bl k =>
    rw [Rep] at r1
    exact ⟨k, r1, p1 ρ1 H1 Ext.refl w1⟩
  | _ => exact p1.elim
/-! ### arguments, displays -/
theorem a_nil : EA X W [] aNil := PA.imp pa_nil fun σ H Q ⟨ρ, S, sl, w, rs, p⟩ => p [] ρ H Ext.refl w RepL.nil
theorem args_imp {f : EX} {g : AX} {K : PySem.W.Frag} {mg : Str → Option Value} {σ : L2.St} {H : Hp} {Q : List V → Hp → Prop} (h : trA K mg W (aCons f g) σ H Q) : trE K mg W f σ H fun x H1 => trA K mg W g σ H1 fun xs H2 => Q (x :: xs) H2 := by
  obtain ⟨ρ, S, sl, w, r, p⟩ := h
  refine ⟨ρ, S, sl, w, r, PostE.mono (PostE.bindA p) fun v H1 ⟨ρ1, S1, d, x1, w1, r1, _, p1⟩ => ?_⟩
  refine ⟨ρ1, S1, sl, w1, r.ext x1, PostA.mono (PostA.bindA p1) fun y H2 ⟨ρ2, S2, e, x2, w2, r2, _, p2⟩ => ?_⟩
  exact p2 (v :: y) ρ2 H2 Ext.refl w2 (RepL.cons (r1.ext x2) r2)
theorem a_cons {e : Expr} {es : List Expr} {f : EX} {g : AX} (ha : E X W e f) (hr : EA X W es g) (hs : starEach (e :: es) X.env = (false, eval e X.env) :: starEach es X.env := by rfl) : EA X W (e :: es) (aCons f g) :=
  PA.imp (pa_cons ha hr hs) fun σ H Q h => args_imp h
theorem argsem_imp {f : AX} {sem : SemL} {K : PySem.W.Frag} {mg : Str → Option Value} {σ : L2.St} {H : Hp} {Q : VK} {k : List V → Hp → Prop} (h : trE K mg W (eArgs sem f) σ H Q)
    (hk : ∀ ρ S H1 ds vs, WOk K mg ρ H1 S → RepL K mg ρ H1 ds vs → PostE K mg (fun C d H' => W C d σ H') ρ H1 Q (sem ds S) → k vs H1) : trA K mg W f σ H k := by
  obtain ⟨ρ, S, sl, w, r, p⟩ := h
  exact ⟨ρ, S, sl, w, r, PostA.mono (PostA.bindE p) fun v H1 ⟨ρ1, S1, d, x1, w1, r1, _, p1⟩ => hk ρ1 S1 H1 d v w1 r1 p1⟩
end
/-! ### new things -/
section
variable {K : PySem.W.Frag} {mg : Str → Option Value} {ρ : List Addr} {H : Hp} {S : Store}
/-- a new thing that is no handle's -/
theorem Ext.new' {p : Addr} {o : HO} (hp : H p = none) : Ext ρ H ρ (upd H p o) := ⟨⟨[], by simp⟩, fun a h n => absurd h n, fun a u n h => .inl (by rw [upd_ne (ne_of_none h hp)]; exact h)⟩
theorem WOk.nin (w : WOk K mg ρ H S) {p : Addr} (hp : H p = none) : p ∉ ρ := fun q => w.tr p q hp
theorem MRep.ext {ρ' : List Addr} {H' : Hp} (x : Ext ρ H ρ' H') {a : Addr} {m : MO} (e : H' a = H a) (h : MRep K mg ρ H a m) : MRep K mg ρ' H' a m := by
  cases m with
  | lst ds =>
    obtain ⟨vs, h1, h2⟩ := h
    exact ⟨vs, e.trans h1, h2.ext x⟩
  | dct lk ks ds =>
    obtain ⟨kvs, h1, h2, h3⟩ := h
    refine ⟨kvs, ?_, h2.ext x, h3.ext x⟩
    cases lk with
    | true =>
      rw [if_pos rfl] at h1 ⊢
      rcases h1 with h1 | ⟨o, h1⟩
      · exact .inl (e.trans h1)
      · exact .inr ⟨o, e.trans h1⟩
    | false =>
      rw [if_neg Bool.false_ne_true] at h1 ⊢
      exact e.trans h1
  | ins c ns ds =>
    obtain ⟨C, dx, fs, h0, h1, h2, h3⟩ := h
    exact ⟨C, dx, fs, h0, e.trans h1, h2, h3.ext x⟩
theorem WOk.new' (w : WOk K mg ρ H S) {p : Addr} {o : HO} (hp : H p = none) : WOk K mg ρ (upd H p o) S := by
  have ne : ∀ a ∈ ρ, a ≠ p := fun a ha q => w.nin hp (q ▸ ha)
  refine ⟨w.len, w.nd, fun a ha => by rw [upd_ne (ne a ha)]; exact w.tr a ha, fun n a m e1 e2 => ?_⟩
  have ha : a ∈ ρ := List.mem_of_getElem? e1
  exact MRep.ext (Ext.new' hp) (upd_ne (ne a ha)) (w.ob n a m e1 e2)
/-- a new handle -/
theorem Ext.hand {p : Addr} {o : HO} (hp : H p = none) : Ext ρ H (ρ ++ [p]) (upd H p o) := by
  refine ⟨⟨[p], rfl⟩, fun a h n => ?_, fun a u n h => .inl (by rw [upd_ne (ne_of_none h hp)]; exact h)⟩
  rcases List.mem_append.mp h with h | h
  · exact absurd h n
  · rw [List.mem_singleton.mp h]; exact hp
theorem WOk.hand (w : WOk K mg ρ H S) {p : Addr} {o : HO} {m : MO} (hp : H p = none) (hm : MRep K mg (ρ ++ [p]) (upd H p o) p m) : WOk K mg (ρ ++ [p]) (upd H p o) (S ++ [m]) := by
  have ne : ∀ a ∈ ρ, a ≠ p := fun a ha q => w.nin hp (q ▸ ha)
  refine ⟨by simp [w.len], ?_, fun a ha => ?_, fun n a m' e1 e2 => ?_⟩
  · refine List.nodup_append.mpr ⟨w.nd, by simp, fun a ha b hb => ?_⟩
    rw [List.mem_singleton.mp hb]
    exact ne a ha
  · rcases List.mem_append.mp ha with ha | ha
    · rw [upd_ne (ne a ha)]; exact w.tr a ha
    · rw [List.mem_singleton.mp ha, upd_same]; simp
  · by_cases hn : n < ρ.length
    · rw [List.getElem?_append_left hn] at e1
      rw [List.getElem?_append_left (by rw [← w.len]; exact hn)] at e2
      exact MRep.ext (Ext.hand hp) (upd_ne (ne a (List.mem_of_getElem? e1))) (w.ob n a m' e1 e2)
    · have hl := w.len
      rw [List.getElem?_append_right (by omega)] at e1 e2
      have hz : n - ρ.length = 0 := by
        cases q : n - ρ.length with
        | zero => rfl
        | succ k => rw [q] at e1; simp at e1
      rw [hz] at e1
      have hz2 : n - S.length = 0 := by omega
      rw [hz2] at e2
      simp at e1 e2
      subst e1 e2
      exact hm
/-- what a tuple, a list made from values stands for -/
theorem post_tup {Wp : Value → Option Addr → Hp → Prop} {Q : VK} {ds : List D} {vs : List V} {p : Addr} (h : PostE K mg Wp ρ H Q (.ok (.tup ds) S)) (w : WOk K mg ρ H S) (r : RepL K mg ρ H ds vs) (hp : H p = none) : Q (.ref p) (upd H p (.tup vs)) := by
  refine h (.ref p) ρ _ (Ext.new' hp) (w.new' hp) ?_
  rw [Rep]
  exact ⟨p, vs, rfl, .inl ⟨w.nin hp, upd_same⟩, r.ext (Ext.new' hp)⟩
theorem post_lst {Wp : Value → Option Addr → Hp → Prop} {Q : VK} {ds : List D} {vs : List V} {p : Addr} (h : PostE K mg Wp ρ H Q (.ok (.lst ds) S)) (w : WOk K mg ρ H S) (r : RepL K mg ρ H ds vs) (hp : H p = none) : Q (.ref p) (upd H p (.lst vs)) := by
  refine h (.ref p) ρ _ (Ext.new' hp) (w.new' hp) ?_
  rw [Rep]
  exact ⟨p, vs, rfl, ⟨w.nin hp, upd_same⟩, r.ext (Ext.new' hp)⟩
/-- a list that is a handle's -/
theorem post_lstH {Wp : Value → Option Addr → Hp → Prop} {Q : VK} {ds : List D} {vs : List V} {p : Addr} (h : PostE K mg Wp ρ H Q (.ok (.ptr S.length) (S ++ [.lst ds]))) (w : WOk K mg ρ H S) (r : RepL K mg ρ H ds vs) (hp : H p = none) : Q (.ref p) (upd H p (.lst vs)) := by
  refine h (.ref p) (ρ ++ [p]) _ (Ext.hand hp) (w.hand hp ⟨vs, upd_same, r.ext (Ext.hand hp)⟩) ?_
  rw [Rep]
  exact ⟨p, rfl, by rw [← w.len]; simp⟩
end
/-- as a handle -/
def semTup : SemL := fun ds S => if ds.length ≤ 1000000 then .ok (.tup ds) S else .bad
def semLst : SemL := fun ds S => if ds.length ≤ 1000000 then .ok (.lst ds) S else .bad
def semLstH : SemL := fun ds S => if ds.length ≤ 1000000 then .ok (.ptr S.length) (S ++ [.lst ds]) else .bad
theorem line_of {n : Nat} (h : n ≤ 1000000) : n ≤ sizeLine := by rw [sizeLine_eq]; omega
section
variable {X : Cx} {W : WX} {es : List Expr} {f : AX} {pos : Pos}
theorem r_tup {x1} (h : EA X W es f) : E X W (.Tuple es x1 pos) (eArgs semTup f) := by
  refine PE.imp (pe_tup h) fun σ H Q q => argsem_imp q fun ρ S H1 ds vs w r p => ?_
  unfold semTup at p
  split at p
  · rename_i hl
    exact ⟨by rw [← r.len]; exact line_of hl, fun a ha => post_tup p w r ha⟩
  · exact p.elim
theorem r_lst (h : EA X W es f) : E X W (.List es pos) (eArgs semLst f) := by
  refine PE.imp (pe_lst h) fun σ H Q q => argsem_imp q fun ρ S H1 ds vs w r p => ?_
  unfold semLst at p
  split at p
  · rename_i hl
    exact ⟨by rw [← r.len]; exact line_of hl, fun a ha => post_lst p w r ha⟩
  · exact p.elim
theorem r_lstH (h : EA X W es f) : E X W (.List es pos) (eArgs semLstH f) := by
  refine PE.imp (pe_lst h) fun σ H Q q => argsem_imp q fun ρ S H1 ds vs w r p => ?_
  unfold semLstH at p
  split at p
  · rename_i hl
    exact ⟨by rw [← r.len]; exact line_of hl, fun a ha => post_lstH p w r ha⟩
  · exact p.elim
/-! ### a built-in called by its name -/
theorem r_callB {x : Str} {id : String} {sem : SemL} {p : Pos} {e : Expr} {es : List Expr} (hc : CallD X (.builtin id) sem) (hg : Gl X x) (hm : X.mg x = none) (hv : bootBuiltins x = some (.builtin id)) (ha : EA X W (e :: es) f) (hn : x ≠ "__name__" := by decide) (hdb : (x == ("__debug__" : Str)) = false := by decide)
    (he : starEach (e :: es) X.env = (false, eval e X.env) :: starEach es X.env := by rfl) (hpl : (backTo pos (starEach es X.env)).any (·.1) = false := by rfl) : E X W (.Call (.Name x p) (e :: es) [] pos) (eArgs sem f) := by
  obtain ⟨r, c, g⟩ := hc.go
  exact PE.imp (pe_callB c hg hm hv ha hn hdb he hpl) fun σ H Q q => argsem_imp q fun ρ S H1 ds vs w rr p => g _ ρ H1 S ds vs Q w rr p
theorem r_callT {x : Str} {T : String} {sem : SemL} {p : Pos} {e : Expr} {es : List Expr} (hc : CallD X (.type T) sem) (hg : Gl X x) (hm : X.mg x = none) (hv : bootBuiltins x = some (.type T)) (ha : EA X W (e :: es) f) (hn : x ≠ "__name__" := by decide) (hdb : (x == ("__debug__" : Str)) = false := by decide)
    (he : starEach (e :: es) X.env = (false, eval e X.env) :: starEach es X.env := by rfl) (hpl : (backTo pos (starEach es X.env)).any (·.1) = false := by rfl) : E X W (.Call (.Name x p) (e :: es) [] pos) (eArgs sem f) := by
  obtain ⟨r, c, g⟩ := hc.go
  exact PE.imp (pe_callTy c hg hm hv ha hn hdb he hpl) fun σ H Q q => argsem_imp q fun ρ S H1 ds vs w rr p => g _ ρ H1 S ds vs Q w rr p
end
end Z
/-! Z2: statements, defs and their calls. -/
namespace Z
open PySem PySem.Spec L2

def Out.toS {α : Type} (o : Out α) (sl : Sl) (k : α → Store → SO) : SO := match o with
  | .ok a S => k a S
  | .ex e S => .ex e sl S
  | .bad => .bad
def sNil : SX := fun sl S => .nx sl S
def sBad : SX := fun _ _ => .bad
def sBrk : SX := fun sl S => .bk sl S
def sCnt : SX := fun sl S => .ct sl S
def SO.then (o : SO) (g : SX) : SO := match o with
  | .nx sl S => g sl S
  | r => r
def sSeq (f g : SX) : SX := fun sl S => (f sl S).then g
def sExp (f : EX) : SX := fun sl S => (f sl S).toS sl fun _ S' => .nx sl S'
def sRet (f : EX) : SX := fun sl S => (f sl S).toS sl fun d S' => .rt d S'
def sRetN : SX := fun _ S => .rt .non S
def sIf (c : BX) (f g : SX) : SX := fun sl S => (c sl S).toS sl fun b S' => if b = true then f sl S' else g sl S'
/-- a target -/
abbrev GX := D → Sl → Store → SO
def gSet (i : Nat) : GX := fun d sl S => .nx (sl.set i (some d)) S
abbrev GXs := List D → Sl → Store → SO
def gNilX : GXs := fun ds sl S => match ds with
  | [] => .nx sl S
  | _ => .bad
def gConsX (g : GX) (gs : GXs) : GXs := fun ds sl S => match ds with
  | d :: r => (g d sl S).then (gs r)
  | [] => .bad
/-- a tuple's items, a list's items -/
def asT (S : Store) : D → Option (List D)
  | .tup ds => some ds
  | _ => none
def asL (S : Store) : D → Option (List D)
  | .lst ds => some ds
  | .ptr n => match S[n]? with
    | some (.lst ds) => some ds
    | _ => none
  | _ => none
def gTupX (gs : GXs) : GX := fun d sl S => match d with
  | .tup ds => gs ds sl S
  | _ => .bad
def sAsg (f : EX) (g : GX) : SX := fun sl S => (f sl S).toS sl fun d S' => g d sl S'
/-- a, b = x, y -/
def sPar (i j : Nat) (f : AX) : SX := fun sl S => (f sl S).toS sl fun ds S' => match ds with
  | [d, e] => .nx ((sl.set i (some d)).set j (some e)) S'
  | _ => .bad
/-- while -/
def whileL (c : BX) (body : SX) : Nat → SX
  | 0, _, _ => .bad
  | n + 1, sl, S => (c sl S).toS sl fun b S' => if b = true then (match body sl S' with
    | .nx sl2 S2 => whileL c body n sl2 S2
    | .ct sl2 S2 => whileL c body n sl2 S2
    | .bk sl2 S2 => .nx sl2 S2
    | r => r) else .nx sl S'
def fuel : Nat := 1000000
def sWhile (c : BX) (body : SX) : SX := whileL c body fuel
/-- for over items; G: what must stay as it is at each turn -/
noncomputable def forL (G : Store → Prop) (g : GX) (body : SX) : List D → SX
  | [], sl, S => open Classical in if G S then .nx sl S else .bad
  | x :: xs, sl, S => open Classical in if G S then (match g x sl S with
    | .nx sl1 S1 => (match body sl1 S1 with
      | .nx sl2 S2 => forL G g body xs sl2 S2
      | .ct sl2 S2 => forL G g body xs sl2 S2
      | .bk sl2 S2 => .nx sl2 S2
      | r => r)
    | _ => .bad) else .bad
/-- what is walked: its items, what must stay -/
abbrev IX := Sl → Store → Out (List D × (Store → Prop))
noncomputable def sFor (it : IX) (g : GX) (body : SX) : SX := fun sl S => (it sl S).toS sl fun p S' => forL p.2 g body p.1 sl S'

section
variable {K : PySem.W.Frag} {mg : Str → Option Value} {ρ : List Addr} {H : Hp} {S : Store}
theorem RSt.set {σ : L2.St} {sl : Sl} (r : RSt K mg ρ H σ sl) {d : D} {v : V} (h : Rep K mg ρ H d v) (i : Nat) : RSt K mg ρ H (σ.set i (some v)) (sl.set i (some d)) := by
  refine ⟨by simp [r.len], fun j e q => ?_⟩
  by_cases hj : j = i
  · subst hj
    by_cases hl : j < sl.length
    · rw [List.getElem?_set_self hl] at q
      cases q
      exact ⟨v, List.getElem?_set_self (by rw [r.len]; exact hl), h⟩
    · rw [List.getElem?_eq_none (by simpa using hl)] at q; cases q
  · rw [List.getElem?_set_ne (Ne.symm hj)] at q ⊢
    exact r.at_ j e q
theorem PostS.mono {W : WX} {Da Db : Ends} {o : SO} (h : PostS K mg W ρ H Da o) (k1 : ∀ σ H, Da.nx σ H → Db.nx σ H) (k2 : ∀ v H, Da.rt v H → Db.rt v H) (k3 : ∀ σ H, Da.bk σ H → Db.bk σ H) (k4 : ∀ σ H, Da.ct σ H → Db.ct σ H) : PostS K mg W ρ H Db o := by
  cases o with
  | nx sl S => exact fun σ ρ2 H2 y w r => k1 _ _ (h σ ρ2 H2 y w r)
  | bk sl S => exact fun σ ρ2 H2 y w r => k3 _ _ (h σ ρ2 H2 y w r)
  | ct sl S => exact fun σ ρ2 H2 y w r => k4 _ _ (h σ ρ2 H2 y w r)
  | rt d S => exact fun v ρ2 H2 y w r => k2 _ _ (h v ρ2 H2 y w r)
  | ex e sl S => exact h
  | bad => exact h
theorem PostS.seq {W : WX} {Dd : Ends} {o : SO} {g : SX} (h : PostS K mg W ρ H Dd (o.then g)) : PostS K mg W ρ H { Dd with nx := fun σ H' => trS K mg W g Dd σ H' } o := by
  cases o with
  | nx sl S => exact fun σ ρ2 H2 y w r => ⟨ρ2, S, sl, w, r, PostS.from y h⟩
  | bk sl S => exact h
  | ct sl S => exact h
  | rt d S => exact h
  | ex e sl S => exact h
  | bad => exact h
/-- an expression within a statement -/
theorem PostS.ofE {W : WX} {Dd : Ends} {σ : L2.St} {sl : Sl} {o : Out D} {k : D → Store → SO} (rs : RSt K mg ρ H σ sl) (h : PostS K mg W ρ H Dd (o.toS sl k)) :
    PostE K mg (fun C d H' => W C d σ H') ρ H (fun v H1 => ∃ ρ1 S1 d, WOk K mg ρ1 H1 S1 ∧ RSt K mg ρ1 H1 σ sl ∧ Rep K mg ρ1 H1 d v ∧ PostS K mg W ρ1 H1 Dd (k d S1)) o := by
  cases o with
  | ok d S => exact fun v ρ2 H2 y w r => ⟨ρ2, S, d, w, rs.ext y, r, PostS.from y h⟩
  | ex e S => exact fun C dd ρ2 H2 y w r => h C dd σ ρ2 H2 y w (rs.ext y) r
  | bad => exact h
theorem PostS.ofA {W : WX} {Dd : Ends} {σ : L2.St} {sl : Sl} {o : Out (List D)} {k : List D → Store → SO} (rs : RSt K mg ρ H σ sl) (h : PostS K mg W ρ H Dd (o.toS sl k)) :
    PostA K mg (fun C d H' => W C d σ H') ρ H (fun v H1 => ∃ ρ1 S1 d, WOk K mg ρ1 H1 S1 ∧ RSt K mg ρ1 H1 σ sl ∧ RepL K mg ρ1 H1 d v ∧ PostS K mg W ρ1 H1 Dd (k d S1)) o := by
  cases o with
  | ok d S => exact fun v ρ2 H2 y w r => ⟨ρ2, S, d, w, rs.ext y, r, PostS.from y h⟩
  | ex e S => exact fun C dd ρ2 H2 y w r => h C dd σ ρ2 H2 y w (rs.ext y) r
  | bad => exact h
theorem PostS.ofB {W : WX} {Dd : Ends} {σ : L2.St} {sl : Sl} {o : Out Bool} {k : Bool → Store → SO} (rs : RSt K mg ρ H σ sl) (h : PostS K mg W ρ H Dd (o.toS sl k)) :
    PostB K mg (fun C d H' => W C d σ H') ρ H (fun b H1 => ∃ ρ1 S1, WOk K mg ρ1 H1 S1 ∧ RSt K mg ρ1 H1 σ sl ∧ PostS K mg W ρ1 H1 Dd (k b S1)) o := by
  cases o with
  | ok d S => exact fun ρ2 H2 y w => ⟨ρ2, S, w, rs.ext y, PostS.from y h⟩
  | ex e S => exact fun C dd ρ2 H2 y w r => h C dd σ ρ2 H2 y w (rs.ext y) r
  | bad => exact h
theorem post_nx {W : WX} {Dd : Ends} {σ : L2.St} {sl : Sl} (h : PostS K mg W ρ H Dd (.nx sl S)) (w : WOk K mg ρ H S) (r : RSt K mg ρ H σ sl) : Dd.nx σ H := h σ ρ H Ext.refl w r
end

section
variable {X : Cx} {W : WX} {st : Stmt} {rest : List Stmt} {f g : SX} {e : Expr} {fe : EX} {pos : Pos}
theorem s_nil : ESs X W [] sNil := PSs.imp pss_nil fun D σ H ⟨ρ, S, sl, w, rs, p⟩ => post_nx p w rs
theorem s_one (h : ES X W st f) : ESs X W [st] f := pss_one h
theorem s_cons (h : ES X W st f) (hr : ESs X W rest g) : ESs X W (st :: rest) (sSeq f g) :=
  PSs.imp (pss_cons h hr) fun D σ H ⟨ρ, S, sl, w, rs, p⟩ => ⟨ρ, S, sl, w, rs, PostS.seq p⟩
theorem s_bad : ES X W st sBad := PS.imp ps_never fun D σ H ⟨ρ, S, sl, w, rs, p⟩ => p
theorem s_bads {sts : List Stmt} : ESs X W sts sBad := PSs.imp pss_never fun D σ H ⟨ρ, S, sl, w, rs, p⟩ => p
theorem s_pass : ES X W (.Pass pos) sNil := PS.imp ps_pass fun D σ H ⟨ρ, S, sl, w, rs, p⟩ => post_nx p w rs
theorem s_brk : ES X W (.Break pos) sBrk := PS.imp ps_break fun D σ H ⟨ρ, S, sl, w, rs, p⟩ => p σ ρ H Ext.refl w rs
theorem s_cnt : ES X W (.Continue pos) sCnt := PS.imp ps_continue fun D σ H ⟨ρ, S, sl, w, rs, p⟩ => p σ ρ H Ext.refl w rs
theorem s_expr (he : E X W e fe) (hs : swapsWith e none pos.line X.env = pure false := by rfl) : ES X W (.Expr e pos) (sExp fe) :=
  PS.imp (ps_expr he hs) fun D σ H ⟨ρ, S, sl, w, rs, p⟩ => ⟨ρ, S, sl, w, rs, PostE.mono (PostS.ofE rs p) fun v H1 ⟨ρ1, S1, d, w1, r1, _, p1⟩ => post_nx p1 w1 r1⟩
theorem s_ret (he : E X W e fe) : ES X W (.Return (some e) pos) (sRet fe) :=
  PS.imp (ps_ret he) fun D σ H ⟨ρ, S, sl, w, rs, p⟩ => ⟨ρ, S, sl, w, rs, PostE.mono (PostS.ofE rs p) fun v H1 ⟨ρ1, S1, d, w1, r1, rv, p1⟩ => p1 v ρ1 H1 Ext.refl w1 rv⟩
theorem s_retN : ES X W (.Return none pos) sRetN := PS.imp ps_retN fun D σ H ⟨ρ, S, sl, w, rs, p⟩ => p .non ρ H Ext.refl w (by rw [Rep])
theorem s_if {c : Expr} {ga : BX} {a b : List Stmt} (hc : EB X W c ga) (ha : ESs X W a f) (hb : ESs X W b g) : ES X W (.If c a b pos) (sIf ga f g) := by
  refine PS.imp (ps_if hc ha hb) fun D σ H ⟨ρ, S, sl, w, rs, p⟩ => ⟨ρ, S, sl, w, rs, PostB.mono (PostS.ofB rs p) fun k H1 ⟨ρ1, S1, w1, r1, p1⟩ => ?_⟩
  cases k with
  | true => exact ⟨ρ1, S1, sl, w1, r1, p1⟩
  | false => exact ⟨ρ1, S1, sl, w1, r1, p1⟩
/-! ### targets -/
def trG (K : PySem.W.Frag) (mg : Str → Option Value) (W : WX) (g : GX) : TG := fun v σ H Q => ∃ ρ S sl d, WOk K mg ρ H S ∧ RSt K mg ρ H σ sl ∧ Rep K mg ρ H d v ∧ PostS K mg W ρ H ⟨Q, fun _ _ => False, fun _ _ => False, fun _ _ => False⟩ (g d sl S)
def trGs (K : PySem.W.Frag) (mg : Str → Option Value) (W : WX) (g : GXs) : TGs := fun v σ H Q => ∃ ρ S sl d, WOk K mg ρ H S ∧ RSt K mg ρ H σ sl ∧ RepL K mg ρ H d v ∧ PostS K mg W ρ H ⟨Q, fun _ _ => False, fun _ _ => False, fun _ _ => False⟩ (g d sl S)
def EG (X : Cx) (W : WX) (tg : Expr) (g : GX) : Prop := PG X tg (trG X.K X.mg W g)
def EGs (X : Cx) (W : WX) (tg : List Expr) (g : GXs) : Prop := PGs X tg (trGs X.K X.mg W g)
theorem PG.imp {tg : Expr} {t t' : TG} (h : PG X tg t) (k : ∀ v σ H Q, t' v σ H Q → t v σ H Q) : PG X tg t' := ⟨fun pins s σ H v u Q I r q => h.run pins s σ H v u Q I r (k v σ H Q q)⟩
theorem PGs.imp {tg : List Expr} {t t' : TGs} (h : PGs X tg t) (k : ∀ v σ H Q, t' v σ H Q → t v σ H Q) : PGs X tg t' := ⟨fun pins s σ H v u Q I r q => h.run pins s σ H v u Q I r (k v σ H Q q)⟩
theorem g_name {i : Nat} {x : Str} (hN : X.N.Nodup) (hi : X.N[i]? = some x := by rfl) (hx : Loc X.env.scope x := by first | exact Or.inl rfl | exact Or.inr rfl) (hf : X.fn x = true ∨ X.env.scope.names.lookup x = some .local := by first | exact .inl rfl | exact .inr rfl) : EG X W (.Name x pos) (gSet i) :=
  PG.imp (pg_name hN hi hx hf) fun v σ H Q ⟨ρ, S, sl, d, w, rs, rv, p⟩ => p _ ρ H Ext.refl w (rs.set rv i)
theorem gs_nil : EGs X W [] gNilX := PGs.imp pgs_nil fun v σ H Q ⟨ρ, S, sl, ds, w, rs, rv, p⟩ => by
  cases ds with
  | nil =>
    rw [RepL] at rv
    exact ⟨rv, p _ ρ H Ext.refl w rs⟩
  | cons d r => exact p.elim
theorem gs_cons {t : Expr} {ts : List Expr} {g : GX} {gs : GXs} (h : EG X W t g) (hr : EGs X W ts gs) (hs : (assignEach (t :: ts) X.env).map (·.2) = assign t X.env :: (assignEach ts X.env).map (·.2) := by rfl) : EGs X W (t :: ts) (gConsX g gs) :=
  PGs.imp (pgs_cons h hr hs) fun v σ H Q ⟨ρ, S, sl, ds, w, rs, rv, p⟩ => by
    cases ds with
    | nil => exact p.elim
    | cons d r =>
      rw [RepL] at rv
      obtain ⟨v1, vr, e, h1, h2⟩ := rv
      subst e
      refine ⟨v1, vr, rfl, ρ, S, sl, d, w, rs, h1, ?_⟩
      have p : PostS X.K X.mg W ρ H ⟨Q, fun _ _ => False, fun _ _ => False, fun _ _ => False⟩ ((g d sl S).then (gs r)) := p
      cases q : g d sl S with
      | nx sl1 S1 =>
        rw [q] at p
        exact fun σ1 ρ1 H1 x1 w1 r1 => ⟨ρ1, S1, sl1, r, w1, r1, h2.ext x1, PostS.from x1 p⟩
      | bk sl1 S1 => rw [q] at p; exact p
      | ct sl1 S1 => rw [q] at p; exact p
      | rt d1 S1 => rw [q] at p; exact p
      | ex e1 sl1 S1 => rw [q] at p; exact p
      | bad => rw [q] at p; exact p
theorem g_tup {es : List Expr} {k : Nat} {gs : GXs} {n : Nat} (hc : X.calm = true) (h : EGs X W es gs) (hl : ∀ ds sl S, gs ds sl S ≠ .bad → ds.length = n) (hn : (assignEach es X.env).length = n := by rfl) (hst : (assignEach es X.env).findIdx? (·.1) = none := by rfl) : EG X W (.Tuple es k pos) (gTupX gs) :=
  PG.imp (pg_tup hc h hn hst) fun v σ H Q ⟨ρ, S, sl, d, w, rs, rv, p⟩ => by
    cases d with
    | tup ds =>
      rw [Rep] at rv
      obtain ⟨a, vs, e, t, r⟩ := rv
      have p : PostS X.K X.mg W ρ H ⟨Q, fun _ _ => False, fun _ _ => False, fun _ _ => False⟩ (gs ds sl S) := p
      exact ⟨a, vs, e, t.sq, by rw [← r.len]; exact hl ds sl S (fun q => by rw [q] at p; exact p), ρ, S, sl, ds, w, rs, r, p⟩
    | _ => exact p.elim
theorem len_nil (ds : List D) (sl : Sl) (S : Store) (h : gNilX ds sl S ≠ .bad) : ds.length = 0 := by
  cases ds with
  | nil => rfl
  | cons _ _ => exact absurd rfl h
theorem len_cons {g : GX} {gs : GXs} {n : Nat} (hr : ∀ ds sl S, gs ds sl S ≠ .bad → ds.length = n) (hg : ∀ d sl S, (∃ sl' S', g d sl S = .nx sl' S') ∨ g d sl S = .bad) (ds : List D) (sl : Sl) (S : Store) (h : gConsX g gs ds sl S ≠ .bad) : ds.length = n + 1 := by
  cases ds with
  | nil => exact absurd rfl h
  | cons d r =>
    rcases hg d sl S with ⟨sl', S', e⟩ | e
    · have : gConsX g gs (d :: r) sl S = gs r sl' S' := by show (g d sl S).then (gs r) = _; rw [e]; rfl
      rw [this] at h
      simp [hr r sl' S' h]
    · exact absurd (show gConsX g gs (d :: r) sl S = .bad by show (g d sl S).then (gs r) = _; rw [e]; rfl) h
theorem nx_set (i : Nat) (d : D) (sl : Sl) (S : Store) : (∃ sl' S', gSet i d sl S = .nx sl' S') ∨ gSet i d sl S = .bad := .inl ⟨_, _, rfl⟩
theorem s_asg {tg : Expr} {g : GX} (he : E X W e fe) (hg : EG X W tg g) (hb : ∀ d sl S, (∃ sl' S', g d sl S = .nx sl' S') ∨ g d sl S = .bad) (hs : swapsWithSole [tg] e pos.line X.env = pure false := by rfl) (hw : swappedStores [tg] e X.env = pure none := by rfl)
    (h1 : (assignEach [tg] X.env).map (·.2) = [assign tg X.env] := by rfl) : ES X W (.Assign [tg] e pos) (sAsg fe g) :=
  PS.imp (ps_asg he hg hs hw h1) fun D σ H ⟨ρ, S, sl, w, rs, p⟩ => ⟨ρ, S, sl, w, rs, PostE.mono (PostS.ofE rs p) fun v H1 ⟨ρ1, S1, d, w1, r1, rv, p1⟩ => ⟨ρ1, S1, sl, d, w1, r1, rv, by
    rcases hb d sl S1 with ⟨sl', S', q⟩ | q
    · rw [q] at p1 ⊢; exact p1
    · rw [q] at p1; exact p1.elim⟩⟩
theorem s_set {i : Nat} {x : Str} {pos' : Pos} (hN : X.N.Nodup) (he : E X W e fe) (hi : X.N[i]? = some x := by rfl) (hx : Loc X.env.scope x := by first | exact Or.inl rfl | exact Or.inr rfl) (hs : swapsWith e (some (.Name x pos')) pos.line X.env = pure false := by rfl)
    (hf : X.fn x = true ∨ X.env.scope.names.lookup x = some .local := by first | exact .inl rfl | exact .inr rfl) : ES X W (.Assign [.Name x pos'] e pos) (sAsg fe (gSet i)) :=
  PS.imp (ps_set hN hi hx he hs hf) fun D σ H ⟨ρ, S, sl, w, rs, p⟩ => ⟨ρ, S, sl, w, rs, PostE.mono (PostS.ofE rs p) fun v H1 ⟨ρ1, S1, d, w1, r1, rv, p1⟩ => p1 _ ρ1 H1 Ext.refl w1 (r1.set rv i)⟩
theorem s_par {i j : Nat} {x y : Str} {a b : Expr} {fa : AX} {px py pt : Pos} {kt k2 pt2} (hc : X.calm = true) (hN : X.N.Nodup) (ha : EA X W [a, b] fa) (hi : X.N[i]? = some x := by rfl) (hj : X.N[j]? = some y := by rfl) (hij : i ≠ j := by decide)
    (hx : X.env.scope.names.lookup x = some .local := by rfl) (hy : X.env.scope.names.lookup y = some .local := by rfl)
    (hw : swappedStores [.Tuple [.Name x px, .Name y py] kt pt] (.Tuple [a, b] k2 pt2) X.env = pure (some [x, y]) := by rfl)
    (hs : swapsWithSole [.Tuple [.Name x px, .Name y py] kt pt] (.Tuple [a, b] k2 pt2) pos.line X.env = pure false := by rfl) :
    ES X W (.Assign [.Tuple [.Name x px, .Name y py] kt pt] (.Tuple [a, b] k2 pt2) pos) (sPar i j fa) :=
  PS.imp (ps_par hc hN hi hj hij hx hy ha hw hs) fun D σ H ⟨ρ, S, sl, w, rs, p⟩ => ⟨ρ, S, sl, w, rs, PostA.mono (PostS.ofA rs p) fun vs H1 ⟨ρ1, S1, ds, w1, r1, rv, p1⟩ => by
    match ds, rv, p1 with
    | [d, e], rv, p1 =>
      rw [RepL] at rv
      obtain ⟨v, r, e1, h1, h2⟩ := rv
      rw [RepL] at h2
      obtain ⟨u, r2, e2, h3, h4⟩ := h2
      rw [RepL] at h4
      subst h4 e2 e1
      exact ⟨v, u, rfl, p1 _ ρ1 H1 Ext.refl w1 ((r1.set h1 i).set h3 j)⟩
    | [], _, p1 => exact p1.elim
    | [_], _, p1 => exact p1.elim
    | _ :: _ :: _ :: _, _, p1 => exact p1.elim⟩
/-! ### while -/
theorem s_while {c : Expr} {ga : BX} {body : List Stmt} (hp : PassesOwn (model X.prog X.w) X.A X.env X.xe) (hc : EB X W c ga) (hb : ESs X W body f) : ES X W (.While c body [] pos) (sWhile ga f) := by
  refine PS.imp (ps_while hp hc hb) fun D σ H ⟨ρ, S, sl, w, rs, p⟩ => ?_
  refine ⟨fun m σ H => ∃ ρ S sl, WOk X.K X.mg ρ H S ∧ RSt X.K X.mg ρ H σ sl ∧ PostS X.K X.mg W ρ H D (whileL ga f m sl S), ⟨fuel, ρ, S, sl, w, rs, p⟩, ?_⟩
  rintro m σ H ⟨ρ, S, sl, w, rs, p⟩
  cases m with
  | zero => exact p.elim
  | succ m =>
    refine ⟨ρ, S, sl, w, rs, PostB.mono (PostS.ofB rs p) fun k H1 ⟨ρ1, S1, w1, r1, p1⟩ => ?_⟩
    cases k with
    | false => exact post_nx p1 w1 r1
    | true =>
      rw [if_pos rfl] at p1 ⊢
      refine ⟨fun σ' H' => ∃ ρ S sl, WOk X.K X.mg ρ H' S ∧ RSt X.K X.mg ρ H' σ' sl ∧ PostS X.K X.mg W ρ H' D (whileL ga f m sl S), fun σ' H' n => ⟨m, Nat.lt_succ_self m, n⟩, ρ1, S1, sl, w1, r1, ?_⟩
      cases q : f sl S1 with
      | nx sl2 S2 => rw [q] at p1; exact fun σ ρ2 H2 y w r => ⟨ρ2, S2, sl2, w, r, PostS.from y p1⟩
      | ct sl2 S2 => rw [q] at p1; exact fun σ ρ2 H2 y w r => ⟨ρ2, S2, sl2, w, r, PostS.from y p1⟩
      | bk sl2 S2 => rw [q] at p1; exact p1
      | rt d S2 => rw [q] at p1; exact p1
      | ex e sl2 S2 => rw [q] at p1; exact p1
      | bad => rw [q] at p1; exact p1
end

/-! ### what is walked -/
/-- J walks over data ds from the base heap on, while G holds of the store -/
structure IWalk (K : PySem.W.Frag) (mg : Str → Option Value) (J : It) (ds : List D) (G : Store → Prop) (ρ0 : List Addr) (H0 : Hp) : Prop where
  go : ∀ (i : Nat) ρ H S, i < ds.length → Ext ρ0 H0 ρ H → WOk K mg ρ H S → G S → J.go i H
  stop : ∀ ρ H S, Ext ρ0 H0 ρ H → WOk K mg ρ H S → G S → J.stop ds.length H
  yld : ∀ (i : Nat) ρ H S x H', i < ds.length → Ext ρ0 H0 ρ H → WOk K mg ρ H S → G S → J.yld i H x H' → ∃ d, ds[i]? = some d ∧ Ext ρ H ρ H' ∧ WOk K mg ρ H' S ∧ Rep K mg ρ H' d x
def PostI (K : PySem.W.Frag) (mg : Str → Option Value) (W : Value → Option Addr → Hp → Prop) (ρ : List Addr) (H : Hp) (R : It → Hp → Prop) : Out (List D × (Store → Prop)) → Prop
  | .ok p S' => ∀ ρ' H' J, Ext ρ H ρ' H' → WOk K mg ρ' H' S' → IWalk K mg J p.1 p.2 ρ' H' → R J H'
  | .ex e S' => ∀ C dd ρ' H', Ext ρ H ρ' H' → WOk K mg ρ' H' S' → ExRep K mg ρ' H' e C dd → W C dd H'
  | .bad => False
def trI (K : PySem.W.Frag) (mg : Str → Option Value) (W : WX) (it : IX) : TI := fun σ H R => ∃ ρ S sl, WOk K mg ρ H S ∧ RSt K mg ρ H σ sl ∧ PostI K mg (fun C d H' => W C d σ H') ρ H R (it sl S)
def EI (X : Cx) (W : WX) (tg it : Expr) (f : IX) : Prop := PI X tg it (trI X.K X.mg W f)
theorem PI.imp {X : Cx} {tg e : Expr} {t t' : TI} (h : PI X tg e t) (k : ∀ σ H R, t' σ H R → t σ H R) : PI X tg e t' := ⟨fun pins s σ H R I q => h.run pins s σ H R I (k σ H R q)⟩
section
variable {X : Cx} {W : WX} {f : SX} {pos : Pos}
theorem s_for {tg iter : Expr} {body : List Stmt} {it : IX} {g : GX} (hp : PassesOwn (model X.prog X.w) X.A X.env X.xe) (hc : X.calm = true) (hi : EI X W tg iter it) (hg : EG X W tg g) (hb : ESs X W body f)
    (hs : ∀ x, foldedSetIterable iter X.env x = pure x := by intro _; rfl) : ES X W (.For tg iter body [] pos) (sFor it g f) := by
  refine PS.imp (ps_for hp hc hi hg hb hs) fun D σ H ⟨ρ, S, sl, w, rs, p⟩ => ?_
  have p : PostS X.K X.mg W ρ H D ((it sl S).toS sl fun p S' => forL p.2 g f p.1 sl S') := p
  refine ⟨ρ, S, sl, w, rs, ?_⟩
  cases q : it sl S with
  | bad => rw [q] at p; exact p
  | ex e S1 => rw [q] at p; exact fun C dd ρ2 H2 y w r => p C dd σ ρ2 H2 y w (rs.ext y) r
  | ok pr S1 =>
    rw [q] at p
    intro ρ1 H1 J x1 w1 iw
    obtain ⟨ds, G⟩ := pr
    have p1 : PostS X.K X.mg W ρ1 H1 D (forL G g f ds sl S1) := PostS.from x1 p
    refine ⟨fun i m σ' H' => i + m = ds.length ∧ ∃ ρ' S' sl', Ext ρ1 H1 ρ' H' ∧ WOk X.K X.mg ρ' H' S' ∧ RSt X.K X.mg ρ' H' σ' sl' ∧ PostS X.K X.mg W ρ' H' D (forL G g f (ds.drop i) sl' S'),
      ⟨ds.length, by simp, ρ1, S1, sl, Ext.refl, w1, rs.ext x1, by simpa using p1⟩, ?_⟩
    rintro i m σ2 H2 ⟨hm, ρ2, S2, sl2, x2, w2, r2, p2⟩
    cases m with
    | zero =>
      have hi : i = ds.length := by omega
      subst hi
      rw [List.drop_length] at p2
      have p2 : PostS X.K X.mg W ρ2 H2 D (open Classical in if G S2 then .nx sl2 S2 else .bad) := p2
      by_cases hG : G S2
      · rw [if_pos hG] at p2
        exact .inl ⟨iw.stop ρ2 H2 S2 x2 w2 hG, post_nx p2 w2 r2⟩
      · rw [if_neg hG] at p2; exact p2.elim
    | succ m =>
      have hlt : i < ds.length := by omega
      have hd : ds.drop i = ds[i] :: ds.drop (i + 1) := (List.getElem_cons_drop hlt).symm
      rw [hd] at p2
      have p2 : PostS X.K X.mg W ρ2 H2 D (open Classical in if G S2 then (match g ds[i] sl2 S2 with
        | .nx sl1 S1 => (match f sl1 S1 with
          | .nx sl2 S2 => forL G g f (ds.drop (i + 1)) sl2 S2
          | .ct sl2 S2 => forL G g f (ds.drop (i + 1)) sl2 S2
          | .bk sl2 S2 => .nx sl2 S2
          | r => r)
        | _ => .bad) else .bad) := p2
      by_cases hG : G S2
      · rw [if_pos hG] at p2
        refine .inr ⟨iw.go i ρ2 H2 S2 hlt x2 w2 hG, fun σ' H' => ∃ ρ' S' sl', Ext ρ1 H1 ρ' H' ∧ WOk X.K X.mg ρ' H' S' ∧ RSt X.K X.mg ρ' H' σ' sl' ∧ PostS X.K X.mg W ρ' H' D (forL G g f (ds.drop (i + 1)) sl' S'), fun σ' H' n => ⟨m, Nat.lt_succ_self m, by omega, n⟩, ?_⟩
        intro x H3 y
        obtain ⟨d, e, x3, w3, r3⟩ := iw.yld i ρ2 H2 S2 x H3 hlt x2 w2 hG y
        have ed : d = ds[i] := by rw [List.getElem?_eq_getElem hlt] at e; exact (Option.some.inj e).symm
        subst ed
        refine ⟨ρ2, S2, sl2, ds[i], w3, r2.ext x3, r3, ?_⟩
        cases q1 : g ds[i] sl2 S2 with
        | nx sl4 S4 =>
          rw [q1] at p2
          intro σ4 ρ4 H4 x4 w4 r4
          refine ⟨ρ4, S4, sl4, w4, r4, ?_⟩
          have p4 := PostS.from (x3.trans x4) p2
          have xx := x2.trans (x3.trans x4)
          cases q2 : f sl4 S4 with
          | nx sl5 S5 => simp only [q2] at p4; exact fun σ5 ρ5 H5 y5 w5 r5 => ⟨ρ5, S5, sl5, xx.trans y5, w5, r5, PostS.from y5 p4⟩
          | ct sl5 S5 => simp only [q2] at p4; exact fun σ5 ρ5 H5 y5 w5 r5 => ⟨ρ5, S5, sl5, xx.trans y5, w5, r5, PostS.from y5 p4⟩
          | bk sl5 S5 => simp only [q2] at p4; exact p4
          | rt d5 S5 => simp only [q2] at p4; exact p4
          | ex e5 sl5 S5 => simp only [q2] at p4; exact p4
          | bad => simp only [q2] at p4; exact p4
        | bk sl4 S4 => rw [q1] at p2; exact p2.elim
        | ct sl4 S4 => rw [q1] at p2; exact p2.elim
        | rt d4 S4 => rw [q1] at p2; exact p2.elim
        | ex e4 sl4 S4 => rw [q1] at p2; exact p2.elim
        | bad => rw [q1] at p2; exact p2.elim
      · rw [if_neg hG] at p2; exact p2.elim
end
end Z
/-! Z3: the promise of a def by its function on data; calls, methods, properties, new objects. -/
namespace Z
open PySem PySem.Spec L2

/-! ### handles that end: made plain -/
mutual
def frzD (g : Nat → Option D) : D → Option D
  | .tup xs => (frzL g xs).map .tup
  | .lst xs => (frzL g xs).map .lst
  | .dct ks vs => match frzL g ks, frzL g vs with
    | some a, some b => some (.dct a b)
    | _, _ => none
  | .ins c ns vs => (frzL g vs).map (.ins c ns)
  | .ptr n => g n
  | .non => some .non
  | .bl b => some (.bl b)
  | .int i => some (.int i)
  | .str s => some (.str s)
  | .ty n => some (.ty n)
  | .cls c => some (.cls c)
  | .scr xs => some (.scr xs)
def frzL (g : Nat → Option D) : List D → Option (List D)
  | [] => some []
  | d :: ds => match frzD g d, frzL g ds with
    | some a, some b => some (a :: b)
    | _, _ => none
end
def frzP (S : Store) (k : Nat) : Nat → Nat → Option D
  | 0, n => if n < k then some (.ptr n) else none
  | f + 1, n => if n < k then some (.ptr n) else match S[n]? with
    | some (.lst ds) => (frzL (frzP S k f) ds).map .lst
    | some (.dct false ks vs) => match frzL (frzP S k f) ks, frzL (frzP S k f) vs with
      | some a, some b => some (.dct a b)
      | _, _ => none
    | some (.ins c ns vs) => (frzL (frzP S k f) vs).map (.ins c ns)
    | _ => none
mutual
/-- every handle in it is below k -/
def under (k : Nat) : D → Bool
  | .tup xs => underL k xs
  | .lst xs => underL k xs
  | .dct ks vs => underL k ks && underL k vs
  | .ins _ _ vs => underL k vs
  | .ptr n => decide (n < k)
  | .non => true
  | .bl _ => true
  | .int _ => true
  | .str _ => true
  | .ty _ => true
  | .cls _ => true
  | .scr _ => true
def underL (k : Nat) : List D → Bool
  | [] => true
  | d :: ds => under k d && underL k ds
end
def underM (k : Nat) : MO → Bool
  | .lst xs => underL k xs
  | .dct _ ks vs => underL k ks && underL k vs
  | .ins _ _ vs => underL k vs
/-- what stood is as it was, or speaks of what stood -/
def Closed (S S' : Store) : Prop := ∀ (i : Nat) (m : MO), i < S.length → S'[i]? = some m → S[i]? = some m ∨ underM S.length m = true
noncomputable def fin (S : Store) : Out D → Out D
  | .ok d S' => open Classical in if Closed S S' then (match frzD (frzP S' S.length 6) d with
    | some d' => .ok d' (S'.take S.length)
    | none => .bad) else .bad
  | .ex d S' => open Classical in if Closed S S' then (match frzD (frzP S' S.length 6) d with
    | some d' => .ex d' (S'.take S.length)
    | none => .bad) else .bad
  | .bad => .bad

section
variable {K : PySem.W.Frag} {mg : Str → Option Value} {ρ ρ' : List Addr} {H : Hp} {S S' : Store}
mutual
theorem frzD_rep {g : Nat → Option D} (hg : ∀ (n : Nat) d' a, g n = some d' → ρ'[n]? = some a → Rep K mg ρ H d' (.ref a)) (hs : ∀ a, a ∉ ρ' → a ∉ ρ) : ∀ (d d' : D) (v : V), frzD g d = some d' → Rep K mg ρ' H d v → Rep K mg ρ H d' v
  | .non, d', v, e, h => by cases e; rw [Rep] at h ⊢; exact h
  | .bl b, d', v, e, h => by cases e; rw [Rep] at h ⊢; exact h
  | .int b, d', v, e, h => by cases e; rw [Rep] at h ⊢; exact h
  | .str b, d', v, e, h => by cases e; rw [Rep] at h ⊢; exact h
  | .ty b, d', v, e, h => by cases e; rw [Rep] at h ⊢; exact h
  | .cls b, d', v, e, h => by cases e; rw [Rep] at h ⊢; exact h
  | .tup xs, d', v, e, h => by
    rw [frzD] at e
    obtain ⟨ys, e1, e2⟩ := Option.map_eq_some_iff.mp e
    subst e2
    rw [Rep] at h ⊢
    obtain ⟨a, vs, e3, t, r⟩ := h
    refine ⟨a, vs, e3, ?_, frzL_rep hg hs xs ys vs e1 r⟩
    rcases t with ⟨n, t⟩ | t
    · exact .inl ⟨hs a n, t⟩
    · exact .inr t
  | .lst xs, d', v, e, h => by
    rw [frzD] at e
    obtain ⟨ys, e1, e2⟩ := Option.map_eq_some_iff.mp e
    subst e2
    rw [Rep] at h ⊢
    obtain ⟨a, vs, e3, t, r⟩ := h
    exact ⟨a, vs, e3, ⟨hs a t.1, t.2⟩, frzL_rep hg hs xs ys vs e1 r⟩
  | .scr xs, d', v, e, h => by
    cases e
    rw [Rep] at h ⊢
    obtain ⟨a, e3, t⟩ := h
    refine ⟨a, e3, ?_⟩
    rcases t with ⟨n, t⟩ | t
    · exact .inl ⟨hs a n, t⟩
    · exact .inr t
  | .dct ks ds, d', v, e, h => by
    rw [frzD] at e
    split at e
    · rename_i a b ea eb
      cases e
      rw [Rep] at h ⊢
      obtain ⟨p, kv, vs, e3, ⟨n, t⟩, r1, r2⟩ := h
      exact ⟨p, kv, vs, e3, ⟨hs p n, t⟩, frzL_rep hg hs ks a kv ea r1, frzL_rep hg hs ds b vs eb r2⟩
    · cases e
  | .ins c ns ds, d', v, e, h => by
    rw [frzD] at e
    obtain ⟨ys, e1, e2⟩ := Option.map_eq_some_iff.mp e
    subst e2
    rw [Rep] at h ⊢
    obtain ⟨a, C, dx, fs, e3, n, hm, ha, hn, r⟩ := h
    exact ⟨a, C, dx, fs, e3, hs a n, hm, ha, hn, frzL_rep hg hs ds ys _ e1 r⟩
  | .ptr n, d', v, e, h => by
    rw [frzD] at e
    rw [Rep] at h
    obtain ⟨a, e3, q⟩ := h
    subst e3
    exact hg n d' a e q
theorem frzL_rep {g : Nat → Option D} (hg : ∀ (n : Nat) d' a, g n = some d' → ρ'[n]? = some a → Rep K mg ρ H d' (.ref a)) (hs : ∀ a, a ∉ ρ' → a ∉ ρ) : ∀ (ds ds' : List D) (vs : List V), frzL g ds = some ds' → RepL K mg ρ' H ds vs → RepL K mg ρ H ds' vs
  | [], ds', vs, e, h => by
    rw [frzL] at e; cases e
    rw [RepL] at h ⊢; exact h
  | d :: ds, ds', vs, e, h => by
    rw [frzL] at e
    split at e
    · rename_i a b ea eb
      cases e
      rw [RepL] at h ⊢
      obtain ⟨v, r, e3, h1, h2⟩ := h
      exact ⟨v, r, e3, frzD_rep hg hs d a v ea h1, frzL_rep hg hs ds b r eb h2⟩
    · cases e
end
mutual
theorem frz_under {k : Nat} {g : Nat → Option D} (hg : ∀ n, n < k → g n = some (.ptr n)) : ∀ d : D, under k d = true → frzD g d = some d
  | .non, _ => rfl
  | .bl _, _ => rfl
  | .int _, _ => rfl
  | .str _, _ => rfl
  | .ty _, _ => rfl
  | .cls _, _ => rfl
  | .scr _, _ => rfl
  | .tup xs, h => by rw [under] at h; rw [frzD, frz_underL hg xs h]; rfl
  | .lst xs, h => by rw [under] at h; rw [frzD, frz_underL hg xs h]; rfl
  | .dct ks vs, h => by
    rw [under, Bool.and_eq_true] at h
    rw [frzD, frz_underL hg ks h.1, frz_underL hg vs h.2]
  | .ins c ns vs, h => by rw [under] at h; rw [frzD, frz_underL hg vs h]; rfl
  | .ptr n, h => by rw [under] at h; rw [frzD]; exact hg n (of_decide_eq_true h)
theorem frz_underL {k : Nat} {g : Nat → Option D} (hg : ∀ n, n < k → g n = some (.ptr n)) : ∀ ds : List D, underL k ds = true → frzL g ds = some ds
  | [], _ => rfl
  | d :: ds, h => by
    rw [underL, Bool.and_eq_true] at h
    rw [frzL, frz_under hg d h.1, frz_underL hg ds h.2]
end
theorem frzP_lt {k f n : Nat} (h : n < k) : frzP S k f n = some (.ptr n) := by
  cases f with
  | zero => rw [frzP, if_pos h]
  | succ f => rw [frzP, if_pos h]
mutual
theorem Rep.under_ : ∀ (d : D) (v : V), Rep K mg ρ H d v → under ρ.length d = true
  | .non, _, _ => rfl
  | .bl _, _, _ => rfl
  | .int _, _, _ => rfl
  | .str _, _, _ => rfl
  | .ty _, _, _ => rfl
  | .cls _, _, _ => rfl
  | .scr _, _, _ => rfl
  | .tup xs, v, h => by
    rw [Rep] at h
    obtain ⟨a, vs, _, _, r⟩ := h
    rw [under]; exact RepL.under_ xs vs r
  | .lst xs, v, h => by
    rw [Rep] at h
    obtain ⟨a, vs, _, _, r⟩ := h
    rw [under]; exact RepL.under_ xs vs r
  | .dct ks ds, v, h => by
    rw [Rep] at h
    obtain ⟨a, kv, vs, _, _, r1, r2⟩ := h
    rw [under, RepL.under_ ks kv r1, RepL.under_ ds vs r2]; rfl
  | .ins c ns ds, v, h => by
    rw [Rep] at h
    obtain ⟨a, C, dx, fs, _, _, _, _, _, r⟩ := h
    rw [under]; exact RepL.under_ ds _ r
  | .ptr n, v, h => by
    rw [Rep] at h
    obtain ⟨a, _, q⟩ := h
    rw [under]; exact decide_eq_true (List.getElem?_eq_some_iff.mp q).1
theorem RepL.under_ : ∀ (ds : List D) (vs : List V), RepL K mg ρ H ds vs → underL ρ.length ds = true
  | [], _, _ => rfl
  | d :: ds, vs, h => by
    rw [RepL] at h
    obtain ⟨v, r, _, h1, h2⟩ := h
    rw [underL, Rep.under_ d v h1, RepL.under_ ds r h2]; rfl
end
theorem MRep.under_ {a : Addr} {m : MO} (h : MRep K mg ρ H a m) : underM ρ.length m = true := by
  cases m with
  | lst ds =>
    obtain ⟨vs, _, r⟩ := h
    exact RepL.under_ ds vs r
  | dct lk ks ds =>
    obtain ⟨kvs, _, r1, r2⟩ := h
    show (underL _ ks && underL _ ds) = true
    rw [RepL.under_ ks _ r1, RepL.under_ ds _ r2]; rfl
  | ins c ns ds =>
    obtain ⟨C, dx, fs, _, _, _, r⟩ := h
    exact RepL.under_ ds _ r
/-- at the end: the handles behind ρ are forgotten -/
structure Back (K : PySem.W.Frag) (mg : Str → Option Value) (ρ ρ' : List Addr) (H : Hp) (S' : Store) : Prop where
  pre : ∃ t, ρ' = ρ ++ t
  w : WOk K mg ρ' H S'
theorem Back.sub (b : Back K mg ρ ρ' H S') : ∀ a, a ∉ ρ' → a ∉ ρ := fun a h q => by
  obtain ⟨t, e⟩ := b.pre
  exact h (by rw [e]; exact List.mem_append_left _ q)
theorem Back.out (b : Back K mg ρ ρ' H S') {n : Nat} {a : Addr} (h : ρ'[n]? = some a) (hn : ¬ n < ρ.length) : a ∉ ρ := fun q => by
  obtain ⟨t, e⟩ := b.pre
  have nd := b.w.nd
  rw [e] at h nd
  rw [List.getElem?_append_right (by omega)] at h
  exact (List.nodup_append.mp nd).2.2 a q a (List.mem_of_getElem? h) rfl
theorem Back.in_ (b : Back K mg ρ ρ' H S') {n : Nat} {a : Addr} (h : ρ'[n]? = some a) (hn : n < ρ.length) : ρ[n]? = some a := by
  obtain ⟨t, e⟩ := b.pre
  rw [e, List.getElem?_append_left hn] at h
  exact h
theorem Back.frz (b : Back K mg ρ ρ' H S') : ∀ (f n : Nat) (d' : D) (a : Addr), frzP S' ρ.length f n = some d' → ρ'[n]? = some a → Rep K mg ρ H d' (.ref a) := by
  intro f
  induction f with
  | zero =>
    intro n d' a e h
    rw [frzP] at e
    split at e
    · rename_i hn
      cases e
      rw [Rep]
      exact ⟨a, rfl, b.in_ h hn⟩
    · cases e
  | succ f ih =>
    intro n d' a e h
    rw [frzP] at e
    split at e
    · rename_i hn
      cases e
      rw [Rep]
      exact ⟨a, rfl, b.in_ h hn⟩
    · rename_i hn
      have hout := b.out h hn
      split at e
      · rename_i ds em
        obtain ⟨vs, h1, r⟩ := b.w.ob n a _ h em
        obtain ⟨ys, e1, e2⟩ := Option.map_eq_some_iff.mp e
        subst e2
        rw [Rep]
        exact ⟨a, vs, rfl, ⟨hout, h1⟩, frzL_rep (fun n d' a => ih n d' a) b.sub ds ys vs e1 r⟩
      · rename_i ks ds em
        obtain ⟨kvs, h1, r1, r2⟩ := b.w.ob n a _ h em
        rw [if_neg Bool.false_ne_true] at h1
        split at e
        · rename_i x y ex ey
          cases e
          rw [Rep]
          exact ⟨a, _, _, rfl, ⟨hout, kvs, .inl h1, rfl, rfl⟩, frzL_rep (fun n d' a => ih n d' a) b.sub ks x _ ex r1, frzL_rep (fun n d' a => ih n d' a) b.sub ds y _ ey r2⟩
        · cases e
      · rename_i c ns ds em
        obtain ⟨C, dx, fs, hm, h1, hn', r⟩ := b.w.ob n a _ h em
        obtain ⟨ys, e1, e2⟩ := Option.map_eq_some_iff.mp e
        subst e2
        rw [Rep]
        exact ⟨a, C, dx, fs, rfl, hout, hm, h1, hn', frzL_rep (fun n d' a => ih n d' a) b.sub ds ys _ e1 r⟩
      · cases e
theorem Back.shrinkL (b : Back K mg ρ ρ' H S') {ds : List D} {vs : List V} (hu : underL ρ.length ds = true) (r : RepL K mg ρ' H ds vs) : RepL K mg ρ H ds vs :=
  frzL_rep (g := frzP S' ρ.length 0) (fun n d' a => b.frz 0 n d' a) b.sub ds ds vs (frz_underL (fun n hn => frzP_lt hn) ds hu) r
theorem Back.wok {H₀ : Hp} (b : Back K mg ρ ρ' H S') (w0 : WOk K mg ρ H₀ S) (c : Closed S S') : WOk K mg ρ H (S'.take S.length) := by
  obtain ⟨t, e⟩ := id b.pre
  have hl : ρ.length ≤ S'.length := by
    have := b.w.len
    rw [e, List.length_append] at this
    omega
  refine ⟨?_, w0.nd, fun a ha => b.w.tr a (by rw [e]; exact List.mem_append_left _ ha), fun n a m e1 e2 => ?_⟩
  · rw [List.length_take, w0.len]; have := w0.len; omega
  · have hn : n < S.length := by rw [← w0.len]; exact (List.getElem?_eq_some_iff.mp e1).1
    rw [List.getElem?_take_of_lt hn] at e2
    have e3 : ρ'[n]? = some a := by rw [e, List.getElem?_append_left (List.getElem?_eq_some_iff.mp e1).1]; exact e1
    have hu : underM ρ.length m = true := by
      rcases c n m hn e2 with q | q
      · exact (w0.ob n a m e1 q).under_
      · rw [w0.len]; exact q
    have q := b.w.ob n a m e3 e2
    cases m with
    | lst ds =>
      obtain ⟨vs, h1, r⟩ := q
      exact ⟨vs, h1, b.shrinkL hu r⟩
    | dct lk ks ds =>
      obtain ⟨kvs, h1, r1, r2⟩ := q
      have hu : (underL ρ.length ks && underL ρ.length ds) = true := hu
      rw [Bool.and_eq_true] at hu
      exact ⟨kvs, h1, b.shrinkL hu.1 r1, b.shrinkL hu.2 r2⟩
    | ins c ns ds =>
      obtain ⟨C, dx, fs, h0, h1, h2, r⟩ := q
      exact ⟨C, dx, fs, h0, h1, h2, b.shrinkL hu r⟩
theorem Ext.back {H₀ : Hp} (x : Ext ρ H₀ ρ' H) : Ext ρ H₀ ρ H := ⟨⟨[], by simp⟩, fun a h n => absurd h n, x.keep⟩
/-- what a def's end is worth to the caller -/
theorem fin_imp {W : Value → Option Addr → Hp → Prop} {Q : VK} {o : Out D} (w0 : WOk K mg ρ H S) (h : PostE K mg W ρ H Q (fin S o)) : PostE K mg W ρ H Q o := by
  cases o with
  | bad => exact h
  | ok d S1 =>
    have h : PostE K mg W ρ H Q (open Classical in if Closed S S1 then (match frzD (frzP S1 S.length 6) d with
      | some d' => .ok d' (S1.take S.length)
      | none => .bad) else .bad) := h
    intro v ρ1 H1 x w1 r
    by_cases c : Closed S S1
    · rw [if_pos c] at h
      have b : Back K mg ρ ρ1 H1 S1 := ⟨x.pre, w1⟩
      cases q : frzD (frzP S1 S.length 6) d with
      | none => rw [q] at h; exact h.elim
      | some d' =>
        rw [q] at h
        have hl : frzP S1 S.length 6 = frzP S1 ρ.length 6 := by rw [w0.len]
        rw [hl] at q
        exact h v ρ H1 x.back (b.wok w0 c) (frzD_rep (fun n d' a => b.frz 6 n d' a) b.sub d d' v q r)
    · rw [if_neg c] at h; exact h.elim
  | ex d S1 =>
    have h : PostE K mg W ρ H Q (open Classical in if Closed S S1 then (match frzD (frzP S1 S.length 6) d with
      | some d' => .ex d' (S1.take S.length)
      | none => .bad) else .bad) := h
    intro C dd ρ1 H1 x w1 r
    by_cases c : Closed S S1
    · rw [if_pos c] at h
      have b : Back K mg ρ ρ1 H1 S1 := ⟨x.pre, w1⟩
      cases q : frzD (frzP S1 S.length 6) d with
      | none => rw [q] at h; exact h.elim
      | some d' =>
        rw [q] at h
        have hl : frzP S1 S.length 6 = frzP S1 ρ.length 6 := by rw [w0.len]
        rw [hl] at q
        refine h C dd ρ H1 x.back (b.wok w0 c) ?_
        obtain ⟨c', ns, ds, Ca, da, fs, e, hm, hC, hdd, nda, hx, hn, rl⟩ := r
        subst e
        rw [frzD] at q
        obtain ⟨ys, e1, e2⟩ := Option.map_eq_some_iff.mp q
        exact ⟨c', ns, ys, Ca, da, fs, e2.symm, hm, hC, hdd, b.sub da nda, hx, hn, frzL_rep (fun n d' a => b.frz 6 n d' a) b.sub ds ys _ e1 rl⟩
    · rw [if_neg c] at h; exact h.elim
end

/-! ### promises -/
def spOf (K : PySem.W.Frag) (mg : Str → Option Value) (n : Nat) (g : SemL) : Sp := fun vs H Q E => ∃ ρ S ds, ds.length = n ∧ WOk K mg ρ H S ∧ RepL K mg ρ H ds vs ∧ PostE K mg E ρ H Q (g ds S)
def SO.out : SO → Out D
  | .nx _ S => .ok .non S
  | .rt d S => .ok d S
  | .ex e _ S => .ex e S
  | _ => .bad
/-- a def by its body: N names -/
noncomputable def defS (N : Nat) (body : SX) : SemL := fun ds S => fin S (body (ds.map some ++ List.replicate (N - ds.length) none) S).out
section
variable {P : Program} {w : World} {K : PySem.W.Frag} {mg : Str → Option Value} {base : Heap}
theorem rst_start {ρ : List Addr} {H : Hp} {N : List Str} {ds : List D} {vs : List V} (r : RepL K mg ρ H ds vs) : RSt K mg ρ H (L2.start N vs) (ds.map some ++ List.replicate (N.length - ds.length) none) := by
  have hl := r.len
  refine ⟨by unfold L2.start; simp [hl], fun i d e => ?_⟩
  have hi : i < ds.length := by
    by_cases hi : i < ds.length
    · exact hi
    · rw [List.getElem?_append_right (by simpa using hi), List.getElem?_replicate] at e
      split at e <;> cases e
  rw [List.getElem?_append_left (by simpa using hi), List.getElem?_map] at e
  cases q : ds[i]? with
  | none => rw [q] at e; cases e
  | some d' =>
    rw [q] at e; cases e
    obtain ⟨v, e1, rv⟩ := r.get q
    refine ⟨v, ?_, rv⟩
    unfold L2.start
    rw [List.getElem?_append_left (by simpa [← hl] using hi), List.getElem?_map, e1]; rfl
theorem fn_ok {x qual : Str} {st : Stmt} {f : Addr} {fd : FuncData} {N ps : List Str} {k : Nat} {body : SX} (F : Fun K x qual st f fd) (Sc : FnScope N ps (defScope st))
    (hb : ∀ (cdv : Value) (A : Around) (outer : List Env) (s : Shared) (H : Hp) (E : XK), Room k (A.deeper (PyProof.Rows.envOfC qual (defScope st) s.heap.objs.size f cdv)) →
      ESs (cxOf (L2.CX P w) P w K mg base N qual (defScope st) f cdv A outer s H E) (fun c d _ H' => E c d H') (defBody st) body) :
    FnOk P w K mg base (L2.CX P w) (k + 1) f fd ps (spOf K mg ps.length (defS N.length body)) := by
  refine F.okX Sc (fun vs H Q E h => ?_) (fun cdv A outer s H vs Q E hr h => ?_)
  · obtain ⟨ρ, S, ds, hl, _, r, _⟩ := h
    rw [← r.len, hl]
  · obtain ⟨ρ, S, ds, hl, w0, r, p⟩ := h
    refine ⟨_, hb cdv A outer s H E hr, ρ, S, _, w0, rst_start r, ?_⟩
    have p := fin_imp w0 p
    cases q : body (ds.map some ++ List.replicate (N.length - ds.length) none) S with
    | nx sl S' => rw [q] at p; exact fun σ' ρ' H' x w1 r1 => p .non ρ' H' x w1 (by rw [Rep])
    | rt d S' => rw [q] at p; exact p
    | ex e sl S' => rw [q] at p; exact fun C dd σ' ρ' H' x w1 _ r1 => p C dd ρ' H' x w1 r1
    | bk sl S' => rw [q] at p; exact p.elim
    | ct sl S' => rw [q] at p; exact p.elim
    | bad => rw [q] at p; exact p.elim
/-- another function with the same values wherever it speaks -/
theorem fn_as {n k : Nat} {f : Addr} {fd : FuncData} {ps : List Str} {CX : CXT} {g g' : SemL} (F : FnOk P w K mg base CX k f fd ps (spOf K mg n g)) (h : ∀ ds S, ds.length = n → g' ds S = .bad ∨ g ds S = g' ds S) : FnOk P w K mg base CX k f fd ps (spOf K mg n g') :=
  F.imp fun vs H Q E ⟨ρ, S, ds, hl, w0, r, p⟩ => ⟨ρ, S, ds, hl, w0, r, by
    rcases h ds S hl with e | e
    · rw [e] at p; exact p.elim
    · rw [e]; exact p⟩
end

/-! ### calls -/
/-- the written arguments, then the defaults -/
def withD (dds : List D) (n : Nat) (g : SemL) : SemL := fun ds S => if (ds ++ dds).length = n then g (ds ++ dds) S else .bad
section
variable {X : Cx} {W : WX} {k n : Nat} {f C : Addr} {fd : FuncData} {ps : List Str} {g : SemL} {x m : Str} {p pos apos : Pos} {e o : Expr} {es : List Expr} {fa : AX} {fe : EX} {dvs : List V} {dfs : List Value} {dds : List D}
theorem spOf_of {ρ : List Addr} {H : Hp} {S : Store} {ds : List D} {vs : List V} {Q : VK} {E : XK} (hdf : ∀ ρ H, RepL X.K X.mg ρ H dds dvs) (w : WOk X.K X.mg ρ H S) (r : RepL X.K X.mg ρ H ds vs) (p : PostE X.K X.mg E ρ H Q (withD dds n g ds S)) : spOf X.K X.mg n g (vs ++ dvs) H Q E := by
  unfold withD at p
  split at p
  · rename_i hl
    exact ⟨ρ, S, ds ++ dds, hl, w, r.append (hdf ρ H), p⟩
  · exact p.elim
theorem r_call (tk : Takes X W) (F : FnOk X.prog X.w X.K X.mg X.base (L2.CX X.prog X.w) k f fd ps (spOf X.K X.mg n g)) (hr : Room k X.A) (hm : X.mg x = some (.ref f)) (hk : PySem.W.keepIn X.K (.ref f) = true) (hb : Binds X.K fd ps dfs) (hd : Vals dvs dfs) (hdf : ∀ ρ H, RepL X.K X.mg ρ H dds dvs)
    (ha : EA X W (e :: es) fa) (hg : Gl X x := by rfl) (hdb : (x == ("__debug__" : Str)) = false := by decide) (he : starEach (e :: es) X.env = (false, eval e X.env) :: starEach es X.env := by rfl) (hpl : (backTo pos (starEach es X.env)).any (·.1) = false := by rfl) :
    E X W (.Call (.Name x p) (e :: es) [] pos) (eArgs (withD dds n g) fa) :=
  PE.imp (pe_callSD F hr hg hm hk hb hd (fun σ => passAt tk σ) ha hdb he hpl) fun σ H Q h => argsem_imp h fun ρ S H1 ds vs w r p => spOf_of hdf w r p
theorem run_fnSD0 {pins : List (Addr × Obj)} {σ : L2.St} {H : Hp} {s : Shared} {Q : VK} {us : List Value} {vs : List V} {sp : Sp} (tk : Takes X W) (F : FnOk X.prog X.w X.K X.mg X.base (L2.CX X.prog X.w) k f fd ps sp) (hr : Room k X.A) (hb : Binds X.K fd ps dfs) (hd : Vals dvs dfs) (I : Inv X pins σ H s) (r : Vals vs us)
    (h : sp (vs ++ dvs) H Q (WE W σ)) : wpAny (model X.prog X.w) X.A (call (.ref f) us) (EP X pins σ Q) X.xe s := run_fnSD (E := WE W) F hr hb hd (passAt tk σ) I r h
/-- f() -/
theorem r_call0 (tk : Takes X W) (F : FnOk X.prog X.w X.K X.mg X.base (L2.CX X.prog X.w) k f fd ps (spOf X.K X.mg n g)) (hr : Room k X.A) (hm : X.mg x = some (.ref f)) (hk : PySem.W.keepIn X.K (.ref f) = true) (hb : Binds X.K fd ps dfs) (hd : Vals dvs dfs) (hdf : ∀ ρ H, RepL X.K X.mg ρ H dds dvs)
    (hg : Gl X x := by rfl) (hdb : (x == ("__debug__" : Str)) = false := by decide) : E X W (.Call (.Name x p) [] [] pos) (eArgs (withD dds n g) aNil) := by
  refine ⟨fun pins s σ H Q I h => ?_⟩
  refine wpAny_Call_Name_kw (ld_glob I hg hm ?_ hdb)
  refine PySem.W.callWith_K0 I.kIn hk (run_fnSD0 (us := []) (vs := []) tk F hr hb hd I .nil ?_)
  obtain ⟨ρ, S, sl, w, r, p⟩ := h
  exact spOf_of hdf w RepL.nil p
/-- the receiver's class -/
def clsOf (S : Store) : D → Option Str
  | .ins c _ _ => some c
  | .ptr n => match S[n]? with
    | some (.ins c _ _) => some c
    | _ => none
  | _ => none
def fldsOf (S : Store) : D → Option (Str × List Str × List D)
  | .ins c ns vs => some (c, ns, vs)
  | .ptr n => match S[n]? with
    | some (.ins c ns vs) => some (c, ns, vs)
    | _ => none
  | _ => none
theorem flds_rep {K : PySem.W.Frag} {mg : Str → Option Value} {ρ : List Addr} {H : Hp} {S : Store} {d : D} {v : V} {c : Str} {ns : List Str} {vs : List D} (w : WOk K mg ρ H S) (r : Rep K mg ρ H d v) (h : fldsOf S d = some (c, ns, vs)) :
    ∃ a C dx fs, v = .ref a ∧ mg c = some (.ref C) ∧ H a = some (.ins C dx fs) ∧ fs.map (·.1) = ns ∧ RepL K mg ρ H vs (fs.map (·.2)) := by
  cases d with
  | ins c' ns' vs' =>
    unfold fldsOf at h
    cases h
    rw [Rep] at r
    obtain ⟨a, C, dx, fs, e, _, hm, ha, hn, rl⟩ := r
    exact ⟨a, C, dx, fs, e, hm, ha, hn, rl⟩
  | ptr n =>
    unfold fldsOf at h
    rw [Rep] at r
    obtain ⟨a, e, q⟩ := r
    simp only at h
    split at h
    · rename_i c' ns' vs' em
      cases h
      obtain ⟨C, dx, fs, hm, ha, hn, rl⟩ := w.ob n a _ q em
      exact ⟨a, C, dx, fs, e, hm, ha, hn, rl⟩
    · cases h
  | _ => unfold fldsOf at h; cases h
/-- e.f: a field -/
def lookN (f : Str) : List Str → List D → Option D
  | n :: ns, v :: vs => if f = n then some v else lookN f ns vs
  | _, _ => none
theorem lookN_rep {K : PySem.W.Frag} {mg : Str → Option Value} {ρ : List Addr} {H : Hp} {f : Str} {d : D} : ∀ {fs : List (Str × V)} {ns : List Str} {vs : List D}, fs.map (·.1) = ns → RepL K mg ρ H vs (fs.map (·.2)) → lookN f ns vs = some d → ∃ v, fs.lookup f = some v ∧ Rep K mg ρ H d v
  | [], _, _, e, _, h => by simp at e; subst e; simp [lookN] at h
  | (n, v) :: fs, _, [], e, r, h => by simp only [List.map_cons] at e; subst e; simp [lookN] at h
  | (n, v) :: fs, _, d0 :: vs, e, r, h => by
    simp only [List.map_cons] at e r
    subst e
    rw [RepL] at r
    obtain ⟨v', r', e', r1, r2⟩ := r
    cases e'
    unfold lookN at h
    by_cases q : f = n
    · rw [if_pos q] at h
      cases h
      subst q
      exact ⟨v, by simp [List.lookup], r1⟩
    · rw [if_neg q] at h
      obtain ⟨u, h1, h2⟩ := lookN_rep rfl r2 h
      refine ⟨u, ?_, h2⟩
      rw [List.lookup_cons, beq_eq_false_iff_ne.mpr q]
      exact h1
theorem lookN_none : ∀ {f : Str} {fs : List (Str × V)} {ns : List Str}, fs.map (·.1) = ns → f ∉ ns → fs.lookup f = none
  | f, [], _, e, h => rfl
  | f, (n, v) :: fs, _, e, h => by
    simp only [List.map_cons] at e
    subst e
    rw [List.lookup_cons, beq_eq_false_iff_ne.mpr (fun q => h (by rw [q]; exact List.mem_cons_self))]
    exact lookN_none rfl fun q => h (List.mem_cons_of_mem _ q)
/-- e.f of an instance of one of the classes cs -/
def semFld (cs : List Str) (f : Str) : Sem1 := fun d S => match fldsOf S d with
  | some (c, ns, vs) => if c ∈ cs then (match lookN f ns vs with
    | some v => .ok v S
    | none => .bad) else .bad
  | none => .bad
theorem r_fld {f : Str} {cs : List Str} (hc : ∀ c ∈ cs, ∀ C, X.mg c = some (.ref C) → Cls X.K C ∧ NoAttr X.K C f) (he : E X W e fe) (hb : attributeBase e f X.env (eval e X.env) = eval e X.env := by rfl) : E X W (.Attribute e f pos) (eUn (semFld cs f) fe) :=
  PE.imp (pe_fld he hb) fun σ H Q h => un_imp (g := fun _ => semFld cs f) h fun ρ S sl H1 d v w _ r p => by
    unfold semFld at p
    split at p
    · rename_i c ns vs q
      obtain ⟨a, C, dx, fs, e1, hm, ha, hn, rl⟩ := flds_rep w r q
      split at p
      · rename_i hmem
        split at p
        · rename_i v' q'
          obtain ⟨u, h1, h2⟩ := lookN_rep hn rl q'
          obtain ⟨h3, h4⟩ := hc c hmem C hm
          exact ⟨a, C, dx, fs, u, e1, ha, h3, h4, h1, post_ok p w h2⟩
        · exact p.elim
      · exact p.elim
    · exact p.elim
end
end Z
/-! Z4: the operators, subscripts, methods and built-ins by data. -/
namespace Z
open PySem PySem.Spec L2

section
variable {K : PySem.W.Frag} {mg : Str → Option Value} {ρ : List Addr} {H : Hp} {S : Store}
theorem rep_int {i : Int} {v : V} (h : Rep K mg ρ H (.int i) v) : v = .int i := by rw [Rep] at h; exact h
theorem rep_bl {i : Bool} {v : V} (h : Rep K mg ρ H (.bl i) v) : v = .bl i := by rw [Rep] at h; exact h
theorem rep_str {i : Str} {v : V} (h : Rep K mg ρ H (.str i) v) : v = .str i := by rw [Rep] at h; exact h
theorem rep_non {v : V} (h : Rep K mg ρ H .non v) : v = .non := by rw [Rep] at h; exact h
theorem rep_ty {n : String} {v : V} (h : Rep K mg ρ H (.ty n) v) : v = .ty n := by rw [Rep] at h; exact h
theorem mk_int {i : Int} : Rep K mg ρ H (.int i) (.int i) := by rw [Rep]
theorem mk_bl {i : Bool} : Rep K mg ρ H (.bl i) (.bl i) := by rw [Rep]
theorem mk_str {i : Str} : Rep K mg ρ H (.str i) (.str i) := by rw [Rep]
theorem mk_non : Rep K mg ρ H .non .non := by rw [Rep]
theorem asL_rep {d : D} {v : V} {ds : List D} (w : WOk K mg ρ H S) (r : Rep K mg ρ H d v) (h : asL S d = some ds) : ∃ a vs, v = .ref a ∧ H a = some (.lst vs) ∧ RepL K mg ρ H ds vs := by
  cases d with
  | lst xs =>
    unfold asL at h
    cases h
    rw [Rep] at r
    obtain ⟨a, vs, e, t, r⟩ := r
    exact ⟨a, vs, e, t.2, r⟩
  | ptr n =>
    unfold asL at h
    simp only at h
    rw [Rep] at r
    obtain ⟨a, e, q⟩ := r
    split at h
    · rename_i xs em
      cases h
      obtain ⟨vs, h1, h2⟩ := w.ob n a _ q em
      exact ⟨a, vs, e, h1, h2⟩
    · cases h
  | _ => unfold asL at h; cases h
/-- a list or a tuple that is read; a script too -/
def asS (S : Store) : D → Option (List D)
  | .tup ds => some ds
  | .scr xs => some (xs.map .int)
  | d => asL S d
theorem repL_ints : ∀ xs : List Int, RepL K mg ρ H (xs.map .int) (xs.map V.int)
  | [] => RepL.nil
  | x :: xs => RepL.cons mk_int (repL_ints xs)
theorem asS_rep {d : D} {v : V} {ds : List D} (w : WOk K mg ρ H S) (r : Rep K mg ρ H d v) (h : asS S d = some ds) : ∃ a vs, v = .ref a ∧ (SqL K H a vs ∨ SqT K H a vs) ∧ RepL K mg ρ H ds vs := by
  cases d with
  | tup xs =>
    unfold asS at h
    cases h
    rw [Rep] at r
    obtain ⟨a, vs, e, t, r⟩ := r
    exact ⟨a, vs, e, .inr t.sq, r⟩
  | scr xs =>
    unfold asS at h
    cases h
    rw [Rep] at r
    obtain ⟨a, e, t⟩ := r
    exact ⟨a, _, e, .inl t.sq, repL_ints xs⟩
  | lst xs =>
    obtain ⟨a, vs, e, h1, h2⟩ := asL_rep w r (show asL S (.lst xs) = some ds from h)
    exact ⟨a, vs, e, .inl (.inl (.inl h1)), h2⟩
  | ptr n =>
    obtain ⟨a, vs, e, h1, h2⟩ := asL_rep w r (show asL S (.ptr n) = some ds from h)
    exact ⟨a, vs, e, .inl (.inl (.inl h1)), h2⟩
  | _ => unfold asS asL at h; cases h
end

/-! ### ints -/
def iiS (g : Int → Int → D) : Sem2 := fun d e S => match d, e with
  | .int i, .int j => .ok (g i j) S
  | _, _ => .bad
def iiC (C : Int → Int → Bool) (g : Int → Int → D) : Sem2 := fun d e S => match d, e with
  | .int i, .int j => if C i j = true then .ok (g i j) S else .bad
  | _, _ => .bad
section
variable {X : Cx}
theorem d_ii {f : Value → Value → Sem Value} {gd : Int → Int → D} {g : Int → Int → V} (o : OpR X f (rI0 g)) (hg : ∀ i j ρ H, Rep X.K X.mg ρ H (gd i j) (g i j)) : OpD X f (iiS gd) := by
  refine ⟨_, o, fun Wp ρ H S d e x y Q w rx ry p => ?_⟩
  unfold iiS at p
  split at p
  · exact ⟨_, _, rep_int rx, rep_int ry, post_ok p w (hg _ _ ρ H)⟩
  · exact p.elim
theorem d_iiC {f : Value → Value → Sem Value} {C : Int → Int → Prop} {Cb : Int → Int → Bool} {gd : Int → Int → D} {g : Int → Int → V} (o : OpR X f (rI C g)) (hC : ∀ i j, Cb i j = true → C i j) (hg : ∀ i j ρ H, Rep X.K X.mg ρ H (gd i j) (g i j)) : OpD X f (iiC Cb gd) := by
  refine ⟨_, o, fun Wp ρ H S d e x y Q w rx ry p => ?_⟩
  unfold iiC at p
  split at p
  · split at p
    · rename_i hc
      exact ⟨_, _, rep_int rx, rep_int ry, hC _ _ hc, post_ok p w (hg _ _ ρ H)⟩
    · exact p.elim
  · exact p.elim
def addI : Sem2 := iiS fun i j => .int (i + j)
def subI : Sem2 := iiS fun i j => .int (i - j)
/-- below a million bits together -/
def mulB (i j : Int) : Bool := decide (i.natAbs.log2 + j.natAbs.log2 < 1000000)
def mulI : Sem2 := iiC mulB fun i j => .int (i * j)
def divB (_ j : Int) : Bool := decide (0 < j ∧ j.natAbs.log2 < 9000)
def divI : Sem2 := iiC divB fun i j => .int (i / j)
def modI : Sem2 := iiC (fun _ j => decide (0 < j)) fun i j => .int (i % j)
def powI : Sem2 := iiC (fun i j => decide (0 ≤ j ∧ j ≤ 1000 ∧ i.natAbs < 2 ^ 60)) fun i j => .int (i ^ j.toNat)
theorem d_addI : OpD X (binaryOp .Add) addI := d_ii op_add fun _ _ _ _ => mk_int
theorem d_subI : OpD X (binaryOp .Sub) subI := d_ii op_sub fun _ _ _ _ => mk_int
theorem d_mulI : OpD X (binaryOp .Mult) mulI := d_iiC op_mulW (fun i j h => of_decide_eq_true (p := i.natAbs.log2 + j.natAbs.log2 < 1000000) h) fun _ _ _ _ => mk_int
theorem d_divI : OpD X (binaryOp .FloorDiv) divI := d_iiC op_fdivW (fun i j h => of_decide_eq_true (p := 0 < j ∧ j.natAbs.log2 < 9000) h) fun _ _ _ _ => mk_int
theorem d_modI : OpD X (binaryOp .Mod) modI := d_iiC op_mod (fun i j h => of_decide_eq_true h) fun _ _ _ _ => mk_int
theorem d_powI : OpD X (binaryOp .Pow) powI := d_iiC op_pow (fun i j h => by
  have h := of_decide_eq_true h
  have h1 : (2 : Nat) ^ 60 < 2 ^ 64 := by decide
  exact ⟨h.1, by omega, by omega⟩) fun _ _ _ _ => mk_int
def ltI : Sem2 := iiS fun i j => .bl (decide (i < j))
def leI : Sem2 := iiS fun i j => .bl (decide (i ≤ j))
def gtI : Sem2 := iiS fun i j => .bl (decide (j < i))
def geI : Sem2 := iiS fun i j => .bl (decide (j ≤ i))
theorem d_ltI : OpD X (compareOp .Lt) ltI := d_ii op_lt fun _ _ _ _ => mk_bl
theorem d_leI : OpD X (compareOp .LtE) leI := d_ii op_le fun _ _ _ _ => mk_bl
theorem d_gtI : OpD X (compareOp .Gt) gtI := d_ii op_gt fun _ _ _ _ => mk_bl
theorem d_geI : OpD X (compareOp .GtE) geI := d_ii op_ge fun _ _ _ _ => mk_bl
def negI : Sem1 := fun d S => match d with
  | .int i => .ok (.int (-i)) S
  | _ => .bad
theorem d_negI : UnD X (unaryOp .USub) negI := by
  refine ⟨_, un_neg, fun Wp ρ H S d x Q w rx p => ?_⟩
  cases d with
  | int i => exact ⟨i, rep_int rx, post_ok p w mk_int⟩
  | _ => exact p.elim

/-! ### texts -/
def addS : Sem2 := fun d e S => match d, e with
  | .str i, .str j => if i.length + j.length ≤ 1000000 then .ok (.str (i ++ j)) S else .bad
  | _, _ => .bad
theorem d_addS : OpD X (binaryOp .Add) addS := by
  refine ⟨_, op_add_str, fun Wp ρ H S d e x y Q w rx ry p => ?_⟩
  unfold addS at p
  split at p
  · split at p
    · rename_i hl
      exact ⟨_, _, rep_str rx, rep_str ry, line_of hl, post_ok p w mk_str⟩
    · exact p.elim
  · exact p.elim
def ltS : Sem2 := fun d e S => match d, e with
  | .str i, .str j => .ok (.bl (decide (i.cps.toList < j.cps.toList))) S
  | _, _ => .bad
theorem d_ltS : OpD X (compareOp .Lt) ltS := by
  refine ⟨_, op_lt_str, fun Wp ρ H S d e x y Q w rx ry p => ?_⟩
  unfold ltS at p
  split at p
  · exact ⟨_, _, rep_str rx, rep_str ry, post_ok p w mk_bl⟩
  · exact p.elim
/-- one sign in a text -/
def inSg (neg : Bool) : Sem2 := fun d e S => match d, e with
  | .str i, .str j => (match i.cps.toList with
    | [c] => .ok (.bl (if neg = true then !decide (c ∈ j.cps.toList) else decide (c ∈ j.cps.toList))) S
    | _ => .bad)
  | _, _ => .bad
theorem str_of_toList {i : Str} {c : Nat} (h : i.cps.toList = [c]) : i = ⟨#[c]⟩ := by
  obtain ⟨a⟩ := i
  have : a = #[c] := by
    have := congrArg List.toArray h
    simpa using this
  rw [this]
theorem d_inSg : OpD X (compareOp .In) (inSg false) := by
  refine ⟨_, op_in_sign, fun Wp ρ H S d e x y Q w rx ry p => ?_⟩
  unfold inSg at p
  split at p
  · split at p
    · rename_i c hc
      have hs := str_of_toList hc
      refine ⟨c, _, ?_, rep_str ry, post_ok p w mk_bl⟩
      rw [rep_str rx, hs]
    · exact p.elim
  · exact p.elim
theorem d_notInSg : OpD X (compareOp .NotIn) (inSg true) := by
  refine ⟨_, op_notIn_sign, fun Wp ρ H S d e x y Q w rx ry p => ?_⟩
  unfold inSg at p
  split at p
  · split at p
    · rename_i c hc
      have hs := str_of_toList hc
      refine ⟨c, _, ?_, rep_str ry, post_ok p w mk_bl⟩
      rw [rep_str rx, hs]
    · exact p.elim
  · exact p.elim

/-! ### == by data -/
mutual
def toP0 : D → Option PyData
  | .non => some .none
  | .bl b => some (.bool b)
  | .int i => some (.int i)
  | .str s => some (.str s)
  | .lst xs => (toPL0 xs).map .list
  | .tup xs => (toPL0 xs).map .tuple
  | _ => none
def toPL0 : List D → Option (List PyData)
  | [] => some []
  | d :: ds => match toP0 d, toPL0 ds with
    | some a, some b => some (a :: b)
    | _, _ => none
end
def toP (S : Store) : D → Option PyData
  | .ptr n => match S[n]? with
    | some (.lst ds) => (toPL0 ds).map .list
    | _ => none
  | d => toP0 d
def eqD (neg : Bool) : Sem2 := fun d e S => match toP S d, toP S e with
  | some a, some b => if SeqAt.shaped a = true ∧ SeqAt.shaped b = true then .ok (.bl (if neg = true then !PyData.eqv a b else PyData.eqv a b)) S else .bad
  | _, _ => .bad
mutual
theorem toP0_rep {K : PySem.W.Frag} {mg : Str → Option Value} {ρ : List Addr} {H : Hp} : ∀ (d : D) (v : V) (p : PyData), Rep K mg ρ H d v → toP0 d = some p → Dp K H v p
  | .non, v, p, r, h => by rw [toP0] at h; cases h; rw [rep_non r]; exact .non
  | .bl b, v, p, r, h => by rw [toP0] at h; cases h; rw [rep_bl r]; exact .bl b
  | .int b, v, p, r, h => by rw [toP0] at h; cases h; rw [rep_int r]; exact .int b
  | .str b, v, p, r, h => by rw [toP0] at h; cases h; rw [rep_str r]; exact .str b
  | .lst xs, v, p, r, h => by
    rw [toP0] at h
    obtain ⟨ys, e1, e2⟩ := Option.map_eq_some_iff.mp h
    subst e2
    rw [Rep] at r
    obtain ⟨a, vs, e, t, r⟩ := r
    subst e
    exact .lst t.sq (toPL0_rep xs vs ys r e1)
  | .tup xs, v, p, r, h => by
    rw [toP0] at h
    obtain ⟨ys, e1, e2⟩ := Option.map_eq_some_iff.mp h
    subst e2
    rw [Rep] at r
    obtain ⟨a, vs, e, t, r⟩ := r
    subst e
    exact .tup t.sq (toPL0_rep xs vs ys r e1)
  | .ty _, v, p, r, h => by rw [toP0] at h; all_goals (first | cases h | (intros; rintro ⟨⟩))
  | .cls _, v, p, r, h => by rw [toP0] at h; all_goals (first | cases h | (intros; rintro ⟨⟩))
  | .dct _ _, v, p, r, h => by rw [toP0] at h; all_goals (first | cases h | (intros; rintro ⟨⟩))
  | .ins _ _ _, v, p, r, h => by rw [toP0] at h; all_goals (first | cases h | (intros; rintro ⟨⟩))
  | .ptr _, v, p, r, h => by rw [toP0] at h; all_goals (first | cases h | (intros; rintro ⟨⟩))
  | .scr _, v, p, r, h => by rw [toP0] at h; all_goals (first | cases h | (intros; rintro ⟨⟩))
theorem toPL0_rep {K : PySem.W.Frag} {mg : Str → Option Value} {ρ : List Addr} {H : Hp} : ∀ (ds : List D) (vs : List V) (ps : List PyData), RepL K mg ρ H ds vs → toPL0 ds = some ps → DpAll K H vs ps
  | [], vs, ps, r, h => by rw [toPL0] at h; cases h; rw [RepL] at r; subst r; exact .nil
  | d :: ds, vs, ps, r, h => by
    rw [toPL0] at h
    split at h
    · rename_i a b ea eb
      cases h
      rw [RepL] at r
      obtain ⟨v, r', e, h1, h2⟩ := r
      subst e
      exact .cons (toP0_rep d v a h1 ea) (toPL0_rep ds r' b h2 eb)
    · cases h
end
theorem toP_rep {K : PySem.W.Frag} {mg : Str → Option Value} {ρ : List Addr} {H : Hp} {S : Store} {d : D} {v : V} {p : PyData} (w : WOk K mg ρ H S) (r : Rep K mg ρ H d v) (h : toP S d = some p) : Dp K H v p := by
  cases d with
  | ptr n =>
    unfold toP at h
    simp only at h
    split at h
    · rename_i ds em
      obtain ⟨ys, e1, e2⟩ := Option.map_eq_some_iff.mp h
      subst e2
      rw [Rep] at r
      obtain ⟨a, e, q⟩ := r
      subst e
      obtain ⟨vs, h1, h2⟩ := w.ob n a _ q em
      exact .lst (.inl (.inl h1)) (toPL0_rep ds vs ys h2 e1)
    · cases h
  | _ => exact toP0_rep _ v p r h
theorem d_eq (hu : X.A.units + 64 < cLine) : OpD X (compareOp .Eq) (eqD false) := by
  refine ⟨_, op_eqD hu, fun Wp ρ H S d e x y Q w rx ry p => ?_⟩
  unfold eqD at p
  split at p
  · rename_i a b ea eb
    split at p
    · rename_i hs
      exact ⟨a, b, toP_rep w rx ea, toP_rep w ry eb, hs.1, hs.2, post_ok p w mk_bl⟩
    · exact p.elim
  · exact p.elim
theorem d_ne (hu : X.A.units + 64 < cLine) : OpD X (compareOp .NotEq) (eqD true) := by
  refine ⟨_, op_neD hu, fun Wp ρ H S d e x y Q w rx ry p => ?_⟩
  unfold eqD at p
  split at p
  · rename_i a b ea eb
    split at p
    · rename_i hs
      exact ⟨a, b, toP_rep w rx ea, toP_rep w ry eb, hs.1, hs.2, post_ok p w mk_bl⟩
    · exact p.elim
  · exact p.elim
/-- is None -/
def isNon : D → Bool
  | .non => true
  | _ => false
def isN (neg : Bool) : Sem2 := fun d e S => match e with
  | .non => .ok (.bl (if neg = true then !isNon d else isNon d)) S
  | _ => .bad
theorem isN_val {K : PySem.W.Frag} {mg : Str → Option Value} {ρ : List Addr} {H : Hp} {d : D} {x : V} (r : Rep K mg ρ H d x) : decide (x = V.non) = isNon d := by
  cases d with
  | non => rw [rep_non r]; rfl
  | bl b => rw [rep_bl r]; rfl
  | int b => rw [rep_int r]; rfl
  | str b => rw [rep_str r]; rfl
  | ty b => rw [rep_ty r]; rfl
  | cls c => rw [Rep] at r; obtain ⟨C, _, e⟩ := r; rw [e]; rfl
  | tup xs => rw [Rep] at r; obtain ⟨a, vs, e, _⟩ := r; rw [e]; rfl
  | lst xs => rw [Rep] at r; obtain ⟨a, vs, e, _⟩ := r; rw [e]; rfl
  | dct ks vs => rw [Rep] at r; obtain ⟨a, _, _, e, _⟩ := r; rw [e]; rfl
  | ins c ns vs => rw [Rep] at r; obtain ⟨a, _, _, _, e, _⟩ := r; rw [e]; rfl
  | ptr n => rw [Rep] at r; obtain ⟨a, e, _⟩ := r; rw [e]; rfl
  | scr xs => rw [Rep] at r; obtain ⟨a, e, _⟩ := r; rw [e]; rfl
theorem d_isN : OpD X (compareOp .Is) (isN false) := by
  refine ⟨_, op_isN, fun Wp ρ H S d e x y Q w rx ry p => ?_⟩
  unfold isN at p
  split at p
  · refine ⟨rep_non ry, ?_⟩
    rw [isN_val rx]
    exact post_ok p w mk_bl
  · exact p.elim
theorem d_notN : OpD X (compareOp .IsNot) (isN true) := by
  refine ⟨_, op_notN, fun Wp ρ H S d e x y Q w rx ry p => ?_⟩
  unfold isN at p
  split at p
  · refine ⟨rep_non ry, ?_⟩
    rw [isN_val rx]
    exact post_ok p w mk_bl
  · exact p.elim

/-! ### lists and tuples: +, *, in -/
def addL : Sem2 := fun d e S => match asL S d, asL S e with
  | some a, some b => if a.length + b.length ≤ 1000000 then .ok (.lst (a ++ b)) S else .bad
  | _, _ => .bad
theorem d_addL : OpD X (binaryOp .Add) addL := by
  refine ⟨_, op_cat, fun Wp ρ H S d e x y Q w rx ry p => ?_⟩
  unfold addL at p
  split at p
  · rename_i a b ea eb
    split at p
    · rename_i hl
      obtain ⟨l, vs, e1, h1, r1⟩ := asL_rep w rx ea
      obtain ⟨l2, vs2, e2, h2, r2⟩ := asL_rep w ry eb
      exact ⟨l, l2, vs, vs2, e1, e2, h1, h2, by rw [← r1.len, ← r2.len]; exact line_of hl, fun q hq => post_lst p w (r1.append r2) hq⟩
    · exact p.elim
  · exact p.elim
def addT : Sem2 := fun d e S => match d, e with
  | .tup a, .tup b => if a ≠ [] ∧ b ≠ [] ∧ a.length + b.length ≤ 1000000 then .ok (.tup (a ++ b)) S else .bad
  | _, _ => .bad
theorem d_addT : OpD X (binaryOp .Add) addT := by
  refine ⟨_, op_catT, fun Wp ρ H S d e x y Q w rx ry p => ?_⟩
  unfold addT at p
  split at p
  · rename_i a b
    split at p
    · rename_i hl
      rw [Rep] at rx ry
      obtain ⟨l, vs, e1, h1, r1⟩ := rx
      obtain ⟨l2, vs2, e2, h2, r2⟩ := ry
      have n1 : vs ≠ [] := fun q => hl.1 (List.length_eq_zero_iff.mp (by rw [r1.len, q]; rfl))
      have n2 : vs2 ≠ [] := fun q => hl.2.1 (List.length_eq_zero_iff.mp (by rw [r2.len, q]; rfl))
      exact ⟨l, l2, vs, vs2, e1, e2, h1.sq, h2.sq, n1, by rw [← r1.len, ← r2.len]; exact line_of hl.2.2, fun q => absurd q n2, fun _ q hq => post_tup p w (r1.append r2) hq⟩
    · exact p.elim
  · exact p.elim
def repD (k : Nat) (xs : List D) : List D := (List.replicate k xs).flatten
theorem RepL.rep {K : PySem.W.Frag} {mg : Str → Option Value} {ρ : List Addr} {H : Hp} {ds : List D} {vs : List V} (r : RepL K mg ρ H ds vs) : ∀ k : Nat, RepL K mg ρ H (repD k ds) (List.replicate k vs).flatten
  | 0 => RepL.nil
  | k + 1 => by
    show RepL K mg ρ H (List.replicate (k + 1) ds).flatten _
    rw [List.replicate_succ, List.replicate_succ, List.flatten_cons, List.flatten_cons]
    exact r.append (RepL.rep r k)
def mulL : Sem2 := fun d e S => match asL S d, e with
  | some a, .int k => if k < 1000000 ∧ a.length * k.toNat ≤ 1000000 ∧ -1000000 ≤ k then .ok (.lst (repD k.toNat a)) S else .bad
  | _, _ => .bad
theorem d_mulL : OpD X (binaryOp .Mult) mulL := by
  refine ⟨_, op_rep, fun Wp ρ H S d e x y Q w rx ry p => ?_⟩
  unfold mulL at p
  split at p
  · rename_i a k ea
    split at p
    · rename_i hl
      obtain ⟨l, vs, e1, h1, r1⟩ := asL_rep w rx ea
      exact ⟨l, k, vs, e1, rep_int ry, h1, by omega, by omega, by rw [← r1.len]; exact line_of hl.2.1, fun q hq => post_lst p w (r1.rep k.toNat) hq⟩
    · exact p.elim
  · exact p.elim
/-- as a handle -/
def mulLH : Sem2 := fun d e S => match asL S d, e with
  | some a, .int k => if k < 1000000 ∧ a.length * k.toNat ≤ 1000000 ∧ -1000000 ≤ k then .ok (.ptr S.length) (S ++ [.lst (repD k.toNat a)]) else .bad
  | _, _ => .bad
theorem d_mulLH : OpD X (binaryOp .Mult) mulLH := by
  refine ⟨_, op_rep, fun Wp ρ H S d e x y Q w rx ry p => ?_⟩
  unfold mulLH at p
  split at p
  · rename_i a k ea
    split at p
    · rename_i hl
      obtain ⟨l, vs, e1, h1, r1⟩ := asL_rep w rx ea
      exact ⟨l, k, vs, e1, rep_int ry, h1, by omega, by omega, by rw [← r1.len]; exact line_of hl.2.1, fun q hq => post_lstH p w (r1.rep k.toNat) hq⟩
    · exact p.elim
  · exact p.elim
/-- x in a list or tuple of flat things -/
def flatD : D → Bool
  | .non => true
  | .bl _ => true
  | .int _ => true
  | .str _ => true
  | _ => false
def eqF : D → D → Bool
  | .non, .non => true
  | .bl a, .bl b => a == b
  | .bl a, .int j => (if a then 1 else 0) == j
  | .int i, .bl b => i == (if b then 1 else 0)
  | .int i, .int j => i == j
  | .str x, .str y => x == y
  | _, _ => false
end
end Z
/-! Z5: len, isinstance, all, any, list, tuple, subscripts, slices, texts' methods, dicts, by data. -/
namespace Z
open PySem PySem.Spec L2

section
variable {X : Cx}
/-! ### x in xs, flat -/
def inD (x : D) (xs : List D) : Bool := xs.any fun y => eqF y x
theorem flat_rep {K : PySem.W.Frag} {mg : Str → Option Value} {ρ : List Addr} {H : Hp} {d : D} {v : V} (f : flatD d = true) (r : Rep K mg ρ H d v) : flatV v = true := by
  cases d with
  | non => rw [rep_non r]; rfl
  | bl b => rw [rep_bl r]; rfl
  | int b => rw [rep_int r]; rfl
  | str b => rw [rep_str r]; rfl
  | _ => cases f
theorem eqF_rep {K : PySem.W.Frag} {mg : Str → Option Value} {ρ : List Addr} {H : Hp} {d e : D} {v u : V} (f : flatD d = true) (g : flatD e = true) (r : Rep K mg ρ H d v) (q : Rep K mg ρ H e u) : eqV v u = eqF d e := by
  cases d with
  | non => rw [rep_non r]; cases e with
    | non => rw [rep_non q]; rfl
    | bl b => rw [rep_bl q]; rfl
    | int b => rw [rep_int q]; rfl
    | str b => rw [rep_str q]; rfl
    | _ => cases g
  | bl b => rw [rep_bl r]; cases e with
    | non => rw [rep_non q]; rfl
    | bl b => rw [rep_bl q]; rfl
    | int b => rw [rep_int q]; rfl
    | str b => rw [rep_str q]; rfl
    | _ => cases g
  | int b => rw [rep_int r]; cases e with
    | non => rw [rep_non q]; rfl
    | bl b => rw [rep_bl q]; rfl
    | int b => rw [rep_int q]; rfl
    | str b => rw [rep_str q]; rfl
    | _ => cases g
  | str b => rw [rep_str r]; cases e with
    | non => rw [rep_non q]; rfl
    | bl b => rw [rep_bl q]; rfl
    | int b => rw [rep_int q]; rfl
    | str b => rw [rep_str q]; rfl
    | _ => cases g
  | _ => cases f
theorem in_rep {K : PySem.W.Frag} {mg : Str → Option Value} {ρ : List Addr} {H : Hp} {x : D} {v : V} (f : flatD x = true) (r : Rep K mg ρ H x v) : ∀ {ds : List D} {vs : List V}, RepL K mg ρ H ds vs → ds.all flatD = true → vs.all flatV = true ∧ inV v vs = inD x ds
  | [], _, h, _ => by rw [RepL] at h; subst h; exact ⟨rfl, rfl⟩
  | d :: ds, _, h, a => by
    rw [RepL] at h
    obtain ⟨u, r', e, h1, h2⟩ := h
    subst e
    rw [List.all_cons, Bool.and_eq_true] at a
    obtain ⟨i1, i2⟩ := in_rep f r h2 a.2
    refine ⟨by rw [List.all_cons, flat_rep a.1 h1, i1]; rfl, ?_⟩
    show (eqV u v || inV v r') = (eqF d x || inD x ds)
    rw [i2, eqF_rep a.1 f h1 r]
def inSq (neg : Bool) : Sem2 := fun d e S => match asS S e with
  | some ds => if flatD d = true ∧ ds.all flatD = true then .ok (.bl (if neg = true then !inD d ds else inD d ds)) S else .bad
  | none => .bad
theorem d_inSq : OpD X (compareOp .In) (inSq false) := by
  refine ⟨_, op_in_seq, fun Wp ρ H S d e x y Q w rx ry p => ?_⟩
  unfold inSq at p
  split at p
  · rename_i ds ea
    split at p
    · rename_i hf
      obtain ⟨a, vs, e1, h1, r1⟩ := asS_rep w ry ea
      obtain ⟨i1, i2⟩ := in_rep hf.1 rx r1 hf.2
      refine ⟨a, vs, e1, h1, flat_rep hf.1 rx, i1, ?_⟩
      rw [i2]
      exact post_ok p w mk_bl
    · exact p.elim
  · exact p.elim
theorem d_notInSq : OpD X (compareOp .NotIn) (inSq true) := by
  refine ⟨_, op_notIn_seq, fun Wp ρ H S d e x y Q w rx ry p => ?_⟩
  unfold inSq at p
  split at p
  · rename_i ds ea
    split at p
    · rename_i hf
      obtain ⟨a, vs, e1, h1, r1⟩ := asS_rep w ry ea
      obtain ⟨i1, i2⟩ := in_rep hf.1 rx r1 hf.2
      refine ⟨a, vs, e1, h1, flat_rep hf.1 rx, i1, ?_⟩
      rw [i2]
      exact post_ok p w mk_bl
    · exact p.elim
  · exact p.elim

/-! ### len -/
def semLen : SemL := fun ds S => match ds with
  | [.str s] => if s.length ≤ 1000000 then .ok (.int s.length) S else .bad
  | [d] => (match asS S d with
    | some xs => .ok (.int xs.length) S
    | none => .bad)
  | _ => .bad
theorem d_len : CallD X (.builtin "len") semLen := by
  refine ⟨_, call_len, fun Wp ρ H S ds xs Q w r p => ?_⟩
  match ds, r, p with
  | [d], r, p =>
    rw [RepL] at r
    obtain ⟨v, r', e, h1, h2⟩ := r
    rw [RepL] at h2
    subst h2 e
    have go : ∀ ys, asS S d = some ys → PostE X.K X.mg Wp ρ H Q (.ok (.int ys.length) S) → ∃ x n, [v] = [x] ∧ LenV X.K x H n ∧ Q (.int n) H := fun ys ea p => by
      obtain ⟨a, vs, e1, h3, r1⟩ := asS_rep w h1 ea
      subst e1
      refine ⟨_, vs.length, rfl, ?_, by rw [← r1.len]; exact post_ok p w mk_int⟩
      rcases h3 with h3 | h3
      · exact .inl ⟨vs, h3, rfl⟩
      · exact .inr ⟨vs, h3, rfl⟩
    cases d with
    | str s =>
      unfold semLen at p
      simp only at p
      split at p
      · rename_i hl
        exact ⟨.str s, s.length, by rw [rep_str h1], ⟨line_of hl, rfl⟩, post_ok p w mk_int⟩
      · exact p.elim
    | tup xs => exact go xs rfl p
    | lst xs => exact go xs rfl p
    | scr xs => exact go _ rfl p
    | ptr n =>
      have p : PostE X.K X.mg Wp ρ H Q (match asS S (.ptr n) with
        | some xs => .ok (.int xs.length) S
        | none => .bad) := p
      split at p
      · rename_i ys ey
        exact go ys ey p
      · exact p.elim
    | _ => exact p.elim
  | [], _, p => exact p.elim
  | d :: _ :: _, _, p => cases d <;> exact p.elim

/-! ### isinstance of built-in types -/
inductive Kd where
  | non | bl | int | str | tup | lst | dct
  deriving DecidableEq
def Kd.name : Kd → String
  | .non => "NoneType"
  | .bl => "bool"
  | .int => "int"
  | .str => "str"
  | .tup => "tuple"
  | .lst => "list"
  | .dct => "dict"
def kdOf (S : Store) : D → Option Kd
  | .non => some .non
  | .bl _ => some .bl
  | .int _ => some .int
  | .str _ => some .str
  | .tup _ => some .tup
  | .lst _ => some .lst
  | .scr _ => some .lst
  | .dct _ _ => some .dct
  | .ptr n => match S[n]? with
    | some (.lst _) => some .lst
    | some (.dct _ _ _) => some .dct
    | _ => none
  | _ => none
def isKd (k : Kd) (T : String) : Option Bool :=
  if T = "int" then some (k = .int ∨ k = .bl) else if T = "bool" then some (k = .bl) else if T = "str" then some (k = .str) else if T = "list" then some (k = .lst) else if T = "tuple" then some (k = .tup) else if T = "dict" then some (k = .dct) else none
theorem isKd_kit {K : PySem.W.Frag} {k : Kd} {T : String} {b : Bool} (h : isKd k T = some b) : PySem.W.kitOne K (.type k.name) (.type T) = some b := by
  unfold isKd at h
  split at h
  · rename_i e; subst e; cases h; cases k <;> exact kit_ty (by decide +kernel)
  split at h
  · rename_i e; subst e; cases h; cases k <;> exact kit_ty (by decide +kernel)
  split at h
  · rename_i e; subst e; cases h; cases k <;> exact kit_ty (by decide +kernel)
  split at h
  · rename_i e; subst e; cases h; cases k <;> exact kit_ty (by decide +kernel)
  split at h
  · rename_i e; subst e; cases h; cases k <;> exact kit_ty (by decide +kernel)
  split at h
  · rename_i e; subst e; cases h; cases k <;> exact kit_ty (by decide +kernel)
  · cases h
theorem kd_rep {K : PySem.W.Frag} {mg : Str → Option Value} {ρ : List Addr} {H : Hp} {S : Store} {d : D} {v : V} {k : Kd} (w : WOk K mg ρ H S) (r : Rep K mg ρ H d v) (h : kdOf S d = some k) : TyX K H v (.type k.name) := by
  cases d with
  | non => cases h; rw [rep_non r]; exact .base .non
  | bl b => cases h; rw [rep_bl r]; exact .base (.bl b)
  | int b => cases h; rw [rep_int r]; exact .base (.int b)
  | str b => cases h; rw [rep_str r]; exact .base (.str b)
  | tup xs =>
    cases h
    rw [Rep] at r
    obtain ⟨a, vs, e, t, _⟩ := r
    subst e
    rcases t with ⟨_, t⟩ | ⟨o, its, n, hk, hc, _⟩
    · exact .base (.tup t)
    · exact .kTuple hk hc
  | lst xs =>
    cases h
    rw [Rep] at r
    obtain ⟨a, vs, e, t, _⟩ := r
    subst e
    exact .base (.lst t.2)
  | scr xs =>
    cases h
    rw [Rep] at r
    obtain ⟨a, e, t⟩ := r
    subst e
    rcases t with ⟨_, t | ⟨o, t⟩⟩ | ⟨o, its, n, hk, hc, _⟩
    · exact .base (.lst t)
    · exact .base (.frz t)
    · exact .kList hk hc
  | dct ks vs =>
    cases h
    rw [Rep] at r
    obtain ⟨a, kv, vs, e, ⟨_, kvs, t, _⟩, _⟩ := r
    subst e
    rcases t with t | ⟨o, t⟩
    · exact .base (.dK t)
    · exact .fDict t
  | ptr n =>
    rw [Rep] at r
    obtain ⟨a, e, q⟩ := r
    subst e
    unfold kdOf at h
    simp only at h
    split at h
    · rename_i xs em
      cases h
      obtain ⟨vs, h1, _⟩ := w.ob n a _ q em
      exact .base (.lst h1)
    · rename_i lk ks vs em
      cases h
      obtain ⟨kvs, h1, _⟩ := w.ob n a _ q em
      cases lk with
      | true =>
        rw [if_pos rfl] at h1
        rcases h1 with t | ⟨o, t⟩
        · exact .base (.dK t)
        · exact .fDict t
      | false =>
        rw [if_neg Bool.false_ne_true] at h1
        exact .base (.dK h1)
    · cases h
  | _ => unfold kdOf at h; cases h
def semIsi : SemL := fun ds S => match ds with
  | [d, .ty T] => (match kdOf S d with
    | some k => (match isKd k T with
      | some b => .ok (.bl b) S
      | none => .bad)
    | none => .bad)
  | _ => .bad
theorem d_isi : CallD X (.builtin "isinstance") semIsi := by
  refine ⟨_, call_isi, fun Wp ρ H S ds xs Q w r p => ?_⟩
  unfold semIsi at p
  split at p
  · rename_i d T
    split at p
    · rename_i k ek
      split at p
      · rename_i b eb
        rw [RepL] at r
        obtain ⟨v, r', e, h1, h2⟩ := r
        rw [RepL] at h2
        obtain ⟨u, r2, e2, h3, h4⟩ := h2
        rw [RepL] at h4
        subst h4 e2 e
        rw [rep_ty h3]
        exact ⟨v, .ty T, _, .type T, b, rfl, .ty T, kd_rep w h1 ek, isKd_kit eb, post_ok p w mk_bl⟩
      · exact p.elim
    · exact p.elim
  · exact p.elim
/-- a tuple of types -/
def tysOf : List D → Option (List String)
  | [] => some []
  | .ty T :: r => (tysOf r).map (T :: ·)
  | _ :: _ => none
def isKds (k : Kd) : List String → Option Bool
  | [] => some false
  | T :: r => match isKd k T, isKds k r with
    | some b, some c => some (b || c)
    | _, _ => none
def semIsiT : SemL := fun ds S => match ds with
  | [d, .tup ts] => (match kdOf S d, tysOf ts with
    | some k, some Ts => (match isKds k Ts with
      | some b => .ok (.bl b) S
      | none => .bad)
    | _, _ => .bad)
  | _ => .bad
theorem tys_rep {K : PySem.W.Frag} {mg : Str → Option Value} {ρ : List Addr} {H : Hp} : ∀ {ts : List D} {Ts : List String} {vs : List V}, tysOf ts = some Ts → RepL K mg ρ H ts vs → Paired ClsV vs (Ts.map Value.type)
  | [], _, _, e, r => by cases e; rw [RepL] at r; subst r; exact .nil
  | .ty T :: ts, _, _, e, r => by
    rw [tysOf] at e
    obtain ⟨ys, e1, e2⟩ := Option.map_eq_some_iff.mp e
    subst e2
    rw [RepL] at r
    obtain ⟨v, r', e', h1, h2⟩ := r
    subst e'
    rw [rep_ty h1]
    exact .cons (.ty T) (tys_rep e1 h2)
  | .non :: _, _, _, e, _ => by cases e
  | .bl _ :: _, _, _, e, _ => by cases e
  | .int _ :: _, _, _, e, _ => by cases e
  | .str _ :: _, _, _, e, _ => by cases e
  | .cls _ :: _, _, _, e, _ => by cases e
  | .tup _ :: _, _, _, e, _ => by cases e
  | .lst _ :: _, _, _, e, _ => by cases e
  | .dct _ _ :: _, _, _, e, _ => by cases e
  | .ins _ _ _ :: _, _, _, e, _ => by cases e
  | .ptr _ :: _, _, _, e, _ => by cases e
  | .scr _ :: _, _, _, e, _ => by cases e
theorem isKds_kit {K : PySem.W.Frag} {k : Kd} : ∀ {Ts : List String} {b : Bool}, isKds k Ts = some b → PySem.W.kitAny K (.type k.name) (Ts.map Value.type) = some b
  | [], b, h => by cases h; exact kitAny_nil
  | T :: Ts, b, h => by
    rw [isKds] at h
    split at h
    · rename_i x y ex ey
      cases h
      refine kitAny_cons (isKd_kit ex) (fun q => ?_) (fun q => by rw [q]; rfl)
      rw [q, Bool.false_or]
      exact isKds_kit ey
    · cases h
theorem d_isiT : CallD X (.builtin "isinstance") semIsiT := by
  refine ⟨_, CallR.or call_isiT call_isiK, fun Wp ρ H S ds xs Q w r p => ?_⟩
  unfold semIsiT at p
  split at p
  · rename_i d ts
    split at p
    · rename_i k Ts ek et
      split at p
      · rename_i b eb
        rw [RepL] at r
        obtain ⟨v, r', e, h1, h2⟩ := r
        rw [RepL] at h2
        obtain ⟨u, r2, e2, h3, h4⟩ := h2
        rw [RepL] at h4
        subst h4 e2 e
        rw [Rep] at h3
        obtain ⟨a, vs, e3, t, rl⟩ := h3
        subst e3
        rcases t with ⟨_, t⟩ | ⟨o, its, n, hk, hc, hd, hz, hv⟩
        · exact .inl ⟨v, a, vs, _, _, b, rfl, t, tys_rep et rl, kd_rep w h1 ek, isKds_kit eb, post_ok p w mk_bl⟩
        · refine .inr ⟨v, a, o.dict, Ts.map Value.type, n, o.slots, _, b, rfl, ?_, kd_rep w h1 ek, isKds_kit eb, post_ok p w mk_bl⟩
          have e4 := ClsV.all (tys_rep et rl) hv
          rw [hk, ← e4]
          obtain ⟨c, dd, dt, sl⟩ := o
          simp only at hc hd
          subst hc hd
          simp
      · exact p.elim
    · exact p.elim
  · exact p.elim

/-! ### all, any of a list of truth values -/
def boolsOf : List D → Option (List Bool)
  | [] => some []
  | .bl b :: r => (boolsOf r).map (b :: ·)
  | _ :: _ => none
theorem bools_eq : ∀ {ds : List D} {bs : List Bool}, boolsOf ds = some bs → ds = bs.map D.bl
  | [], _, e => by cases e; rfl
  | .bl b :: r, _, e => by
    rw [boolsOf] at e
    obtain ⟨ys, e1, e2⟩ := Option.map_eq_some_iff.mp e
    subst e2
    rw [bools_eq e1]; rfl
  | .non :: _, _, e => by cases e
  | .ty _ :: _, _, e => by cases e
  | .int _ :: _, _, e => by cases e
  | .str _ :: _, _, e => by cases e
  | .cls _ :: _, _, e => by cases e
  | .tup _ :: _, _, e => by cases e
  | .lst _ :: _, _, e => by cases e
  | .dct _ _ :: _, _, e => by cases e
  | .ins _ _ _ :: _, _, e => by cases e
  | .ptr _ :: _, _, e => by cases e
  | .scr _ :: _, _, e => by cases e
theorem boolsOf_map : ∀ bs : List Bool, boolsOf (bs.map D.bl) = some bs
  | [] => rfl
  | b :: bs => by rw [List.map_cons, boolsOf, boolsOf_map bs]; rfl
theorem repL_bools {K : PySem.W.Frag} {mg : Str → Option Value} {ρ : List Addr} {H : Hp} : ∀ {bs : List Bool} {vs : List V}, RepL K mg ρ H (bs.map D.bl) vs → vs = bs.map V.bl
  | [], _, r => by rw [List.map_nil, RepL] at r; exact r
  | b :: bs, _, r => by
    rw [List.map_cons, RepL] at r
    obtain ⟨v, r', e, h1, h2⟩ := r
    rw [e, rep_bl h1, repL_bools h2]; rfl
def semAll : SemL := fun ds S => match ds with
  | [d] => (match asL S d with
    | some xs => (match boolsOf xs with
      | some bs => .ok (.bl (bs.all id)) S
      | none => .bad)
    | none => .bad)
  | _ => .bad
def semAny : SemL := fun ds S => match ds with
  | [d] => (match asL S d with
    | some xs => (match boolsOf xs with
      | some bs => .ok (.bl (bs.any id)) S
      | none => .bad)
    | none => .bad)
  | _ => .bad
theorem d_all (hc : X.calm = true) : CallD X (.builtin "all") semAll := by
  refine ⟨_, cr_all hc, fun Wp ρ H S ds xs Q w r p => ?_⟩
  unfold semAll at p
  split at p
  · rename_i d
    split at p
    · rename_i ys ey
      split at p
      · rename_i bs eb
        rw [RepL] at r
        obtain ⟨v, r', e, h1, h2⟩ := r
        rw [RepL] at h2
        subst h2 e
        obtain ⟨a, vs, e1, h3, r1⟩ := asL_rep w h1 ey
        subst e1
        rw [bools_eq eb] at r1
        rw [repL_bools r1] at h3
        exact ⟨a, bs, rfl, .inl (.inl h3), post_ok p w mk_bl⟩
      · exact p.elim
    · exact p.elim
  · exact p.elim
theorem d_any (hc : X.calm = true) : CallD X (.builtin "any") semAny := by
  refine ⟨_, cr_any hc, fun Wp ρ H S ds xs Q w r p => ?_⟩
  unfold semAny at p
  split at p
  · rename_i d
    split at p
    · rename_i ys ey
      split at p
      · rename_i bs eb
        rw [RepL] at r
        obtain ⟨v, r', e, h1, h2⟩ := r
        rw [RepL] at h2
        subst h2 e
        obtain ⟨a, vs, e1, h3, r1⟩ := asL_rep w h1 ey
        subst e1
        rw [bools_eq eb] at r1
        rw [repL_bools r1] at h3
        exact ⟨a, bs, rfl, .inl (.inl h3), post_ok p w mk_bl⟩
      · exact p.elim
    · exact p.elim
  · exact p.elim

/-! ### list(xs), tuple(xs), int(n) -/
def semListOf : SemL := fun ds S => match ds with
  | [d] => (match asS S d with
    | some xs => .ok (.lst xs) S
    | none => .bad)
  | _ => .bad
def semListOfH : SemL := fun ds S => match ds with
  | [d] => (match asS S d with
    | some xs => .ok (.ptr S.length) (S ++ [.lst xs])
    | none => .bad)
  | _ => .bad
def semTupOf : SemL := fun ds S => match ds with
  | [.tup xs] => .ok (.tup xs) S
  | [d] => (match asL S d with
    | some xs => .ok (.tup xs) S
    | none => .bad)
  | _ => .bad
theorem repL_one {K : PySem.W.Frag} {mg : Str → Option Value} {ρ : List Addr} {H : Hp} {d : D} {xs : List V} (r : RepL K mg ρ H [d] xs) : ∃ v, xs = [v] ∧ Rep K mg ρ H d v := by
  rw [RepL] at r
  obtain ⟨v, r', e, h1, h2⟩ := r
  rw [RepL] at h2
  subst h2
  exact ⟨v, e, h1⟩
theorem repL_two {K : PySem.W.Frag} {mg : Str → Option Value} {ρ : List Addr} {H : Hp} {d e : D} {xs : List V} (r : RepL K mg ρ H [d, e] xs) : ∃ v u, xs = [v, u] ∧ Rep K mg ρ H d v ∧ Rep K mg ρ H e u := by
  rw [RepL] at r
  obtain ⟨v, r', e', h1, h2⟩ := r
  obtain ⟨u, e2, h3⟩ := repL_one h2
  exact ⟨v, u, by rw [e', e2], h1, h3⟩
theorem d_listOf : CallD X (.type "list") semListOf := by
  refine ⟨_, call_list_of, fun Wp ρ H S ds xs Q w r p => ?_⟩
  unfold semListOf at p
  split at p
  · split at p
    · rename_i ys ey
      obtain ⟨v, e, h1⟩ := repL_one r
      obtain ⟨a, vs, e1, h3, r1⟩ := asS_rep w h1 ey
      exact ⟨a, vs, by rw [e, e1], h3, fun l hl => post_lst p w r1 hl⟩
    · exact p.elim
  · exact p.elim
theorem d_listOfH : CallD X (.type "list") semListOfH := by
  refine ⟨_, call_list_of, fun Wp ρ H S ds xs Q w r p => ?_⟩
  unfold semListOfH at p
  split at p
  · split at p
    · rename_i ys ey
      obtain ⟨v, e, h1⟩ := repL_one r
      obtain ⟨a, vs, e1, h3, r1⟩ := asS_rep w h1 ey
      exact ⟨a, vs, by rw [e, e1], h3, fun l hl => post_lstH p w r1 hl⟩
    · exact p.elim
  · exact p.elim
theorem d_tupOf : CallD X (.type "tuple") semTupOf := by
  refine ⟨_, call_tuple_of, fun Wp ρ H S ds xs Q w r p => ?_⟩
  match ds, r, p with
  | [d], r, p =>
    obtain ⟨v, e, h1⟩ := repL_one r
    have go : ∀ ys, asL S d = some ys → PostE X.K X.mg Wp ρ H Q (.ok (.tup ys) S) → ∃ p ys, xs = [.ref p] ∧ ((SqL X.K H p ys ∧ ∀ l, H l = none → Q (.ref l) (upd H l (.tup ys))) ∨ (SqT X.K H p ys ∧ Q (.ref p) H)) := fun ys ey p => by
      obtain ⟨a, vs, e1, h3, r1⟩ := asL_rep w h1 ey
      exact ⟨a, vs, by rw [e, e1], .inl ⟨.inl (.inl h3), fun l hl => post_tup p w r1 hl⟩⟩
    cases d with
    | tup ys =>
      have h1' := h1
      rw [Rep] at h1
      obtain ⟨a, vs, e1, t, r1⟩ := h1
      exact ⟨a, vs, by rw [e, e1], .inr ⟨t.sq, by rw [← e1]; exact post_ok p w h1'⟩⟩
    | lst ys => exact go ys rfl p
    | ptr n =>
      have p : PostE X.K X.mg Wp ρ H Q (match asL S (.ptr n) with
        | some xs => .ok (.tup xs) S
        | none => .bad) := p
      split at p
      · rename_i ys ey
        exact go ys ey p
      · exact p.elim
    | _ => exact p.elim
  | [], _, p => exact p.elim
  | d :: _ :: _, _, p => cases d <;> exact p.elim
def semInt : SemL := fun ds S => match ds with
  | [.int i] => .ok (.int i) S
  | [.bl b] => .ok (.int (if b = true then 1 else 0)) S
  | _ => .bad
theorem d_int : CallD X (.type "int") semInt := by
  refine ⟨_, call_int1, fun Wp ρ H S ds xs Q w r p => ?_⟩
  unfold semInt at p
  split at p
  · obtain ⟨v, e, h1⟩ := repL_one r
    rw [rep_int h1] at e
    exact .inl ⟨_, e, post_ok p w mk_int⟩
  · obtain ⟨v, e, h1⟩ := repL_one r
    rw [rep_bl h1] at e
    exact .inr ⟨_, e, post_ok p w mk_int⟩
  · exact p.elim

/-! ### subscripts -/
structure IxD (X : Cx) (sem : Sem2) : Prop where
  go : ∃ r : R2, IxR X r ∧ ∀ (Wp : Value → Option Addr → Hp → Prop) (ρ : List Addr) (H : Hp) (S : Store) (d e : D) (x y : V) (Q : VK), WOk X.K X.mg ρ H S → Rep X.K X.mg ρ H d x → Rep X.K X.mg ρ H e y → PostE X.K X.mg Wp ρ H Q (sem d e S) → r x y H Q
theorem IxD.or {s t : Sem2} (h : IxD X s) (h' : IxD X t) : IxD X (orS2 s t) := by
  obtain ⟨r, o, g⟩ := h.go
  obtain ⟨r', o', g'⟩ := h'.go
  refine ⟨_, o.or o', fun Wp ρ H S d e x y Q w rx ry p => ?_⟩
  unfold orS2 at p
  cases q : s d e S with
  | bad => rw [q] at p; exact .inr (g' Wp ρ H S d e x y Q w rx ry p)
  | ok a S' => rw [q] at p; exact .inl (g Wp ρ H S d e x y Q w rx ry (by rw [q]; exact p))
  | ex a S' => rw [q] at p; exact .inl (g Wp ρ H S d e x y Q w rx ry (by rw [q]; exact p))
variable {W : WX} {a b : Expr} {fa fb : EX} {pos : Pos}
theorem r_ix {sem : Sem2} (ho : IxD X sem) (ha : E X W a fa) (hb : E X W b fb) (hs : PlainIx b := by exact fun _ _ => rfl) : E X W (.Subscript a b pos) (eBin sem fa fb) := by
  obtain ⟨r, o, g⟩ := ho.go
  exact PE.imp (pe_ix o ha hb hs) fun σ H Q h => bin_imp h fun ρ S H2 d e x y w rx ry p => g _ ρ H2 S d e x y Q w rx ry p
/-- a place among n, also from behind -/
def ixSeq : Sem2 := fun d e S => match e with
  | .int i => (match d with
    | .str s => if s.length ≤ 1000000 then (match atI s.cps.toList i with
      | some c => .ok (.str ⟨#[c]⟩) S
      | none => .bad) else .bad
    | d => (match asS S d with
      | some xs => (match atI xs i with
        | some x => .ok x S
        | none => .bad)
      | none => .bad))
  | _ => .bad
theorem atI_rep {K : PySem.W.Frag} {mg : Str → Option Value} {ρ : List Addr} {H : Hp} {ds : List D} {vs : List V} {i : Int} {d : D} (r : RepL K mg ρ H ds vs) (h : atI ds i = some d) : ∃ v, atI vs i = some v ∧ Rep K mg ρ H d v := by
  unfold atI at h ⊢
  rw [← r.len]
  cases q : ixN ds.length i with
  | none => rw [q] at h; cases h
  | some j =>
    rw [q] at h
    exact r.get h
theorem d_ixSeq : IxD X ixSeq := by
  refine ⟨_, ix_seq, fun Wp ρ H S d e x y Q w rx ry p => ?_⟩
  unfold ixSeq at p
  split at p
  · rename_i i
    have hy := rep_int ry
    have go : ∀ xs, asS S d = some xs → PostE X.K X.mg Wp ρ H Q (match atI xs i with
        | some x => .ok x S
        | none => .bad) → rIx X.K x y H Q := fun xs ea p => by
      split at p
      · rename_i z ez
        obtain ⟨a, vs, e1, h3, r1⟩ := asS_rep w rx ea
        obtain ⟨v, h4, h5⟩ := atI_rep r1 ez
        rcases h3 with h3 | h3
        · exact .inl ⟨a, vs, i, v, e1, hy, h3, h4, post_ok p w h5⟩
        · exact .inr (.inl ⟨a, vs, i, v, e1, hy, h3, h4, post_ok p w h5⟩)
      · exact p.elim
    cases d with
    | str s =>
      simp only at p
      split at p
      · rename_i hl
        split at p
        · rename_i c ec
          exact .inr (.inr ⟨s, i, c, rep_str rx, hy, line_of hl, ec, post_ok p w mk_str⟩)
        · exact p.elim
      · exact p.elim
    | tup xs => exact go xs rfl p
    | lst xs => exact go xs rfl p
    | scr xs => exact go _ rfl p
    | ptr n =>
      simp only at p
      split at p
      · rename_i ys ey
        exact go ys ey p
      · exact p.elim
    | _ => exact p.elim
  · exact p.elim
end
end Z
/-! Za: zip of any two, enumerate of any (lists, tuples, texts). -/
namespace Za
open PySem PySem.Spec PyProof.Rows L2

inductive Src where
  | L (a : Addr)
  | T (a : Addr)
  | S (x : Str)
def Src.val : Src → V
  | .L a => .ref a
  | .T a => .ref a
  | .S x => .str x
def Src.At (K : PySem.W.Frag) (H : Hp) : Src → List V → Prop
  | .L a, vs => SqL K H a vs
  | .T a, vs => SqT K H a vs
  | .S x, vs => vs = x.cps.toList.map fun c => V.str ⟨#[c]⟩
def Src.It (h : Heap) (it : Addr) : Src → Nat → Prop
  | .L a, i => h.IsListIter it a i
  | .T a, i => h.IsTupleIter it a i
  | .S x, i => ∃ t, h.IsStrIter it (strIterType x) x t i
def Src.adr : Src → Option Addr
  | .L a => some a
  | .T a => some a
  | .S _ => none
theorem Src.It.obj {h : Heap} {it : Addr} {i : Nat} : ∀ {s : Src}, s.It h it i → ∃ o, h.get? it = some o ∧ ∀ v, o.data ≠ .cell v
  | .L a, st => by obtain ⟨o, e, _, d⟩ := st; exact ⟨o, e, fun v q => by rw [d] at q; cases q⟩
  | .T a, st => by obtain ⟨o, e, _, d⟩ := st; exact ⟨o, e, fun v q => by rw [d] at q; cases q⟩
  | .S x, st => by obtain ⟨t, o, e, _, d⟩ := st; exact ⟨o, e, fun v q => by rw [d] at q; cases q⟩
theorem Src.It.keep {h h' : Heap} {it : Addr} {i : Nat} (k : ∀ o, h.get? it = some o → h'.get? it = some o) : ∀ {s : Src}, s.It h it i → s.It h' it i
  | .L a, st => st.at k
  | .T a, st => st.at k
  | .S x, st => by obtain ⟨t, o, e, r⟩ := st; exact ⟨t, o, k o e, r⟩
theorem pr_get' {vs : List V} {its : List Value} (r : Vals vs its) {j : Nat} {v : Value} (e : its[j]? = some v) : ∃ x, vs[j]? = some x ∧ RelV x v := by
  have hl := r.length
  have hj := (List.getElem?_eq_some_iff.mp e).1
  have hx : vs[j]? = some (vs[j]'(by omega)) := by simp
  obtain ⟨u, h1, h2⟩ := r.get hx
  rw [e] at h1
  cases h1
  exact ⟨_, hx, h2⟩
section
variable {X : Cx} {pins : List (Addr × Obj)} {σ : L2.St} {H : Hp} {s : Shared}
theorem at_inj (I : Inv X pins σ H s) : ∀ {c : Src} {xs ys : List V}, c.At X.K H xs → c.At X.K H ys → xs = ys
  | .L a, _, _, h, h' => I.list_inj h h'
  | .T a, _, _, h, h' => I.tuple_inj h h'
  | .S x, _, _, h, h' => Eq.trans h (Eq.symm h')
/-- what a source draws at this state -/
theorem draws (I : Inv X pins σ H s) {A : Around} (hh : A.handled = none) {c : Src} {vs : List V} {i : Nat} {it : Addr} (ha : c.At X.K H vs) (hi : c.It s.heap it i) (hn : c.adr ≠ some it) :
    ∃ (fp : List Addr) (P : Nat → Value → Prop) (St : Nat → Heap → Prop), Draws X.prog X.w A it fp vs.length P St ∧ St i s.heap ∧ (∀ j v, P j v → ∃ x, vs[j]? = some x ∧ RelV x v) ∧ it ∈ fp ∧ (∀ b ∈ fp, b = it ∨ c.adr = some b) ∧ ∀ j h, St j h → c.It h it j := by
  cases c with
  | L a =>
    obtain ⟨its, rv, p, _⟩ := I.list ha
    have hl : its.toArray.size = vs.length := by rw [List.size_toArray]; exact rv.length.symm
    refine ⟨[it, a], _, _, hl ▸ Draws.list hh it a (fun e => hn (by rw [← e]; rfl)) its.toArray, ⟨hi, p.isList⟩, fun j v q => ?_, by simp, fun b hb => ?_, fun j h st => st.1⟩
    · have q : its[j]? = some v := by simpa using q
      exact pr_get' rv q
    · rcases List.mem_cons.mp hb with e | e
      · exact .inl e
      · exact .inr (by rw [List.mem_singleton.mp e]; rfl)
  | T a =>
    obtain ⟨its, rv, p, _⟩ := I.tuple ha
    have hl : its.toArray.size = vs.length := by rw [List.size_toArray]; exact rv.length.symm
    refine ⟨[it, a], _, _, hl ▸ Draws.tuple hh it a (fun e => hn (by rw [← e]; rfl)) its.toArray, ⟨hi, p⟩, fun j v q => ?_, by simp, fun b hb => ?_, fun j h st => st.1⟩
    · have q : its[j]? = some v := by simpa using q
      exact pr_get' rv q
    · rcases List.mem_cons.mp hb with e | e
      · exact .inl e
      · exact .inr (by rw [List.mem_singleton.mp e]; rfl)
  | S x =>
    obtain ⟨t, hi⟩ := hi
    have ha : vs = x.cps.toList.map fun c => V.str ⟨#[c]⟩ := ha
    have hl : x.cps.size = vs.length := by rw [ha]; simp
    refine ⟨[it], _, _, hl ▸ Draws.text hh it x t, hi, fun j v q => ?_, by simp, fun b hb => .inl (by simpa using hb), fun j h st => ⟨t, st⟩⟩
    obtain ⟨c, u, e, q⟩ := q
    subst q
    exact ⟨.str ⟨#[c]⟩, by rw [ha]; simp [e], u, rfl⟩
theorem begins (I : Inv X pins σ H s) {c : Src} {vs : List V} {u : Value} (ha : c.At X.K H vs) (r : RelV c.val u) : ∃ (o : Obj) (B : Heap → Prop), Begins u o B ∧ B s.heap ∧ ∀ h it, h.get? it = some o → c.It h it 0 := by
  cases c with
  | L a =>
    obtain ⟨its, rv, p, _⟩ := I.list ha
    obtain rfl : u = Value.ref a := r
    exact ⟨_, _, begins_list a its.toArray, p.isList, fun h it e => ⟨_, e, rfl, rfl⟩⟩
  | T a =>
    obtain ⟨its, rv, p, _⟩ := I.tuple ha
    obtain rfl : u = Value.ref a := r
    exact ⟨_, _, begins_tuple a its.toArray, p, fun h it e => ⟨_, e, rfl, rfl⟩⟩
  | S x =>
    obtain ⟨t, rfl⟩ := r
    exact ⟨_, _, begins_text x t, trivial, fun h it e => ⟨t, _, e, rfl, rfl⟩⟩
theorem adr_lt (I : Inv X pins σ H s) : ∀ {c : Src} {vs : List V} {b : Addr}, c.At X.K H vs → c.adr = some b → b < s.heap.objs.size
  | .L a, _, _, h, e => by
    cases e
    obtain ⟨its, rv, p, _⟩ := I.list h
    exact p.lt
  | .T a, _, _, h, e => by
    cases e
    obtain ⟨its, rv, ⟨o, q, _⟩, _⟩ := I.tuple h
    exact Heap.lt_size q
end
/-! ### zip -/
def ItP (K : PySem.W.Frag) (c d : Src) : L2.It :=
  ⟨fun i H => ∃ (xs ys : List V) (x y : V), c.At K H xs ∧ d.At K H ys ∧ xs[i]? = some x ∧ ys[i]? = some y,
    fun i H v H' => ∃ T x y, v = .ref T ∧ H T = none ∧ H' = upd H T (.tup [x, y]) ∧ (∀ xs, c.At K H xs → xs[i]? = some x) ∧ ∀ ys, d.At K H ys → ys[i]? = some y,
    fun i H => ∃ xs ys : List V, c.At K H xs ∧ d.At K H ys ∧ i ≤ xs.length ∧ i ≤ ys.length ∧ (i = xs.length ∨ i = ys.length)⟩
structure Apart (z TI TO i1 i2 : Addr) (c d : Src) : Prop where
  zTI : TI ≠ z
  zTO : TO ≠ z
  TITO : TI ≠ TO
  TI1 : TI ≠ i1
  TI2 : TI ≠ i2
  TO1 : TO ≠ i1
  TO2 : TO ≠ i2
  z1 : z ≠ i1
  z2 : z ≠ i2
  i12 : i1 ≠ i2
  c0 : ∀ b, c.adr = some b → b ≠ z ∧ b ≠ TI ∧ b ≠ TO ∧ b ≠ i1 ∧ b ≠ i2
  d0 : ∀ b, d.adr = some b → b ≠ z ∧ b ≠ TI ∧ b ≠ TO ∧ b ≠ i1 ∧ b ≠ i2
theorem turn_zipU {P : Program} {w : World} {K : PySem.W.Frag} {elts : List Expr} {kk : Nat} {tpos : Pos} {c d : Src} {z TI TO i1 i2 : Addr} (D : Apart z TI TO i1 i2 c d) :
    Turn P w K (.Tuple elts kk tpos) (ItP K c d) [z, TI, TO, i1, i2] z (fun i h => IsZip h z TI TO .none ∧ IsTupOf2 h TI (.ref i1) (.ref i2) ∧ (∃ x y, IsTupOf2 h TO x y) ∧ c.It h i1 i ∧ d.It h i2 i) where
  mem := by simp
  obj := fun i h st b hb => by
    obtain ⟨hz, hTI, ⟨x, y, hTO⟩, h1, h2⟩ := st
    have e' : b = z ∨ b = TI ∨ b = TO ∨ b = i1 ∨ b = i2 := by simpa using hb
    rcases e' with q | q | q | q | q
    · rw [q]; exact ⟨_, hz, fun v q => nomatch q⟩
    · rw [q]; exact ⟨_, hTI, fun v q => nomatch q⟩
    · rw [q]; exact ⟨_, hTO, fun v q => nomatch q⟩
    · rw [q]; exact h1.obj
    · rw [q]; exact h2.obj
  keep := fun i h h' st k => by
    obtain ⟨hz, hTI, ⟨x, y, hTO⟩, h1, h2⟩ := st
    exact ⟨k z (by simp) _ hz, k TI (by simp) _ hTI, ⟨x, y, k TO (by simp) _ hTO⟩, h1.keep fun o q => k i1 (by simp) o q, h2.keep fun o q => k i2 (by simp) o q⟩
  item := by
    intro X hP hw hK hc i pins s σ H E I hf st hg
    subst hP hw hK
    obtain ⟨hz, hTI, ⟨x0, y0, hTO⟩, h1, h2⟩ := st
    obtain ⟨xs, ys, x, y, hqx, hqy, hx, hy⟩ := hg
    obtain ⟨fp1, P1, St1, D1, st1, g1, m1, b1, k1⟩ := draws (A := X.A.in1) I (I.ok.hd hc) hqx h1 (fun e => (D.c0 _ e).2.2.2.1 rfl)
    obtain ⟨fp2, P2, St2, D2, st2, g2, m2, b2, k2⟩ := draws (A := X.A.in1) I (I.ok.hd hc) hqy h2 (fun e => (D.d0 _ e).2.2.2.2 rfl)
    have S : ZipSep2 z TI TO i1 i2 fp1 fp2 := by
      refine ⟨D.zTI, D.zTO, D.TITO, D.TI1, m1, fun h => ?_, fun h => ?_, D.TI2, m2, fun h => ?_, fun h => ?_, fun h => ?_, fun h => ?_⟩
      · rcases b1 _ h with e | e
        · exact D.z1 e
        · exact (D.c0 _ e).1 rfl
      · rcases b1 _ h with e | e
        · exact D.TO1 e
        · exact (D.c0 _ e).2.2.1 rfl
      · rcases b2 _ h with e | e
        · exact D.z2 e
        · exact (D.d0 _ e).1 rfl
      · rcases b2 _ h with e | e
        · exact D.TO2 e
        · exact (D.d0 _ e).2.2.1 rfl
      · rcases b2 _ h with e | e
        · exact D.i12 e
        · exact (D.d0 _ e).2.2.2.1 rfl
      · rcases b1 _ h with e | e
        · exact D.i12 e.symm
        · exact (D.c0 _ e).2.2.2.2 rfl
    have hzl : z < s.heap.objs.size := Heap.lt_size hz
    refine wpAny_pyNext_zipD2_item S D1 D2 hz hTI hTO st1 st2 (List.getElem?_eq_some_iff.mp hx).1 (List.getElem?_eq_some_iff.mp hy).1 fun u u2 h' tk p1 p2 z' TO' s1' s2' hT hsz hk => ?_
    obtain ⟨x', ex, ru⟩ := g1 i u p1
    obtain ⟨y', ey, ru2⟩ := g2 i u2 p2
    rw [hx] at ex; cases ex
    rw [hy] at ey; cases ey
    refine ⟨_, rfl, wpAny_letOwnedTupleGo_zip (s := { s with heap := h', toks := tk }) z' fun h'' z'' sb => ?_⟩
    have hT2 : h''.get? s.heap.objs.size = some { cls := .type "tuple", data := .seq #[u, u2] } := (sb.2 _ (Nat.ne_of_gt hzl)).trans hT
    have new : ObjOk X.prog X.w (upd H s.heap.objs.size (.tup [x, y])) h'' s.heap.objs.size (.tup [x, y]) :=
      ⟨by show 2 ≤ sizeLine; decide, [u, u2], .cons ru (.cons ru2 .nil), ⟨_, hT2, rfl, _, rfl⟩⟩
    have I1 : Inv X pins σ (upd H s.heap.objs.size (.tup [x, y])) { s with heap := h'', toks := tk } :=
      I.turnedNew (t' := tk) (ch := [z, TI, TO, i1, i2]) (fun c o hb q => (sb.2 c (fun q' => hb (by simp [q']))).trans (hk c o (fun q' => hb (by simp [q'])) (fun q' => hb (by simp [q'])) (fun q' => hb (by simp [q'])) (fun q' => hb (by simp [q'])) q)) hf (Nat.le_refl _) new
    refine ⟨.ref s.heap.objs.size, _, I1, rfl, ⟨_, x, y, rfl, I.hok.fresh (Nat.le_refl _), rfl, fun l hl => by rw [at_inj I hl hqx]; exact hx, fun l hl => by rw [at_inj I hl hqy]; exact hy⟩, ⟨z'', ?_, ⟨u, u2, ?_⟩, ?_, ?_⟩, fun b hcm => ?_⟩
    · exact (sb.2 _ D.zTI).trans (hk _ _ D.zTI D.TITO D.TI1 D.TI2 hTI)
    · exact (sb.2 _ D.zTO).trans TO'
    · exact (k1 _ _ s1').keep fun o q => (sb.2 _ (Ne.symm D.z1)).trans q
    · exact (k2 _ _ s2').keep fun o q => (sb.2 _ (Ne.symm D.z2)).trans q
    · have hlt : b < s.heap.objs.size := by
        have e' : b = z ∨ b = TI ∨ b = TO ∨ b = i1 ∨ b = i2 := by simpa using hcm
        rcases e' with q | q | q | q | q
        · rw [q]; exact hzl
        · rw [q]; exact Heap.lt_size hTI
        · rw [q]; exact Heap.lt_size hTO
        · rw [q]; obtain ⟨_, e1, _⟩ := h1.obj; exact Heap.lt_size e1
        · rw [q]; obtain ⟨_, e1, _⟩ := h2.obj; exact Heap.lt_size e1
      rw [upd_ne (Nat.ne_of_lt hlt)]
      exact (hf b hcm).1
  done := by
    intro X hP hw hK hc i pins s σ H E I hf st hg
    subst hP hw hK
    obtain ⟨hz, hTI, ⟨x0, y0, hTO⟩, h1, h2⟩ := st
    obtain ⟨xs, ys, hqx, hqy, hl1, hl2, hend⟩ := hg
    obtain ⟨fp1, P1, St1, D1, st1, g1, m1, b1, k1⟩ := draws (A := X.A.in1) I (I.ok.hd hc) hqx h1 (fun e => (D.c0 _ e).2.2.2.1 rfl)
    obtain ⟨fp2, P2, St2, D2, st2, g2, m2, b2, k2⟩ := draws (A := X.A.in1) I (I.ok.hd hc) hqy h2 (fun e => (D.d0 _ e).2.2.2.2 rfl)
    have S : ZipSep2 z TI TO i1 i2 fp1 fp2 := by
      refine ⟨D.zTI, D.zTO, D.TITO, D.TI1, m1, fun h => ?_, fun h => ?_, D.TI2, m2, fun h => ?_, fun h => ?_, fun h => ?_, fun h => ?_⟩
      · rcases b1 _ h with e | e
        · exact D.z1 e
        · exact (D.c0 _ e).1 rfl
      · rcases b1 _ h with e | e
        · exact D.TO1 e
        · exact (D.c0 _ e).2.2.1 rfl
      · rcases b2 _ h with e | e
        · exact D.z2 e
        · exact (D.d0 _ e).1 rfl
      · rcases b2 _ h with e | e
        · exact D.TO2 e
        · exact (D.d0 _ e).2.2.1 rfl
      · rcases b2 _ h with e | e
        · exact D.i12 e
        · exact (D.d0 _ e).2.2.2.1 rfl
      · rcases b1 _ h with e | e
        · exact D.i12 e.symm
        · exact (D.c0 _ e).2.2.2.2 rfl
    exact wpAny_pyNext_zipD2_end S D1 D2 hz hTI hTO st1 st2 hl1 hl2 hend fun h' tk hk => ⟨rfl, I.turnedL (t' := tk) (ch := [z, TI, TO, i1, i2]) (fun c o hb q =>
      hk c o (fun q' => hb (by simp [q'])) (fun q' => hb (by simp [q'])) (fun q' => hb (by simp [q'])) (fun q' => hb (by simp [q'])) q) hf⟩
  self := fun A i s Q E st h => wpAny_pyIter_zip st.1 h
def iZipU (K : PySem.W.Frag) (ta : TA) : TI := fun σ H R => ta σ H fun vs H1 => ∃ (c d : Src) (xs ys : List V), vs = [c.val, d.val] ∧ c.At K H1 xs ∧ d.At K H1 ys ∧ R (ItP K c d) H1
theorem pi_zipU {X : Cx} {e e2 : Expr} {ta : TA} {p pos tpos : Pos} {elts : List Expr} {kk : Nat} (hg : Gl X "zip") (hm : X.mg "zip" = none) (ha : PA X [e, e2] ta)
    (hs : starEach [e, e2] X.env = (false, eval e X.env) :: starEach [e2] X.env := by rfl) (hpl : (backTo pos (starEach [e2] X.env)).any (·.1) = false := by rfl) :
    PI X (.Tuple elts kk tpos) (.Call (.Name "zip" p) [e, e2] [] pos) (iZipU X.K ta) := by
  refine ⟨fun pins s σ H R I h => ?_⟩
  refine Call_ (ld_blt I hg hm PyProof.Rows.boot_zip (PyProof.Rows.callWith_type1 (thn (ha.run pos pins s σ H _ I h) fun us s1 ⟨vs, H1, I1, r1, q1⟩ => ?_) hs hpl))
  obtain ⟨c, d, xs, ys, ex, hc, hd, q⟩ := q1
  subst ex
  cases r1 with
  | cons r rr =>
    cases rr with
    | cons r' rr =>
      cases rr
      obtain ⟨o1, B1, bg1, hB1, k1⟩ := begins I1 hc r
      obtain ⟨o2, B2, bg2, hB2, k2⟩ := begins I1 hd r'
      refine zip_begins2 bg1 bg2 hB1 hB2 fun h' hz hTI hTO g1 g2 hsz hk => wpAny_pyIter_zip hz ?_
      have I2 : Inv X pins σ H1 { s1 with heap := h' } := I1.kept (t' := s1.toks) hk
      have far : ∀ (cc : Src) (zs : List V), cc.At X.K H1 zs → ∀ b, cc.adr = some b → b ≠ s1.heap.objs.size + 4 ∧ b ≠ s1.heap.objs.size + 2 ∧ b ≠ s1.heap.objs.size + 3 ∧ b ≠ s1.heap.objs.size ∧ b ≠ s1.heap.objs.size + 1 := fun cc zs hz b e => by
        have := adr_lt I1 hz e
        refine ⟨?_, ?_, ?_, ?_, ?_⟩ <;> exact fun q => by
          rw [q] at this
          first
            | exact absurd this (Nat.lt_irrefl _)
            | exact absurd (Nat.lt_of_le_of_lt (Nat.le_add_right _ _) this) (Nat.lt_irrefl _)
      have hap : Apart (s1.heap.objs.size + 4) (s1.heap.objs.size + 2) (s1.heap.objs.size + 3) s1.heap.objs.size (s1.heap.objs.size + 1) c d := by
        refine ⟨?_, ?_, ?_, ?_, ?_, ?_, ?_, ?_, ?_, ?_, far c xs hc, far d ys hd⟩ <;> (intro q; have q : (_ : Nat) = _ := q; omega)
      refine ⟨s1.heap.objs.size + 4, [s1.heap.objs.size + 4, s1.heap.objs.size + 2, s1.heap.objs.size + 3, s1.heap.objs.size, s1.heap.objs.size + 1], _, _, H1, rfl, I2, turn_zipU hap, ⟨hz, hTI, ⟨_, _, hTO⟩, k1 _ _ g1, k2 _ _ g2⟩, fun b hcm => ?_, q⟩
      have e' : b = s1.heap.objs.size + 4 ∨ b = s1.heap.objs.size + 2 ∨ b = s1.heap.objs.size + 3 ∨ b = s1.heap.objs.size ∨ b = s1.heap.objs.size + 1 := by simpa using hcm
      have hle : s1.heap.objs.size ≤ b := by
        rcases e' with z | z | z | z | z
        · rw [z]; exact Nat.le_add_right _ _
        · rw [z]; exact Nat.le_add_right _ _
        · rw [z]; exact Nat.le_add_right _ _
        · rw [z]; exact Nat.le_refl _
        · rw [z]; exact Nat.le_add_right _ _
      exact I1.fpOk hle (I1.hok.fresh hle)
/-! ### enumerate -/
set_option maxHeartbeats 1000000 in
theorem meets_enumB1 {v : Value} {o : Obj} {B : Heap → Prop} (bg : Begins v o B) :
    Meets (Builtin.«enumerate.__new__» ⟨[.type "enumerate", v], []⟩) (fun _ R s => B s.heap ∧
      R (.ok (.ret (.ref (s.heap.push o).objs.size))) { s with heap := (s.heap.push o).push { cls := .type "enumerate", data := .fields #[.none, .bool false, .ref s.heap.objs.size, rawInt 0, .none, .none] } }) :=
  .of_wp fun prog w A R s h => by
    obtain ⟨hp, g, d, tk, os⟩ := s; obtain ⟨h1, h⟩ := h
    have hsub := sub_enumerate
    have q1 : ∀ {A' : Around} {E : Value → Shared → Prop} {Q : Value → Shared → Prop}, Q (.ref hp.objs.size) ⟨(hp.push o), g, d, tk, os⟩ → wpAny (model prog w) A' (pyIter v) Q E ⟨hp, g, d, tk, os⟩ :=
      fun q => bg.iter prog w _ _ ⟨hp, g, d, tk, os⟩ _ h1 q
    wp_walk
    refine wpAny_stack_any fun st => wpAny_pure ?_
    split
    · rename_i c _ _ _ _ _
      cases (c == Value.type "enumerate")
      · wp_walk using q1
        exact ⟨_, rfl, h⟩
      · wp_walk using q1
        exact ⟨_, rfl, h⟩
    · wp_walk using q1
      exact ⟨_, rfl, h⟩
theorem enum_begins1 {prog : Program} {w : World} {A : Around} {E : Value → Shared → Prop} {s : Shared} {v : Value} {o : Obj} {B : Heap → Prop} {Q : Value → Shared → Prop} (bg : Begins v o B) (h1 : B s.heap)
    (h : ∀ h', IsEnum h' (s.heap.objs.size + 1) s.heap.objs.size 0 .none → h'.get? s.heap.objs.size = some o → h'.objs.size = s.heap.objs.size + 2 →
      (∀ b o, s.heap.get? b = some o → h'.get? b = some o) → Q (.ref (s.heap.objs.size + 1)) { s with heap := h' }) :
    wpAny (model prog w) A (call (.type "enumerate") [v]) Q E s := by
  refine callType_new F.called_enumerate (by decide) (F.typeCall_enumerate_1 _) (F.newCall_enumerate_1 _) (fun obj => F.args_object_init_2 obj _) F.entry_enumerate_new
    (meets_enumB1 bg) ⟨h1, ?_⟩
  have hz : (s.heap.push o).objs.size = s.heap.objs.size + 1 := Heap.size_push ..
  show _ ∧ _
  rw [hz]
  have he : IsEnum ((s.heap.push o).push { cls := .type "enumerate", data := .fields #[.none, .bool false, .ref s.heap.objs.size, rawInt 0, .none, .none] }) (s.heap.objs.size + 1) s.heap.objs.size 0 .none := by
    have := Heap.get?_push_size (s.heap.push o) (o := { cls := .type "enumerate", data := .fields #[.none, .bool false, .ref s.heap.objs.size, rawInt 0, .none, .none] }) rfl
    rw [hz] at this; exact this
  exact ⟨⟨_, he, rfl⟩, h _ he (Heap.get?_push_of_some _ (Heap.get?_push_size _ bg.free)) (by rw [Heap.size_push, hz]) fun b o x => Heap.get?_push_of_some _ (Heap.get?_push_of_some _ x)⟩
def ItE (K : PySem.W.Frag) (c : Src) : L2.It :=
  ⟨fun i H => ∃ (xs : List V) (x : V), c.At K H xs ∧ xs[i]? = some x,
    fun i H v H' => ∃ T x, v = .ref T ∧ H T = none ∧ H' = upd H T (.tup [.int (i : Nat), x]) ∧ ∀ xs, c.At K H xs → xs[i]? = some x,
    fun i H => ∃ xs : List V, c.At K H xs ∧ i = xs.length⟩
theorem turn_enumU {P : Program} {w : World} {K : PySem.W.Frag} {elts : List Expr} {kk : Nat} {tpos : Pos} {c : Src} {e it : Addr} (hne : e ≠ it) (hc1 : c.adr ≠ some e) (hc2 : c.adr ≠ some it) :
    Turn P w K (.Tuple elts kk tpos) (ItE K c) [e, it] e (fun i h => (∃ old, IsEnum h e it ((i : Nat) : Int) old) ∧ c.It h it i) where
  mem := by simp
  obj := fun i h st b hb => by
    obtain ⟨⟨old, he⟩, h1⟩ := st
    have e' : b = e ∨ b = it := by simpa using hb
    rcases e' with z | z
    · rw [z]; exact ⟨_, he, fun v q => nomatch q⟩
    · rw [z]; exact h1.obj
  keep := fun i h h' st k => let ⟨⟨old, he⟩, hi⟩ := st; ⟨⟨old, k e (by simp) _ he⟩, hi.keep fun o q => k it (by simp) o q⟩
  item := by
    intro X hP hw hK hc i pins s σ H E I hf st hg
    subst hP hw hK
    obtain ⟨⟨old, he⟩, hit⟩ := st
    obtain ⟨xs, x, hq, hx⟩ := hg
    obtain ⟨fp, P1, St1, D1, st1, g1, m1, b1, k1⟩ := draws (A := X.A.in1) I (I.ok.hd hc) hq hit hc2
    have hel : e < s.heap.objs.size := Heap.lt_size he
    have hil : it < s.heap.objs.size := by obtain ⟨_, q, _⟩ := hit.obj; exact Heap.lt_size q
    have hef : e ∉ fp := fun h => by
      rcases b1 _ h with q | q
      · exact hne q
      · exact hc1 q
    refine wpAny_pyNext_enum_itemD D1 he st1 (List.getElem?_eq_some_iff.mp hx).1 hne hef fun u h' tk p ho hit' hT hsz hk => ?_
    obtain ⟨x', ex, ru⟩ := g1 i u p
    rw [hx] at ex; cases ex
    refine ⟨_, rfl, wpAny_letOwnedTupleGo_enum (s := { s with heap := h', toks := tk + 1 }) ho fun h'' he' sb => ?_⟩
    have hT2 : h''.get? s.heap.objs.size = some { cls := .type "tuple", data := .seq #[.int i tk, u] } := (sb.2 _ (Nat.ne_of_gt hel)).trans hT
    have new : ObjOk X.prog X.w (upd H s.heap.objs.size (.tup [.int (i : Nat), x])) h'' s.heap.objs.size (.tup [.int (i : Nat), x]) :=
      ⟨by show 2 ≤ sizeLine; decide, [.int i tk, u], .cons ⟨_, rfl⟩ (.cons ru .nil), ⟨_, hT2, rfl, _, rfl⟩⟩
    have I1 : Inv X pins σ (upd H s.heap.objs.size (.tup [.int (i : Nat), x])) { s with heap := h'', toks := tk + 1 } :=
      I.turnedNew (ch := [e, it]) (fun b ob hb q => (sb.2 b (fun z => hb (by simp [z]))).trans (hk b ob (fun z => hb (by simp [z])) (fun z => hb (by simp [z])) q)) hf (Nat.le_refl _) new
    refine ⟨.ref s.heap.objs.size, _, I1, rfl, ⟨_, x, rfl, I.hok.fresh (Nat.le_refl _), rfl, fun ys hy => by rw [at_inj I hy hq]; exact hx⟩, ⟨⟨u, ?_⟩, (k1 _ _ hit').keep fun o q => (sb.2 it (Ne.symm hne)).trans q⟩, fun b hb => ?_⟩
    · have e1 : ((i + 1 : Nat) : Int) = (i : Int) + 1 := by omega
      rw [e1]; exact he'
    · have hb' : b < s.heap.objs.size := by
        have e' : b = e ∨ b = it := by simpa using hb
        rcases e' with z | z
        · rw [z]; exact hel
        · rw [z]; exact hil
      rw [upd_ne (Nat.ne_of_lt hb')]
      exact (hf b hb).1
  done := by
    intro X hP hw hK hc i pins s σ H E I hf st hg
    subst hP hw hK
    obtain ⟨⟨old, he⟩, hit⟩ := st
    obtain ⟨xs, hq, hx⟩ := hg
    obtain ⟨fp, P1, St1, D1, st1, g1, m1, b1, k1⟩ := draws (A := X.A.in1) I (I.ok.hd hc) hq hit hc2
    obtain ⟨f0, f1, f2, f3, f4, f5⟩ := hf it (by simp)
    subst hx
    exact wpAny_pyNext_enum_endD D1 he st1 fun h' eb => ⟨rfl, I.turned (t' := s.toks) (fun b o hb q => eb b o hb q) f0 f1 f3 f4 f5⟩
  self := fun A i s Q E st h => let ⟨⟨_, he⟩, _⟩ := st; wpAny_pyIter_enum he h
def iEnumU (K : PySem.W.Frag) (ta : TA) : TI := fun σ H R => ta σ H fun vs H1 => ∃ (c : Src) (xs : List V), vs = [c.val] ∧ c.At K H1 xs ∧ R (ItE K c) H1
theorem pi_enumU {X : Cx} {e : Expr} {ta : TA} {p pos tpos : Pos} {elts : List Expr} {kk : Nat} (hg : Gl X "enumerate") (hm : X.mg "enumerate" = none) (ha : PA X [e] ta) (hs : starEach [e] X.env = [(false, eval e X.env)] := by rfl) :
    PI X (.Tuple elts kk tpos) (.Call (.Name "enumerate" p) [e] [] pos) (iEnumU X.K ta) := by
  refine ⟨fun pins s σ H R I h => ?_⟩
  refine Call_ (ld_blt I hg hm boot_enumerate (PyProof.Rows.callWith_type1 (thn (ha.run pos pins s σ H _ I h) fun us s1 ⟨vs, H1, I1, r1, q1⟩ => ?_) hs rfl))
  obtain ⟨c, xs, ex, hc, q⟩ := q1
  subst ex
  cases r1 with
  | cons r rr =>
    cases rr
    obtain ⟨o1, B1, bg1, hB1, k1⟩ := begins I1 hc r
    refine enum_begins1 bg1 hB1 fun h' he g1 hsz hk => wpAny_pyIter_enum he ?_
    have I2 : Inv X pins σ H1 { s1 with heap := h' } := I1.kept (t' := s1.toks) hk
    have far : ∀ b, c.adr = some b → b < s1.heap.objs.size := fun b e => adr_lt I1 hc e
    refine ⟨s1.heap.objs.size + 1, [s1.heap.objs.size + 1, s1.heap.objs.size], _, _, H1, rfl, I2, turn_enumU (Nat.succ_ne_self _) (fun e => absurd (Nat.lt_of_le_of_lt (Nat.le_add_right _ _) (far _ e)) (Nat.lt_irrefl _)) (fun e => absurd (far _ e) (Nat.lt_irrefl _)), ⟨⟨.none, he⟩, k1 _ _ g1⟩, fun b hb => ?_, q⟩
    have e' : b = s1.heap.objs.size + 1 ∨ b = s1.heap.objs.size := by simpa using hb
    have hle : s1.heap.objs.size ≤ b := by
      rcases e' with z | z
      · rw [z]; exact Nat.le_add_right _ _
      · rw [z]; exact Nat.le_refl _
    exact I1.fpOk hle (I1.hok.fresh hle)
end Za
/-! Z6: writes, methods of lists and texts, dicts, slices. -/
namespace Z
open PySem PySem.Spec L2

/-! ### a handle's thing written -/
section
variable {K : PySem.W.Frag} {mg : Str → Option Value} {ρ : List Addr} {H : Hp} {S : Store}
theorem Ext.put {p : Addr} {o : HO} (hp : p ∈ ρ) : Ext ρ H ρ (upd H p o) := ⟨⟨[], by simp⟩, fun a h n => absurd h n, fun a u n h => .inl (by rw [upd_ne (fun q => n (by rw [q]; exact hp))]; exact h)⟩
theorem nd_eq {α : Type} : ∀ {l : List α} {i j : Nat} {a : α}, l.Nodup → l[i]? = some a → l[j]? = some a → i = j
  | [], _, _, _, _, h, _ => by simp at h
  | x :: l, 0, 0, _, _, _, _ => rfl
  | x :: l, 0, j + 1, a, hn, h1, h2 => by
    simp at h1 h2
    exact absurd (List.mem_of_getElem? h2) (by rw [← h1]; exact (List.nodup_cons.mp hn).1)
  | x :: l, i + 1, 0, a, hn, h1, h2 => by
    simp at h1 h2
    exact absurd (List.mem_of_getElem? h1) (by rw [← h2]; exact (List.nodup_cons.mp hn).1)
  | x :: l, i + 1, j + 1, a, hn, h1, h2 => by
    simp only [List.getElem?_cons_succ] at h1 h2
    rw [nd_eq (List.nodup_cons.mp hn).2 h1 h2]
theorem WOk.put (w : WOk K mg ρ H S) {n : Nat} {p : Addr} {o : HO} {m : MO} (hn : ρ[n]? = some p) (hm : MRep K mg ρ (upd H p o) p m) : WOk K mg ρ (upd H p o) (S.set n m) := by
  have hp : p ∈ ρ := List.mem_of_getElem? hn
  refine ⟨by simp [w.len], w.nd, fun a ha => ?_, fun j a m' e1 e2 => ?_⟩
  · by_cases q : a = p
    · rw [q, upd_same]; simp
    · rw [upd_ne q]; exact w.tr a ha
  · by_cases q : j = n
    · subst q
      rw [hn] at e1; cases e1
      have hl : j < S.length := by rw [← w.len]; exact (List.getElem?_eq_some_iff.mp hn).1
      rw [List.getElem?_set_self hl] at e2; cases e2
      exact hm
    · rw [List.getElem?_set_ne (Ne.symm q)] at e2
      have hap : a ≠ p := fun e => by
        subst e
        exact q (nd_eq w.nd e1 hn)
      exact MRep.ext (Ext.put hp) (upd_ne hap) (w.ob j a m' e1 e2)
theorem post_put {Wp : Value → Option Addr → Hp → Prop} {Q : VK} {d : D} {v : V} {n : Nat} {p : Addr} {o : HO} {m : MO} (h : PostE K mg Wp ρ H Q (.ok d (S.set n m))) (w : WOk K mg ρ H S) (hn : ρ[n]? = some p) (hm : MRep K mg ρ (upd H p o) p m) (r : Rep K mg ρ H d v) : Q v (upd H p o) :=
  h v ρ _ (Ext.put (List.mem_of_getElem? hn)) (w.put hn hm) (r.ext (Ext.put (List.mem_of_getElem? hn)))
theorem Ext.putL {p : Addr} {o : HO} {n : Nat} (hn : ρ[n]? = some p) : Ext ρ H ρ (upd H p o) := Ext.put (List.mem_of_getElem? hn)
/-- the list at a handle -/
theorem ptr_lst (w : WOk K mg ρ H S) {n : Nat} {v : V} {xs : List D} (r : Rep K mg ρ H (.ptr n) v) (e : S[n]? = some (.lst xs)) : ∃ a vs, v = .ref a ∧ ρ[n]? = some a ∧ H a = some (.lst vs) ∧ RepL K mg ρ H xs vs := by
  rw [Rep] at r
  obtain ⟨a, e1, q⟩ := r
  obtain ⟨vs, h1, h2⟩ := w.ob n a _ q e
  exact ⟨a, vs, e1, q, h1, h2⟩
theorem ptr_dct (w : WOk K mg ρ H S) {n : Nat} {v : V} {ks xs : List D} (r : Rep K mg ρ H (.ptr n) v) (e : S[n]? = some (.dct false ks xs)) : ∃ a kvs, v = .ref a ∧ ρ[n]? = some a ∧ H a = some (.dK kvs) ∧ RepL K mg ρ H ks (kvs.map fun p => kV p.1) ∧ RepL K mg ρ H xs (kvs.map (·.2)) := by
  rw [Rep] at r
  obtain ⟨a, e1, q⟩ := r
  obtain ⟨kvs, h1, h2, h3⟩ := w.ob n a _ q e
  rw [if_neg Bool.false_ne_true] at h1
  exact ⟨a, kvs, e1, q, h1, h2, h3⟩
end

/-! ### methods of lists and texts -/
abbrev SemM := D → SemL
def eMet (ty : Store → D → Bool) (sem : SemM) (fo : EX) (fa : AX) : EX := fun sl S => (fo sl S).bind fun d S1 => if ty S1 d = true then (fa sl S1).bind fun ds S2 => sem d ds S2 else .bad
def tyStr (_ : Store) : D → Bool
  | .str _ => true
  | _ => false
def tyLst (S : Store) (d : D) : Bool := (asL S d).isSome
section
variable {X : Cx} {W : WX}
structure MtD (X : Cx) (id : String) (sem : SemM) : Prop where
  go : ∃ r : V → List V → Hp → VK → Prop, MtR X id r ∧ ∀ (Wp : Value → Option Addr → Hp → Prop) (ρ : List Addr) (H : Hp) (S : Store) (d : D) (ds : List D) (x : V) (xs : List V) (Q : VK), WOk X.K X.mg ρ H S → Rep X.K X.mg ρ H d x → RepL X.K X.mg ρ H ds xs → PostE X.K X.mg Wp ρ H Q (sem d ds S) → r x xs H Q
theorem MtD.or {id : String} {s t : SemM} (h : MtD X id s) (h' : MtD X id t) : MtD X id (fun d => orSL (s d) (t d)) := by
  obtain ⟨r, o, g⟩ := h.go
  obtain ⟨r', o', g'⟩ := h'.go
  refine ⟨_, MtR.or o o', fun Wp ρ H S d ds x xs Q w rx rl p => ?_⟩
  unfold orSL at p
  cases q : s d ds S with
  | bad => rw [q] at p; exact .inr (g' Wp ρ H S d ds x xs Q w rx rl p)
  | ok a S' => rw [q] at p; exact .inl (g Wp ρ H S d ds x xs Q w rx rl (by rw [q]; exact p))
  | ex a S' => rw [q] at p; exact .inl (g Wp ρ H S d ds x xs Q w rx rl (by rw [q]; exact p))
theorem tyStr_is {K : PySem.W.Frag} {mg : Str → Option Value} {ρ : List Addr} {H : Hp} {S : Store} {d : D} {x : V} (_ : WOk K mg ρ H S) (r : Rep K mg ρ H d x) (h : tyStr S d = true) : tyV K "str" x H := by
  cases d with
  | str s => rw [rep_str r]; exact rfl
  | _ => cases h
theorem tyLst_is {K : PySem.W.Frag} {mg : Str → Option Value} {ρ : List Addr} {H : Hp} {S : Store} {d : D} {x : V} (w : WOk K mg ρ H S) (r : Rep K mg ρ H d x) (h : tyLst S d = true) : tyV K "list" x H := by
  unfold tyLst at h
  obtain ⟨ds, e⟩ := Option.isSome_iff_exists.mp h
  obtain ⟨a, vs, e1, h1, _⟩ := asL_rep w r e
  rw [e1]
  exact .inl ⟨rfl, vs, .inl (.inl h1)⟩
variable {o e : Expr} {es : List Expr} {fo fe : EX} {fa : AX} {apos cpos pos : Pos} {name : Str} {T id : String} {sem : SemM} {ty : Store → D → Bool}
theorem met_imp {σ : L2.St} {H : Hp} {Q : VK} {K : PySem.W.Frag} {mg : Str → Option Value} {k0 : V → Hp → Prop} {k : V → List V → Hp → Prop} (h : trE K mg W (eMet ty sem fo fa) σ H Q)
    (h0 : ∀ ρ H S d x, WOk K mg ρ H S → Rep K mg ρ H d x → ty S d = true → k0 x H)
    (hk : ∀ ρ S H2 d ds x xs, WOk K mg ρ H2 S → Rep K mg ρ H2 d x → RepL K mg ρ H2 ds xs → PostE K mg (fun C d H' => W C d σ H') ρ H2 Q (sem d ds S) → k x xs H2) :
    trE K mg W fo σ H fun x H1 => k0 x H1 ∧ trA K mg W fa σ H1 fun xs H2 => k x xs H2 := by
  obtain ⟨ρ, S, sl, w, rs, p⟩ := h
  refine ⟨ρ, S, sl, w, rs, PostE.mono (PostE.bindE p) fun x H1 ⟨ρ1, S1, d, x1, w1, r1, _, p1⟩ => ?_⟩
  split at p1
  · rename_i ht
    refine ⟨h0 _ _ _ _ _ w1 r1 ht, ρ1, S1, sl, w1, rs.ext x1, PostA.mono (PostA.bindE p1) fun xs H2 ⟨ρ2, S2, ds, x2, w2, r2, _, p2⟩ => ?_⟩
    exact hk ρ2 S2 H2 d ds x xs w2 (r1.ext x2) r2 p2
  · exact p1.elim
theorem r_met (hm : MtD X id sem) (hty : ∀ ρ H S d x, WOk X.K X.mg ρ H S → Rep X.K X.mg ρ H d x → ty S d = true → tyV X.K T x H) (pa : PlainAttrs T) (slot : Slot T name id) (hi : typeOf (.builtin id) = pure (.type "method_descriptor")) (ho : E X W o fo) (ha : EA X W (e :: es) fa)
    (hbase : attributeBase o name X.env (eval o X.env) = eval o X.env := by rfl)
    (hfew : ((backTo cpos (starEach (e :: es) X.env)).all (fun x => !x.1) && (backToKw cpos (keywordEach [] X.env)).all (fun x => x.1.isSome)
      && decide ((e :: es).length + ([] : List Keyword).length + (if ([] : List Keyword).isEmpty then 0 else 1) < 30)) = true := by rfl)
    (hline : (apos.endLine == cpos.line) = true := by rfl) (hs : starEach (e :: es) X.env = (false, eval e X.env) :: starEach es X.env := by rfl) (hplain : (backTo cpos (starEach es X.env)).any (·.1) = false := by rfl) :
    E X W (.Call (.Attribute o name apos) (e :: es) [] cpos) (eMet ty sem fo fa) := by
  obtain ⟨r, m, g⟩ := hm.go
  exact PE.imp (pe_bm pa slot hi m ho ha hbase hfew hline hs hplain) fun σ H Q h => met_imp h hty fun ρ S H2 d ds x xs w rx rl p => g _ ρ H2 S d ds x xs Q w rx rl p
theorem r_met0 (hm : MtD X id sem) (hty : ∀ ρ H S d x, WOk X.K X.mg ρ H S → Rep X.K X.mg ρ H d x → ty S d = true → tyV X.K T x H) (pa : PlainAttrs T) (slot : Slot T name id) (hi : typeOf (.builtin id) = pure (.type "method_descriptor")) (ho : E X W o fo)
    (hbase : attributeBase o name X.env (eval o X.env) = eval o X.env := by rfl) (hline : (apos.endLine == cpos.line) = true := by rfl) : E X W (.Call (.Attribute o name apos) [] [] cpos) (eMet ty sem fo aNil) := by
  obtain ⟨r, m, g⟩ := hm.go
  refine PE.imp (pe_bm0 pa slot hi m ho hbase hline) fun σ H Q h => ?_
  obtain ⟨ρ, S, sl, w, rs, p⟩ := met_imp (k := fun x xs H2 => r x xs H2 Q) h hty fun ρ S H2 d ds x xs w rx rl p => g _ ρ H2 S d ds x xs Q w rx rl p
  refine ⟨ρ, S, sl, w, rs, PostE.mono p fun x H1 ⟨t, ρ2, S2, sl2, w2, rs2, p2⟩ => ⟨t, p2 [] ρ2 H1 Ext.refl w2 RepL.nil⟩⟩

/-! #### lists -/
def semAppend : SemM := fun d ds S => match d, ds with
  | .ptr n, [e] => (match S[n]? with
    | some (.lst xs) => if xs.length < 1000000 then .ok .non (S.set n (.lst (xs ++ [e]))) else .bad
    | _ => .bad)
  | _, _ => .bad
theorem d_append : MtD X "list.append" semAppend := by
  refine ⟨_, mt_append, fun Wp ρ H S d ds x xs Q w rx rl p => ?_⟩
  unfold semAppend at p
  split at p
  · rename_i n e
    split at p
    · rename_i ys ey
      split at p
      · rename_i hl
        obtain ⟨a, vs, e1, q, h1, r1⟩ := ptr_lst w rx ey
        obtain ⟨v, e2, r2⟩ := repL_one rl
        refine ⟨a, vs, v, e1, e2, h1, by rw [← r1.len]; have := line_of (n := ys.length + 1) (by omega); omega, ?_⟩
        exact post_put p w q ⟨_, upd_same, (r1.append (RepL.cons r2 RepL.nil)).ext (Ext.putL q)⟩ mk_non
      · exact p.elim
    · exact p.elim
  · exact p.elim
def semExtend : SemM := fun d ds S => match d, ds with
  | .ptr n, [e] => (match S[n]?, asL S e with
    | some (.lst xs), some ys => if xs.length + ys.length ≤ 1000000 then .ok .non (S.set n (.lst (xs ++ ys))) else .bad
    | _, _ => .bad)
  | _, _ => .bad
theorem d_extend : MtD X "list.extend" semExtend := by
  refine ⟨_, mt_extend, fun Wp ρ H S d ds x xs Q w rx rl p => ?_⟩
  unfold semExtend at p
  split at p
  · rename_i n e
    split at p
    · rename_i xs' ys e1 e2
      split at p
      · rename_i hl
        obtain ⟨a, vs, e3, q, h1, r1⟩ := ptr_lst w rx e1
        obtain ⟨v, e4, r2⟩ := repL_one rl
        obtain ⟨b, us, e5, h5, r5⟩ := asL_rep w r2 e2
        refine ⟨a, b, vs, us, e3, by rw [e4, e5], h1, h5, by rw [← r1.len, ← r5.len]; exact line_of hl, ?_⟩
        exact post_put p w q ⟨_, upd_same, (r1.append r5).ext (Ext.putL q)⟩ mk_non
      · exact p.elim
    · exact p.elim
  · exact p.elim
theorem RepL.dropLast {K : PySem.W.Frag} {mg : Str → Option Value} {ρ : List Addr} {H : Hp} {ds : List D} {vs : List V} (q : RepL K mg ρ H ds vs) : RepL K mg ρ H ds.dropLast vs.dropLast := by
  rw [List.dropLast_eq_take, List.dropLast_eq_take, ← q.len]
  exact q.take _
def semPop : SemM := fun d ds S => match d, ds with
  | .ptr n, [] => (match S[n]? with
    | some (.lst xs) => (match xs[xs.length - 1]? with
      | some y => .ok y (S.set n (.lst xs.dropLast))
      | none => .bad)
    | _ => .bad)
  | _, _ => .bad
theorem d_pop : MtD X "list.pop" semPop := by
  refine ⟨_, mt_pop, fun Wp ρ H S d ds x xs Q w rx rl p => ?_⟩
  unfold semPop at p
  split at p
  · rename_i n
    split at p
    · rename_i ys ey
      split at p
      · rename_i y hy
        obtain ⟨a, vs, e1, q, h1, r1⟩ := ptr_lst w rx ey
        obtain ⟨v, h2, r2⟩ := r1.get hy
        rw [RepL] at rl
        refine ⟨a, vs, v, e1, rl, h1, by rw [← r1.len]; exact h2, ?_⟩
        exact post_put p w q ⟨_, upd_same, r1.dropLast.ext (Ext.putL q)⟩ r2
      · exact p.elim
    · exact p.elim
  · exact p.elim
def semClear : SemM := fun d ds S => match d, ds with
  | .ptr n, [] => (match S[n]? with
    | some (.lst _) => .ok .non (S.set n (.lst []))
    | _ => .bad)
  | _, _ => .bad
theorem d_clear : MtD X "list.clear" semClear := by
  refine ⟨_, mt_clear, fun Wp ρ H S d ds x xs Q w rx rl p => ?_⟩
  unfold semClear at p
  split at p
  · rename_i n
    split at p
    · rename_i ys ey
      obtain ⟨a, vs, e1, q, h1, r1⟩ := ptr_lst w rx ey
      rw [RepL] at rl
      exact ⟨a, vs, e1, rl, h1, post_put p w q ⟨_, upd_same, RepL.nil⟩ mk_non⟩
    · exact p.elim
  · exact p.elim
def semInsert : SemM := fun d ds S => match d, ds with
  | .ptr n, [.int i, e] => (match S[n]? with
    | some (.lst xs) => if xs.length < 1000000 ∧ 0 ≤ i ∧ i < 2 ^ 63 then .ok .non (S.set n (.lst (xs.take i.toNat ++ [e] ++ xs.drop i.toNat))) else .bad
    | _ => .bad)
  | _, _ => .bad
theorem d_insert : MtD X "list.insert" semInsert := by
  refine ⟨_, mt_insert, fun Wp ρ H S d ds x xs Q w rx rl p => ?_⟩
  unfold semInsert at p
  split at p
  · rename_i n i e
    split at p
    · rename_i ys ey
      split at p
      · rename_i hl
        obtain ⟨a, vs, e1, q, h1, r1⟩ := ptr_lst w rx ey
        obtain ⟨v, u, e2, r2, r3⟩ := repL_two rl
        rw [rep_int r2] at e2
        refine ⟨a, vs, i, u, e1, e2, h1, by rw [← r1.len]; have := line_of (n := ys.length + 1) (by omega); omega, hl.2.1, hl.2.2, ?_⟩
        exact post_put p w q ⟨_, upd_same, (((r1.take _).append (RepL.cons r3 RepL.nil)).append (r1.drop _)).ext (Ext.putL q)⟩ mk_non
      · exact p.elim
    · exact p.elim
  · exact p.elim

/-! #### texts -/
def strsOf : List D → Option (List Str)
  | [] => some []
  | .str s :: r => (strsOf r).map (s :: ·)
  | _ :: _ => none
theorem strs_eq : ∀ {ds : List D} {bs : List Str}, strsOf ds = some bs → ds = bs.map D.str
  | [], _, e => by cases e; rfl
  | d :: r, _, e => by
    cases d with
    | str s =>
      rw [strsOf] at e
      obtain ⟨ys, e1, e2⟩ := Option.map_eq_some_iff.mp e
      subst e2
      rw [strs_eq e1]; rfl
    | _ => cases e
theorem strsOf_map : ∀ bs : List Str, strsOf (bs.map D.str) = some bs
  | [] => rfl
  | b :: bs => by rw [List.map_cons, strsOf, strsOf_map bs]; rfl
theorem repL_strs {K : PySem.W.Frag} {mg : Str → Option Value} {ρ : List Addr} {H : Hp} : ∀ {bs : List Str} {vs : List V}, RepL K mg ρ H (bs.map D.str) vs → vs = bs.map V.str
  | [], _, r => by rw [List.map_nil, RepL] at r; exact r
  | b :: bs, _, r => by
    rw [List.map_cons, RepL] at r
    obtain ⟨v, r', e, h1, h2⟩ := r
    rw [e, rep_str h1, repL_strs h2]; rfl
theorem mk_strs {K : PySem.W.Frag} {mg : Str → Option Value} {ρ : List Addr} {H : Hp} : ∀ (bs : List Str), RepL K mg ρ H (bs.map D.str) (bs.map V.str)
  | [] => RepL.nil
  | b :: bs => RepL.cons mk_str (mk_strs bs)
def semJoin : SemM := fun d ds S => match d, ds with
  | .str a, [e] => (match asS S e with
    | some xs => (match strsOf xs with
      | some ys => if (ys.map (·.length)).sum + ys.length * a.length ≤ 1000000 then .ok (.str (Txt.join a ys)) S else .bad
      | none => .bad)
    | none => .bad)
  | _, _ => .bad
theorem d_join : MtD X "str.join" semJoin := by
  refine ⟨_, mt_join, fun Wp ρ H S d ds x xs Q w rx rl p => ?_⟩
  unfold semJoin at p
  split at p
  · rename_i a e
    split at p
    · rename_i zs ez
      split at p
      · rename_i ys ey
        split at p
        · rename_i hl
          obtain ⟨v, e2, r2⟩ := repL_one rl
          obtain ⟨b, vs, e3, h3, r3⟩ := asS_rep w r2 ez
          rw [strs_eq ey] at r3
          rw [repL_strs r3] at h3
          exact ⟨a, b, ys, rep_str rx, by rw [e2, e3], h3, by omega, post_ok p w mk_str⟩
        · exact p.elim
      · exact p.elim
    · exact p.elim
  · exact p.elim
/-- a text's method without arguments -/
def semT0 (g : Str → D) : SemM := fun d ds S => match d, ds with
  | .str a, [] => if a.length ≤ 1000000 then .ok (g a) S else .bad
  | _, _ => .bad
theorem d_t0 {id : String} {C : Str → Prop} {g : Str → V} {gd : Str → D} (m : MtR X id (fun x xs H Q => ∃ a, x = .str a ∧ xs = [] ∧ C a ∧ Q (g a) H)) (hC : ∀ a : Str, a.length ≤ 1000000 → C a) (hg : ∀ a ρ H, Rep X.K X.mg ρ H (gd a) (g a)) : MtD X id (semT0 gd) := by
  refine ⟨_, m, fun Wp ρ H S d ds x xs Q w rx rl p => ?_⟩
  unfold semT0 at p
  split at p
  · rename_i a
    split at p
    · rename_i hl
      rw [RepL] at rl
      exact ⟨a, rep_str rx, rl, hC a hl, post_ok p w (hg a _ _)⟩
    · exact p.elim
  · exact p.elim
def semLower : SemM := semT0 fun a => .str (Txt.lower a)
def semUpper : SemM := semT0 fun a => .str (Txt.upper a)
def semIsupper : SemM := semT0 fun a => .bl (Txt.isupper a)
def semIslower : SemM := semT0 fun a => .bl (Txt.islower a)
theorem d_lower : MtD X "str.lower" semLower := d_t0 mt_lower (fun a h => by omega) fun _ _ _ => mk_str
theorem d_upper : MtD X "str.upper" semUpper := d_t0 mt_upper (fun a h => by omega) fun _ _ _ => mk_str
theorem d_isupper : MtD X "str.isupper" semIsupper := d_t0 mt_isupper (fun a h => trivial) fun _ _ _ => mk_bl
theorem d_islower : MtD X "str.islower" semIslower := d_t0 mt_islower (fun a h => trivial) fun _ _ _ => mk_bl
end
end Z
/-! Z7: dicts, stores into lists and dicts, slices. -/
namespace Z
open PySem PySem.Spec L2

/-! ### dicts as data -/
def kD : Key → D
  | .inl i => .int i
  | .inr s => .str s
def keyD : D → Option Key
  | .int i => some (.inl i)
  | .str s => some (.inr s)
  | _ => none
@[simp] theorem keyD_kD (k : Key) : keyD (kD k) = some k := by cases k <;> rfl
theorem keyD_eq {d : D} {k : Key} (h : keyD d = some k) : d = kD k := by
  cases d with
  | int i => cases h; rfl
  | str i => cases h; rfl
  | _ => cases h
def getK : List D → List D → Key → Option D
  | k :: ks, v :: vs, y => if keyD k = some y then some v else getK ks vs y
  | _, _, _ => none
def hasK (ks : List D) (y : Key) : Bool := ks.any fun k => decide (keyD k = some y)
def putV : List D → List D → Key → D → List D
  | k :: ks, v :: vs, y, d => (if keyD k = some y then d else v) :: putV ks vs y d
  | _, _, _, _ => []
def putKs (ks : List D) (y : Key) : List D := if hasK ks y = true then ks else ks ++ [kD y]
def putVs (ks vs : List D) (y : Key) (d : D) : List D := if hasK ks y = true then putV ks vs y d else vs ++ [d]
def asD (S : Store) : D → Option (List D × List D)
  | .dct ks vs => some (ks, vs)
  | .ptr n => match S[n]? with
    | some (.dct _ ks vs) => some (ks, vs)
    | _ => none
  | _ => none
section
variable {K : PySem.W.Frag} {mg : Str → Option Value} {ρ : List Addr} {H : Hp} {S : Store}
theorem rep_kV {d : D} {k : Key} (r : Rep K mg ρ H d (kV k)) : d = kD k := by
  cases d with
  | non => rw [Rep] at r; cases k <;> cases r
  | bl b => rw [Rep] at r; cases k <;> cases r
  | int i => rw [Rep] at r; cases k <;> cases r; rfl
  | str i => rw [Rep] at r; cases k <;> cases r; rfl
  | ty i => rw [Rep] at r; cases k <;> cases r
  | cls c => rw [Rep] at r; obtain ⟨_, _, e⟩ := r; cases k <;> cases e
  | tup xs => rw [Rep] at r; obtain ⟨_, _, e, _⟩ := r; cases k <;> cases e
  | lst xs => rw [Rep] at r; obtain ⟨_, _, e, _⟩ := r; cases k <;> cases e
  | dct xs ys => rw [Rep] at r; obtain ⟨_, _, _, e, _⟩ := r; cases k <;> cases e
  | ins c ns vs => rw [Rep] at r; obtain ⟨_, _, _, _, e, _⟩ := r; cases k <;> cases e
  | ptr n => rw [Rep] at r; obtain ⟨_, e, _⟩ := r; cases k <;> cases e
  | scr xs => rw [Rep] at r; obtain ⟨_, e, _⟩ := r; cases k <;> cases e
theorem mk_kV (k : Key) : Rep K mg ρ H (kD k) (kV k) := by cases k <;> rw [kD, kV, Rep]
theorem rep_keyD {d : D} {k : Key} {v : V} (r : Rep K mg ρ H d v) (h : keyD d = some k) : v = kV k := by
  rw [keyD_eq h] at r
  cases k with
  | inl i => exact rep_int r
  | inr i => exact rep_str r
theorem repK : ∀ {kvs : List (Key × V)} {ks : List D}, RepL K mg ρ H ks (kvs.map fun p => kV p.1) → ks = kvs.map fun p => kD p.1
  | [], ks, r => by
    cases ks with
    | nil => rfl
    | cons d ks => rw [RepL] at r; obtain ⟨_, _, e, _⟩ := r; cases e
  | p :: kvs, ks, r => by
    cases ks with
    | nil => rw [RepL] at r; cases r
    | cons d ks =>
      rw [RepL] at r
      obtain ⟨v, r', e, h1, h2⟩ := r
      rw [List.map_cons] at e
      injection e with e1 e2
      subst e1 e2
      rw [List.map_cons, rep_kV h1, repK h2]
theorem mkK : ∀ (kvs : List (Key × V)), RepL K mg ρ H (kvs.map fun p => kD p.1) (kvs.map fun p => kV p.1)
  | [] => RepL.nil
  | p :: kvs => RepL.cons (mk_kV p.1) (mkK kvs)
theorem asD_rep {d : D} {v : V} {p : List D × List D} (w : WOk K mg ρ H S) (r : Rep K mg ρ H d v) (h : asD S d = some p) : ∃ a kvs, v = .ref a ∧ Rd H a (.dK kvs) ∧ p.1 = kvs.map (fun p => kD p.1) ∧ RepL K mg ρ H p.2 (kvs.map (·.2)) := by
  cases d with
  | dct ks vs =>
    unfold asD at h
    cases h
    rw [Rep] at r
    obtain ⟨a, kv, vs', e, ⟨_, kvs, t, e1, e2⟩, r1, r2⟩ := r
    subst e1 e2
    exact ⟨a, kvs, e, t, repK r1, r2⟩
  | ptr n =>
    unfold asD at h
    simp only at h
    rw [Rep] at r
    obtain ⟨a, e, q⟩ := r
    split at h
    · rename_i lk ks vs em
      cases h
      obtain ⟨kvs, h1, r1, r2⟩ := w.ob n a _ q em
      refine ⟨a, kvs, e, ?_, repK r1, r2⟩
      cases lk with
      | true => rw [if_pos rfl] at h1; exact h1
      | false => rw [if_neg Bool.false_ne_true] at h1; exact .inl h1
    · cases h
  | _ => unfold asD at h; cases h
theorem getK_rep {y : Key} : ∀ {kvs : List (Key × V)} {ds : List D}, RepL K mg ρ H ds (kvs.map (·.2)) → (∀ d, getK (kvs.map fun p => kD p.1) ds y = some d → ∃ v, valV kvs y = some v ∧ Rep K mg ρ H d v) ∧ (valV kvs y).isSome = hasK (kvs.map fun p => kD p.1) y
  | [], ds, r => ⟨fun d h => by simp [getK] at h, by rw [valV_nil]; rfl⟩
  | p :: kvs, ds, r => by
    cases ds with
    | nil => rw [RepL] at r; cases r
    | cons d ds =>
      rw [RepL] at r
      obtain ⟨v, r', e, h1, h2⟩ := r
      rw [List.map_cons] at e
      injection e with e1 e2
      subst e1 e2
      obtain ⟨i1, i2⟩ := getK_rep (y := y) (kvs := kvs) h2
      by_cases q : p.1 = y
      · refine ⟨fun d' h => ?_, ?_⟩
        · rw [List.map_cons, getK, keyD_kD, q, if_pos rfl] at h
          cases h
          exact ⟨p.2, valV_pos q, h1⟩
        · rw [valV_pos q, List.map_cons, hasK, List.any_cons, keyD_kD, q]
          simp
      · refine ⟨fun d' h => ?_, ?_⟩
        · rw [List.map_cons, getK, keyD_kD, if_neg (fun z => q (Option.some.inj z))] at h
          obtain ⟨u, e3, r3⟩ := i1 d' h
          exact ⟨u, by rw [valV_neg q]; exact e3, r3⟩
        · rw [valV_neg q, List.map_cons, hasK, List.any_cons, keyD_kD, decide_eq_false (fun z => q (Option.some.inj z)), Bool.false_or]
          exact i2
theorem anyK (y : Key) (kvs : List (Key × V)) : (kvs.any fun kv => decide (kv.1 = y)) = hasK (kvs.map fun p => kD p.1) y := by
  induction kvs with
  | nil => rfl
  | cons p kvs ih =>
    rw [List.any_cons, List.map_cons, hasK, List.any_cons, keyD_kD]
    rw [show (kvs.any fun kv => decide (kv.1 = y)) = (List.map (fun p : Key × V => kD p.1) kvs).any (fun k => decide (keyD k = some y)) from ih]
    congr 1
    simp
theorem putV_rep {y : Key} {d : D} {v : V} (h : Rep K mg ρ H d v) : ∀ {kvs : List (Key × V)} {ds : List D}, RepL K mg ρ H ds (kvs.map (·.2)) → RepL K mg ρ H (putV (kvs.map fun p => kD p.1) ds y d) ((kvs.map fun kv => if kv.1 = y then (kv.1, v) else kv).map (·.2))
  | [], ds, r => by
    rw [List.map_nil, List.map_nil, List.map_nil]
    cases ds with
    | nil => exact RepL.nil
    | cons d ds => rw [RepL] at r; obtain ⟨_, _, e, _⟩ := r; cases e
  | p :: kvs, ds, r => by
    cases ds with
    | nil => rw [RepL] at r; cases r
    | cons d' ds =>
      rw [RepL] at r
      obtain ⟨v', r', e, h1, h2⟩ := r
      rw [List.map_cons] at e
      injection e with e1 e2
      subst e1 e2
      rw [List.map_cons, List.map_cons, List.map_cons, putV, keyD_kD]
      refine RepL.cons ?_ (putV_rep h h2)
      by_cases q : p.1 = y
      · rw [if_pos q, if_pos (by rw [q])]; exact h
      · rw [if_neg q, if_neg (fun z => q (Option.some.inj z))]; exact h1
theorem putK_rep {y : Key} {d : D} {v : V} (h : Rep K mg ρ H d v) {kvs : List (Key × V)} {ds : List D} (r : RepL K mg ρ H ds (kvs.map (·.2))) :
    putKs (kvs.map fun p => kD p.1) y = (putK kvs y v).map (fun p => kD p.1) ∧ RepL K mg ρ H (putVs (kvs.map fun p => kD p.1) ds y d) ((putK kvs y v).map (·.2)) := by
  unfold putKs putVs putK
  rw [← anyK y kvs]
  split
  · rename_i q
    refine ⟨?_, putV_rep h r⟩
    rw [List.map_map]
    refine List.map_congr_left fun p _ => ?_
    simp only [Function.comp]
    split <;> rfl
  · refine ⟨by rw [List.map_append]; rfl, ?_⟩
    rw [List.map_append]
    exact r.append (RepL.cons h RepL.nil)
end
section
variable {X : Cx}
/-- d[k] -/
def ixDct : Sem2 := fun d e S => match asD S d, keyD e with
  | some p, some k => (match getK p.1 p.2 k with
    | some v => .ok v S
    | none => .bad)
  | _, _ => .bad
theorem ix_dct (hu : X.A.units + 1 < cLine) : IxR X (fun x y H Q => ∃ a v, x = .ref a ∧ DGet H a y (some v) ∧ Q v H) := by
  intro value slice pins s σ H x y v u Q I rx ry h hs
  obtain ⟨a, z, rfl, g, q⟩ := h
  obtain rfl : v = Value.ref a := rx
  exact PyProof.Rows.tail_any (dict_typeIs I g) PySem.F.slot_dict_getitem.lookup (d_getItem hu I g ry fun w' s' I' rw' => ⟨z, H, I', rw', q⟩) hs
theorem d_ixDct (hu : X.A.units + 1 < cLine) : IxD X ixDct := by
  refine ⟨_, ix_dct hu, fun Wp ρ H S d e x y Q w rx ry p => ?_⟩
  unfold ixDct at p
  split at p
  · rename_i pr k ep ek
    split at p
    · rename_i v ev
      obtain ⟨a, kvs, e1, h1, e2, r2⟩ := asD_rep w rx ep
      rw [e2] at ev
      obtain ⟨u, e3, r3⟩ := (getK_rep r2).1 v ev
      exact ⟨a, u, e1, .inl ⟨kvs, k, h1, rep_keyD ry ek, e3.symm⟩, post_ok p w r3⟩
    · exact p.elim
  · exact p.elim
/-- k in d -/
def inDct (neg : Bool) : Sem2 := fun e d S => match asD S d, keyD e with
  | some p, some k => .ok (.bl (if neg = true then !hasK p.1 k else hasK p.1 k)) S
  | _, _ => .bad
theorem op_inDct (hu : X.A.units + 1 < cLine) : OpR X (compareOp .In) (fun y x H Q => ∃ a o, x = .ref a ∧ DGet H a y o ∧ Q (.bl o.isSome) H) := by
  intro pins s σ H x y v u Q I rx ry h
  obtain ⟨a, o, rfl, g, q⟩ := h
  obtain rfl : u = Value.ref a := ry
  exact d_in hu I g rx fun s' I' => ⟨.bl o.isSome, H, I', rfl, q⟩
theorem op_notInDct (hu : X.A.units + 1 < cLine) : OpR X (compareOp .NotIn) (fun y x H Q => ∃ a o, x = .ref a ∧ DGet H a y o ∧ Q (.bl (!o.isSome)) H) := by
  intro pins s σ H x y v u Q I rx ry h
  obtain ⟨a, o, rfl, g, q⟩ := h
  obtain rfl : u = Value.ref a := ry
  exact d_notIn hu I g rx fun s' I' => ⟨.bl (!o.isSome), H, I', rfl, q⟩
theorem d_inDct (hu : X.A.units + 1 < cLine) : OpD X (compareOp .In) (inDct false) := by
  refine ⟨_, op_inDct hu, fun Wp ρ H S d e x y Q w rx ry p => ?_⟩
  unfold inDct at p
  split at p
  · rename_i pr k ep ek
    obtain ⟨a, kvs, e1, h1, e2, r2⟩ := asD_rep w ry ep
    refine ⟨a, valV kvs k, e1, .inl ⟨kvs, k, h1, rep_keyD rx ek, rfl⟩, ?_⟩
    rw [(getK_rep (y := k) r2).2, ← e2]
    exact post_ok p w mk_bl
  · exact p.elim
theorem d_notInDct (hu : X.A.units + 1 < cLine) : OpD X (compareOp .NotIn) (inDct true) := by
  refine ⟨_, op_notInDct hu, fun Wp ρ H S d e x y Q w rx ry p => ?_⟩
  unfold inDct at p
  split at p
  · rename_i pr k ep ek
    obtain ⟨a, kvs, e1, h1, e2, r2⟩ := asD_rep w ry ep
    refine ⟨a, valV kvs k, e1, .inl ⟨kvs, k, h1, rep_keyD rx ek, rfl⟩, ?_⟩
    rw [(getK_rep (y := k) r2).2, ← e2]
    exact post_ok p w mk_bl
  · exact p.elim
/-! new dicts -/
section
variable {K : PySem.W.Frag} {mg : Str → Option Value} {ρ : List Addr} {H : Hp} {S : Store}
theorem post_dct {Wp : Value → Option Addr → Hp → Prop} {Q : VK} {ks vs : List D} {kvs : List (Key × V)} {p : Addr} (h : PostE K mg Wp ρ H Q (.ok (.dct ks vs) S)) (w : WOk K mg ρ H S) (e : ks = kvs.map fun p => kD p.1) (r : RepL K mg ρ H vs (kvs.map (·.2))) (hp : H p = none) : Q (.ref p) (upd H p (.dK kvs)) := by
  refine h (.ref p) ρ _ (Ext.new' hp) (w.new' hp) ?_
  rw [Rep]
  exact ⟨p, _, _, rfl, ⟨w.nin hp, kvs, .inl upd_same, rfl, rfl⟩, e ▸ mkK kvs, r.ext (Ext.new' hp)⟩
theorem post_dctH {Wp : Value → Option Addr → Hp → Prop} {Q : VK} {ks vs : List D} {kvs : List (Key × V)} {p : Addr} (h : PostE K mg Wp ρ H Q (.ok (.ptr S.length) (S ++ [.dct false ks vs]))) (w : WOk K mg ρ H S) (e : ks = kvs.map fun p => kD p.1) (r : RepL K mg ρ H vs (kvs.map (·.2))) (hp : H p = none) : Q (.ref p) (upd H p (.dK kvs)) := by
  refine h (.ref p) (ρ ++ [p]) _ (Ext.hand hp) (w.hand hp ⟨kvs, by rw [if_neg Bool.false_ne_true]; exact upd_same, e ▸ mkK kvs, r.ext (Ext.hand hp)⟩) ?_
  rw [Rep]
  exact ⟨p, rfl, by rw [← w.len]; simp⟩
end
def eDNewH : EX := fun _ S => .ok (.ptr S.length) (S ++ [.dct false [] []])
theorem r_dnewH {W : WX} {pos : Pos} : E X W (.Dict [] [] pos) eDNewH := PE.imp pe_dnewK fun σ H Q ⟨ρ, S, sl, w, rs, p⟩ a ha => post_dctH (kvs := []) p w rfl RepL.nil ha
/-- dict(d) -/
def semDictD : SemL := fun ds S => match ds with
  | [d] => (match asD S d with
    | some p => .ok (.ptr S.length) (S ++ [.dct false p.1 p.2])
    | none => .bad)
  | _ => .bad
theorem d_dictD : CallD X (.type "dict") semDictD := by
  refine ⟨_, call_dictD, fun Wp ρ H S ds xs Q w r p => ?_⟩
  unfold semDictD at p
  split at p
  · split at p
    · rename_i pr ep
      obtain ⟨v, e, h1⟩ := repL_one r
      obtain ⟨a, kvs, e1, h2, e2, r2⟩ := asD_rep w h1 ep
      exact ⟨a, kvs, by rw [e, e1], h2, fun l hl => post_dctH p w e2 r2 hl⟩
    · exact p.elim
  · exact p.elim
/-- dict(list of pairs) -/
def pairsOf : List D → Option (List (Key × D))
  | [] => some []
  | .tup [k, v] :: r => match keyD k, pairsOf r with
    | some y, some ps => some ((y, v) :: ps)
    | _, _ => none
  | _ :: _ => none
def mergeD : List (Key × D) → List D × List D → List D × List D
  | [], p => p
  | (k, v) :: r, p => mergeD r (putKs p.1 k, putVs p.1 p.2 k v)
def semDictP : SemL := fun ds S => match ds with
  | [d] => (match asL S d with
    | some xs => (match pairsOf xs with
      | some ps => .ok (.ptr S.length) (S ++ [.dct false (mergeD ps ([], [])).1 (mergeD ps ([], [])).2])
      | none => .bad)
    | none => .bad)
  | _ => .bad
section
variable {K : PySem.W.Frag} {mg : Str → Option Value} {ρ : List Addr} {H : Hp} {S : Store}
theorem pairs_rep : ∀ {xs : List D} {ps : List (Key × D)} {vs : List V}, pairsOf xs = some ps → RepL K mg ρ H xs vs → ∃ (as : List Addr) (kvs : List (Key × V)), vs = as.map V.ref ∧ Paired (fun p kv => SqT K H p [kV kv.1, kv.2]) as kvs ∧ kvs.map (·.1) = ps.map (·.1) ∧ RepL K mg ρ H (ps.map (·.2)) (kvs.map (·.2))
  | [], ps, vs, h, r => by
    cases h
    rw [RepL] at r
    exact ⟨[], [], r, .nil, rfl, RepL.nil⟩
  | x :: xs, ps, vs, h, r => by
    rw [RepL] at r
    obtain ⟨v, r', e, h1, h2⟩ := r
    subst e
    unfold pairsOf at h
    split at h
    · rename_i e0; cases e0
    · rename_i k d r0 e0
      injection e0 with e1 e2
      subst e1 e2
      split at h
      · rename_i y ps' ek ep
        cases h
        obtain ⟨as, kvs, e3, pr, e4, r4⟩ := pairs_rep ep h2
        rw [Rep] at h1
        obtain ⟨a, us, e5, t, r5⟩ := h1
        obtain ⟨u1, u2, e6, r6, r7⟩ := repL_two r5
        rw [e6, rep_keyD r6 ek] at t
        refine ⟨a :: as, (y, u2) :: kvs, by rw [e5, e3]; rfl, .cons t.sq pr, by rw [List.map_cons, List.map_cons, e4], ?_⟩
        exact RepL.cons r7 r4
      · cases h
    · cases h
theorem merge_rep : ∀ {ps : List (Key × D)} {kvs acc : List (Key × V)} {p : List D × List D}, kvs.map (·.1) = ps.map (·.1) → RepL K mg ρ H (ps.map (·.2)) (kvs.map (·.2)) → p.1 = acc.map (fun q => kD q.1) → RepL K mg ρ H p.2 (acc.map (·.2)) →
    (mergeD ps p).1 = (mergeK acc kvs).map (fun q => kD q.1) ∧ RepL K mg ρ H (mergeD ps p).2 ((mergeK acc kvs).map (·.2))
  | [], kvs, acc, p, e, r, e1, r1 => by
    have : kvs = [] := by simpa using e
    subst this
    exact ⟨e1, r1⟩
  | (k, d) :: ps, kvs, acc, p, e, r, e1, r1 => by
    cases kvs with
    | nil => simp at e
    | cons q kvs =>
      simp only [List.map_cons, List.cons.injEq] at e
      rw [List.map_cons, List.map_cons, RepL] at r
      obtain ⟨v, r', e', h1, h2⟩ := r
      injection e' with e2 e3
      subst e2 e3
      have z := putK_rep (y := k) h1 r1
      rw [← e1] at z
      have e4 : q.1 = k := e.1
      have := merge_rep (ps := ps) (kvs := kvs) (acc := putK acc q.1 q.2) (p := (putKs p.1 k, putVs p.1 p.2 k d)) e.2 h2 (by rw [e4]; exact z.1) (by rw [e4]; exact z.2)
      exact this
end
theorem d_dictP (hc : X.calm = true) : CallD X (.type "dict") semDictP := by
  refine ⟨_, call_dictP hc, fun Wp ρ H S ds xs Q w r p => ?_⟩
  unfold semDictP at p
  split at p
  · split at p
    · rename_i ys ey
      split at p
      · rename_i ps eps
        obtain ⟨v, e, h1⟩ := repL_one r
        obtain ⟨a, vs, e1, h3, r1⟩ := asL_rep w h1 ey
        obtain ⟨as, kvs, e2, pr, e3, r3⟩ := pairs_rep eps r1
        obtain ⟨z1, z2⟩ := merge_rep (acc := []) (p := ([], [])) e3 r3 rfl RepL.nil
        exact ⟨a, as, kvs, by rw [e, e1], .inl (.inl (by rw [← e2]; exact h3)), pr, fun l hl => post_dctH p w z1 z2 hl⟩
      · exact p.elim
    · exact p.elim
  · exact p.elim
/-- len(d) -/
theorem call_lenRd : CallR X (.builtin "len") (fun xs H Q => ∃ a kvs, xs = [V.ref a] ∧ Rd H a (.dK kvs) ∧ Q (.int kvs.length) H) := by
  intro pins s σ H xs us Q I r h
  obtain ⟨a, kvs, rfl, ha, q⟩ := h
  obtain ⟨u, rfl, ru⟩ := vals1 r
  cases ru
  exact L2.d_len I ha fun t s' I' => ⟨.int kvs.length, H, I', ⟨t, rfl⟩, q⟩
def semLenD : SemL := fun ds S => match ds with
  | [d] => (match asD S d with
    | some p => .ok (.int p.1.length) S
    | none => .bad)
  | _ => .bad
theorem d_lenD : CallD X (.builtin "len") semLenD := by
  refine ⟨_, call_lenRd, fun Wp ρ H S ds xs Q w r p => ?_⟩
  unfold semLenD at p
  split at p
  · split at p
    · rename_i pr ep
      obtain ⟨v, e, h1⟩ := repL_one r
      obtain ⟨a, kvs, e1, h2, e2, r2⟩ := asD_rep w h1 ep
      refine ⟨a, kvs, by rw [e, e1], h2, ?_⟩
      rw [e2, List.length_map] at p
      exact post_ok p w mk_int
    · exact p.elim
  · exact p.elim
/-- d.get(k), d.get(k, e) -/
def eGet1 (fd fk : EX) : EX := fun sl S => (fd sl S).bind fun d S1 => match asD S1 d with
  | some _ => (fk sl S1).bind fun e S2 => (match asD S2 d, keyD e with
    | some p, some k => .ok (if hasK p.1 k = true then (getK p.1 p.2 k).getD .non else .non) S2
    | _, _ => .bad)
  | none => .bad
def eGet2 (fd fk fx : EX) : EX := fun sl S => (fd sl S).bind fun d S1 => match asD S1 d with
  | some _ => (fk sl S1).bind fun e S2 => (fx sl S2).bind fun x S3 => (match asD S3 d, keyD e with
    | some p, some k => (match getK p.1 p.2 k with
      | some v => .ok v S3
      | none => if hasK p.1 k = true then .bad else .ok x S3)
    | _, _ => .bad)
  | none => .bad
section
variable {W : WX} {o e f : Expr} {fo fe ff : EX} {apos cpos : Pos}
theorem r_get2 (hu : X.A.units + 1 < cLine) (ho : E X W o fo) (he : E X W e fe) (hf : E X W f ff) (m : M2 X o "get" apos e f cpos) : E X W (.Call (.Attribute o "get" apos) [e, f] [] cpos) (eGet2 fo fe ff) := by
  refine PE.imp (pe_dget2 hu ho he hf m) fun σ H Q ⟨ρ, S, sl, w, rs, p⟩ => ?_
  refine ⟨ρ, S, sl, w, rs, PostE.mono (PostE.bindE p) fun x H1 ⟨ρ1, S1, d, x1, w1, r1, _, p1⟩ => ?_⟩
  split at p1
  · rename_i pr0 ep0
    obtain ⟨a, kvs0, e1, h1, _, _⟩ := asD_rep w1 r1 ep0
    refine ⟨a, e1, .inl ⟨kvs0, h1⟩, ρ1, S1, sl, w1, rs.ext x1, PostE.mono (PostE.bindE p1) fun y H2 ⟨ρ2, S2, e', x2, w2, r2, _, p2⟩ => ?_⟩
    refine ⟨ρ2, S2, sl, w2, rs.ext (x1.trans x2), PostE.mono (PostE.bindE p2) fun z H3 ⟨ρ3, S3, g, x3, w3, r3, _, p3⟩ => ?_⟩
    split at p3
    · rename_i pr k ep ek
      obtain ⟨a', kvs, e2, h2, e3, r4⟩ := asD_rep w3 (r1.ext (x2.trans x3)) ep
      have ea : a' = a := by rw [e1] at e2; cases e2; rfl
      subst ea
      refine ⟨valV kvs k, .inl ⟨kvs, k, h2, rep_keyD (r2.ext x3) ek, rfl⟩, ?_⟩
      have g1 := getK_rep (y := k) r4
      split at p3
      · rename_i v ev
        rw [e3] at ev
        obtain ⟨u, e5, r5⟩ := g1.1 v ev
        rw [e5]
        exact post_ok p3 w3 r5
      · split at p3
        · exact p3.elim
        · rename_i hk
          have : valV kvs k = none := by
            have := g1.2
            rw [← e3] at this
            cases q : valV kvs k with
            | none => rfl
            | some u => rw [q] at this; exact absurd this.symm hk
          rw [this]
          exact post_ok p3 w3 r3
    · exact p3.elim
  · exact p1.elim
end

/-! ### o[i] = v -/
def setD (o i v : D) (S : Store) : Option Store := match o with
  | .ptr n => (match S[n]? with
    | some (.lst xs) => (match i with
      | .int k => (match ixN xs.length k with
        | some j => some (S.set n (.lst (xs.set j v)))
        | none => none)
      | _ => none)
    | some (.dct false ks vs) => (match keyD i with
      | some k => if ks.length < 1000000 then some (S.set n (.dct false (putKs ks k) (putVs ks vs k v))) else none
      | none => none)
    | _ => none)
  | _ => none
def rSetU : V → V → V → Hp → (Hp → Prop) → Prop := fun o i v H Q => rSetL o i v H Q ∨ rSetD o i v H Q
theorem set_u (hu : X.A.units + 1 < cLine) : PSet X rSetU := by
  intro pins s σ H o i v ov iv u Q I ro ri rv h
  rcases h with h | h
  · exact set_list pins s σ H o i v ov iv u Q I ro ri rv h
  · exact set_dict hu pins s σ H o i v ov iv u Q I ro ri rv h
theorem setD_rep {K : PySem.W.Frag} {mg : Str → Option Value} {ρ : List Addr} {H : Hp} {S S' : Store} {o i v : D} {x y z : V} {Q : Hp → Prop} (w : WOk K mg ρ H S) (ro : Rep K mg ρ H o x) (ri : Rep K mg ρ H i y) (rv : Rep K mg ρ H v z) (h : setD o i v S = some S')
    (k : ∀ H', Ext ρ H ρ H' → WOk K mg ρ H' S' → Q H') : rSetU x y z H Q := by
  unfold setD at h
  split at h
  · rename_i n
    split at h
    · rename_i xs ex
      split at h
      · rename_i k0
        split at h
        · rename_i j ej
          cases h
          obtain ⟨a, vs, e1, q, h1, r1⟩ := ptr_lst w ro ex
          refine .inl ⟨a, vs, k0, j, e1, rep_int ri, h1, by rw [← r1.len]; exact ej, k _ (Ext.putL q) (w.put q ⟨_, upd_same, (r1.set rv j).ext (Ext.putL q)⟩)⟩
        · cases h
      · cases h
    · rename_i ks vs ex
      split at h
      · rename_i k0 ek
        split at h
        · rename_i hl
          cases h
          obtain ⟨a, kvs, e1, q, h1, r1, r2⟩ := ptr_dct w ro ex
          have eks := repK r1
          obtain ⟨z1, z2⟩ := putK_rep (y := k0) rv r2
          rw [← eks] at z1 z2
          refine .inr ⟨a, _, e1, .inl ⟨kvs, k0, h1, rep_keyD ri ek, ?_, rfl⟩, k _ (Ext.putL q) (w.put q ⟨putK kvs k0 z, by rw [if_neg Bool.false_ne_true]; exact upd_same, ?_, z2.ext (Ext.putL q)⟩)⟩
          · have e : ks.length = kvs.length := by rw [eks, List.length_map]
            rw [← e]
            have := line_of (n := ks.length + 1) (by omega)
            omega
          · rw [z1]; exact mkK _
        · cases h
      · cases h
    · cases h
  · cases h
def gSubX (fo fi : EX) : GX := fun v sl S => match fo sl S with
  | .ok o S1 => (match fi sl S1 with
    | .ok i S2 => (match setD o i v S2 with
      | some S3 => .nx sl S3
      | none => .bad)
    | _ => .bad)
  | _ => .bad
theorem nx_sub (fo fi : EX) (d : D) (sl : Sl) (S : Store) : (∃ sl' S', gSubX fo fi d sl S = .nx sl' S') ∨ gSubX fo fi d sl S = .bad := by
  unfold gSubX
  split
  · split
    · split
      · exact .inl ⟨_, _, rfl⟩
      · exact .inr rfl
    · exact .inr rfl
  · exact .inr rfl
section
variable {W : WX} {o i e : Expr} {fo fi fe : EX} {pos : Pos}
theorem g_sub (hu : X.A.units + 1 < cLine) (ho : E X W o fo) (hi : E X W i fi)
    (ha : ∀ v, assign (.Subscript o i pos) X.env v = (do
      let ov ← holding [v] (eval o X.env)
      let iv ← holding [v, ov] (eval i X.env)
      standAt pos
      holding [v, ov, iv] (setItem ov iv v)
      release [v, ov, iv] []) := by intro _; rfl) : EG X W (.Subscript o i pos) (gSubX fo fi) := by
  refine PG.imp (pg_sub ho hi (set_u hu) ha) fun v σ H Q ⟨ρ, S, sl, d, w, rs, rv, p⟩ => ?_
  have p : PostS X.K X.mg W ρ H ⟨Q, fun _ _ => False, fun _ _ => False, fun _ _ => False⟩ (gSubX fo fi d sl S) := p
  unfold gSubX at p
  split at p
  · rename_i o' S1 eo
    split at p
    · rename_i i' S2 ei
      split at p
      · rename_i S3 es
        refine ⟨ρ, S, sl, w, rs, ?_⟩
        rw [eo]
        intro x ρ1 H1 x1 w1 r1
        refine ⟨ρ1, S1, sl, w1, rs.ext x1, ?_⟩
        rw [ei]
        intro y ρ2 H2 x2 w2 r2
        refine setD_rep w2 (r1.ext x2) r2 (rv.ext (x1.trans x2)) es fun H' xx ww => ?_
        have xt := (x1.trans x2).trans xx
        exact p _ ρ2 H' xt ww (rs.ext xt)
      · exact p.elim
    · exact p.elim
  · exact p.elim
theorem PostS.ofEx {K : PySem.W.Frag} {mg : Str → Option Value} {ρ : List Addr} {H : Hp} {W : WX} {Dd : Ends} {σ : L2.St} {sl : Sl} {o : Out D} {k : D → Store → SO} (rs : RSt K mg ρ H σ sl) (h : PostS K mg W ρ H Dd (o.toS sl k)) :
    PostE K mg (fun C d H' => W C d σ H') ρ H (fun v H1 => ∃ ρ1 S1 d, Ext ρ H ρ1 H1 ∧ WOk K mg ρ1 H1 S1 ∧ RSt K mg ρ1 H1 σ sl ∧ Rep K mg ρ1 H1 d v ∧ PostS K mg W ρ1 H1 Dd (k d S1)) o := by
  cases o with
  | ok d S => exact fun v ρ2 H2 y w r => ⟨ρ2, S, d, y, w, rs.ext y, r, PostS.from y h⟩
  | ex e S => exact fun C dd ρ2 H2 y w r => h C dd σ ρ2 H2 y w (rs.ext y) r
  | bad => exact h
/-- o[i] op= e, ints in a list -/
theorem get_list : PGet X (rIxL X.K) := by
  intro pins s σ H x y v u Q I rx ry h
  obtain ⟨p, xs, i, z, rfl, rfl, hq, he, q⟩ := h
  cases rx
  obtain ⟨t, rfl⟩ := ry
  obtain ⟨its, r, pl, hz⟩ := I.list hq
  obtain ⟨j, h1, h2, h3, h4, h5⟩ := atI_get he
  obtain ⟨w, ew, rw'⟩ := r.get h2
  have hl := r.length
  have hn := line63
  have fin : EP X pins σ Q w s := ⟨z, H, I, rw', q⟩
  by_cases h0 : 0 ≤ i
  · have hj : i.toNat = j := by
      rw [seqIndex_of h0 h5] at h1
      exact Option.some.inj h1
    exact wpAny_getItem_list pl.isList h0 (by omega) (by rw [hj]; simpa using ew) fin
  · have hj : (i + (its.toArray.size : Int)).toNat = j := by
      rw [seqIndex_neg (by omega) h4] at h1
      rw [List.size_toArray, ← hl]
      exact Option.some.inj h1
    exact wpAny_getItem_list_neg pl.isList (by omega) (by rw [List.size_toArray] <;> omega) (by omega) (by rw [hj]; simpa using ew) fin
def sAugSub (op : Int → Int → Int) (fo fi fe : EX) : SX := fun sl S => (fo sl S).toS sl fun o S1 => (fi sl S1).toS sl fun i S2 => match asL S2 o, i with
  | some xs, .int k => (match atI xs k with
    | some (.int a) => (fe sl S2).toS sl fun e S3 => (match e with
      | .int b => (match setD o i (.int (op a b)) S3 with
        | some S4 => .nx sl S4
        | none => .bad)
      | _ => .bad)
    | _ => .bad)
  | _, _ => .bad
theorem s_augSub {op : Operator} {g : Int → Int → Int} {tpos : Pos} (hu : X.A.units + 1 < cLine) (hp : PIp X op (ipI g)) (ho : E X W o fo) (hi : E X W i fi) (he : E X W e fe)
    (ha : ∀ ov iv new, augStore i ov iv new = (do holding [new, ov, iv] (setItem ov iv new); release [new, ov, iv] []; pure .next) := by intros; rfl) : ES X W (.AugAssign (.Subscript o i tpos) op e pos) (sAugSub g fo fi fe) := by
  refine PS.imp (ps_augS ho hi get_list he hp (set_u hu) ha) fun D σ H ⟨ρ, S, sl, w, rs, p⟩ => ?_
  refine ⟨ρ, S, sl, w, rs, PostE.mono (PostS.ofEx rs p) fun x H1 ⟨ρ1, S1, o', x1, w1, rs1, r1, p1⟩ => ?_⟩
  refine ⟨ρ1, S1, sl, w1, rs1, PostE.mono (PostS.ofEx rs1 p1) fun y H2 ⟨ρ2, S2, i', x2, w2, rs2, r2, p2⟩ => ?_⟩
  split at p2
  · rename_i xs k ex
    split at p2
    · rename_i a ea
      obtain ⟨l, vs, e1, h1, rl⟩ := asL_rep w2 (r1.ext x2) ex
      obtain ⟨v, h2, r3⟩ := atI_rep rl ea
      refine ⟨l, vs, k, v, e1, rep_int r2, .inl (.inl h1), h2, ?_⟩
      refine ⟨ρ2, S2, sl, w2, rs2, PostE.mono (PostS.ofEx rs2 p2) fun z H3 ⟨ρ3, S3, e', x3, w3, rs3, r4, p3⟩ => ?_⟩
      split at p3
      · rename_i b
        split at p3
        · rename_i S4 e4
          refine ⟨a, b, rep_int r3, rep_int r4, setD_rep w3 (r1.ext (x2.trans x3)) (r2.ext x3) (mk_int (i := g a b)) e4 fun H' xx ww => ?_⟩
          exact p3 _ ρ3 H' xx ww (rs3.ext xx)
        · exact p3.elim
      · exact p3.elim
    · exact p2.elim
  · exact p2.elim
end
end
end Z
/-! Z8: slices, what is walked, list comprehensions. -/
namespace Z
open PySem PySem.Spec L2

/-! ### slices -/
def cutD (xs : List D) (lo hi : Option Int) : List D := (xs.drop (HT.sIx xs.length 0 lo)).take (HT.sIx xs.length xs.length hi - HT.sIx xs.length 0 lo)
def semSl (hand : Bool) : D → Option Int → Option Int → Store → Out D := fun d lo hi S => match d with
  | .str s => if s.length ≤ 1000000 then .ok (.str (cutS s lo hi)) S else .bad
  | .tup xs => .ok (.tup (cutD xs lo hi)) S
  | d => (match asS S d with
    | some xs => if hand = true then .ok (.ptr S.length) (S ++ [.lst (cutD xs lo hi)]) else .ok (.lst (cutD xs lo hi)) S
    | none => .bad)
abbrev OX := Sl → Store → Out (Option Int)
def oNone : OX := fun _ S => .ok none S
def oInt (f : EX) : OX := fun sl S => (f sl S).bind fun d S1 => match d with
  | .int i => .ok (some i) S1
  | _ => .bad
def eSl (hand : Bool) (fa : EX) (fl fu : OX) : EX := fun sl S => (fa sl S).bind fun d S1 => (fl sl S1).bind fun l S2 => (fu sl S2).bind fun u S3 => semSl hand d l u S3
section
variable {K : PySem.W.Frag} {mg : Str → Option Value} {ρ ρ' : List Addr} {H H' : Hp} {W : Value → Option Addr → Hp → Prop}
def PostO (K : PySem.W.Frag) (mg : Str → Option Value) (W : Value → Option Addr → Hp → Prop) (ρ : List Addr) (H : Hp) (Q : Option Int → Hp → Prop) : Out (Option Int) → Prop
  | .ok b S' => ∀ ρ' H', Ext ρ H ρ' H' → WOk K mg ρ' H' S' → Q b H'
  | .ex e S' => ∀ C dd ρ' H', Ext ρ H ρ' H' → WOk K mg ρ' H' S' → ExRep K mg ρ' H' e C dd → W C dd H'
  | .bad => False
theorem PostO.mono {Q Q' : Option Int → Hp → Prop} {o : Out (Option Int)} (h : PostO K mg W ρ H Q o) (k : ∀ v H', Q v H' → Q' v H') : PostO K mg W ρ H Q' o := by
  cases o with
  | ok d S => exact fun ρ' H' x w => k _ _ (h ρ' H' x w)
  | ex e S => exact h
  | bad => exact h
theorem asS_lst {S : Store} {d : D} {v : V} {ds : List D} (w : WOk K mg ρ H S) (r : Rep K mg ρ H d v) (h : asS S d = some ds) (hn : ∀ ys, d ≠ .tup ys) : ∃ a vs, v = .ref a ∧ SqL K H a vs ∧ RepL K mg ρ H ds vs := by
  cases d with
  | tup xs => exact absurd rfl (hn xs)
  | scr xs =>
    unfold asS at h
    cases h
    rw [Rep] at r
    obtain ⟨a, e, t⟩ := r
    exact ⟨a, _, e, t.sq, repL_ints xs⟩
  | lst xs =>
    obtain ⟨a, vs, e, h1, h2⟩ := asL_rep w r (show asL S (.lst xs) = some ds from h)
    exact ⟨a, vs, e, .inl (.inl h1), h2⟩
  | ptr n =>
    obtain ⟨a, vs, e, h1, h2⟩ := asL_rep w r (show asL S (.ptr n) = some ds from h)
    exact ⟨a, vs, e, .inl (.inl h1), h2⟩
  | _ => unfold asS asL at h; cases h
theorem PostO.bindE {Q : V → Hp → Prop} {o : Out (Option Int)} {k : Option Int → Store → Out D} (h : PostE K mg W ρ H Q (o.bind k)) :
    PostO K mg W ρ H (fun b H1 => ∃ ρ1 S1, Ext ρ H ρ1 H1 ∧ WOk K mg ρ1 H1 S1 ∧ PostE K mg W ρ1 H1 Q (k b S1)) o := by
  cases o with
  | ok d S => exact fun ρ2 H2 y w => ⟨ρ2, S, y, w, PostE.from y h⟩
  | ex e S => exact h
  | bad => exact h
end
section
variable {X : Cx} {W : WX}
/-- a slice's part -/
def EO (X : Cx) (W : WX) (e : Option Expr) (f : OX) : Prop := PO X e fun σ H Q => ∃ ρ S sl, WOk X.K X.mg ρ H S ∧ RSt X.K X.mg ρ H σ sl ∧ PostO X.K X.mg (fun C d H' => W C d σ H') ρ H Q (f sl S)
theorem PO.imp {e : Option Expr} {t t' : TO} (h : PO X e t) (k : ∀ σ H Q, t' σ H Q → t σ H Q) : PO X e t' := ⟨fun pins s σ H Q I q => h.run pins s σ H Q I (k σ H Q q)⟩
theorem o_none : EO X W none oNone := PO.imp po_none fun σ H Q ⟨ρ, S, sl, w, rs, p⟩ => p ρ H Ext.refl w
theorem o_int {e : Expr} {f : EX} (he : E X W e f) : EO X W (some e) (oInt f) := PO.imp (po_some he) fun σ H Q ⟨ρ, S, sl, w, rs, p⟩ => by
  refine ⟨ρ, S, sl, w, rs, ?_⟩
  have p : PostO X.K X.mg (fun C d H' => W C d σ H') ρ H Q ((f sl S).bind fun d S1 => match d with
    | .int i => .ok (some i) S1
    | _ => .bad) := p
  cases q : f sl S with
  | bad => rw [q] at p; exact p
  | ex e S1 => rw [q] at p; exact p
  | ok d S1 =>
    rw [q] at p
    intro v ρ1 H1 x1 w1 r1
    cases d with
    | int i => exact ⟨i, rep_int r1, p ρ1 H1 x1 w1⟩
    | _ => exact p.elim
theorem cutD_rep {K : PySem.W.Frag} {mg : Str → Option Value} {ρ : List Addr} {H : Hp} {xs : List D} {vs : List V} (lo hi : Option Int) (r : RepL K mg ρ H xs vs) : RepL K mg ρ H (cutD xs lo hi) (cutV vs lo hi) := by
  unfold cutD cutV
  rw [r.len]
  exact (r.drop _).take _
theorem cutD_all {xs : List D} {lo hi : Option Int} (h : HT.sIx xs.length 0 lo = 0 ∧ HT.sIx xs.length xs.length hi = xs.length) : cutD xs lo hi = xs := by
  unfold cutD
  rw [h.1, h.2]
  simp
theorem r_sl {hand : Bool} {a : Expr} {lo hi : Option Expr} {fa : EX} {fl fu : OX} {p2 pos : Pos} (ha : E X W a fa) (hl : EO X W lo fl) (hh : EO X W hi fu) : E X W (.Subscript a (.Slice lo hi none p2) pos) (eSl hand fa fl fu) := by
  refine PE.imp (pe_slice ((sl_list (X := X)).or ((sl_tupA (X := X)).or sl_str)) ha hl hh) fun σ H Q ⟨ρ, S, sl, w, rs, p⟩ => ?_
  refine ⟨ρ, S, sl, w, rs, PostE.mono (PostE.bindE p) fun x H1 ⟨ρ1, S1, d, x1, w1, r1, _, p1⟩ => ?_⟩
  refine ⟨ρ1, S1, sl, w1, rs.ext x1, PostO.mono (PostO.bindE p1) fun l H2 ⟨ρ2, S2, x2, w2, p2⟩ => ?_⟩
  refine ⟨ρ2, S2, sl, w2, rs.ext (x1.trans x2), PostO.mono (PostO.bindE p2) fun u H3 ⟨ρ3, S3, x3, w3, p3⟩ => ?_⟩
  have r3 := r1.ext (x2.trans x3)
  have go : ∀ xs, asS S3 d = some xs → (∀ ys, d ≠ .tup ys) → PostE X.K X.mg (fun C d H' => W C d σ H') ρ3 H3 Q (if hand = true then .ok (.ptr S3.length) (S3 ++ [.lst (cutD xs l u)]) else .ok (.lst (cutD xs l u)) S3) → rSlL X.K x l u H3 Q := fun xs ex hn p => by
    obtain ⟨a, vs, e1, h1, r4⟩ := asS_lst w3 r3 ex hn
    refine ⟨a, vs, e1, h1, fun p' hp => ?_⟩
    cases hand with
    | true => rw [if_pos rfl] at p; exact post_lstH p w3 (cutD_rep l u r4) hp
    | false => rw [if_neg Bool.false_ne_true] at p; exact post_lst p w3 (cutD_rep l u r4) hp
  cases d with
  | str s =>
    unfold semSl at p3
    simp only at p3
    split at p3
    · rename_i hl
      exact .inr (.inr ⟨s, rep_str r3, line_of hl, post_ok p3 w3 mk_str⟩)
    · exact p3.elim
  | tup xs =>
    have p3 : PostE X.K X.mg (fun C d H' => W C d σ H') ρ3 H3 Q (.ok (.tup (cutD xs l u)) S3) := p3
    have r3' := r3
    rw [Rep] at r3
    obtain ⟨a, vs, e1, t, r4⟩ := r3
    refine .inr (.inl ⟨a, vs, e1, t.sq, fun h => ?_, fun h p' hp => post_tup p3 w3 (cutD_rep l u r4) hp⟩)
    rw [← r4.len] at h
    rw [cutD_all h] at p3
    rw [← e1]
    exact post_ok p3 w3 r3'
  | lst xs => exact .inl (go xs rfl (by intros; nofun) p3)
  | scr xs => exact .inl (go _ rfl (by intros; nofun) p3)
  | ptr n =>
    have p3 : PostE X.K X.mg (fun C d H' => W C d σ H') ρ3 H3 Q (match asS S3 (.ptr n) with
      | some xs => if hand = true then .ok (.ptr S3.length) (S3 ++ [.lst (cutD xs l u)]) else .ok (.lst (cutD xs l u)) S3
      | none => .bad) := p3
    split at p3
    · rename_i ys ey
      exact .inl (go ys ey (by intros; nofun) p3)
    · exact p3.elim
  | _ => exact p3.elim
end
end Z
/-! Z9: what is walked; list comprehensions. -/
namespace Z
open PySem PySem.Spec L2 Za

section
variable {X : Cx} {W : WX} {tg e : Expr}
theorem pi_or {t1 t2 : TI} (h1 : PI X tg e t1) (h2 : PI X tg e t2) : PI X tg e fun σ H R => t1 σ H R ∨ t2 σ H R := ⟨fun pins s σ H R I h => by
  rcases h with h | h
  · exact h1.run pins s σ H R I h
  · exact h2.run pins s σ H R I h⟩
/-- a dict's keys: the dict is locked for good -/
theorem pi_keysF {td : TE} (he : PE X e td) : PI X tg e fun σ H R => td σ H fun x H1 => ∃ d kvs, x = .ref d ∧ ((H1 d = some (.dK kvs) ∧ ∀ o, R (Itk d o kvs) (upd H1 d (.frz o (.dK kvs)))) ∨ ∃ o, H1 d = some (.frz o (.dK kvs)) ∧ R (Itk d o kvs) H1) := by
  refine ⟨fun pins s σ H R I h => ?_⟩
  refine thn (he.run pins s σ H _ I h) fun u s1 ⟨x, H1, I1, rx, d, kvs, ex, q⟩ => ?_
  subst ex
  obtain rfl : u = Value.ref d := rx
  have go : ∀ (H2 : Hp) (o : Obj), Inv X pins σ H2 s1 → H2 d = some (.frz o (.dK kvs)) → R (Itk d o kvs) H2 → wpAny (model X.prog X.w) X.A (pyIter (.ref d)) (PIE X pins σ tg R) X.xe s1 := fun H2 o I2 hd q => by
    obtain ⟨hs, hgd, hx, es, ep, vs, hdt, hsz, kv, hm⟩ := I2.frzK hd
    refine iter_keys hs hgd hx hdt (pi_one (tk := s1.toks) I2 _ (turn_keys _ hdt) ⟨_, Heap.get?_push_size _ rfl, rfl, ?_⟩ q)
    rw [hsz] <;> rfl
  rcases q with ⟨hd, q⟩ | ⟨o, hd, q⟩
  · obtain ⟨od, I2⟩ := I1.lock hd trivial
    exact go _ od I2 upd_same (q od)
  · exact go _ o I1 hd q
end

/-! ### sources -/
def signsD (s : Str) : List D := s.cps.toList.map fun c => D.str ⟨#[c]⟩
def srcD (S : Store) : D → Option (List D)
  | .str s => some (signsD s)
  | d => asS S d
section
variable {K : PySem.W.Frag} {mg : Str → Option Value} {ρ : List Addr} {H : Hp} {S : Store}
theorem mk_signs : ∀ (l : List Nat), RepL K mg ρ H (l.map fun c => D.str ⟨#[c]⟩) (l.map fun c => V.str ⟨#[c]⟩)
  | [] => RepL.nil
  | c :: l => RepL.cons mk_str (mk_signs l)
theorem src_rep {d : D} {v : V} {xs : List D} (w : WOk K mg ρ H S) (r : Rep K mg ρ H d v) (h : srcD S d = some xs) :
    ∃ c : Src, c.val = v ∧ ∀ ρ' H' S' xs', Ext ρ H ρ' H' → WOk K mg ρ' H' S' → srcD S' d = some xs' → ∃ vs, c.At K H' vs ∧ RepL K mg ρ' H' xs' vs := by
  have lst : (∀ ys, d ≠ .tup ys) → (∀ s, d ≠ .str s) → asS S d = some xs → ∃ c : Src, c.val = v ∧ ∀ ρ' H' S' xs', Ext ρ H ρ' H' → WOk K mg ρ' H' S' → srcD S' d = some xs' → ∃ vs, c.At K H' vs ∧ RepL K mg ρ' H' xs' vs := fun hn hs e => by
    obtain ⟨a, vs, e1, _, _⟩ := asS_lst w r e hn
    refine ⟨.L a, e1.symm, fun ρ' H' S' xs' x w' e' => ?_⟩
    have e'' : asS S' d = some xs' := by
      cases d with
      | str s => exact absurd rfl (hs s)
      | _ => exact e'
    obtain ⟨a', vs', e2, h2, r2⟩ := asS_lst w' (r.ext x) e'' hn
    rw [e1] at e2
    cases e2
    exact ⟨vs', h2, r2⟩
  cases d with
  | str s =>
    refine ⟨.S s, (rep_str r).symm, fun ρ' H' S' xs' x w' e' => ?_⟩
    cases e'
    exact ⟨_, rfl, mk_signs _⟩
  | tup ys =>
    cases h
    have r' := r
    rw [Rep] at r
    obtain ⟨a, vs, e1, t, r1⟩ := r
    refine ⟨.T a, e1.symm, fun ρ' H' S' xs' x w' e' => ?_⟩
    cases e'
    have r2 := r'.ext x
    rw [Rep] at r2
    obtain ⟨a', vs', e2, t', r3⟩ := r2
    rw [e1] at e2
    cases e2
    exact ⟨vs', t'.sq, r3⟩
  | lst ys => exact lst (by intros; nofun) (by intros; nofun) h
  | scr ys => exact lst (by intros; nofun) (by intros; nofun) h
  | ptr n => exact lst (by intros; nofun) (by intros; nofun) h
  | _ => cases h
/-- walking a source's items as they are -/
theorem walk_src {c : Src} {d : D} {xs : List D} (hq : ∀ ρ' H' S', Ext ρ H ρ' H' → WOk K mg ρ' H' S' → srcD S' d = some xs → ∃ vs, c.At K H' vs ∧ RepL K mg ρ' H' xs vs) {J : It}
    (hJ : J = match c with
      | .L a => Itl K a
      | .T a => Itt K a
      | .S x => Its x) : IWalk K mg J xs (fun S' => srcD S' d = some xs) ρ H := by
  subst hJ
  cases c with
  | L a =>
    refine ⟨fun i ρ' H' S' hi x w g => ?_, fun ρ' H' S' x w g => ?_, fun i ρ' H' S' v H2 hi x w g y => ?_⟩
    · obtain ⟨vs, h1, r1⟩ := hq ρ' H' S' x w g
      exact ⟨vs, vs[i]'(by rw [← r1.len]; exact hi), h1, by simp⟩
    · obtain ⟨vs, h1, r1⟩ := hq ρ' H' S' x w g
      exact ⟨vs, h1, by rw [r1.len]; exact Nat.le_refl _⟩
    · obtain ⟨vs, h1, r1⟩ := hq ρ' H' S' x w g
      obtain ⟨rfl, y⟩ := y
      obtain ⟨d', e, r⟩ := r1.get' (y vs h1)
      exact ⟨d', e, Ext.refl, w, r⟩
  | T a =>
    refine ⟨fun i ρ' H' S' hi x w g => ?_, fun ρ' H' S' x w g => ?_, fun i ρ' H' S' v H2 hi x w g y => ?_⟩
    · obtain ⟨vs, h1, r1⟩ := hq ρ' H' S' x w g
      exact ⟨vs, vs[i]'(by rw [← r1.len]; exact hi), h1, by simp⟩
    · obtain ⟨vs, h1, r1⟩ := hq ρ' H' S' x w g
      exact ⟨vs, h1, by rw [r1.len]; exact Nat.le_refl _⟩
    · obtain ⟨vs, h1, r1⟩ := hq ρ' H' S' x w g
      obtain ⟨rfl, y⟩ := y
      obtain ⟨d', e, r⟩ := r1.get' (y vs h1)
      exact ⟨d', e, Ext.refl, w, r⟩
  | S s =>
    refine ⟨fun i ρ' H' S' hi x w g => ?_, fun ρ' H' S' x w g => ?_, fun i ρ' H' S' v H2 hi x w g y => ?_⟩
    · obtain ⟨vs, h1, r1⟩ := hq ρ' H' S' x w g
      have h1 : vs = s.cps.toList.map fun c => V.str ⟨#[c]⟩ := h1
      have := r1.len
      rw [h1, List.length_map] at this
      show i < s.cps.size
      rw [this] at hi
      simpa using hi
    · obtain ⟨vs, h1, r1⟩ := hq ρ' H' S' x w g
      have h1 : vs = s.cps.toList.map fun c => V.str ⟨#[c]⟩ := h1
      have := r1.len
      rw [h1, List.length_map] at this
      show s.cps.size ≤ xs.length
      rw [this]
      simp
    · obtain ⟨vs, h1, r1⟩ := hq ρ' H' S' x w g
      have h1 : vs = s.cps.toList.map fun c => V.str ⟨#[c]⟩ := h1
      obtain ⟨rfl, c, ec, ev⟩ := y
      obtain ⟨d', e, r⟩ := r1.get' (i := i) (v := v) (by rw [h1, ev]; simp [ec])
      exact ⟨d', e, Ext.refl, w, r⟩
end
section
variable {X : Cx} {W : WX} {tg e e2 : Expr} {f : EX} {fa : AX} {p pos tpos : Pos} {elts : List Expr} {kk : Nat}
def itK : D → Store → Out (List D × (Store → Prop)) := fun d S1 => match d with
  | .dct ks vs => .ok (ks, fun _ => True) S1
  | d => (match srcD S1 d with
    | some xs => .ok (xs, fun S2 => srcD S2 d = some xs) S1
    | none => .bad)
def itAny (f : EX) : IX := fun sl S => (f sl S).bind itK
theorem post_i {K : PySem.W.Frag} {mg : Str → Option Value} {ρ : List Addr} {H : Hp} {S : Store} {Wp : Value → Option Addr → Hp → Prop} {R : It → Hp → Prop} {xs : List D} {G : Store → Prop} {J : It} (h : PostI K mg Wp ρ H R (.ok (xs, G) S)) (w : WOk K mg ρ H S) (i : IWalk K mg J xs G ρ H) : R J H := h ρ H J Ext.refl w i
theorem PostI.from {K : PySem.W.Frag} {mg : Str → Option Value} {ρ ρ' : List Addr} {H H' : Hp} {Wp : Value → Option Addr → Hp → Prop} {R : It → Hp → Prop} {o : Out (List D × (Store → Prop))} (x : Ext ρ H ρ' H') (h : PostI K mg Wp ρ H R o) : PostI K mg Wp ρ' H' R o := by
  cases o with
  | ok p S => exact fun ρ2 H2 J y w i => h ρ2 H2 J (x.trans y) w i
  | ex e S => exact fun C dd ρ2 H2 y w r => h C dd ρ2 H2 (x.trans y) w r
  | bad => exact h
theorem PostI.bindE {K : PySem.W.Frag} {mg : Str → Option Value} {ρ : List Addr} {H : Hp} {Wp : Value → Option Addr → Hp → Prop} {R : It → Hp → Prop} {o : Out D} {k : D → Store → Out (List D × (Store → Prop))} (h : PostI K mg Wp ρ H R (o.bind k)) :
    PostE K mg Wp ρ H (fun v H1 => ∃ ρ1 S1 d, Ext ρ H ρ1 H1 ∧ WOk K mg ρ1 H1 S1 ∧ Rep K mg ρ1 H1 d v ∧ o = .ok d S1 ∧ PostI K mg Wp ρ1 H1 R (k d S1)) o := by
  cases o with
  | ok d S => exact fun v ρ2 H2 y w r => ⟨ρ2, S, d, y, w, r, rfl, PostI.from y h⟩
  | ex e S => exact h
  | bad => exact h
theorem PostI.bindA {K : PySem.W.Frag} {mg : Str → Option Value} {ρ : List Addr} {H : Hp} {Wp : Value → Option Addr → Hp → Prop} {R : It → Hp → Prop} {o : Out (List D)} {k : List D → Store → Out (List D × (Store → Prop))} (h : PostI K mg Wp ρ H R (o.bind k)) :
    PostA K mg Wp ρ H (fun v H1 => ∃ ρ1 S1 d, Ext ρ H ρ1 H1 ∧ WOk K mg ρ1 H1 S1 ∧ RepL K mg ρ1 H1 d v ∧ PostI K mg Wp ρ1 H1 R (k d S1)) o := by
  cases o with
  | ok d S => exact fun v ρ2 H2 y w r => ⟨ρ2, S, d, y, w, r, PostI.from y h⟩
  | ex e S => exact h
  | bad => exact h
/-- a dict walked -/
theorem Ext.lock {ρ : List Addr} {H : Hp} {d : Addr} {o : Obj} {kvs : List (Key × V)} (n : d ∉ ρ) (h : H d = some (.dK kvs)) : Ext ρ H ρ (upd H d (.frz o (.dK kvs))) := by
  refine ⟨⟨[], by simp⟩, fun a h n => absurd h n, fun a u n' h' => ?_⟩
  by_cases q : a = d
  · subst q
    rw [h] at h'
    cases h'
    exact .inr ⟨⟨kvs, rfl⟩, o, upd_same⟩
  · exact .inl (by rw [upd_ne q]; exact h')
theorem WOk.lock {K : PySem.W.Frag} {mg : Str → Option Value} {ρ : List Addr} {H : Hp} {S : Store} {d : Addr} {o : Obj} {kvs : List (Key × V)} (w : WOk K mg ρ H S) (n : d ∉ ρ) (h : H d = some (.dK kvs)) : WOk K mg ρ (upd H d (.frz o (.dK kvs))) S := by
  have ne : ∀ a ∈ ρ, a ≠ d := fun a ha q => n (q ▸ ha)
  refine ⟨w.len, w.nd, fun a ha => by rw [upd_ne (ne a ha)]; exact w.tr a ha, fun n' a m e1 e2 => ?_⟩
  have ha : a ∈ ρ := List.mem_of_getElem? e1
  exact MRep.ext (Ext.lock n h) (upd_ne (ne a ha)) (w.ob n' a m e1 e2)
theorem walk_keys {K : PySem.W.Frag} {mg : Str → Option Value} {ρ : List Addr} {H : Hp} {d : Addr} {o : Obj} {kvs : List (Key × V)} (n : d ∉ ρ) (h : H d = some (.frz o (.dK kvs))) : IWalk K mg (Itk d o kvs) (kvs.map fun p => kD p.1) (fun _ => True) ρ H := by
  have st : ∀ ρ' H', Ext ρ H ρ' H' → H' d = some (.frz o (.dK kvs)) := fun ρ' H' x => x.kept n h (by intros; nofun)
  refine ⟨fun i ρ' H' S' hi x w g => ⟨st ρ' H' x, by simpa using hi⟩, fun ρ' H' S' x w g => ⟨st ρ' H' x, by simp⟩, fun i ρ' H' S' v H2 hi x w g y => ?_⟩
  obtain ⟨rfl, k, u, e, ev⟩ := y
  refine ⟨kD k, by rw [List.getElem?_map, e]; rfl, Ext.refl, w, ?_⟩
  rw [ev]
  exact mk_kV k
theorem i_any (he : E X W e f) : EI X W tg e (itAny f) := by
  refine PI.imp (pi_or (pi_or (pi_list (tg := tg) he) (pi_tup he)) (pi_or (pi_str he) (pi_keysF he))) fun σ H R ⟨ρ, S, sl, w, rs, p⟩ => ?_
  have p' := PostI.bindE p
  cases q : f sl S with
  | bad => rw [q] at p'; exact p'.elim
  | ex e S1 => exact .inl (.inl ⟨ρ, S, sl, w, rs, by rw [q] at p' ⊢; exact p'⟩)
  | ok d S1 =>
    have key : ∀ (g : V → Hp → Prop), (∀ v ρ1 H1, WOk X.K X.mg ρ1 H1 S1 → Rep X.K X.mg ρ1 H1 d v → PostI X.K X.mg (fun C d H' => W C d σ H') ρ1 H1 R (itK d S1) → g v H1) → trE X.K X.mg W f σ H g := fun g hg => ⟨ρ, S, sl, w, rs, PostE.mono p' fun v H1 ⟨ρ1, S1', d', x1, w1, r1, eq, p1⟩ => by
        rw [q] at eq
        cases eq
        exact hg v ρ1 H1 w1 r1 p1⟩
    have none_ : srcD S1 d = none → (∀ ks vs, d ≠ .dct ks vs) → ∀ (v : V) ρ1 H1, PostI X.K X.mg (fun C d H' => W C d σ H') ρ1 H1 R (itK d S1) → False := fun ex hn v ρ1 H1 p1 => by
      cases d with
      | dct ks vs => exact absurd rfl (hn ks vs)
      | _ => simp only [itK, ex] at p1; exact p1
    have lst : (∀ ks vs, d ≠ .dct ks vs) → (∀ ys, d ≠ .tup ys) → (∀ s, d ≠ .str s) → iList X.K (trE X.K X.mg W f) σ H R := fun h1 h2 h3 => by
      refine key _ fun v ρ1 H1 w1 r1 p1 => ?_
      cases ex : srcD S1 d with
      | none => exact (none_ ex h1 v ρ1 H1 p1).elim
      | some xs =>
        have ex' : asS S1 d = some xs := by
          cases d with
          | str s => exact absurd rfl (h3 s)
          | _ => exact ex
        obtain ⟨a, vs, e1, g1, _⟩ := asS_lst w1 r1 ex' h2
        have p2 : PostI X.K X.mg (fun C d H' => W C d σ H') ρ1 H1 R (.ok (xs, fun S2 => srcD S2 d = some xs) S1) := by
          cases d with
          | dct ks vs => exact absurd rfl (h1 ks vs)
          | _ => simp only [itK, ex] at p1; exact p1
        refine ⟨a, e1, ⟨vs, g1⟩, post_i p2 w1 (walk_src (c := .L a) (fun ρ' H' S' x' w' g' => ?_) rfl)⟩
        have g'' : asS S' d = some xs := by
          cases d with
          | str s => exact absurd rfl (h3 s)
          | _ => exact g'
        obtain ⟨a', vs', e2, q2, r2⟩ := asS_lst w' (r1.ext x') g'' h2
        rw [e1] at e2
        cases e2
        exact ⟨vs', q2, r2⟩
    cases d with
    | dct ks vs =>
      refine .inr (.inr (key _ fun v ρ1 H1 w1 r1 p1 => ?_))
      have r1' := r1
      rw [Rep] at r1
      obtain ⟨a, kv, vs', e1, ⟨n, kvs, t, z1, z2⟩, r2, r3⟩ := r1
      subst z1 z2
      have ek := repK r2
      refine ⟨a, kvs, e1, ?_⟩
      have p1 : PostI X.K X.mg (fun C d H' => W C d σ H') ρ1 H1 R (.ok (ks, fun _ => True) S1) := p1
      rcases t with t | ⟨o, t⟩
      · refine .inl ⟨t, fun o => ?_⟩
        refine PostI.from (Ext.lock n t) p1 ρ1 _ _ Ext.refl (w1.lock n t) ?_
        rw [ek]
        exact walk_keys n upd_same
      · refine .inr ⟨o, t, post_i p1 w1 ?_⟩
        rw [ek]
        exact walk_keys n t
    | str s =>
      refine .inr (.inl (key _ fun v ρ1 H1 w1 r1 p1 => ?_))
      refine ⟨s, rep_str r1, ?_⟩
      exact post_i (show PostI X.K X.mg (fun C d H' => W C d σ H') ρ1 H1 R (.ok (signsD s, fun S2 => srcD S2 (.str s) = some (signsD s)) S1) from p1) w1 (walk_src (c := .S s) (fun ρ' H' S' x' w' g' => ⟨_, rfl, mk_signs _⟩) rfl)
    | tup ys =>
      refine .inl (.inr (key _ fun v ρ1 H1 w1 r1 p1 => ?_))
      have r1' := r1
      rw [Rep] at r1
      obtain ⟨a, vs, e1, t, r2⟩ := r1
      refine ⟨a, e1, ⟨vs, t.sq⟩, ?_⟩
      refine post_i (show PostI X.K X.mg (fun C d H' => W C d σ H') ρ1 H1 R (.ok (ys, fun S2 => srcD S2 (.tup ys) = some ys) S1) from p1) w1 (walk_src (c := .T a) (fun ρ' H' S' x' w' g' => ?_) rfl)
      have r3 := r1'.ext x'
      rw [Rep] at r3
      obtain ⟨a', vs', e2, t', r4⟩ := r3
      rw [e1] at e2
      cases e2
      exact ⟨vs', t'.sq, r4⟩
    | _ => exact .inl (.inl (lst (by intros; nofun) (by intros; nofun) (by intros; nofun)))
/-! range -/
def rangeD (lo : Int) (n : Nat) : List D := (List.range n).map fun (i : Nat) => D.int (lo + i)
def itRange1 (fa : AX) : IX := fun sl S => (fa sl S).bind fun ds S1 => match ds with
  | [.int j] => if -(2 ^ 62) ≤ j ∧ j < 2 ^ 62 then .ok (rangeD 0 j.toNat, fun _ => True) S1 else .bad
  | _ => .bad
def itRange2 (fa : AX) : IX := fun sl S => (fa sl S).bind fun ds S1 => match ds with
  | [.int i, .int j] => if -(2 ^ 62) ≤ i ∧ i < 2 ^ 62 ∧ -(2 ^ 62) ≤ j ∧ j < 2 ^ 62 then .ok (rangeD i (j - i).toNat, fun _ => True) S1 else .bad
  | _ => .bad
theorem walk_range {K : PySem.W.Frag} {mg : Str → Option Value} {ρ : List Addr} {H : Hp} (lo : Int) (n : Nat) : IWalk K mg (Itr lo n) (rangeD lo n) (fun _ => True) ρ H := by
  refine ⟨fun i ρ' H' S' hi x w g => by show i < n; simpa [rangeD] using hi, fun ρ' H' S' x w g => by show n ≤ _; simp [rangeD], fun i ρ' H' S' v H2 hi x w g y => ?_⟩
  obtain ⟨rfl, ev⟩ := y
  have hi : i < n := by simpa [rangeD] using hi
  exact ⟨.int (lo + i), by simp [rangeD, hi], Ext.refl, w, by rw [ev]; exact mk_int⟩
theorem i_range1 (ha : EA X W [e] fa) (hg : Gl X "range") (hm : X.mg "range" = none) (hs : starEach [e] X.env = [(false, eval e X.env)] := by rfl) : EI X W tg (.Call (.Name "range" p) [e] [] pos) (itRange1 fa) := by
  refine PI.imp (pi_range1 hg hm ha hs) fun σ H R ⟨ρ, S, sl, w, rs, p⟩ => ⟨ρ, S, sl, w, rs, PostA.mono (PostI.bindA p) fun vs H1 ⟨ρ1, S1, ds, x1, w1, r1, p1⟩ => ?_⟩
  split at p1
  · rename_i j
    split at p1
    · rename_i hj
      obtain ⟨v, e1, r2⟩ := repL_one r1
      rw [rep_int r2] at e1
      exact ⟨j, e1, hj.1, hj.2, post_i p1 w1 (walk_range 0 _)⟩
    · exact p1.elim
  · exact p1.elim
theorem i_range2 (ha : EA X W [e, e2] fa) (hg : Gl X "range") (hm : X.mg "range" = none) (hs : starEach [e, e2] X.env = [(false, eval e X.env), (false, eval e2 X.env)] := by rfl) (hs2 : starEach [e2] X.env = [(false, eval e2 X.env)] := by rfl) : EI X W tg (.Call (.Name "range" p) [e, e2] [] pos) (itRange2 fa) := by
  refine PI.imp (pi_range2 hg hm ha hs hs2) fun σ H R ⟨ρ, S, sl, w, rs, p⟩ => ⟨ρ, S, sl, w, rs, PostA.mono (PostI.bindA p) fun vs H1 ⟨ρ1, S1, ds, x1, w1, r1, p1⟩ => ?_⟩
  split at p1
  · rename_i i j
    split at p1
    · rename_i hj
      obtain ⟨v, u, e1, r2, r3⟩ := repL_two r1
      rw [rep_int r2, rep_int r3] at e1
      exact ⟨i, j, e1, hj, post_i p1 w1 (walk_range i _)⟩
    · exact p1.elim
  · exact p1.elim
/-! zip, enumerate -/
def zipD (xs ys : List D) : List D := List.zipWith (fun x y => .tup [x, y]) xs ys
def itZip (fa : AX) : IX := fun sl S => (fa sl S).bind fun ds S1 => match ds with
  | [d, e] => (match srcD S1 d, srcD S1 e with
    | some xs, some ys => .ok (zipD xs ys, fun S2 => srcD S2 d = some xs ∧ srcD S2 e = some ys) S1
    | _, _ => .bad)
  | _ => .bad
theorem i_zip (ha : EA X W [e, e2] fa) (hg : Gl X "zip") (hm : X.mg "zip" = none)
    (hs : starEach [e, e2] X.env = (false, eval e X.env) :: starEach [e2] X.env := by rfl) (hpl : (backTo pos (starEach [e2] X.env)).any (·.1) = false := by rfl) : EI X W (.Tuple elts kk tpos) (.Call (.Name "zip" p) [e, e2] [] pos) (itZip fa) := by
  refine PI.imp (pi_zipU hg hm ha hs hpl) fun σ H R ⟨ρ, S, sl, w, rs, p⟩ => ⟨ρ, S, sl, w, rs, PostA.mono (PostI.bindA p) fun vs H1 ⟨ρ1, S1, ds, x1, w1, r1, p1⟩ => ?_⟩
  split at p1
  · rename_i d d'
    split at p1
    · rename_i xs ys ex ey
      obtain ⟨v, u, e1, r2, r3⟩ := repL_two r1
      obtain ⟨c, ec, hc⟩ := src_rep w1 r2 ex
      obtain ⟨c', ec', hc'⟩ := src_rep w1 r3 ey
      obtain ⟨us, h1, _⟩ := hc ρ1 H1 S1 xs Ext.refl w1 ex
      obtain ⟨us', h1', _⟩ := hc' ρ1 H1 S1 ys Ext.refl w1 ey
      refine ⟨c, c', us, us', by rw [e1, ec, ec'], h1, h1', post_i p1 w1 ?_⟩
      refine ⟨fun i ρ' H' S' hi x w g => ?_, fun ρ' H' S' x w g => ?_, fun i ρ' H' S' v H2 hi x w g y => ?_⟩
      · obtain ⟨vs, q1, t1⟩ := hc ρ' H' S' xs x w g.1
        obtain ⟨vs', q2, t2⟩ := hc' ρ' H' S' ys x w g.2
        simp only [zipD, List.length_zipWith] at hi
        have l1 := t1.len
        have l2 := t2.len
        exact ⟨vs, vs', vs[i]'(by omega), vs'[i]'(by omega), q1, q2, by simp, by simp⟩
      · obtain ⟨vs, q1, t1⟩ := hc ρ' H' S' xs x w g.1
        obtain ⟨vs', q2, t2⟩ := hc' ρ' H' S' ys x w g.2
        have l1 := t1.len
        have l2 := t2.len
        refine ⟨vs, vs', q1, q2, ?_⟩
        simp only [zipD, List.length_zipWith]
        omega
      · obtain ⟨vs, q1, t1⟩ := hc ρ' H' S' xs x w g.1
        obtain ⟨vs', q2, t2⟩ := hc' ρ' H' S' ys x w g.2
        obtain ⟨T, a, b, ev, hT, rfl, y1, y2⟩ := y
        obtain ⟨d1, g1, k1⟩ := t1.get' (y1 vs q1)
        obtain ⟨d2, g2, k2⟩ := t2.get' (y2 vs' q2)
        refine ⟨.tup [d1, d2], by simp [zipD, List.getElem?_zipWith, g1, g2], Ext.new' hT, w.new' hT, ?_⟩
        rw [Rep]
        exact ⟨T, _, ev, .inl ⟨w.nin hT, upd_same⟩, RepL.cons (k1.ext (Ext.new' hT)) (RepL.cons (k2.ext (Ext.new' hT)) RepL.nil)⟩
    · exact p1.elim
  · exact p1.elim
def enumD : Nat → List D → List D
  | _, [] => []
  | i, x :: xs => .tup [.int i, x] :: enumD (i + 1) xs
theorem enumD_len : ∀ (i : Nat) (xs : List D), (enumD i xs).length = xs.length
  | _, [] => rfl
  | i, x :: xs => by rw [enumD, List.length_cons, List.length_cons, enumD_len]
theorem enumD_get : ∀ (i : Nat) (xs : List D) (j : Nat), (enumD i xs)[j]? = xs[j]?.map fun x => .tup [.int ((i + j : Nat) : Int), x]
  | _, [], j => by simp [enumD]
  | i, x :: xs, 0 => by simp [enumD]
  | i, x :: xs, j + 1 => by
    rw [enumD, List.getElem?_cons_succ, List.getElem?_cons_succ, enumD_get]
    congr 2
    funext x
    congr 3
    omega
def itEnum (fa : AX) : IX := fun sl S => (fa sl S).bind fun ds S1 => match ds with
  | [d] => (match srcD S1 d with
    | some xs => .ok (enumD 0 xs, fun S2 => srcD S2 d = some xs) S1
    | _ => .bad)
  | _ => .bad
theorem i_enum (ha : EA X W [e] fa) (hg : Gl X "enumerate") (hm : X.mg "enumerate" = none) (hs : starEach [e] X.env = [(false, eval e X.env)] := by rfl) : EI X W (.Tuple elts kk tpos) (.Call (.Name "enumerate" p) [e] [] pos) (itEnum fa) := by
  refine PI.imp (pi_enumU hg hm ha hs) fun σ H R ⟨ρ, S, sl, w, rs, p⟩ => ⟨ρ, S, sl, w, rs, PostA.mono (PostI.bindA p) fun vs H1 ⟨ρ1, S1, ds, x1, w1, r1, p1⟩ => ?_⟩
  split at p1
  · rename_i d
    split at p1
    · rename_i xs ex
      obtain ⟨v, e1, r2⟩ := repL_one r1
      obtain ⟨c, ec, hc⟩ := src_rep w1 r2 ex
      obtain ⟨us, h1, _⟩ := hc ρ1 H1 S1 xs Ext.refl w1 ex
      refine ⟨c, us, by rw [e1, ec], h1, post_i p1 w1 ?_⟩
      refine ⟨fun i ρ' H' S' hi x w g => ?_, fun ρ' H' S' x w g => ?_, fun i ρ' H' S' v H2 hi x w g y => ?_⟩
      · obtain ⟨vs, q1, t1⟩ := hc ρ' H' S' xs x w g
        rw [enumD_len] at hi
        exact ⟨vs, vs[i]'(by rw [← t1.len]; exact hi), q1, by simp⟩
      · obtain ⟨vs, q1, t1⟩ := hc ρ' H' S' xs x w g
        exact ⟨vs, q1, by rw [enumD_len, t1.len]⟩
      · obtain ⟨vs, q1, t1⟩ := hc ρ' H' S' xs x w g
        obtain ⟨T, a, ev, hT, rfl, y1⟩ := y
        obtain ⟨d1, g1, k1⟩ := t1.get' (y1 vs q1)
        refine ⟨.tup [.int ((0 + i : Nat) : Int), d1], by rw [enumD_get, g1]; rfl, Ext.new' hT, w.new' hT, ?_⟩
        rw [Rep]
        exact ⟨T, _, ev, .inl ⟨w.nin hT, upd_same⟩, RepL.cons (by rw [Nat.zero_add]; exact mk_int) (RepL.cons (k1.ext (Ext.new' hT)) RepL.nil)⟩
    · exact p1.elim
  · exact p1.elim
end
end Z
/-! ZA: list comprehensions. -/
namespace Z
open PySem PySem.Spec L2

/-- the block's own slots forgotten -/
def wipeS (sl : Sl) : List Nat → Sl
  | [] => sl
  | v :: vs => (wipeS sl vs).set v none
theorem wipeS_len (sl : Sl) : ∀ vs, (wipeS sl vs).length = sl.length
  | [] => rfl
  | v :: vs => by rw [wipeS, List.length_set, wipeS_len]
theorem wipe_set {σ : L2.St} {i : Nat} {x : Option V} : ∀ {vs : List Nat}, i ∈ vs → wipe (σ.set i x) vs = wipe σ vs
  | v :: vs, h => by
    rw [wipe, wipe]
    by_cases hi : i = v
    · subst hi
      by_cases hv : i ∈ vs
      · rw [wipe_set hv]
      · have : ∀ ws : List Nat, i ∉ ws → wipe (σ.set i x) ws = (wipe σ ws).set i x := by
          intro ws
          induction ws with
          | nil => intro _; rfl
          | cons w ws ih =>
            intro hn
            rw [wipe, wipe, ih (fun q => hn (List.mem_cons_of_mem _ q))]
            exact List.set_comm _ _ (fun q => hn (by rw [q]; exact List.mem_cons_self))
        rw [this vs hv, List.set_set]
    · rw [wipe_set (by rcases List.mem_cons.mp h with q | q; exact absurd q hi; exact q)]
theorem wipe_wipe {σ : L2.St} : ∀ {vs us : List Nat}, (∀ v ∈ us, v ∈ vs) → wipe (wipe σ us) vs = wipe σ vs
  | vs, [], _ => rfl
  | vs, u :: us, h => by
    rw [show wipe σ (u :: us) = (wipe σ us).set u none from rfl, wipe_set (h u List.mem_cons_self)]
    exact wipe_wipe fun v hv => h v (List.mem_cons_of_mem _ hv)
theorem RSt.wipe {K : PySem.W.Frag} {mg : Str → Option Value} {ρ : List Addr} {H : Hp} {σ : L2.St} {sl : Sl} (r : RSt K mg ρ H σ sl) : ∀ vs : List Nat, RSt K mg ρ H (L2.wipe σ vs) (wipeS sl vs)
  | [] => r
  | v :: vs => by
    have ih := RSt.wipe r vs
    refine ⟨by rw [wipe_length, wipeS_len]; exact r.len, fun j d e => ?_⟩
    rw [wipeS] at e
    rw [L2.wipe]
    by_cases hj : v = j
    · subst hj
      by_cases hl : v < (wipeS sl vs).length
      · rw [List.getElem?_set_self hl] at e; cases e
      · rw [List.getElem?_eq_none (by simpa using hl)] at e; cases e
    · rw [List.getElem?_set_ne hj] at e ⊢
      exact ih.at_ j d e

/-! ### targets within the block -/
def trGw (K : PySem.W.Frag) (mg : Str → Option Value) (W : WX) (vs : List Nat) (ω : L2.St) (g : GX) : TG := fun v σ H Q => ∃ ρ S sl d, WOk K mg ρ H S ∧ RSt K mg ρ H σ sl ∧ Rep K mg ρ H d v ∧ L2.wipe σ vs = ω ∧ PostS K mg W ρ H ⟨fun σ' H' => L2.wipe σ' vs = ω → Q σ' H', fun _ _ => False, fun _ _ => False, fun _ _ => False⟩ (g d sl S)
def trGsw (K : PySem.W.Frag) (mg : Str → Option Value) (W : WX) (vs : List Nat) (ω : L2.St) (g : GXs) : TGs := fun v σ H Q => ∃ ρ S sl d, WOk K mg ρ H S ∧ RSt K mg ρ H σ sl ∧ RepL K mg ρ H d v ∧ L2.wipe σ vs = ω ∧ PostS K mg W ρ H ⟨fun σ' H' => L2.wipe σ' vs = ω → Q σ' H', fun _ _ => False, fun _ _ => False, fun _ _ => False⟩ (g d sl S)
def EGw (X : Cx) (W : WX) (vs : List Nat) (tg : Expr) (g : GX) : Prop := ∀ ω, PG X tg (trGw X.K X.mg W vs ω g)
def EGsw (X : Cx) (W : WX) (vs : List Nat) (tg : List Expr) (g : GXs) : Prop := ∀ ω, PGs X tg (trGsw X.K X.mg W vs ω g)
section
variable {X : Cx} {W : WX} {vs : List Nat} {pos : Pos}
theorem gw_name {i : Nat} {x : Str} (hN : X.N.Nodup) (hi : X.N[i]? = some x := by rfl) (hx : Loc X.env.scope x := by first | exact Or.inl rfl | exact Or.inr rfl) (hf : X.fn x = true ∨ X.env.scope.names.lookup x = some .local := by first | exact .inl rfl | exact .inr rfl) (hv : i ∈ vs := by decide) : EGw X W vs (.Name x pos) (gSet i) := fun ω =>
  PG.imp (pg_name hN hi hx hf) fun v σ H Q ⟨ρ, S, sl, d, w, rs, rv, ew, p⟩ => p _ ρ H Ext.refl w (rs.set rv i) (by rw [wipe_set hv]; exact ew)
theorem gsw_nil : EGsw X W vs [] gNilX := fun ω => PGs.imp pgs_nil fun v σ H Q ⟨ρ, S, sl, ds, w, rs, rv, ew, p⟩ => by
  cases ds with
  | nil =>
    rw [RepL] at rv
    exact ⟨rv, p _ ρ H Ext.refl w rs ew⟩
  | cons d r => exact p.elim
theorem gsw_cons {t : Expr} {ts : List Expr} {g : GX} {gs : GXs} (h : EGw X W vs t g) (hr : EGsw X W vs ts gs) (hs : (assignEach (t :: ts) X.env).map (·.2) = assign t X.env :: (assignEach ts X.env).map (·.2) := by rfl) : EGsw X W vs (t :: ts) (gConsX g gs) := fun ω =>
  PGs.imp (pgs_cons (h ω) (hr ω) hs) fun v σ H Q ⟨ρ, S, sl, ds, w, rs, rv, ew, p⟩ => by
    cases ds with
    | nil => exact p.elim
    | cons d r =>
      rw [RepL] at rv
      obtain ⟨v1, vr, e, h1, h2⟩ := rv
      subst e
      refine ⟨v1, vr, rfl, ρ, S, sl, d, w, rs, h1, ew, ?_⟩
      have p : PostS X.K X.mg W ρ H ⟨fun σ' H' => L2.wipe σ' vs = ω → Q σ' H', fun _ _ => False, fun _ _ => False, fun _ _ => False⟩ ((g d sl S).then (gs r)) := p
      cases q : g d sl S with
      | nx sl1 S1 =>
        rw [q] at p
        exact fun σ1 ρ1 H1 x1 w1 r1 e1 => ⟨ρ1, S1, sl1, r, w1, r1, h2.ext x1, e1, PostS.from x1 p⟩
      | bk sl1 S1 => rw [q] at p; exact p
      | ct sl1 S1 => rw [q] at p; exact p
      | rt d1 S1 => rw [q] at p; exact p
      | ex e1 sl1 S1 => rw [q] at p; exact p
      | bad => rw [q] at p; exact p
theorem gw_tup {es : List Expr} {k : Nat} {gs : GXs} {n : Nat} (hc : X.calm = true) (h : EGsw X W vs es gs) (hl : ∀ ds sl S, gs ds sl S ≠ .bad → ds.length = n) (hn : (assignEach es X.env).length = n := by rfl) (hst : (assignEach es X.env).findIdx? (·.1) = none := by rfl) : EGw X W vs (.Tuple es k pos) (gTupX gs) := fun ω =>
  PG.imp (pg_tup hc (h ω) hn hst) fun v σ H Q ⟨ρ, S, sl, d, w, rs, rv, ew, p⟩ => by
    cases d with
    | tup ds =>
      rw [Rep] at rv
      obtain ⟨a, us, e, t, r⟩ := rv
      have p : PostS X.K X.mg W ρ H ⟨fun σ' H' => L2.wipe σ' vs = ω → Q σ' H', fun _ _ => False, fun _ _ => False, fun _ _ => False⟩ (gs ds sl S) := p
      exact ⟨a, us, e, t.sq, by rw [← r.len]; exact hl ds sl S (fun q => by rw [q] at p; exact p), ρ, S, sl, ds, w, rs, r, ew, p⟩
    | _ => exact p.elim
/-! ### the tests -/
def bTrue : BX := fun _ S => .ok true S
def ETs (X : Cx) (W : WX) (ifs : List Expr) (f : BX) : Prop := PTs X ifs (trB X.K X.mg W f)
theorem PTs.imp {ifs : List Expr} {t t' : TT} (h : PTs X ifs t) (k : ∀ σ H Q, t' σ H Q → t σ H Q) : PTs X ifs t' := ⟨fun pins s σ H Q I q => h.run pins s σ H Q I (k σ H Q q)⟩
theorem ts_nil : ETs X W [] bTrue := PTs.imp pts_nil fun σ H Q ⟨ρ, S, sl, w, rs, p⟩ => p ρ H Ext.refl w
theorem ts_one {c : Expr} {f : BX} (h : EB X W c f) : ETs X W [c] f := pts_one h
end

/-! ### the loop -/
def WF : WX := fun _ _ _ _ => False
noncomputable def lcL (G : Store → Prop) (g : GX) (bt : BX) (fe : EX) (n : Nat) (sl : Sl) : List D → Store → Out Unit
  | [], S => open Classical in if G S then .ok () S else .bad
  | x :: xs, S => open Classical in if G S then (match g x sl S with
    | .nx sl1 S1 => (match bt sl1 S1 with
      | .ok true S2 => (match fe sl1 S2 with
        | .ok d S3 => (match S3[n]? with
          | some (.lst acc) => if acc.length < 1000000 then lcL G g bt fe n sl xs (S3.set n (.lst (acc ++ [d]))) else .bad
          | _ => .bad)
        | _ => .bad)
      | .ok false S2 => lcL G g bt fe n sl xs S2
      | _ => .bad)
    | _ => .bad) else .bad
/-- [fe for g in it if bt]: a new list by a handle -/
noncomputable def eLc (it : IX) (g : GX) (bt : BX) (fe : EX) (own : List Nat) : EX := fun sl S => (it sl S).bind fun p S1 => (lcL p.2 g bt fe S1.length (wipeS sl own) p.1 (S1 ++ [.lst []])).bind fun _ S2 => .ok (.ptr S1.length) S2
section
variable {X : Cx} {W : WX} {pos : Pos}
theorem lc_imp {it : IX} {g : GX} {bt : BX} {fe : EX} {own : List Nat} {K : PySem.W.Frag} {mg : Str → Option Value} {σ : L2.St} {H : Hp} {Q : VK} (h : trE K mg W (eLc it g bt fe own) σ H Q) :
    tLc (trI K mg W it) (trGw K mg WF own (L2.wipe σ own) g) (trB K mg WF bt) (trE K mg WF fe) own σ H Q := by
  obtain ⟨ρ, S, sl, w, rs, p⟩ := h
  refine ⟨ρ, S, sl, w, rs, ?_⟩
  have p : PostE K mg (fun C d H' => W C d σ H') ρ H Q ((it sl S).bind fun p S1 => (lcL p.2 g bt fe S1.length (wipeS sl own) p.1 (S1 ++ [.lst []])).bind fun _ S2 => .ok (.ptr S1.length) S2) := p
  cases q : it sl S with
  | bad => rw [q] at p; exact p
  | ex e S1 => rw [q] at p; exact p
  | ok pr S1 =>
    rw [q] at p
    obtain ⟨xs, G⟩ := pr
    intro ρ1 H1 J x1 w1 iw D hD
    have p1 : PostE K mg (fun C d H' => W C d σ H') ρ1 H1 Q ((lcL G g bt fe S1.length (wipeS sl own) xs (S1 ++ [.lst []])).bind fun _ S2 => .ok (.ptr S1.length) S2) := PostE.from x1 p
    have x2 : Ext ρ1 H1 (ρ1 ++ [D]) (upd H1 D (.lst [])) := Ext.hand hD
    have w2 : WOk K mg (ρ1 ++ [D]) (upd H1 D (.lst [])) (S1 ++ [.lst []]) := w1.hand hD ⟨[], upd_same, RepL.nil⟩
    have rw' : RSt K mg (ρ1 ++ [D]) (upd H1 D (.lst [])) (L2.wipe σ own) (wipeS sl own) := ((rs.ext x1).ext x2).wipe own
    have hDn : (ρ1 ++ [D])[S1.length]? = some D := by rw [← w1.len]; simp
    refine ⟨fun i m H' => i + m = xs.length ∧ ∃ ρ' S', Ext (ρ1 ++ [D]) (upd H1 D (.lst [])) ρ' H' ∧ WOk K mg ρ' H' S' ∧ PostE K mg (fun C d H' => W C d σ H') ρ' H' Q ((lcL G g bt fe S1.length (wipeS sl own) (xs.drop i) S').bind fun _ S2 => .ok (.ptr S1.length) S2),
      ⟨xs.length, by simp, ρ1 ++ [D], _, Ext.refl, w2, PostE.from x2 (by simpa using p1)⟩, ?_⟩
    rintro i m H3 ⟨hm, ρ3, S3, x3, w3, p3⟩
    cases m with
    | zero =>
      have hi : i = xs.length := by omega
      subst hi
      rw [List.drop_length, lcL] at p3
      by_cases hG : G S3
      · rw [if_pos hG] at p3
        refine .inl ⟨iw.stop ρ3 H3 S3 (x2.trans x3) w3 hG, ?_⟩
        exact post_ok (d := .ptr S1.length) p3 w3 (by rw [Rep]; exact ⟨D, rfl, x3.get hDn⟩)
      · rw [if_neg hG] at p3; exact p3.elim
    | succ m =>
      have hlt : i < xs.length := by omega
      have hd : xs.drop i = xs[i] :: xs.drop (i + 1) := (List.getElem_cons_drop hlt).symm
      rw [hd, lcL] at p3
      by_cases hG : G S3
      · rw [if_pos hG] at p3
        refine .inr ⟨iw.go i ρ3 H3 S3 hlt (x2.trans x3) w3 hG, fun H' => ∃ ρ' S', Ext (ρ1 ++ [D]) (upd H1 D (.lst [])) ρ' H' ∧ WOk K mg ρ' H' S' ∧ PostE K mg (fun C d H' => W C d σ H') ρ' H' Q ((lcL G g bt fe S1.length (wipeS sl own) (xs.drop (i + 1)) S').bind fun _ S2 => .ok (.ptr S1.length) S2), fun H' n => ⟨m, Nat.lt_succ_self m, by omega, n⟩, ?_⟩
        intro v H4 y
        obtain ⟨d, e, x4, w4, r4⟩ := iw.yld i ρ3 H3 S3 v H4 hlt (x2.trans x3) w3 hG y
        have ed : d = xs[i] := by rw [List.getElem?_eq_getElem hlt] at e; exact (Option.some.inj e).symm
        subst ed
        refine ⟨ρ3, S3, wipeS sl own, xs[i], w4, (rw'.ext (x3.trans x4)), r4, wipe_wipe (fun _ h => h), ?_⟩
        cases q1 : g xs[i] (wipeS sl own) S3 with
        | nx sl5 S5 =>
          rw [q1] at p3
          simp only at p3
          intro σ5 ρ5 H5 x5 w5 r5 e5
          refine ⟨e5, ρ5, S5, sl5, w5, r5, ?_⟩
          have x35 := (x3.trans x4).trans x5
          have p5 := PostE.from (x4.trans x5) p3
          cases q2 : bt sl5 S5 with
          | bad => rw [q2] at p5; exact p5.elim
          | ex e S6 => rw [q2] at p5; exact p5.elim
          | ok b S6 =>
            rw [q2] at p5
            intro ρ6 H6 x6 w6
            have p6 := PostE.from x6 p5
            cases b with
            | false =>
              rw [if_neg Bool.false_ne_true]
              exact ⟨ρ6, S6, x35.trans x6, w6, p6⟩
            | true =>
              rw [if_pos rfl]
              refine ⟨ρ6, S6, sl5, w6, r5.ext x6, ?_⟩
              simp only at p6
              cases q3 : fe sl5 S6 with
              | bad => rw [q3] at p6; exact p6.elim
              | ex e S7 => rw [q3] at p6; exact p6.elim
              | ok d7 S7 =>
                rw [q3] at p6
                intro v7 ρ7 H7 x7 w7 r7
                have p7 := PostE.from x7 p6
                simp only at p7
                have x37 := (x35.trans x6).trans x7
                have hDn7 := x37.get hDn
                split at p7
                · rename_i acc ea
                  split at p7
                  · rename_i hl
                    obtain ⟨us, h1, ra⟩ := w7.ob S1.length D _ hDn7 ea
                    refine ⟨us, h1, by rw [← ra.len]; have := line_of (n := acc.length + 1) (by omega); omega, ?_⟩
                    have hx : Ext ρ7 H7 ρ7 (upd H7 D (.lst (us ++ [v7]))) := Ext.putL hDn7
                    exact ⟨ρ7, _, x37.trans hx, w7.put (m := .lst (acc ++ [d7])) hDn7 ⟨_, upd_same, (ra.append (RepL.cons r7 RepL.nil)).ext hx⟩, PostE.from hx p7⟩
                  · exact p7.elim
                · exact p7.elim
        | bk sl4 S4 => rw [q1] at p3; exact p3.elim
        | ct sl4 S4 => rw [q1] at p3; exact p3.elim
        | rt d4 S4 => rw [q1] at p3; exact p3.elim
        | ex e4 sl4 S4 => rw [q1] at p3; exact p3.elim
        | bad => rw [q1] at p3; exact p3.elim
      · rw [if_neg hG] at p3; exact p3.elim
variable {elt tg iter : Expr} {ifs : List Expr} {scope : Scope} {own : List (Str × Nat)} {it : IX} {g : GX} {bt : BX} {fe : EX}
theorem tLc_mono {wi : TI} {g1 g2 : TG} {tt : TT} {te : TE} {vs : List Nat} {σ : L2.St} {H : Hp} {Q : VK} (k : ∀ x H' Q', g1 x (L2.wipe σ vs) H' Q' → g2 x (L2.wipe σ vs) H' Q') (kw : ∀ H R R', (∀ J H1, R J H1 → R' J H1) → wi σ H R → wi σ H R') (h : tLc wi g1 tt te vs σ H Q) : tLc wi g2 tt te vs σ H Q := by
  refine kw H _ _ (fun J H1 h D hD => ?_) h
  obtain ⟨W, h0, hs⟩ := h D hD
  refine ⟨W, h0, fun i m H' hw => ?_⟩
  rcases hs i m H' hw with h | ⟨hg, Nx, h1, h2⟩
  · exact .inl h
  · exact .inr ⟨hg, Nx, h1, fun x H2 y => k _ _ _ (h2 x H2 y)⟩
/-- targets for every state's rest -/
def trGa (K : PySem.W.Frag) (mg : Str → Option Value) (W : WX) (vs : List Nat) (g : GX) : TG := fun v σ H Q => trGw K mg W vs (L2.wipe σ vs) g v σ H Q
theorem EGw.all {X : Cx} {W : WX} {vs : List Nat} {tg : Expr} {g : GX} (h : EGw X W vs tg g) : PG X tg (trGa X.K X.mg W vs g) := ⟨fun pins s σ H v u Q I r q => (h (L2.wipe σ vs)).run pins s σ H v u Q I r q⟩
theorem trI_mono {K : PySem.W.Frag} {mg : Str → Option Value} {it : IX} {σ : L2.St} (H : Hp) (R R' : It → Hp → Prop) (k : ∀ J H1, R J H1 → R' J H1) (h : trI K mg W it σ H R) : trI K mg W it σ H R' := by
  obtain ⟨ρ, S, sl, w, rs, p⟩ := h
  refine ⟨ρ, S, sl, w, rs, ?_⟩
  cases q : it sl S with
  | bad => rw [q] at p; exact p
  | ex e S1 => rw [q] at p; exact p
  | ok pr S1 => rw [q] at p; exact fun ρ' H' J x w i => k _ _ (p ρ' H' J x w i)
theorem lc_imp' {K : PySem.W.Frag} {mg : Str → Option Value} {vs : List Nat} {σ : L2.St} {H : Hp} {Q : VK} (h : trE K mg W (eLc it g bt fe vs) σ H Q) : tLc (trI K mg W it) (trGa K mg WF vs g) (trB K mg WF bt) (trE K mg WF fe) vs σ H Q := by
  refine tLc_mono (fun x H' Q' q => ?_) (fun H R R' k h => trI_mono H R R' k h) (lc_imp h)
  unfold trGa
  rw [wipe_wipe (fun _ h => h)]
  exact q
theorem r_lc (hc : X.calm = true) (hN : X.N.Nodup) (ok : BlkOk X.N X.env.scope scope own) (hi : EI X W tg iter it)
    (hg : ∀ (s : Shared) (H : Hp) (C : Addr) (cl : List (Str × Addr)) (fp : List Addr), EGw (X.blk s H scope (compEnvC scope cl C X.env) fp) WF (own.map (·.2)) tg g) (ht : ∀ (s : Shared) (H : Hp) (C : Addr) (cl : List (Str × Addr)) (fp : List Addr), ETs (X.blk s H scope (compEnvC scope cl C X.env) fp) WF ifs bt)
    (he : ∀ (s : Shared) (H : Hp) (C : Addr) (cl : List (Str × Addr)) (fp : List Addr), E (X.blk s H scope (compEnvC scope cl C X.env) fp) WF elt fe) (hs : ∀ x, foldedSetIterable iter X.env x = pure x := by intro _; rfl) :
    E X W (.ListComp elt [⟨tg, iter, ifs, 0⟩] scope pos) (eLc it g bt fe (own.map (·.2))) :=
  PE.imp (pe_lc (tt := trB X.K X.mg WF bt) (te := trE X.K X.mg WF fe) hc hN hi ok (fun s H C cl fp => (hg s H C cl fp).all) ht he hs) fun σ H Q h => lc_imp' h
theorem s_setLc {i : Nat} {y : Str} {py spos : Pos} (hc : X.calm = true) (hN : X.N.Nodup) (ok : BlkOk X.N X.env.scope scope own)
    (hsw : swapsWith (.ListComp elt [⟨tg, iter, ifs, 0⟩] scope pos) (some (.Name y py)) spos.line X.env = pure true) (hi : EI X W tg iter it)
    (hg : ∀ (s : Shared) (H : Hp) (C : Addr) (cl : List (Str × Addr)) (fp : List Addr), EGw (X.blk s H scope (compEnvC scope cl C X.env) fp) WF (own.map (·.2)) tg g) (ht : ∀ (s : Shared) (H : Hp) (C : Addr) (cl : List (Str × Addr)) (fp : List Addr), ETs (X.blk s H scope (compEnvC scope cl C X.env) fp) WF ifs bt)
    (he : ∀ (s : Shared) (H : Hp) (C : Addr) (cl : List (Str × Addr)) (fp : List Addr), E (X.blk s H scope (compEnvC scope cl C X.env) fp) WF elt fe) (hy : X.N[i]? = some y := by rfl) (hyl : X.env.scope.names.lookup y = some .local := by rfl) (hs : ∀ x, foldedSetIterable iter X.env x = pure x := by intro _; rfl) :
    ES X W (.Assign [.Name y py] (.ListComp elt [⟨tg, iter, ifs, 0⟩] scope pos) spos) (sAsg (eLc it g bt fe (own.map (·.2))) (gSet i)) :=
  PS.imp (ps_setLc (tt := trB X.K X.mg WF bt) (te := trE X.K X.mg WF fe) hc hN hy hyl hsw hi ok (fun s H C cl fp => (hg s H C cl fp).all) ht he hs) fun D σ H ⟨ρ, S, sl, w, rs, p⟩ =>
    lc_imp' (Q := fun x H1 => gName i x σ H1 D.nx) ⟨ρ, S, sl, w, rs, PostE.mono (PostS.ofE rs p) fun v H1 ⟨ρ1, S1, d, w1, r1, rv, p1⟩ => p1 _ ρ1 H1 Ext.refl w1 (r1.set rv i)⟩

/-! ### an expression whose handles are given up -/
noncomputable def eFin (f : EX) : EX := fun sl S => fin S (f sl S)
theorem r_fin {e : Expr} {f : EX} (h : E X W e f) : E X W e (eFin f) := PE.imp h fun σ H Q ⟨ρ, S, sl, w, rs, p⟩ => ⟨ρ, S, sl, w, rs, fin_imp w p⟩
end
end Z
/-! ZB: sorted. -/
namespace Z
open PySem PySem.Spec L2 PyProof.Rows Za PySem.W

/-- by their keys -/
def sortBy {α : Type} (xs : List α) (ps : List PyData) : List α := ((xs.zip ps).mergeSort (dataLe false (·.2))).map (·.1)
def SrtOk (ps : List PyData) : Prop := AllAlike ps ∧ Sortable ps ∧ ps.length ≤ 1000000 ∧ ∀ d ∈ ps, d.depth ≤ 50
section
theorem map_sort {α β : Type} {f : α → β} {r : α → α → Bool} {s : β → β → Bool} (h : ∀ a b, r a b = s (f a) (f b)) (l : List α) : (l.mergeSort r).map f = (l.map f).mergeSort s := List.map_mergeSort fun a _ b _ => h a b
theorem zip_map_fst {α β γ : Type} : ∀ (xs : List α) (ys : List β) (zs : List γ), xs.length = ys.length → ((xs.zip ys).zip zs).map (fun p => (p.1.1, p.2)) = xs.zip zs
  | [], ys, zs, _ => by cases ys <;> rfl
  | x :: xs, [], zs, h => by simp at h
  | x :: xs, y :: ys, [], h => by simp
  | x :: xs, y :: ys, z :: zs, h => by
    simp only [List.zip_cons_cons, List.map_cons]
    rw [zip_map_fst xs ys zs (by simpa using h)]
theorem zip_map_snd {α β γ : Type} : ∀ (xs : List α) (ys : List β) (zs : List γ), xs.length = ys.length → ((xs.zip ys).zip zs).map (fun p => (p.1.2, p.2)) = ys.zip zs
  | [], [], zs, _ => by simp
  | [], y :: ys, zs, h => by simp at h
  | x :: xs, [], zs, h => by simp at h
  | x :: xs, y :: ys, [], h => by simp
  | x :: xs, y :: ys, z :: zs, h => by
    simp only [List.zip_cons_cons, List.map_cons]
    rw [zip_map_snd xs ys zs (by simpa using h)]
/-- two lists sorted by the same keys -/
theorem sort_both {α β : Type} {xs : List α} {ys : List β} {ps : List PyData} (h : xs.length = ys.length) :
    ∃ T : List ((α × β) × PyData), (∀ t ∈ T, t.1 ∈ xs.zip ys) ∧ sortBy xs ps = T.map (·.1.1) ∧ sortBy ys ps = T.map (·.1.2) := by
  refine ⟨((xs.zip ys).zip ps).mergeSort (dataLe false (·.2)), fun t ht => ?_, ?_, ?_⟩
  · have := (List.mergeSort_perm _ _).mem_iff.mp ht
    exact (List.of_mem_zip this).1
  · unfold sortBy
    rw [← zip_map_fst xs ys ps h, ← map_sort (r := dataLe false fun p : (α × β) × PyData => p.2) (s := dataLe false fun p : α × PyData => p.2) (fun a b => rfl), List.map_map]
    rfl
  · unfold sortBy
    rw [← zip_map_snd xs ys ps h, ← map_sort (r := dataLe false fun p : (α × β) × PyData => p.2) (s := dataLe false fun p : β × PyData => p.2) (fun a b => rfl), List.map_map]
    rfl
theorem sortBy_len {α : Type} (xs : List α) (ps : List PyData) : (sortBy xs ps).length = min xs.length ps.length := by
  unfold sortBy
  rw [List.length_map, List.length_mergeSort, List.length_zip]
end
section
variable {K : PySem.W.Frag} {mg : Str → Option Value} {ρ : List Addr} {H : Hp}
theorem repL_zip : ∀ {xs : List D} {vs : List V}, RepL K mg ρ H xs vs → ∀ p ∈ xs.zip vs, Rep K mg ρ H p.1 p.2
  | [], _, _, p, h => by simp at h
  | x :: xs, _, r, p, h => by
    rw [RepL] at r
    obtain ⟨v, r', e, h1, h2⟩ := r
    subst e
    rw [List.zip_cons_cons] at h
    rcases List.mem_cons.mp h with q | q
    · rw [q]; exact h1
    · exact repL_zip h2 p q
theorem repL_pairs {γ : Type} : ∀ {T : List ((D × V) × γ)}, (∀ t ∈ T, Rep K mg ρ H t.1.1 t.1.2) → RepL K mg ρ H (T.map (·.1.1)) (T.map (·.1.2))
  | [], _ => RepL.nil
  | t :: T, h => RepL.cons (h t List.mem_cons_self) (repL_pairs fun u hu => h u (List.mem_cons_of_mem _ hu))
theorem sortBy_rep {xs : List D} {vs : List V} {ps : List PyData} (r : RepL K mg ρ H xs vs) : RepL K mg ρ H (sortBy xs ps) (sortBy vs ps) := by
  obtain ⟨T, h1, h2, h3⟩ := sort_both (ps := ps) r.len
  rw [h2, h3]
  exact repL_pairs fun t ht => repL_zip r _ (h1 t ht)
end
theorem each_vals {its : List Value} : ∀ {vs : List V} {ps : List PyData}, Vals vs its → vs.length = ps.length → EachIs (fun (v : Value) (p : V × PyData) => RelV p.1 v) its (vs.zip ps)
  | [], ps, r, _ => by cases r; exact .nil
  | v :: vs, [], r, h => by simp at h
  | v :: vs, p :: ps, r, h => by
    cases r with
    | cons r1 r2 => exact .cons r1 (each_vals r2 (by simpa using h))
theorem each_reads {h : Heap} : ∀ {ps : List PyData} {its : List Value} {vs : List V} {as : List Addr}, vs.length = ps.length → ReadsAll h its ps as → EachIs (fun (v : Value) (p : V × PyData) => ∃ as, Reads h v p.2 as) its (vs.zip ps)
  | [], its, vs, as, hl, r => by
    cases r
    have : vs = [] := by simpa using hl
    subst this
    exact .nil
  | p :: ps, its, [], as, hl, r => by simp at hl
  | p :: ps, its, v :: vs, as, hl, r => by
    cases r with
    | cons h1 h2 => exact .cons ⟨_, h1⟩ (each_reads (by simpa using hl) h2)
theorem zip_snd {α β : Type} : ∀ {xs : List α} {ys : List β}, xs.length = ys.length → (xs.zip ys).map (·.2) = ys
  | [], [], _ => rfl
  | [], y :: ys, h => by simp at h
  | x :: xs, [], h => by simp at h
  | x :: xs, y :: ys, h => by simp [zip_snd (xs := xs) (ys := ys) (by simpa using h)]
theorem each_fst {out : List Value} : ∀ {l : List (V × PyData)}, EachIs (fun (v : Value) (p : V × PyData) => RelV p.1 v) out l → Vals (l.map (·.1)) out := by
  intro l e
  induction e with
  | nil => exact .nil
  | cons h1 _ ih => exact .cons h1 ih
section
variable {X : Cx}
/-- a list, by its items' data -/
def rSortL (K : PySem.W.Frag) : List V → Hp → VK → Prop := fun vs H Q => ∃ (a : Addr) (zs : List V) (ps : List PyData), vs = [.ref a] ∧ SqL K H a zs ∧ DpAll K H zs ps ∧ SrtOk ps ∧ ∀ p, H p = none → Q (.ref p) (upd H p (.lst (sortBy zs ps)))
theorem cr_sortL (hu : X.A.units + 64 < cLine) : CallR X (.builtin "sorted") (rSortL X.K) := by
  intro pins s σ H vs us Q I r h
  obtain ⟨a, zs, ps, rfl, hs, hd, ⟨o1, o2, o3, o4⟩, q⟩ := h
  obtain ⟨its, rv, hl, hz⟩ := I.list hs
  obtain ⟨u, rfl, ru⟩ := vals1 r
  obtain rfl : u = Value.ref a := ru
  obtain ⟨as, ra⟩ := Dp.readsAll I ps zs its hd rv
  have hlen : zs.length = ps.length := by
    have : ∀ {zs : List V} {ps : List PyData}, DpAll X.K H zs ps → zs.length = ps.length := fun {zs} => by
      induction zs with
      | nil => intro ps h; cases h; rfl
      | cons z zs ih => intro ps h; cases h with | cons _ h => simp [ih h]
    exact this hd
  refine sorted_data (bs := zs.zip ps) (enc := fun p => p.2) (R := fun v p => RelV p.1 v) hl.isList (each_vals rv hlen) (each_reads hlen ra) (by rw [zip_snd hlen]; exact o1) (by rw [zip_snd hlen]; exact o2) (by rw [List.length_zip, ← hlen, Nat.min_self]; exact hz) (fun b hb => ?_) fun out ho e => ?_
  · have hm : b.2 ∈ ps := by rw [← zip_snd hlen]; exact List.mem_map.mpr ⟨b, hb, rfl⟩
    have := o4 _ hm
    have e : X.A.units + 2 + b.2.depth ≤ X.A.units + 64 := by omega
    exact Nat.lt_of_le_of_lt e hu
  · obtain ⟨n, hn⟩ := sortedAll_at s.heap its (List.toArray out)
    have hv : Vals (sortBy zs ps) out := each_fst e
    have kp : ∀ b u, s.heap.get? b = some u → (sortedAll s.heap its (List.toArray out)).get? b = some u := fun b u => sortedAll_old
    exact ⟨.ref (s.heap.objs.size + 1), upd H (s.heap.objs.size + 1) (.lst (sortBy zs ps)), I.laid (t' := s.toks) kp (Nat.le_succ _) ⟨by rw [sortBy_len, ← hlen, Nat.min_self]; exact hz, out, n, hv, hn⟩, rfl, q _ (I.hok.fresh (Nat.le_succ _))⟩
/-- a text, by its signs -/
theorem sortable_strs (l : List Str) : Sortable (l.map PyData.str) := .inr fun d hd => by
  obtain ⟨x, _, rfl⟩ := List.mem_map.mp hd
  exact ⟨by nofun, by intros; nofun⟩
theorem alike_strs (l : List Str) : AllAlike (l.map PyData.str) := fun d hd d' hd' => by
  obtain ⟨x, _, rfl⟩ := List.mem_map.mp hd
  obtain ⟨y, _, rfl⟩ := List.mem_map.mp hd'
  simp [alike]
def signsS (x : Str) : List Str := x.cps.toList.map fun c => ⟨#[c]⟩
def rSortX : List V → Hp → VK → Prop := fun vs H Q => ∃ x : Str, vs = [.str x] ∧ x.length ≤ 1000000 ∧ ∀ p, H p = none → Q (.ref p) (upd H p (.lst (sortBy ((signsS x).map V.str) ((signsS x).map PyData.str))))
theorem cr_sortX (hc : X.calm = true) (hu : X.A.units + 64 < cLine) : CallR X (.builtin "sorted") rSortX := by
  intro pins s σ H vs us Q I r h
  obtain ⟨x, rfl, hx, q⟩ := h
  obtain ⟨u, rfl, ru⟩ := vals1 r
  obtain ⟨t, rfl⟩ := ru
  have hn : x.cps.size ≤ sizeLine := line_of hx
  refine PySem.Calls.call_function_entry kind_sorted plain_sorted entry_sorted (args_sorted1 _) ?_
  unfold Builtin.«sorted»
  refine wpAny_bind (m := checkCount "sorted" 1 1 _) (wpAny_pure ?_)
  refine wpAny_bind (wpAny_collect_str (A := X.A.in1) (I.ok.hd hc) x t (fun s' acc hk hg hd ho hacc => ?_) hn)
  obtain ⟨hp', g', d', tk', os'⟩ := s'
  obtain ⟨hp, g, d, tk, os⟩ := s
  simp only at hk hg hd ho
  subst hg hd ho
  have hl : acc.toList.length = x.cps.size := by rw [Array.length_toList]; exact hacc.1
  refine wpAny_bind (wpAny_newList ?_ (by rw [hl]; exact hn))
  have hsl : (signsS x).length = x.cps.size := by simp [signsS]
  have hrv : Vals ((signsS x).map V.str) acc.toList := by
    have : ∀ (n : Nat) (ys : List Str) (its : List Value), ys.length = its.length → (∀ (j : Nat) (v : Value), its[j]? = some v → ∃ (y : Str) (u : Tok), ys[j]? = some y ∧ v = Value.str y u) → Vals (ys.map V.str) its := fun _ ys => by
      induction ys with
      | nil => intro its h _; cases its with
        | nil => exact .nil
        | cons _ _ => simp at h
      | cons y ys ih => intro its h k; cases its with
        | nil => simp at h
        | cons v its =>
          obtain ⟨y', u, e, ev⟩ := k 0 v (by simp)
          simp at e
          subst e ev
          exact .cons ⟨u, rfl⟩ (ih its (by simpa using h) fun j w e => k (j + 1) w (by simpa using e))
    refine this 0 _ _ (by rw [hl, hsl]) fun j v e => ?_
    obtain ⟨c, u, e1, e2⟩ := hacc.2 j v (by rw [← Array.getElem?_toList]; exact e)
    exact ⟨⟨#[c]⟩, u, by simp [signsS, e1], e2⟩
  have ra : ∀ (h : Heap) (a : Addr) (ys : List Str) (its : List Value), Vals (ys.map V.str) its → EachIs (fun (v : Value) (p : V × PyData) => ∃ as, Reads h v p.2 as ∧ a ∉ as) its ((ys.map V.str).zip (ys.map PyData.str)) := fun h a ys => by
    induction ys with
    | nil => intro its r; cases r; exact .nil
    | cons y ys ih =>
      intro its r
      cases r with
      | cons r1 r2 =>
        obtain ⟨t, rfl⟩ := r1
        exact .cons ⟨[], Reads.str y t, by simp⟩ (ih _ r2)
  have hll : ((signsS x).map V.str).length = ((signsS x).map PyData.str).length := by simp
  refine wpAny_bind (wpAny_holding (list_sort_data (bs := ((signsS x).map V.str).zip ((signsS x).map PyData.str)) (enc := fun p => p.2) (R := fun v p => RelV p.1 v) (vs := acc.toList) (n := 0) (Heap.get?_push_size _ rfl) (each_vals hrv hll) ?_ ?_ ?_ ?_ ?_ fun out ho e => ?_))
  · exact ra _ _ _ _ hrv
  · rw [zip_snd hll]; exact alike_strs _
  · rw [zip_snd hll]; exact sortable_strs _
  · rw [List.length_zip, List.length_map, List.length_map, Nat.min_self, hsl]; exact hn
  · intro b hb
    have hm : b.2 ∈ (signsS x).map PyData.str := by rw [← zip_snd hll]; exact List.mem_map.mpr ⟨b, hb, rfl⟩
    obtain ⟨y, _, ey⟩ := List.mem_map.mp hm
    rw [← ey]
    have hd : (PyData.str y).depth = 0 := by simp [PyData.depth]
    refine Nat.lt_of_le_of_lt (m := X.A.units + 64) ?_ hu
    rw [hd]
    show X.A.units + 1 + 1 + 0 ≤ X.A.units + 64
    omega
  · have hv : Vals (sortBy ((signsS x).map V.str) ((signsS x).map PyData.str)) out := each_fst e
    have I1 : Inv X pins σ H { heap := hp', gens := g', drawn := d', toks := tk', os := os' } := I.kept (t' := tk') hk
    obtain ⟨n, hn'⟩ := sortedHeap_at (vs := acc.toList) (n := 0) (out := List.toArray out) (Heap.get?_push_size hp' (o := seqObj "list" acc.toList.toArray 0) rfl)
    refine wpAny_pure ⟨_, rfl, .ref hp'.objs.size, upd H hp'.objs.size (.lst (sortBy ((signsS x).map V.str) ((signsS x).map PyData.str))), ?_, rfl, q _ (I1.hok.fresh (Nat.le_refl _))⟩
    refine I1.laid (t' := tk') (fun b u e => ?_) (Nat.le_refl _) ⟨?_, out, n, hv, hn'⟩
    · have hb : b < hp'.objs.size := Heap.lt_size e
      rw [sortedHeap_old (Nat.ne_of_lt hb) (by rw [Heap.size_push]; exact Nat.lt_succ_of_lt hb)]
      exact Heap.get?_push_of_some _ e
    · rw [sortBy_len, List.length_map, List.length_map, Nat.min_self, hsl]
      exact hn
/-- sorted(..) of a list, a text: a new list by a handle -/
noncomputable def semSorted : SemL := fun ds S => match ds with
  | [.str x] => if x.length ≤ 1000000 then .ok (.ptr S.length) (S ++ [.lst (sortBy (signsD x) ((signsS x).map PyData.str))]) else .bad
  | [d] => (match asL S d with
    | some xs => (match toPL0 xs with
      | some ps => open Classical in if SrtOk ps then .ok (.ptr S.length) (S ++ [.lst (sortBy xs ps)]) else .bad
      | none => .bad)
    | none => .bad)
  | _ => .bad
theorem signsD_rep {K : PySem.W.Frag} {mg : Str → Option Value} {ρ : List Addr} {H : Hp} (x : Str) : RepL K mg ρ H (signsD x) ((signsS x).map V.str) := by
  unfold signsD signsS
  rw [List.map_map]
  exact mk_signs _
theorem d_sorted (hc : X.calm = true) (hu : X.A.units + 64 < cLine) : CallD X (.builtin "sorted") semSorted := by
  refine ⟨_, CallR.or (cr_sortL hu) (cr_sortX hc hu), fun Wp ρ H S ds xs Q w r p => ?_⟩
  match ds, r, p with
  | [], r, p => exact p.elim
  | d :: _ :: _, r, p => cases d <;> exact p.elim
  | [d], r, p =>
    obtain ⟨v, e, h1⟩ := repL_one r
    have go : ∀ (p : PostE X.K X.mg Wp ρ H Q (match asL S d with
        | some xs => (match toPL0 xs with
          | some ps => open Classical in if SrtOk ps then .ok (.ptr S.length) (S ++ [.lst (sortBy xs ps)]) else .bad
          | none => .bad)
        | none => .bad)), rSortL X.K xs H Q := fun p => by
      split at p
      · rename_i ys ey
        split at p
        · rename_i ps eps
          split at p
          · rename_i ho
            obtain ⟨a, vs, e1, h2, r2⟩ := asL_rep w h1 ey
            exact ⟨a, vs, ps, by rw [e, e1], .inl (.inl h2), toPL0_rep ys vs ps r2 eps, ho, fun q hq => post_lstH p w (sortBy_rep r2) hq⟩
          · exact p.elim
        · exact p.elim
      · exact p.elim
    cases d with
    | str x =>
      have p : PostE X.K X.mg Wp ρ H Q (if x.length ≤ 1000000 then .ok (.ptr S.length) (S ++ [.lst (sortBy (signsD x) ((signsS x).map PyData.str))]) else .bad) := p
      split at p
      · rename_i hl
        exact .inr ⟨x, by rw [e, rep_str h1], hl, fun q hq => post_lstH p w (sortBy_rep (signsD_rep x)) hq⟩
      · exact p.elim
    | _ => exact .inl (go p)
end
end Z
/-! ZC: defs, methods, classes, properties by data. -/
namespace Z
open PySem PySem.Spec L2

/-- a promise on data -/
def spZ (K : PySem.W.Frag) (mg : Str → Option Value) (g : SemL) : Sp := fun vs H Q E => ∃ ρ S ds, WOk K mg ρ H S ∧ RepL K mg ρ H ds vs ∧ PostE K mg E ρ H Q (g ds S)
abbrev FZ (P : Program) (w : World) (K : PySem.W.Frag) (mg : Str → Option Value) (base : Heap) (k : Nat) (f : Addr) (g : SemL) : Prop := FnR P w K mg base (L2.CX P w) k f (spZ K mg g)
/-- a def by its body, what it makes stays open -/
def defH (N : Nat) (body : SX) : SemL := fun ds S => (body (ds.map some ++ List.replicate (N - ds.length) none) S).out
section
variable {P : Program} {w : World} {K : PySem.W.Frag} {mg : Str → Option Value} {base : Heap}
theorem fn_okH {x qual : Str} {st : Stmt} {f : Addr} {fd : FuncData} {N ps : List Str} {k : Nat} {body : SX} (F : Fun K x qual st f fd) (Sc : FnScope N ps (defScope st))
    (hb : ∀ (cdv : Value) (A : Around) (outer : List Env) (s : Shared) (H : Hp) (E : XK), Room k (A.deeper (PyProof.Rows.envOfC qual (defScope st) s.heap.objs.size f cdv)) →
      ESs (cxOf (L2.CX P w) P w K mg base N qual (defScope st) f cdv A outer s H E) (fun c d _ H' => E c d H') (defBody st) body) :
    FnOk P w K mg base (L2.CX P w) (k + 1) f fd ps (spOf K mg ps.length (defH N.length body)) := by
  refine F.okX Sc (fun vs H Q E h => ?_) (fun cdv A outer s H vs Q E hr h => ?_)
  · obtain ⟨ρ, S, ds, hl, _, r, _⟩ := h
    rw [← r.len, hl]
  · obtain ⟨ρ, S, ds, hl, w0, r, p⟩ := h
    refine ⟨_, hb cdv A outer s H E hr, ρ, S, _, w0, rst_start r, ?_⟩
    have p : PostE K mg E ρ H Q (body (ds.map some ++ List.replicate (N.length - ds.length) none) S).out := p
    cases q : body (ds.map some ++ List.replicate (N.length - ds.length) none) S with
    | nx sl S' => rw [q] at p; exact fun σ' ρ' H' x w1 r1 => p .non ρ' H' x w1 (by rw [Rep])
    | rt d S' => rw [q] at p; exact p
    | ex e sl S' => rw [q] at p; exact fun C dd σ' ρ' H' x w1 _ r1 => p C dd ρ' H' x w1 r1
    | bk sl S' => rw [q] at p; exact p.elim
    | ct sl S' => rw [q] at p; exact p.elim
    | bad => rw [q] at p; exact p.elim
theorem fz_of {f : Addr} {fd : FuncData} {ps : List Str} {k n : Nat} {g : SemL} {dfs : List Value} {dvs : List V} {dds : List D} (F : FnOk P w K mg base (L2.CX P w) k f fd ps (spOf K mg n g)) (hb : Binds K fd ps dfs) (hd : Vals dvs dfs) (hdf : ∀ ρ H, RepL K mg ρ H dds dvs) : FZ P w K mg base k f (withD dds n g) :=
  (F.raw hb hd).imp fun vs H Q E ⟨ρ, S, ds, w0, r, p⟩ => by
    unfold withD at p
    split at p
    · rename_i hl
      exact ⟨ρ, S, ds ++ dds, hl, w0, r.append (hdf ρ H), p⟩
    · exact p.elim
/-- every argument is given -/
def arity (n : Nat) (g : SemL) : SemL := fun ds S => if ds.length = n then g ds S else .bad
theorem fz_of0 {f : Addr} {fd : FuncData} {ps : List Str} {k n : Nat} {g : SemL} (F : FnOk P w K mg base (L2.CX P w) k f fd ps (spOf K mg n g)) (hb : Binds K fd ps []) : FZ P w K mg base k f (arity n g) :=
  (F.raw hb .nil).imp fun vs H Q E ⟨ρ, S, ds, w0, r, p⟩ => by
    unfold arity at p
    split at p
    · rename_i hl
      exact ⟨ρ, S, ds, hl, w0, by rw [List.append_nil]; exact r, p⟩
    · exact p.elim
theorem FZ.as {f : Addr} {k : Nat} {g g' : SemL} (F : FZ P w K mg base k f g) (h : ∀ ds S, g' ds S = .bad ∨ g ds S = g' ds S) : FZ P w K mg base k f g' :=
  FnR.imp F fun vs H Q E ⟨ρ, S, ds, w0, r, p⟩ => ⟨ρ, S, ds, w0, r, by
    rcases h ds S with e | e
    · rw [e] at p; exact p.elim
    · rw [e]; exact p⟩
/-- def f(a, .., *v) -/
def starS (n : Nat) (g : SemL) : SemL := fun ds S => if n ≤ ds.length ∧ ds.length ≤ 1000000 then g (ds.take n ++ [.tup (ds.drop n)]) S else .bad
theorem fz_star {x qual pv : Str} {st : Stmt} {f : Addr} {fd : FuncData} {N ps : List Str} {k : Nat} {body : SX} (F : Fun K x qual st f fd) (Sc : FnScope N (ps ++ [pv]) (defScope st))
    (hbind : ∀ us rest : List Value, us.length = ps.length → bindArgs fd ⟨us ++ rest, []⟩ = (newTuple rest >>= fun t => pure (ps.zip us ++ [(pv, t)])))
    (hb : ∀ (cdv : Value) (A : Around) (outer : List Env) (s : Shared) (H : Hp) (E : XK), Room k (A.deeper (PyProof.Rows.envOfC qual (defScope st) s.heap.objs.size f cdv)) →
      ESs (cxOf (L2.CX P w) P w K mg base N qual (defScope st) f cdv A outer s H E) (fun c d _ H' => E c d H') (defBody st) body) :
    FZ P w K mg base (k + 1) f (starS ps.length (defS N.length body)) := by
  obtain ⟨oc, od, kV, doc, pm, an, cdv, ct, osl, rfl, lk, hcd⟩ := F.ex
  refine FnR.imp (StX.fn_star (sp := spOf K mg (ps.length + 1) (defS N.length body)) lk hcd Sc StX.cxUp hbind fun A outer s H vs Q E hr h => ?_) fun vs H Q E h => ?_
  · obtain ⟨ρ, S, ds, hl, w0, r, p⟩ := h
    refine ⟨_, hb cdv A outer s H E hr, ρ, S, _, w0, rst_start r, ?_⟩
    have p := fin_imp w0 p
    cases q : body (ds.map some ++ List.replicate (N.length - ds.length) none) S with
    | nx sl S' => rw [q] at p; exact fun σ' ρ' H' x w1 r1 => p .non ρ' H' x w1 (by rw [Rep])
    | rt d S' => rw [q] at p; exact p
    | ex e sl S' => rw [q] at p; exact fun C dd σ' ρ' H' x w1 _ r1 => p C dd ρ' H' x w1 r1
    | bk sl S' => rw [q] at p; exact p.elim
    | ct sl S' => rw [q] at p; exact p.elim
    | bad => rw [q] at p; exact p.elim
  · obtain ⟨ρ, S, ds, w0, r, p⟩ := h
    unfold starS at p
    split at p
    · rename_i hl
      have e := r.len
      refine ⟨vs.take ps.length, vs.drop ps.length, (List.take_append_drop _ _).symm, by rw [List.length_take]; omega, by rw [List.length_drop]; exact line_of (by omega), fun a ha => ?_⟩
      have x := Ext.new' (ρ := ρ) (o := .tup (vs.drop ps.length)) ha
      refine ⟨ρ, S, ds.take ps.length ++ [.tup (ds.drop ps.length)], by rw [List.length_append, List.length_take]; simp; omega, w0.new' ha, ((r.take _).ext x).append (RepL.cons ?_ RepL.nil), PostE.from x p⟩
      rw [Rep]
      exact ⟨a, _, rfl, .inl ⟨w0.nin ha, upd_same⟩, (r.drop _).ext x⟩
    · exact p.elim
end

/-! ### calls -/
theorem takesF {X : Cx} : Takes X WF := fun u s' ⟨_, _, _, _, _, _, _, _, _, _, _, _, _, _, _, _, w⟩ => w.elim
section
variable {X : Cx} {W : WX} {k : Nat} {f C : Addr} {g : SemL} {x m : Str} {p pos apos : Pos} {e o : Expr} {es : List Expr} {fa : AX} {fo fe : EX}
theorem run_fnR {pins : List (Addr × Obj)} {σ : L2.St} {H : Hp} {s : Shared} {Q : VK} {us : List Value} {vs : List V} {sp : Sp} {E : XK} (F : FnR X.prog X.w X.K X.mg X.base (L2.CX X.prog X.w) k f sp) (hr : Room k X.A) (hx : PassesAt (L2.CX X.prog X.w) X σ E) (I : Inv X pins σ H s) (r : Vals vs us) (h : sp vs H Q E) :
    wpAny (model X.prog X.w) X.A (PySem.call (.ref f) us) (EP X pins σ Q) X.xe s := by
  refine wpAny_call (codeAny_mono (F X.A X.stack s H us vs Q E hr I.env0 r h) fun r s' hq => ?_)
  cases r with
  | error e => exact hx pins H s e s' I hq
  | ok fl =>
    cases fl with
    | ret u => exact I.after hq
    | next => exact False.elim hq
    | brk => exact False.elim hq
    | cont => exact False.elim hq
theorem r_callZ (tk : Takes X W) (F : FZ X.prog X.w X.K X.mg X.base k f g) (hr : Room k X.A) (hm : X.mg x = some (.ref f)) (hk : PySem.W.keepIn X.K (.ref f) = true)
    (ha : EA X W (e :: es) fa) (hg : Gl X x := by rfl) (hdb : (x == ("__debug__" : Str)) = false := by decide) (he : starEach (e :: es) X.env = (false, eval e X.env) :: starEach es X.env := by rfl) (hpl : (backTo pos (starEach es X.env)).any (·.1) = false := by rfl) :
    E X W (.Call (.Name x p) (e :: es) [] pos) (eArgs g fa) := by
  refine ⟨fun pins s σ H Q I h => ?_⟩
  refine wpAny_Call_Name_kw (ld_glob I hg hm ?_ hdb)
  have h' := argsem_imp (k := fun vs H1 => spZ X.K X.mg g vs H1 Q (WE W σ)) h fun ρ S H1 ds vs w r p => ⟨ρ, S, ds, w, r, p⟩
  refine PySem.W.callWith_K (h₀ := X.base) I.ok.mod.kin hk (thn (ha.run pos pins s σ H _ I h') fun us s1 ⟨vs, H1, I1, r, q⟩ => ⟨I1.kIn, ?_⟩) he hpl
  exact run_fnR F hr (passAt tk σ) I1 r q
theorem r_callZ0 (tk : Takes X W) (F : FZ X.prog X.w X.K X.mg X.base k f g) (hr : Room k X.A) (hm : X.mg x = some (.ref f)) (hk : PySem.W.keepIn X.K (.ref f) = true)
    (hg : Gl X x := by rfl) (hdb : (x == ("__debug__" : Str)) = false := by decide) : E X W (.Call (.Name x p) [] [] pos) (eArgs g aNil) := by
  refine ⟨fun pins s σ H Q I h => ?_⟩
  refine wpAny_Call_Name_kw (ld_glob I hg hm ?_ hdb)
  obtain ⟨ρ, S, sl, w, r, p⟩ := h
  exact PySem.W.callWith_K0 I.kIn hk (run_fnR (us := []) (vs := []) F hr (passAt tk σ) I .nil ⟨ρ, S, [], w, RepL.nil, p⟩)
/-- a table by a class's name -/
def tabOf (tab : List (Str × SemL)) (c : Str) : Option SemL := tab.lookup c
def eMethZ (m : Str) (tab : List (Str × SemL)) (fo : EX) (fa : AX) : EX := fun sl S => (fo sl S).bind fun d S1 => match fldsOf S1 d with
  | some (c, ns, _) => if m ∈ ns then .bad else (match tabOf tab c with
    | some g => (fa sl S1).bind fun ds S2 => g (d :: ds) S2
    | none => .bad)
  | none => .bad
structure MethOk (X : Cx) (m : Str) (tab : List (Str × SemL)) : Prop where
  at_ : ∀ c g, tabOf tab c = some g → ∀ C, X.mg c = some (.ref C) → ∃ (f : Addr) (k : Nat), Cls X.K C ∧ Meth X.K C m f ∧ FZ X.prog X.w X.K X.mg X.base k f g ∧ Room k X.A
theorem meth_nil : MethOk X m [] := ⟨fun c g h => by cases h⟩
theorem meth_cons {c : Str} {C : Addr} {tab : List (Str × SemL)} (hm : X.mg c = some (.ref C)) (hc : Cls X.K C) (hM : Meth X.K C m f) (F : FZ X.prog X.w X.K X.mg X.base k f g) (hr : Room k X.A) (h : MethOk X m tab) : MethOk X m ((c, g) :: tab) := ⟨fun c' g' h' C' hm' => by
  unfold tabOf at h'
  rw [List.lookup_cons] at h'
  cases q : c' == c with
  | true =>
    rw [q] at h'
    cases h'
    have : c' = c := by simpa using q
    subst this
    rw [hm] at hm'
    cases hm'
    exact ⟨f, k, hc, hM, F, hr⟩
  | false =>
    rw [q] at h'
    exact h.at_ c' g' h' C' hm'⟩
theorem r_methZ {pl : Sem Bool} {tab : List (Str × SemL)} (tk : Takes X W) (ht : MethOk X m tab) (ho : E X W o fo) (ha : EA X W (e :: es) fa)
    (hst : starEach (e :: es) X.env = (false, eval e X.env) :: starEach es X.env := by rfl) (hpl : (backTo pos (starEach es X.env)).any (·.1) = false := by rfl)
    (hev : eval (.Call (.Attribute o m apos) (e :: es) [] pos) X.env = (do
      let ov ← eval o X.env
      standAt apos.atName
      let (f, first) ← holding [ov] (getMethod ov m pl)
      callWith pos f first (backTo pos (starEach (e :: es) X.env)) (backToKw pos (keywordEach [] X.env))) := by rfl) :
    E X W (.Call (.Attribute o m apos) (e :: es) [] pos) (eMethZ m tab fo fa) := by
  refine ⟨fun pins s σ H Q I h => ?_⟩
  obtain ⟨ρ, S, sl, w, rs, p⟩ := h
  refine PySem.W.methodCall_KW (pl := pl) (thn (ho.run pins s σ H _ I ⟨ρ, S, sl, w, rs, PostE.bindE p⟩) fun u s1 ⟨x, H1, I1, rx, ρ1, S1, d, x1, w1, r1, _, p1⟩ => ?_) hev
  split at p1
  · rename_i c ns vs ef
    split at p1
    · exact p1.elim
    · rename_i hmem
      split at p1
      · rename_i g eg
        obtain ⟨a, C, dx, fs, ex, hm, ea, hn, rl⟩ := flds_rep w1 r1 ef
        obtain ⟨f, k, hc, hM, F, hr⟩ := ht.at_ c g eg C hm
        subst ex
        obtain rfl : u = Value.ref a := rx
        refine getmeth_ok I1 ea hc hM (lookN_none hn hmem) ?_
        refine PySem.W.callWith_K (first := [.ref a]) (h₀ := X.base) I.ok.mod.kin hM.kp (thn (ha.run pos pins s1 σ H1 _ I1 ⟨ρ1, S1, sl, w1, rs.ext x1, PostA.bindE p1⟩) fun us s2 ⟨vs, H2, I2, r, ρ2, S2, ds, x2, w2, r2, _, p2⟩ => ⟨I2.kIn, ?_⟩) hst hpl
        exact run_fnR (us := .ref a :: us) (vs := .ref a :: vs) F hr (passAt tk σ) I2 (.cons rfl r) ⟨ρ2, S2, d :: ds, w2, RepL.cons (r1.ext x2) r2, p2⟩
      · exact p1.elim
  · exact p1.elim
theorem r_methZ0 {pl : Sem Bool} {tab : List (Str × SemL)} (tk : Takes X W) (ht : MethOk X m tab) (ho : E X W o fo)
    (hev : eval (.Call (.Attribute o m apos) [] [] pos) X.env = (do
      let ov ← eval o X.env
      standAt apos.atName
      let (f, first) ← holding [ov] (getMethod ov m pl)
      callWith pos f first (backTo pos (starEach [] X.env)) (backToKw pos (keywordEach [] X.env))) := by rfl) :
    E X W (.Call (.Attribute o m apos) [] [] pos) (eMethZ m tab fo aNil) := by
  refine ⟨fun pins s σ H Q I h => ?_⟩
  obtain ⟨ρ, S, sl, w, rs, p⟩ := h
  refine PySem.W.methodCall_KW (pl := pl) (thn (ho.run pins s σ H _ I ⟨ρ, S, sl, w, rs, PostE.bindE p⟩) fun u s1 ⟨x, H1, I1, rx, ρ1, S1, d, x1, w1, r1, _, p1⟩ => ?_) hev
  split at p1
  · rename_i c ns vs ef
    split at p1
    · exact p1.elim
    · rename_i hmem
      split at p1
      · rename_i g eg
        obtain ⟨a, C, dx, fs, ex, hm, ea, hn, rl⟩ := flds_rep w1 r1 ef
        obtain ⟨f, k, hc, hM, F, hr⟩ := ht.at_ c g eg C hm
        subst ex
        obtain rfl : u = Value.ref a := rx
        refine getmeth_ok I1 ea hc hM (lookN_none hn hmem) ?_
        exact PySem.W.callWith_K0 (first := [.ref a]) I1.kIn hM.kp (run_fnR (us := [.ref a]) (vs := [.ref a]) F hr (passAt tk σ) I1 (.cons rfl .nil) ⟨ρ1, S1, [d], w1, RepL.cons r1 RepL.nil, p1⟩)
      · exact p1.elim
  · exact p1.elim

/-! ### making -/
def makeS (c : Str) (g : SemL) : SemL := fun ds S1 => (g (.ptr S1.length :: ds) (S1 ++ [.ins c [] []])).bind fun d S2 => match d with
  | .non => .ok (.ptr S1.length) S2
  | _ => .bad
theorem run_makeZ {c : Str} {pins : List (Addr × Obj)} {σ : L2.St} {ρ : List Addr} {H : Hp} {S : Store} {ds : List D} {s : Shared} {Q : VK} {us : List Value} {vs : List V} {E : XK} (M : Mk X.K C f) (hmc : X.mg c = some (.ref C)) (F : FZ X.prog X.w X.K X.mg X.base k f g) (hr : Room (k + 1) X.A) (hx : PassesAt (L2.CX X.prog X.w) X σ E) (I : Inv X pins σ H s) (r : Vals vs us)
    (w0 : WOk X.K X.mg ρ H S) (rl : RepL X.K X.mg ρ H ds vs) (p : PostE X.K X.mg E ρ H Q (makeS c g ds S)) :
    wpAny (model X.prog X.w) X.A (PySem.call (.ref C) us) (EP X pins σ Q) X.xe s := by
  have hx1 : H (s.heap.objs.size + 1) = none := I.hok.fresh (Nat.le_succ _)
  have hd1 : H s.heap.objs.size = none := I.hok.fresh (Nat.le_refl _)
  have hne : s.heap.objs.size ≠ s.heap.objs.size + 1 := Nat.ne_of_lt (Nat.lt_succ_self _)
  have I2 := Inv.made (C := C) I
  have hx2 : (upd H s.heap.objs.size (.own (s.heap.objs.size + 1))) (s.heap.objs.size + 1) = none := by rw [upd_ne hne.symm]; exact hx1
  have x1 : Ext ρ H ρ (upd H s.heap.objs.size (.own (s.heap.objs.size + 1))) := Ext.new' hd1
  have w1 : WOk X.K X.mg ρ (upd H s.heap.objs.size (.own (s.heap.objs.size + 1))) S := w0.new' hd1
  have x2 := x1.trans (Ext.hand (o := .ins C s.heap.objs.size []) hx2)
  have w2 : WOk X.K X.mg (ρ ++ [s.heap.objs.size + 1]) (upd (upd H s.heap.objs.size (.own (s.heap.objs.size + 1))) (s.heap.objs.size + 1) (.ins C s.heap.objs.size [])) (S ++ [.ins c [] []]) := w1.hand hx2 ⟨C, s.heap.objs.size, [], hmc, upd_same, rfl, RepL.nil⟩
  have rp : Rep X.K X.mg (ρ ++ [s.heap.objs.size + 1]) (upd (upd H s.heap.objs.size (.own (s.heap.objs.size + 1))) (s.heap.objs.size + 1) (.ins C s.heap.objs.size [])) (.ptr S.length) (.ref (s.heap.objs.size + 1)) := by
    rw [Rep]
    exact ⟨_, rfl, by rw [← w0.len]; simp⟩
  have hq : spZ X.K X.mg g (.ref (s.heap.objs.size + 1) :: vs) (upd (upd H s.heap.objs.size (.own (s.heap.objs.size + 1))) (s.heap.objs.size + 1) (.ins C s.heap.objs.size [])) (fun v H2 => v = .non ∧ Q (.ref (s.heap.objs.size + 1)) H2) E := by
    refine ⟨_, _, .ptr S.length :: ds, w2, RepL.cons rp (rl.ext x2), ?_⟩
    have p' := PostE.bindE (PostE.from x2 p)
    refine PostE.mono p' fun v H3 ⟨ρ3, S3, d, x3, w3, r3, _, p3⟩ => ?_
    cases d with
    | non => exact ⟨rep_non r3, post_ok p3 w3 (rp.ext x3)⟩
    | _ => exact p3.elim
  refine wpAny_call (make_map (f := f) I.kIn M.makes M.init (beq_iff_eq.mp M.fn) (codeAny_mono (F _ X.stack _ _ (Value.ref (s.heap.objs.size + 1) :: us) _ _ E (hr.make C us []) (I2.env0.make C us []) (show Vals (V.ref (s.heap.objs.size + 1) :: vs) (Value.ref (s.heap.objs.size + 1) :: us) from .cons rfl r) hq) fun r s' hq' => ?_))
  cases r with
  | error e => exact hx pins _ _ e s' I2 hq'
  | ok fl =>
    cases fl with
    | ret u =>
      obtain ⟨v, H', I3, rv, ev, q3⟩ := I2.after hq'
      subst ev
      exact ⟨rv, ⟨V.ref (s.heap.objs.size + 1), H', I3, rfl, q3⟩⟩
    | next => exact False.elim hq'
    | brk => exact False.elim hq'
    | cont => exact False.elim hq'
theorem r_makeZ (tk : Takes X W) (M : Mk X.K C f) (F : FZ X.prog X.w X.K X.mg X.base k f g) (hr : Room (k + 1) X.A) (hm : X.mg x = some (.ref C)) (ha : EA X W (e :: es) fa) (hg : Gl X x := by rfl)
    (hdb : (x == ("__debug__" : Str)) = false := by decide) (he : starEach (e :: es) X.env = (false, eval e X.env) :: starEach es X.env := by rfl) (hpl : (backTo pos (starEach es X.env)).any (·.1) = false := by rfl) :
    E X W (.Call (.Name x p) (e :: es) [] pos) (eArgs (makeS x g) fa) := by
  refine ⟨fun pins s σ H Q I h => ?_⟩
  refine wpAny_Call_Name_kw (ld_glob I hg hm ?_ hdb)
  have h' := argsem_imp (k := fun vs H1 => ∃ ρ S ds, WOk X.K X.mg ρ H1 S ∧ RepL X.K X.mg ρ H1 ds vs ∧ PostE X.K X.mg (WE W σ) ρ H1 Q (makeS x g ds S)) h fun ρ S H1 ds vs w r p => ⟨ρ, S, ds, w, r, p⟩
  refine PySem.W.callWith_K (h₀ := X.base) I.ok.mod.kin M.kp (thn (ha.run pos pins s σ H _ I h') fun us s1 ⟨vs, H1, I1, r, ρ1, S1, ds, w1, rl, q⟩ => ⟨I1.kIn, ?_⟩) he hpl
  exact run_makeZ M hm F hr (passAt tk σ) I1 r w1 rl q
theorem r_makeZ0 (tk : Takes X W) (M : Mk X.K C f) (F : FZ X.prog X.w X.K X.mg X.base k f g) (hr : Room (k + 1) X.A) (hm : X.mg x = some (.ref C)) (hg : Gl X x := by rfl) (hdb : (x == ("__debug__" : Str)) = false := by decide) :
    E X W (.Call (.Name x p) [] [] pos) (eArgs (makeS x g) aNil) := by
  refine ⟨fun pins s σ H Q I h => ?_⟩
  refine wpAny_Call_Name_kw (ld_glob I hg hm ?_ hdb)
  obtain ⟨ρ, S, sl, w, r, p⟩ := h
  exact PySem.W.callWith_K0 I.kIn M.kp (run_makeZ (us := []) (vs := []) M hm F hr (passAt tk σ) I .nil w RepL.nil p)

/-! ### o.f = v -/
def putN (f : Str) (d : D) : List Str → List D → List Str × List D
  | n :: ns, v :: vs => if n = f then (n :: ns, d :: vs) else (n :: (putN f d ns vs).1, v :: (putN f d ns vs).2)
  | _, _ => ([f], [d])
theorem putN_rep {K : PySem.W.Frag} {mg : Str → Option Value} {ρ : List Addr} {H : Hp} {f : Str} {d : D} {v : V} (h : Rep K mg ρ H d v) : ∀ {fs : List (Str × V)} {ns : List Str} {ds : List D}, fs.map (·.1) = ns → RepL K mg ρ H ds (fs.map (·.2)) →
    (putF f v fs).map (·.1) = (putN f d ns ds).1 ∧ RepL K mg ρ H (putN f d ns ds).2 ((putF f v fs).map (·.2))
  | [], _, ds, e, r => by
    simp only [List.map_nil] at e r
    subst e
    exact ⟨by cases ds <;> rfl, by cases ds <;> exact RepL.cons h RepL.nil⟩
  | (n, u) :: fs, _, [], e, r => by simp only [List.map_cons] at r; rw [RepL] at r; cases r
  | (n, u) :: fs, _, d' :: ds, e, r => by
    simp only [List.map_cons] at e r
    subst e
    rw [RepL] at r
    obtain ⟨u', r', e', h1, h2⟩ := r
    injection e' with e1 e2
    subst e1 e2
    unfold putF putN
    by_cases q : n = f
    · rw [if_pos q, if_pos q]
      exact ⟨rfl, RepL.cons h h2⟩
    · rw [if_neg q, if_neg q]
      obtain ⟨i1, i2⟩ := putN_rep h (ns := fs.map (·.1)) rfl h2
      exact ⟨by rw [List.map_cons, i1], RepL.cons h1 i2⟩
def setF (cs : List Str) (f : Str) (o v : D) (S : Store) : Option Store := match o with
  | .ptr n => (match S[n]? with
    | some (.ins c ns vs) => if c ∈ cs ∧ ns.length < 1000 then some (S.set n (.ins c (putN f v ns vs).1 (putN f v ns vs).2)) else none
    | _ => none)
  | _ => none
def sFldZ (cs : List Str) (f : Str) (fv fo : EX) : SX := fun sl S => (fv sl S).toS sl fun v S1 => (fo sl S1).toS sl fun o S2 => match setF cs f o v S2 with
  | some S3 => .nx sl S3
  | none => .bad
theorem s_fldZ {cs : List Str} {fl : Str} {pos' : Pos} (hc : ∀ c ∈ cs, ∀ C, X.mg c = some (.ref C) → Cls X.K C ∧ NoAttr X.K C fl) (ho : E X W o fo) (hv : E X W e fe) (hs : swapsWith e (some (.Attribute o fl pos')) pos.line X.env = pure false := by rfl) :
    ES X W (.Assign [.Attribute o fl pos'] e pos) (sFldZ cs fl fe fo) := by
  refine PS.imp (ps_fld ho hv hs) fun D σ H ⟨ρ, S, sl, w, rs, p⟩ => ?_
  refine ⟨ρ, S, sl, w, rs, PostE.mono (PostS.ofEx rs p) fun y H1 ⟨ρ1, S1, v, x1, w1, rs1, r1, p1⟩ => ?_⟩
  refine ⟨ρ1, S1, sl, w1, rs1, PostE.mono (PostS.ofEx rs1 p1) fun x H2 ⟨ρ2, S2, o', x2, w2, rs2, r2, p2⟩ => ?_⟩
  unfold setF at p2
  split at p2
  · rename_i S3 e3
    split at e3
    · rename_i n
      split at e3
      · rename_i c ns vs en
        split at e3
        · rename_i hcs
          cases e3
          rw [Rep] at r2
          obtain ⟨a, ea, q⟩ := r2
          obtain ⟨C, dx, fs, hm, h1, hn, rl⟩ := w2.ob n a _ q en
          obtain ⟨k1, k2⟩ := hc c hcs.1 C hm
          have xp : Ext ρ2 H2 ρ2 (upd H2 a (.ins C dx (putF fl y fs))) := Ext.putL q
          obtain ⟨z1, z2⟩ := putN_rep (f := fl) (r1.ext x2) hn rl
          refine ⟨a, C, dx, fs, ea, h1, k1, k2, by rw [← hn, List.length_map] at hcs; exact hcs.2, ?_⟩
          exact p2 _ ρ2 _ xp (w2.put (m := .ins c (putN fl v ns vs).1 (putN fl v ns vs).2) q ⟨C, dx, _, hm, upd_same, z1, z2.ext xp⟩) (rs2.ext xp)
        · cases e3
      · cases e3
    · cases e3
  · exact p2.elim

/-! ### o.f by class: a field, a property, a constant -/
inductive AtK where
  | fld
  | prop (g : SemL)
  | con (d : D)
def eAttrZ (f : Str) (tab : List (Str × AtK)) (fo : EX) : EX := fun sl S => (fo sl S).bind fun d S1 => match fldsOf S1 d with
  | some (c, ns, vs) => (match tab.lookup c with
    | some .fld => (match lookN f ns vs with
      | some v => .ok v S1
      | none => .bad)
    | some (.prop g) => (match g [d] S1 with
      | .ok v S2 => .ok v S2
      | _ => .bad)
    | some (.con v) => if f ∈ ns then .bad else .ok v S1
    | none => .bad)
  | none => .bad
def AtOk (X : Cx) (f : Str) (C : Addr) : AtK → Prop
  | .fld => NoAttr X.K C f
  | .prop g => ∃ (p a : Addr) (k : Nat), PropOf X.K C f p a ∧ FZ X.prog X.w X.K X.mg X.base k a g ∧ Room (k + 1) X.A
  | .con d => ∃ (v : V) (u : Value), Con X.K C f v u ∧ ∀ ρ H, Rep X.K X.mg ρ H d v
structure AttrOk (X : Cx) (f : Str) (tab : List (Str × AtK)) : Prop where
  at_ : ∀ c t, tab.lookup c = some t → ∀ C, X.mg c = some (.ref C) → Cls X.K C ∧ AtOk X f C t
theorem attr_nil : AttrOk X m [] := ⟨fun c g h => by cases h⟩
theorem attr_cons {c : Str} {C : Addr} {t : AtK} {tab : List (Str × AtK)} (hm : X.mg c = some (.ref C)) (hc : Cls X.K C) (ha : AtOk X m C t) (h : AttrOk X m tab) : AttrOk X m ((c, t) :: tab) := ⟨fun c' g' h' C' hm' => by
  rw [List.lookup_cons] at h'
  cases q : c' == c with
  | true =>
    rw [q] at h'
    cases h'
    have : c' = c := by simpa using q
    subst this
    rw [hm] at hm'
    cases hm'
    exact ⟨hc, ha⟩
  | false =>
    rw [q] at h'
    exact h.at_ c' g' h' C' hm'⟩
theorem getprop_okZ {pins : List (Addr × Obj)} {σ : L2.St} {H : Hp} {s : Shared} {Q : VK} {b : Bool} {E' : Value → Shared → Prop} {fl : Str} {a dx p' : Addr} {fs : List (Str × V)} {sp : Sp} (I : Inv X pins σ H s) (ea : H a = some (.ins C dx fs)) (c : Cls X.K C) (hp : PropOf X.K C fl p' f)
    (F : FnR X.prog X.w X.K X.mg X.base (L2.CX X.prog X.w) k f sp) (hr : Room (k + 1) X.A) (h : sp [.ref a] H Q (fun _ _ _ => False)) :
    wpAny (model X.prog X.w) X.A (getAttr (.ref a) fl b) (EP X pins σ Q) E' s := by
  obtain ⟨mA, O, _, _, _, _⟩ := ins_get I.hok ea
  obtain ⟨od, J, _⟩ := O.look
  obtain ⟨rest, hrec⟩ := hp.rec_
  have I1 := I.tok (s.toks + 1)
  have hc : (PySem.W.clsIn X.K C).isSome = true := by
    obtain ⟨cd, hc, _⟩ := PySem.W.any_some c.hd
    rw [hc]
    rfl
  refine PySem.W.get_bind I.kIn J (PySem.W.plainGet_of (c.get fl)).1 (PySem.W.findObj_data hc hp.at_ hp.get hp.tak) (PySem.W.plainGet_of (c.get fl)).2 (wpAny_call (PySem.W.prop_get (s := { s with toks := s.toks + 1 }) I.kIn hrec ?_))
  refine codeAny_mono (F X.A.in1 X.stack { s with toks := s.toks + 1 } H [.ref a] [.ref a] Q (fun _ _ _ => False) hr.in1 I1.env0.in1 (.cons rfl .nil) h) fun r s' hq => ?_
  cases r with
  | error er => exact False.elim (passes_call (X := X.nox) (W := WF) takesF (fun _ _ _ _ z => z) pins σ H { s with toks := s.toks + 1 } er s' (I1.wish _) hq)
  | ok fl =>
    cases fl with
    | ret u =>
      obtain ⟨v, H', I3, rv, q3⟩ := I1.after hq
      show wpAny _ _ (handedOut u) _ _ _
      rw [PySem.W.handedOut_of (handed_of rv)]
      exact wpAny_pure ⟨v, H', I3, rv, q3⟩
    | next => exact False.elim hq
    | brk => exact False.elim hq
    | cont => exact False.elim hq
theorem r_attrZ {fl : Str} {tab : List (Str × AtK)} (ht : AttrOk X fl tab) (ho : E X W o fo) (hb : attributeBase o fl X.env (eval o X.env) = eval o X.env := by rfl) : E X W (.Attribute o fl pos) (eAttrZ fl tab fo) := by
  refine ⟨fun pins s σ H Q I h => ?_⟩
  obtain ⟨ρ, S, sl, w, rs, p⟩ := h
  refine attr_of hb (thn (ho.run pins s σ H _ I ⟨ρ, S, sl, w, rs, PostE.bindE p⟩) fun u s1 ⟨x, H1, I1, rx, ρ1, S1, d, x1, w1, r1, _, p1⟩ => ?_)
  split at p1
  · rename_i c ns vs ef
    obtain ⟨a, C, dx, fs, ex, hm, ea, hn, rl⟩ := flds_rep w1 r1 ef
    subst ex
    obtain rfl : u = Value.ref a := rx
    split at p1
    · rename_i et
      obtain ⟨hc, ha⟩ := ht.at_ c _ et C hm
      split at p1
      · rename_i v ev
        obtain ⟨v', h1, h2⟩ := lookN_rep hn rl ev
        exact getattr_ok I1 ea hc ha h1 fun u s2 I2 ru => ⟨v', H1, I2, ru, post_ok p1 w1 h2⟩
      · exact p1.elim
    · rename_i g et
      obtain ⟨hc, p', a', k, hp, F, hr⟩ := ht.at_ c _ et C hm
      refine getprop_okZ I1 ea hc hp F hr ⟨ρ1, S1, [d], w1, RepL.cons r1 RepL.nil, ?_⟩
      split at p1
      · rename_i v S2 eg
        rw [eg]
        exact fun v' ρ2 H2 x2 w2 r2 => p1 v' ρ2 H2 x2 w2 r2
      · exact p1.elim
    · rename_i v et
      obtain ⟨hc, v', u', hk, hr⟩ := ht.at_ c _ et C hm
      split at p1
      · exact p1.elim
      · rename_i hmem
        exact getcon_ok I1 ea hc hk (lookN_none hn hmem) fun s2 I2 => ⟨v', H1, I2, hk.rel, post_ok p1 w1 (hr ρ1 H1)⟩
    · exact p1.elim
  · exact p1.elim
end
end Z
/-! ZD: what the printed derivations use. -/
namespace Z
open PySem PySem.Spec L2

section
variable {X : Cx}
def addX : Sem2 := orS2 addI (orS2 addS (orS2 addL addT))
theorem d_addX : OpD X (binaryOp .Add) addX := d_addI.or (d_addS.or (d_addL.or d_addT))
def mulX : Sem2 := orS2 mulI mulL
def mulXH : Sem2 := orS2 mulI mulLH
theorem d_mulX : OpD X (binaryOp .Mult) mulX := d_mulI.or d_mulL
theorem d_mulXH : OpD X (binaryOp .Mult) mulXH := d_mulI.or d_mulLH
def ltX : Sem2 := orS2 ltI ltS
theorem d_ltX : OpD X (compareOp .Lt) ltX := d_ltI.or d_ltS
def inX : Sem2 := orS2 (inSg false) (orS2 (inDct false) (inSq false))
def ninX : Sem2 := orS2 (inSg true) (orS2 (inDct true) (inSq true))
theorem d_inX (hu : X.A.units + 64 < cLine) : OpD X (compareOp .In) inX := d_inSg.or ((d_inDct (Nat.lt_of_le_of_lt (Nat.add_le_add_left (by decide : 1 ≤ 64) _) hu)).or d_inSq)
theorem d_ninX (hu : X.A.units + 64 < cLine) : OpD X (compareOp .NotIn) ninX := d_notInSg.or ((d_notInDct (Nat.lt_of_le_of_lt (Nat.add_le_add_left (by decide : 1 ≤ 64) _) hu)).or d_notInSq)
def ixX : Sem2 := orS2 ixSeq ixDct
theorem d_ixX (hu : X.A.units + 64 < cLine) : IxD X ixX := d_ixSeq.or (d_ixDct (Nat.lt_of_le_of_lt (Nat.add_le_add_left (by decide : 1 ≤ 64) _) hu))
def lenX : SemL := orSL semLen semLenD
theorem d_lenX : CallD X (.builtin "len") lenX := d_len.or d_lenD
def isiX : SemL := orSL semIsi semIsiT
theorem d_isiX : CallD X (.builtin "isinstance") isiX := d_isi.or d_isiT
def dictX : SemL := orSL semDictD semDictP
theorem d_dictX (hc : X.calm = true) : CallD X (.type "dict") dictX := d_dictD.or (d_dictP hc)
def listX : SemL := semListOf
def listXH : SemL := semListOfH
theorem hu1 {A : Around} (hu : A.units + 64 < cLine) : A.units + 1 < cLine := Nat.lt_of_le_of_lt (Nat.add_le_add_left (by decide : 1 ≤ 64) _) hu
end
/-! ### name = [..], frozen -/
section
variable {X : Cx} {W : WX} {pos : Pos} {elt tg iter : Expr} {ifs : List Expr} {scope : Scope} {own : List (Str × Nat)} {it : IX} {g : GX} {bt : BX} {fe : EX}
theorem s_setLcF {i : Nat} {y : Str} {py spos : Pos} (hc : X.calm = true) (hN : X.N.Nodup) (ok : BlkOk X.N X.env.scope scope own)
    (hsw : swapsWith (.ListComp elt [⟨tg, iter, ifs, 0⟩] scope pos) (some (.Name y py)) spos.line X.env = pure true) (hi : EI X W tg iter it)
    (hg : ∀ (s : Shared) (H : Hp) (C : Addr) (cl : List (Str × Addr)) (fp : List Addr), EGw (X.blk s H scope (compEnvC scope cl C X.env) fp) WF (own.map (·.2)) tg g) (ht : ∀ (s : Shared) (H : Hp) (C : Addr) (cl : List (Str × Addr)) (fp : List Addr), ETs (X.blk s H scope (compEnvC scope cl C X.env) fp) WF ifs bt)
    (he : ∀ (s : Shared) (H : Hp) (C : Addr) (cl : List (Str × Addr)) (fp : List Addr), E (X.blk s H scope (compEnvC scope cl C X.env) fp) WF elt fe) (hy : X.N[i]? = some y := by rfl) (hyl : X.env.scope.names.lookup y = some .local := by rfl) (hs : ∀ x, foldedSetIterable iter X.env x = pure x := by intro _; rfl) :
    ES X W (.Assign [.Name y py] (.ListComp elt [⟨tg, iter, ifs, 0⟩] scope pos) spos) (sAsg (eFin (eLc it g bt fe (own.map (·.2)))) (gSet i)) :=
  PS.imp (ps_setLc (tt := trB X.K X.mg WF bt) (te := trE X.K X.mg WF fe) hc hN hy hyl hsw hi ok (fun s H C cl fp => (hg s H C cl fp).all) ht he hs) fun D σ H ⟨ρ, S, sl, w, rs, p⟩ =>
    lc_imp' (Q := fun x H1 => gName i x σ H1 D.nx) ⟨ρ, S, sl, w, rs, fin_imp w (PostE.mono (PostS.ofE (o := eFin (eLc it g bt fe (own.map (·.2))) sl S) rs p) fun v H1 ⟨ρ1, S1, d, w1, r1, rv, p1⟩ => p1 _ ρ1 H1 Ext.refl w1 (r1.set rv i))⟩
end

/-! ### globals that are constants -/
section
variable {X : Cx} {W : WX} {x : Str} {pos : Pos}
theorem r_gint {i : Int} (h : ∃ t, X.mg x = some (.int i t)) (hg : Gl X x := by rfl) (hd : (x == ("__debug__" : Str)) = false := by decide) : E X W (.Name x pos) (eLit (.int i)) := by
  obtain ⟨t, h⟩ := h
  exact r_glob (v := .int i) hg h ⟨t, rfl⟩ (fun _ _ => mk_int) hd
theorem r_gstr {i : Str} (h : ∃ t, X.mg x = some (.str i t)) (hg : Gl X x := by rfl) (hd : (x == ("__debug__" : Str)) = false := by decide) : E X W (.Name x pos) (eLit (.str i)) := by
  obtain ⟨t, h⟩ := h
  exact r_glob (v := .str i) hg h ⟨t, rfl⟩ (fun _ _ => mk_str) hd
end
/-! ### targets that end -/
def NxB (g : GX) : Prop := ∀ d sl S, (∃ sl' S', g d sl S = .nx sl' S') ∨ g d sl S = .bad
def NxBs (g : GXs) : Prop := ∀ d sl S, (∃ sl' S', g d sl S = .nx sl' S') ∨ g d sl S = .bad
theorem nx_nil : NxBs gNilX := fun d sl S => by cases d with | nil => exact .inl ⟨_, _, rfl⟩ | cons _ _ => exact .inr rfl
theorem nx_cons {g : GX} {gs : GXs} (h : NxB g) (hs : NxBs gs) : NxBs (gConsX g gs) := fun d sl S => by
  cases d with
  | nil => exact .inr rfl
  | cons x r =>
    show (∃ sl' S', (g x sl S).then (gs r) = _) ∨ (g x sl S).then (gs r) = _
    rcases h x sl S with ⟨sl', S', e⟩ | e
    · rw [e]; exact hs r sl' S'
    · rw [e]; exact .inr rfl
theorem nx_tup {gs : GXs} (hs : NxBs gs) : NxB (gTupX gs) := fun d sl S => by
  cases d with
  | tup xs => exact hs xs sl S
  | _ => exact .inr rfl
theorem len_consN {g : GX} {gs : GXs} {n : Nat} (hg : NxB g) (hr : ∀ ds sl S, gs ds sl S ≠ .bad → ds.length = n) : ∀ ds sl S, gConsX g gs ds sl S ≠ .bad → ds.length = n + 1 := len_cons hr hg
/-! ### name op= e, ints -/
def sAug (i : Nat) (op : Int → Int → Int) (fe : EX) : SX := fun sl S => match sl[i]? with
  | some (some (.int a)) => (fe sl S).toS sl fun e S1 => (match e with
    | .int b => .nx (sl.set i (some (.int (op a b)))) S1
    | _ => .bad)
  | _ => .bad
section
variable {X : Cx} {W : WX} {x : Str} {pos pos' : Pos} {e : Expr} {fe : EX}
theorem s_aug {i : Nat} {op : Operator} {g : Int → Int → Int} (hN : X.N.Nodup) (ho : PIp X op (ipI g)) (he : E X W e fe) (hi : X.N[i]? = some x := by rfl) (hx : Loc X.env.scope x := by first | exact Or.inl rfl | exact Or.inr rfl) (hf : X.fn x = true ∨ X.env.scope.names.lookup x = some .local := by first | exact .inl rfl | exact .inr rfl) :
    ES X W (.AugAssign (.Name x pos') op e pos) (sAug i g fe) := by
  refine PS.imp (ps_aug hN hi hx he ho hf) fun D σ H ⟨ρ, S, sl, w, rs, p⟩ => ?_
  unfold sAug at p
  split at p
  · rename_i a ea
    obtain ⟨v, e1, r1⟩ := rs.at_ i _ ea
    refine ⟨v, e1, ρ, S, sl, w, rs, PostE.mono (PostS.ofEx rs p) fun y H1 ⟨ρ1, S1, d, x1, w1, rs1, r2, p1⟩ => ?_⟩
    split at p1
    · rename_i b
      exact ⟨a, b, rep_int (r1), rep_int r2, p1 _ ρ1 H1 Ext.refl w1 (rs1.set (mk_int (i := g a b)) i)⟩
    · exact p1.elim
  · exact p.elim
end
/-! ### tables -/
section
variable {X : Cx} {f : Str}
theorem cls_nil : ∀ c ∈ ([] : List Str), ∀ C, X.mg c = some (.ref C) → Cls X.K C ∧ NoAttr X.K C f := fun c h => by cases h
theorem cls_cons {c : Str} {C : Addr} {cs : List Str} (hm : X.mg c = some (.ref C)) (hc : Cls X.K C) (hn : NoAttr X.K C f) (h : ∀ c ∈ cs, ∀ C, X.mg c = some (.ref C) → Cls X.K C ∧ NoAttr X.K C f) : ∀ c' ∈ c :: cs, ∀ C, X.mg c' = some (.ref C) → Cls X.K C ∧ NoAttr X.K C f := fun c' h' C' hm' => by
  rcases List.mem_cons.mp h' with e | e
  · subst e
    rw [hm] at hm'
    cases hm'
    exact ⟨hc, hn⟩
  · exact h c' e C' hm'
end
theorem fz_bad {P : Program} {w : World} {K : PySem.W.Frag} {mg : Str → Option Value} {base : Heap} {k : Nat} {f : Addr} : FZ P w K mg base k f (fun _ _ => .bad) := fun A outer s H us vs Q E hr e0 r ⟨_, _, _, _, _, p⟩ => p.elim
/-! ### the law's end -/
theorem cx_false {P : Program} {w : World} {outer : List Env} {H : Hp} {s : Shared} {e : Value} {s' : Shared} (h : L2.CX P w outer H s (fun _ _ _ => False) e s') : False := by
  obtain ⟨_, _, _, _, _, _, _, _, _, _, _, _, z⟩ := h
  exact z
theorem law_end {K : PySem.W.Frag} {mg : Str → Option Value} {H : Hp} {a : Addr} {ns : List Int} {g : SemL} (hS : SqL K H a (ns.map V.int)) (h : ∃ S, g [.scr ns] [] = .ok (.bl true) S) : spOf K mg 1 g [.ref a] H (fun v _ => v = .bl true) fun _ _ _ => False := by
  obtain ⟨S, e⟩ := h
  refine ⟨[], [], [.scr ns], rfl, ⟨rfl, List.nodup_nil, by simp, by simp⟩, RepL.cons ?_ RepL.nil, ?_⟩
  · rw [Rep]
    refine ⟨a, rfl, ?_⟩
    rcases hS with h | h
    · exact .inl ⟨by simp, h⟩
    · exact .inr h
  · rw [e]
    exact fun v ρ' H' _ _ r => rep_bl r
def spLaw (K : PySem.W.Frag) : Sp := fun vs H Q _ => ∃ (a : Addr) (ns : List Int), vs = [.ref a] ∧ SqL K H a (ns.map V.int) ∧ ns.length ≤ 63 ∧ ∀ H', Q (.bl true) H'
theorem law_fn {P : Program} {w : World} {K : PySem.W.Frag} {mg : Str → Option Value} {base : Heap} {k : Nat} {f : Addr} {fd : FuncData} {ps : List Str} {g : SemL} (F : FnOk P w K mg base (L2.CX P w) k f fd ps (spOf K mg 1 g)) (h : ∀ ns : List Int, ns.length ≤ 63 → ∃ S, g [.scr ns] [] = .ok (.bl true) S) :
    FnOk P w K mg base (L2.CX P w) k f fd ps (spLaw K) := F.imp fun vs H Q E ⟨a, ns, ev, hS, hl, q⟩ => by
  subst ev
  obtain ⟨ρ, S, ds, h1, h2, h3, h4⟩ := law_end (mg := mg) (H := H) hS (h ns hl)
  obtain ⟨S', e⟩ := h ns hl
  refine ⟨[], [], [.scr ns], rfl, ⟨rfl, List.nodup_nil, by simp, by simp⟩, RepL.cons ?_ RepL.nil, ?_⟩
  · rw [Rep]
    refine ⟨a, rfl, ?_⟩
    rcases hS with h | h
    · exact .inl ⟨by simp, h⟩
    · exact .inr h
  · rw [e]
    exact fun v ρ' H' _ _ r => by rw [rep_bl r]; exact q H'
theorem walkZ {l : PySem.W.OpenLaw} {q : Program} {loose : List Str} {XP : (Str → Option Value) → Heap → Prop} {YP : World → Heap → Prop} {d : DefRec} {K : Params → PySem.W.Frag} {k : Nat} {x : Str} (hn : l.most = some 63) (hdf : d.params.defaults = []) (hr : Room k callerA)
    (hY : ∀ (w : World) (h : Heap), YP w h → (K w.params).In h)
    (F : ∀ (w : World) (mg : Str → Option Value) (fa : Addr) (h : Heap), (K w.params).In h → h.Ns mainGlobals mg → mg d.name = some (.ref fa) →
      ∃ fd : FuncData, (∀ (s : Shared) (u : Value), BindsTo s fd ⟨[u], []⟩ [(x, u)]) ∧ ∀ base : Heap, (K w.params).In base → base.Ns mainGlobals mg → FnOk l.prog w (K w.params) mg base (L2.CX l.prog w) k fa fd [x] (spLaw (K w.params))) :
    PySem.W.WalkO q loose XP YP l.row.toRowW d [] (fun f vs => PySem.call f vs) :=
  L2.walk_of (n := 63) (k := k) (x := x) (CX := fun w => L2.CX l.prog w) (sp := fun w => spLaw (K w.params)) hn (by decide) hdf hr hY F (fun _ _ a ns hl _ hS => ⟨a, ns, rfl, hS, hl, fun _ => rfl⟩) fun _ _ _ _ _ z => cx_false z
end Z
/-! ZE: how the mirrors compute: plain equations. -/
namespace Z
open PySem PySem.Spec L2

@[simp] theorem bind_ok {α β : Type} (a : α) (S : Store) (k : α → Store → Out β) : (Out.ok a S).bind k = k a S := (rfl)
@[simp] theorem bind_bad {α β : Type} (k : α → Store → Out β) : (Out.bad : Out α).bind k = .bad := (rfl)
@[simp] theorem toS_ok {α : Type} (a : α) (S : Store) (sl : Sl) (k : α → Store → SO) : (Out.ok a S).toS sl k = k a S := (rfl)
@[simp] theorem toS_bad {α : Type} (sl : Sl) (k : α → Store → SO) : (Out.bad : Out α).toS sl k = .bad := (rfl)
@[simp] theorem then_nx (sl : Sl) (S : Store) (g : SX) : (SO.nx sl S).then g = g sl S := (rfl)
@[simp] theorem then_rt (d : D) (S : Store) (g : SX) : (SO.rt d S).then g = .rt d S := (rfl)
@[simp] theorem then_bk (sl : Sl) (S : Store) (g : SX) : (SO.bk sl S).then g = .bk sl S := (rfl)
@[simp] theorem then_ct (sl : Sl) (S : Store) (g : SX) : (SO.ct sl S).then g = .ct sl S := (rfl)
@[simp] theorem out_rt (d : D) (S : Store) : (SO.rt d S).out = .ok d S := (rfl)
@[simp] theorem out_nx (sl : Sl) (S : Store) : (SO.nx sl S).out = .ok .non S := (rfl)
@[simp] theorem shaped_int (i : Int) : SeqAt.shaped (.int i) = true := by simp [SeqAt.shaped, PyData.canLay0, PyData.depth]
theorem shaped_str {i : Str} (h : PyData.strOk i = true) : SeqAt.shaped (.str i) = true := by simp [SeqAt.shaped, PyData.canLay0, PyData.depth, h]
@[simp] theorem shaped_bool (i : Bool) : SeqAt.shaped (.bool i) = true := by simp [SeqAt.shaped, PyData.canLay0, PyData.depth]
@[simp] theorem eqD_int (i j : Int) (S : Store) : eqD false (.int i) (.int j) S = .ok (.bl (decide (i = j))) S := by
  simp [eqD, toP, toP0, PyData.eqv]
  rfl
@[simp] theorem neD_int (i j : Int) (S : Store) : eqD true (.int i) (.int j) S = .ok (.bl (!decide (i = j))) S := by
  simp [eqD, toP, toP0, PyData.eqv]
  rfl
@[simp] theorem addX_int (i j : Int) (S : Store) : addX (.int i) (.int j) S = .ok (.int (i + j)) S := (rfl)
@[simp] theorem subI_int (i j : Int) (S : Store) : subI (.int i) (.int j) S = .ok (.int (i - j)) S := (rfl)
@[simp] theorem ltX_int (i j : Int) (S : Store) : ltX (.int i) (.int j) S = .ok (.bl (decide (i < j))) S := (rfl)
@[simp] theorem leI_int (i j : Int) (S : Store) : leI (.int i) (.int j) S = .ok (.bl (decide (i ≤ j))) S := (rfl)
@[simp] theorem gtI_int (i j : Int) (S : Store) : gtI (.int i) (.int j) S = .ok (.bl (decide (j < i))) S := (rfl)
@[simp] theorem geI_int (i j : Int) (S : Store) : geI (.int i) (.int j) S = .ok (.bl (decide (j ≤ i))) S := (rfl)
theorem modI_int {i j : Int} (h : 0 < j) (S : Store) : modI (.int i) (.int j) S = .ok (.int (i % j)) S := by simp [modI, iiC, h]
theorem divI_int {i j : Int} (h : 0 < j) (h2 : j.natAbs.log2 < 9000) (S : Store) : divI (.int i) (.int j) S = .ok (.int (i / j)) S := by simp [divI, iiC, divB, h, h2]
theorem mulX_int {i j : Int} (h : i.natAbs.log2 + j.natAbs.log2 < 1000000) (S : Store) : mulX (.int i) (.int j) S = .ok (.int (i * j)) S := by
  simp [mulX, orS2, mulI, iiC, mulB, h]
theorem ix_ptr {S : Store} {n : Nat} {xs : List D} {i : Int} (h : S[n]? = some (.lst xs)) : ixX (.ptr n) (.int i) S = match atI xs i with
    | some x => .ok x S
    | none => .bad := by
  simp only [ixX, orS2, ixSeq, asS, asL, h]
  cases e : atI xs i with
  | some x => rfl
  | none => simp [ixDct, asD, h]
theorem ix_lst {S : Store} {xs : List D} {i : Int} : ixX (.lst xs) (.int i) S = match atI xs i with
    | some x => .ok x S
    | none => .bad := by
  simp only [ixX, orS2, ixSeq, asS, asL]
  cases e : atI xs i with
  | some x => rfl
  | none => simp [ixDct, asD]
theorem ix_tup {S : Store} {xs : List D} {i : Int} : ixX (.tup xs) (.int i) S = match atI xs i with
    | some x => .ok x S
    | none => .bad := by
  simp only [ixX, orS2, ixSeq, asS]
  cases e : atI xs i with
  | some x => rfl
  | none => simp [ixDct, asD]
/-! ### stores that only differ in what speaks of the old -/
structure Keep (S S1 : Store) : Prop where
  len : S1.length = S.length
  at_ : ∀ (i : Nat) (m : MO), S1[i]? = some m → S[i]? = some m ∨ underM S.length m = true
theorem Keep.refl (S : Store) : Keep S S := ⟨rfl, fun i m h => .inl h⟩
theorem Keep.trans {S S1 S2 : Store} (h : Keep S S1) (h' : Keep S1 S2) : Keep S S2 := ⟨h'.len.trans h.len, fun i m e => by
  rcases h'.at_ i m e with q | q
  · exact h.at_ i m q
  · rw [h.len] at q; exact .inr q⟩
theorem Keep.set {S : Store} {n : Nat} {m : MO} (h : underM S.length m = true) : Keep S (S.set n m) := ⟨by simp, fun i m' e => by
  by_cases q : n = i
  · subst q
    by_cases hi : n < S.length
    · rw [List.getElem?_set_self hi] at e
      cases e
      exact .inr h
    · rw [List.getElem?_eq_none (by simpa using hi)] at e; cases e
  · rw [List.getElem?_set_ne q] at e
    exact .inl e⟩
theorem Keep.closed {S S1 T : Store} (h : Keep S S1) : Closed S (S1 ++ T) := fun i m hi e => by
  rw [List.getElem?_append_left (by rw [h.len]; exact hi)] at e
  exact h.at_ i m e
theorem fin_keep {S S1 T : Store} {d d' : D} (h : Keep S S1) (hd : frzD (frzP (S1 ++ T) S.length 6) d = some d') : fin S (.ok d (S1 ++ T)) = .ok d' S1 := by
  simp only [fin, if_pos h.closed, hd]
  rw [← h.len, List.take_left']
  rfl
theorem fin_keep0 {S S1 : Store} {d d' : D} (h : Keep S S1) (hd : frzD (frzP S1 S.length 6) d = some d') : fin S (.ok d S1) = .ok d' S1 := by
  have := fin_keep (T := []) h (by rw [List.append_nil]; exact hd)
  rwa [List.append_nil] at this
/-- what has no handles stays -/
theorem frz_of {k : Nat} {S : Store} {f : Nat} {d : D} (h : under k d = true) : frzD (frzP S k f) d = some d := frz_under (fun n hn => frzP_lt hn) d h
theorem frzL_of {k : Nat} {S : Store} {f : Nat} {ds : List D} (h : underL k ds = true) : frzL (frzP S k f) ds = some ds := frz_underL (fun n hn => frzP_lt hn) ds h
theorem frz_lst {S1 : Store} {acc : List D} (h : underL S1.length acc = true) : frzD (frzP (S1 ++ [.lst acc]) S1.length 6) (.ptr S1.length) = some (.lst acc) := by
  rw [frzD, frzP, if_neg (Nat.lt_irrefl _)]
  rw [List.getElem?_append_right (Nat.le_refl _)]
  simp only [Nat.sub_self, List.getElem?_cons_zero]
  rw [frzL_of h]
  rfl
theorem fin_lst {S S1 : Store} {acc : List D} (h : Keep S S1) (hu : underL S.length acc = true) : fin S (.ok (.ptr S.length) (S1 ++ [.lst acc])) = .ok (.lst acc) S1 := by
  refine fin_keep h ?_
  rw [← h.len] at hu ⊢
  exact frz_lst hu
end Z
/-! ZF: what a mirror ends in: rules for plain laws. -/
namespace Z
open PySem PySem.Spec L2

/-! ### texts by their codes -/
abbrev tx (l : List Nat) : Str := ⟨l.toArray⟩
abbrev sg (c : Nat) : D := .str (tx [c])
@[simp] theorem tx_len (l : List Nat) : (tx l).length = l.length := by simp [Str.length]
theorem tx_eta (s : Str) : tx s.cps.toList = s := by cases s; simp [tx]
theorem tx_ind {P : Str → Prop} (h : ∀ l, P (tx l)) (s : Str) : P s := by rw [← tx_eta s]; exact h _
@[simp] theorem tx_inj {a b : List Nat} : tx a = tx b ↔ a = b := by simp [tx]
@[simp] theorem tx_app (a b : List Nat) : tx a ++ tx b = tx (a ++ b) := by
  show (⟨a.toArray ++ b.toArray⟩ : Str) = _
  simp [tx]
@[simp] theorem signsD_tx (l : List Nat) : signsD (tx l) = l.map sg := by simp [signsD, tx]
@[simp] theorem signsS_tx (l : List Nat) : signsS (tx l) = l.map fun c => tx [c] := by simp [signsS, tx]

/-- d is a bool with k -/
def isB (d : D) (k : Bool → Prop) : Prop := match d with
  | .bl b => k b
  | _ => False
@[simp] theorem isB_bl {b : Bool} {k : Bool → Prop} : isB (.bl b) k = k b := (rfl)
theorem isB_iff {d : D} {k : Bool → Prop} : isB d k ↔ ∃ b, d = .bl b ∧ k b := by cases d <;> simp [isB, -Bool.exists_bool]
/-- o is something with k -/
def isO {α : Type} (o : Option α) (k : α → Prop) : Prop := match o with
  | some a => k a
  | none => False
@[simp] theorem isO_some {α : Type} {a : α} {k : α → Prop} : isO (some a) k = k a := (rfl)
@[simp] theorem isO_none {α : Type} {k : α → Prop} : isO none k = False := (rfl)
/-! ### ends -/
@[irreducible] def We {α : Type} (o : Out α) (P : α → Store → Prop) (X : D → Store → Prop) : Prop := match o with
  | .ok a S => P a S
  | .ex e S => X e S
  | .bad => False
structure Q0 where
  nx : Sl → Store → Prop
  bk : Sl → Store → Prop
  ct : Sl → Store → Prop
  rt : D → Store → Prop
  ex : D → Sl → Store → Prop
@[irreducible] def Wo (o : SO) (Q : Q0) : Prop := match o with
  | .nx sl S => Q.nx sl S
  | .bk sl S => Q.bk sl S
  | .ct sl S => Q.ct sl S
  | .rt d S => Q.rt d S
  | .ex e sl S => Q.ex e sl S
  | .bad => False
section
variable {α β : Type} {P : α → Store → Prop} {X : D → Store → Prop} {Q : Q0} {S : Store} {sl : Sl}
@[simp] theorem we_ok {a : α} : We (.ok a S) P X = P a S := by unfold We; rfl
@[simp] theorem we_ex {e : D} : We (.ex e S : Out α) P X = X e S := by unfold We; rfl
@[simp] theorem we_bad : We (.bad : Out α) P X = False := by unfold We; rfl
theorem we_bind {o : Out α} {k : α → Store → Out β} {P : β → Store → Prop} : We (o.bind k) P X = We o (fun a S' => We (k a S') P X) X := by cases o <;> simp [Out.bind]
@[simp] theorem wo_nx : Wo (.nx sl S) Q = Q.nx sl S := by unfold Wo; rfl
@[simp] theorem wo_bk : Wo (.bk sl S) Q = Q.bk sl S := by unfold Wo; rfl
@[simp] theorem wo_ct : Wo (.ct sl S) Q = Q.ct sl S := by unfold Wo; rfl
@[simp] theorem wo_rt {d : D} : Wo (.rt d S) Q = Q.rt d S := by unfold Wo; rfl
@[simp] theorem wo_ex {e : D} : Wo (.ex e sl S) Q = Q.ex e sl S := by unfold Wo; rfl
@[simp] theorem wo_bad : Wo .bad Q = False := by unfold Wo; rfl
theorem wo_then {o : SO} {g : SX} : Wo (o.then g) Q = Wo o { Q with nx := fun sl' S' => Wo (g sl' S') Q } := by cases o <;> simp [SO.then]
theorem wo_toS {o : Out α} {k : α → Store → SO} : Wo (o.toS sl k) Q = We o (fun a S' => Wo (k a S') Q) (fun e S' => Q.ex e sl S') := by cases o <;> simp [Out.toS]
theorem We.mono {o : Out α} {P' : α → Store → Prop} {X' : D → Store → Prop} (h : We o P X) (hp : ∀ a S, P a S → P' a S) (hx : ∀ e S, X e S → X' e S) : We o P' X' := by
  cases o with
  | ok a S => rw [we_ok] at h ⊢; exact hp _ _ h
  | ex e S => rw [we_ex] at h ⊢; exact hx _ _ h
  | bad => rw [we_bad] at h; exact h.elim
theorem We.post {o : Out α} {P' : α → Store → Prop} (h : We o P X) (hp : ∀ a S, P a S → P' a S) : We o P' X := h.mono hp fun _ _ q => q
theorem Wo.mono {o : SO} {Q' : Q0} (h : Wo o Q) (h1 : ∀ sl S, Q.nx sl S → Q'.nx sl S) (h2 : ∀ sl S, Q.bk sl S → Q'.bk sl S) (h3 : ∀ sl S, Q.ct sl S → Q'.ct sl S) (h4 : ∀ d S, Q.rt d S → Q'.rt d S) (h5 : ∀ e sl S, Q.ex e sl S → Q'.ex e sl S) : Wo o Q' := by
  cases o with
  | nx sl S => rw [wo_nx] at h ⊢; exact h1 _ _ h
  | bk sl S => rw [wo_bk] at h ⊢; exact h2 _ _ h
  | ct sl S => rw [wo_ct] at h ⊢; exact h3 _ _ h
  | rt d S => rw [wo_rt] at h ⊢; exact h4 _ _ h
  | ex e sl S => rw [wo_ex] at h ⊢; exact h5 _ _ _ h
  | bad => rw [wo_bad] at h; exact h.elim
/-- the same end, told as an equation -/
theorem we_eq {o : Out α} {a : α} (h : o = .ok a S) (p : P a S) : We o P X := by rw [h, we_ok]; exact p
theorem We.get {o : Out α} (h : We o P (fun _ _ => False)) : ∃ a S, o = .ok a S ∧ P a S := by
  cases o with
  | ok a S => rw [we_ok] at h; exact ⟨a, S, rfl, h⟩
  | ex e S => rw [we_ex] at h; exact h.elim
  | bad => rw [we_bad] at h; exact h.elim

/-! ### statements -/
variable {f g : SX} {c : BX} {fe : EX} {fa : AX} {tg : GX}
@[simp] theorem w_sNil : Wo (sNil sl S) Q = Q.nx sl S := by unfold sNil; simp
@[simp] theorem w_sBad : Wo (sBad sl S) Q = False := by unfold sBad; simp
@[simp] theorem w_sBrk : Wo (sBrk sl S) Q = Q.bk sl S := by unfold sBrk; simp
@[simp] theorem w_sCnt : Wo (sCnt sl S) Q = Q.ct sl S := by unfold sCnt; simp
@[simp] theorem w_sSeq : Wo (sSeq f g sl S) Q = Wo (f sl S) { Q with nx := fun sl' S' => Wo (g sl' S') Q } := by unfold sSeq; exact wo_then
@[simp] theorem w_sExp : Wo (sExp fe sl S) Q = We (fe sl S) (fun _ S' => Q.nx sl S') (fun e S' => Q.ex e sl S') := by unfold sExp; rw [wo_toS]; simp only [wo_nx, wo_rt]
@[simp] theorem w_sRet : Wo (sRet fe sl S) Q = We (fe sl S) (fun d S' => Q.rt d S') (fun e S' => Q.ex e sl S') := by unfold sRet; rw [wo_toS]; simp only [wo_nx, wo_rt]
@[simp] theorem w_sRetN : Wo (sRetN sl S) Q = Q.rt .non S := by unfold sRetN; simp
@[simp] theorem w_sIf : Wo (sIf c f g sl S) Q = We (c sl S) (fun b S' => Wo (if b = true then f sl S' else g sl S') Q) (fun e S' => Q.ex e sl S') := by unfold sIf; exact wo_toS
@[simp] theorem w_sAsg : Wo (sAsg fe tg sl S) Q = We (fe sl S) (fun d S' => Wo (tg d sl S') Q) (fun e S' => Q.ex e sl S') := by unfold sAsg; exact wo_toS
theorem w_sPar {i j : Nat} : Wo (sPar i j fa sl S) Q = We (fa sl S) (fun ds S' => Wo (match ds with
  | [d, e] => .nx ((sl.set i (some d)).set j (some e)) S'
  | _ => .bad) Q) (fun e S' => Q.ex e sl S') := by unfold sPar; exact wo_toS
@[simp] theorem w_sPar2 {i j : Nat} {f1 f2 : EX} : Wo (sPar i j (aCons f1 (aCons f2 aNil)) sl S) Q = We (f1 sl S) (fun d S1 => We (f2 sl S1) (fun e S2 => Q.nx ((sl.set i (some d)).set j (some e)) S2) (fun e S' => Q.ex e sl S')) (fun e S' => Q.ex e sl S') := by
  rw [w_sPar]
  simp only [aCons, aNil, we_bind, we_ok, wo_nx]
theorem w_sFor {it : IX} : Wo (sFor it tg f sl S) Q = We (it sl S) (fun p S' => Wo (forL p.2 tg f p.1 sl S') Q) (fun e S' => Q.ex e sl S') := by unfold sFor; exact wo_toS
@[simp] theorem w_gSet {i : Nat} {d : D} : Wo (gSet i d sl S) Q = Q.nx (sl.set i (some d)) S := by unfold gSet; simp
@[simp] theorem w_gTup {gs : GXs} {ds : List D} : Wo (gTupX gs (.tup ds) sl S) Q = Wo (gs ds sl S) Q := by unfold gTupX; rfl
@[simp] theorem w_gCons {gs : GXs} {d : D} {r : List D} : Wo (gConsX tg gs (d :: r) sl S) Q = Wo (tg d sl S) { Q with nx := fun sl' S' => Wo (gs r sl' S') Q } := by unfold gConsX; exact wo_then
@[simp] theorem w_gNil : Wo (gNilX [] sl S) Q = Q.nx sl S := by unfold gNilX; simp
theorem w_gSub {fo fi : EX} {v : D} : Wo (gSubX fo fi v sl S) Q ↔ We (fo sl S) (fun o S1 => We (fi sl S1) (fun i S2 => match setD o i v S2 with
  | some S3 => Q.nx sl S3
  | none => False) (fun _ _ => False)) (fun _ _ => False) := by
  unfold gSubX
  cases fo sl S with
  | ok o S1 =>
    show Wo (match fi sl S1 with
      | .ok i S2 => (match setD o i v S2 with
        | some S3 => .nx sl S3
        | none => .bad)
      | _ => .bad) Q ↔ _
    rw [we_ok]
    cases fi sl S1 with
    | ok i S2 =>
      rw [we_ok]
      show Wo (match setD o i v S2 with
        | some S3 => .nx sl S3
        | none => .bad) Q ↔ _
      cases setD o i v S2 <;> simp
    | ex e S => simp
    | bad => simp
  | ex e S => simp
  | bad => simp
@[simp] theorem w_gSubI {fo fi : EX} {v : D} : Wo (gSubX fo fi v sl S) Q = We (fo sl S) (fun o S1 => We (fi sl S1) (fun i S2 => ∃ S3, setD o i v S2 = some S3 ∧ Q.nx sl S3) (fun _ _ => False)) (fun _ _ => False) := propext (w_gSub.trans ⟨fun h => h.post fun o S1 h => h.post fun i S2 h => by
    cases e : setD o i v S2 with
    | none => rw [e] at h; exact h.elim
    | some S3 => rw [e] at h; exact ⟨S3, rfl, h⟩, fun h => h.post fun o S1 h => h.post fun i S2 ⟨S3, e, h⟩ => by rw [e]; exact h⟩)
/-- a statement, then the rest, with a word between them -/
theorem wo_cut {f g : SX} {Q : Q0} (M : Sl → Store → Prop) (h : Wo (f sl S) { Q with nx := M }) (k : ∀ sl S, M sl S → Wo (g sl S) Q) : Wo (sSeq f g sl S) Q := by
  rw [w_sSeq]
  exact h.mono (fun sl S h => k sl S h) (fun _ _ h => h) (fun _ _ h => h) (fun _ _ h => h) (fun _ _ _ h => h)
/-! ### expressions -/
variable {P : D → Store → Prop} {PB : Bool → Store → Prop} {PA : List D → Store → Prop} {f1 f2 f3 : EX} {c1 c2 : BX} {fs : AX}
@[simp] theorem w_eLit {d : D} : We (eLit d sl S) P X = P d S := by unfold eLit; simp
@[simp] theorem w_eName {i : Nat} : We (eName i sl S) P X = ∃ d, sl[i]? = some (some d) ∧ P d S := by
  unfold eName
  cases e : sl[i]? with
  | none => simp
  | some o => cases o <;> simp
@[simp] theorem w_eBin {sem : Sem2} : We (eBin sem f1 f2 sl S) P X = We (f1 sl S) (fun d S1 => We (f2 sl S1) (fun e S2 => We (sem d e S2) P X) X) X := by simp only [eBin, we_bind]
@[simp] theorem w_eUn {sem : Sem1} : We (eUn sem f1 sl S) P X = We (f1 sl S) (fun d S1 => We (sem d S1) P X) X := by simp only [eUn, we_bind]
@[simp] theorem w_eArgs {sem : SemL} : We (eArgs sem fs sl S) P X = We (fs sl S) (fun ds S1 => We (sem ds S1) P X) X := by simp only [eArgs, we_bind]
@[simp] theorem w_aNil : We (aNil sl S) PA X = PA [] S := by unfold aNil; simp
@[simp] theorem w_aCons : We (aCons f1 fs sl S) PA X = We (f1 sl S) (fun d S1 => We (fs sl S1) (fun ds S2 => PA (d :: ds) S2) X) X := by simp only [aCons, we_bind, we_ok]
theorem w_bVal' : We (bVal f1 sl S) PB X = We (f1 sl S) (fun d S1 => isB d fun b => PB b S1) X := by
  simp only [bVal, we_bind]
  congr 1
  funext d S1
  cases d <;> simp [isB]
@[simp] theorem w_bVal : We (bVal f1 sl S) PB X = We (f1 sl S) (fun d S1 => isB d fun b => PB b S1) X := w_bVal'
@[simp] theorem w_bNot : We (bNot c1 sl S) PB X = We (c1 sl S) (fun b S1 => PB (!b) S1) X := by simp only [bNot, we_bind, we_ok]
@[simp] theorem w_bAnd : We (bAnd c1 c2 sl S) PB X = We (c1 sl S) (fun b S1 => if b = true then We (c2 sl S1) PB X else PB false S1) X := by
  simp only [bAnd, we_bind]
  congr 1
  funext b S1
  cases b <;> simp
@[simp] theorem w_bOr : We (bOr c1 c2 sl S) PB X = We (c1 sl S) (fun b S1 => if b = true then PB true S1 else We (c2 sl S1) PB X) X := by
  simp only [bOr, we_bind]
  congr 1
  funext b S1
  cases b <;> simp
@[simp] theorem w_eAnd : We (eAnd f1 f2 sl S) P X = We (f1 sl S) (fun d S1 => isB d fun b => if b = true then We (f2 sl S1) P X else P (.bl false) S1) X := by
  simp only [eAnd, we_bind]
  congr 1
  funext d S1
  cases d with
  | bl b => cases b <;> simp [isB]
  | _ => simp [isB]
@[simp] theorem w_eOr : We (eOr f1 f2 sl S) P X = We (f1 sl S) (fun d S1 => isB d fun b => if b = true then P (.bl true) S1 else We (f2 sl S1) P X) X := by
  simp only [eOr, we_bind]
  congr 1
  funext d S1
  cases d with
  | bl b => cases b <;> simp [isB]
  | _ => simp [isB]
@[simp] theorem w_eNot : We (eNot f1 sl S) P X = We (f1 sl S) (fun d S1 => isB d fun b => P (.bl (!b)) S1) X := by
  simp only [eNot, we_bind]
  congr 1
  funext d S1
  cases d <;> simp [isB]
@[simp] theorem w_eIf : We (eIf c1 f1 f2 sl S) P X = We (c1 sl S) (fun b S1 => if b = true then We (f1 sl S1) P X else We (f2 sl S1) P X) X := by
  simp only [eIf, we_bind]
  congr 1
  funext b S1
  cases b <;> simp
@[simp] theorem w_eChain {s1 s2 : Sem2} : We (eChain s1 s2 f1 f2 f3 sl S) P X = We (f1 sl S) (fun d S1 => We (f2 sl S1) (fun e S2 => We (s1 d e S2) (fun r S3 => isB r fun b => if b = true then We (f3 sl S3) (fun g S4 => We (s2 e g S4) P X) X else P (.bl false) S3) X) X) X := by
  simp only [eChain, we_bind]
  congr 1
  funext d S1
  congr 1
  funext e S2
  congr 1
  funext r S3
  cases r with
  | bl b => cases b <;> simp [we_bind, isB]
  | _ => simp [isB]
variable {PO : Option Int → Store → Prop} {fl fu : OX}
@[simp] theorem w_oNone : We (oNone sl S) PO X = PO none S := by unfold oNone; simp
@[simp] theorem w_oInt : We (oInt f1 sl S) PO X = We (f1 sl S) (fun d S1 => ∃ i, d = .int i ∧ PO (some i) S1) X := by
  simp only [oInt, we_bind]
  congr 1
  funext d S1
  cases d <;> simp
@[simp] theorem w_eSl {h : Bool} : We (eSl h f1 fl fu sl S) P X = We (f1 sl S) (fun d S1 => We (fl sl S1) (fun l S2 => We (fu sl S2) (fun u S3 => We (semSl h d l u S3) P X) X) X) X := by simp only [eSl, we_bind]
theorem w_eMet {ty : Store → D → Bool} {sem : SemM} : We (eMet ty sem f1 fs sl S) P X = We (f1 sl S) (fun d S1 => if ty S1 d = true then We (fs sl S1) (fun ds S2 => We (sem d ds S2) P X) X else False) X := by
  simp only [eMet, we_bind]
  congr 1
  funext d S1
  cases h : ty S1 d <;> simp [we_bind]
@[simp] theorem w_eMet_ {ty : Store → D → Bool} {sem : SemM} : We (eMet ty sem f1 fs sl S) P X = We (f1 sl S) (fun d S1 => ty S1 d = true ∧ We (fs sl S1) (fun ds S2 => We (sem d ds S2) P X) X) X := by
  rw [w_eMet]
  congr 1
  funext d S1
  cases h : ty S1 d <;> simp
theorem isO_iff {α : Type} {o : Option α} {k : α → Prop} : isO o k ↔ ∃ a, o = some a ∧ k a := by cases o <;> simp
@[simp] theorem w_eMethZ {m : Str} {tab : List (Str × SemL)} : We (eMethZ m tab f1 fs sl S) P X = We (f1 sl S) (fun d S1 => isO (fldsOf S1 d) fun p => m ∉ p.2.1 ∧ isO (tabOf tab p.1) fun g => We (fs sl S1) (fun ds S2 => We (g (d :: ds) S2) P X) X) X := by
  unfold eMethZ
  rw [we_bind]
  congr 1
  funext d S1
  cases e : fldsOf S1 d with
  | none => simp
  | some p =>
    obtain ⟨c, ns, vs⟩ := p
    dsimp only
    rw [isO_some]
    dsimp only
    by_cases hm : m ∈ ns
    · rw [if_pos hm]; simp [hm]
    · rw [if_neg hm]
      cases e2 : tabOf tab c with
      | none => simp
      | some g =>
        dsimp only
        rw [we_bind, isO_some]
        exact propext ⟨fun h => ⟨hm, h⟩, fun h => h.2⟩
/-- what stands at an attribute -/
def attP (m : Str) (d : D) (ns : List Str) (vs : List D) (S1 : Store) (P : D → Store → Prop) : AtK → Prop
  | .fld => isO (lookN m ns vs) fun v => P v S1
  | .prop g => We (g [d] S1) P (fun _ _ => False)
  | .con v => m ∉ ns ∧ P v S1
@[simp] theorem attP_fld {m : Str} {d : D} {ns : List Str} {vs : List D} {S1 : Store} : attP m d ns vs S1 P .fld = isO (lookN m ns vs) fun v => P v S1 := (rfl)
@[simp] theorem attP_prop {m : Str} {d : D} {ns : List Str} {vs : List D} {S1 : Store} {g : SemL} : attP m d ns vs S1 P (.prop g) = We (g [d] S1) P (fun _ _ => False) := (rfl)
@[simp] theorem attP_con {m : Str} {d : D} {ns : List Str} {vs : List D} {S1 : Store} {v : D} : attP m d ns vs S1 P (.con v) = (m ∉ ns ∧ P v S1) := (rfl)
@[simp] theorem w_eAttr {m : Str} {tab : List (Str × AtK)} : We (eAttrZ m tab f1 sl S) P X = We (f1 sl S) (fun d S1 => isO (fldsOf S1 d) fun p => isO (tab.lookup p.1) fun t => attP m d p.2.1 p.2.2 S1 P t) X := by
  unfold eAttrZ
  rw [we_bind]
  congr 1
  funext d S1
  cases e : fldsOf S1 d with
  | none => simp
  | some p =>
    obtain ⟨c, ns, vs⟩ := p
    dsimp only
    rw [isO_some]
    dsimp only
    cases e2 : tab.lookup c with
    | none => simp
    | some t =>
      rw [isO_some]
      cases t with
      | fld =>
        dsimp only
        rw [attP_fld]
        cases lookN m ns vs <;> simp
      | prop g =>
        dsimp only
        rw [attP_prop]
        cases g [d] S1 <;> simp
      | con v =>
        dsimp only
        rw [attP_con]
        by_cases hm : m ∈ ns <;> simp [hm]
@[simp] theorem w_sFld {cs : List Str} {m : Str} : Wo (sFldZ cs m f1 f2 sl S) Q = We (f1 sl S) (fun v S1 => We (f2 sl S1) (fun o S2 => ∃ S3, setF cs m o v S2 = some S3 ∧ Q.nx sl S3) (fun e S' => Q.ex e sl S')) (fun e S' => Q.ex e sl S') := by
  simp only [sFldZ, wo_toS]
  congr 1
  funext d S1
  congr 1
  funext o S2
  cases setF cs m o d S2 <;> simp
@[simp] theorem w_arity {n : Nat} {g : SemL} {ds : List D} (h : ds.length = n) : arity n g ds S = g ds S := if_pos h
theorem w_starS {n : Nat} {g : SemL} {ds : List D} (h : n ≤ ds.length) (h2 : ds.length ≤ 1000000) : starS n g ds S = g (ds.take n ++ [.tup (ds.drop n)]) S := if_pos ⟨h, h2⟩
/-! ### a def's end -/
def FinP (S : Store) (P : D → Store → Prop) : D → Store → Prop := fun d S' => Closed S S' ∧ ∃ d', frzD (frzP S' S.length 6) d = some d' ∧ P d' (S'.take S.length)
theorem we_fin {o : Out D} : We (fin S o) P X = We o (FinP S P) (FinP S X) := by
  cases o with
  | bad => simp [fin]
  | ok d S' =>
    simp only [fin, we_ok, FinP]
    by_cases h : Closed S S'
    · rw [if_pos h]
      cases e : frzD (frzP S' S.length 6) d <;> simp [h]
    · rw [if_neg h]; simp [h]
  | ex d S' =>
    simp only [fin, we_ex, FinP]
    by_cases h : Closed S S'
    · rw [if_pos h]
      cases e : frzD (frzP S' S.length 6) d <;> simp [h]
    · rw [if_neg h]; simp [h]
/-- behind a body -/
def QF (S : Store) (P : D → Store → Prop) (X : D → Store → Prop) : Q0 := ⟨fun _ S' => FinP S P .non S', fun _ _ => False, fun _ _ => False, FinP S P, fun e _ S' => FinP S X e S'⟩
theorem we_out {o : SO} {P X : D → Store → Prop} : We o.out P X = Wo o ⟨fun _ S' => P .non S', fun _ _ => False, fun _ _ => False, P, fun e _ S' => X e S'⟩ := by cases o <;> simp [SO.out]
theorem we_defS {N : Nat} {body : SX} {ds : List D} : We (defS N body ds S) P X = Wo (body (ds.map some ++ List.replicate (N - ds.length) none) S) (QF S P X) := by
  unfold defS
  rw [we_fin, we_out]
  rfl
theorem we_defH {N : Nat} {body : SX} {ds : List D} : We (defH N body ds S) P X = Wo (body (ds.map some ++ List.replicate (N - ds.length) none) S) ⟨fun _ S' => P .non S', fun _ _ => False, fun _ _ => False, P, fun e _ S' => X e S'⟩ := we_out
@[simp] theorem qf_nx : (QF S P X).nx sl = FinP S P .non := (rfl)
@[simp] theorem qf_rt : (QF S P X).rt = FinP S P := (rfl)
@[simp] theorem qf_ex {e : D} : (QF S P X).ex e sl = FinP S X e := (rfl)
@[simp] theorem qf_bk : (QF S P X).bk sl S = False := (rfl)
@[simp] theorem qf_ct : (QF S P X).ct sl S = False := (rfl)
theorem Closed.self (S : Store) : Closed S S := fun i m _ h => .inl h
theorem finP_keep {S1 T : Store} {d d' : D} (h : Keep S S1) (hd : frzD (frzP (S1 ++ T) S.length 6) d = some d') (p : P d' S1) : FinP S P d (S1 ++ T) :=
  ⟨h.closed, d', hd, by rw [← h.len, List.take_left']; exact p; rfl⟩
theorem finP_keep0 {S1 : Store} {d : D} (h : Keep S S1) (hd : under S.length d = true) (p : P d S1) : FinP S P d S1 := by
  have := finP_keep (P := P) (T := []) h (d := d) (d' := d) (frz_of hd) p
  rwa [List.append_nil] at this
theorem finP_app {S1 T : Store} {d : D} (h : Keep S S1) (hd : under S.length d = true) (p : P d S1) : FinP S P d (S1 ++ T) := finP_keep h (frz_of hd) p
theorem finP_same {d : D} (hd : under S.length d = true) (p : P d S) : FinP S P d S := finP_keep0 (Keep.refl S) hd p
theorem finP_lst {S1 : Store} {acc : List D} (h : Keep S S1) (hu : underL S.length acc = true) (p : P (.lst acc) S1) : FinP S P (.ptr S1.length) (S1 ++ [.lst acc]) := by
  refine finP_keep h ?_ p
  rw [← h.len] at hu ⊢
  exact frz_lst hu
theorem finP_lstN {n : Nat} {S1 : Store} {acc : List D} (hn : n = S1.length) (h : Keep S S1) (hu : underL S.length acc = true) (p : P (.lst acc) S1) : FinP S P (.ptr n) (S1 ++ [.lst acc]) := by
  subst hn
  exact finP_lst h hu p
@[simp] theorem finP_bl {b : Bool} : FinP S P (.bl b) S = P (.bl b) S := propext ⟨fun ⟨_, d', h, p⟩ => by rw [frzD] at h; cases h; simpa using p, fun p => finP_same rfl p⟩
@[simp] theorem finP_int {i : Int} : FinP S P (.int i) S = P (.int i) S := propext ⟨fun ⟨_, d', h, p⟩ => by rw [frzD] at h; cases h; simpa using p, fun p => finP_same rfl p⟩
@[simp] theorem finP_str {i : Str} : FinP S P (.str i) S = P (.str i) S := propext ⟨fun ⟨_, d', h, p⟩ => by rw [frzD] at h; cases h; simpa using p, fun p => finP_same rfl p⟩
@[simp] theorem finP_non : FinP S P .non S = P .non S := propext ⟨fun ⟨_, d', h, p⟩ => by rw [frzD] at h; cases h; simpa using p, fun p => finP_same rfl p⟩
@[simp] theorem w_eFin {f : EX} : We (eFin f sl S) P X = We (f sl S) (FinP S P) (FinP S X) := we_fin
mutual
theorem under_mono {j k : Nat} (h : j ≤ k) : ∀ d, under j d = true → under k d = true
  | .non, _ => by simp [under]
  | .bl _, _ => by simp [under]
  | .int _, _ => by simp [under]
  | .str _, _ => by simp [under]
  | .ty _, _ => by simp [under]
  | .cls _, _ => by simp [under]
  | .scr _, _ => by simp [under]
  | .tup xs, q => by simp only [under] at q ⊢; exact underL_mono h xs q
  | .lst xs, q => by simp only [under] at q ⊢; exact underL_mono h xs q
  | .dct ks vs, q => by
    simp only [under, Bool.and_eq_true] at q ⊢
    exact ⟨underL_mono h ks q.1, underL_mono h vs q.2⟩
  | .ins _ _ vs, q => by simp only [under] at q ⊢; exact underL_mono h vs q
  | .ptr n, q => by
    simp only [under, decide_eq_true_eq] at q ⊢
    omega
theorem underL_mono {j k : Nat} (h : j ≤ k) : ∀ ds, underL j ds = true → underL k ds = true
  | [], _ => by simp [underL]
  | d :: ds, q => by
    simp only [underL, Bool.and_eq_true] at q ⊢
    exact ⟨under_mono h d q.1, underL_mono h ds q.2⟩
end
theorem underL_iff {k : Nat} : ∀ {ds : List D}, underL k ds = true ↔ ∀ d ∈ ds, under k d = true
  | [] => by simp [underL]
  | d :: ds => by simp [underL, Bool.and_eq_true, underL_iff (ds := ds)]
@[simp] theorem underL_app {k : Nat} {a b : List D} : underL k (a ++ b) = (underL k a && underL k b) := by
  induction a with
  | nil => simp [underL]
  | cons d a ih => simp [underL, ih, Bool.and_assoc]
theorem under_of {k : Nat} {d : D} (h : under 0 d = true) : under k d = true := under_mono (Nat.zero_le k) d h
theorem underL_of {k : Nat} {ds : List D} (h : underL 0 ds = true) : underL k ds = true := underL_mono (Nat.zero_le k) ds h
@[simp] theorem under_non {k : Nat} : under k .non = true := by simp [under]
@[simp] theorem under_bl {k : Nat} {b : Bool} : under k (.bl b) = true := by simp [under]
@[simp] theorem under_int {k : Nat} {b : Int} : under k (.int b) = true := by simp [under]
@[simp] theorem under_str {k : Nat} {b : Str} : under k (.str b) = true := by simp [under]
@[simp] theorem under_tup {k : Nat} {b : List D} : under k (.tup b) = underL k b := by simp [under]
@[simp] theorem under_lst {k : Nat} {b : List D} : under k (.lst b) = underL k b := by simp [under]
@[simp] theorem under_dct {k : Nat} {a b : List D} : under k (.dct a b) = (underL k a && underL k b) := by simp [under]
@[simp] theorem under_ins {k : Nat} {c : Str} {ns : List Str} {b : List D} : under k (.ins c ns b) = underL k b := by simp [under]
@[simp] theorem underL_nil {k : Nat} : underL k [] = true := by simp [underL]
@[simp] theorem underL_cons {k : Nat} {d : D} {ds : List D} : underL k (d :: ds) = (under k d && underL k ds) := by simp [underL]
end
section
variable {X : D → Store → Prop} {Q : Q0} {S : Store} {sl : Sl} {G : Store → Prop} {g : GX} {body : SX}
/-! ### loops -/
theorem wo_forL (I : List D → Sl → Store → Prop) : ∀ (xs pre : List D) (sl : Sl) (S : Store), I pre sl S →
    (∀ p x post sl S, pre ++ xs = p ++ x :: post → I p sl S → G S ∧ Wo (g x sl S) ⟨fun sl1 S1 => Wo (body sl1 S1) ⟨fun sl2 S2 => I (p ++ [x]) sl2 S2, Q.nx, fun sl2 S2 => I (p ++ [x]) sl2 S2, Q.rt, Q.ex⟩, fun _ _ => False, fun _ _ => False, fun _ _ => False, fun _ _ _ => False⟩) →
    (∀ sl S, I (pre ++ xs) sl S → G S ∧ Q.nx sl S) → Wo (forL G g body xs sl S) Q
  | [], pre, sl, S, h0, step, hend => by
    rw [List.append_nil] at hend
    obtain ⟨h1, h2⟩ := hend sl S h0
    simp only [forL, if_pos h1, wo_nx]
    exact h2
  | x :: xs, pre, sl, S, h0, step, hend => by
    obtain ⟨h1, h2⟩ := step pre x xs sl S rfl h0
    simp only [forL, if_pos h1]
    cases e : g x sl S with
    | nx sl1 S1 =>
      rw [e] at h2
      simp only [wo_nx] at h2
      dsimp only
      have hl : pre ++ x :: xs = (pre ++ [x]) ++ xs := by simp
      have next : ∀ sl2 S2, I (pre ++ [x]) sl2 S2 → Wo (forL G g body xs sl2 S2) Q := fun sl2 S2 hI =>
        wo_forL I xs (pre ++ [x]) sl2 S2 hI (fun p y post sl S he hp => step p y post sl S (by rw [hl]; exact he) hp) (fun sl S hI => hend sl S (by rw [hl]; exact hI))
      cases e2 : body sl1 S1 with
      | nx sl2 S2 => rw [e2, wo_nx] at h2; exact next _ _ h2
      | ct sl2 S2 => rw [e2, wo_ct] at h2; exact next _ _ h2
      | bk sl2 S2 => rw [e2, wo_bk] at h2; dsimp only; rw [wo_nx]; exact h2
      | rt d S2 => rw [e2, wo_rt] at h2; dsimp only; rw [wo_rt]; exact h2
      | ex e sl2 S2 => rw [e2, wo_ex] at h2; dsimp only; rw [wo_ex]; exact h2
      | bad => rw [e2, wo_bad] at h2; exact h2.elim
    | bk _ _ => rw [e, wo_bk] at h2; exact h2.elim
    | ct _ _ => rw [e, wo_ct] at h2; exact h2.elim
    | rt _ _ => rw [e, wo_rt] at h2; exact h2.elim
    | ex _ _ _ => rw [e, wo_ex] at h2; exact h2.elim
    | bad => rw [e, wo_bad] at h2; exact h2.elim
/-- a for: I of what was walked, the slots, the store -/
theorem wo_for {it : IX} {xs : List D} {S' : Store} (hit : it sl S = .ok (xs, G) S') (I : List D → Sl → Store → Prop) (h0 : I [] sl S')
    (step : ∀ p x post sl S, xs = p ++ x :: post → I p sl S → G S ∧ Wo (g x sl S) ⟨fun sl1 S1 => Wo (body sl1 S1) ⟨fun sl2 S2 => I (p ++ [x]) sl2 S2, Q.nx, fun sl2 S2 => I (p ++ [x]) sl2 S2, Q.rt, Q.ex⟩, fun _ _ => False, fun _ _ => False, fun _ _ => False, fun _ _ _ => False⟩)
    (hend : ∀ sl S, I xs sl S → G S ∧ Q.nx sl S) : Wo (sFor it g body sl S) Q := by
  rw [w_sFor, hit, we_ok]
  exact wo_forL I xs [] sl S' h0 step hend
theorem wo_whileL {c : BX} (I : Sl → Store → Prop) (μ : Sl → Store → Nat) (step : ∀ sl S, I sl S → We (c sl S) (fun b S1 => if b = true then Wo (body sl S1) ⟨fun sl2 S2 => I sl2 S2 ∧ μ sl2 S2 < μ sl S, Q.nx, fun sl2 S2 => I sl2 S2 ∧ μ sl2 S2 < μ sl S, Q.rt, Q.ex⟩ else Q.nx sl S1) (fun e S1 => Q.ex e sl S1)) :
    ∀ (n : Nat) (sl : Sl) (S : Store), I sl S → μ sl S < n → Wo (whileL c body n sl S) Q
  | 0, _, _, _, h => absurd h (Nat.not_lt_zero _)
  | n + 1, sl, S, hI, h => by
    have h2 := step sl S hI
    unfold whileL
    rw [wo_toS]
    refine h2.post fun b S1 hb => ?_
    cases b with
    | false => simpa using hb
    | true =>
      simp only [if_true] at hb ⊢
      cases e2 : body sl S1 with
      | nx sl2 S2 => rw [e2, wo_nx] at hb; exact wo_whileL I μ step n sl2 S2 hb.1 (Nat.lt_of_lt_of_le hb.2 (Nat.le_of_lt_succ h))
      | ct sl2 S2 => rw [e2, wo_ct] at hb; exact wo_whileL I μ step n sl2 S2 hb.1 (Nat.lt_of_lt_of_le hb.2 (Nat.le_of_lt_succ h))
      | bk sl2 S2 => rw [e2, wo_bk] at hb; dsimp only; rw [wo_nx]; exact hb
      | rt d S2 => rw [e2, wo_rt] at hb; dsimp only; rw [wo_rt]; exact hb
      | ex e sl2 S2 => rw [e2, wo_ex] at hb; dsimp only; rw [wo_ex]; exact hb
      | bad => rw [e2, wo_bad] at hb; exact hb.elim
/-- a while: I of the slots and the store, μ falls -/
theorem wo_while {c : BX} (I : Sl → Store → Prop) (μ : Sl → Store → Nat) (h0 : I sl S) (hμ : μ sl S < 1000000)
    (step : ∀ sl S, I sl S → We (c sl S) (fun b S1 => if b = true then Wo (body sl S1) ⟨fun sl2 S2 => I sl2 S2 ∧ μ sl2 S2 < μ sl S, Q.nx, fun sl2 S2 => I sl2 S2 ∧ μ sl2 S2 < μ sl S, Q.rt, Q.ex⟩ else Q.nx sl S1) (fun e S1 => Q.ex e sl S1)) : Wo (sWhile c body sl S) Q :=
  wo_whileL I μ step fuel sl S h0 hμ
/-- .. with the number told by I -/
theorem wo_whileN {c : BX} (I : Nat → Sl → Store → Prop) (step : ∀ k sl S, I k sl S → We (c sl S) (fun b S1 => if b = true then Wo (body sl S1) ⟨fun sl2 S2 => ∃ j, j < k ∧ I j sl2 S2, Q.nx, fun sl2 S2 => ∃ j, j < k ∧ I j sl2 S2, Q.rt, Q.ex⟩ else Q.nx sl S1) (fun e S1 => Q.ex e sl S1)) :
    ∀ (n k : Nat) (sl : Sl) (S : Store), I k sl S → k < n → Wo (whileL c body n sl S) Q
  | 0, _, _, _, _, h => absurd h (Nat.not_lt_zero _)
  | n + 1, k, sl, S, hI, h => by
    have h2 := step k sl S hI
    unfold whileL
    rw [wo_toS]
    refine h2.post fun b S1 hb => ?_
    cases b with
    | false => simpa using hb
    | true =>
      simp only [if_true] at hb ⊢
      cases e2 : body sl S1 with
      | nx sl2 S2 => rw [e2, wo_nx] at hb; obtain ⟨j, hj, hI2⟩ := hb; exact wo_whileN I step n j sl2 S2 hI2 (Nat.lt_of_lt_of_le hj (Nat.le_of_lt_succ h))
      | ct sl2 S2 => rw [e2, wo_ct] at hb; obtain ⟨j, hj, hI2⟩ := hb; exact wo_whileN I step n j sl2 S2 hI2 (Nat.lt_of_lt_of_le hj (Nat.le_of_lt_succ h))
      | bk sl2 S2 => rw [e2, wo_bk] at hb; dsimp only; rw [wo_nx]; exact hb
      | rt d S2 => rw [e2, wo_rt] at hb; dsimp only; rw [wo_rt]; exact hb
      | ex e sl2 S2 => rw [e2, wo_ex] at hb; dsimp only; rw [wo_ex]; exact hb
      | bad => rw [e2, wo_bad] at hb; exact hb.elim
theorem wo_whileK {c : BX} (k : Nat) (I : Nat → Sl → Store → Prop) (h0 : I k sl S) (hk : k < 1000000) (step : ∀ k sl S, I k sl S → We (c sl S) (fun b S1 => if b = true then Wo (body sl S1) ⟨fun sl2 S2 => ∃ j, j < k ∧ I j sl2 S2, Q.nx, fun sl2 S2 => ∃ j, j < k ∧ I j sl2 S2, Q.rt, Q.ex⟩ else Q.nx sl S1) (fun e S1 => Q.ex e sl S1)) : Wo (sWhile c body sl S) Q :=
  wo_whileN I step fuel k sl S h0 hk
/-! ### comprehensions -/
variable {bt : BX} {fe : EX} {n : Nat}
theorem we_lcL {PU : Unit → Store → Prop} {slw : Sl} (I : List D → List D → Store → Prop) (hn : ∀ p acc S, I p acc S → S.length = n ∧ acc.length ≤ p.length) : ∀ (xs pre acc : List D) (S : Store), (pre ++ xs).length ≤ 1000000 → I pre acc S →
    (∀ p x post acc S, pre ++ xs = p ++ x :: post → I p acc S → G (S ++ [.lst acc]) ∧ Wo (g x slw (S ++ [.lst acc])) ⟨fun sl1 S1 => We (bt sl1 S1) (fun b S2 => if b = true then We (fe sl1 S2) (fun d S3 => ∃ S4, S3 = S4 ++ [.lst acc] ∧ I (p ++ [x]) (acc ++ [d]) S4) (fun _ _ => False) else ∃ S4, S2 = S4 ++ [.lst acc] ∧ I (p ++ [x]) acc S4) (fun _ _ => False), fun _ _ => False, fun _ _ => False, fun _ _ => False, fun _ _ _ => False⟩) →
    (∀ acc S, I (pre ++ xs) acc S → G (S ++ [.lst acc]) ∧ PU () (S ++ [.lst acc])) → We (lcL G g bt fe n slw xs (S ++ [.lst acc])) PU X
  | [], pre, acc, S, hl, h0, step, hend => by
    rw [List.append_nil] at hend
    obtain ⟨h1, h2⟩ := hend acc S h0
    simp only [lcL, if_pos h1, we_ok]
    exact h2
  | x :: xs, pre, acc, S, hl, h0, step, hend => by
    obtain ⟨h1, h2⟩ := step pre x xs acc S rfl h0
    simp only [lcL, if_pos h1]
    have hll : pre ++ x :: xs = (pre ++ [x]) ++ xs := by simp
    have next : ∀ acc S2, I (pre ++ [x]) acc S2 → We (lcL G g bt fe n slw xs (S2 ++ [.lst acc])) PU X := fun acc S2 hI =>
      we_lcL I hn xs (pre ++ [x]) acc S2 (by rw [← hll]; exact hl) hI (fun p y post acc S he hp => step p y post acc S (by rw [hll]; exact he) hp) (fun acc S hI => hend acc S (by rw [hll]; exact hI))
    cases e : g x slw (S ++ [.lst acc]) with
    | nx sl1 S1 =>
      rw [e] at h2
      simp only [wo_nx] at h2
      dsimp only
      cases e2 : bt sl1 S1 with
      | ok b S2 =>
        rw [e2, we_ok] at h2
        cases b with
        | false =>
          simp only [Bool.false_eq_true, if_false] at h2
          obtain ⟨S4, rfl, h4⟩ := h2
          exact next acc S4 h4
        | true =>
          simp only [if_true] at h2
          cases e3 : fe sl1 S2 with
          | ok d S3 =>
            rw [e3, we_ok] at h2
            obtain ⟨S4, rfl, h4⟩ := h2
            obtain ⟨hn1, hn2⟩ := hn _ _ _ h4
            have hg : (S4 ++ [MO.lst acc])[n]? = some (.lst acc) := by rw [List.getElem?_append_right (by omega), hn1]; simp
            have hlt : acc.length < 1000000 := by
              have := (hn _ _ _ h0).2
              simp only [List.length_append, List.length_cons] at hl
              omega
            dsimp only
            rw [e3]
            dsimp only
            rw [hg]
            dsimp only
            rw [if_pos hlt]
            have hs : (S4 ++ [MO.lst acc]).set n (.lst (acc ++ [d])) = S4 ++ [MO.lst (acc ++ [d])] := by
              rw [List.set_append_right _ _ (by omega), hn1]; simp
            rw [hs]
            exact next _ S4 h4
          | ex _ _ => rw [e3, we_ex] at h2; exact h2.elim
          | bad => rw [e3, we_bad] at h2; exact h2.elim
      | ex _ _ => rw [e2, we_ex] at h2; exact h2.elim
      | bad => rw [e2, we_bad] at h2; exact h2.elim
    | bk _ _ => rw [e, wo_bk] at h2; exact h2.elim
    | ct _ _ => rw [e, wo_ct] at h2; exact h2.elim
    | rt _ _ => rw [e, wo_rt] at h2; exact h2.elim
    | ex _ _ _ => rw [e, wo_ex] at h2; exact h2.elim
    | bad => rw [e, wo_bad] at h2; exact h2.elim
/-- [fe for g in it if bt]: I of what was walked, what was made, the store without it -/
theorem we_lc {it : IX} {own : List Nat} {P : D → Store → Prop} {xs : List D} {S' : Store} (hit : it sl S = .ok (xs, G) S') (hl : xs.length ≤ 1000000) (I : List D → List D → Store → Prop) (hn : ∀ p acc S, I p acc S → S.length = S'.length ∧ acc.length ≤ p.length) (h0 : I [] [] S')
    (step : ∀ p x post acc S, xs = p ++ x :: post → I p acc S → G (S ++ [.lst acc]) ∧ Wo (g x (wipeS sl own) (S ++ [.lst acc])) ⟨fun sl1 S1 => We (bt sl1 S1) (fun b S2 => if b = true then We (fe sl1 S2) (fun d S3 => ∃ S4, S3 = S4 ++ [.lst acc] ∧ I (p ++ [x]) (acc ++ [d]) S4) (fun _ _ => False) else ∃ S4, S2 = S4 ++ [.lst acc] ∧ I (p ++ [x]) acc S4) (fun _ _ => False), fun _ _ => False, fun _ _ => False, fun _ _ => False, fun _ _ _ => False⟩)
    (hend : ∀ acc S, I xs acc S → G (S ++ [.lst acc]) ∧ P (.ptr S.length) (S ++ [.lst acc])) : We (eLc it g bt fe own sl S) P X := by
  unfold eLc
  rw [we_bind, hit, we_ok]
  show We ((lcL G g bt fe S'.length (wipeS sl own) xs (S' ++ [.lst []])).bind fun _ S2 => .ok (.ptr S'.length) S2) P X
  rw [we_bind]
  refine we_lcL I hn xs [] [] S' hl h0 step fun acc S hI => ?_
  obtain ⟨h1, h2⟩ := hend acc S hI
  rw [(hn _ _ _ hI).1] at h2
  exact ⟨h1, by rw [we_ok]; exact h2⟩
/-- a comprehension that draws nothing: its list -/
theorem we_lc_pure {it : IX} {own : List Nat} {P : D → Store → Prop} {xs : List D} (p : D → Bool) (φ : D → D) (hit : it sl S = .ok (xs, G) S) (hl : xs.length ≤ 1000000) (hG : ∀ acc, G (S ++ [.lst acc]))
    (step : ∀ x ∈ xs, ∀ acc, Wo (g x (wipeS sl own) (S ++ [.lst acc])) ⟨fun sl1 S1 => We (bt sl1 S1) (fun b S2 => b = p x ∧ if p x = true then We (fe sl1 S2) (fun d S3 => S3 = S ++ [.lst acc] ∧ d = φ x) (fun _ _ => False) else S2 = S ++ [.lst acc]) (fun _ _ => False), fun _ _ => False, fun _ _ => False, fun _ _ => False, fun _ _ _ => False⟩)
    (hend : P (.ptr S.length) (S ++ [.lst ((xs.filter p).map φ)])) : We (eLc it g bt fe own sl S) P X := by
  refine we_lc hit hl (fun pre acc S1 => S1 = S ∧ acc = (pre.filter p).map φ) (fun pre acc S1 h => ⟨by rw [h.1], by rw [h.2, List.length_map]; exact List.length_filter_le _ _⟩) ⟨rfl, rfl⟩ (fun pre x post acc S1 he h => ?_) (fun acc S1 h => ?_)
  · obtain ⟨hS1, rfl⟩ := h
    subst hS1
    refine ⟨hG _, (step x (by rw [he]; simp) _).mono (fun sl1 S1 h => h.post fun b S2 h => ?_) (fun _ _ h => h) (fun _ _ h => h) (fun _ _ h => h) (fun _ _ _ h => h)⟩
    obtain ⟨rfl, h⟩ := h
    split at h
    · rename_i hp
      rw [if_pos hp]
      exact h.post fun d S3 ⟨e1, e2⟩ => ⟨_, e1, rfl, by rw [e2]; simp [hp]⟩
    · rename_i hp
      rw [if_neg hp]
      exact ⟨_, h, rfl, by simp [hp]⟩
  · obtain ⟨rfl, rfl⟩ := h
    exact ⟨hG _, hend⟩
/-- .. as a value -/
theorem we_lcF_pure {it : IX} {own : List Nat} {P : D → Store → Prop} {xs : List D} (p : D → Bool) (φ : D → D) (hit : it sl S = .ok (xs, G) S) (hl : xs.length ≤ 1000000) (hG : ∀ acc, G (S ++ [.lst acc]))
    (step : ∀ x ∈ xs, ∀ acc, Wo (g x (wipeS sl own) (S ++ [.lst acc])) ⟨fun sl1 S1 => We (bt sl1 S1) (fun b S2 => b = p x ∧ if p x = true then We (fe sl1 S2) (fun d S3 => S3 = S ++ [.lst acc] ∧ d = φ x) (fun _ _ => False) else S2 = S ++ [.lst acc]) (fun _ _ => False), fun _ _ => False, fun _ _ => False, fun _ _ => False, fun _ _ _ => False⟩)
    (hu : ∀ x ∈ xs, p x = true → under S.length (φ x) = true)
    (hend : P (.lst ((xs.filter p).map φ)) S) : We (eLc it g bt fe own sl S) (FinP S P) X := by
  refine we_lc_pure p φ hit hl hG step (finP_lst (Keep.refl S) ?_ hend)
  rw [underL_iff]
  intro d hd
  obtain ⟨x, hx, rfl⟩ := List.mem_map.mp hd
  obtain ⟨h1, h2⟩ := List.mem_filter.mp hx
  exact hu x h1 h2
end
@[simp] theorem underL_sgs {k : Nat} {l : List Nat} : underL k (l.map sg) = true := by
  rw [underL_iff]
  intro d hd
  obtain ⟨c, _, rfl⟩ := List.mem_map.mp hd
  exact under_str
theorem filter_tt {α : Type} {l : List α} : l.filter (fun _ => true) = l := List.filter_eq_self.mpr fun _ _ => (rfl)
/-! ### what is walked -/
section
variable {S : Store} {sl : Sl}
theorem itAny_of {f : EX} {d : D} {S1 : Store} {xs : List D} (h : f sl S = .ok d S1) (hx : srcD S1 d = some xs) : itAny f sl S = .ok (xs, fun S2 => srcD S2 d = some xs) S1 := by
  unfold itAny
  rw [h]
  show itK d S1 = _
  unfold itK
  cases d <;> first | (simp [srcD, asS, asL] at hx; done) | (simp only [hx])
theorem itAny_dct {f : EX} {ks vs : List D} {S1 : Store} (h : f sl S = .ok (.dct ks vs) S1) : itAny f sl S = .ok (ks, fun _ => True) S1 := by
  unfold itAny
  rw [h]
  rfl
theorem itRange1_of {f : EX} {j : Int} {S1 : Store} (h : f sl S = .ok (.int j) S1) (h1 : 0 ≤ j) (h2 : j < 2 ^ 62) : itRange1 (aCons f aNil) sl S = .ok (rangeD 0 j.toNat, fun _ => True) S1 := by
  simp only [itRange1, aCons, aNil, h, bind_ok]
  rw [if_pos ⟨by omega, h2⟩]
theorem itZip_of {f1 f2 : EX} {d e : D} {S1 S2 : Store} {xs ys : List D} (h1 : f1 sl S = .ok d S1) (h2 : f2 sl S1 = .ok e S2) (hx : srcD S2 d = some xs) (hy : srcD S2 e = some ys) :
    itZip (aCons f1 (aCons f2 aNil)) sl S = .ok (zipD xs ys, fun S2 => srcD S2 d = some xs ∧ srcD S2 e = some ys) S2 := by
  simp only [itZip, aCons, aNil, h1, h2, bind_ok, hx, hy]
theorem itEnum_of {f1 : EX} {d : D} {S1 : Store} {xs : List D} (h1 : f1 sl S = .ok d S1) (hx : srcD S1 d = some xs) :
    itEnum (aCons f1 aNil) sl S = .ok (enumD 0 xs, fun S2 => srcD S2 d = some xs) S1 := by
  simp only [itEnum, aCons, aNil, h1, bind_ok, hx]
theorem eName_of {i : Nat} {d : D} (h : sl[i]? = some (some d)) : eName i sl S = .ok d S := by simp only [eName, h]
@[simp] theorem srcD_str (s : Str) : srcD S (.str s) = some (signsD s) := (rfl)
@[simp] theorem srcD_lst (xs : List D) : srcD S (.lst xs) = some xs := (rfl)
@[simp] theorem srcD_tup (xs : List D) : srcD S (.tup xs) = some xs := (rfl)
@[simp] theorem srcD_scr (xs : List Int) : srcD S (.scr xs) = some (xs.map .int) := (rfl)
theorem srcD_ptr {n : Nat} {xs : List D} (h : S[n]? = some (.lst xs)) : srcD S (.ptr n) = some xs := by simp [srcD, asS, asL, h]
@[simp] theorem asS_lst' (xs : List D) : asS S (.lst xs) = some xs := (rfl)
@[simp] theorem asS_tup' (xs : List D) : asS S (.tup xs) = some xs := (rfl)
@[simp] theorem asS_scr' (xs : List Int) : asS S (.scr xs) = some (xs.map .int) := (rfl)
@[simp] theorem asL_lst' (xs : List D) : asL S (.lst xs) = some xs := (rfl)
theorem asS_ptr {n : Nat} {xs : List D} (h : S[n]? = some (.lst xs)) : asS S (.ptr n) = some xs := by simp [asS, asL, h]
theorem asL_ptr {n : Nat} {xs : List D} (h : S[n]? = some (.lst xs)) : asL S (.ptr n) = some xs := by simp [asL, h]
end
end Z
/-! ZG: what the operators, the built-ins and the methods end in. -/
namespace Z
open PySem PySem.Spec L2

section
variable {S : Store} {P : D → Store → Prop} {X : D → Store → Prop}
@[simp] theorem atI_nat' {α : Type} (xs : List α) (k : Nat) : atI xs (k : Int) = xs[k]? := by
  unfold atI ixN
  by_cases h : k < xs.length
  · simp [h]
  · rw [if_pos (by omega), if_neg (by omega)]
    simp; omega
@[simp] theorem atI_0 {α : Type} (xs : List α) : atI xs 0 = xs[0]? := atI_nat' xs 0
@[simp] theorem atI_1 {α : Type} (xs : List α) : atI xs 1 = xs[1]? := atI_nat' xs 1
@[simp] theorem atI_2 {α : Type} (xs : List α) : atI xs 2 = xs[2]? := atI_nat' xs 2
@[simp] theorem atI_3 {α : Type} (xs : List α) : atI xs 3 = xs[3]? := atI_nat' xs 3
@[simp] theorem atI_4 {α : Type} (xs : List α) : atI xs 4 = xs[4]? := atI_nat' xs 4
@[simp] theorem atI_5 {α : Type} (xs : List α) : atI xs 5 = xs[5]? := atI_nat' xs 5
@[simp] theorem atI_6 {α : Type} (xs : List α) : atI xs 6 = xs[6]? := atI_nat' xs 6
@[simp] theorem atI_7 {α : Type} (xs : List α) : atI xs 7 = xs[7]? := atI_nat' xs 7
@[simp] theorem atI_8 {α : Type} (xs : List α) : atI xs 8 = xs[8]? := atI_nat' xs 8
theorem atI_mem {α : Type} {xs : List α} {i : Int} {x : α} (h : atI xs i = some x) : x ∈ xs := by
  unfold atI at h
  cases e : ixN xs.length i with
  | none => rw [e] at h; cases h
  | some j => rw [e] at h; exact List.mem_of_getElem? h
/-- the last -/
theorem atI_last {α : Type} {xs : List α} (h : xs ≠ []) : atI xs (-1) = some (xs.getLast h) := by
  have hp := List.length_pos_iff.mpr h
  unfold atI ixN
  rw [if_neg (by omega), if_pos (by omega)]
  simp only [Option.bind_some]
  rw [List.getLast_eq_getElem, List.getElem?_eq_some_iff]
  exact ⟨by omega, by congr 1; omega⟩
theorem orS2_l {f g : Sem2} {d e : D} {a : D} {S' : Store} (h : f d e S = .ok a S') : orS2 f g d e S = .ok a S' := by unfold orS2; rw [h]
theorem orS2_r {f g : Sem2} {d e : D} (h : f d e S = .bad) : orS2 f g d e S = g d e S := by unfold orS2; rw [h]
theorem orSL_l {f g : SemL} {d : List D} {a : D} {S' : Store} (h : f d S = .ok a S') : orSL f g d S = .ok a S' := by unfold orSL; rw [h]
theorem orSL_r {f g : SemL} {d : List D} (h : f d S = .bad) : orSL f g d S = g d S := by unfold orSL; rw [h]
/-! #### o[i] -/
@[simp] theorem w_ix_lst {xs : List D} {i : Int} : We (ixX (.lst xs) (.int i) S) P X = ∃ x, atI xs i = some x ∧ P x S := by
  rw [ix_lst]
  cases atI xs i <;> simp
@[simp] theorem w_ix_tup {xs : List D} {i : Int} : We (ixX (.tup xs) (.int i) S) P X = ∃ x, atI xs i = some x ∧ P x S := by
  rw [ix_tup]
  cases atI xs i <;> simp
theorem w_ix_ptr {n : Nat} {xs : List D} {i : Int} (h : S[n]? = some (.lst xs)) : We (ixX (.ptr n) (.int i) S) P X = ∃ x, atI xs i = some x ∧ P x S := by
  rw [ix_ptr h]
  cases atI xs i <;> simp
@[simp] theorem w_ix_str {l : List Nat} {i : Int} : We (ixX (.str (tx l)) (.int i) S) P X = (l.length ≤ 1000000 ∧ ∃ c, atI l i = some c ∧ P (sg c) S) := by
  by_cases h : l.length ≤ 1000000
  · cases e : atI l i with
    | none =>
      have : ixX (.str (tx l)) (.int i) S = .bad := by
        unfold ixX
        rw [orS2_r (by simp only [ixSeq]; rw [if_pos (by simpa using h)]; simp [e])]
        rfl
      rw [this]; simp
    | some c =>
      have : ixX (.str (tx l)) (.int i) S = .ok (sg c) S := by
        unfold ixX
        exact orS2_l (by simp only [ixSeq]; rw [if_pos (by simpa using h)]; simp [e])
      rw [this]; simp [h]
  · have : ixX (.str (tx l)) (.int i) S = .bad := by
      unfold ixX
      rw [orS2_r (by simp only [ixSeq]; rw [if_neg (by simpa using h)])]
      rfl
    rw [this]; simp [h]
theorem ixSeq_dct {ks vs : List D} {k : D} : ixSeq (.dct ks vs) k S = .bad := by
  cases k <;> simp [ixSeq, asS, asL]
@[simp] theorem w_ix_dct {ks vs : List D} {k : D} : We (ixX (.dct ks vs) k S) P X = ∃ y, keyD k = some y ∧ ∃ v, getK ks vs y = some v ∧ P v S := by
  have : ixX (.dct ks vs) k S = ixDct (.dct ks vs) k S := by unfold ixX; exact orS2_r ixSeq_dct
  rw [this]
  unfold ixDct asD
  cases e : keyD k with
  | none => simp
  | some y =>
    dsimp only
    cases e2 : getK ks vs y <;> simp [e2]
@[simp] theorem keyD_str {s : Str} : keyD (.str s) = some (.inr s) := (rfl)
@[simp] theorem keyD_int {s : Int} : keyD (.int s) = some (.inl s) := (rfl)
/-! #### len -/
@[simp] theorem w_len_str {l : List Nat} : We (lenX [.str (tx l)] S) P X = (l.length ≤ 1000000 ∧ P (.int l.length) S) := by
  by_cases h : l.length ≤ 1000000
  · have : lenX [.str (tx l)] S = .ok (.int l.length) S := by
      unfold lenX
      refine orSL_l ?_
      simp [semLen, h]
    rw [this]; simp [h]
  · have : lenX [.str (tx l)] S = .bad := by
      unfold lenX
      rw [orSL_r (by simp [semLen, h])]
      rfl
    rw [this]; simp [h]
@[simp] theorem len_tup {xs : List D} : lenX [.tup xs] S = .ok (.int xs.length) S := by simp [lenX, orSL, semLen, asS]
@[simp] theorem len_lst {xs : List D} : lenX [.lst xs] S = .ok (.int xs.length) S := by simp [lenX, orSL, semLen, asS, asL]
theorem len_ptr {n : Nat} {xs : List D} (h : S[n]? = some (.lst xs)) : lenX [.ptr n] S = .ok (.int xs.length) S := by simp [lenX, orSL, semLen, asS, asL, h]
@[simp] theorem len_dct {ks vs : List D} : lenX [.dct ks vs] S = .ok (.int ks.length) S := by simp [lenX, orSL, semLen, asS, asL, semLenD, asD]
/-! #### + -/
@[simp] theorem w_add_str {a b : List Nat} : We (addX (.str (tx a)) (.str (tx b)) S) P X = (a.length + b.length ≤ 1000000 ∧ P (.str (tx (a ++ b))) S) := by
  by_cases h : a.length + b.length ≤ 1000000
  · have : addX (.str (tx a)) (.str (tx b)) S = .ok (.str (tx (a ++ b))) S := by
      unfold addX
      rw [orS2_r (by rfl)]
      exact orS2_l (by simp [addS, h])
    rw [this]; simp [h]
  · have : addX (.str (tx a)) (.str (tx b)) S = .bad := by
      unfold addX
      rw [orS2_r (by rfl), orS2_r (by simp [addS, h]), orS2_r (by simp [addL, asL])]
      rfl
    rw [this]; simp [h]
@[simp] theorem w_add_lst {a b : List D} : We (addX (.lst a) (.lst b) S) P X = (a.length + b.length ≤ 1000000 ∧ P (.lst (a ++ b)) S) := by
  by_cases h : a.length + b.length ≤ 1000000
  · have : addX (.lst a) (.lst b) S = .ok (.lst (a ++ b)) S := by
      unfold addX
      rw [orS2_r (by rfl), orS2_r (by rfl)]
      exact orS2_l (by simp [addL, asL, h])
    rw [this]; simp [h]
  · have : addX (.lst a) (.lst b) S = .bad := by
      unfold addX
      rw [orS2_r (by rfl), orS2_r (by rfl), orS2_r (by simp [addL, asL, h])]
      rfl
    rw [this]; simp [h]
/-! #### in -/
theorem in_sg {neg : Bool} {c : Nat} {l : List Nat} : inSg neg (sg c) (.str (tx l)) S = .ok (.bl (if neg = true then !decide (c ∈ l) else decide (c ∈ l))) S := by
  simp only [inSg]
@[simp] theorem inX_sg {c : Nat} {l : List Nat} : inX (sg c) (.str (tx l)) S = .ok (.bl (decide (c ∈ l))) S := orS2_l (in_sg (neg := false))
@[simp] theorem ninX_sg {c : Nat} {l : List Nat} : ninX (sg c) (.str (tx l)) S = .ok (.bl (!decide (c ∈ l))) S := orS2_l (in_sg (neg := true))
theorem in_dct {neg : Bool} {k : D} {y : Key} {ks vs : List D} (h : keyD k = some y) : inDct neg k (.dct ks vs) S = .ok (.bl (if neg = true then !hasK ks y else hasK ks y)) S := by
  simp only [inDct, asD, h]
theorem inSg_dct {neg : Bool} {k : D} {ks vs : List D} : inSg neg k (.dct ks vs) S = .bad := by cases k <;> rfl
theorem inX_dct {k : D} {y : Key} {ks vs : List D} (h : keyD k = some y) : inX k (.dct ks vs) S = .ok (.bl (hasK ks y)) S := by
  unfold inX
  rw [orS2_r inSg_dct]
  exact orS2_l (in_dct (neg := false) h)
theorem ninX_dct {k : D} {y : Key} {ks vs : List D} (h : keyD k = some y) : ninX k (.dct ks vs) S = .ok (.bl (!hasK ks y)) S := by
  unfold ninX
  rw [orS2_r inSg_dct]
  exact orS2_l (in_dct (neg := true) h)
@[simp] theorem inX_dctS {s : Str} {ks vs : List D} : inX (.str s) (.dct ks vs) S = .ok (.bl (hasK ks (.inr s))) S := inX_dct rfl
@[simp] theorem ninX_dctS {s : Str} {ks vs : List D} : ninX (.str s) (.dct ks vs) S = .ok (.bl (!hasK ks (.inr s))) S := ninX_dct rfl
theorem inSg_sq {neg : Bool} {k e : D} {xs : List D} (h : asS S e = some xs) : inSg neg k e S = .bad := by
  cases e <;> first | (simp [asS, asL] at h; done) | (cases k <;> rfl)
theorem inDct_sq {neg : Bool} {k e : D} {xs : List D} (h : asS S e = some xs) : inDct neg k e S = .bad := by
  unfold inDct
  have : asD S e = none := by
    cases e with
    | ptr n =>
      simp only [asS, asL] at h
      split at h
      · rename_i ds e; simp [asD, e]
      · cases h
    | _ => first | rfl | (simp [asS, asL] at h; done)
  rw [this]
theorem ninX_sq {k e : D} {xs : List D} (h : asS S e = some xs) (hk : flatD k = true) (hx : xs.all flatD = true) : ninX k e S = .ok (.bl (!inD k xs)) S := by
  unfold ninX
  rw [orS2_r (inSg_sq h), orS2_r (inDct_sq h)]
  unfold inSq
  simp only [h]
  rw [if_pos ⟨hk, hx⟩]
  rfl
theorem inX_sq {k e : D} {xs : List D} (h : asS S e = some xs) (hk : flatD k = true) (hx : xs.all flatD = true) : inX k e S = .ok (.bl (inD k xs)) S := by
  unfold inX
  rw [orS2_r (inSg_sq h), orS2_r (inDct_sq h)]
  unfold inSq
  simp only [h]
  rw [if_pos ⟨hk, hx⟩]
  rfl
@[simp] theorem inD_sg {c : Nat} {l : List Nat} : inD (sg c) (l.map sg) = decide (c ∈ l) := by
  unfold inD
  induction l with
  | nil => rfl
  | cons x l ih =>
    rw [List.map_cons, List.any_cons, ih]
    have : eqF (sg x) (sg c) = decide (x = c) := by
      show ((tx [x]) == (tx [c])) = _
      by_cases h : x = c
      · subst h; simp
      · simp [h]
    rw [this]
    by_cases h : x = c
    · simp [h]
    · simp [h, Ne.symm h, eq_comm]
@[simp] theorem flat_sgs {l : List Nat} : (l.map sg).all flatD = true := by simp [List.all_eq_true, flatD]
@[simp] theorem flat_str {s : Str} : flatD (.str s) = true := (rfl)
@[simp] theorem flat_int {s : Int} : flatD (.int s) = true := (rfl)
/-! #### slices -/
theorem sIx_nat (n d k : Nat) : HT.sIx n d (some (k : Int)) = min k n := HT.sIx_nat n d k
@[simp] theorem cutS_from (l : List Nat) (k : Nat) : cutS (tx l) (some (k : Int)) none = tx (l.drop k) := by
  unfold cutS
  congr 1
  rw [HT.sIx_none, sIx_nat, tx_len]
  show ((l.drop (min k l.length)).take (l.length - min k l.length)).toArray = _
  rw [List.take_of_length_le (by simp)]
  by_cases h : k ≤ l.length
  · rw [Nat.min_eq_left h]
  · rw [Nat.min_eq_right (by omega), List.drop_length, List.drop_eq_nil_of_le (by omega)]
@[simp] theorem cutS_to (l : List Nat) (k : Nat) : cutS (tx l) none (some (k : Int)) = tx (l.take k) := by
  unfold cutS
  congr 1
  rw [HT.sIx_none, sIx_nat, tx_len]
  show ((l.drop 0).take (min k l.length - 0)).toArray = _
  rw [List.drop_zero, Nat.sub_zero]
  by_cases h : k ≤ l.length
  · rw [Nat.min_eq_left h]
  · rw [Nat.min_eq_right (by omega), List.take_length, List.take_of_length_le (by omega)]
@[simp] theorem cutS_mid (l : List Nat) (j k : Nat) : cutS (tx l) (some (j : Int)) (some (k : Int)) = tx ((l.take k).drop j) := by
  unfold cutS
  congr 1
  rw [sIx_nat, sIx_nat, tx_len]
  show ((l.drop (min j l.length)).take (min k l.length - min j l.length)).toArray = _
  rw [← List.drop_take]
  by_cases h : k ≤ l.length
  · rw [Nat.min_eq_left h]
    by_cases h2 : j ≤ l.length
    · rw [Nat.min_eq_left h2]
    · rw [Nat.min_eq_right (by omega), List.drop_eq_nil_of_le (by simp; omega), List.drop_eq_nil_of_le (by simp; omega)]
  · rw [Nat.min_eq_right (a := k) (by omega), List.take_length, List.take_of_length_le (i := k) (by omega)]
    by_cases h2 : j ≤ l.length
    · rw [Nat.min_eq_left h2]
    · rw [Nat.min_eq_right (a := j) (by omega), List.drop_length, List.drop_eq_nil_of_le (by omega)]
@[simp] theorem cutD_from (l : List D) (k : Nat) : cutD l (some (k : Int)) none = l.drop k := by
  unfold cutD
  rw [HT.sIx_none, sIx_nat]
  rw [List.take_of_length_le (by simp)]
  by_cases h : k ≤ l.length
  · rw [Nat.min_eq_left h]
  · rw [Nat.min_eq_right (by omega), List.drop_length, List.drop_eq_nil_of_le (by omega)]
@[simp] theorem cutD_to (l : List D) (k : Nat) : cutD l none (some (k : Int)) = l.take k := by
  unfold cutD
  rw [HT.sIx_none, sIx_nat, List.drop_zero, Nat.sub_zero]
  by_cases h : k ≤ l.length
  · rw [Nat.min_eq_left h]
  · rw [Nat.min_eq_right (by omega), List.take_length, List.take_of_length_le (by omega)]
@[simp] theorem cutD_63 (l : List D) : cutD l none (some 63) = l.take 63 := cutD_to l 63
@[simp] theorem cutS_from1 (l : List Nat) : cutS (tx l) (some 1) none = tx (l.drop 1) := cutS_from l 1
@[simp] theorem cutS_from2 (l : List Nat) : cutS (tx l) (some 2) none = tx (l.drop 2) := cutS_from l 2
@[simp] theorem cutS_to1 (l : List Nat) : cutS (tx l) none (some 1) = tx (l.take 1) := cutS_to l 1
@[simp] theorem cutS_12 (l : List Nat) : cutS (tx l) (some 1) (some 2) = tx ((l.take 2).drop 1) := cutS_mid l 1 2
@[simp] theorem w_sl_str {h : Bool} {l : List Nat} {lo hi : Option Int} : We (semSl h (.str (tx l)) lo hi S) P X = (l.length ≤ 1000000 ∧ P (.str (cutS (tx l) lo hi)) S) := by
  by_cases h : l.length ≤ 1000000 <;> simp [semSl, h]
@[simp] theorem sl_tup {h : Bool} {xs : List D} {lo hi : Option Int} : semSl h (.tup xs) lo hi S = .ok (.tup (cutD xs lo hi)) S := (rfl)
@[simp] theorem sl_lst {xs : List D} {lo hi : Option Int} : semSl false (.lst xs) lo hi S = .ok (.lst (cutD xs lo hi)) S := (rfl)
@[simp] theorem sl_scr {xs : List Int} {lo hi : Option Int} : semSl false (.scr xs) lo hi S = .ok (.lst (cutD (xs.map .int) lo hi)) S := (rfl)
/-! #### displays -/
@[simp] theorem w_semTup {ds : List D} : We (semTup ds S) P X = (ds.length ≤ 1000000 ∧ P (.tup ds) S) := by
  unfold semTup
  by_cases h : ds.length ≤ 1000000 <;> simp [h]
@[simp] theorem w_semLst {ds : List D} : We (semLst ds S) P X = (ds.length ≤ 1000000 ∧ P (.lst ds) S) := by
  unfold semLst
  by_cases h : ds.length ≤ 1000000 <;> simp [h]
@[simp] theorem w_semLstH {ds : List D} : We (semLstH ds S) P X = (ds.length ≤ 1000000 ∧ P (.ptr S.length) (S ++ [.lst ds])) := by
  unfold semLstH
  by_cases h : ds.length ≤ 1000000 <;> simp [h]
/-! #### all, any, list, tuple, int -/
@[simp] theorem boolsOf_mp {α : Type} {p : α → Bool} {xs : List α} : boolsOf (xs.map fun x => .bl (p x)) = some (xs.map p) := by
  induction xs with
  | nil => rfl
  | cons x xs ih => simp [boolsOf, ih]
@[simp] theorem all_lst {α : Type} {p : α → Bool} {xs : List α} : semAll [.lst (xs.map fun x => .bl (p x))] S = .ok (.bl (xs.all p)) S := by
  simp only [semAll, asL_lst', boolsOf_mp]
  simp [List.all_map, Function.comp_def]
theorem all_const {α : Type} {xs : List α} : semAll [.lst (xs.map fun _ => .bl true)] S = .ok (.bl true) S := by
  have := all_lst (S := S) (p := fun _ : α => true) (xs := xs)
  rw [this]
  congr 2
  rw [List.all_eq_true]
  intros
  rfl
@[simp] theorem any_lst {α : Type} {p : α → Bool} {xs : List α} : semAny [.lst (xs.map fun x => .bl (p x))] S = .ok (.bl (xs.any p)) S := by
  simp only [semAny, asL_lst', boolsOf_mp]
  simp [List.any_map, Function.comp_def]
@[simp] theorem listOf_lst {xs : List D} : semListOf [.lst xs] S = .ok (.lst xs) S := (rfl)
@[simp] theorem tupOf_lst {xs : List D} : semTupOf [.lst xs] S = .ok (.tup xs) S := (rfl)
@[simp] theorem tupOf_tup {xs : List D} : semTupOf [.tup xs] S = .ok (.tup xs) S := (rfl)
@[simp] theorem int_int {i : Int} : semInt [.int i] S = .ok (.int i) S := (rfl)
@[simp] theorem int_bl {b : Bool} : semInt [.bl b] S = .ok (.int (if b = true then 1 else 0)) S := (rfl)
/-! #### join, append -/
@[simp] theorem strsOf_mp {xs : List (List Nat)} : strsOf (xs.map fun l => .str (tx l)) = some (xs.map tx) := by
  induction xs with
  | nil => rfl
  | cons x xs ih => simp [strsOf, ih]
theorem glued_empty : ∀ xs : List (List Nat), Txt.join (tx []) (xs.map tx) = tx xs.flatten := fun xs => by
  unfold Txt.join
  rw [StrLaws.glued_eq_join]
  induction xs with
  | nil => rfl
  | cons a xs ih =>
    cases xs with
    | nil => simp [Str.join]
    | cons b r =>
      simp only [List.map_cons, Str.join] at ih ⊢
      rw [ih]
      simp
@[simp] theorem w_join {xs : List (List Nat)} {d : D} (h : asS S d = some (xs.map fun l => .str (tx l))) : We (semJoin (.str (tx [])) [d] S) P X = ((xs.map List.length).sum ≤ 1000000 ∧ P (.str (tx xs.flatten)) S) := by
  simp only [semJoin, h, strsOf_mp]
  rw [glued_empty]
  have e : (List.map (fun x => x.length) (List.map tx xs)).sum + (List.map tx xs).length * (tx []).length = (xs.map List.length).sum := by
    rw [tx_len]
    simp only [List.length_nil, Nat.mul_zero, Nat.add_zero, List.map_map]
    congr 1
  rw [e]
  by_cases h : (xs.map List.length).sum ≤ 1000000 <;> simp [h]
theorem sum_ones : ∀ l : List Nat, ((l.map fun c => [c]).map List.length).sum = l.length
  | [] => rfl
  | a :: l => by
    have := sum_ones l
    simp only [List.map_cons, List.sum_cons, List.length_cons, List.length_nil, this]
    omega
theorem flat_ones : ∀ l : List Nat, (l.map fun c => [c]).flatten = l
  | [] => rfl
  | a :: l => by simp [flat_ones l]
theorem w_joinSg {l : List Nat} {d : D} (h : asS S d = some (l.map sg)) : We (semJoin (.str (tx [])) [d] S) P X = (l.length ≤ 1000000 ∧ P (.str (tx l)) S) := by
  have := w_join (P := P) (X := X) (S := S) (xs := l.map fun c => [c]) (d := d) (by rw [h]; simp)
  rw [this]
  rw [sum_ones, flat_ones]
@[simp] theorem w_append {xs : List D} {e : D} : We (semAppend (.ptr S.length) [e] (S ++ [.lst xs])) P X = (xs.length < 1000000 ∧ P .non (S ++ [.lst (xs ++ [e])])) := by
  simp only [semAppend]
  rw [List.getElem?_append_right (Nat.le_refl _)]
  simp only [Nat.sub_self, List.getElem?_cons_zero]
  by_cases h : xs.length < 1000000 <;> simp [h]
theorem append_at {n : Nat} {xs : List D} {e : D} (h : S[n]? = some (.lst xs)) (hl : xs.length < 1000000) : semAppend (.ptr n) [e] S = .ok .non (S.set n (.lst (xs ++ [e]))) := by
  simp only [semAppend, h]
  rw [if_pos hl]
/-! #### isinstance -/
@[simp] theorem isKd_non_int : isKd .non "int" = some false := by decide
@[simp] theorem isKd_non_bool : isKd .non "bool" = some false := by decide
@[simp] theorem isKd_non_str : isKd .non "str" = some false := by decide
@[simp] theorem isKd_non_list : isKd .non "list" = some false := by decide
@[simp] theorem isKd_non_tuple : isKd .non "tuple" = some false := by decide
@[simp] theorem isKd_non_dict : isKd .non "dict" = some false := by decide
@[simp] theorem isKd_bl_int : isKd .bl "int" = some true := by decide
@[simp] theorem isKd_bl_bool : isKd .bl "bool" = some true := by decide
@[simp] theorem isKd_bl_str : isKd .bl "str" = some false := by decide
@[simp] theorem isKd_bl_list : isKd .bl "list" = some false := by decide
@[simp] theorem isKd_bl_tuple : isKd .bl "tuple" = some false := by decide
@[simp] theorem isKd_bl_dict : isKd .bl "dict" = some false := by decide
@[simp] theorem isKd_int_int : isKd .int "int" = some true := by decide
@[simp] theorem isKd_int_bool : isKd .int "bool" = some false := by decide
@[simp] theorem isKd_int_str : isKd .int "str" = some false := by decide
@[simp] theorem isKd_int_list : isKd .int "list" = some false := by decide
@[simp] theorem isKd_int_tuple : isKd .int "tuple" = some false := by decide
@[simp] theorem isKd_int_dict : isKd .int "dict" = some false := by decide
@[simp] theorem isKd_str_int : isKd .str "int" = some false := by decide
@[simp] theorem isKd_str_bool : isKd .str "bool" = some false := by decide
@[simp] theorem isKd_str_str : isKd .str "str" = some true := by decide
@[simp] theorem isKd_str_list : isKd .str "list" = some false := by decide
@[simp] theorem isKd_str_tuple : isKd .str "tuple" = some false := by decide
@[simp] theorem isKd_str_dict : isKd .str "dict" = some false := by decide
@[simp] theorem isKd_tup_int : isKd .tup "int" = some false := by decide
@[simp] theorem isKd_tup_bool : isKd .tup "bool" = some false := by decide
@[simp] theorem isKd_tup_str : isKd .tup "str" = some false := by decide
@[simp] theorem isKd_tup_list : isKd .tup "list" = some false := by decide
@[simp] theorem isKd_tup_tuple : isKd .tup "tuple" = some true := by decide
@[simp] theorem isKd_tup_dict : isKd .tup "dict" = some false := by decide
@[simp] theorem isKd_lst_int : isKd .lst "int" = some false := by decide
@[simp] theorem isKd_lst_bool : isKd .lst "bool" = some false := by decide
@[simp] theorem isKd_lst_str : isKd .lst "str" = some false := by decide
@[simp] theorem isKd_lst_list : isKd .lst "list" = some true := by decide
@[simp] theorem isKd_lst_tuple : isKd .lst "tuple" = some false := by decide
@[simp] theorem isKd_lst_dict : isKd .lst "dict" = some false := by decide
@[simp] theorem isKd_dct_int : isKd .dct "int" = some false := by decide
@[simp] theorem isKd_dct_bool : isKd .dct "bool" = some false := by decide
@[simp] theorem isKd_dct_str : isKd .dct "str" = some false := by decide
@[simp] theorem isKd_dct_list : isKd .dct "list" = some false := by decide
@[simp] theorem isKd_dct_tuple : isKd .dct "tuple" = some false := by decide
@[simp] theorem isKd_dct_dict : isKd .dct "dict" = some true := by decide
@[simp] theorem kdOf_non : kdOf S .non = some .non := (rfl)
@[simp] theorem kdOf_bl {b : Bool} : kdOf S (.bl b) = some .bl := (rfl)
@[simp] theorem kdOf_int {b : Int} : kdOf S (.int b) = some .int := (rfl)
@[simp] theorem kdOf_str {b : Str} : kdOf S (.str b) = some .str := (rfl)
@[simp] theorem kdOf_tup {b : List D} : kdOf S (.tup b) = some .tup := (rfl)
@[simp] theorem kdOf_lst {b : List D} : kdOf S (.lst b) = some .lst := (rfl)
@[simp] theorem kdOf_scr {b : List Int} : kdOf S (.scr b) = some .lst := (rfl)
@[simp] theorem kdOf_dct {a b : List D} : kdOf S (.dct a b) = some .dct := (rfl)
theorem kdOf_lstAt {n : Nat} {xs : List D} (h : S[n]? = some (.lst xs)) : kdOf S (.ptr n) = some .lst := by simp [kdOf, h]
@[simp] theorem w_isi_ty {d : D} {T : String} : We (isiX [d, .ty T] S) P X = isO (kdOf S d) fun k => isO (isKd k T) fun b => P (.bl b) S := by
  cases e : kdOf S d with
  | none =>
    have : isiX [d, .ty T] S = .bad := by
      unfold isiX
      rw [orSL_r (by simp [semIsi, e])]
      simp [semIsiT]
    rw [this]; simp
  | some k =>
    cases e2 : isKd k T with
    | none =>
      have : isiX [d, .ty T] S = .bad := by
        unfold isiX
        rw [orSL_r (by simp [semIsi, e, e2])]
        simp [semIsiT]
      rw [this]; simp [e2]
    | some b =>
      have : isiX [d, .ty T] S = .ok (.bl b) S := by
        unfold isiX
        exact orSL_l (by simp [semIsi, e, e2])
      rw [this]; simp [e2]
@[simp] theorem w_isi_tup {d : D} {ts : List D} : We (isiX [d, .tup ts] S) P X = isO (kdOf S d) fun k => isO (tysOf ts) fun Ts => isO (isKds k Ts) fun b => P (.bl b) S := by
  have e0 : isiX [d, .tup ts] S = semIsiT [d, .tup ts] S := by
    unfold isiX
    exact orSL_r (by simp [semIsi])
  rw [e0]
  simp only [semIsiT]
  cases e : kdOf S d with
  | none => simp
  | some k =>
    cases e1 : tysOf ts with
    | none => simp
    | some Ts =>
      dsimp only
      cases e2 : isKds k Ts <;> simp [e2]
@[simp] theorem tysOf_nil : tysOf [] = some [] := (rfl)
@[simp] theorem tysOf_cons {T : String} {r : List D} : tysOf (.ty T :: r) = (tysOf r).map (T :: ·) := (rfl)
@[simp] theorem isKds_nil {k : Kd} : isKds k [] = some false := (rfl)
@[simp] theorem isKds_cons {k : Kd} {T : String} {r : List String} : isKds k (T :: r) = (isKd k T).bind fun b => (isKds k r).map fun c => b || c := by
  simp only [isKds]
  cases isKd k T <;> cases isKds k r <;> rfl
/-! #### == of flat things -/
def okS (l : List Nat) : Prop := ∀ c ∈ l, c < 1114112
theorem okS_shaped {l : List Nat} (h : okS l) : SeqAt.shaped (.str (tx l)) = true := shaped_str (by
  unfold PyData.strOk
  simp
  exact h)
theorem eqD_str {a b : List Nat} (ha : okS a) (hb : okS b) : eqD false (.str (tx a)) (.str (tx b)) S = .ok (.bl (decide (a = b))) S := by
  simp [eqD, toP, toP0, PyData.eqv, okS_shaped ha, okS_shaped hb]
  by_cases h : a = b <;> simp [h]
theorem neD_str {a b : List Nat} (ha : okS a) (hb : okS b) : eqD true (.str (tx a)) (.str (tx b)) S = .ok (.bl (!decide (a = b))) S := by
  simp [eqD, toP, toP0, PyData.eqv, okS_shaped ha, okS_shaped hb]
  by_cases h : a = b <;> simp [h]
@[simp] theorem eqD_bl {a b : Bool} : eqD false (.bl a) (.bl b) S = .ok (.bl (decide (a = b))) S := by
  simp [eqD, toP, toP0, PyData.eqv]
  cases a <;> cases b <;> rfl
@[simp] theorem neD_bl {a b : Bool} : eqD true (.bl a) (.bl b) S = .ok (.bl (!decide (a = b))) S := by
  simp [eqD, toP, toP0, PyData.eqv]
  cases a <;> cases b <;> rfl
@[simp] theorem isN_is {d : D} {neg : Bool} : isN neg d .non S = .ok (.bl (if neg = true then !isNon d else isNon d)) S := (rfl)
@[simp] theorem isNon_non : isNon .non = true := (rfl)
@[simp] theorem isNon_bl {b : Bool} : isNon (.bl b) = false := (rfl)
@[simp] theorem isNon_int {b : Int} : isNon (.int b) = false := (rfl)
@[simp] theorem isNon_str {b : Str} : isNon (.str b) = false := (rfl)
@[simp] theorem isNon_tup {b : List D} : isNon (.tup b) = false := (rfl)
@[simp] theorem isNon_lst {b : List D} : isNon (.lst b) = false := (rfl)
/-! #### sorted -/
theorem sortBy_of {α : Type} (f : α → D) (k : α → PyData) (le : α → α → Bool) (l : List α) (h : ∀ a ∈ l, ∀ b ∈ l, le a b = !PySem.W.dataLt (k b) (k a)) : sortBy (l.map f) (l.map k) = (l.mergeSort le).map f := by
  unfold sortBy
  have e : (l.map f).zip (l.map k) = l.map fun a => (f a, k a) := by
    induction l with
    | nil => rfl
    | cons a l ih => simp [ih (fun a ha b hb => h a (List.mem_cons_of_mem _ ha) b (List.mem_cons_of_mem _ hb))]
  rw [e, ← List.map_mergeSort (f := fun a => (f a, k a)) (r := le) (fun a ha b hb => h a ha b hb), List.map_map]
  rfl
theorem dataLt_sg (a b : Nat) : PySem.W.dataLt (.str (tx [a])) (.str (tx [b])) = decide (a < b) := by
  rw [PySem.W.dataLt_str]
  simp [List.cons_lt_cons_iff]
theorem sort_sgs (l : List Nat) : sortBy (l.map sg) (l.map fun c => PyData.str (tx [c])) = (l.mergeSort fun a b => decide (a ≤ b)).map sg := by
  refine sortBy_of sg _ _ l fun a _ b _ => ?_
  rw [dataLt_sg]
  by_cases h : a ≤ b
  · simp [h]
  · simp [h]; omega
theorem sorted_str {l : List Nat} (h : l.length ≤ 1000000) : semSorted [.str (tx l)] S = .ok (.ptr S.length) (S ++ [.lst ((l.mergeSort fun a b => decide (a ≤ b)).map sg)]) := by
  simp only [semSorted]
  rw [if_pos (by simpa using h), signsD_tx, signsS_tx, List.map_map]
  have := sort_sgs l
  rw [← this]
  rfl
theorem srt_sgs {l : List Nat} (h : l.length ≤ 1000000) : SrtOk (l.map fun c => PyData.str (tx [c])) := by
  refine ⟨fun d hd d' hd' => ?_, .inr fun d hd => ?_, by simpa using h, fun d hd => ?_⟩
  · obtain ⟨c, _, rfl⟩ := List.mem_map.mp hd
    obtain ⟨c', _, rfl⟩ := List.mem_map.mp hd'
    simp [PySem.W.alike]
  · obtain ⟨c, _, rfl⟩ := List.mem_map.mp hd
    exact ⟨nofun, nofun⟩
  · obtain ⟨c, _, rfl⟩ := List.mem_map.mp hd
    simp [PyData.depth]
theorem toPL_sgs (l : List Nat) : toPL0 (l.map sg) = some (l.map fun c => PyData.str (tx [c])) := by
  induction l with
  | nil => rfl
  | cons c l ih => simp [toPL0, toP0, ih]
theorem sorted_sgs {l : List Nat} {d : D} (h : l.length ≤ 1000000) (hd : asL S d = some (l.map sg)) : semSorted [d] S = .ok (.ptr S.length) (S ++ [.lst ((l.mergeSort fun a b => decide (a ≤ b)).map sg)]) := by
  have e : semSorted [d] S = (match asL S d with
    | some xs => (match toPL0 xs with
      | some ps => open Classical in if SrtOk ps then .ok (.ptr S.length) (S ++ [.lst (sortBy xs ps)]) else .bad
      | none => .bad)
    | none => .bad) := by
    cases d <;> first | rfl | (simp [asL] at hd; done)
  rw [e, hd]
  dsimp only
  rw [toPL_sgs]
  dsimp only
  rw [if_pos (srt_sgs h), sort_sgs]
theorem w_sortedF {l : List Nat} {d : D} (h : l.length ≤ 1000000) (hd : asL S d = some (l.map sg)) (p : P (.lst ((l.mergeSort fun a b => decide (a ≤ b)).map sg)) S) : We (semSorted [d] S) (FinP S P) X :=
  we_eq (sorted_sgs h hd) (finP_lst (Keep.refl S) (by simp) p)
theorem w_sortedF_str {l : List Nat} (h : l.length ≤ 1000000) (p : P (.lst ((l.mergeSort fun a b => decide (a ≤ b)).map sg)) S) : We (semSorted [.str (tx l)] S) (FinP S P) X :=
  we_eq (sorted_str h) (finP_lst (Keep.refl S) (by simp) p)
/-! #### o[i] op= e, o[i] = e -/
theorem w_augSub {op : Int → Int → Int} {fo fi fe : EX} {sl : Sl} {Q : Q0} (h : We (fo sl S) (fun o S1 => We (fi sl S1) (fun i S2 => ∃ xs k a, asL S2 o = some xs ∧ i = .int k ∧ atI xs k = some (.int a) ∧ We (fe sl S2) (fun e S3 => ∃ b S4, e = .int b ∧ setD o i (.int (op a b)) S3 = some S4 ∧ Q.nx sl S4) (fun e S' => Q.ex e sl S')) (fun e S' => Q.ex e sl S')) (fun e S' => Q.ex e sl S')) : Wo (sAugSub op fo fi fe sl S) Q := by
  unfold sAugSub
  rw [wo_toS]
  refine h.post fun o S1 h => ?_
  rw [wo_toS]
  refine h.post fun i S2 h => ?_
  obtain ⟨xs, k, a, h1, rfl, h2, h3⟩ := h
  simp only [h1, h2]
  rw [wo_toS]
  refine h3.post fun e S3 h => ?_
  obtain ⟨b, S4, rfl, h4, h5⟩ := h
  simp only [h4, wo_nx]
  exact h5
theorem ixN_nat {n k : Nat} (h : k < n) : ixN n (k : Int) = some k := by
  unfold ixN
  rw [if_pos (by omega), if_pos (by omega)]
  simp
theorem setD_lst {n k : Nat} {xs : List D} {v : D} (h : S[n]? = some (.lst xs)) (hk : k < xs.length) : setD (.ptr n) (.int k) v S = some (S.set n (.lst (xs.set k v))) := by
  simp only [setD, h, ixN_nat hk]
@[simp] theorem fldsOf_ins {c : Str} {ns : List Str} {vs : List D} : fldsOf S (.ins c ns vs) = some (c, ns, vs) := (rfl)
theorem len_asL {d : D} {xs : List D} (h : asL S d = some xs) : lenX [d] S = .ok (.int xs.length) S := by
  cases d with
  | lst ys => cases h; exact len_lst
  | ptr n =>
    simp only [asL] at h
    split at h
    · rename_i ds e; cases h; exact len_ptr e
    · cases h
  | _ => cases h
theorem w_ix_asL {d : D} {xs : List D} {i : Int} (h : asL S d = some xs) : We (ixX d (.int i) S) P X = ∃ x, atI xs i = some x ∧ P x S := by
  cases d with
  | lst ys => cases h; exact w_ix_lst
  | ptr n =>
    simp only [asL] at h
    split at h
    · rename_i ds e; cases h; exact w_ix_ptr e
    · cases h
  | _ => cases h
theorem asS_asL {d : D} {xs : List D} (h : asL S d = some xs) : asS S d = some xs := by
  cases d with
  | lst ys => cases h; rfl
  | ptr n => exact h
  | _ => cases h
theorem srcD_asL {d : D} {xs : List D} (h : asL S d = some xs) : srcD S d = some xs := by
  cases d with
  | lst ys => cases h; rfl
  | ptr n => exact h
  | _ => cases h
theorem asL_app {d : D} {xs : List D} {T : Store} (h : asL S d = some xs) : asL (S ++ T) d = some xs := by
  cases d with
  | lst ys => exact h
  | ptr n =>
    simp only [asL] at h
    split at h
    · rename_i ds e
      cases h
      simp only [asL]
      rw [List.getElem?_append_left (List.getElem?_eq_some_iff.mp e).1, e]
    · cases h
  | _ => cases h
/-! #### a list of texts against the empty list -/
theorem ne_empty {xs : List (List Nat)} (h : ∀ x ∈ xs, okS x) : eqD true (.lst (xs.map fun l => .str (tx l))) (.lst []) S = .ok (.bl (!xs.isEmpty)) S := by
  have e1 : toPL0 (xs.map fun l => D.str (tx l)) = some (xs.map fun l => PyData.str (tx l)) := by
    clear h
    induction xs with
    | nil => rfl
    | cons x xs ih => simp [toPL0, toP0, ih]
  have e2 : SeqAt.shaped (.list (xs.map fun l => PyData.str (tx l))) = true := by
    have h1 : PyData.canLayAll0 (xs.map fun l => PyData.str (tx l)) = true ∧ PyData.depthAll (xs.map fun l => PyData.str (tx l)) = 0 := by
      clear e1
      induction xs with
      | nil => exact ⟨rfl, rfl⟩
      | cons x xs ih =>
        have h2 := ih fun y hy => h y (List.mem_cons_of_mem _ hy)
        have h3 := h x (List.mem_cons_self ..)
        have h4 : PyData.strOk (tx x) = true := by
          unfold PyData.strOk
          simp
          exact h3
        rw [List.map_cons, PyData.canLayAll0, PyData.depthAll, h2.1, h2.2]
        simp [PyData.canLay0, PyData.depth, h4]
    simp [SeqAt.shaped, PyData.canLay0, PyData.depth, h1.1, h1.2]
  simp only [eqD, toP, toP0, e1, toPL0, Option.map_some]
  rw [if_pos ⟨e2, by decide⟩]
  cases xs <;> rfl
end
end Z
/-! ZL: the defs that many laws share: the bag, draws, sameness, letters. -/
namespace Z
open PySem PySem.Spec L2

/-- _law_bag -/
noncomputable def m__law_bag : SX :=
  (sRet (eArgs semLstH (aCons (eArgs semListOf (aCons (eSl false (eName 0) oNone (oInt (eLit (.int 63)))) aNil)) (aCons (eLit (.int 0)) (aCons (eLit (.int 0)) (aCons (eLit (.int 5625)) aNil))))))
noncomputable def f__law_bag : SemL := arity 1 (defH 1 m__law_bag)
/-- _law_pick -/
noncomputable def m__law_pick : SX :=
  (sSeq (sIf (bAnd (bVal (eBin (eqD false) (eBin ixX (eName 0) (eLit (.int 2))) (eLit (.int 0)))) (bVal (eBin ltX (eBin ixX (eName 0) (eLit (.int 1))) (eArgs lenX (aCons (eBin ixX (eName 0) (eLit (.int 0))) aNil)))))
  (sSeq (sAsg (eBin ixX (eBin ixX (eName 0) (eLit (.int 0))) (eBin ixX (eName 0) (eLit (.int 1)))) (gSet 2))
  (sSeq (sAsg (eBin addX (eBin ixX (eName 0) (eLit (.int 1))) (eLit (.int 1))) (gSubX (eName 0) (eLit (.int 1))))
  (sIf (bVal (eBin geI (eName 2) (eBin powI (eLit (.int 10)) (eLit (.int 18)))))
  (sAsg (eName 2) (gSubX (eName 0) (eLit (.int 2))))
  (sAsg (eBin modI (eArgs semInt (aCons (eBin addX (eBin addX (eBin mulX (eBin ixX (eName 0) (eLit (.int 3))) (eLit (.int 48817))) (eBin mulX (eBin modI (eArgs semInt (aCons (eName 2) aNil)) (eLit (.int 2147483399))) (eLit (.int 9241)))) (eLit (.int 17))) aNil)) (eLit (.int 2147483563))) (gSubX (eName 0) (eLit (.int 3)))))))
  sNil)
  (sSeq (sIf (bVal (eBin gtI (eBin ixX (eName 0) (eLit (.int 2))) (eLit (.int 0))))
  (sSeq (sAsg (eBin modI (eArgs semInt (aCons (eBin ixX (eName 0) (eLit (.int 2))) aNil)) (eName 1)) (gSet 3))
  (sSeq (sAsg (eBin divI (eBin ixX (eName 0) (eLit (.int 2))) (eName 1)) (gSubX (eName 0) (eLit (.int 2))))
  (sRet (eName 3))))
  sNil)
  (sSeq (sAsg (eBin ixX (eName 0) (eLit (.int 3))) (gSet 4))
  (sSeq (sAsg (eBin modI (eArgs semInt (aCons (eBin addX (eBin addX (eBin mulX (eName 4) (eName 4)) (eBin mulX (eName 4) (eLit (.int 31013)))) (eLit (.int 1402361))) aNil)) (eLit (.int 2147483563))) (gSubX (eName 0) (eLit (.int 3))))
  (sRet (eBin modI (eArgs semInt (aCons (eBin addX (eBin divI (eBin ixX (eName 0) (eLit (.int 3))) (eLit (.int 71))) (eBin mulX (eBin modI (eArgs semInt (aCons (eBin ixX (eName 0) (eLit (.int 3))) aNil)) (eLit (.int 7907))) (eLit (.int 59)))) aNil)) (eName 1)))))))
noncomputable def f__law_pick : SemL := arity 2 (defS 5 m__law_pick)
/-- _law_of -/
noncomputable def m__law_of : SX :=
  (sRet (eBin ixX (eName 1) (eArgs f__law_pick (aCons (eName 0) (aCons (eArgs lenX (aCons (eName 1) aNil)) aNil)))))
noncomputable def f__law_of : SemL := arity 2 (defS 2 m__law_of)
/-- _law_same -/
noncomputable def m__law_same (again : SemL) : SX :=
  (sSeq (sIf (bVal (eArgs isiX (aCons (eName 1) (aCons (eArgs semTup (aCons (eLit (.ty "list")) (aCons (eLit (.ty "tuple")) aNil))) aNil))))
  (sSeq (sIf (bOr (bVal (eBin (eqD true) (eArgs isiX (aCons (eName 0) (aCons (eLit (.ty "list")) aNil))) (eArgs isiX (aCons (eName 1) (aCons (eLit (.ty "list")) aNil))))) (bVal (eBin (eqD true) (eArgs isiX (aCons (eName 0) (aCons (eLit (.ty "tuple")) aNil))) (eArgs isiX (aCons (eName 1) (aCons (eLit (.ty "tuple")) aNil))))))
  (sRet (eLit (.bl false)))
  sNil)
  (sRet (eAnd (eBin (eqD false) (eArgs lenX (aCons (eName 0) aNil)) (eArgs lenX (aCons (eName 1) aNil))) (eArgs semAll (aCons (eFin (eLc (itZip (aCons (eName 0) (aCons (eName 1) aNil))) (gTupX (gConsX (gSet 2) (gConsX (gSet 3) gNilX))) bTrue (eArgs again (aCons (eName 2) (aCons (eName 3) aNil))) [2, 3])) aNil)))))
  sNil)
  (sSeq (sIf (bOr (bVal (eBin (isN false) (eName 1) (eLit .non))) (bVal (eBin (isN false) (eName 0) (eLit .non))))
  (sRet (eAnd (eBin (isN false) (eName 1) (eLit .non)) (eBin (isN false) (eName 0) (eLit .non))))
  sNil)
  (sSeq (sIf (bOr (bVal (eBin (eqD true) (eArgs isiX (aCons (eName 0) (aCons (eLit (.ty "bool")) aNil))) (eArgs isiX (aCons (eName 1) (aCons (eLit (.ty "bool")) aNil))))) (bVal (eBin (eqD true) (eArgs isiX (aCons (eName 0) (aCons (eLit (.ty "int")) aNil))) (eArgs isiX (aCons (eName 1) (aCons (eLit (.ty "int")) aNil))))))
  (sRet (eLit (.bl false)))
  sNil)
  (sRet (eAnd (eBin (eqD false) (eArgs isiX (aCons (eName 0) (aCons (eLit (.ty "str")) aNil))) (eArgs isiX (aCons (eName 1) (aCons (eLit (.ty "str")) aNil)))) (eBin (eqD false) (eName 0) (eName 1)))))))
noncomputable def f__law_sameR : Nat → SemL
  | 0 => fun _ _ => .bad
  | k + 1 => arity 2 (defS 4 (m__law_same (f__law_sameR k)))
noncomputable def f__law_same : SemL := f__law_sameR 12
/-- _law_letters -/
noncomputable def m__law_letters : SX :=
  (sSeq (sAsg (eArgs semLstH aNil) (gSet 2))
  (sSeq (sFor (itRange1 (aCons (eName 1) aNil)) (gSet 3)
  (sSeq (sAsg (eFin (eLc (itAny (eLit (.str "abcdefghijklmnopqrstuvwxyz"))) (gSet 5) (bVal (eBin ninX (eName 5) (eName 2))) (eName 5) [5])) (gSet 4))
  (sExp (eMet tyLst semAppend (eName 2) (aCons (eArgs f__law_of (aCons (eName 0) (aCons (eName 4) aNil))) aNil)))))
  (sRet (eMet tyStr semJoin (eLit (.str "")) (aCons (eFin (eArgs semSorted (aCons (eName 2) aNil))) aNil)))))
noncomputable def f__law_letters : SemL := arity 2 (defS 6 m__law_letters)
def bagD (cs : List Int) (a g s : Int) : MO := .lst [.lst (cs.map .int), .int a, .int g, .int s]
theorem pick_great (cs : List Int) (a g sd : Int) (S : Store) (n : Nat) (many : Int) (hS : S[n]? = some (bagD cs a g sd)) (hb : 0 < g) (hm : 0 < many) (hm2 : many.natAbs.log2 < 9000) :
    (m__law_pick [some (.ptr n), some (.int many), none, none, none] S).out = .ok (.int (g % many)) (S.set n (bagD cs a (g / many) sd)) := by
  unfold bagD at hS ⊢
  have hg : ¬ (g = 0) := by omega
  have hn : n < S.length := (List.getElem?_eq_some_iff.mp hS).1
  simp [m__law_pick, sSeq, sIf, bAnd, bVal, eBin, eName, eLit, ix_ptr hS, atI, ixN, hg, sNil, hb, sAsg, eArgs, aCons, aNil, semInt, modI_int hm, divI_int hm hm2, gSet, gSubX, setD, hS, sRet]
theorem atI_nat {xs : List D} {i : Int} (h0 : 0 ≤ i) (h : i < xs.length) : atI xs i = xs[i.toNat]? := by
  simp [atI, ixN, h0, h]
theorem pick_cell (cs : List Int) (a sd c : Int) (S : Store) (n : Nat) (many : Int) (hS : S[n]? = some (bagD cs a 0 sd)) (ha : 0 ≤ a) (hl : a < cs.length) (hc : cs[a.toNat]? = some c) (hc2 : 1000000000000000000 ≤ c) (hm : 0 < many) (hm2 : many.natAbs.log2 < 9000) :
    (m__law_pick [some (.ptr n), some (.int many), none, none, none] S).out = .ok (.int (c % many)) (S.set n (bagD cs (a + 1) (c / many) sd)) := by
  unfold bagD at hS ⊢
  have hn : n < S.length := (List.getElem?_eq_some_iff.mp hS).1
  have hc0 : 0 < c := by omega
  have hix : ixX (.lst (cs.map .int)) (.int a) S = .ok (.int c) S := by rw [ix_lst, atI_nat ha (by simpa using hl)]; simp [hc]
  have hset : ∀ m m' : MO, (S.set n m).set n m' = S.set n m' := fun m m' => by simp
  have hget : ∀ m : MO, (S.set n m)[n]? = some m := fun m => List.getElem?_set_self hn
  have hpow : powI (.int 10) (.int 18) = fun S => .ok (.int 1000000000000000000) S := by funext S; rfl
  simp [m__law_pick, sSeq, sIf, bAnd, bVal, eBin, eName, eLit, ix_ptr hS, atI, ixN, sNil, sAsg, eArgs, aCons, aNil, semInt, modI_int hm, divI_int hm hm2, gSet, gSubX, setD, hS, sRet, len_lst, hl, hix, ix_ptr (hget _), hget, hpow, hc2, hc0]
theorem log_small {i : Int} (h : i.natAbs < 2 ^ 60) : i.natAbs.log2 < 60 := by
  by_cases h0 : i.natAbs = 0
  · rw [h0]; decide
  · exact (Nat.log2_lt h0).mpr h
theorem mulX_small {i j : Int} (S : Store) (h : i.natAbs < 2 ^ 60) (h2 : j.natAbs < 2 ^ 60) : mulX (.int i) (.int j) S = .ok (.int (i * j)) S := by
  have := log_small h
  have := log_small h2
  exact mulX_int (by omega) S
def mixA (sd c : Int) : Int := (sd * 48817 + c % 2147483399 * 9241 + 17) % 2147483563
def mixB (sd : Int) : Int := (sd * sd + sd * 31013 + 1402361) % 2147483563
def mixD (sd : Int) : Int := sd / 71 + sd % 7907 * 59
theorem mixB_lt (sd : Int) : 0 ≤ mixB sd ∧ mixB sd < 2147483563 := ⟨Int.emod_nonneg _ (by decide), Int.emod_lt_of_pos _ (by decide)⟩
theorem mixA_lt (sd c : Int) : 0 ≤ mixA sd c ∧ mixA sd c < 2147483563 := ⟨Int.emod_nonneg _ (by decide), Int.emod_lt_of_pos _ (by decide)⟩
theorem pick_seed (cs : List Int) (a sd : Int) (S : Store) (n : Nat) (many : Int) (hS : S[n]? = some (bagD cs a 0 sd)) (ha : 0 ≤ a) (hl : ¬ a < cs.length) (h0 : 0 ≤ sd) (h1 : sd < 2147483563) (hm : 0 < many) (hm2 : many.natAbs.log2 < 9000) :
    (m__law_pick [some (.ptr n), some (.int many), none, none, none] S).out = .ok (.int (mixD (mixB sd) % many)) (S.set n (bagD cs a 0 (mixB sd))) := by
  unfold bagD at hS ⊢
  have hn : n < S.length := (List.getElem?_eq_some_iff.mp hS).1
  have hset : ∀ m m' : MO, (S.set n m).set n m' = S.set n m' := fun m m' => by simp
  have hget : ∀ m : MO, (S.set n m)[n]? = some m := fun m => List.getElem?_set_self hn
  have q1 : ∀ S, mulX (.int sd) (.int sd) S = .ok (.int (sd * sd)) S := fun S => mulX_small S (by omega) (by omega)
  have q2 : ∀ S, mulX (.int sd) (.int 31013) S = .ok (.int (sd * 31013)) S := fun S => mulX_small S (by omega) (by decide)
  have z : ∀ x : Int, (x % 7907).natAbs < 2 ^ 60 := fun x => by omega
  have q3 : ∀ S x, mulX (.int (x % 7907)) (.int 59) S = .ok (.int (x % 7907 * 59)) S := fun S x => mulX_small S (z x) (by decide)
  have m1 : ∀ S x, modI (.int x) (.int 2147483563) S = .ok (.int (x % 2147483563)) S := fun S x => modI_int (by decide) S
  have m2 : ∀ S x, modI (.int x) (.int 7907) S = .ok (.int (x % 7907)) S := fun S x => modI_int (by decide) S
  have d1 : ∀ S x, divI (.int x) (.int 71) S = .ok (.int (x / 71)) S := fun S x => divI_int (by decide) (by decide) S
  simp [m__law_pick, sSeq, sIf, bAnd, bVal, eBin, eName, eLit, ix_ptr hS, atI, ixN, sNil, sAsg, eArgs, aCons, aNil, semInt, modI_int hm, gSet, gSubX, setD, hS, sRet, len_lst, hl, ix_ptr (hget _), hget, q1, q2, q3, m1, m2, d1, mixD, mixB]
theorem pick_mix (cs : List Int) (a sd c : Int) (S : Store) (n : Nat) (many : Int) (hS : S[n]? = some (bagD cs a 0 sd)) (ha : 0 ≤ a) (hl : a < cs.length) (hc : cs[a.toNat]? = some c) (hc2 : ¬ 1000000000000000000 ≤ c) (h0 : 0 ≤ sd) (h1 : sd < 2147483563) (hm : 0 < many) (hm2 : many.natAbs.log2 < 9000) :
    (m__law_pick [some (.ptr n), some (.int many), none, none, none] S).out = .ok (.int (mixD (mixB (mixA sd c)) % many)) (S.set n (bagD cs (a + 1) 0 (mixB (mixA sd c)))) := by
  unfold bagD at hS ⊢
  have hn : n < S.length := (List.getElem?_eq_some_iff.mp hS).1
  have hix : ixX (.lst (cs.map .int)) (.int a) S = .ok (.int c) S := by rw [ix_lst, atI_nat ha (by simpa using hl)]; simp [hc]
  have hset : ∀ m m' : MO, (S.set n m).set n m' = S.set n m' := fun m m' => by simp
  have hget : ∀ m : MO, (S.set n m)[n]? = some m := fun m => List.getElem?_set_self hn
  have hpow : powI (.int 10) (.int 18) = fun S => .ok (.int 1000000000000000000) S := by funext S; rfl
  have e := mixA_lt sd c
  have z : ∀ x : Int, (x % 7907).natAbs < 2 ^ 60 := fun x => by omega
  have z2 : ∀ x : Int, (x % 2147483399).natAbs < 2 ^ 60 := fun x => by omega
  have z3 : (mixA sd c).natAbs < 2 ^ 60 := by omega
  have q0 : ∀ S, mulX (.int sd) (.int 48817) S = .ok (.int (sd * 48817)) S := fun S => mulX_small S (by omega) (by decide)
  have q4 : ∀ S x, mulX (.int (x % 2147483399)) (.int 9241) S = .ok (.int (x % 2147483399 * 9241)) S := fun S x => mulX_small S (z2 x) (by decide)
  have q1 : ∀ S, mulX (.int (mixA sd c)) (.int (mixA sd c)) S = .ok (.int (mixA sd c * mixA sd c)) S := fun S => mulX_small S z3 z3
  have q2 : ∀ S, mulX (.int (mixA sd c)) (.int 31013) S = .ok (.int (mixA sd c * 31013)) S := fun S => mulX_small S z3 (by decide)
  have q3 : ∀ S x, mulX (.int (x % 7907)) (.int 59) S = .ok (.int (x % 7907 * 59)) S := fun S x => mulX_small S (z x) (by decide)
  have m1 : ∀ S x, modI (.int x) (.int 2147483563) S = .ok (.int (x % 2147483563)) S := fun S x => modI_int (by decide) S
  have m2 : ∀ S x, modI (.int x) (.int 7907) S = .ok (.int (x % 7907)) S := fun S x => modI_int (by decide) S
  have m3 : ∀ S x, modI (.int x) (.int 2147483399) S = .ok (.int (x % 2147483399)) S := fun S x => modI_int (by decide) S
  have d1 : ∀ S x, divI (.int x) (.int 71) S = .ok (.int (x / 71)) S := fun S x => divI_int (by decide) (by decide) S
  have fA : (sd * 48817 + c % 2147483399 * 9241 + 17) % 2147483563 = mixA sd c := rfl
  have fB : (mixA sd c * mixA sd c + mixA sd c * 31013 + 1402361) % 2147483563 = mixB (mixA sd c) := rfl
  simp [m__law_pick, sSeq, sIf, bAnd, bVal, eBin, eName, eLit, ix_ptr hS, atI, ixN, sNil, sAsg, eArgs, aCons, aNil, semInt, modI_int hm, gSet, gSubX, setD, hS, sRet, len_lst, hl, hix, ix_ptr (hget _), hget, hpow, hc2, q0, q1, q2, q3, q4, m1, m2, m3, d1, fA, fB, mixD]
theorem closed_set {S : Store} {n : Nat} {m : MO} (h : underM S.length m = true) : Closed S (S.set n m) := fun i m' hi e => by
  by_cases q : n = i
  · subst q
    rw [List.getElem?_set_self hi] at e
    cases e
    exact .inr h
  · rw [List.getElem?_set_ne q] at e
    exact .inl e
theorem underL_ints (k : Nat) : ∀ cs : List Int, underL k (cs.map .int) = true
  | [] => rfl
  | c :: cs => by rw [List.map_cons, underL, under, underL_ints k cs]; rfl
theorem under_bag (k : Nat) (cs : List Int) (a g s : Int) : underM k (bagD cs a g s) = true := by
  simp [bagD, underM, underL, under, underL_ints]
theorem fin_set {S : Store} {n : Nat} {m : MO} {d : D} (h : underM S.length m = true) (hd : ∀ g, frzD g d = some d) : fin S (.ok d (S.set n m)) = .ok d (S.set n m) := by
  simp only [fin, if_pos (closed_set h), hd]
  rw [show (S.set n m).take S.length = S.set n m from List.take_of_length_le (by simp)]
/-! ### the bag -/
structure BagAt (S : Store) (n : Nat) (cs : List Int) (a g s : Int) : Prop where
  at_ : S[n]? = some (bagD cs a g s)
  a0 : 0 ≤ a
  g0 : 0 ≤ g
  s0 : 0 ≤ s
  s1 : s < 2147483563
def IsBag (S : Store) (n : Nat) (cs : List Int) : Prop := ∃ a g s, BagAt S n cs a g s
/-- S' is S with another state of the bag -/
def Drawn (n : Nat) (cs : List Int) (S S' : Store) : Prop := IsBag S' n cs ∧ ∃ a g s, S' = S.set n (bagD cs a g s)
section
variable {S S' S'' T : Store} {n : Nat} {cs : List Int}
theorem IsBag.lt (h : IsBag S n cs) : n < S.length := by
  obtain ⟨a, g, s, h⟩ := h
  exact (List.getElem?_eq_some_iff.mp h.at_).1
theorem IsBag.app (h : IsBag S n cs) : IsBag (S ++ T) n cs := by
  obtain ⟨a, g, s, h⟩ := h
  exact ⟨a, g, s, by rw [List.getElem?_append_left (List.getElem?_eq_some_iff.mp h.at_).1]; exact h.at_, h.a0, h.g0, h.s0, h.s1⟩
theorem IsBag.of_app (h : IsBag (S ++ T) n cs) (hn : n < S.length) : IsBag S n cs := by
  obtain ⟨a, g, s, h⟩ := h
  exact ⟨a, g, s, by have := h.at_; rwa [List.getElem?_append_left hn] at this, h.a0, h.g0, h.s0, h.s1⟩
theorem Drawn.refl (h : IsBag S n cs) : Drawn n cs S S := by
  refine ⟨h, ?_⟩
  obtain ⟨a, g, s, h⟩ := h
  refine ⟨a, g, s, ?_⟩
  have := h.at_
  rw [List.getElem?_eq_some_iff] at this
  obtain ⟨hn, e⟩ := this
  rw [← e, List.set_getElem_self]
theorem Drawn.trans (h : Drawn n cs S S') (h' : Drawn n cs S' S'') : Drawn n cs S S'' := by
  obtain ⟨_, a, g, s, e⟩ := h
  obtain ⟨b, a', g', s', e'⟩ := h'
  exact ⟨b, a', g', s', by rw [e', e]; simp⟩
theorem Drawn.len (h : Drawn n cs S S') : S'.length = S.length := by
  obtain ⟨_, a, g, s, e⟩ := h
  rw [e]; simp
theorem Drawn.keep (h : Drawn n cs S S') : Keep S S' := by
  obtain ⟨_, a, g, s, e⟩ := h
  rw [e]
  exact Keep.set (under_bag _ _ _ _ _)
theorem Drawn.get (h : Drawn n cs S S') {i : Nat} (hi : i ≠ n) : S'[i]? = S[i]? := by
  obtain ⟨_, a, g, s, e⟩ := h
  rw [e, List.getElem?_set_ne (Ne.symm hi)]
/-- a draw beneath T -/
theorem Drawn.split (hB : IsBag S n cs) (h : Drawn n cs (S ++ T) S'') : ∃ S', S'' = S' ++ T ∧ Drawn n cs S S' := by
  obtain ⟨b, a, g, s, e⟩ := h
  refine ⟨S.set n (bagD cs a g s), by rw [e, List.set_append_left _ _ hB.lt], ?_, a, g, s, rfl⟩
  rw [e, List.set_append_left _ _ hB.lt] at b
  exact b.of_app (by simpa using hB.lt)
end
/-- h draws: it answers R, and changes the bag alone -/
def DF (n : Nat) (cs : List Int) (h : Store → Out D) (R : D → Prop) : Prop := ∀ S, IsBag S n cs → We (h S) (fun d S' => Drawn n cs S S' ∧ R d) (fun _ _ => False)
section
variable {n : Nat} {cs : List Int} {h : Store → Out D} {R : D → Prop} {S T : Store} {P : D → Store → Prop} {X : D → Store → Prop}
theorem DF.we (H : DF n cs h R) (hB : IsBag S n cs) (k : ∀ d S', R d → Drawn n cs S S' → P d S') : We (h S) P X := (H S hB).mono (fun d S' ⟨h1, h2⟩ => k d S' h2 h1) fun _ _ q => q.elim
theorem DF.app (H : DF n cs h R) (hB : IsBag S n cs) (k : ∀ d S', R d → Drawn n cs S S' → P d (S' ++ T)) : We (h (S ++ T)) P X := (H (S ++ T) hB.app).mono (fun d S'' ⟨h1, h2⟩ => by
  obtain ⟨S', e, h3⟩ := Drawn.split hB h1
  rw [e]
  exact k d S' h2 h3) fun _ _ q => q.elim
theorem DF.imp {R' : D → Prop} (H : DF n cs h R) (k : ∀ d, R d → R' d) : DF n cs h R' := fun S hB => (H S hB).post fun d S' ⟨h1, h2⟩ => ⟨h1, k d h2⟩
theorem fin_drawn {S S1 : Store} {d : D} (h : Drawn n cs S S1) (hd : under S.length d = true) (p : P d S1) : FinP S P d S1 := finP_keep0 h.keep hd p
theorem fin_drawnA {S S1 T : Store} {d : D} (h : Drawn n cs S S1) (hd : under S.length d = true) (p : P d S1) : FinP S P d (S1 ++ T) := finP_app h.keep hd p
theorem fin_drawnL {S S1 : Store} {acc : List D} (h : Drawn n cs S S1) (hu : underL S.length acc = true) (p : P (.lst acc) S1) : FinP S P (.ptr S1.length) (S1 ++ [.lst acc]) := finP_lst h.keep hu p
end
/-! ### draws -/
theorem pick_df {n : Nat} {cs : List Int} {many : Int} (hm : 0 < many) (hm2 : many < 1000000) : DF n cs (f__law_pick [.ptr n, .int many]) (fun d => ∃ k : Nat, (k : Int) < many ∧ d = .int k) := fun S hB => by
  have hB0 := hB
  obtain ⟨a, g, s, hb⟩ := hB
  have hlog : many.natAbs.log2 < 9000 := by
    have := log_small (i := many) (by omega)
    omega
  have hn : n < S.length := (List.getElem?_eq_some_iff.mp hb.at_).1
  have key : ∀ (x a' g' s' : Int), (m__law_pick [some (.ptr n), some (.int many), none, none, none] S).out = .ok (.int (x % many)) (S.set n (bagD cs a' g' s')) → 0 ≤ a' → 0 ≤ g' → 0 ≤ s' → s' < 2147483563 →
      We (f__law_pick [.ptr n, .int many] S) (fun d S' => Drawn n cs S S' ∧ ∃ k : Nat, (k : Int) < many ∧ d = .int k) (fun _ _ => False) := fun x a' g' s' e h1 h2 h3 h4 => by
    have hx := Int.emod_nonneg x (show many ≠ 0 by omega)
    refine we_eq (a := .int (x % many)) (S := S.set n (bagD cs a' g' s')) ?_ ⟨⟨⟨a', g', s', List.getElem?_set_self hn, h1, h2, h3, h4⟩, a', g', s', rfl⟩, (x % many).toNat, by rw [Int.toNat_of_nonneg hx]; exact Int.emod_lt_of_pos _ hm, by rw [Int.toNat_of_nonneg hx]⟩
    show fin S (m__law_pick [some (.ptr n), some (.int many), none, none, none] S).out = _
    rw [e]
    exact fin_set (under_bag _ _ _ _ _) fun g => by simp [frzD]
  by_cases hg : 0 < g
  · exact key g a (g / many) s (pick_great cs a g s S n many hb.at_ hg hm hlog) hb.a0 (Int.ediv_nonneg hb.g0 (by omega)) hb.s0 hb.s1
  · have hg0 : g = 0 := by have := hb.g0; omega
    have hat := hb.at_
    rw [hg0] at hat
    by_cases hl : a < cs.length
    · have ha := hb.a0
      obtain ⟨c, hc⟩ : ∃ c, cs[a.toNat]? = some c := ⟨cs[a.toNat]'(by omega), by simp⟩
      by_cases h18 : 1000000000000000000 ≤ c
      · exact key c (a + 1) (c / many) s (pick_cell cs a s c S n many hat ha hl hc h18 hm hlog) (by omega) (Int.ediv_nonneg (by omega) (by omega)) hb.s0 hb.s1
      · exact key _ (a + 1) 0 _ (pick_mix cs a s c S n many hat ha hl hc h18 hb.s0 hb.s1 hm hlog) (by omega) (by omega) (mixB_lt _).1 (mixB_lt _).2
    · exact key _ a 0 _ (pick_seed cs a s S n many hat hb.a0 hl hb.s0 hb.s1 hm hlog) hb.a0 (by omega) (mixB_lt _).1 (mixB_lt _).2
theorem we_def {N n : Nat} {body : SX} {ds : List D} {S : Store} {P X : D → Store → Prop} (hl : ds.length = n) (h : Wo (body (ds.map some ++ List.replicate (N - ds.length) none) S) (QF S P X)) : We (arity n (defS N body) ds S) P X := by
  rw [w_arity hl, we_defS]
  exact h
theorem we_defO {N n : Nat} {body : SX} {ds : List D} {S : Store} {P X : D → Store → Prop} (hl : ds.length = n) (h : Wo (body (ds.map some ++ List.replicate (N - ds.length) none) S) ⟨fun _ S' => P .non S', fun _ _ => False, fun _ _ => False, P, fun e _ S' => X e S'⟩) : We (arity n (defH N body) ds S) P X := by
  rw [w_arity hl, we_defH]
  exact h
theorem bag_start {P X : D → Store → Prop} (ns : List Int) (p : P (.ptr 0) [bagD (ns.take 63) 0 0 5625]) : We (f__law_bag [.scr ns] []) P X := by
  unfold f__law_bag
  refine we_defO rfl ?_
  simp [m__law_bag, ← List.map_take]
  exact p
theorem bag_is (ns : List Int) : IsBag [bagD (ns.take 63) 0 0 5625] 0 (ns.take 63) := ⟨0, 0, 5625, rfl, by decide, by decide, by decide, by decide⟩
/-- one of some -/
theorem of_df {n : Nat} {cs : List Int} {xs : List D} (hx : xs ≠ []) (hl : xs.length < 1000000) (hu : underL 0 xs = true) : DF n cs (f__law_of [.ptr n, .lst xs]) (fun d => d ∈ xs) := fun S hB => by
  have h0 : 0 < xs.length := List.length_pos_iff.mpr hx
  unfold f__law_of
  refine we_def rfl ?_
  simp [m__law_of]
  refine (pick_df (by omega) (by omega)).we hB fun d S' ⟨k, hk, e⟩ hD => ?_
  subst e
  have hk' : k < xs.length := by omega
  simp [hk']
  exact fin_drawn hD (under_of (underL_iff.mp hu _ (List.getElem_mem _))) ⟨hD, List.getElem_mem _⟩
/-- one sign of a text -/
theorem ofS_df {n : Nat} {cs : List Int} {l : List Nat} (hx : l ≠ []) (hl : l.length < 1000000) : DF n cs (f__law_of [.ptr n, .str (tx l)]) (fun d => ∃ c ∈ l, d = sg c) := fun S hB => by
  have h0 : 0 < l.length := List.length_pos_iff.mpr hx
  unfold f__law_of
  refine we_def rfl ?_
  simp [m__law_of]
  refine ⟨by omega, ?_⟩
  refine (pick_df (by omega) (by omega)).we hB fun d S' ⟨k, hk, e⟩ hD => ?_
  subst e
  have hk' : k < l.length := by omega
  simp [hk']
  exact ⟨by omega, fin_drawn hD (by simp) ⟨hD, _, List.getElem_mem _, rfl⟩⟩

/-- a comprehension that draws, every item stays: as a handle -/
theorem we_lc_drawH {n : Nat} {cs : List Int} {S S0 : Store} {sl : Sl} {it : IX} {G : Store → Prop} {g : GX} {fe : EX} {own : List Nat} {P X : D → Store → Prop} {xs : List D} (hB : IsBag S0 n cs) (hit : it sl S = .ok (xs, G) S0) (hl : xs.length ≤ 1000000) (hG : ∀ S' T, Drawn n cs S0 S' → G (S' ++ T)) (E : D → D → Prop)
    (step : ∀ x ∈ xs, ∀ S' acc, Drawn n cs S0 S' → Wo (g x (wipeS sl own) (S' ++ [.lst acc])) ⟨fun sl1 S1 => We (fe sl1 S1) (fun d S3 => ∃ S4, S3 = S4 ++ [.lst acc] ∧ Drawn n cs S' S4 ∧ E x d) (fun _ _ => False), fun _ _ => False, fun _ _ => False, fun _ _ => False, fun _ _ _ => False⟩)
    (hend : ∀ ys S', ys.length = xs.length → (∀ y ∈ ys, ∃ x ∈ xs, E x y) → Drawn n cs S0 S' → P (.ptr S'.length) (S' ++ [.lst ys])) : We (eLc it g bTrue fe own sl S) P X := by
  refine we_lc hit hl (fun pre acc S1 => Drawn n cs S0 S1 ∧ acc.length = pre.length ∧ ∀ y ∈ acc, ∃ x ∈ xs, E x y) (fun p acc S1 h => ⟨h.1.len, by omega⟩) ⟨Drawn.refl hB, rfl, by simp⟩ (fun p x post acc S1 he h => ⟨hG _ _ h.1, ?_⟩) fun acc S1 h => ⟨hG _ _ h.1, hend acc S1 h.2.1 h.2.2 h.1⟩
  have hx : x ∈ xs := by rw [he]; simp
  refine (step x hx S1 acc h.1).mono (fun sl1 S2 h2 => ?_) (fun _ _ h => h) (fun _ _ h => h) (fun _ _ h => h) (fun _ _ _ h => h)
  simp only [bTrue, we_ok, if_true]
  refine h2.post fun d S3 ⟨S4, e, hD, hd⟩ => ⟨S4, e, h.1.trans hD, by simp [h.2.1], fun y hy => ?_⟩
  rcases List.mem_append.mp hy with hy | hy
  · exact h.2.2 y hy
  · rw [List.mem_singleton.mp hy]; exact ⟨x, hx, hd⟩
/-- .. as a value -/
theorem we_lc_draw {n : Nat} {cs : List Int} {S S0 : Store} {sl : Sl} {it : IX} {G : Store → Prop} {g : GX} {fe : EX} {own : List Nat} {P X : D → Store → Prop} {xs : List D} (hD0 : Drawn n cs S S0) (hit : it sl S = .ok (xs, G) S0) (hl : xs.length ≤ 1000000) (hG : ∀ S' T, Drawn n cs S0 S' → G (S' ++ T)) (E : D → D → Prop)
    (step : ∀ x ∈ xs, ∀ S' acc, Drawn n cs S0 S' → Wo (g x (wipeS sl own) (S' ++ [.lst acc])) ⟨fun sl1 S1 => We (fe sl1 S1) (fun d S3 => ∃ S4, S3 = S4 ++ [.lst acc] ∧ Drawn n cs S' S4 ∧ E x d) (fun _ _ => False), fun _ _ => False, fun _ _ => False, fun _ _ => False, fun _ _ _ => False⟩)
    (hu : ∀ x d, E x d → under 0 d = true) (hend : ∀ ys S', ys.length = xs.length → (∀ y ∈ ys, ∃ x ∈ xs, E x y) → Drawn n cs S0 S' → P (.lst ys) S') : We (eLc it g bTrue fe own sl S) (FinP S P) X := by
  refine we_lc_drawH hD0.1 hit hl hG E step fun ys S' h1 h2 h3 => finP_lst (hD0.trans h3).keep (underL_of ?_) (hend ys S' h1 h2 h3)
  rw [underL_iff]
  exact fun d hd => let ⟨x, _, h⟩ := h2 d hd; hu x d h
/-! ### letters -/
def abc : List Nat := List.range' 97 26
@[simp] theorem lit_abc : (("abcdefghijklmnopqrstuvwxyz" : Str)) = tx abc := by decide +kernel
@[simp] theorem lit_empty : (("" : Str)) = tx [] := by decide +kernel
theorem mem_abc {c : Nat} : c ∈ abc ↔ 97 ≤ c ∧ c ≤ 122 := by
  unfold abc
  rw [List.mem_range'_1]
  omega
theorem abc_nodup : abc.Nodup := by decide
/-- small letters, each above the one before -/
structure Alpha (l : List Nat) : Prop where
  asc : l.Pairwise (· < ·)
  low : ∀ c ∈ l, c ∈ abc
theorem sort_asc {l : List Nat} (h : l.Nodup) : (l.mergeSort fun a b => decide (a ≤ b)).Pairwise (· < ·) := by
  have h1 : (l.mergeSort fun a b => decide (a ≤ b)).Pairwise (fun a b => decide (a ≤ b) = true) := List.pairwise_mergeSort (fun a b c h1 h2 => by simp at *; omega) (fun a b => by simp; omega) l
  have h2 : (l.mergeSort fun a b => decide (a ≤ b)).Nodup := (List.mergeSort_perm l _).nodup_iff.mpr h
  refine (h1.and h2).imp fun {a b} ⟨h3, h4⟩ => ?_
  have := of_decide_eq_true h3
  omega
theorem length_le_of {l m : List Nat} (h : l.Nodup) (hs : ∀ c ∈ l, c ∈ m) : l.length ≤ m.length := by
  induction l generalizing m with
  | nil => simp
  | cons a l ih =>
    have ha : a ∈ m := hs a (by simp)
    rw [List.nodup_cons] at h
    have := ih (m := m.erase a) h.2 fun c hc => by
      rw [List.mem_erase_of_ne (by rintro rfl; exact h.1 hc)]
      exact hs c (by simp [hc])
    rw [List.length_erase_of_mem ha] at this
    have := List.length_pos_of_mem ha
    simp only [List.length_cons]
    omega
theorem tyLst_at {S : Store} {n : Nat} {xs : List D} (h : S[n]? = some (.lst xs)) : tyLst S (.ptr n) = true := by simp [tyLst, asL, h]
theorem set_last {S : Store} {n : Nat} {a b : MO} (h : S.length = n) : (S ++ [a]).set n b = S ++ [b] := by
  subst h
  rw [List.set_append_right _ _ (Nat.le_refl _)]
  simp
theorem get_last {S : Store} {n : Nat} {a : MO} (h : S.length = n) : (S ++ [a])[n]? = some a := by
  subst h
  simp
theorem filter_sgs (p : Nat → Bool) (q : D → Bool) (h : ∀ c, q (sg c) = p c) (l : List Nat) : (l.map sg).filter q = (l.filter p).map sg := by
  induction l with
  | nil => rfl
  | cons c l ih =>
    rw [List.map_cons, List.filter_cons, List.filter_cons, h, ih]
    split <;> simp
theorem letters_df {n : Nat} {cs : List Int} {many : Nat} (hm : many ≤ 20) : DF n cs (f__law_letters [.ptr n, .int many]) (fun d => ∃ l, d = .str (tx l) ∧ l.length = many ∧ Alpha l) := fun S hB => by
  unfold f__law_letters
  refine we_def rfl ?_
  simp [m__law_letters]
  refine wo_for (itRange1_of (j := many) (eName_of rfl) (by omega) (by omega)) (fun pre sl S1 => ∃ x3 x4 x5 acc S0, sl = [some (.ptr n), some (.int many), some (.ptr S.length), x3, x4, x5] ∧ S1 = S0 ++ [.lst (acc.map sg)] ∧ Drawn n cs S S0 ∧ acc.length = pre.length ∧ acc.Nodup ∧ ∀ c ∈ acc, c ∈ abc) ⟨_, _, _, [], S, rfl, rfl, Drawn.refl hB, rfl, List.nodup_nil, by simp⟩ ?_ ?_
  · rintro p x post sl S1 he ⟨x3, x4, x5, acc, S0, rfl, rfl, hD, hl, hn, ha⟩
    have hlen := congrArg List.length he
    simp [rangeD] at hlen
    refine ⟨trivial, ?_⟩
    simp
    refine we_lcF_pure (xs := abc.map sg) (fun d => !inD d (acc.map sg)) id (itAny_of rfl (by simp)) (by simp [abc]) (fun _ => rfl) (fun x hx T => ?_) (fun x hx _ => ?_) ?_
    · obtain ⟨c, hc, rfl⟩ := List.mem_map.mp hx
      simp [wipeS]
      rw [ninX_sq (xs := acc.map sg) (asS_ptr (by rw [← hD.len]; simp)) rfl (by simp)]
      simp
    · obtain ⟨c, hc, rfl⟩ := List.mem_map.mp hx
      simp
    · have hS0 : (S0 ++ [MO.lst (acc.map sg)])[S.length]? = some (.lst (acc.map sg)) := get_last hD.len
      refine ⟨tyLst_at hS0, ?_⟩
      rw [List.map_id, filter_sgs (fun c => !decide (c ∈ acc)) _ (fun c => by simp)]
      have hne : ∃ c, c ∈ abc ∧ c ∉ acc := by
        refine Classical.byContradiction fun hc => ?_
        have h1 : abc.length ≤ acc.length := length_le_of abc_nodup fun c h => Classical.byContradiction fun h' => hc ⟨c, h, h'⟩
        have h2 : abc.length = 26 := by simp [abc]
        omega
      obtain ⟨c0, hc0, hc1⟩ := hne
      have hll : (abc.filter (fun c => !decide (c ∈ acc))).length ≤ 26 := Nat.le_trans (List.length_filter_le _ _) (by simp [abc])
      refine (of_df (by
        have : c0 ∈ abc.filter (fun c => !decide (c ∈ acc)) := by simp [hc0, hc1]
        intro h
        rw [List.map_eq_nil_iff] at h
        rw [h] at this; cases this) (by simp; omega) (by simp)).app hD.1 fun d S' hd hD' => ?_
      obtain ⟨c, hc, rfl⟩ := List.mem_map.mp hd
      simp at hc
      rw [append_at (xs := acc.map sg) (get_last (hD'.len.trans hD.len)) (by simp; omega)]
      simp
      refine ⟨acc ++ [c], S', by rw [set_last (hD'.len.trans hD.len)]; simp, hD.trans hD', by simp [hl], List.nodup_append.mpr ⟨hn, by simp, by rintro a h b hb rfl; simp at hb; subst hb; exact hc.2 h⟩, fun x hx => ?_⟩
      simp at hx
      rcases hx with hx | rfl
      · exact ha x hx
      · exact hc.1
  · rintro sl S1 ⟨x3, x4, x5, acc, S0, rfl, rfl, hD, hl, hn, ha⟩
    simp [rangeD] at hl
    refine ⟨trivial, ?_⟩
    simp [tyStr]
    refine w_sortedF (l := acc) (by omega) (asL_ptr (get_last hD.len)) ?_
    rw [w_joinSg (l := acc.mergeSort fun a b => decide (a ≤ b)) rfl]
    refine ⟨by simp; omega, fin_drawnA hD (by simp) ⟨hD, _, rfl, by simp; omega, sort_asc hn, fun c hc => ha c (by simpa using hc)⟩⟩

/-! ### sameness -/
mutual
/-- plain data of a depth at most k -/
def plain : Nat → D → Prop
  | _, .non => True
  | _, .bl _ => True
  | _, .int _ => True
  | _, .str s => okS s.cps.toList
  | k + 1, .tup xs => plainL k xs ∧ xs.length ≤ 1000000
  | k + 1, .lst xs => plainL k xs ∧ xs.length ≤ 1000000
  | _, _ => False
def plainL : Nat → List D → Prop
  | _, [] => True
  | k, d :: ds => plain k d ∧ plainL k ds
end
theorem plainL_iff {k : Nat} : ∀ {xs : List D}, plainL k xs ↔ ∀ x ∈ xs, plain k x
  | [] => by simp [plainL]
  | x :: xs => by simp [plainL, plainL_iff (xs := xs)]
@[simp] theorem plain_non {k : Nat} : plain k .non := by cases k <;> simp [plain]
@[simp] theorem plain_bl {k : Nat} {b : Bool} : plain k (.bl b) := by cases k <;> simp [plain]
@[simp] theorem plain_int {k : Nat} {b : Int} : plain k (.int b) := by cases k <;> simp [plain]
@[simp] theorem plain_str {k : Nat} {l : List Nat} : plain k (.str (tx l)) = okS l := by cases k <;> simp [plain]
theorem eq_of_we {α : Type} {o : Out α} {a : α} {S : Store} (h : We o (fun r S' => r = a ∧ S' = S) (fun _ _ => False)) : o = .ok a S := by
  obtain ⟨r, S', e, h1, h2⟩ := h.get
  rw [e, h1, h2]
theorem sameR_zero (k : Nat) (d : D) (S : Store) (h : plain 0 d) : f__law_sameR (k + 1) [d, d] S = .ok (.bl true) S := by
  refine eq_of_we ?_
  unfold f__law_sameR
  refine we_def rfl ?_
  cases d with
  | non => simp [m__law_same]
  | bl b => simp [m__law_same]
  | int i => simp [m__law_same]
  | str s =>
    rw [← tx_eta s] at h ⊢
    rw [plain_str] at h
    simp [m__law_same, eqD_str h h]
  | _ => simp [plain] at h
theorem same_refl : ∀ (k : Nat) (d : D) (S : Store), plain k d → f__law_sameR (k + 1) [d, d] S = .ok (.bl true) S := fun k => by
  induction k with
  | zero =>
    intro d S h
    exact sameR_zero 0 d S h
  | succ k ih =>
    intro d S h
    have seq : ∀ xs : List D, plainL k xs → xs.length ≤ 1000000 → ∀ d, d = .tup xs ∨ d = .lst xs → f__law_sameR (k + 1 + 1) [d, d] S = .ok (.bl true) S := fun xs hx hl d hd => by
      refine eq_of_we ?_
      rw [f__law_sameR]
      refine we_def rfl ?_
      have hz : (zipD xs xs) = xs.map fun x => .tup [x, x] := by
        unfold zipD
        rw [List.zipWith_self]
      have key : ∀ {P X X' : D → Store → Prop} {sl : Sl} {d : D}, P (.bl true) S → eName 0 sl S = .ok d S → eName 1 sl S = .ok d S → srcD S d = some xs → (∀ T, srcD (S ++ T) d = some xs) → sl.length = 4 →
          We (eLc (itZip (aCons (eName 0) (aCons (eName 1) aNil))) (gTupX (gConsX (gSet 2) (gConsX (gSet 3) gNilX))) bTrue (eArgs (f__law_sameR (k + 1)) (aCons (eName 2) (aCons (eName 3) aNil))) [2, 3] sl S) (FinP S fun d' S1 => We (semAll [d'] S1) P X) X' := fun {P X X' sl d} hP h1 h2 h3 h4 h5 => by
        have hit := itZip_of h1 h2 h3 h3
        rw [hz] at hit
        refine we_lcF_pure (xs := xs.map fun x => .tup [x, x]) (fun _ => true) (fun _ => .bl true) hit (by simpa using hl) (fun acc => ⟨h4 _, h4 _⟩) (fun x hx' T => ?_) (fun x hx _ => ?_) ?_
        · obtain ⟨y, hy, rfl⟩ := List.mem_map.mp hx'
          match sl, h5 with
          | [a, b, c, e], _ =>
            simp [wipeS, bTrue]
            rw [ih y _ (plainL_iff.mp hx y hy)]
            simp
        · simp
        · rw [all_const, we_ok]
          exact hP
      rcases hd with rfl | rfl
      · simp [m__law_same]
        refine key (d := .tup xs) ?_ ?_ ?_ ?_ ?_ ?_
        · simp
        · rfl
        · rfl
        · rfl
        · intro T; rfl
        · rfl
      · simp [m__law_same]
        refine key (d := .lst xs) ?_ ?_ ?_ ?_ ?_ ?_
        · simp
        · rfl
        · rfl
        · rfl
        · intro T; rfl
        · rfl
    cases d with
    | tup xs => rw [plain] at h; exact seq xs h.1 h.2 _ (.inl rfl)
    | lst xs => rw [plain] at h; exact seq xs h.1 h.2 _ (.inr rfl)
    | non => exact sameR_zero _ _ S plain_non
    | bl b => exact sameR_zero _ _ S plain_bl
    | int i => exact sameR_zero _ _ S plain_int
    | str s =>
      refine sameR_zero _ _ S ?_
      rw [← tx_eta s] at h ⊢
      rw [plain_str] at h ⊢
      exact h
    | _ => simp [plain] at h
end Z
namespace K51
open PySem PySem.Spec L2 Z
/-- is_alphabet -/
noncomputable def m_is_alphabet : SX :=
  (sSeq (sIf (bOr (bNot (bVal (eArgs isiX (aCons (eName 0) (aCons (eLit (.ty "str")) aNil))))) (bNot (bVal (eChain leI leI (eLit (.int 1)) (eArgs lenX (aCons (eName 0) aNil)) (eLit (.int 5))))))
  (sRet (eLit (.bl false)))
  sNil)
  (sSeq (sIf (bNot (bVal (eArgs semAll (aCons (eFin (eLc (itAny (eName 0)) (gSet 1) bTrue (eBin inX (eName 1) (eLit (.str "abcdefghijklmnopqrstuvwxyz"))) [1])) aNil))))
  (sRet (eLit (.bl false)))
  sNil)
  (sRet (eArgs semAll (aCons (eFin (eLc (itZip (aCons (eName 0) (aCons (eSl false (eName 0) (oInt (eLit (.int 1))) oNone) aNil))) (gTupX (gConsX (gSet 2) (gConsX (gSet 3) gNilX))) bTrue (eBin ltX (eName 2) (eName 3)) [2, 3])) aNil)))))
noncomputable def f_is_alphabet : SemL := arity 1 (defS 4 m_is_alphabet)
/-- is_list -/
noncomputable def m_is_list : SX :=
  (sRet (eArgs isiX (aCons (eName 0) (aCons (eArgs semTup (aCons (eLit (.ty "list")) (aCons (eLit (.ty "tuple")) aNil))) aNil))))
noncomputable def f_is_list : SemL := arity 1 (defS 1 m_is_list)
/-- are_rolls -/
noncomputable def m_are_rolls : SX :=
  (sSeq (sIf (bOr (bNot (bVal (eArgs f_is_list (aCons (eName 0) aNil)))) (bOr (bNot (bVal (eChain leI leI (eLit (.int 1)) (eArgs lenX (aCons (eName 0) aNil)) (eLit (.int 3))))) (bNot (bVal (eArgs semAll (aCons (eFin (eLc (itAny (eName 0)) (gSet 1) bTrue (eArgs f_is_alphabet (aCons (eName 1) aNil)) [1])) aNil))))))
  (sRet (eLit (.bl false)))
  sNil)
  (sRet (eArgs f_is_alphabet (aCons (eMet tyStr semJoin (eLit (.str "")) (aCons (eFin (eArgs semSorted (aCons (eMet tyStr semJoin (eLit (.str "")) (aCons (eName 0) aNil)) aNil))) aNil)) aNil))))
noncomputable def f_are_rolls : SemL := arity 1 (defS 2 m_are_rolls)
/-- is_whole -/
noncomputable def m_is_whole : SX :=
  (sRet (eAnd (eArgs isiX (aCons (eName 0) (aCons (eLit (.ty "int")) aNil))) (eNot (eArgs isiX (aCons (eName 0) (aCons (eLit (.ty "bool")) aNil))))))
noncomputable def f_is_whole : SemL := arity 1 (defS 1 m_is_whole)
/-- is_within -/
noncomputable def m_is_within : SX :=
  (sRet (eAnd (eArgs f_is_whole (aCons (eName 0) aNil)) (eChain leI leI (eName 1) (eName 0) (eName 2))))
noncomputable def f_is_within : SemL := arity 3 (defS 3 m_is_within)
/-- is_place -/
noncomputable def m_is_place : SX :=
  (sSeq (sIf (bOr (bNot (bVal (eArgs isiX (aCons (eName 0) (aCons (eLit (.ty "tuple")) aNil))))) (bOr (bVal (eBin (eqD true) (eArgs lenX (aCons (eName 0) aNil)) (eLit (.int 3)))) (bNot (bVal (eArgs f_is_within (aCons (eBin ixX (eName 0) (eLit (.int 0))) (aCons (eLit (.int 0)) (aCons (eBin subI (eArgs lenX (aCons (eName 1) aNil)) (eLit (.int 1))) aNil))))))))
  (sRet (eLit (.bl false)))
  sNil)
  (sSeq (sIf (bOr (bNot (bVal (eArgs isiX (aCons (eBin ixX (eName 0) (eLit (.int 1))) (aCons (eLit (.ty "dict")) aNil))))) (bNot (bVal (eArgs isiX (aCons (eBin ixX (eName 0) (eLit (.int 2))) (aCons (eLit (.ty "bool")) aNil))))))
  (sRet (eLit (.bl false)))
  sNil)
  (sRet (eArgs semAll (aCons (eFin (eLc (itAny (eBin ixX (eName 0) (eLit (.int 1)))) (gSet 3) bTrue (eAnd (eArgs isiX (aCons (eName 3) (aCons (eLit (.ty "str")) aNil))) (eAnd (eBin (eqD false) (eArgs lenX (aCons (eName 3) aNil)) (eLit (.int 1))) (eAnd (eBin inX (eName 3) (eBin ixX (eName 1) (eBin ixX (eName 0) (eLit (.int 0))))) (eArgs f_is_within (aCons (eBin ixX (eBin ixX (eName 0) (eLit (.int 1))) (eName 3)) (aCons (eLit (.int 0)) (aCons (eBin subI (eName 2) (eLit (.int 1))) aNil))))))) [3])) aNil)))))
noncomputable def f_is_place : SemL := arity 3 (defS 4 m_is_place)
/-- Reader.__init__ -/
noncomputable def m_Reader___init__ : SX :=
  (sSeq (sIf (bOr (bNot (bVal (eArgs f_are_rolls (aCons (eName 1) aNil)))) (bOr (bNot (bVal (eArgs f_is_list (aCons (eName 2) aNil)))) (bVal (eBin (eqD false) (eArgs lenX (aCons (eName 2) aNil)) (eLit (.int 0))))))
  sBad
  sNil)
  (sSeq (sFor (itEnum (aCons (eName 2) aNil)) (gTupX (gConsX (gSet 3) (gConsX (gSet 4) gNilX)))
  (sIf (bNot (bVal (eArgs f_is_place (aCons (eName 4) (aCons (eName 1) (aCons (eArgs lenX (aCons (eName 2) aNil)) aNil))))))
  sBad
  sNil))
  (sSeq (sFldZ ["Reader"] "own_rolls" (eArgs semTupOf (aCons (eName 1) aNil)) (eName 0))
  (sFldZ ["Reader"] "rows" (eFin (eLc (itAny (eName 2)) (gTupX (gConsX (gSet 5) (gConsX (gSet 6) (gConsX (gSet 7) gNilX)))) bTrue (eArgs semTup (aCons (eName 5) (aCons (eFin (eArgs dictX (aCons (eName 6) aNil))) (aCons (eName 7) aNil)))) [5, 6, 7])) (eName 0)))))
noncomputable def f_Reader___init__ : SemL := arity 3 (defS 8 m_Reader___init__)
/-- Reader.reads -/
noncomputable def m_Reader_reads : SX :=
  (sSeq (sIf (bVal (eBin (eqD true) (eArgs lenX (aCons (eName 1) aNil)) (eArgs lenX (aCons (eAttrZ "own_rolls" [("Reader", .fld)] (eName 0)) aNil))))
  (sRet (eLit (.bl false)))
  sNil)
  (sSeq (sPar 2 3 (aCons (eBin mulXH (eArgs semLst (aCons (eLit (.int 0)) aNil)) (eArgs lenX (aCons (eName 1) aNil))) (aCons (eLit (.int 0)) aNil)))
  (sWhile (bVal (eLit (.bl true)))
  (sSeq (sAsg (eBin ixX (eAttrZ "rows" [("Reader", .fld)] (eName 0)) (eName 3)) (gTupX (gConsX (gSet 4) (gConsX (gSet 5) (gConsX (gSet 6) gNilX)))))
  (sSeq (sIf (bVal (eArgs semAll (aCons (eFin (eLc (itZip (aCons (eName 2) (aCons (eName 1) aNil))) (gTupX (gConsX (gSet 7) (gConsX (gSet 8) gNilX))) bTrue (eBin (eqD false) (eName 7) (eArgs lenX (aCons (eName 8) aNil))) [7, 8])) aNil)))
  (sRet (eName 6))
  sNil)
  (sSeq (sAsg (eSl false (eBin ixX (eName 1) (eName 4)) (oInt (eBin ixX (eName 2) (eName 4))) (oInt (eBin addX (eBin ixX (eName 2) (eName 4)) (eLit (.int 1))))) (gSet 9))
  (sSeq (sIf (bVal (eBin ninX (eName 9) (eName 5)))
  (sRet (eLit (.bl false)))
  sNil)
  (sSeq (sAugSub (fun i j => i + j) (eName 2) (eName 4) (eLit (.int 1)))
  (sAsg (eBin ixX (eName 5) (eName 9)) (gSet 3))))))))))
noncomputable def f_Reader_reads : SemL := starS 1 (defS 10 m_Reader_reads)
/-- _law_ask -/
noncomputable def m__law_ask : SX :=
  (sSeq (sIf (bVal (eBin (eqD false) (eArgs lenX (aCons (eName 1) aNil)) (eLit (.int 1))))
  (sRet (eMethZ "reads" [("Reader", f_Reader_reads)] (eName 0) (aCons (eBin ixX (eName 1) (eLit (.int 0))) aNil)))
  sNil)
  (sRet (eIf (bVal (eBin (eqD false) (eArgs lenX (aCons (eName 1) aNil)) (eLit (.int 2)))) (eMethZ "reads" [("Reader", f_Reader_reads)] (eName 0) (aCons (eBin ixX (eName 1) (eLit (.int 0))) (aCons (eBin ixX (eName 1) (eLit (.int 1))) aNil))) (eMethZ "reads" [("Reader", f_Reader_reads)] (eName 0) (aCons (eBin ixX (eName 1) (eLit (.int 0))) (aCons (eBin ixX (eName 1) (eLit (.int 1))) (aCons (eBin ixX (eName 1) (eLit (.int 2))) aNil)))))))
noncomputable def f__law_ask : SemL := arity 2 (defS 2 m__law_ask)
/-- _law_place -/
noncomputable def m__law_place : SX :=
  (sSeq (sAsg (eArgs f__law_pick (aCons (eName 0) (aCons (eArgs lenX (aCons (eName 1) aNil)) aNil))) (gSet 3))
  (sSeq (sAsg (eFin (eArgs dictX (aCons (eFin (eLc (itAny (eBin ixX (eName 1) (eName 3))) (gSet 5) (bVal (eBin gtI (eArgs f__law_pick (aCons (eName 0) (aCons (eLit (.int 4)) aNil))) (eLit (.int 0)))) (eArgs semTup (aCons (eName 5) (aCons (eArgs f__law_pick (aCons (eName 0) (aCons (eName 2) aNil))) aNil))) [5])) aNil))) (gSet 4))
  (sRet (eArgs semTup (aCons (eName 3) (aCons (eName 4) (aCons (eBin (eqD false) (eArgs f__law_pick (aCons (eName 0) (aCons (eLit (.int 2)) aNil))) (eLit (.int 0))) aNil)))))))
noncomputable def f__law_place : SemL := arity 3 (defS 6 m__law_place)
/-- _law_reader -/
noncomputable def m__law_reader : SX :=
  (sSeq (sAsg (eArgs f__law_letters (aCons (eName 0) (aCons (eBin addX (eLit (.int 2)) (eArgs f__law_pick (aCons (eName 0) (aCons (eIf (bVal (eBin gtI (eName 1) (eLit (.int 3)))) (eLit (.int 4)) (eLit (.int 3))) aNil)))) aNil))) (gSet 2))
  (sSeq (sAsg (eBin addX (eLit (.int 1)) (eArgs f__law_pick (aCons (eName 0) (aCons (eBin subI (eArgs lenX (aCons (eName 2) aNil)) (eLit (.int 1))) aNil)))) (gSet 3))
  (sSeq (sAsg (eArgs f__law_of (aCons (eName 0) (aCons (eArgs semLst (aCons (eArgs semLst (aCons (eName 2) aNil)) (aCons (eArgs semLst (aCons (eSl false (eName 2) oNone (oInt (eName 3))) (aCons (eSl false (eName 2) (oInt (eName 3)) oNone) aNil))) (aCons (eArgs semLst (aCons (eSl false (eName 2) (oInt (eName 3)) oNone) (aCons (eSl false (eName 2) oNone (oInt (eName 3))) aNil))) aNil)))) aNil))) (gSet 4))
  (sSeq (sIf (bAnd (bVal (eBin gtI (eArgs lenX (aCons (eName 2) aNil)) (eLit (.int 2)))) (bVal (eBin (eqD false) (eArgs f__law_pick (aCons (eName 0) (aCons (eLit (.int 3)) aNil))) (eLit (.int 0)))))
  (sAsg (eArgs semLst (aCons (eSl false (eName 2) oNone (oInt (eLit (.int 1)))) (aCons (eSl false (eName 2) (oInt (eLit (.int 2))) oNone) (aCons (eSl false (eName 2) (oInt (eLit (.int 1))) (oInt (eLit (.int 2)))) aNil)))) (gSet 4))
  sNil)
  (sSeq (sAsg (eBin addX (eLit (.int 1)) (eArgs f__law_pick (aCons (eName 0) (aCons (eName 1) aNil)))) (gSet 5))
  (sSeq (sAsg (eFin (eLc (itRange1 (aCons (eName 5) aNil)) (gSet 7) bTrue (eArgs f__law_place (aCons (eName 0) (aCons (eName 4) (aCons (eName 5) aNil)))) [7])) (gSet 6))
  (sRet (eArgs semTup (aCons (eName 4) (aCons (eName 6) aNil))))))))))
noncomputable def f__law_reader : SemL := arity 2 (defS 8 m__law_reader)
/-- _law_reads -/
noncomputable def m__law_reads : SX :=
  (sSeq (sPar 2 3 (aCons (eArgs semListOfH (aCons (eName 1) aNil)) (aCons (eLit (.int 0)) aNil)))
  (sSeq (sWhile (bVal (eBin (eqD true) (eFin (eLc (itAny (eName 2)) (gSet 4) (bVal (eBin (eqD true) (eName 4) (eLit (.str "")))) (eName 4) [4])) (eArgs semLst aNil)))
  (sSeq (sPar 5 6 (aCons (eBin ixX (eBin ixX (eName 0) (eName 3)) (eLit (.int 0))) (aCons (eBin ixX (eBin ixX (eName 0) (eName 3)) (eLit (.int 1))) aNil)))
  (sSeq (sIf (bOr (bVal (eBin (eqD false) (eBin ixX (eName 2) (eName 5)) (eLit (.str "")))) (bVal (eBin ninX (eBin ixX (eBin ixX (eName 2) (eName 5)) (eLit (.int 0))) (eName 6))))
  (sRet (eLit (.bl false)))
  sNil)
  (sSeq (sAsg (eBin ixX (eName 6) (eBin ixX (eBin ixX (eName 2) (eName 5)) (eLit (.int 0)))) (gSet 3))
  (sAsg (eSl false (eBin ixX (eName 2) (eName 5)) (oInt (eLit (.int 1))) oNone) (gSubX (eName 2) (eName 5)))))))
  (sRet (eBin ixX (eBin ixX (eName 0) (eName 3)) (eLit (.int 2))))))
noncomputable def f__law_reads : SemL := arity 2 (defS 7 m__law_reads)
/-- _law_text_of -/
noncomputable def m__law_text_of : SX :=
  (sRet (eMet tyStr semJoin (eLit (.str "")) (aCons (eFin (eLc (itRange1 (aCons (eArgs f__law_pick (aCons (eName 0) (aCons (eBin addX (eName 2) (eLit (.int 1))) aNil))) aNil)) (gSet 3) bTrue (eArgs f__law_of (aCons (eName 0) (aCons (eName 1) aNil))) [3])) aNil)))
noncomputable def f__law_text_of : SemL := arity 3 (defS 4 m__law_text_of)
/-- law -/
noncomputable def m_law : SX :=
  (sSeq (sAsg (eArgs f__law_bag (aCons (eName 0) aNil)) (gSet 1))
  (sSeq (sFor (itRange1 (aCons (eLit (.int 4)) aNil)) (gSet 2)
  (sSeq (sAsg (eArgs f__law_reader (aCons (eName 1) (aCons (eLit (.int 4)) aNil))) (gTupX (gConsX (gSet 3) (gConsX (gSet 4) gNilX))))
  (sSeq (sAsg (eFin (eLc (itAny (eName 4)) (gSet 6) bTrue (eArgs f__law_place (aCons (eName 1) (aCons (eName 3) (aCons (eArgs lenX (aCons (eName 4) aNil)) aNil)))) [6])) (gSet 5))
  (sSeq (sPar 7 8 (aCons (eFin (eArgs (makeS "Reader" f_Reader___init__) (aCons (eName 3) (aCons (eName 4) aNil)))) (aCons (eFin (eArgs (makeS "Reader" f_Reader___init__) (aCons (eArgs semTupOf (aCons (eName 3) aNil)) (aCons (eArgs semTupOf (aCons (eName 5) aNil)) aNil)))) aNil)))
  (sSeq (sFor (itRange1 (aCons (eLit (.int 6)) aNil)) (gSet 9)
  (sSeq (sAsg (eLc (itAny (eName 3)) (gSet 11) bTrue (eArgs f__law_text_of (aCons (eName 1) (aCons (eName 11) (aCons (eLit (.int 4)) aNil)))) [11]) (gSet 10))
  (sSeq (sIf (bVal (eBin (eqD false) (eArgs f__law_pick (aCons (eName 1) (aCons (eLit (.int 5)) aNil))) (eLit (.int 0))))
  (sAsg (eBin addX (eBin ixX (eName 10) (eLit (.int 0))) (eArgs f__law_of (aCons (eName 1) (aCons (eArgs semLst (aCons (eLit (.str "A")) (aCons (eLit (.str "0")) (aCons (eBin ixX (eName 3) (eBin subI (eArgs lenX (aCons (eName 3) aNil)) (eLit (.int 1)))) aNil)))) aNil)))) (gSubX (eName 10) (eLit (.int 0))))
  sNil)
  (sSeq (sAsg (eArgs semLst (aCons (eArgs f__law_ask (aCons (eName 7) (aCons (eName 10) aNil))) (aCons (eArgs f__law_ask (aCons (eName 8) (aCons (eName 10) aNil))) (aCons (eArgs f__law_ask (aCons (eName 7) (aCons (eName 10) aNil))) aNil)))) (gSet 12))
  (sSeq (sAsg (eArgs f__law_reads (aCons (eName 4) (aCons (eName 10) aNil))) (gSet 13))
  (sIf (bNot (bVal (eArgs f__law_same (aCons (eName 12) (aCons (eArgs semLst (aCons (eName 13) (aCons (eArgs f__law_reads (aCons (eName 5) (aCons (eName 10) aNil))) (aCons (eName 13) aNil)))) aNil)))))
  (sRet (eLit (.bl false)))
  sNil))))))
  (sSeq (sAsg (eArgs semLstH (aCons (eMethZ "reads" [("Reader", f_Reader_reads)] (eName 7) aNil) (aCons (eMethZ "reads" [("Reader", f_Reader_reads)] (eName 7) (aCons (eLit (.str "")) (aCons (eLit (.str "")) (aCons (eLit (.str "")) (aCons (eLit (.str "")) aNil))))) aNil))) (gSet 12))
  (sSeq (sIf (bVal (eBin (eqD true) (eArgs lenX (aCons (eName 3) aNil)) (eLit (.int 1))))
  (sExp (eMet tyLst semAppend (eName 12) (aCons (eMethZ "reads" [("Reader", f_Reader_reads)] (eName 7) (aCons (eLit (.str "")) aNil)) aNil)))
  sNil)
  (sSeq (sIf (bVal (eBin (eqD true) (eArgs lenX (aCons (eName 3) aNil)) (eLit (.int 2))))
  (sExp (eMet tyLst semAppend (eName 12) (aCons (eMethZ "reads" [("Reader", f_Reader_reads)] (eName 7) (aCons (eLit (.str "")) (aCons (eLit (.str "")) aNil))) aNil)))
  sNil)
  (sIf (bOr (bVal (eBin (eqD true) (eName 12) (eBin mulX (eArgs semLst (aCons (eLit (.bl false)) aNil)) (eArgs lenX (aCons (eName 12) aNil))))) (bNot (bVal (eArgs f__law_same (aCons (eArgs f__law_ask (aCons (eName 7) (aCons (eBin mulX (eArgs semLst (aCons (eLit (.str "")) aNil)) (eArgs lenX (aCons (eName 3) aNil))) aNil))) (aCons (eBin ixX (eBin ixX (eName 4) (eLit (.int 0))) (eLit (.int 2))) aNil))))))
  (sRet (eLit (.bl false)))
  sNil)))))))))
  (sRet (eLit (.bl true)))))
noncomputable def f_law : SemL := arity 1 (defS 14 m_law)
def top (i : Nat) : Stmt := PySem.Challenge.pw_waysagree_k51_texts_read.main.body.getD i (.Pass ⟨0, 0, 0, 0⟩)
abbrev s_is_alphabet : Stmt := top 11
theorem sc_is_alphabet : FnScope ["value", "sign", "one", "other"] ["value"] (defScope s_is_alphabet) := ⟨rfl, rfl, rfl, by decide +kernel, rfl, by decide +kernel, by decide +kernel⟩
abbrev s_is_list : Stmt := top 8
theorem sc_is_list : FnScope ["value"] ["value"] (defScope s_is_list) := ⟨rfl, rfl, rfl, by decide +kernel, rfl, by decide +kernel, by decide +kernel⟩
abbrev s_are_rolls : Stmt := top 15
theorem sc_are_rolls : FnScope ["value", "one"] ["value"] (defScope s_are_rolls) := ⟨rfl, rfl, rfl, by decide +kernel, rfl, by decide +kernel, by decide +kernel⟩
abbrev s_is_whole : Stmt := top 6
theorem sc_is_whole : FnScope ["value"] ["value"] (defScope s_is_whole) := ⟨rfl, rfl, rfl, by decide +kernel, rfl, by decide +kernel, by decide +kernel⟩
abbrev s_is_within : Stmt := top 7
theorem sc_is_within : FnScope ["value", "low", "high"] ["value", "low", "high"] (defScope s_is_within) := ⟨rfl, rfl, rfl, by decide +kernel, rfl, by decide +kernel, by decide +kernel⟩
abbrev s_is_place : Stmt := top 14
theorem sc_is_place : FnScope ["value", "rolls", "many", "letter"] ["value", "rolls", "many"] (defScope s_is_place) := ⟨rfl, rfl, rfl, by decide +kernel, rfl, by decide +kernel, by decide +kernel⟩
abbrev s_Reader___init__ : Stmt := inClass (top 16) 0
theorem sc_Reader___init__ : FnScope ["self", "rolls", "places", "at", "place", "roll", "goals", "accepts"] ["self", "rolls", "places"] (defScope s_Reader___init__) := ⟨rfl, rfl, rfl, by decide +kernel, rfl, by decide +kernel, by decide +kernel⟩
abbrev s_Reader_reads : Stmt := inClass (top 16) 2
theorem sc_Reader_reads : FnScope ["self", "texts", "spots", "place", "roll", "goals", "accepts", "spot", "text", "sign"] ["self", "texts"] (defScope s_Reader_reads) := ⟨rfl, rfl, rfl, by decide +kernel, rfl, by decide +kernel, by decide +kernel⟩
abbrev s__law_ask : Stmt := top 27
theorem sc__law_ask : FnScope ["_law_found", "_law_texts"] ["_law_found", "_law_texts"] (defScope s__law_ask) := ⟨rfl, rfl, rfl, by decide +kernel, rfl, by decide +kernel, by decide +kernel⟩
abbrev s__law_bag : Stmt := top 18
theorem sc__law_bag : FnScope ["_law_script"] ["_law_script"] (defScope s__law_bag) := ⟨rfl, rfl, rfl, by decide +kernel, rfl, by decide +kernel, by decide +kernel⟩
abbrev s__law_pick : Stmt := top 19
theorem sc__law_pick : FnScope ["_law_bag_here", "_law_many", "_law_cell", "_law_digit", "_law_seed"] ["_law_bag_here", "_law_many"] (defScope s__law_pick) := ⟨rfl, rfl, rfl, by decide +kernel, rfl, by decide +kernel, by decide +kernel⟩
abbrev s__law_of : Stmt := top 20
theorem sc__law_of : FnScope ["_law_bag_here", "_law_some"] ["_law_bag_here", "_law_some"] (defScope s__law_of) := ⟨rfl, rfl, rfl, by decide +kernel, rfl, by decide +kernel, by decide +kernel⟩
abbrev s__law_place : Stmt := top 24
theorem sc__law_place : FnScope ["_law_bag_here", "_law_rolls_in", "_law_size", "_law_roll", "_law_goals", "_law_sign"] ["_law_bag_here", "_law_rolls_in", "_law_size"] (defScope s__law_place) := ⟨rfl, rfl, rfl, by decide +kernel, rfl, by decide +kernel, by decide +kernel⟩
abbrev s__law_letters : Stmt := top 22
theorem sc__law_letters : FnScope ["_law_bag_here", "_law_many", "_law_found", "_law_k", "_law_rest", "_law_sign"] ["_law_bag_here", "_law_many"] (defScope s__law_letters) := ⟨rfl, rfl, rfl, by decide +kernel, rfl, by decide +kernel, by decide +kernel⟩
abbrev s__law_reader : Stmt := top 23
theorem sc__law_reader : FnScope ["_law_bag_here", "_law_most", "_law_letters_here", "_law_cut", "_law_rolls_in", "_law_size", "_law_rows", "_law_k"] ["_law_bag_here", "_law_most"] (defScope s__law_reader) := ⟨rfl, rfl, rfl, by decide +kernel, rfl, by decide +kernel, by decide +kernel⟩
abbrev s__law_reads : Stmt := top 25
theorem sc__law_reads : FnScope ["_law_rows", "_law_texts", "_law_left", "_law_spot", "_law_one", "_law_roll", "_law_goals"] ["_law_rows", "_law_texts"] (defScope s__law_reads) := ⟨rfl, rfl, rfl, by decide +kernel, rfl, by decide +kernel, by decide +kernel⟩
abbrev s__law_same : Stmt := top 21
theorem sc__law_same : FnScope ["_law_found", "_law_due", "_law_a", "_law_b"] ["_law_found", "_law_due"] (defScope s__law_same) := ⟨rfl, rfl, rfl, by decide +kernel, rfl, by decide +kernel, by decide +kernel⟩
abbrev s__law_text_of : Stmt := top 26
theorem sc__law_text_of : FnScope ["_law_bag_here", "_law_roll", "_law_most", "_law_k"] ["_law_bag_here", "_law_roll", "_law_most"] (defScope s__law_text_of) := ⟨rfl, rfl, rfl, by decide +kernel, rfl, by decide +kernel, by decide +kernel⟩
abbrev s_law : Stmt := top 28
theorem sc_law : FnScope ["_law_script", "_law_bag_here", "_law_turn", "_law_rolls_in", "_law_rows", "_law_late", "_law_row", "_law_one", "_law_two", "_law_k", "_law_texts", "_law_roll", "_law_told", "_law_due"] ["_law_script"] (defScope s_law) := ⟨rfl, rfl, rfl, by decide +kernel, rfl, by decide +kernel, by decide +kernel⟩
/-- what the walk asks of the written part -/
structure Tx (K : PySem.W.Frag) (mg : Str → Option Value) (a_is_alphabet a_is_list a_are_rolls a_is_whole a_is_within a_is_place a__law_ask a__law_bag a__law_pick a__law_of a__law_place a__law_letters a__law_reader a__law_reads a__law_same a__law_text_of a_law C_Reader a_Reader___init__ a_Reader_reads : Addr) : Prop where
  m_is_alphabet : mg "is_alphabet" = some (.ref a_is_alphabet)
  k_is_alphabet : PySem.W.keepIn K (.ref a_is_alphabet) = true
  m_is_list : mg "is_list" = some (.ref a_is_list)
  k_is_list : PySem.W.keepIn K (.ref a_is_list) = true
  m_are_rolls : mg "are_rolls" = some (.ref a_are_rolls)
  k_are_rolls : PySem.W.keepIn K (.ref a_are_rolls) = true
  m_is_whole : mg "is_whole" = some (.ref a_is_whole)
  k_is_whole : PySem.W.keepIn K (.ref a_is_whole) = true
  m_is_within : mg "is_within" = some (.ref a_is_within)
  k_is_within : PySem.W.keepIn K (.ref a_is_within) = true
  m_is_place : mg "is_place" = some (.ref a_is_place)
  k_is_place : PySem.W.keepIn K (.ref a_is_place) = true
  m__law_ask : mg "_law_ask" = some (.ref a__law_ask)
  k__law_ask : PySem.W.keepIn K (.ref a__law_ask) = true
  m__law_bag : mg "_law_bag" = some (.ref a__law_bag)
  k__law_bag : PySem.W.keepIn K (.ref a__law_bag) = true
  m__law_pick : mg "_law_pick" = some (.ref a__law_pick)
  k__law_pick : PySem.W.keepIn K (.ref a__law_pick) = true
  m__law_of : mg "_law_of" = some (.ref a__law_of)
  k__law_of : PySem.W.keepIn K (.ref a__law_of) = true
  m__law_place : mg "_law_place" = some (.ref a__law_place)
  k__law_place : PySem.W.keepIn K (.ref a__law_place) = true
  m__law_letters : mg "_law_letters" = some (.ref a__law_letters)
  k__law_letters : PySem.W.keepIn K (.ref a__law_letters) = true
  m__law_reader : mg "_law_reader" = some (.ref a__law_reader)
  k__law_reader : PySem.W.keepIn K (.ref a__law_reader) = true
  m__law_reads : mg "_law_reads" = some (.ref a__law_reads)
  k__law_reads : PySem.W.keepIn K (.ref a__law_reads) = true
  m__law_same : mg "_law_same" = some (.ref a__law_same)
  k__law_same : PySem.W.keepIn K (.ref a__law_same) = true
  m__law_text_of : mg "_law_text_of" = some (.ref a__law_text_of)
  k__law_text_of : PySem.W.keepIn K (.ref a__law_text_of) = true
  m_law : mg "law" = some (.ref a_law)
  k_law : PySem.W.keepIn K (.ref a_law) = true
  m_Reader : mg "Reader" = some (.ref C_Reader)
  cl_Reader : Cls K C_Reader
  mk_Reader : Mk K C_Reader a_Reader___init__
  na_Reader_own_rolls : NoAttr K C_Reader "own_rolls"
  na_Reader_rows : NoAttr K C_Reader "rows"
  me_Reader_reads : Meth K C_Reader "reads" a_Reader_reads
  c_LETTERS : ∃ t, mg "LETTERS" = some (.str "abcdefghijklmnopqrstuvwxyz" t)
  c_MOST_LETTERS : ∃ t, mg "MOST_LETTERS" = some (.int 5 t)
  c_MOST_ROLLS : ∃ t, mg "MOST_ROLLS" = some (.int 3 t)
  b_all : mg "all" = none
  b_bool : mg "bool" = none
  b_dict : mg "dict" = none
  b_enumerate : mg "enumerate" = none
  b_int : mg "int" = none
  b_isinstance : mg "isinstance" = none
  b_len : mg "len" = none
  b_list : mg "list" = none
  b_range : mg "range" = none
  b_sorted : mg "sorted" = none
  b_str : mg "str" = none
  b_tuple : mg "tuple" = none
  b_zip : mg "zip" = none
section
variable {P : Program} {w : World} {K : PySem.W.Frag} {mg : Str → Option Value} {base : Heap} {a_is_alphabet a_is_list a_are_rolls a_is_whole a_is_within a_is_place a__law_ask a__law_bag a__law_pick a__law_of a__law_place a__law_letters a__law_reader a__law_reads a__law_same a__law_text_of a_law C_Reader a_Reader___init__ a_Reader_reads : Addr}
theorem d_is_alphabet (T : Tx K mg a_is_alphabet a_is_list a_are_rolls a_is_whole a_is_within a_is_place a__law_ask a__law_bag a__law_pick a__law_of a__law_place a__law_letters a__law_reader a__law_reads a__law_same a__law_text_of a_law C_Reader a_Reader___init__ a_Reader_reads) {fd : FuncData} (F : Fun K "is_alphabet" "is_alphabet" s_is_alphabet a_is_alphabet fd)  : FZ P w K mg base 1 a_is_alphabet f_is_alphabet := by
  refine fz_of0 (fn_ok (N := ["value", "sign", "one", "other"]) F sc_is_alphabet (k := 0) (body := m_is_alphabet) fun cdv A outer s H E hr => ?_) (F.binds (ps := ["value"]) fun _ _ _ _ _ _ us hl => match us, hl with | [_], _ => rfl)
  have tk : Takes (cxOf (L2.CX P w) P w K mg base ["value", "sign", "one", "other"] "is_alphabet" (defScope s_is_alphabet) a_is_alphabet cdv A outer s H E) (fun c d _ H' => E c d H') := takes_of rfl rfl rfl rfl
  have hp : PassesOwn (model P w) (cxOf (L2.CX P w) P w K mg base ["value", "sign", "one", "other"] "is_alphabet" (defScope s_is_alphabet) a_is_alphabet cdv A outer s H E).A (cxOf (L2.CX P w) P w K mg base ["value", "sign", "one", "other"] "is_alphabet" (defScope s_is_alphabet) a_is_alphabet cdv A outer s H E).env (cxOf (L2.CX P w) P w K mg base ["value", "sign", "one", "other"] "is_alphabet" (defScope s_is_alphabet) a_is_alphabet cdv A outer s H E).xe := passes_of rfl
  unfold m_is_alphabet
  exact (s_cons (s_if (EW.eb (w_or (b_not (b_val (r_callB d_isiX rfl T.b_isinstance PyProof.Rows.boot_isinstance (a_cons (r_name (i := 0)) (a_cons (r_ty rfl T.b_str PyProof.Rows.boot_str) a_nil))))) (w_or1 (b_not (b_chain d_leI d_leI r_int (r_callB d_lenX rfl T.b_len PySem.boot_len (a_cons (r_name (i := 0)) a_nil)) (r_gint T.c_MOST_LETTERS))))))
  (s_one (s_ret r_bl))
  s_nil)
  (s_cons (s_if (b_not (b_val (r_callB (d_all rfl) rfl T.b_all PyProof.Rows.boot_all (a_cons (r_fin (r_lc (own := [("sign", 1)]) rfl sc_is_alphabet.nd (blkOk_by (by rfl)) (i_any (r_name (i := 0))) (fun _ _ _ _ _ => (gw_name sc_is_alphabet.nd (i := 1))) (fun _ _ _ _ _ => ts_nil) (fun _ _ _ _ _ => (r_cmp (d_inX hr.units) (r_name (i := 1)) (r_gstr T.c_LETTERS))))) a_nil))))
  (s_one (s_ret r_bl))
  s_nil)
  (s_one (s_ret (r_callB (d_all rfl) rfl T.b_all PyProof.Rows.boot_all (a_cons (r_fin (r_lc (own := [("one", 2), ("other", 3)]) rfl sc_is_alphabet.nd (blkOk_by (by rfl)) (i_zip (a_cons (r_name (i := 0)) (a_cons (r_sl (r_name (i := 0)) (o_int r_int) o_none) a_nil)) rfl T.b_zip) (fun _ _ _ _ _ => (gw_tup rfl (gsw_cons (gw_name sc_is_alphabet.nd (i := 2)) (gsw_cons (gw_name sc_is_alphabet.nd (i := 3)) gsw_nil)) (len_consN (nx_set 2) (len_consN (nx_set 3) len_nil)))) (fun _ _ _ _ _ => ts_nil) (fun _ _ _ _ _ => (r_cmp d_ltX (r_name (i := 2)) (r_name (i := 3)))))) a_nil))))))
theorem d_is_list (T : Tx K mg a_is_alphabet a_is_list a_are_rolls a_is_whole a_is_within a_is_place a__law_ask a__law_bag a__law_pick a__law_of a__law_place a__law_letters a__law_reader a__law_reads a__law_same a__law_text_of a_law C_Reader a_Reader___init__ a_Reader_reads) {fd : FuncData} (F : Fun K "is_list" "is_list" s_is_list a_is_list fd)  : FZ P w K mg base 1 a_is_list f_is_list := by
  refine fz_of0 (fn_ok (N := ["value"]) F sc_is_list (k := 0) (body := m_is_list) fun cdv A outer s H E hr => ?_) (F.binds (ps := ["value"]) fun _ _ _ _ _ _ us hl => match us, hl with | [_], _ => rfl)
  have tk : Takes (cxOf (L2.CX P w) P w K mg base ["value"] "is_list" (defScope s_is_list) a_is_list cdv A outer s H E) (fun c d _ H' => E c d H') := takes_of rfl rfl rfl rfl
  have hp : PassesOwn (model P w) (cxOf (L2.CX P w) P w K mg base ["value"] "is_list" (defScope s_is_list) a_is_list cdv A outer s H E).A (cxOf (L2.CX P w) P w K mg base ["value"] "is_list" (defScope s_is_list) a_is_list cdv A outer s H E).env (cxOf (L2.CX P w) P w K mg base ["value"] "is_list" (defScope s_is_list) a_is_list cdv A outer s H E).xe := passes_of rfl
  unfold m_is_list
  exact (s_one (s_ret (r_callB d_isiX rfl T.b_isinstance PyProof.Rows.boot_isinstance (a_cons (r_name (i := 0)) (a_cons (r_tup (a_cons (r_ty rfl T.b_list PyProof.Rows.boot_list) (a_cons (r_ty rfl T.b_tuple PyProof.Rows.boot_tuple) a_nil))) a_nil)))))
theorem d_are_rolls (T : Tx K mg a_is_alphabet a_is_list a_are_rolls a_is_whole a_is_within a_is_place a__law_ask a__law_bag a__law_pick a__law_of a__law_place a__law_letters a__law_reader a__law_reads a__law_same a__law_text_of a_law C_Reader a_Reader___init__ a_Reader_reads) {fd : FuncData} (F : Fun K "are_rolls" "are_rolls" s_are_rolls a_are_rolls fd) (Z_is_alphabet : FZ P w K mg base 1 a_is_alphabet f_is_alphabet) (Z_is_list : FZ P w K mg base 1 a_is_list f_is_list) : FZ P w K mg base 2 a_are_rolls f_are_rolls := by
  refine fz_of0 (fn_ok (N := ["value", "one"]) F sc_are_rolls (k := 1) (body := m_are_rolls) fun cdv A outer s H E hr => ?_) (F.binds (ps := ["value"]) fun _ _ _ _ _ _ us hl => match us, hl with | [_], _ => rfl)
  have tk : Takes (cxOf (L2.CX P w) P w K mg base ["value", "one"] "are_rolls" (defScope s_are_rolls) a_are_rolls cdv A outer s H E) (fun c d _ H' => E c d H') := takes_of rfl rfl rfl rfl
  have hp : PassesOwn (model P w) (cxOf (L2.CX P w) P w K mg base ["value", "one"] "are_rolls" (defScope s_are_rolls) a_are_rolls cdv A outer s H E).A (cxOf (L2.CX P w) P w K mg base ["value", "one"] "are_rolls" (defScope s_are_rolls) a_are_rolls cdv A outer s H E).env (cxOf (L2.CX P w) P w K mg base ["value", "one"] "are_rolls" (defScope s_are_rolls) a_are_rolls cdv A outer s H E).xe := passes_of rfl
  unfold m_are_rolls
  exact (s_cons (s_if (EW.eb (w_or (b_not (b_val (r_callZ tk Z_is_list (hr.mono (by omega)) T.m_is_list T.k_is_list (a_cons (r_name (i := 0)) a_nil)))) (w_or (b_not (b_chain d_leI d_leI r_int (r_callB d_lenX rfl T.b_len PySem.boot_len (a_cons (r_name (i := 0)) a_nil)) (r_gint T.c_MOST_ROLLS))) (w_or1 (b_not (b_val (r_callB (d_all rfl) rfl T.b_all PyProof.Rows.boot_all (a_cons (r_fin (r_lc (own := [("one", 1)]) rfl sc_are_rolls.nd (blkOk_by (by rfl)) (i_any (r_name (i := 0))) (fun _ _ _ _ _ => (gw_name sc_are_rolls.nd (i := 1))) (fun _ _ _ _ _ => ts_nil) (fun _ _ _ _ _ => (r_callZ takesF Z_is_alphabet (hr.mono (by omega)) T.m_is_alphabet T.k_is_alphabet (a_cons (r_name (i := 1)) a_nil))))) a_nil))))))))
  (s_one (s_ret r_bl))
  s_nil)
  (s_one (s_ret (r_callZ tk Z_is_alphabet (hr.mono (by omega)) T.m_is_alphabet T.k_is_alphabet (a_cons (r_met d_join (fun _ _ _ _ _ => tyStr_is) PySem.F.plainAttrs_str PySem.F.slot_str_join PySem.F.type_str_join r_str (a_cons (r_fin (r_callB (d_sorted rfl hr.units) rfl T.b_sorted PyProof.Rows.boot_sorted (a_cons (r_met d_join (fun _ _ _ _ _ => tyStr_is) PySem.F.plainAttrs_str PySem.F.slot_str_join PySem.F.type_str_join r_str (a_cons (r_name (i := 0)) a_nil)) a_nil))) a_nil)) a_nil)))))
theorem d_is_whole (T : Tx K mg a_is_alphabet a_is_list a_are_rolls a_is_whole a_is_within a_is_place a__law_ask a__law_bag a__law_pick a__law_of a__law_place a__law_letters a__law_reader a__law_reads a__law_same a__law_text_of a_law C_Reader a_Reader___init__ a_Reader_reads) {fd : FuncData} (F : Fun K "is_whole" "is_whole" s_is_whole a_is_whole fd)  : FZ P w K mg base 1 a_is_whole f_is_whole := by
  refine fz_of0 (fn_ok (N := ["value"]) F sc_is_whole (k := 0) (body := m_is_whole) fun cdv A outer s H E hr => ?_) (F.binds (ps := ["value"]) fun _ _ _ _ _ _ us hl => match us, hl with | [_], _ => rfl)
  have tk : Takes (cxOf (L2.CX P w) P w K mg base ["value"] "is_whole" (defScope s_is_whole) a_is_whole cdv A outer s H E) (fun c d _ H' => E c d H') := takes_of rfl rfl rfl rfl
  have hp : PassesOwn (model P w) (cxOf (L2.CX P w) P w K mg base ["value"] "is_whole" (defScope s_is_whole) a_is_whole cdv A outer s H E).A (cxOf (L2.CX P w) P w K mg base ["value"] "is_whole" (defScope s_is_whole) a_is_whole cdv A outer s H E).env (cxOf (L2.CX P w) P w K mg base ["value"] "is_whole" (defScope s_is_whole) a_is_whole cdv A outer s H E).xe := passes_of rfl
  unfold m_is_whole
  exact (s_one (s_ret (r_and (r_callB d_isiX rfl T.b_isinstance PyProof.Rows.boot_isinstance (a_cons (r_name (i := 0)) (a_cons (r_ty rfl T.b_int PyProof.Rows.boot_int) a_nil))) (r_one (r_not (r_callB d_isiX rfl T.b_isinstance PyProof.Rows.boot_isinstance (a_cons (r_name (i := 0)) (a_cons (r_ty rfl T.b_bool PyProof.Rows.boot_bool) a_nil))))))))
theorem d_is_within (T : Tx K mg a_is_alphabet a_is_list a_are_rolls a_is_whole a_is_within a_is_place a__law_ask a__law_bag a__law_pick a__law_of a__law_place a__law_letters a__law_reader a__law_reads a__law_same a__law_text_of a_law C_Reader a_Reader___init__ a_Reader_reads) {fd : FuncData} (F : Fun K "is_within" "is_within" s_is_within a_is_within fd) (Z_is_whole : FZ P w K mg base 1 a_is_whole f_is_whole) : FZ P w K mg base 2 a_is_within f_is_within := by
  refine fz_of0 (fn_ok (N := ["value", "low", "high"]) F sc_is_within (k := 1) (body := m_is_within) fun cdv A outer s H E hr => ?_) (F.binds (ps := ["value", "low", "high"]) fun _ _ _ _ _ _ us hl => match us, hl with | [_, _, _], _ => rfl)
  have tk : Takes (cxOf (L2.CX P w) P w K mg base ["value", "low", "high"] "is_within" (defScope s_is_within) a_is_within cdv A outer s H E) (fun c d _ H' => E c d H') := takes_of rfl rfl rfl rfl
  have hp : PassesOwn (model P w) (cxOf (L2.CX P w) P w K mg base ["value", "low", "high"] "is_within" (defScope s_is_within) a_is_within cdv A outer s H E).A (cxOf (L2.CX P w) P w K mg base ["value", "low", "high"] "is_within" (defScope s_is_within) a_is_within cdv A outer s H E).env (cxOf (L2.CX P w) P w K mg base ["value", "low", "high"] "is_within" (defScope s_is_within) a_is_within cdv A outer s H E).xe := passes_of rfl
  unfold m_is_within
  exact (s_one (s_ret (r_and (r_callZ tk Z_is_whole (hr.mono (by omega)) T.m_is_whole T.k_is_whole (a_cons (r_name (i := 0)) a_nil)) (r_one (r_chain d_leI d_leI (r_name (i := 1)) (r_name (i := 0)) (r_name (i := 2)))))))
theorem d_is_place (T : Tx K mg a_is_alphabet a_is_list a_are_rolls a_is_whole a_is_within a_is_place a__law_ask a__law_bag a__law_pick a__law_of a__law_place a__law_letters a__law_reader a__law_reads a__law_same a__law_text_of a_law C_Reader a_Reader___init__ a_Reader_reads) {fd : FuncData} (F : Fun K "is_place" "is_place" s_is_place a_is_place fd) (Z_is_within : FZ P w K mg base 2 a_is_within f_is_within) : FZ P w K mg base 3 a_is_place f_is_place := by
  refine fz_of0 (fn_ok (N := ["value", "rolls", "many", "letter"]) F sc_is_place (k := 2) (body := m_is_place) fun cdv A outer s H E hr => ?_) (F.binds (ps := ["value", "rolls", "many"]) fun _ _ _ _ _ _ us hl => match us, hl with | [_, _, _], _ => rfl)
  have tk : Takes (cxOf (L2.CX P w) P w K mg base ["value", "rolls", "many", "letter"] "is_place" (defScope s_is_place) a_is_place cdv A outer s H E) (fun c d _ H' => E c d H') := takes_of rfl rfl rfl rfl
  have hp : PassesOwn (model P w) (cxOf (L2.CX P w) P w K mg base ["value", "rolls", "many", "letter"] "is_place" (defScope s_is_place) a_is_place cdv A outer s H E).A (cxOf (L2.CX P w) P w K mg base ["value", "rolls", "many", "letter"] "is_place" (defScope s_is_place) a_is_place cdv A outer s H E).env (cxOf (L2.CX P w) P w K mg base ["value", "rolls", "many", "letter"] "is_place" (defScope s_is_place) a_is_place cdv A outer s H E).xe := passes_of rfl
  unfold m_is_place
  exact (s_cons (s_if (EW.eb (w_or (b_not (b_val (r_callB d_isiX rfl T.b_isinstance PyProof.Rows.boot_isinstance (a_cons (r_name (i := 0)) (a_cons (r_ty rfl T.b_tuple PyProof.Rows.boot_tuple) a_nil))))) (w_or (b_cmp (d_ne hr.units) (r_callB d_lenX rfl T.b_len PySem.boot_len (a_cons (r_name (i := 0)) a_nil)) r_int) (w_or1 (b_not (b_val (r_callZ tk Z_is_within (hr.mono (by omega)) T.m_is_within T.k_is_within (a_cons (r_ix (d_ixX hr.units) (r_name (i := 0)) r_int) (a_cons r_int (a_cons (r_bin d_subI (r_callB d_lenX rfl T.b_len PySem.boot_len (a_cons (r_name (i := 1)) a_nil)) r_int) a_nil))))))))))
  (s_one (s_ret r_bl))
  s_nil)
  (s_cons (s_if (EW.eb (w_or (b_not (b_val (r_callB d_isiX rfl T.b_isinstance PyProof.Rows.boot_isinstance (a_cons (r_ix (d_ixX hr.units) (r_name (i := 0)) r_int) (a_cons (r_ty rfl T.b_dict PyProof.Rows.boot_dict) a_nil))))) (w_or1 (b_not (b_val (r_callB d_isiX rfl T.b_isinstance PyProof.Rows.boot_isinstance (a_cons (r_ix (d_ixX hr.units) (r_name (i := 0)) r_int) (a_cons (r_ty rfl T.b_bool PyProof.Rows.boot_bool) a_nil))))))))
  (s_one (s_ret r_bl))
  s_nil)
  (s_one (s_ret (r_callB (d_all rfl) rfl T.b_all PyProof.Rows.boot_all (a_cons (r_fin (r_lc (own := [("letter", 3)]) rfl sc_is_place.nd (blkOk_by (by rfl)) (i_any (r_ix (d_ixX hr.units) (r_name (i := 0)) r_int)) (fun _ _ _ _ _ => (gw_name sc_is_place.nd (i := 3))) (fun _ _ _ _ _ => ts_nil) (fun _ _ _ _ _ => (r_and (r_callB d_isiX rfl T.b_isinstance PyProof.Rows.boot_isinstance (a_cons (r_name (i := 3)) (a_cons (r_ty rfl T.b_str PyProof.Rows.boot_str) a_nil))) (r_and (r_cmp (d_eq hr.units) (r_callB d_lenX rfl T.b_len PySem.boot_len (a_cons (r_name (i := 3)) a_nil)) r_int) (r_and (r_cmp (d_inX hr.units) (r_name (i := 3)) (r_ix (d_ixX hr.units) (r_name (i := 1)) (r_ix (d_ixX hr.units) (r_name (i := 0)) r_int))) (r_one (r_callZ takesF Z_is_within (hr.mono (by omega)) T.m_is_within T.k_is_within (a_cons (r_ix (d_ixX hr.units) (r_ix (d_ixX hr.units) (r_name (i := 0)) r_int) (r_name (i := 3))) (a_cons r_int (a_cons (r_bin d_subI (r_name (i := 2)) r_int) a_nil))))))))))) a_nil))))))
theorem d_Reader___init__ (T : Tx K mg a_is_alphabet a_is_list a_are_rolls a_is_whole a_is_within a_is_place a__law_ask a__law_bag a__law_pick a__law_of a__law_place a__law_letters a__law_reader a__law_reads a__law_same a__law_text_of a_law C_Reader a_Reader___init__ a_Reader_reads) {fd : FuncData} (F : Fun K "__init__" "Reader.__init__" s_Reader___init__ a_Reader___init__ fd) (Z_are_rolls : FZ P w K mg base 2 a_are_rolls f_are_rolls) (Z_is_list : FZ P w K mg base 1 a_is_list f_is_list) (Z_is_place : FZ P w K mg base 3 a_is_place f_is_place) : FZ P w K mg base 4 a_Reader___init__ f_Reader___init__ := by
  refine fz_of0 (fn_ok (N := ["self", "rolls", "places", "at", "place", "roll", "goals", "accepts"]) F sc_Reader___init__ (k := 3) (body := m_Reader___init__) fun cdv A outer s H E hr => ?_) (F.binds (ps := ["self", "rolls", "places"]) fun _ _ _ _ _ _ us hl => match us, hl with | [_, _, _], _ => rfl)
  have tk : Takes (cxOf (L2.CX P w) P w K mg base ["self", "rolls", "places", "at", "place", "roll", "goals", "accepts"] "Reader.__init__" (defScope s_Reader___init__) a_Reader___init__ cdv A outer s H E) (fun c d _ H' => E c d H') := takes_of rfl rfl rfl rfl
  have hp : PassesOwn (model P w) (cxOf (L2.CX P w) P w K mg base ["self", "rolls", "places", "at", "place", "roll", "goals", "accepts"] "Reader.__init__" (defScope s_Reader___init__) a_Reader___init__ cdv A outer s H E).A (cxOf (L2.CX P w) P w K mg base ["self", "rolls", "places", "at", "place", "roll", "goals", "accepts"] "Reader.__init__" (defScope s_Reader___init__) a_Reader___init__ cdv A outer s H E).env (cxOf (L2.CX P w) P w K mg base ["self", "rolls", "places", "at", "place", "roll", "goals", "accepts"] "Reader.__init__" (defScope s_Reader___init__) a_Reader___init__ cdv A outer s H E).xe := passes_of rfl
  unfold m_Reader___init__
  exact (s_cons (s_if (EW.eb (w_or (b_not (b_val (r_callZ tk Z_are_rolls (hr.mono (by omega)) T.m_are_rolls T.k_are_rolls (a_cons (r_name (i := 1)) a_nil)))) (w_or (b_not (b_val (r_callZ tk Z_is_list (hr.mono (by omega)) T.m_is_list T.k_is_list (a_cons (r_name (i := 2)) a_nil)))) (w_or1 (b_cmp (d_eq hr.units) (r_callB d_lenX rfl T.b_len PySem.boot_len (a_cons (r_name (i := 2)) a_nil)) r_int)))))
  (s_one s_bad)
  s_nil)
  (s_cons (s_for hp rfl (i_enum (a_cons (r_name (i := 2)) a_nil) rfl T.b_enumerate) (g_tup rfl (gs_cons (g_name sc_Reader___init__.nd (i := 3)) (gs_cons (g_name sc_Reader___init__.nd (i := 4)) gs_nil)) (len_consN (nx_set 3) (len_consN (nx_set 4) len_nil)))
  (s_one (s_if (b_not (b_val (r_callZ tk Z_is_place (hr.mono (by omega)) T.m_is_place T.k_is_place (a_cons (r_name (i := 4)) (a_cons (r_name (i := 1)) (a_cons (r_callB d_lenX rfl T.b_len PySem.boot_len (a_cons (r_name (i := 2)) a_nil)) a_nil))))))
  (s_one s_bad)
  s_nil)))
  (s_cons (s_fldZ (cls_cons T.m_Reader T.cl_Reader T.na_Reader_own_rolls cls_nil) (r_name (i := 0)) (r_callT d_tupOf rfl T.b_tuple PyProof.Rows.boot_tuple (a_cons (r_name (i := 1)) a_nil)))
  (s_one (s_fldZ (cls_cons T.m_Reader T.cl_Reader T.na_Reader_rows cls_nil) (r_name (i := 0)) (r_fin (r_lc (own := [("roll", 5), ("goals", 6), ("accepts", 7)]) rfl sc_Reader___init__.nd (blkOk_by (by rfl)) (i_any (r_name (i := 2))) (fun _ _ _ _ _ => (gw_tup rfl (gsw_cons (gw_name sc_Reader___init__.nd (i := 5)) (gsw_cons (gw_name sc_Reader___init__.nd (i := 6)) (gsw_cons (gw_name sc_Reader___init__.nd (i := 7)) gsw_nil))) (len_consN (nx_set 5) (len_consN (nx_set 6) (len_consN (nx_set 7) len_nil))))) (fun _ _ _ _ _ => ts_nil) (fun _ _ _ _ _ => (r_tup (a_cons (r_name (i := 5)) (a_cons (r_fin (r_callT (d_dictX rfl) rfl T.b_dict PyProof.Rows.boot_dict (a_cons (r_name (i := 6)) a_nil))) (a_cons (r_name (i := 7)) a_nil))))))))))))
theorem d_Reader_reads (T : Tx K mg a_is_alphabet a_is_list a_are_rolls a_is_whole a_is_within a_is_place a__law_ask a__law_bag a__law_pick a__law_of a__law_place a__law_letters a__law_reader a__law_reads a__law_same a__law_text_of a_law C_Reader a_Reader___init__ a_Reader_reads) {fd : FuncData} (F : Fun K "reads" "Reader.reads" s_Reader_reads a_Reader_reads fd)  : FZ P w K mg base 1 a_Reader_reads f_Reader_reads := by
  refine fz_star (N := ["self", "texts", "spots", "place", "roll", "goals", "accepts", "spot", "text", "sign"]) F sc_Reader_reads (ps := ["self"]) (k := 0) (body := m_Reader_reads) ?_ fun cdv A outer s H E hr => ?_
  · obtain ⟨oc, od, kV, doc, pm, an, cdv, ct, osl, rfl, lk, hcd⟩ := F.ex
    exact StX.bind_star1 (B := fun l => bindArgs (PySem.W.fnOf "reads" "Reader.reads" (defArgs s_Reader_reads) (defBody s_Reader_reads) (defScope s_Reader_reads) .none kV doc pm an cdv ct) ⟨l, []⟩) (fun _ => rfl) (fun _ _ _ => rfl)
  have tk : Takes (cxOf (L2.CX P w) P w K mg base ["self", "texts", "spots", "place", "roll", "goals", "accepts", "spot", "text", "sign"] "Reader.reads" (defScope s_Reader_reads) a_Reader_reads cdv A outer s H E) (fun c d _ H' => E c d H') := takes_of rfl rfl rfl rfl
  have hp : PassesOwn (model P w) (cxOf (L2.CX P w) P w K mg base ["self", "texts", "spots", "place", "roll", "goals", "accepts", "spot", "text", "sign"] "Reader.reads" (defScope s_Reader_reads) a_Reader_reads cdv A outer s H E).A (cxOf (L2.CX P w) P w K mg base ["self", "texts", "spots", "place", "roll", "goals", "accepts", "spot", "text", "sign"] "Reader.reads" (defScope s_Reader_reads) a_Reader_reads cdv A outer s H E).env (cxOf (L2.CX P w) P w K mg base ["self", "texts", "spots", "place", "roll", "goals", "accepts", "spot", "text", "sign"] "Reader.reads" (defScope s_Reader_reads) a_Reader_reads cdv A outer s H E).xe := passes_of rfl
  unfold m_Reader_reads
  exact (s_cons (s_if (b_cmp (d_ne hr.units) (r_callB d_lenX rfl T.b_len PySem.boot_len (a_cons (r_name (i := 1)) a_nil)) (r_callB d_lenX rfl T.b_len PySem.boot_len (a_cons (r_attrZ (attr_cons T.m_Reader T.cl_Reader T.na_Reader_own_rolls attr_nil) (r_name (i := 0))) a_nil)))
  (s_one (s_ret r_bl))
  s_nil)
  (s_cons (s_par (i := 2) (j := 3) rfl sc_Reader_reads.nd (a_cons (r_bin d_mulXH (r_lst (a_cons r_int a_nil)) (r_callB d_lenX rfl T.b_len PySem.boot_len (a_cons (r_name (i := 1)) a_nil))) (a_cons r_int a_nil)))
  (s_one (s_while hp (b_val r_bl)
  (s_cons (s_asg (r_ix (d_ixX hr.units) (r_attrZ (attr_cons T.m_Reader T.cl_Reader T.na_Reader_rows attr_nil) (r_name (i := 0))) (r_name (i := 3))) (g_tup rfl (gs_cons (g_name sc_Reader_reads.nd (i := 4)) (gs_cons (g_name sc_Reader_reads.nd (i := 5)) (gs_cons (g_name sc_Reader_reads.nd (i := 6)) gs_nil))) (len_consN (nx_set 4) (len_consN (nx_set 5) (len_consN (nx_set 6) len_nil)))) (nx_tup (nx_cons (nx_set 4) (nx_cons (nx_set 5) (nx_cons (nx_set 6) nx_nil)))))
  (s_cons (s_if (b_val (r_callB (d_all rfl) rfl T.b_all PyProof.Rows.boot_all (a_cons (r_fin (r_lc (own := [("spot", 7), ("text", 8)]) rfl sc_Reader_reads.nd (blkOk_by (by rfl)) (i_zip (a_cons (r_name (i := 2)) (a_cons (r_name (i := 1)) a_nil)) rfl T.b_zip) (fun _ _ _ _ _ => (gw_tup rfl (gsw_cons (gw_name sc_Reader_reads.nd (i := 7)) (gsw_cons (gw_name sc_Reader_reads.nd (i := 8)) gsw_nil)) (len_consN (nx_set 7) (len_consN (nx_set 8) len_nil)))) (fun _ _ _ _ _ => ts_nil) (fun _ _ _ _ _ => (r_cmp (d_eq hr.units) (r_name (i := 7)) (r_callB d_lenX rfl T.b_len PySem.boot_len (a_cons (r_name (i := 8)) a_nil)))))) a_nil)))
  (s_one (s_ret (r_name (i := 6))))
  s_nil)
  (s_cons (s_set (i := 9) sc_Reader_reads.nd (r_sl (r_ix (d_ixX hr.units) (r_name (i := 1)) (r_name (i := 4))) (o_int (r_ix (d_ixX hr.units) (r_name (i := 2)) (r_name (i := 4)))) (o_int (r_bin d_addX (r_ix (d_ixX hr.units) (r_name (i := 2)) (r_name (i := 4))) r_int))))
  (s_cons (s_if (b_cmp (d_ninX hr.units) (r_name (i := 9)) (r_name (i := 5)))
  (s_one (s_ret r_bl))
  s_nil)
  (s_cons (s_augSub (hu1 hr.units) ip_add (r_name (i := 2)) (r_name (i := 4)) r_int)
  (s_one (s_set (i := 3) sc_Reader_reads.nd (r_ix (d_ixX hr.units) (r_name (i := 5)) (r_name (i := 9))))))))))))))
theorem d__law_ask (T : Tx K mg a_is_alphabet a_is_list a_are_rolls a_is_whole a_is_within a_is_place a__law_ask a__law_bag a__law_pick a__law_of a__law_place a__law_letters a__law_reader a__law_reads a__law_same a__law_text_of a_law C_Reader a_Reader___init__ a_Reader_reads) {fd : FuncData} (F : Fun K "_law_ask" "_law_ask" s__law_ask a__law_ask fd) (Z_Reader_reads : FZ P w K mg base 1 a_Reader_reads f_Reader_reads) : FZ P w K mg base 2 a__law_ask f__law_ask := by
  refine fz_of0 (fn_ok (N := ["_law_found", "_law_texts"]) F sc__law_ask (k := 1) (body := m__law_ask) fun cdv A outer s H E hr => ?_) (F.binds (ps := ["_law_found", "_law_texts"]) fun _ _ _ _ _ _ us hl => match us, hl with | [_, _], _ => rfl)
  have tk : Takes (cxOf (L2.CX P w) P w K mg base ["_law_found", "_law_texts"] "_law_ask" (defScope s__law_ask) a__law_ask cdv A outer s H E) (fun c d _ H' => E c d H') := takes_of rfl rfl rfl rfl
  have hp : PassesOwn (model P w) (cxOf (L2.CX P w) P w K mg base ["_law_found", "_law_texts"] "_law_ask" (defScope s__law_ask) a__law_ask cdv A outer s H E).A (cxOf (L2.CX P w) P w K mg base ["_law_found", "_law_texts"] "_law_ask" (defScope s__law_ask) a__law_ask cdv A outer s H E).env (cxOf (L2.CX P w) P w K mg base ["_law_found", "_law_texts"] "_law_ask" (defScope s__law_ask) a__law_ask cdv A outer s H E).xe := passes_of rfl
  unfold m__law_ask
  exact (s_cons (s_if (b_cmp (d_eq hr.units) (r_callB d_lenX rfl T.b_len PySem.boot_len (a_cons (r_name (i := 1)) a_nil)) r_int)
  (s_one (s_ret (r_methZ tk (meth_cons T.m_Reader T.cl_Reader T.me_Reader_reads Z_Reader_reads (hr.mono (by omega)) meth_nil) (r_name (i := 0)) (a_cons (r_ix (d_ixX hr.units) (r_name (i := 1)) r_int) a_nil))))
  s_nil)
  (s_one (s_ret (r_if (b_cmp (d_eq hr.units) (r_callB d_lenX rfl T.b_len PySem.boot_len (a_cons (r_name (i := 1)) a_nil)) r_int) (r_methZ tk (meth_cons T.m_Reader T.cl_Reader T.me_Reader_reads Z_Reader_reads (hr.mono (by omega)) meth_nil) (r_name (i := 0)) (a_cons (r_ix (d_ixX hr.units) (r_name (i := 1)) r_int) (a_cons (r_ix (d_ixX hr.units) (r_name (i := 1)) r_int) a_nil))) (r_methZ tk (meth_cons T.m_Reader T.cl_Reader T.me_Reader_reads Z_Reader_reads (hr.mono (by omega)) meth_nil) (r_name (i := 0)) (a_cons (r_ix (d_ixX hr.units) (r_name (i := 1)) r_int) (a_cons (r_ix (d_ixX hr.units) (r_name (i := 1)) r_int) (a_cons (r_ix (d_ixX hr.units) (r_name (i := 1)) r_int) a_nil))))))))
theorem d__law_bag (T : Tx K mg a_is_alphabet a_is_list a_are_rolls a_is_whole a_is_within a_is_place a__law_ask a__law_bag a__law_pick a__law_of a__law_place a__law_letters a__law_reader a__law_reads a__law_same a__law_text_of a_law C_Reader a_Reader___init__ a_Reader_reads) {fd : FuncData} (F : Fun K "_law_bag" "_law_bag" s__law_bag a__law_bag fd)  : FZ P w K mg base 1 a__law_bag f__law_bag := by
  refine fz_of0 (fn_okH (N := ["_law_script"]) F sc__law_bag (k := 0) (body := m__law_bag) fun cdv A outer s H E hr => ?_) (F.binds (ps := ["_law_script"]) fun _ _ _ _ _ _ us hl => match us, hl with | [_], _ => rfl)
  have tk : Takes (cxOf (L2.CX P w) P w K mg base ["_law_script"] "_law_bag" (defScope s__law_bag) a__law_bag cdv A outer s H E) (fun c d _ H' => E c d H') := takes_of rfl rfl rfl rfl
  have hp : PassesOwn (model P w) (cxOf (L2.CX P w) P w K mg base ["_law_script"] "_law_bag" (defScope s__law_bag) a__law_bag cdv A outer s H E).A (cxOf (L2.CX P w) P w K mg base ["_law_script"] "_law_bag" (defScope s__law_bag) a__law_bag cdv A outer s H E).env (cxOf (L2.CX P w) P w K mg base ["_law_script"] "_law_bag" (defScope s__law_bag) a__law_bag cdv A outer s H E).xe := passes_of rfl
  unfold m__law_bag
  exact (s_one (s_ret (r_lstH (a_cons (r_callT d_listOf rfl T.b_list PyProof.Rows.boot_list (a_cons (r_sl (r_name (i := 0)) o_none (o_int r_int)) a_nil)) (a_cons r_int (a_cons r_int (a_cons r_int a_nil)))))))
theorem d__law_pick (T : Tx K mg a_is_alphabet a_is_list a_are_rolls a_is_whole a_is_within a_is_place a__law_ask a__law_bag a__law_pick a__law_of a__law_place a__law_letters a__law_reader a__law_reads a__law_same a__law_text_of a_law C_Reader a_Reader___init__ a_Reader_reads) {fd : FuncData} (F : Fun K "_law_pick" "_law_pick" s__law_pick a__law_pick fd)  : FZ P w K mg base 1 a__law_pick f__law_pick := by
  refine fz_of0 (fn_ok (N := ["_law_bag_here", "_law_many", "_law_cell", "_law_digit", "_law_seed"]) F sc__law_pick (k := 0) (body := m__law_pick) fun cdv A outer s H E hr => ?_) (F.binds (ps := ["_law_bag_here", "_law_many"]) fun _ _ _ _ _ _ us hl => match us, hl with | [_, _], _ => rfl)
  have tk : Takes (cxOf (L2.CX P w) P w K mg base ["_law_bag_here", "_law_many", "_law_cell", "_law_digit", "_law_seed"] "_law_pick" (defScope s__law_pick) a__law_pick cdv A outer s H E) (fun c d _ H' => E c d H') := takes_of rfl rfl rfl rfl
  have hp : PassesOwn (model P w) (cxOf (L2.CX P w) P w K mg base ["_law_bag_here", "_law_many", "_law_cell", "_law_digit", "_law_seed"] "_law_pick" (defScope s__law_pick) a__law_pick cdv A outer s H E).A (cxOf (L2.CX P w) P w K mg base ["_law_bag_here", "_law_many", "_law_cell", "_law_digit", "_law_seed"] "_law_pick" (defScope s__law_pick) a__law_pick cdv A outer s H E).env (cxOf (L2.CX P w) P w K mg base ["_law_bag_here", "_law_many", "_law_cell", "_law_digit", "_law_seed"] "_law_pick" (defScope s__law_pick) a__law_pick cdv A outer s H E).xe := passes_of rfl
  unfold m__law_pick
  exact (s_cons (s_if (EW.eb (w_and (b_cmp (d_eq hr.units) (r_ix (d_ixX hr.units) (r_name (i := 0)) r_int) r_int) (w_and1 (b_cmp d_ltX (r_ix (d_ixX hr.units) (r_name (i := 0)) r_int) (r_callB d_lenX rfl T.b_len PySem.boot_len (a_cons (r_ix (d_ixX hr.units) (r_name (i := 0)) r_int) a_nil))))))
  (s_cons (s_set (i := 2) sc__law_pick.nd (r_ix (d_ixX hr.units) (r_ix (d_ixX hr.units) (r_name (i := 0)) r_int) (r_ix (d_ixX hr.units) (r_name (i := 0)) r_int)))
  (s_cons (s_asg (r_bin d_addX (r_ix (d_ixX hr.units) (r_name (i := 0)) r_int) r_int) (g_sub (hu1 hr.units) (r_name (i := 0)) r_int) (nx_sub _ _))
  (s_one (s_if (b_cmp d_geI (r_name (i := 2)) (r_bin d_powI r_int r_int))
  (s_one (s_asg (r_name (i := 2)) (g_sub (hu1 hr.units) (r_name (i := 0)) r_int) (nx_sub _ _)))
  (s_one (s_asg (r_bin d_modI (r_callT d_int rfl T.b_int PyProof.Rows.boot_int (a_cons (r_bin d_addX (r_bin d_addX (r_bin d_mulX (r_ix (d_ixX hr.units) (r_name (i := 0)) r_int) r_int) (r_bin d_mulX (r_bin d_modI (r_callT d_int rfl T.b_int PyProof.Rows.boot_int (a_cons (r_name (i := 2)) a_nil)) r_int) r_int)) r_int) a_nil)) r_int) (g_sub (hu1 hr.units) (r_name (i := 0)) r_int) (nx_sub _ _)))))))
  s_nil)
  (s_cons (s_if (b_cmp d_gtI (r_ix (d_ixX hr.units) (r_name (i := 0)) r_int) r_int)
  (s_cons (s_set (i := 3) sc__law_pick.nd (r_bin d_modI (r_callT d_int rfl T.b_int PyProof.Rows.boot_int (a_cons (r_ix (d_ixX hr.units) (r_name (i := 0)) r_int) a_nil)) (r_name (i := 1))))
  (s_cons (s_asg (r_bin d_divI (r_ix (d_ixX hr.units) (r_name (i := 0)) r_int) (r_name (i := 1))) (g_sub (hu1 hr.units) (r_name (i := 0)) r_int) (nx_sub _ _))
  (s_one (s_ret (r_name (i := 3))))))
  s_nil)
  (s_cons (s_set (i := 4) sc__law_pick.nd (r_ix (d_ixX hr.units) (r_name (i := 0)) r_int))
  (s_cons (s_asg (r_bin d_modI (r_callT d_int rfl T.b_int PyProof.Rows.boot_int (a_cons (r_bin d_addX (r_bin d_addX (r_bin d_mulX (r_name (i := 4)) (r_name (i := 4))) (r_bin d_mulX (r_name (i := 4)) r_int)) r_int) a_nil)) r_int) (g_sub (hu1 hr.units) (r_name (i := 0)) r_int) (nx_sub _ _))
  (s_one (s_ret (r_bin d_modI (r_callT d_int rfl T.b_int PyProof.Rows.boot_int (a_cons (r_bin d_addX (r_bin d_divI (r_ix (d_ixX hr.units) (r_name (i := 0)) r_int) r_int) (r_bin d_mulX (r_bin d_modI (r_callT d_int rfl T.b_int PyProof.Rows.boot_int (a_cons (r_ix (d_ixX hr.units) (r_name (i := 0)) r_int) a_nil)) r_int) r_int)) a_nil)) (r_name (i := 1)))))))))
theorem d__law_of (T : Tx K mg a_is_alphabet a_is_list a_are_rolls a_is_whole a_is_within a_is_place a__law_ask a__law_bag a__law_pick a__law_of a__law_place a__law_letters a__law_reader a__law_reads a__law_same a__law_text_of a_law C_Reader a_Reader___init__ a_Reader_reads) {fd : FuncData} (F : Fun K "_law_of" "_law_of" s__law_of a__law_of fd) (Z__law_pick : FZ P w K mg base 1 a__law_pick f__law_pick) : FZ P w K mg base 2 a__law_of f__law_of := by
  refine fz_of0 (fn_ok (N := ["_law_bag_here", "_law_some"]) F sc__law_of (k := 1) (body := m__law_of) fun cdv A outer s H E hr => ?_) (F.binds (ps := ["_law_bag_here", "_law_some"]) fun _ _ _ _ _ _ us hl => match us, hl with | [_, _], _ => rfl)
  have tk : Takes (cxOf (L2.CX P w) P w K mg base ["_law_bag_here", "_law_some"] "_law_of" (defScope s__law_of) a__law_of cdv A outer s H E) (fun c d _ H' => E c d H') := takes_of rfl rfl rfl rfl
  have hp : PassesOwn (model P w) (cxOf (L2.CX P w) P w K mg base ["_law_bag_here", "_law_some"] "_law_of" (defScope s__law_of) a__law_of cdv A outer s H E).A (cxOf (L2.CX P w) P w K mg base ["_law_bag_here", "_law_some"] "_law_of" (defScope s__law_of) a__law_of cdv A outer s H E).env (cxOf (L2.CX P w) P w K mg base ["_law_bag_here", "_law_some"] "_law_of" (defScope s__law_of) a__law_of cdv A outer s H E).xe := passes_of rfl
  unfold m__law_of
  exact (s_one (s_ret (r_ix (d_ixX hr.units) (r_name (i := 1)) (r_callZ tk Z__law_pick (hr.mono (by omega)) T.m__law_pick T.k__law_pick (a_cons (r_name (i := 0)) (a_cons (r_callB d_lenX rfl T.b_len PySem.boot_len (a_cons (r_name (i := 1)) a_nil)) a_nil))))))
theorem d__law_place (T : Tx K mg a_is_alphabet a_is_list a_are_rolls a_is_whole a_is_within a_is_place a__law_ask a__law_bag a__law_pick a__law_of a__law_place a__law_letters a__law_reader a__law_reads a__law_same a__law_text_of a_law C_Reader a_Reader___init__ a_Reader_reads) {fd : FuncData} (F : Fun K "_law_place" "_law_place" s__law_place a__law_place fd) (Z__law_pick : FZ P w K mg base 1 a__law_pick f__law_pick) : FZ P w K mg base 2 a__law_place f__law_place := by
  refine fz_of0 (fn_ok (N := ["_law_bag_here", "_law_rolls_in", "_law_size", "_law_roll", "_law_goals", "_law_sign"]) F sc__law_place (k := 1) (body := m__law_place) fun cdv A outer s H E hr => ?_) (F.binds (ps := ["_law_bag_here", "_law_rolls_in", "_law_size"]) fun _ _ _ _ _ _ us hl => match us, hl with | [_, _, _], _ => rfl)
  have tk : Takes (cxOf (L2.CX P w) P w K mg base ["_law_bag_here", "_law_rolls_in", "_law_size", "_law_roll", "_law_goals", "_law_sign"] "_law_place" (defScope s__law_place) a__law_place cdv A outer s H E) (fun c d _ H' => E c d H') := takes_of rfl rfl rfl rfl
  have hp : PassesOwn (model P w) (cxOf (L2.CX P w) P w K mg base ["_law_bag_here", "_law_rolls_in", "_law_size", "_law_roll", "_law_goals", "_law_sign"] "_law_place" (defScope s__law_place) a__law_place cdv A outer s H E).A (cxOf (L2.CX P w) P w K mg base ["_law_bag_here", "_law_rolls_in", "_law_size", "_law_roll", "_law_goals", "_law_sign"] "_law_place" (defScope s__law_place) a__law_place cdv A outer s H E).env (cxOf (L2.CX P w) P w K mg base ["_law_bag_here", "_law_rolls_in", "_law_size", "_law_roll", "_law_goals", "_law_sign"] "_law_place" (defScope s__law_place) a__law_place cdv A outer s H E).xe := passes_of rfl
  unfold m__law_place
  exact (s_cons (s_set (i := 3) sc__law_place.nd (r_callZ tk Z__law_pick (hr.mono (by omega)) T.m__law_pick T.k__law_pick (a_cons (r_name (i := 0)) (a_cons (r_callB d_lenX rfl T.b_len PySem.boot_len (a_cons (r_name (i := 1)) a_nil)) a_nil))))
  (s_cons (s_set (i := 4) sc__law_place.nd (r_fin (r_callT (d_dictX rfl) rfl T.b_dict PyProof.Rows.boot_dict (a_cons (r_fin (r_lc (own := [("_law_sign", 5)]) rfl sc__law_place.nd (blkOk_by (by rfl)) (i_any (r_ix (d_ixX hr.units) (r_name (i := 1)) (r_name (i := 3)))) (fun _ _ _ _ _ => (gw_name sc__law_place.nd (i := 5))) (fun _ _ _ _ _ => (ts_one (b_cmp d_gtI (r_callZ takesF Z__law_pick (hr.mono (by omega)) T.m__law_pick T.k__law_pick (a_cons (r_name (i := 0)) (a_cons r_int a_nil))) r_int))) (fun _ _ _ _ _ => (r_tup (a_cons (r_name (i := 5)) (a_cons (r_callZ takesF Z__law_pick (hr.mono (by omega)) T.m__law_pick T.k__law_pick (a_cons (r_name (i := 0)) (a_cons (r_name (i := 2)) a_nil))) a_nil)))))) a_nil))))
  (s_one (s_ret (r_tup (a_cons (r_name (i := 3)) (a_cons (r_name (i := 4)) (a_cons (r_cmp (d_eq hr.units) (r_callZ tk Z__law_pick (hr.mono (by omega)) T.m__law_pick T.k__law_pick (a_cons (r_name (i := 0)) (a_cons r_int a_nil))) r_int) a_nil))))))))
theorem d__law_letters (T : Tx K mg a_is_alphabet a_is_list a_are_rolls a_is_whole a_is_within a_is_place a__law_ask a__law_bag a__law_pick a__law_of a__law_place a__law_letters a__law_reader a__law_reads a__law_same a__law_text_of a_law C_Reader a_Reader___init__ a_Reader_reads) {fd : FuncData} (F : Fun K "_law_letters" "_law_letters" s__law_letters a__law_letters fd) (Z__law_of : FZ P w K mg base 2 a__law_of f__law_of) : FZ P w K mg base 3 a__law_letters f__law_letters := by
  refine fz_of0 (fn_ok (N := ["_law_bag_here", "_law_many", "_law_found", "_law_k", "_law_rest", "_law_sign"]) F sc__law_letters (k := 2) (body := m__law_letters) fun cdv A outer s H E hr => ?_) (F.binds (ps := ["_law_bag_here", "_law_many"]) fun _ _ _ _ _ _ us hl => match us, hl with | [_, _], _ => rfl)
  have tk : Takes (cxOf (L2.CX P w) P w K mg base ["_law_bag_here", "_law_many", "_law_found", "_law_k", "_law_rest", "_law_sign"] "_law_letters" (defScope s__law_letters) a__law_letters cdv A outer s H E) (fun c d _ H' => E c d H') := takes_of rfl rfl rfl rfl
  have hp : PassesOwn (model P w) (cxOf (L2.CX P w) P w K mg base ["_law_bag_here", "_law_many", "_law_found", "_law_k", "_law_rest", "_law_sign"] "_law_letters" (defScope s__law_letters) a__law_letters cdv A outer s H E).A (cxOf (L2.CX P w) P w K mg base ["_law_bag_here", "_law_many", "_law_found", "_law_k", "_law_rest", "_law_sign"] "_law_letters" (defScope s__law_letters) a__law_letters cdv A outer s H E).env (cxOf (L2.CX P w) P w K mg base ["_law_bag_here", "_law_many", "_law_found", "_law_k", "_law_rest", "_law_sign"] "_law_letters" (defScope s__law_letters) a__law_letters cdv A outer s H E).xe := passes_of rfl
  unfold m__law_letters
  exact (s_cons (s_set (i := 2) sc__law_letters.nd (r_lstH a_nil))
  (s_cons (s_for hp rfl (i_range1 (a_cons (r_name (i := 1)) a_nil) rfl T.b_range) (g_name sc__law_letters.nd (i := 3))
  (s_cons (s_setLcF (i := 4) (own := [("_law_sign", 5)]) rfl sc__law_letters.nd (blkOk_by (by rfl)) (sw_true rfl rfl rfl rfl) (i_any r_str) (fun _ _ _ _ _ => (gw_name sc__law_letters.nd (i := 5))) (fun _ _ _ _ _ => (ts_one (b_cmp (d_ninX hr.units) (r_name (i := 5)) (r_name (i := 2))))) (fun _ _ _ _ _ => (r_name (i := 5))))
  (s_one (s_expr (r_met d_append (fun _ _ _ _ _ => tyLst_is) PySem.F.plainAttrs_list PySem.F.slot_list_append PySem.F.type_list_append (r_name (i := 2)) (a_cons (r_callZ tk Z__law_of (hr.mono (by omega)) T.m__law_of T.k__law_of (a_cons (r_name (i := 0)) (a_cons (r_name (i := 4)) a_nil))) a_nil))))))
  (s_one (s_ret (r_met d_join (fun _ _ _ _ _ => tyStr_is) PySem.F.plainAttrs_str PySem.F.slot_str_join PySem.F.type_str_join r_str (a_cons (r_fin (r_callB (d_sorted rfl hr.units) rfl T.b_sorted PyProof.Rows.boot_sorted (a_cons (r_name (i := 2)) a_nil))) a_nil))))))
theorem d__law_reader (T : Tx K mg a_is_alphabet a_is_list a_are_rolls a_is_whole a_is_within a_is_place a__law_ask a__law_bag a__law_pick a__law_of a__law_place a__law_letters a__law_reader a__law_reads a__law_same a__law_text_of a_law C_Reader a_Reader___init__ a_Reader_reads) {fd : FuncData} (F : Fun K "_law_reader" "_law_reader" s__law_reader a__law_reader fd) (Z__law_letters : FZ P w K mg base 3 a__law_letters f__law_letters) (Z__law_of : FZ P w K mg base 2 a__law_of f__law_of) (Z__law_pick : FZ P w K mg base 1 a__law_pick f__law_pick) (Z__law_place : FZ P w K mg base 2 a__law_place f__law_place) : FZ P w K mg base 4 a__law_reader f__law_reader := by
  refine fz_of0 (fn_ok (N := ["_law_bag_here", "_law_most", "_law_letters_here", "_law_cut", "_law_rolls_in", "_law_size", "_law_rows", "_law_k"]) F sc__law_reader (k := 3) (body := m__law_reader) fun cdv A outer s H E hr => ?_) (F.binds (ps := ["_law_bag_here", "_law_most"]) fun _ _ _ _ _ _ us hl => match us, hl with | [_, _], _ => rfl)
  have tk : Takes (cxOf (L2.CX P w) P w K mg base ["_law_bag_here", "_law_most", "_law_letters_here", "_law_cut", "_law_rolls_in", "_law_size", "_law_rows", "_law_k"] "_law_reader" (defScope s__law_reader) a__law_reader cdv A outer s H E) (fun c d _ H' => E c d H') := takes_of rfl rfl rfl rfl
  have hp : PassesOwn (model P w) (cxOf (L2.CX P w) P w K mg base ["_law_bag_here", "_law_most", "_law_letters_here", "_law_cut", "_law_rolls_in", "_law_size", "_law_rows", "_law_k"] "_law_reader" (defScope s__law_reader) a__law_reader cdv A outer s H E).A (cxOf (L2.CX P w) P w K mg base ["_law_bag_here", "_law_most", "_law_letters_here", "_law_cut", "_law_rolls_in", "_law_size", "_law_rows", "_law_k"] "_law_reader" (defScope s__law_reader) a__law_reader cdv A outer s H E).env (cxOf (L2.CX P w) P w K mg base ["_law_bag_here", "_law_most", "_law_letters_here", "_law_cut", "_law_rolls_in", "_law_size", "_law_rows", "_law_k"] "_law_reader" (defScope s__law_reader) a__law_reader cdv A outer s H E).xe := passes_of rfl
  unfold m__law_reader
  exact (s_cons (s_set (i := 2) sc__law_reader.nd (r_callZ tk Z__law_letters (hr.mono (by omega)) T.m__law_letters T.k__law_letters (a_cons (r_name (i := 0)) (a_cons (r_bin d_addX r_int (r_callZ tk Z__law_pick (hr.mono (by omega)) T.m__law_pick T.k__law_pick (a_cons (r_name (i := 0)) (a_cons (r_if (b_cmp d_gtI (r_name (i := 1)) r_int) r_int r_int) a_nil)))) a_nil))))
  (s_cons (s_set (i := 3) sc__law_reader.nd (r_bin d_addX r_int (r_callZ tk Z__law_pick (hr.mono (by omega)) T.m__law_pick T.k__law_pick (a_cons (r_name (i := 0)) (a_cons (r_bin d_subI (r_callB d_lenX rfl T.b_len PySem.boot_len (a_cons (r_name (i := 2)) a_nil)) r_int) a_nil)))))
  (s_cons (s_set (i := 4) sc__law_reader.nd (r_callZ tk Z__law_of (hr.mono (by omega)) T.m__law_of T.k__law_of (a_cons (r_name (i := 0)) (a_cons (r_lst (a_cons (r_lst (a_cons (r_name (i := 2)) a_nil)) (a_cons (r_lst (a_cons (r_sl (r_name (i := 2)) o_none (o_int (r_name (i := 3)))) (a_cons (r_sl (r_name (i := 2)) (o_int (r_name (i := 3))) o_none) a_nil))) (a_cons (r_lst (a_cons (r_sl (r_name (i := 2)) (o_int (r_name (i := 3))) o_none) (a_cons (r_sl (r_name (i := 2)) o_none (o_int (r_name (i := 3)))) a_nil))) a_nil)))) a_nil))))
  (s_cons (s_if (EW.eb (w_and (b_cmp d_gtI (r_callB d_lenX rfl T.b_len PySem.boot_len (a_cons (r_name (i := 2)) a_nil)) r_int) (w_and1 (b_cmp (d_eq hr.units) (r_callZ tk Z__law_pick (hr.mono (by omega)) T.m__law_pick T.k__law_pick (a_cons (r_name (i := 0)) (a_cons r_int a_nil))) r_int))))
  (s_one (s_set (i := 4) sc__law_reader.nd (r_lst (a_cons (r_sl (r_name (i := 2)) o_none (o_int r_int)) (a_cons (r_sl (r_name (i := 2)) (o_int r_int) o_none) (a_cons (r_sl (r_name (i := 2)) (o_int r_int) (o_int r_int)) a_nil))))))
  s_nil)
  (s_cons (s_set (i := 5) sc__law_reader.nd (r_bin d_addX r_int (r_callZ tk Z__law_pick (hr.mono (by omega)) T.m__law_pick T.k__law_pick (a_cons (r_name (i := 0)) (a_cons (r_name (i := 1)) a_nil)))))
  (s_cons (s_setLcF (i := 6) (own := [("_law_k", 7)]) rfl sc__law_reader.nd (blkOk_by (by rfl)) (sw_true rfl rfl rfl rfl) (i_range1 (a_cons (r_name (i := 5)) a_nil) rfl T.b_range) (fun _ _ _ _ _ => (gw_name sc__law_reader.nd (i := 7))) (fun _ _ _ _ _ => ts_nil) (fun _ _ _ _ _ => (r_callZ takesF Z__law_place (hr.mono (by omega)) T.m__law_place T.k__law_place (a_cons (r_name (i := 0)) (a_cons (r_name (i := 4)) (a_cons (r_name (i := 5)) a_nil))))))
  (s_one (s_ret (r_tup (a_cons (r_name (i := 4)) (a_cons (r_name (i := 6)) a_nil)))))))))))
theorem d__law_reads (T : Tx K mg a_is_alphabet a_is_list a_are_rolls a_is_whole a_is_within a_is_place a__law_ask a__law_bag a__law_pick a__law_of a__law_place a__law_letters a__law_reader a__law_reads a__law_same a__law_text_of a_law C_Reader a_Reader___init__ a_Reader_reads) {fd : FuncData} (F : Fun K "_law_reads" "_law_reads" s__law_reads a__law_reads fd)  : FZ P w K mg base 1 a__law_reads f__law_reads := by
  refine fz_of0 (fn_ok (N := ["_law_rows", "_law_texts", "_law_left", "_law_spot", "_law_one", "_law_roll", "_law_goals"]) F sc__law_reads (k := 0) (body := m__law_reads) fun cdv A outer s H E hr => ?_) (F.binds (ps := ["_law_rows", "_law_texts"]) fun _ _ _ _ _ _ us hl => match us, hl with | [_, _], _ => rfl)
  have tk : Takes (cxOf (L2.CX P w) P w K mg base ["_law_rows", "_law_texts", "_law_left", "_law_spot", "_law_one", "_law_roll", "_law_goals"] "_law_reads" (defScope s__law_reads) a__law_reads cdv A outer s H E) (fun c d _ H' => E c d H') := takes_of rfl rfl rfl rfl
  have hp : PassesOwn (model P w) (cxOf (L2.CX P w) P w K mg base ["_law_rows", "_law_texts", "_law_left", "_law_spot", "_law_one", "_law_roll", "_law_goals"] "_law_reads" (defScope s__law_reads) a__law_reads cdv A outer s H E).A (cxOf (L2.CX P w) P w K mg base ["_law_rows", "_law_texts", "_law_left", "_law_spot", "_law_one", "_law_roll", "_law_goals"] "_law_reads" (defScope s__law_reads) a__law_reads cdv A outer s H E).env (cxOf (L2.CX P w) P w K mg base ["_law_rows", "_law_texts", "_law_left", "_law_spot", "_law_one", "_law_roll", "_law_goals"] "_law_reads" (defScope s__law_reads) a__law_reads cdv A outer s H E).xe := passes_of rfl
  unfold m__law_reads
  exact (s_cons (s_par (i := 2) (j := 3) rfl sc__law_reads.nd (a_cons (r_callT d_listOfH rfl T.b_list PyProof.Rows.boot_list (a_cons (r_name (i := 1)) a_nil)) (a_cons r_int a_nil)))
  (s_cons (s_while hp (b_cmp (d_ne hr.units) (r_fin (r_lc (own := [("_law_one", 4)]) rfl sc__law_reads.nd (blkOk_by (by rfl)) (i_any (r_name (i := 2))) (fun _ _ _ _ _ => (gw_name sc__law_reads.nd (i := 4))) (fun _ _ _ _ _ => (ts_one (b_cmp (d_ne hr.units) (r_name (i := 4)) r_str))) (fun _ _ _ _ _ => (r_name (i := 4))))) (r_lst a_nil))
  (s_cons (s_par (i := 5) (j := 6) rfl sc__law_reads.nd (a_cons (r_ix (d_ixX hr.units) (r_ix (d_ixX hr.units) (r_name (i := 0)) (r_name (i := 3))) r_int) (a_cons (r_ix (d_ixX hr.units) (r_ix (d_ixX hr.units) (r_name (i := 0)) (r_name (i := 3))) r_int) a_nil)))
  (s_cons (s_if (EW.eb (w_or (b_cmp (d_eq hr.units) (r_ix (d_ixX hr.units) (r_name (i := 2)) (r_name (i := 5))) r_str) (w_or1 (b_cmp (d_ninX hr.units) (r_ix (d_ixX hr.units) (r_ix (d_ixX hr.units) (r_name (i := 2)) (r_name (i := 5))) r_int) (r_name (i := 6))))))
  (s_one (s_ret r_bl))
  s_nil)
  (s_cons (s_set (i := 3) sc__law_reads.nd (r_ix (d_ixX hr.units) (r_name (i := 6)) (r_ix (d_ixX hr.units) (r_ix (d_ixX hr.units) (r_name (i := 2)) (r_name (i := 5))) r_int)))
  (s_one (s_asg (r_sl (r_ix (d_ixX hr.units) (r_name (i := 2)) (r_name (i := 5))) (o_int r_int) o_none) (g_sub (hu1 hr.units) (r_name (i := 2)) (r_name (i := 5))) (nx_sub _ _)))))))
  (s_one (s_ret (r_ix (d_ixX hr.units) (r_ix (d_ixX hr.units) (r_name (i := 0)) (r_name (i := 3))) r_int)))))
theorem d__law_same (T : Tx K mg a_is_alphabet a_is_list a_are_rolls a_is_whole a_is_within a_is_place a__law_ask a__law_bag a__law_pick a__law_of a__law_place a__law_letters a__law_reader a__law_reads a__law_same a__law_text_of a_law C_Reader a_Reader___init__ a_Reader_reads) {fd : FuncData} (F : Fun K "_law_same" "_law_same" s__law_same a__law_same fd)  : ∀ k, FZ P w K mg base (k + 1) a__law_same (f__law_sameR k)
  | 0 => fz_bad
  | k + 1 => by
    have ZR := d__law_same T F  k
    have hrec : k + 1 ≤ k + 1 := Nat.le_refl _
    refine fz_of0 (fn_ok (N := ["_law_found", "_law_due", "_law_a", "_law_b"]) F sc__law_same (k := k + 1) (body := m__law_same (f__law_sameR k)) fun cdv A outer s H E hr => ?_) (F.binds (ps := ["_law_found", "_law_due"]) fun _ _ _ _ _ _ us hl => match us, hl with | [_, _], _ => rfl)
    have tk : Takes (cxOf (L2.CX P w) P w K mg base ["_law_found", "_law_due", "_law_a", "_law_b"] "_law_same" (defScope s__law_same) a__law_same cdv A outer s H E) (fun c d _ H' => E c d H') := takes_of rfl rfl rfl rfl
    have hp : PassesOwn (model P w) (cxOf (L2.CX P w) P w K mg base ["_law_found", "_law_due", "_law_a", "_law_b"] "_law_same" (defScope s__law_same) a__law_same cdv A outer s H E).A (cxOf (L2.CX P w) P w K mg base ["_law_found", "_law_due", "_law_a", "_law_b"] "_law_same" (defScope s__law_same) a__law_same cdv A outer s H E).env (cxOf (L2.CX P w) P w K mg base ["_law_found", "_law_due", "_law_a", "_law_b"] "_law_same" (defScope s__law_same) a__law_same cdv A outer s H E).xe := passes_of rfl
    unfold m__law_same
    exact (s_cons (s_if (b_val (r_callB d_isiX rfl T.b_isinstance PyProof.Rows.boot_isinstance (a_cons (r_name (i := 1)) (a_cons (r_tup (a_cons (r_ty rfl T.b_list PyProof.Rows.boot_list) (a_cons (r_ty rfl T.b_tuple PyProof.Rows.boot_tuple) a_nil))) a_nil))))
    (s_cons (s_if (EW.eb (w_or (b_cmp (d_ne hr.units) (r_callB d_isiX rfl T.b_isinstance PyProof.Rows.boot_isinstance (a_cons (r_name (i := 0)) (a_cons (r_ty rfl T.b_list PyProof.Rows.boot_list) a_nil))) (r_callB d_isiX rfl T.b_isinstance PyProof.Rows.boot_isinstance (a_cons (r_name (i := 1)) (a_cons (r_ty rfl T.b_list PyProof.Rows.boot_list) a_nil)))) (w_or1 (b_cmp (d_ne hr.units) (r_callB d_isiX rfl T.b_isinstance PyProof.Rows.boot_isinstance (a_cons (r_name (i := 0)) (a_cons (r_ty rfl T.b_tuple PyProof.Rows.boot_tuple) a_nil))) (r_callB d_isiX rfl T.b_isinstance PyProof.Rows.boot_isinstance (a_cons (r_name (i := 1)) (a_cons (r_ty rfl T.b_tuple PyProof.Rows.boot_tuple) a_nil)))))))
    (s_one (s_ret r_bl))
    s_nil)
    (s_one (s_ret (r_and (r_cmp (d_eq hr.units) (r_callB d_lenX rfl T.b_len PySem.boot_len (a_cons (r_name (i := 0)) a_nil)) (r_callB d_lenX rfl T.b_len PySem.boot_len (a_cons (r_name (i := 1)) a_nil))) (r_one (r_callB (d_all rfl) rfl T.b_all PyProof.Rows.boot_all (a_cons (r_fin (r_lc (own := [("_law_a", 2), ("_law_b", 3)]) rfl sc__law_same.nd (blkOk_by (by rfl)) (i_zip (a_cons (r_name (i := 0)) (a_cons (r_name (i := 1)) a_nil)) rfl T.b_zip) (fun _ _ _ _ _ => (gw_tup rfl (gsw_cons (gw_name sc__law_same.nd (i := 2)) (gsw_cons (gw_name sc__law_same.nd (i := 3)) gsw_nil)) (len_consN (nx_set 2) (len_consN (nx_set 3) len_nil)))) (fun _ _ _ _ _ => ts_nil) (fun _ _ _ _ _ => (r_callZ takesF ZR (hr.mono hrec) T.m__law_same T.k__law_same (a_cons (r_name (i := 2)) (a_cons (r_name (i := 3)) a_nil)))))) a_nil)))))))
    s_nil)
    (s_cons (s_if (EW.eb (w_or (b_cmp d_isN (r_name (i := 1)) r_non) (w_or1 (b_cmp d_isN (r_name (i := 0)) r_non))))
    (s_one (s_ret (r_and (r_cmp d_isN (r_name (i := 1)) r_non) (r_one (r_cmp d_isN (r_name (i := 0)) r_non)))))
    s_nil)
    (s_cons (s_if (EW.eb (w_or (b_cmp (d_ne hr.units) (r_callB d_isiX rfl T.b_isinstance PyProof.Rows.boot_isinstance (a_cons (r_name (i := 0)) (a_cons (r_ty rfl T.b_bool PyProof.Rows.boot_bool) a_nil))) (r_callB d_isiX rfl T.b_isinstance PyProof.Rows.boot_isinstance (a_cons (r_name (i := 1)) (a_cons (r_ty rfl T.b_bool PyProof.Rows.boot_bool) a_nil)))) (w_or1 (b_cmp (d_ne hr.units) (r_callB d_isiX rfl T.b_isinstance PyProof.Rows.boot_isinstance (a_cons (r_name (i := 0)) (a_cons (r_ty rfl T.b_int PyProof.Rows.boot_int) a_nil))) (r_callB d_isiX rfl T.b_isinstance PyProof.Rows.boot_isinstance (a_cons (r_name (i := 1)) (a_cons (r_ty rfl T.b_int PyProof.Rows.boot_int) a_nil)))))))
    (s_one (s_ret r_bl))
    s_nil)
    (s_one (s_ret (r_and (r_cmp (d_eq hr.units) (r_callB d_isiX rfl T.b_isinstance PyProof.Rows.boot_isinstance (a_cons (r_name (i := 0)) (a_cons (r_ty rfl T.b_str PyProof.Rows.boot_str) a_nil))) (r_callB d_isiX rfl T.b_isinstance PyProof.Rows.boot_isinstance (a_cons (r_name (i := 1)) (a_cons (r_ty rfl T.b_str PyProof.Rows.boot_str) a_nil)))) (r_one (r_cmp (d_eq hr.units) (r_name (i := 0)) (r_name (i := 1))))))))))
theorem d__law_text_of (T : Tx K mg a_is_alphabet a_is_list a_are_rolls a_is_whole a_is_within a_is_place a__law_ask a__law_bag a__law_pick a__law_of a__law_place a__law_letters a__law_reader a__law_reads a__law_same a__law_text_of a_law C_Reader a_Reader___init__ a_Reader_reads) {fd : FuncData} (F : Fun K "_law_text_of" "_law_text_of" s__law_text_of a__law_text_of fd) (Z__law_of : FZ P w K mg base 2 a__law_of f__law_of) (Z__law_pick : FZ P w K mg base 1 a__law_pick f__law_pick) : FZ P w K mg base 3 a__law_text_of f__law_text_of := by
  refine fz_of0 (fn_ok (N := ["_law_bag_here", "_law_roll", "_law_most", "_law_k"]) F sc__law_text_of (k := 2) (body := m__law_text_of) fun cdv A outer s H E hr => ?_) (F.binds (ps := ["_law_bag_here", "_law_roll", "_law_most"]) fun _ _ _ _ _ _ us hl => match us, hl with | [_, _, _], _ => rfl)
  have tk : Takes (cxOf (L2.CX P w) P w K mg base ["_law_bag_here", "_law_roll", "_law_most", "_law_k"] "_law_text_of" (defScope s__law_text_of) a__law_text_of cdv A outer s H E) (fun c d _ H' => E c d H') := takes_of rfl rfl rfl rfl
  have hp : PassesOwn (model P w) (cxOf (L2.CX P w) P w K mg base ["_law_bag_here", "_law_roll", "_law_most", "_law_k"] "_law_text_of" (defScope s__law_text_of) a__law_text_of cdv A outer s H E).A (cxOf (L2.CX P w) P w K mg base ["_law_bag_here", "_law_roll", "_law_most", "_law_k"] "_law_text_of" (defScope s__law_text_of) a__law_text_of cdv A outer s H E).env (cxOf (L2.CX P w) P w K mg base ["_law_bag_here", "_law_roll", "_law_most", "_law_k"] "_law_text_of" (defScope s__law_text_of) a__law_text_of cdv A outer s H E).xe := passes_of rfl
  unfold m__law_text_of
  exact (s_one (s_ret (r_met d_join (fun _ _ _ _ _ => tyStr_is) PySem.F.plainAttrs_str PySem.F.slot_str_join PySem.F.type_str_join r_str (a_cons (r_fin (r_lc (own := [("_law_k", 3)]) rfl sc__law_text_of.nd (blkOk_by (by rfl)) (i_range1 (a_cons (r_callZ tk Z__law_pick (hr.mono (by omega)) T.m__law_pick T.k__law_pick (a_cons (r_name (i := 0)) (a_cons (r_bin d_addX (r_name (i := 2)) r_int) a_nil))) a_nil) rfl T.b_range) (fun _ _ _ _ _ => (gw_name sc__law_text_of.nd (i := 3))) (fun _ _ _ _ _ => ts_nil) (fun _ _ _ _ _ => (r_callZ takesF Z__law_of (hr.mono (by omega)) T.m__law_of T.k__law_of (a_cons (r_name (i := 0)) (a_cons (r_name (i := 1)) a_nil)))))) a_nil))))
theorem d_law (T : Tx K mg a_is_alphabet a_is_list a_are_rolls a_is_whole a_is_within a_is_place a__law_ask a__law_bag a__law_pick a__law_of a__law_place a__law_letters a__law_reader a__law_reads a__law_same a__law_text_of a_law C_Reader a_Reader___init__ a_Reader_reads) {fd : FuncData} (F : Fun K "law" "law" s_law a_law fd) (Z_Reader___init__ : FZ P w K mg base 4 a_Reader___init__ f_Reader___init__) (Z_Reader_reads : FZ P w K mg base 1 a_Reader_reads f_Reader_reads) (Z__law_ask : FZ P w K mg base 2 a__law_ask f__law_ask) (Z__law_bag : FZ P w K mg base 1 a__law_bag f__law_bag) (Z__law_of : FZ P w K mg base 2 a__law_of f__law_of) (Z__law_pick : FZ P w K mg base 1 a__law_pick f__law_pick) (Z__law_place : FZ P w K mg base 2 a__law_place f__law_place) (Z__law_reader : FZ P w K mg base 4 a__law_reader f__law_reader) (Z__law_reads : FZ P w K mg base 1 a__law_reads f__law_reads) (Z__law_same : FZ P w K mg base 13 a__law_same f__law_same) (Z__law_text_of : FZ P w K mg base 3 a__law_text_of f__law_text_of) : FnOk P w K mg base (L2.CX P w) 14 a_law fd ["_law_script"] (spOf K mg 1 (defS 14 m_law)) := by
  refine fn_ok (N := ["_law_script", "_law_bag_here", "_law_turn", "_law_rolls_in", "_law_rows", "_law_late", "_law_row", "_law_one", "_law_two", "_law_k", "_law_texts", "_law_roll", "_law_told", "_law_due"]) F sc_law (k := 13) (body := m_law) fun cdv A outer s H E hr => ?_
  have tk : Takes (cxOf (L2.CX P w) P w K mg base ["_law_script", "_law_bag_here", "_law_turn", "_law_rolls_in", "_law_rows", "_law_late", "_law_row", "_law_one", "_law_two", "_law_k", "_law_texts", "_law_roll", "_law_told", "_law_due"] "law" (defScope s_law) a_law cdv A outer s H E) (fun c d _ H' => E c d H') := takes_of rfl rfl rfl rfl
  have hp : PassesOwn (model P w) (cxOf (L2.CX P w) P w K mg base ["_law_script", "_law_bag_here", "_law_turn", "_law_rolls_in", "_law_rows", "_law_late", "_law_row", "_law_one", "_law_two", "_law_k", "_law_texts", "_law_roll", "_law_told", "_law_due"] "law" (defScope s_law) a_law cdv A outer s H E).A (cxOf (L2.CX P w) P w K mg base ["_law_script", "_law_bag_here", "_law_turn", "_law_rolls_in", "_law_rows", "_law_late", "_law_row", "_law_one", "_law_two", "_law_k", "_law_texts", "_law_roll", "_law_told", "_law_due"] "law" (defScope s_law) a_law cdv A outer s H E).env (cxOf (L2.CX P w) P w K mg base ["_law_script", "_law_bag_here", "_law_turn", "_law_rolls_in", "_law_rows", "_law_late", "_law_row", "_law_one", "_law_two", "_law_k", "_law_texts", "_law_roll", "_law_told", "_law_due"] "law" (defScope s_law) a_law cdv A outer s H E).xe := passes_of rfl
  unfold m_law
  exact (s_cons (s_set (i := 1) sc_law.nd (r_callZ tk Z__law_bag (hr.mono (by omega)) T.m__law_bag T.k__law_bag (a_cons (r_name (i := 0)) a_nil)))
  (s_cons (s_for hp rfl (i_range1 (a_cons r_int a_nil) rfl T.b_range) (g_name sc_law.nd (i := 2))
  (s_cons (s_asg (r_callZ tk Z__law_reader (hr.mono (by omega)) T.m__law_reader T.k__law_reader (a_cons (r_name (i := 1)) (a_cons r_int a_nil))) (g_tup rfl (gs_cons (g_name sc_law.nd (i := 3)) (gs_cons (g_name sc_law.nd (i := 4)) gs_nil)) (len_consN (nx_set 3) (len_consN (nx_set 4) len_nil))) (nx_tup (nx_cons (nx_set 3) (nx_cons (nx_set 4) nx_nil))))
  (s_cons (s_setLcF (i := 5) (own := [("_law_row", 6)]) rfl sc_law.nd (blkOk_by (by rfl)) (sw_true rfl rfl rfl rfl) (i_any (r_name (i := 4))) (fun _ _ _ _ _ => (gw_name sc_law.nd (i := 6))) (fun _ _ _ _ _ => ts_nil) (fun _ _ _ _ _ => (r_callZ takesF Z__law_place (hr.mono (by omega)) T.m__law_place T.k__law_place (a_cons (r_name (i := 1)) (a_cons (r_name (i := 3)) (a_cons (r_callB d_lenX rfl T.b_len PySem.boot_len (a_cons (r_name (i := 4)) a_nil)) a_nil))))))
  (s_cons (s_par (i := 7) (j := 8) rfl sc_law.nd (a_cons (r_fin (r_makeZ tk T.mk_Reader Z_Reader___init__ (hr.mono (by omega)) T.m_Reader (a_cons (r_name (i := 3)) (a_cons (r_name (i := 4)) a_nil)))) (a_cons (r_fin (r_makeZ tk T.mk_Reader Z_Reader___init__ (hr.mono (by omega)) T.m_Reader (a_cons (r_callT d_tupOf rfl T.b_tuple PyProof.Rows.boot_tuple (a_cons (r_name (i := 3)) a_nil)) (a_cons (r_callT d_tupOf rfl T.b_tuple PyProof.Rows.boot_tuple (a_cons (r_name (i := 5)) a_nil)) a_nil)))) a_nil)))
  (s_cons (s_for hp rfl (i_range1 (a_cons r_int a_nil) rfl T.b_range) (g_name sc_law.nd (i := 9))
  (s_cons (s_setLc (i := 10) (own := [("_law_roll", 11)]) rfl sc_law.nd (blkOk_by (by rfl)) (sw_true rfl rfl rfl rfl) (i_any (r_name (i := 3))) (fun _ _ _ _ _ => (gw_name sc_law.nd (i := 11))) (fun _ _ _ _ _ => ts_nil) (fun _ _ _ _ _ => (r_callZ takesF Z__law_text_of (hr.mono (by omega)) T.m__law_text_of T.k__law_text_of (a_cons (r_name (i := 1)) (a_cons (r_name (i := 11)) (a_cons r_int a_nil))))))
  (s_cons (s_if (b_cmp (d_eq hr.units) (r_callZ tk Z__law_pick (hr.mono (by omega)) T.m__law_pick T.k__law_pick (a_cons (r_name (i := 1)) (a_cons r_int a_nil))) r_int)
  (s_one (s_asg (r_bin d_addX (r_ix (d_ixX hr.units) (r_name (i := 10)) r_int) (r_callZ tk Z__law_of (hr.mono (by omega)) T.m__law_of T.k__law_of (a_cons (r_name (i := 1)) (a_cons (r_lst (a_cons r_str (a_cons r_str (a_cons (r_ix (d_ixX hr.units) (r_name (i := 3)) (r_bin d_subI (r_callB d_lenX rfl T.b_len PySem.boot_len (a_cons (r_name (i := 3)) a_nil)) r_int)) a_nil)))) a_nil)))) (g_sub (hu1 hr.units) (r_name (i := 10)) r_int) (nx_sub _ _)))
  s_nil)
  (s_cons (s_set (i := 12) sc_law.nd (r_lst (a_cons (r_callZ tk Z__law_ask (hr.mono (by omega)) T.m__law_ask T.k__law_ask (a_cons (r_name (i := 7)) (a_cons (r_name (i := 10)) a_nil))) (a_cons (r_callZ tk Z__law_ask (hr.mono (by omega)) T.m__law_ask T.k__law_ask (a_cons (r_name (i := 8)) (a_cons (r_name (i := 10)) a_nil))) (a_cons (r_callZ tk Z__law_ask (hr.mono (by omega)) T.m__law_ask T.k__law_ask (a_cons (r_name (i := 7)) (a_cons (r_name (i := 10)) a_nil))) a_nil)))))
  (s_cons (s_set (i := 13) sc_law.nd (r_callZ tk Z__law_reads (hr.mono (by omega)) T.m__law_reads T.k__law_reads (a_cons (r_name (i := 4)) (a_cons (r_name (i := 10)) a_nil))))
  (s_one (s_if (b_not (b_val (r_callZ tk Z__law_same (hr.mono (by omega)) T.m__law_same T.k__law_same (a_cons (r_name (i := 12)) (a_cons (r_lst (a_cons (r_name (i := 13)) (a_cons (r_callZ tk Z__law_reads (hr.mono (by omega)) T.m__law_reads T.k__law_reads (a_cons (r_name (i := 5)) (a_cons (r_name (i := 10)) a_nil))) (a_cons (r_name (i := 13)) a_nil)))) a_nil)))))
  (s_one (s_ret r_bl))
  s_nil)))))))
  (s_cons (s_set (i := 12) sc_law.nd (r_lstH (a_cons (r_methZ0 tk (meth_cons T.m_Reader T.cl_Reader T.me_Reader_reads Z_Reader_reads (hr.mono (by omega)) meth_nil) (r_name (i := 7))) (a_cons (r_methZ tk (meth_cons T.m_Reader T.cl_Reader T.me_Reader_reads Z_Reader_reads (hr.mono (by omega)) meth_nil) (r_name (i := 7)) (a_cons r_str (a_cons r_str (a_cons r_str (a_cons r_str a_nil))))) a_nil))))
  (s_cons (s_if (b_cmp (d_ne hr.units) (r_callB d_lenX rfl T.b_len PySem.boot_len (a_cons (r_name (i := 3)) a_nil)) r_int)
  (s_one (s_expr (r_met d_append (fun _ _ _ _ _ => tyLst_is) PySem.F.plainAttrs_list PySem.F.slot_list_append PySem.F.type_list_append (r_name (i := 12)) (a_cons (r_methZ tk (meth_cons T.m_Reader T.cl_Reader T.me_Reader_reads Z_Reader_reads (hr.mono (by omega)) meth_nil) (r_name (i := 7)) (a_cons r_str a_nil)) a_nil))))
  s_nil)
  (s_cons (s_if (b_cmp (d_ne hr.units) (r_callB d_lenX rfl T.b_len PySem.boot_len (a_cons (r_name (i := 3)) a_nil)) r_int)
  (s_one (s_expr (r_met d_append (fun _ _ _ _ _ => tyLst_is) PySem.F.plainAttrs_list PySem.F.slot_list_append PySem.F.type_list_append (r_name (i := 12)) (a_cons (r_methZ tk (meth_cons T.m_Reader T.cl_Reader T.me_Reader_reads Z_Reader_reads (hr.mono (by omega)) meth_nil) (r_name (i := 7)) (a_cons r_str (a_cons r_str a_nil))) a_nil))))
  s_nil)
  (s_one (s_if (EW.eb (w_or (b_cmp (d_ne hr.units) (r_name (i := 12)) (r_bin d_mulX (r_lst (a_cons r_bl a_nil)) (r_callB d_lenX rfl T.b_len PySem.boot_len (a_cons (r_name (i := 12)) a_nil)))) (w_or1 (b_not (b_val (r_callZ tk Z__law_same (hr.mono (by omega)) T.m__law_same T.k__law_same (a_cons (r_callZ tk Z__law_ask (hr.mono (by omega)) T.m__law_ask T.k__law_ask (a_cons (r_name (i := 7)) (a_cons (r_bin d_mulX (r_lst (a_cons r_str a_nil)) (r_callB d_lenX rfl T.b_len PySem.boot_len (a_cons (r_name (i := 3)) a_nil))) a_nil))) (a_cons (r_ix (d_ixX hr.units) (r_ix (d_ixX hr.units) (r_name (i := 4)) r_int) r_int) a_nil))))))))
  (s_one (s_ret r_bl))
  s_nil))))))))))
  (s_one (s_ret r_bl))))
end
theorem all_mk {l : PySem.W.OpenLaw} {w : World} {K : PySem.W.Frag} {h : Heap} {mg : Str → Option Value} {fa a_is_alphabet a_is_list a_are_rolls a_is_whole a_is_within a_is_place a__law_ask a__law_bag a__law_pick a__law_of a__law_place a__law_letters a__law_reader a__law_reads a__law_same a__law_text_of a_law C_Reader a_Reader___init__ a_Reader_reads : Addr} (law_ok : ∀ ns : List Int, ns.length ≤ 63 → ∃ S, defS 14 m_law [.scr ns] [] = .ok (.bl true) S) (X : K.In h) (G : h.Ns mainGlobals mg) (hfa : mg "law" = some (.ref fa))
    {od_is_alphabet an_is_alphabet : Option Addr} {sl_is_alphabet : Array (Option Value)} {oc_is_alphabet kV_is_alphabet dc_is_alphabet pm_is_alphabet cd_is_alphabet ct_is_alphabet : Value}
    {od_is_list an_is_list : Option Addr} {sl_is_list : Array (Option Value)} {oc_is_list kV_is_list dc_is_list pm_is_list cd_is_list ct_is_list : Value}
    {od_are_rolls an_are_rolls : Option Addr} {sl_are_rolls : Array (Option Value)} {oc_are_rolls kV_are_rolls dc_are_rolls pm_are_rolls cd_are_rolls ct_are_rolls : Value}
    {od_is_whole an_is_whole : Option Addr} {sl_is_whole : Array (Option Value)} {oc_is_whole kV_is_whole dc_is_whole pm_is_whole cd_is_whole ct_is_whole : Value}
    {od_is_within an_is_within : Option Addr} {sl_is_within : Array (Option Value)} {oc_is_within kV_is_within dc_is_within pm_is_within cd_is_within ct_is_within : Value}
    {od_is_place an_is_place : Option Addr} {sl_is_place : Array (Option Value)} {oc_is_place kV_is_place dc_is_place pm_is_place cd_is_place ct_is_place : Value}
    {od_Reader___init__ an_Reader___init__ : Option Addr} {sl_Reader___init__ : Array (Option Value)} {oc_Reader___init__ kV_Reader___init__ dc_Reader___init__ pm_Reader___init__ cd_Reader___init__ ct_Reader___init__ : Value}
    {od_Reader_reads an_Reader_reads : Option Addr} {sl_Reader_reads : Array (Option Value)} {oc_Reader_reads kV_Reader_reads dc_Reader_reads pm_Reader_reads cd_Reader_reads ct_Reader_reads : Value}
    {od__law_ask an__law_ask : Option Addr} {sl__law_ask : Array (Option Value)} {oc__law_ask kV__law_ask dc__law_ask pm__law_ask cd__law_ask ct__law_ask : Value}
    {od__law_bag an__law_bag : Option Addr} {sl__law_bag : Array (Option Value)} {oc__law_bag kV__law_bag dc__law_bag pm__law_bag cd__law_bag ct__law_bag : Value}
    {od__law_pick an__law_pick : Option Addr} {sl__law_pick : Array (Option Value)} {oc__law_pick kV__law_pick dc__law_pick pm__law_pick cd__law_pick ct__law_pick : Value}
    {od__law_of an__law_of : Option Addr} {sl__law_of : Array (Option Value)} {oc__law_of kV__law_of dc__law_of pm__law_of cd__law_of ct__law_of : Value}
    {od__law_place an__law_place : Option Addr} {sl__law_place : Array (Option Value)} {oc__law_place kV__law_place dc__law_place pm__law_place cd__law_place ct__law_place : Value}
    {od__law_letters an__law_letters : Option Addr} {sl__law_letters : Array (Option Value)} {oc__law_letters kV__law_letters dc__law_letters pm__law_letters cd__law_letters ct__law_letters : Value}
    {od__law_reader an__law_reader : Option Addr} {sl__law_reader : Array (Option Value)} {oc__law_reader kV__law_reader dc__law_reader pm__law_reader cd__law_reader ct__law_reader : Value}
    {od__law_reads an__law_reads : Option Addr} {sl__law_reads : Array (Option Value)} {oc__law_reads kV__law_reads dc__law_reads pm__law_reads cd__law_reads ct__law_reads : Value}
    {od__law_same an__law_same : Option Addr} {sl__law_same : Array (Option Value)} {oc__law_same kV__law_same dc__law_same pm__law_same cd__law_same ct__law_same : Value}
    {od__law_text_of an__law_text_of : Option Addr} {sl__law_text_of : Array (Option Value)} {oc__law_text_of kV__law_text_of dc__law_text_of pm__law_text_of cd__law_text_of ct__law_text_of : Value}
    {od_law an_law : Option Addr} {sl_law : Array (Option Value)} {oc_law kV_law dc_law pm_law cd_law ct_law : Value}
    {t_LETTERS : Tok}
    {t_MOST_LETTERS : Tok}
    {t_MOST_ROLLS : Tok}
    (h_Reader : PySem.W.nsIn K mainGlobals "Reader" = some (some (.ref C_Reader)))
    (pg_Reader : PySem.W.plainGet K C_Reader Str.empty = true)
    (hd_Reader : PySem.W.hasDictIn K C_Reader = true)
    (po_Reader : PySem.W.plainOver K C_Reader = true)
    (sa_Reader : PySem.W.findIn K (.ref C_Reader) "__setattr__" = some (some (.builtin "object.__setattr__")))
    (mk_Reader : PySem.W.makesIn K C_Reader = true)
    (kc_Reader : PySem.W.keepIn K (.ref C_Reader) = true)
    (na_Reader_own_rolls : PySem.W.findIn K (.ref C_Reader) "own_rolls" = some none)
    (na_Reader_rows : PySem.W.findIn K (.ref C_Reader) "rows" = some none)
    (h_is_alphabet : PySem.W.nsIn K mainGlobals "is_alphabet" = some (some (.ref a_is_alphabet)))
    (l_is_alphabet : K.lookup a_is_alphabet = some ⟨oc_is_alphabet, od_is_alphabet, .func (PySem.W.fnOf "is_alphabet" "is_alphabet" (defArgs s_is_alphabet) (defBody s_is_alphabet) (defScope s_is_alphabet) .none kV_is_alphabet dc_is_alphabet pm_is_alphabet an_is_alphabet cd_is_alphabet ct_is_alphabet), sl_is_alphabet⟩)
    (c_is_alphabet : PySem.W.codeIn K cd_is_alphabet "is_alphabet" = true)
    (k_is_alphabet : PySem.W.keepIn K (.ref a_is_alphabet) = true)
    (h_is_list : PySem.W.nsIn K mainGlobals "is_list" = some (some (.ref a_is_list)))
    (l_is_list : K.lookup a_is_list = some ⟨oc_is_list, od_is_list, .func (PySem.W.fnOf "is_list" "is_list" (defArgs s_is_list) (defBody s_is_list) (defScope s_is_list) .none kV_is_list dc_is_list pm_is_list an_is_list cd_is_list ct_is_list), sl_is_list⟩)
    (c_is_list : PySem.W.codeIn K cd_is_list "is_list" = true)
    (k_is_list : PySem.W.keepIn K (.ref a_is_list) = true)
    (h_are_rolls : PySem.W.nsIn K mainGlobals "are_rolls" = some (some (.ref a_are_rolls)))
    (l_are_rolls : K.lookup a_are_rolls = some ⟨oc_are_rolls, od_are_rolls, .func (PySem.W.fnOf "are_rolls" "are_rolls" (defArgs s_are_rolls) (defBody s_are_rolls) (defScope s_are_rolls) .none kV_are_rolls dc_are_rolls pm_are_rolls an_are_rolls cd_are_rolls ct_are_rolls), sl_are_rolls⟩)
    (c_are_rolls : PySem.W.codeIn K cd_are_rolls "are_rolls" = true)
    (k_are_rolls : PySem.W.keepIn K (.ref a_are_rolls) = true)
    (h_is_whole : PySem.W.nsIn K mainGlobals "is_whole" = some (some (.ref a_is_whole)))
    (l_is_whole : K.lookup a_is_whole = some ⟨oc_is_whole, od_is_whole, .func (PySem.W.fnOf "is_whole" "is_whole" (defArgs s_is_whole) (defBody s_is_whole) (defScope s_is_whole) .none kV_is_whole dc_is_whole pm_is_whole an_is_whole cd_is_whole ct_is_whole), sl_is_whole⟩)
    (c_is_whole : PySem.W.codeIn K cd_is_whole "is_whole" = true)
    (k_is_whole : PySem.W.keepIn K (.ref a_is_whole) = true)
    (h_is_within : PySem.W.nsIn K mainGlobals "is_within" = some (some (.ref a_is_within)))
    (l_is_within : K.lookup a_is_within = some ⟨oc_is_within, od_is_within, .func (PySem.W.fnOf "is_within" "is_within" (defArgs s_is_within) (defBody s_is_within) (defScope s_is_within) .none kV_is_within dc_is_within pm_is_within an_is_within cd_is_within ct_is_within), sl_is_within⟩)
    (c_is_within : PySem.W.codeIn K cd_is_within "is_within" = true)
    (k_is_within : PySem.W.keepIn K (.ref a_is_within) = true)
    (h_is_place : PySem.W.nsIn K mainGlobals "is_place" = some (some (.ref a_is_place)))
    (l_is_place : K.lookup a_is_place = some ⟨oc_is_place, od_is_place, .func (PySem.W.fnOf "is_place" "is_place" (defArgs s_is_place) (defBody s_is_place) (defScope s_is_place) .none kV_is_place dc_is_place pm_is_place an_is_place cd_is_place ct_is_place), sl_is_place⟩)
    (c_is_place : PySem.W.codeIn K cd_is_place "is_place" = true)
    (k_is_place : PySem.W.keepIn K (.ref a_is_place) = true)
    (h_Reader___init__ : PySem.W.findIn K (.ref C_Reader) "__init__" = some (some (.ref a_Reader___init__)))
    (i_Reader___init__ : PySem.W.isFn K (.ref a_Reader___init__) = true)
    (l_Reader___init__ : K.lookup a_Reader___init__ = some ⟨oc_Reader___init__, od_Reader___init__, .func (PySem.W.fnOf "__init__" "Reader.__init__" (defArgs s_Reader___init__) (defBody s_Reader___init__) (defScope s_Reader___init__) .none kV_Reader___init__ dc_Reader___init__ pm_Reader___init__ an_Reader___init__ cd_Reader___init__ ct_Reader___init__), sl_Reader___init__⟩)
    (c_Reader___init__ : PySem.W.codeIn K cd_Reader___init__ "Reader.__init__" = true)
    (k_Reader___init__ : PySem.W.keepIn K (.ref a_Reader___init__) = true)
    (h_Reader_reads : PySem.W.findIn K (.ref C_Reader) "reads" = some (some (.ref a_Reader_reads)))
    (i_Reader_reads : PySem.W.isFn K (.ref a_Reader_reads) = true)
    (l_Reader_reads : K.lookup a_Reader_reads = some ⟨oc_Reader_reads, od_Reader_reads, .func (PySem.W.fnOf "reads" "Reader.reads" (defArgs s_Reader_reads) (defBody s_Reader_reads) (defScope s_Reader_reads) .none kV_Reader_reads dc_Reader_reads pm_Reader_reads an_Reader_reads cd_Reader_reads ct_Reader_reads), sl_Reader_reads⟩)
    (c_Reader_reads : PySem.W.codeIn K cd_Reader_reads "Reader.reads" = true)
    (k_Reader_reads : PySem.W.keepIn K (.ref a_Reader_reads) = true)
    (h__law_ask : PySem.W.nsIn K mainGlobals "_law_ask" = some (some (.ref a__law_ask)))
    (l__law_ask : K.lookup a__law_ask = some ⟨oc__law_ask, od__law_ask, .func (PySem.W.fnOf "_law_ask" "_law_ask" (defArgs s__law_ask) (defBody s__law_ask) (defScope s__law_ask) .none kV__law_ask dc__law_ask pm__law_ask an__law_ask cd__law_ask ct__law_ask), sl__law_ask⟩)
    (c__law_ask : PySem.W.codeIn K cd__law_ask "_law_ask" = true)
    (k__law_ask : PySem.W.keepIn K (.ref a__law_ask) = true)
    (h__law_bag : PySem.W.nsIn K mainGlobals "_law_bag" = some (some (.ref a__law_bag)))
    (l__law_bag : K.lookup a__law_bag = some ⟨oc__law_bag, od__law_bag, .func (PySem.W.fnOf "_law_bag" "_law_bag" (defArgs s__law_bag) (defBody s__law_bag) (defScope s__law_bag) .none kV__law_bag dc__law_bag pm__law_bag an__law_bag cd__law_bag ct__law_bag), sl__law_bag⟩)
    (c__law_bag : PySem.W.codeIn K cd__law_bag "_law_bag" = true)
    (k__law_bag : PySem.W.keepIn K (.ref a__law_bag) = true)
    (h__law_pick : PySem.W.nsIn K mainGlobals "_law_pick" = some (some (.ref a__law_pick)))
    (l__law_pick : K.lookup a__law_pick = some ⟨oc__law_pick, od__law_pick, .func (PySem.W.fnOf "_law_pick" "_law_pick" (defArgs s__law_pick) (defBody s__law_pick) (defScope s__law_pick) .none kV__law_pick dc__law_pick pm__law_pick an__law_pick cd__law_pick ct__law_pick), sl__law_pick⟩)
    (c__law_pick : PySem.W.codeIn K cd__law_pick "_law_pick" = true)
    (k__law_pick : PySem.W.keepIn K (.ref a__law_pick) = true)
    (h__law_of : PySem.W.nsIn K mainGlobals "_law_of" = some (some (.ref a__law_of)))
    (l__law_of : K.lookup a__law_of = some ⟨oc__law_of, od__law_of, .func (PySem.W.fnOf "_law_of" "_law_of" (defArgs s__law_of) (defBody s__law_of) (defScope s__law_of) .none kV__law_of dc__law_of pm__law_of an__law_of cd__law_of ct__law_of), sl__law_of⟩)
    (c__law_of : PySem.W.codeIn K cd__law_of "_law_of" = true)
    (k__law_of : PySem.W.keepIn K (.ref a__law_of) = true)
    (h__law_place : PySem.W.nsIn K mainGlobals "_law_place" = some (some (.ref a__law_place)))
    (l__law_place : K.lookup a__law_place = some ⟨oc__law_place, od__law_place, .func (PySem.W.fnOf "_law_place" "_law_place" (defArgs s__law_place) (defBody s__law_place) (defScope s__law_place) .none kV__law_place dc__law_place pm__law_place an__law_place cd__law_place ct__law_place), sl__law_place⟩)
    (c__law_place : PySem.W.codeIn K cd__law_place "_law_place" = true)
    (k__law_place : PySem.W.keepIn K (.ref a__law_place) = true)
    (h__law_letters : PySem.W.nsIn K mainGlobals "_law_letters" = some (some (.ref a__law_letters)))
    (l__law_letters : K.lookup a__law_letters = some ⟨oc__law_letters, od__law_letters, .func (PySem.W.fnOf "_law_letters" "_law_letters" (defArgs s__law_letters) (defBody s__law_letters) (defScope s__law_letters) .none kV__law_letters dc__law_letters pm__law_letters an__law_letters cd__law_letters ct__law_letters), sl__law_letters⟩)
    (c__law_letters : PySem.W.codeIn K cd__law_letters "_law_letters" = true)
    (k__law_letters : PySem.W.keepIn K (.ref a__law_letters) = true)
    (h__law_reader : PySem.W.nsIn K mainGlobals "_law_reader" = some (some (.ref a__law_reader)))
    (l__law_reader : K.lookup a__law_reader = some ⟨oc__law_reader, od__law_reader, .func (PySem.W.fnOf "_law_reader" "_law_reader" (defArgs s__law_reader) (defBody s__law_reader) (defScope s__law_reader) .none kV__law_reader dc__law_reader pm__law_reader an__law_reader cd__law_reader ct__law_reader), sl__law_reader⟩)
    (c__law_reader : PySem.W.codeIn K cd__law_reader "_law_reader" = true)
    (k__law_reader : PySem.W.keepIn K (.ref a__law_reader) = true)
    (h__law_reads : PySem.W.nsIn K mainGlobals "_law_reads" = some (some (.ref a__law_reads)))
    (l__law_reads : K.lookup a__law_reads = some ⟨oc__law_reads, od__law_reads, .func (PySem.W.fnOf "_law_reads" "_law_reads" (defArgs s__law_reads) (defBody s__law_reads) (defScope s__law_reads) .none kV__law_reads dc__law_reads pm__law_reads an__law_reads cd__law_reads ct__law_reads), sl__law_reads⟩)
    (c__law_reads : PySem.W.codeIn K cd__law_reads "_law_reads" = true)
    (k__law_reads : PySem.W.keepIn K (.ref a__law_reads) = true)
    (h__law_same : PySem.W.nsIn K mainGlobals "_law_same" = some (some (.ref a__law_same)))
    (l__law_same : K.lookup a__law_same = some ⟨oc__law_same, od__law_same, .func (PySem.W.fnOf "_law_same" "_law_same" (defArgs s__law_same) (defBody s__law_same) (defScope s__law_same) .none kV__law_same dc__law_same pm__law_same an__law_same cd__law_same ct__law_same), sl__law_same⟩)
    (c__law_same : PySem.W.codeIn K cd__law_same "_law_same" = true)
    (k__law_same : PySem.W.keepIn K (.ref a__law_same) = true)
    (h__law_text_of : PySem.W.nsIn K mainGlobals "_law_text_of" = some (some (.ref a__law_text_of)))
    (l__law_text_of : K.lookup a__law_text_of = some ⟨oc__law_text_of, od__law_text_of, .func (PySem.W.fnOf "_law_text_of" "_law_text_of" (defArgs s__law_text_of) (defBody s__law_text_of) (defScope s__law_text_of) .none kV__law_text_of dc__law_text_of pm__law_text_of an__law_text_of cd__law_text_of ct__law_text_of), sl__law_text_of⟩)
    (c__law_text_of : PySem.W.codeIn K cd__law_text_of "_law_text_of" = true)
    (k__law_text_of : PySem.W.keepIn K (.ref a__law_text_of) = true)
    (h_law : PySem.W.nsIn K mainGlobals "law" = some (some (.ref a_law)))
    (l_law : K.lookup a_law = some ⟨oc_law, od_law, .func (PySem.W.fnOf "law" "law" (defArgs s_law) (defBody s_law) (defScope s_law) .none kV_law dc_law pm_law an_law cd_law ct_law), sl_law⟩)
    (c_law : PySem.W.codeIn K cd_law "law" = true)
    (k_law : PySem.W.keepIn K (.ref a_law) = true)
    (h_LETTERS : PySem.W.nsIn K mainGlobals "LETTERS" = some (some (.str "abcdefghijklmnopqrstuvwxyz" t_LETTERS)))
    (h_MOST_LETTERS : PySem.W.nsIn K mainGlobals "MOST_LETTERS" = some (some (.int 5 t_MOST_LETTERS)))
    (h_MOST_ROLLS : PySem.W.nsIn K mainGlobals "MOST_ROLLS" = some (some (.int 3 t_MOST_ROLLS)))
    (b_all : PySem.W.nsIn K mainGlobals "all" = some none)
    (b_bool : PySem.W.nsIn K mainGlobals "bool" = some none)
    (b_dict : PySem.W.nsIn K mainGlobals "dict" = some none)
    (b_enumerate : PySem.W.nsIn K mainGlobals "enumerate" = some none)
    (b_int : PySem.W.nsIn K mainGlobals "int" = some none)
    (b_isinstance : PySem.W.nsIn K mainGlobals "isinstance" = some none)
    (b_len : PySem.W.nsIn K mainGlobals "len" = some none)
    (b_list : PySem.W.nsIn K mainGlobals "list" = some none)
    (b_range : PySem.W.nsIn K mainGlobals "range" = some none)
    (b_sorted : PySem.W.nsIn K mainGlobals "sorted" = some none)
    (b_str : PySem.W.nsIn K mainGlobals "str" = some none)
    (b_tuple : PySem.W.nsIn K mainGlobals "tuple" = some none)
    (b_zip : PySem.W.nsIn K mainGlobals "zip" = some none)
    : ∃ fd : FuncData, (∀ (s : Shared) (v : Value), BindsTo s fd ⟨[v], []⟩ [("_law_script", v)]) ∧ ∀ base : Heap, K.In base → base.Ns mainGlobals mg → FnOk l.prog w K mg base (L2.CX l.prog w) 14 fa fd ["_law_script"] (spLaw K) := by
  have e := hfa.symm.trans (PySem.W.mg_of X G h_law)
  have e2 : a_law = fa := by injection e with e; injection e with e; exact e.symm
  subst e2
  have T : Tx K mg a_is_alphabet a_is_list a_are_rolls a_is_whole a_is_within a_is_place a__law_ask a__law_bag a__law_pick a__law_of a__law_place a__law_letters a__law_reader a__law_reads a__law_same a__law_text_of a_law C_Reader a_Reader___init__ a_Reader_reads := { m_is_alphabet := PySem.W.mg_of X G h_is_alphabet, k_is_alphabet := k_is_alphabet, m_is_list := PySem.W.mg_of X G h_is_list, k_is_list := k_is_list, m_are_rolls := PySem.W.mg_of X G h_are_rolls, k_are_rolls := k_are_rolls, m_is_whole := PySem.W.mg_of X G h_is_whole, k_is_whole := k_is_whole, m_is_within := PySem.W.mg_of X G h_is_within, k_is_within := k_is_within, m_is_place := PySem.W.mg_of X G h_is_place, k_is_place := k_is_place, m__law_ask := PySem.W.mg_of X G h__law_ask, k__law_ask := k__law_ask, m__law_bag := PySem.W.mg_of X G h__law_bag, k__law_bag := k__law_bag, m__law_pick := PySem.W.mg_of X G h__law_pick, k__law_pick := k__law_pick, m__law_of := PySem.W.mg_of X G h__law_of, k__law_of := k__law_of, m__law_place := PySem.W.mg_of X G h__law_place, k__law_place := k__law_place, m__law_letters := PySem.W.mg_of X G h__law_letters, k__law_letters := k__law_letters, m__law_reader := PySem.W.mg_of X G h__law_reader, k__law_reader := k__law_reader, m__law_reads := PySem.W.mg_of X G h__law_reads, k__law_reads := k__law_reads, m__law_same := PySem.W.mg_of X G h__law_same, k__law_same := k__law_same, m__law_text_of := PySem.W.mg_of X G h__law_text_of, k__law_text_of := k__law_text_of, m_law := PySem.W.mg_of X G h_law, k_law := k_law, m_Reader := PySem.W.mg_of X G h_Reader, cl_Reader := ⟨pg_Reader, hd_Reader, po_Reader, sa_Reader⟩, mk_Reader := ⟨mk_Reader, h_Reader___init__, i_Reader___init__, kc_Reader⟩, na_Reader_own_rolls := na_Reader_own_rolls, na_Reader_rows := na_Reader_rows, me_Reader_reads := ⟨h_Reader_reads, i_Reader_reads, k_Reader_reads⟩, c_LETTERS := ⟨_, PySem.W.mg_of X G h_LETTERS⟩, c_MOST_LETTERS := ⟨_, PySem.W.mg_of X G h_MOST_LETTERS⟩, c_MOST_ROLLS := ⟨_, PySem.W.mg_of X G h_MOST_ROLLS⟩, b_all := PySem.W.mg_none_of X G b_all, b_bool := PySem.W.mg_none_of X G b_bool, b_dict := PySem.W.mg_none_of X G b_dict, b_enumerate := PySem.W.mg_none_of X G b_enumerate, b_int := PySem.W.mg_none_of X G b_int, b_isinstance := PySem.W.mg_none_of X G b_isinstance, b_len := PySem.W.mg_none_of X G b_len, b_list := PySem.W.mg_none_of X G b_list, b_range := PySem.W.mg_none_of X G b_range, b_sorted := PySem.W.mg_none_of X G b_sorted, b_str := PySem.W.mg_none_of X G b_str, b_tuple := PySem.W.mg_none_of X G b_tuple, b_zip := PySem.W.mg_none_of X G b_zip }
  have F_is_alphabet := fun_mk (st := s_is_alphabet) l_is_alphabet c_is_alphabet k_is_alphabet
  have F_is_list := fun_mk (st := s_is_list) l_is_list c_is_list k_is_list
  have F_are_rolls := fun_mk (st := s_are_rolls) l_are_rolls c_are_rolls k_are_rolls
  have F_is_whole := fun_mk (st := s_is_whole) l_is_whole c_is_whole k_is_whole
  have F_is_within := fun_mk (st := s_is_within) l_is_within c_is_within k_is_within
  have F_is_place := fun_mk (st := s_is_place) l_is_place c_is_place k_is_place
  have F_Reader___init__ := fun_mk (st := s_Reader___init__) l_Reader___init__ c_Reader___init__ k_Reader___init__
  have F_Reader_reads := fun_mk (st := s_Reader_reads) l_Reader_reads c_Reader_reads k_Reader_reads
  have F__law_ask := fun_mk (st := s__law_ask) l__law_ask c__law_ask k__law_ask
  have F__law_bag := fun_mk (st := s__law_bag) l__law_bag c__law_bag k__law_bag
  have F__law_pick := fun_mk (st := s__law_pick) l__law_pick c__law_pick k__law_pick
  have F__law_of := fun_mk (st := s__law_of) l__law_of c__law_of k__law_of
  have F__law_place := fun_mk (st := s__law_place) l__law_place c__law_place k__law_place
  have F__law_letters := fun_mk (st := s__law_letters) l__law_letters c__law_letters k__law_letters
  have F__law_reader := fun_mk (st := s__law_reader) l__law_reader c__law_reader k__law_reader
  have F__law_reads := fun_mk (st := s__law_reads) l__law_reads c__law_reads k__law_reads
  have F__law_same := fun_mk (st := s__law_same) l__law_same c__law_same k__law_same
  have F__law_text_of := fun_mk (st := s__law_text_of) l__law_text_of c__law_text_of k__law_text_of
  have F_law := fun_mk (st := s_law) l_law c_law k_law
  refine ⟨PySem.W.fnOf "law" "law" (defArgs s_law) (defBody s_law) (defScope s_law) .none kV_law dc_law pm_law an_law cd_law ct_law, fun s v => .of_eq rfl, fun base _ _ => ?_⟩
  have Z_is_alphabet := d_is_alphabet (P := l.prog) (w := w) (base := base) T F_is_alphabet 
  have Z_is_list := d_is_list (P := l.prog) (w := w) (base := base) T F_is_list 
  have Z_are_rolls := d_are_rolls (P := l.prog) (w := w) (base := base) T F_are_rolls Z_is_alphabet Z_is_list
  have Z_is_whole := d_is_whole (P := l.prog) (w := w) (base := base) T F_is_whole 
  have Z_is_within := d_is_within (P := l.prog) (w := w) (base := base) T F_is_within Z_is_whole
  have Z_is_place := d_is_place (P := l.prog) (w := w) (base := base) T F_is_place Z_is_within
  have Z_Reader___init__ := d_Reader___init__ (P := l.prog) (w := w) (base := base) T F_Reader___init__ Z_are_rolls Z_is_list Z_is_place
  have Z_Reader_reads := d_Reader_reads (P := l.prog) (w := w) (base := base) T F_Reader_reads 
  have Z__law_ask := d__law_ask (P := l.prog) (w := w) (base := base) T F__law_ask Z_Reader_reads
  have Z__law_bag := d__law_bag (P := l.prog) (w := w) (base := base) T F__law_bag 
  have Z__law_pick := d__law_pick (P := l.prog) (w := w) (base := base) T F__law_pick 
  have Z__law_of := d__law_of (P := l.prog) (w := w) (base := base) T F__law_of Z__law_pick
  have Z__law_place := d__law_place (P := l.prog) (w := w) (base := base) T F__law_place Z__law_pick
  have Z__law_letters := d__law_letters (P := l.prog) (w := w) (base := base) T F__law_letters Z__law_of
  have Z__law_reader := d__law_reader (P := l.prog) (w := w) (base := base) T F__law_reader Z__law_letters Z__law_of Z__law_pick Z__law_place
  have Z__law_reads := d__law_reads (P := l.prog) (w := w) (base := base) T F__law_reads 
  have Z__law_same := d__law_same (P := l.prog) (w := w) (base := base) T F__law_same  12
  have Z__law_text_of := d__law_text_of (P := l.prog) (w := w) (base := base) T F__law_text_of Z__law_of Z__law_pick
  exact law_fn (d_law T F_law Z_Reader___init__ Z_Reader_reads Z__law_ask Z__law_bag Z__law_of Z__law_pick Z__law_place Z__law_reader Z__law_reads Z__law_same Z__law_text_of) law_ok
end K51
namespace K51
open PySem L2 Z

theorem ltX_sg {a b : Nat} {S : Store} : ltX (sg a) (sg b) S = .ok (.bl (decide (a < b))) S := by
  unfold ltX
  rw [orS2_r (by rfl)]
  simp [ltS, List.cons_lt_cons_iff]
theorem zip_adj {R : Nat → Nat → Prop} : ∀ {l : List Nat}, l.Pairwise R → ∀ x ∈ zipD (l.map sg) ((l.drop 1).map sg), ∃ a b, x = .tup [sg a, sg b] ∧ R a b
  | [], _, x, hx => by simp [zipD] at hx
  | [a], _, x, hx => by simp [zipD] at hx
  | a :: b :: l, h, x, hx => by
    have e : zipD ((a :: b :: l).map sg) (((a :: b :: l).drop 1).map sg) = .tup [sg a, sg b] :: zipD ((b :: l).map sg) (((b :: l).drop 1).map sg) := rfl
    rw [e] at hx
    rcases List.mem_cons.mp hx with rfl | hx
    · exact ⟨a, b, rfl, (List.pairwise_cons.mp h).1 b (by simp)⟩
    · exact zip_adj (List.pairwise_cons.mp h).2 x hx
theorem alphabet_eq {l : List Nat} (h : Alpha l) (h1 : 1 ≤ l.length) (h5 : l.length ≤ 5) (S : Store) : f_is_alphabet [.str (tx l)] S = .ok (.bl true) S := by
  refine eq_of_we ?_
  unfold f_is_alphabet
  refine we_def rfl ?_
  have i1 : 1 ≤ (l.length : Int) := by omega
  have i2 : (l.length : Int) ≤ 5 := by omega
  have i3 : l.length ≤ 1000000 := by omega
  have i4 : ¬ 5 < (l.length : Int) := by omega
  simp [m_is_alphabet, i1, i2, i3, i4]
  refine we_lcF_pure (xs := l.map sg) (fun _ => true) (fun _ => .bl true) (itAny_of rfl (by simp)) (by simp; omega) (fun _ => by simp) (fun x hx T => ?_) (fun x hx _ => by simp) ?_
  · obtain ⟨c, hc, rfl⟩ := List.mem_map.mp hx
    simp [wipeS, bTrue]
    exact h.low c hc
  · simp [all_const]
    have hit : ∀ sl, sl[0]? = some (some (D.str (tx l))) → itZip (aCons (eName 0) (aCons (eSl false (eName 0) (oInt (eLit (.int 1))) oNone) aNil)) sl S = .ok (zipD (l.map sg) ((l.drop 1).map sg), fun S2 => srcD S2 (.str (tx l)) = some (l.map sg) ∧ srcD S2 (.str (tx (l.drop 1))) = some ((l.drop 1).map sg)) S := fun sl hsl =>
      itZip_of (eName_of hsl) (by simp [eSl, eName_of hsl, oInt, oNone, eLit, semSl, i3]) (by simp) (by simp)
    refine we_lcF_pure (fun _ => true) (fun _ => .bl true) (hit _ rfl) (by simp [zipD]; omega) (fun _ => by simp) (fun x hx T => ?_) (fun x hx _ => by simp) ?_
    · obtain ⟨a, b, rfl, hab⟩ := zip_adj h.asc x hx
      simp [wipeS, bTrue, ltX_sg]
      exact hab
    · simp [all_const]
theorem list_lst (xs : List D) (S : Store) : f_is_list [.lst xs] S = .ok (.bl true) S := by
  refine eq_of_we ?_
  unfold f_is_list
  refine we_def rfl ?_
  simp [m_is_list]
theorem list_tup (xs : List D) (S : Store) : f_is_list [.tup xs] S = .ok (.bl true) S := by
  refine eq_of_we ?_
  unfold f_is_list
  refine we_def rfl ?_
  simp [m_is_list]
/-- a list or a tuple -/
def IsSq (d : D) (xs : List D) : Prop := d = .lst xs ∨ d = .tup xs
theorem list_sq {d : D} {xs : List D} (h : IsSq d xs) (S : Store) : f_is_list [d] S = .ok (.bl true) S := by
  rcases h with rfl | rfl
  · exact list_lst _ _
  · exact list_tup _ _
theorem len_sq {d : D} {xs : List D} (h : IsSq d xs) (S : Store) : lenX [d] S = .ok (.int xs.length) S := by
  rcases h with rfl | rfl <;> simp
theorem asS_sq {d : D} {xs : List D} (h : IsSq d xs) (S : Store) : asS S d = some xs := by
  rcases h with rfl | rfl <;> simp
theorem srcD_sq {d : D} {xs : List D} (h : IsSq d xs) (S : Store) : srcD S d = some xs := by
  rcases h with rfl | rfl <;> simp
theorem ix_sq {d : D} {xs : List D} (h : IsSq d xs) (S : Store) (i : Int) {P X : D → Store → Prop} : We (ixX d (.int i) S) P X = ∃ x, atI xs i = some x ∧ P x S := by
  rcases h with rfl | rfl <;> simp
theorem tupOf_sq {d : D} {xs : List D} (h : IsSq d xs) (S : Store) : semTupOf [d] S = .ok (.tup xs) S := by
  rcases h with rfl | rfl <;> simp
abbrev strD (l : List Nat) : D := .str (tx l)
structure Rolls (R : List (List Nat)) : Prop where
  n1 : 1 ≤ R.length
  n3 : R.length ≤ 3
  al : ∀ r ∈ R, Alpha r ∧ 1 ≤ r.length
  nd : R.flatten.Nodup
  len : R.flatten.length ≤ 5
theorem len_flat {R : List (List Nat)} {r : List Nat} (h : r ∈ R) : r.length ≤ R.flatten.length := by
  induction R with
  | nil => cases h
  | cons a R ih =>
    rw [List.flatten_cons, List.length_append]
    rcases List.mem_cons.mp h with rfl | h
    · omega
    · have := ih h; omega
theorem rolls_eq {R : List (List Nat)} (h : Rolls R) {d : D} (hd : IsSq d (R.map strD)) (S : Store) : f_are_rolls [d] S = .ok (.bl true) S := by
  refine eq_of_we ?_
  unfold f_are_rolls
  refine we_def rfl ?_
  have i1 : 1 ≤ (R.length : Int) := by have := h.n1; omega
  have i2 : (R.length : Int) ≤ 3 := by have := h.n3; omega
  have i3 : ¬ 3 < (R.length : Int) := by omega
  have i4 := h.len
  simp [m_are_rolls, list_sq hd, len_sq hd, i1, i2, i3]
  refine we_lcF_pure (xs := R.map strD) (fun _ => true) (fun _ => .bl true) (itAny_of (eName_of rfl) (srcD_sq hd S)) (by simp; omega) (fun _ => srcD_sq hd _) (fun x hx T => ?_) (fun x hx _ => by simp) ?_
  · obtain ⟨r, hr, rfl⟩ := List.mem_map.mp hx
    have := len_flat hr
    simp [wipeS, bTrue]
    rw [alphabet_eq (h.al r hr).1 (h.al r hr).2 (by omega)]
    simp
  · simp [all_const, tyStr]
    rw [w_join (xs := R) (asS_sq hd S)]
    have hs : (R.map List.length).sum = R.flatten.length := by rw [List.length_flatten]
    refine ⟨by omega, ?_⟩
    refine w_sortedF_str (by omega) ?_
    rw [w_joinSg (l := R.flatten.mergeSort fun a b => decide (a ≤ b)) rfl]
    refine ⟨by rw [List.length_mergeSort]; omega, ?_⟩
    have hl : 1 ≤ R.flatten.length := by
      match R, h.n1, h.al with
      | r :: R, _, al =>
        have := (al r (by simp)).2
        simp
        omega
    rw [alphabet_eq ⟨sort_asc h.nd, fun c hc => ?_⟩ (by simpa using hl) (by simpa using h.len)]
    · simp
    · rw [List.mem_mergeSort, List.mem_flatten] at hc
      obtain ⟨r, hr, hc⟩ := hc
      exact (h.al r hr).1.low c hc
@[simp] theorem whole_int (i : Int) (S : Store) : f_is_whole [.int i] S = .ok (.bl true) S := by
  refine eq_of_we ?_
  unfold f_is_whole
  refine we_def rfl ?_
  simp [m_is_whole]
@[simp] theorem within_int (i a b : Int) (S : Store) : f_is_within [.int i, .int a, .int b] S = .ok (.bl (decide (a ≤ i ∧ i ≤ b))) S := by
  refine eq_of_we ?_
  unfold f_is_within
  refine we_def rfl ?_
  simp [m_is_within]
  by_cases h : a ≤ i <;> simp [h]

structure Row where
  roll : Nat
  ks : List Nat
  vs : List Nat
  acc : Bool
abbrev inD' (v : Nat) : D := .int v
def rowD (r : Row) : D := .tup [.int r.roll, .dct (r.ks.map sg) (r.vs.map inD'), .bl r.acc]
structure OkRow (R : List (List Nat)) (m : Nat) (r : Row) : Prop where
  rl : r.roll < R.length
  len : r.ks.length = r.vs.length
  nd : r.ks.Nodup
  sub : ∀ c ∈ r.ks, c ∈ R[r.roll]?.getD []
  val : ∀ v ∈ r.vs, v < m
  kl : r.ks.length ≤ 1000
def look : List Nat → List Nat → Nat → Option Nat
  | k :: ks, v :: vs, c => if k = c then some v else look ks vs c
  | _, _, _ => none
theorem getK_sg {c : Nat} : ∀ {ks vs : List Nat}, getK (ks.map sg) (vs.map inD') (.inr (tx [c])) = (look ks vs c).map inD'
  | [], vs => by cases vs <;> rfl
  | k :: ks, [] => rfl
  | k :: ks, v :: vs => by
    rw [List.map_cons, List.map_cons, getK, look, getK_sg (ks := ks) (vs := vs)]
    have : (keyD (sg k) = some (.inr (tx [c]))) ↔ k = c := by simp
    by_cases h : k = c
    · rw [if_pos (this.mpr h), if_pos h]; rfl
    · rw [if_neg (fun q => h (this.mp q)), if_neg h]
theorem hasK_sg {c : Nat} {ks : List Nat} : hasK (ks.map sg) (.inr (tx [c])) = decide (c ∈ ks) := by
  unfold hasK
  induction ks with
  | nil => rfl
  | cons k ks ih =>
    rw [List.map_cons, List.any_cons, ih]
    by_cases h : k = c
    · subst h; simp
    · simp [h, Ne.symm h]
theorem hasK_nil {ks : List Nat} : hasK (ks.map sg) (.inr (tx [])) = false := by
  unfold hasK
  induction ks with
  | nil => rfl
  | cons k ks ih =>
    rw [List.map_cons, List.any_cons, ih]
    simp
theorem look_some {c : Nat} : ∀ {ks vs : List Nat}, ks.length = vs.length → c ∈ ks → ∃ v ∈ vs, look ks vs c = some v
  | k :: ks, v :: vs, hl, h => by
    by_cases q : k = c
    · exact ⟨v, by simp, by rw [look, if_pos q]⟩
    · rcases List.mem_cons.mp h with h | h
      · exact absurd h.symm q
      · obtain ⟨v', h1, h2⟩ := look_some (by simpa using hl) h
        exact ⟨v', by simp [h1], by rw [look, if_neg q]; exact h2⟩
theorem look_mem {c v : Nat} : ∀ {ks vs : List Nat}, look ks vs c = some v → c ∈ ks ∧ v ∈ vs
  | [], vs, h => by cases vs <;> cases h
  | k :: ks, [], h => by cases h
  | k :: ks, w :: vs, h => by
    rw [look] at h
    by_cases q : k = c
    · rw [if_pos q] at h; cases h; simp [q]
    · rw [if_neg q] at h
      have := look_mem h
      simp [this]
theorem place_eq {R : List (List Nat)} {m : Nat} {r : Row} (h : OkRow R m r) {d : D} (hd : IsSq d (R.map strD)) (hR : ∀ a ∈ R, a.length ≤ 5) (S : Store) : f_is_place [rowD r, d, .int m] S = .ok (.bl true) S := by
  refine eq_of_we ?_
  unfold f_is_place
  refine we_def rfl ?_
  have i1 : (r.roll : Int) ≤ (R.length : Int) - 1 := by have := h.rl; omega
  have i0 : ¬ (R.length : Int) - 1 < (r.roll : Int) := by omega
  have hr := h.rl
  simp [m_is_place, rowD, len_sq hd, i1, i0]
  refine we_lcF_pure (xs := r.ks.map sg) (fun _ => true) (fun _ => .bl true) (itAny_dct (ks := r.ks.map sg) (vs := r.vs.map inD') (eq_of_we (by simp))) (by have := h.kl; simp; omega) (fun _ => trivial) (fun x hx T => ?_) (fun x hx _ => by simp) ?_
  · obtain ⟨c, hc, rfl⟩ := List.mem_map.mp hx
    obtain ⟨v, hv, e⟩ := look_some h.len hc
    have hs := h.sub c hc
    have hv' := h.val v hv
    rw [List.getElem?_eq_getElem hr] at hs
    have hl := hR _ (List.getElem_mem hr)
    have hl' : (R[r.roll]).length ≤ 1000000 := by omega
    have i2 : (v : Int) ≤ (m : Int) - 1 := by omega
    simp [wipeS, bTrue, ix_sq hd, hr, getK_sg, e, i2]
    simpa using hs
  · simp [all_const]

theorem enumD_mem {p : D} : ∀ {xs : List D} {i : Nat}, p ∈ enumD i xs → ∃ (j : Nat) (x : D), p = .tup [.int j, x] ∧ x ∈ xs
  | [], i, h => by cases h
  | x :: xs, i, h => by
    rw [enumD] at h
    rcases List.mem_cons.mp h with rfl | h
    · exact ⟨i, x, rfl, by simp⟩
    · obtain ⟨j, y, e, hy⟩ := enumD_mem h
      exact ⟨j, y, e, by simp [hy]⟩
theorem enumD_len : ∀ {xs : List D} {i : Nat}, (enumD i xs).length = xs.length
  | [], i => rfl
  | x :: xs, i => by rw [enumD, List.length_cons, List.length_cons, enumD_len]
theorem dict_dct {ks vs : List D} {S : Store} : dictX [.dct ks vs] S = .ok (.ptr S.length) (S ++ [.dct false ks vs]) := by
  unfold dictX
  exact orSL_l (by simp [semDictD, asD])
theorem frz_dct {S1 : Store} {ks vs : List D} (h : underL S1.length ks = true) (h2 : underL S1.length vs = true) : frzD (frzP (S1 ++ [.dct false ks vs]) S1.length 6) (.ptr S1.length) = some (.dct ks vs) := by
  rw [frzD, frzP, if_neg (Nat.lt_irrefl _)]
  rw [List.getElem?_append_right (Nat.le_refl _)]
  simp only [Nat.sub_self, List.getElem?_cons_zero]
  rw [frzL_of h, frzL_of h2]
theorem finP_dct {S S1 : Store} {P : D → Store → Prop} {ks vs : List D} (h : Keep S S1) (hu : underL S.length ks = true) (hv : underL S.length vs = true) (p : P (.dct ks vs) S1) : FinP S P (.ptr S1.length) (S1 ++ [.dct false ks vs]) := by
  refine finP_keep h ?_ p
  rw [← h.len] at hu hv ⊢
  exact frz_dct hu hv
theorem w_dictF {S : Store} {P X : D → Store → Prop} {ks vs : List D} (hu : underL S.length ks = true) (hv : underL S.length vs = true) (p : P (.dct ks vs) S) : We (dictX [.dct ks vs] S) (FinP S P) X :=
  we_eq dict_dct (finP_dct (Keep.refl S) hu hv p)
theorem frz_ins {S1 : Store} {c : Str} {ns : List Str} {vs : List D} (h : underL S1.length vs = true) : frzD (frzP (S1 ++ [.ins c ns vs]) S1.length 6) (.ptr S1.length) = some (.ins c ns vs) := by
  rw [frzD, frzP, if_neg (Nat.lt_irrefl _)]
  rw [List.getElem?_append_right (Nat.le_refl _)]
  simp only [Nat.sub_self, List.getElem?_cons_zero]
  rw [frzL_of h]
  rfl
theorem finP_ins {S S1 : Store} {P : D → Store → Prop} {c : Str} {ns : List Str} {vs : List D} (h : Keep S S1) (hu : underL S.length vs = true) (p : P (.ins c ns vs) S1) : FinP S P (.ptr S1.length) (S1 ++ [.ins c ns vs]) := by
  refine finP_keep h ?_ p
  rw [← h.len] at hu ⊢
  exact frz_ins hu
theorem setF_at {cs : List Str} {f c : Str} {n : Nat} {v : D} {S : Store} {ns : List Str} {vs : List D} (h : S[n]? = some (.ins c ns vs)) (hc : c ∈ cs) (hn : ns.length < 1000) : setF cs f (.ptr n) v S = some (S.set n (.ins c (putN f v ns vs).1 (putN f v ns vs).2)) := by
  simp only [setF, h]
  rw [if_pos ⟨hc, hn⟩]
@[simp] theorem under_rowD {k : Nat} {r : Row} : under k (rowD r) = true := by
  simp [rowD, underL_iff]
@[simp] theorem underL_rows {k : Nat} {rows : List Row} : underL k (rows.map rowD) = true := by
  rw [underL_iff]
  intro d hd
  obtain ⟨r, _, rfl⟩ := List.mem_map.mp hd
  simp
@[simp] theorem underL_strs {k : Nat} {R : List (List Nat)} : underL k (R.map strD) = true := by
  rw [underL_iff]
  intro d hd
  obtain ⟨r, _, rfl⟩ := List.mem_map.mp hd
  simp
@[simp] theorem underL_ints {k : Nat} {vs : List Nat} : underL k (vs.map inD') = true := by
  rw [underL_iff]
  intro d hd
  obtain ⟨r, _, rfl⟩ := List.mem_map.mp hd
  simp
/-- a reader as a value -/
def readerD (R : List (List Nat)) (rows : List Row) : D := .ins "Reader" ["own_rolls", "rows"] [.tup (R.map strD), .lst (rows.map rowD)]
structure OkRows (R : List (List Nat)) (rows : List Row) : Prop where
  ro : Rolls R
  ne : 1 ≤ rows.length
  le : rows.length ≤ 1000
  ok : ∀ r ∈ rows, OkRow R rows.length r
theorem Rolls.five {R : List (List Nat)} (h : Rolls R) : ∀ a ∈ R, a.length ≤ 5 := fun a ha => Nat.le_trans (len_flat ha) h.len
theorem init_we {R : List (List Nat)} {rows : List Row} (h : OkRows R rows) {d rd : D} (hd : IsSq d (R.map strD)) (hrd : IsSq rd (rows.map rowD)) (S : Store) {P X : D → Store → Prop} (p : P .non (S ++ [.ins "Reader" ["own_rolls", "rows"] [.tup (R.map strD), .lst (rows.map rowD)]])) :
    We (f_Reader___init__ [.ptr S.length, d, rd] (S ++ [.ins "Reader" [] []])) P X := by
  unfold f_Reader___init__
  refine we_def rfl ?_
  have i1 := h.ne
  have i2 : ¬ (rows.length = 0) := by omega
  have i3 : ¬ (rows = []) := by rintro rfl; simp at i1
  simp [m_Reader___init__, rolls_eq h.ro hd, list_sq hrd, len_sq hrd, i2, i3]
  refine wo_for (itEnum_of (eName_of rfl) (srcD_sq hrd _)) (fun pre sl S1 => S1 = S ++ [.ins "Reader" [] []] ∧ ∃ x3 x4, sl = [some (.ptr S.length), some d, some rd, x3, x4, none, none, none]) ⟨rfl, _, _, rfl⟩ ?_ ?_
  · rintro pre x post sl S1 he ⟨rfl, x3, x4, rfl⟩
    have hx : x ∈ enumD 0 (rows.map rowD) := by rw [he]; simp
    obtain ⟨j, y, rfl, hy⟩ := enumD_mem hx
    obtain ⟨r, hr, rfl⟩ := List.mem_map.mp hy
    refine ⟨srcD_sq hrd _, ?_⟩
    have hp := place_eq (h.ok r hr) hd h.ro.five
    simp [len_sq hrd, hp]
  · rintro sl S1 ⟨rfl, x3, x4, rfl⟩
    refine ⟨srcD_sq hrd _, ?_⟩
    simp [tupOf_sq hd]
    refine ⟨_, setF_at (c := "Reader") (ns := []) (vs := []) (by simp) (by simp) (by simp), ?_⟩
    rw [set_last rfl]
    have hl : (rows.map rowD).length ≤ 1000000 := by have := h.le; simp; omega
    refine we_lcF_pure (xs := rows.map rowD) (fun _ => true) id (itAny_of (eName_of rfl) (srcD_sq hrd _)) hl (fun _ => srcD_sq hrd _) (fun x hx T => ?_) (fun x hx _ => ?_) ?_
    · obtain ⟨r, hr, rfl⟩ := List.mem_map.mp hx
      simp [wipeS, bTrue, rowD]
      refine w_dictF ?_ ?_ ?_ <;> simp
    · obtain ⟨r, hr, rfl⟩ := List.mem_map.mp hx
      exact under_rowD
    · simp [filter_tt]
      refine ⟨_, setF_at (c := "Reader") (ns := (putN "own_rolls" (.tup (R.map strD)) [] []).1) (vs := (putN "own_rolls" (.tup (R.map strD)) [] []).2) (by simp) (by simp) (by simp [putN]), ?_⟩
      rw [set_last rfl]
      have hput : putN "rows" (.lst (rows.map rowD)) ((putN "own_rolls" (.tup (R.map strD)) [] []).1) ((putN "own_rolls" (.tup (R.map strD)) [] []).2) = ((["own_rolls", "rows"] : List Str), ([.tup (R.map strD), .lst (rows.map rowD)] : List D)) := by
        simp only [putN]
        rw [if_neg (by decide)]
      rw [hput]
      refine finP_keep0 ?_ (by simp) p
      have := Keep.set (S := S ++ [.ins "Reader" [] []]) (n := S.length) (m := .ins "Reader" ["own_rolls", "rows"] [.tup (R.map strD), .lst (rows.map rowD)]) (by simp [underM])
      rwa [set_last rfl] at this
theorem make_we {R : List (List Nat)} {rows : List Row} (h : OkRows R rows) {d rd : D} (hd : IsSq d (R.map strD)) (hrd : IsSq rd (rows.map rowD)) (S : Store) {P X : D → Store → Prop} (p : P (readerD R rows) S) :
    We (makeS "Reader" f_Reader___init__ [d, rd] S) (FinP S P) X := by
  unfold makeS
  rw [we_bind]
  refine init_we h hd hrd S ?_
  simp
  exact finP_ins (Keep.refl S) (by simp) p

/-! ### reading -/
def run (rows : List Row) : Nat → Nat → List (List Nat) → Bool
  | 0, _, _ => false
  | k + 1, p, left => match rows[p]? with
    | none => false
    | some r => if left.all (·.isEmpty) then r.acc else match left[r.roll]? with
      | some (c :: t) => (match look r.ks r.vs c with
        | some q => run rows k q (left.set r.roll t)
        | none => false)
      | _ => false
def tot (left : List (List Nat)) : Nat := (left.map List.length).sum
theorem tot_set : ∀ {left : List (List Nat)} {i : Nat} {c : Nat} {t : List Nat}, left[i]? = some (c :: t) → tot left = tot (left.set i t) + 1
  | [], i, c, t, h => by simp at h
  | a :: left, 0, c, t, h => by
    simp at h
    subst h
    simp [tot]
    omega
  | a :: left, i + 1, c, t, h => by
    have := tot_set (left := left) (i := i) (by simpa using h)
    simp [tot] at this ⊢
    omega
@[simp] theorem look_rows {a b : D} : lookN "rows" ["own_rolls", "rows"] [a, b] = some b := by
  simp only [lookN]
  rw [if_neg (by decide)]
  simp
@[simp] theorem look_own {a b : D} : lookN "own_rolls" ["own_rolls", "rows"] [a, b] = some a := by
  simp only [lookN]
  simp
theorem fn_reads_lit : ("reads" : Str) ∉ (["own_rolls", "rows"] : List Str) := by decide
/-- what the spots leave of the texts -/
def leftOf (spots : List Nat) (texts : List (List Nat)) : List (List Nat) := List.zipWith (fun s t => t.drop s) spots texts
theorem repD_zero {k : Nat} : repD k [D.int 0] = (List.replicate k 0).map inD' := by
  unfold repD
  induction k with
  | zero => rfl
  | succ k ih =>
    rw [List.replicate_succ, List.flatten_cons, ih, List.replicate_succ]
    rfl
theorem left_start (texts : List (List Nat)) : leftOf (List.replicate texts.length 0) texts = texts := by
  unfold leftOf
  induction texts with
  | nil => rfl
  | cons t texts ih => simp [List.replicate_succ, ih]
theorem mulXH_rep {k : Nat} {S : Store} (h : k < 1000) : mulXH (.lst [.int 0]) (.int k) S = .ok (.ptr S.length) (S ++ [.lst ((List.replicate k 0).map inD')]) := by
  unfold mulXH
  rw [orS2_r (by rfl)]
  simp only [mulLH, asL_lst']
  rw [if_pos ⟨by omega, by simp; omega, by omega⟩]
  simp [repD_zero]
theorem run_step {rows : List Row} {k p : Nat} {left : List (List Nat)} {r : Row} (hr : rows[p]? = some r) : run rows (k + 1) p left = if left.all (·.isEmpty) then r.acc else match left[r.roll]? with
      | some (c :: t) => (match look r.ks r.vs c with
        | some q => run rows k q (left.set r.roll t)
        | none => false)
      | _ => false := by
  rw [run, hr]
theorem leftOf_get {spots : List Nat} {texts : List (List Nat)} {i s : Nat} {t : List Nat} (hs : spots[i]? = some s) (ht : texts[i]? = some t) : (leftOf spots texts)[i]? = some (t.drop s) := by
  unfold leftOf
  rw [List.getElem?_zipWith, hs, ht]
theorem leftOf_set {spots : List Nat} {texts : List (List Nat)} {i s : Nat} {t : List Nat} (hs : spots[i]? = some s) (ht : texts[i]? = some t) : leftOf (spots.set i (s + 1)) texts = (leftOf spots texts).set i (t.drop (s + 1)) := by
  unfold leftOf
  refine List.ext_getElem? fun j => ?_
  rw [List.getElem?_zipWith]
  have hi : i < spots.length := (List.getElem?_eq_some_iff.mp hs).1
  have hi2 : i < texts.length := (List.getElem?_eq_some_iff.mp ht).1
  by_cases q : i = j
  · subst q
    rw [List.getElem?_set_self hi, ht, List.getElem?_set_self (by simp; omega)]
  · rw [List.getElem?_set_ne q, List.getElem?_set_ne q, List.getElem?_zipWith]
theorem all_left {spots : List Nat} {texts : List (List Nat)} (h : ∀ (i s : Nat) t, spots[i]? = some s → texts[i]? = some t → s ≤ t.length) : (List.zipWith (fun (s : Nat) (t : List Nat) => decide (s = t.length)) spots texts).all id = (leftOf spots texts).all (·.isEmpty) := by
  induction spots generalizing texts with
  | nil => rfl
  | cons s spots ih =>
    cases texts with
    | nil => rfl
    | cons t texts =>
      have h0 := h 0 s t rfl rfl
      have := ih (texts := texts) fun i s t h1 h2 => h (i + 1) s t (by simpa using h1) (by simpa using h2)
      rw [List.zipWith_cons_cons, List.all_cons, this]
      show _ = (t.drop s :: leftOf spots texts).all _
      rw [List.all_cons]
      congr 1
      by_cases q : s = t.length
      · simp [q]
      · simp [q]; omega
theorem boolsOf_id : ∀ bs : List Bool, boolsOf (bs.map D.bl) = some bs := boolsOf_map
theorem all_bls {bs : List Bool} {S : Store} : semAll [.lst (bs.map D.bl)] S = .ok (.bl (bs.all id)) S := by
  simp [semAll, boolsOf_map]
theorem zipD_map {α β : Type} {f : α → D} {g : β → D} : ∀ {a : List α} {b : List β}, zipD (a.map f) (b.map g) = (a.zip b).map fun p => .tup [f p.1, g p.2]
  | [], b => by simp [zipD]
  | x :: a, [] => by simp [zipD]
  | x :: a, y :: b => by
    have := zipD_map (f := f) (g := g) (a := a) (b := b)
    simp [zipD] at this ⊢
    exact this
theorem zip_bls : ∀ (spots : List Nat) (texts : List (List Nat)), ((spots.zip texts).map fun p => D.tup [inD' p.1, strD p.2]).map (fun d => match d with
      | .tup [.int s, .str t] => D.bl (decide (s = (t.length : Int)))
      | _ => .non) = (List.zipWith (fun (s : Nat) (t : List Nat) => decide (s = t.length)) spots texts).map D.bl
  | [], texts => rfl
  | s :: spots, [] => rfl
  | s :: spots, t :: texts => by
    rw [List.zip_cons_cons, List.map_cons, List.map_cons, zip_bls spots texts, List.zipWith_cons_cons, List.map_cons]
    congr 1
    simp
    omega
theorem reads_eq {R : List (List Nat)} {rows : List Row} (h : OkRows R rows) {texts : List (List Nat)} (ht : texts.length = R.length) (hT : ∀ t ∈ texts, t.length ≤ 1000) (S : Store) : f_Reader_reads (readerD R rows :: texts.map strD) S = .ok (.bl (run rows (tot texts + 1) 0 texts)) S := by
  refine eq_of_we ?_
  unfold f_Reader_reads
  have i3 := h.ro.n3
  rw [w_starS (by simp) (by simp; omega), we_defS]
  simp [m_Reader_reads, readerD, ht]
  rw [mulXH_rep (by omega)]
  simp
  have htot : tot texts ≤ 3000 := by
    have : ∀ l : List (List Nat), (∀ t ∈ l, t.length ≤ 1000) → tot l ≤ l.length * 1000 := fun l => by
      induction l with
      | nil => simp [tot]
      | cons a l ih =>
        intro h
        have h1 := ih fun t ht => h t (by simp [ht])
        have h2 := h a (by simp)
        simp [tot] at h1 ⊢
        omega
    have := this texts hT
    omega
  refine wo_whileK (tot texts) (fun k sl S1 => ∃ (p : Nat) (spots : List Nat) (x4 x5 x6 x7 x8 x9 : Option D), p < rows.length ∧ spots.length = texts.length ∧ (∀ (i s : Nat) t, spots[i]? = some s → texts[i]? = some t → s ≤ t.length) ∧ S1 = S ++ [.lst (spots.map inD')] ∧
    sl = [some (.ins "Reader" ["own_rolls", "rows"] [.tup (R.map strD), .lst (rows.map rowD)]), some (.tup (texts.map strD)), some (.ptr S.length), some (.int p), x4, x5, x6, x7, x8, x9] ∧ k = tot (leftOf spots texts) ∧ run rows (k + 1) p (leftOf spots texts) = run rows (tot texts + 1) 0 texts) ?_ (by omega) ?_
  · refine ⟨0, List.replicate R.length 0, _, _, _, _, _, _, h.ne, by simp [ht], fun i s t h1 h2 => ?_, by simp, rfl, by rw [← ht, left_start], by rw [← ht, left_start]⟩
    obtain ⟨_, e⟩ := List.getElem?_eq_some_iff.mp h1
    simp at e
    omega
  · rintro k sl S1 ⟨p, spots, x4, x5, x6, x7, x8, x9, hp, hsl, hsp, rfl, rfl, hk, hrun⟩
    have hr : rows[p]? = some rows[p] := by simp [hp]
    have hok := h.ok _ (List.getElem_mem hp)
    rw [run_step hr] at hrun
    generalize rows[p] = r at hr hok hrun
    simp [hr, rowD]
    have hS : (S ++ [MO.lst (spots.map inD')])[S.length]? = some (.lst (spots.map inD')) := by simp
    have hz := zipD_map (f := inD') (g := strD) (a := spots) (b := texts)
    have hit := itZip_of (sl := [some (.ins "Reader" ["own_rolls", "rows"] [.tup (R.map strD), .lst (rows.map rowD)]), some (.tup (texts.map strD)), some (.ptr S.length), some (.int p), some (.int r.roll), some (.dct (r.ks.map sg) (r.vs.map inD')), some (.bl r.acc), x7, x8, x9]) (S := S ++ [MO.lst (spots.map inD')]) (f1 := eName 2) (f2 := eName 1) (eName_of rfl) (eName_of rfl) (srcD_ptr hS) (srcD_tup _)
    rw [hz] at hit
    refine we_lcF_pure (fun _ => true) (fun d => match d with
      | .tup [.int s, .str t] => .bl (decide (s = (t.length : Int)))
      | _ => .non) hit (by simp; omega) (fun acc => ⟨srcD_ptr (by simp), rfl⟩) (fun x hx T => ?_) (fun x hx _ => ?_) ?_
    · obtain ⟨⟨s, t⟩, hst, rfl⟩ := List.mem_map.mp hx
      have := hT t (List.of_mem_zip hst).2
      simp [wipeS, bTrue]
      omega
    · obtain ⟨⟨s, t⟩, hst, rfl⟩ := List.mem_map.mp hx
      simp
    · rw [filter_tt, zip_bls, all_bls, we_ok, isB_bl, all_left hsp]
      by_cases hall : (leftOf spots texts).all (·.isEmpty) = true
      · rw [if_pos hall] at hrun
        rw [if_pos hall]
        simp [hrun]
        exact finP_app (Keep.refl S) (by simp) ⟨rfl, rfl⟩
      · rw [if_neg hall] at hrun
        rw [if_neg hall]
        have hro : r.roll < texts.length := by have := hok.rl; omega
        have hro2 : r.roll < spots.length := by omega
        have ht' : texts[r.roll]? = some texts[r.roll] := by simp [hro]
        have hs' : spots[r.roll]? = some spots[r.roll] := by simp [hro2]
        have hmem := hT _ (List.getElem_mem hro)
        have hle := hsp _ _ _ hs' ht'
        generalize texts[r.roll] = t at ht' hmem hle
        generalize spots[r.roll] = s at hs' hle
        have hget := leftOf_get hs' ht'
        rw [hget] at hrun
        have e1 : (List.take (s + 1) t).drop s = (t.drop s).take 1 := by rw [List.drop_take]; simp
        have hc := cutS_mid t s (s + 1)
        rw [e1] at hc
        simp at hc
        have hm : t.length ≤ 1000000 := by omega
        simp [ht', hs', w_ix_ptr hS, hc, hm]
        cases hd : t.drop s with
        | nil =>
          rw [hd] at hrun
          simp at hrun
          simp [hasK_nil]
          exact finP_app (Keep.refl S) (by simp) ⟨by rw [hrun], rfl⟩
        | cons c rest =>
          rw [hd] at hrun
          simp [hasK_sg]
          simp only at hrun
          by_cases hck : c ∈ r.ks
          · obtain ⟨v, hv, hlk⟩ := look_some hok.len hck
            rw [hlk] at hrun
            simp only at hrun
            rw [if_pos hck]
            simp
            refine w_augSub ?_
            simp
            refine ⟨_, asL_ptr hS, _, by rw [List.getElem?_map, hs']; rfl, _, setD_lst hS (by simpa using hro2), ?_⟩
            simp [getK_sg, hlk]
            have hk1 : k = tot ((leftOf spots texts).set r.roll rest) + 1 := by rw [hk]; exact tot_set (by rw [hget, hd])
            have hset := leftOf_set hs' ht'
            have hdr : t.drop (s + 1) = rest := by
              have : t.drop (s + 1) = (t.drop s).drop 1 := by rw [List.drop_drop]
              rw [this, hd]; rfl
            rw [hdr] at hset
            refine ⟨_, ?_, v, hok.val v hv, spots.set r.roll (s + 1), by simp [hsl], fun i s' t' h1 h2 => ?_, ?_, rfl, rfl, ?_⟩
            · rw [hset]; omega
            · by_cases q : r.roll = i
              · subst q
                rw [List.getElem?_set_self hro2] at h1
                cases h1
                rw [ht'] at h2
                cases h2
                have : (t.drop s).length = rest.length + 1 := by rw [hd]; rfl
                simp at this
                omega
              · rw [List.getElem?_set_ne q] at h1
                exact hsp i s' t' h1 h2
            · rw [List.map_set]
              rfl
            · rw [hset, ← hk1]
              exact hrun
          · have hlk : look r.ks r.vs c = none := by
              cases q : look r.ks r.vs c with
              | none => rfl
              | some v => exact absurd (look_mem q).1 hck
            rw [hlk] at hrun
            simp only at hrun
            rw [if_neg hck]
            simp
            exact finP_app (Keep.refl S) (by simp) ⟨by rw [← hrun], rfl⟩

theorem ask_eq {R : List (List Nat)} {rows : List Row} (h : OkRows R rows) {texts : List (List Nat)} (ht : texts.length = R.length) (hT : ∀ t ∈ texts, t.length ≤ 1000) {S : Store} {d : D} (hd : asL S d = some (texts.map strD)) : f__law_ask [readerD R rows, d] S = .ok (.bl (run rows (tot texts + 1) 0 texts)) S := by
  refine eq_of_we ?_
  unfold f__law_ask
  refine we_def rfl ?_
  have i1 := h.ro.n1
  have i3 := h.ro.n3
  have key := reads_eq h ht hT S
  have hne := fn_reads_lit
  have ht2 : tabOf [("Reader", f_Reader_reads)] "Reader" = some f_Reader_reads := by simp [tabOf]
  have hlen := len_asL hd
  match texts, ht, i1, i3 with
  | [], ht, i1, i3 => simp at ht; omega
  | [a], ht, i1, i3 =>
    simp only [List.map_cons, List.map_nil, readerD] at key hd hlen
    simp [m__law_ask, readerD, hlen, hne, ht2, w_ix_asL hd, key]
  | [a, b], ht, i1, i3 =>
    simp only [List.map_cons, List.map_nil, readerD] at key hd hlen
    simp [m__law_ask, readerD, hlen, hne, ht2, w_ix_asL hd, key]
  | [a, b, c], ht, i1, i3 =>
    simp only [List.map_cons, List.map_nil, readerD] at key hd hlen
    simp [m__law_ask, readerD, hlen, hne, ht2, w_ix_asL hd, key]
  | a :: b :: c :: d :: r, ht, i1, i3 => simp at ht; omega
theorem filter_strs (p : List Nat → Bool) (q : D → Bool) (h : ∀ c, q (strD c) = p c) (l : List (List Nat)) : (l.map strD).filter q = (l.filter p).map strD := by
  induction l with
  | nil => rfl
  | cons c l ih =>
    rw [List.map_cons, List.filter_cons, List.filter_cons, h, ih]
    split <;> simp
theorem lreads_eq {R : List (List Nat)} {rows : List Row} (h : OkRows R rows) {texts : List (List Nat)} (ht : texts.length = R.length) (hT : ∀ t ∈ texts, t.length ≤ 1000 ∧ okS t) {S : Store} {d : D} (hd : asL S d = some (texts.map strD)) : f__law_reads [.lst (rows.map rowD), d] S = .ok (.bl (run rows (tot texts + 1) 0 texts)) S := by
  refine eq_of_we ?_
  unfold f__law_reads
  refine we_def rfl ?_
  have i3 := h.ro.n3
  have hlo : semListOfH [d] S = .ok (.ptr S.length) (S ++ [.lst (texts.map strD)]) := by simp [semListOfH, asS_asL hd]
  simp [m__law_reads, hlo]
  have htot : tot texts ≤ 3000 := by
    have : ∀ l : List (List Nat), (∀ t ∈ l, t.length ≤ 1000) → tot l ≤ l.length * 1000 := fun l => by
      induction l with
      | nil => simp [tot]
      | cons a l ih =>
        intro h
        have h1 := ih fun t ht => h t (by simp [ht])
        have h2 := h a (by simp)
        simp [tot] at h1 ⊢
        omega
    have := this texts fun t ht => (hT t ht).1
    omega
  refine wo_whileK (tot texts) (fun k sl S1 => ∃ (p : Nat) (left : List (List Nat)) (x4 x5 x6 : Option D), p < rows.length ∧ left.length = texts.length ∧ (∀ t ∈ left, t.length ≤ 1000 ∧ okS t) ∧ S1 = S ++ [.lst (left.map strD)] ∧
    sl = [some (.lst (rows.map rowD)), some d, some (.ptr S.length), some (.int p), x4, x5, x6] ∧ k = tot left ∧ run rows (k + 1) p left = run rows (tot texts + 1) 0 texts) ?_ (by omega) ?_
  · exact ⟨0, texts, _, _, _, h.ne, rfl, hT, rfl, rfl, rfl, rfl⟩
  · rintro k sl S1 ⟨p, left, x4, x5, x6, hp, hll, hlt, rfl, rfl, hk, hrun⟩
    have hr : rows[p]? = some rows[p] := by simp [hp]
    have hok := h.ok _ (List.getElem_mem hp)
    rw [run_step hr] at hrun
    generalize rows[p] = r at hr hok hrun
    have hS : (S ++ [MO.lst (left.map strD)])[S.length]? = some (.lst (left.map strD)) := by simp
    simp
    refine we_lcF_pure (xs := left.map strD) (fun d => match d with
      | .str t => decide (t.length ≠ 0)
      | _ => false) id (itAny_of (eName_of rfl) (srcD_ptr hS)) (by simp; omega) (fun acc => srcD_ptr (by simp)) (fun x hx T => ?_) (fun x hx _ => ?_) ?_
    · obtain ⟨t, ht, rfl⟩ := List.mem_map.mp hx
      have := (hlt t ht).2
      simp [wipeS, neD_str (hlt t ht).2 (show okS [] by intro c hc; cases hc)]
    · obtain ⟨t, ht, rfl⟩ := List.mem_map.mp hx
      simp
    · rw [List.map_id, filter_strs (fun t => !t.isEmpty) _ (fun c => by cases c <;> simp)]
      rw [ne_empty (fun x hx => (hlt x (List.mem_filter.mp hx).1).2)]
      have hall : (left.filter fun t => !t.isEmpty).isEmpty = left.all (·.isEmpty) := by
        clear hlt hk hrun hll hS
        induction left with
        | nil => rfl
        | cons a l ih =>
          rw [List.filter_cons, List.all_cons]
          cases a <;> simp [ih]
      rw [hall]
      by_cases ha : left.all (·.isEmpty) = true
      · rw [if_pos ha] at hrun
        rw [ha]
        simp [hr, rowD, hrun]
        exact finP_app (Keep.refl S) (by simp) ⟨rfl, rfl⟩
      · rw [if_neg ha] at hrun
        rw [Bool.not_eq_true] at ha
        rw [ha]
        have hro : r.roll < left.length := by have := hok.rl; omega
        have hg : left[r.roll]? = some left[r.roll] := by simp [hro]
        have hm := hlt _ (List.getElem_mem hro)
        generalize left[r.roll] = t at hg hm
        rw [hg] at hrun
        simp [hr, rowD, w_ix_ptr hS, hg, eqD_str hm.2 (show okS [] by intro c hc; cases hc)]
        have hm1 : t.length ≤ 1000000 := by omega
        cases t with
        | nil =>
          simp at hrun
          simp
          exact finP_app (Keep.refl S) (by simp) ⟨by rw [← hrun], rfl⟩
        | cons c rest =>
          simp at hrun hm1
          simp [hm1, hasK_sg]
          have hlt2 := hlt
          by_cases hck : c ∈ r.ks
          · obtain ⟨v, hv, hlk⟩ := look_some hok.len hck
            rw [hlk] at hrun
            simp only at hrun
            rw [if_pos hck]
            have hm2 : rest.length + 1 ≤ 1000000 := by omega
            simp [w_ix_ptr hS, hg, hm1, getK_sg, hlk]
            refine ⟨_, setD_lst hS (by simpa using hro), ?_⟩
            rw [set_last rfl]
            have hk1 := tot_set hg
            refine ⟨_, ?_, v, hok.val v hv, left.set r.roll rest, by simp [hll], fun t' ht' => ?_, ?_, rfl, rfl, ?_⟩
            · omega
            · rcases List.mem_or_eq_of_mem_set ht' with h1 | rfl
              · exact hlt t' h1
              · exact ⟨by have := hm.1; simp at this; omega, fun c' hc' => hm.2 c' (by simp [hc'])⟩
            · rw [List.map_set]
            · rw [← hk1, ← hk]
              exact hrun
          · have hlk : look r.ks r.vs c = none := by
              cases q : look r.ks r.vs c with
              | none => rfl
              | some v => exact absurd (look_mem q).1 hck
            rw [hlk] at hrun
            simp only at hrun
            rw [if_neg hck]
            simp
            exact finP_app (Keep.refl S) (by simp) ⟨by rw [← hrun], rfl⟩
end K51
namespace K51
open PySem L2 Z

/-! ### drawing -/
abbrev pairD (p : Nat × Nat) : D := .tup [sg p.1, inD' p.2]
theorem pairsOf_zip : ∀ {ps : List (Nat × Nat)}, pairsOf (ps.map pairD) = some (ps.map fun p => (.inr (tx [p.1]), inD' p.2))
  | [] => rfl
  | p :: ps => by
    rw [List.map_cons, pairsOf, pairsOf_zip]
    rfl
theorem hasK_mem {ks : List Nat} {c : Nat} (h : c ∉ ks) : hasK (ks.map sg) (.inr (tx [c])) = false := by
  rw [hasK_sg]; simp [h]
theorem mergeD_zip : ∀ {ps : List (Nat × Nat)} {ks vs : List Nat}, (ks ++ ps.map (·.1)).Nodup → mergeD (ps.map fun p => (.inr (tx [p.1]), inD' p.2)) (ks.map sg, vs.map inD') = ((ks ++ ps.map (·.1)).map sg, (vs ++ ps.map (·.2)).map inD')
  | [], ks, vs, h => by simp [mergeD]
  | p :: ps, ks, vs, h => by
    have h1 : p.1 ∉ ks := fun q => by
      rw [List.nodup_append] at h
      exact h.2.2 _ q _ (by simp) rfl
    rw [List.map_cons, mergeD, putKs, putVs, hasK_mem h1]
    have e1 : (if (false : Bool) = true then ks.map sg else ks.map sg ++ [kD (.inr (tx [p.1]))]) = (ks ++ [p.1]).map sg := by simp [kD]
    have e2 : (if (false : Bool) = true then putV (ks.map sg) (vs.map inD') (.inr (tx [p.1])) (inD' p.2) else vs.map inD' ++ [inD' p.2]) = (vs ++ [p.2]).map inD' := by simp
    rw [e1, e2, mergeD_zip (ks := ks ++ [p.1]) (vs := vs ++ [p.2]) (by simpa using h)]
    simp
theorem dict_pairs {ps : List (Nat × Nat)} (h : (ps.map (·.1)).Nodup) {S : Store} : dictX [.lst (ps.map pairD)] S = .ok (.ptr S.length) (S ++ [.dct false ((ps.map (·.1)).map sg) ((ps.map (·.2)).map inD')]) := by
  unfold dictX
  rw [orSL_r (by simp [semDictD, asD])]
  have := mergeD_zip (ps := ps) (ks := []) (vs := []) (by simpa using h)
  simp only [List.map_nil, List.nil_append] at this
  simp only [semDictP, asL_lst', pairsOf_zip, this]
theorem place_df {n : Nat} {cs : List Int} {R : List (List Nat)} (hR : Rolls R) {m : Nat} (hm0 : 0 < m) (hm : m ≤ 1000) : DF n cs (f__law_place [.ptr n, .lst (R.map strD), .int m]) (fun d => ∃ r, d = rowD r ∧ OkRow R m r) := fun S hB => by
  unfold f__law_place
  refine we_def rfl ?_
  have i1 := hR.n1
  have i3 := hR.n3
  simp [m__law_place]
  refine (pick_df (by omega) (by omega)).we hB fun d S1 ⟨k, hk, e⟩ hD1 => ?_
  subst e
  have hk' : k < R.length := by omega
  have hg : R[k]? = some R[k] := by simp [hk']
  have hal := hR.al _ (List.getElem_mem hk')
  have hfl := len_flat (List.getElem_mem hk')
  have hlen := hR.len
  generalize hr : R[k] = roll at hg hal hfl
  refine we_lc (xs := roll.map sg) (itAny_of (S1 := S1) (d := strD roll) (eq_of_we (by simp [hg])) (by simp)) (by simp; omega) (fun pre acc S2 => ∃ (ps : List (Nat × Nat)) (pre' : List Nat), pre = pre'.map sg ∧ acc = ps.map pairD ∧ (ps.map (·.1)).Sublist pre' ∧ (∀ p ∈ ps, p.2 < m) ∧ Drawn n cs S1 S2) ?_ ?_ ?_ ?_
  · rintro p acc S2 ⟨ps, pre', rfl, rfl, h1, h2, h3⟩
    exact ⟨h3.len, by have := h1.length_le; simpa using this⟩
  · exact ⟨[], [], rfl, rfl, by simp, by simp, Drawn.refl hD1.1⟩
  · rintro p x post acc S2 he ⟨ps, pre', rfl, rfl, h1, h2, h3⟩
    obtain ⟨c, hc, rfl⟩ : ∃ c, c ∈ roll ∧ x = sg c := by
      have : x ∈ roll.map sg := by rw [he]; simp
      obtain ⟨c, hc, e⟩ := List.mem_map.mp this
      exact ⟨c, hc, e.symm⟩
    refine ⟨by simp, ?_⟩
    simp [wipeS]
    refine (pick_df (by omega) (by omega)).app h3.1 fun d S3 ⟨j, hj, e⟩ hD3 => ?_
    subst e
    have app : pre'.map sg ++ [sg c] = (pre' ++ [c]).map sg := by simp
    simp only [gtI_int, we_ok, isB_bl]
    by_cases hj0 : (0 : Int) < j
    · rw [decide_eq_true hj0, if_pos rfl]
      refine (pick_df (by omega) (by omega)).app hD3.1 fun d S4 ⟨v, hv, e⟩ hD4 => ?_
      subst e
      exact ⟨S4, rfl, ps ++ [(c, v)], pre' ++ [c], by simp, by simp, by simpa using h1.append_right [c], fun a b hp => by
        rcases List.mem_append.mp hp with hp | hp
        · exact h2 (a, b) hp
        · cases List.mem_singleton.mp hp; omega, (h3.trans hD3).trans hD4⟩
    · rw [decide_eq_false hj0, if_neg Bool.false_ne_true]
      exact ⟨S3, rfl, ps, pre' ++ [c], by simp, rfl, h1.trans (List.sublist_append_left _ _), fun a b h => h2 (a, b) h, h3.trans hD3⟩
  · rintro acc S2 ⟨ps, pre', he, rfl, h1, h2, h3⟩
    have he' : pre' = roll := by
      have inj : ∀ a b : List Nat, a.map sg = b.map sg → a = b := fun a => by
        induction a with
        | nil => intro b h; cases b <;> simp at h ⊢
        | cons x a ih =>
          intro b h
          cases b with
          | nil => simp at h
          | cons y b =>
            simp at h
            rw [h.1, ih b (by simpa using h.2)]
      exact inj _ _ he.symm
    subst he'
    have hnd : (ps.map (·.1)).Nodup := h1.nodup (hal.1.asc.imp fun h => Nat.ne_of_lt h)
    refine ⟨by simp, ?_⟩
    refine finP_lst h3.keep (by rw [underL_iff]; intro d hd; obtain ⟨p, _, rfl⟩ := List.mem_map.mp hd; simp) ?_
    rw [dict_pairs hnd, we_ok]
    refine finP_dct h3.keep underL_sgs underL_ints ?_
    have h2' : ∀ v ∈ ps.map (·.2), v < m := fun v hv => by
      obtain ⟨p, hp, rfl⟩ := List.mem_map.mp hv
      exact h2 p hp
    have hkv : (ps.map (·.1)).length = (ps.map (·.2)).length := by simp
    generalize ps.map (·.1) = ks at h1 hnd hkv ⊢
    generalize ps.map (·.2) = vs at h2' hkv ⊢
    refine (pick_df (by omega) (by omega)).we h3.1 fun d S3 ⟨j, hj, e⟩ hD3 => ?_
    subst e
    simp
    refine fin_drawn ((hD1.trans h3).trans hD3) (by simp) ⟨(hD1.trans h3).trans hD3, ⟨k, ks, vs, decide (j = 0)⟩, rfl, hk', hkv, hnd, fun c hc => ?_, h2', ?_⟩
    · show c ∈ R[k]?.getD []
      rw [hg]
      exact h1.subset hc
    · have := h1.length_le
      show ks.length ≤ 1000
      omega

theorem alpha_take {l : List Nat} (h : Alpha l) (k : Nat) : Alpha (l.take k) := ⟨h.asc.sublist (List.take_sublist ..), fun c hc => h.low c (List.mem_of_mem_take hc)⟩
theorem alpha_drop {l : List Nat} (h : Alpha l) (k : Nat) : Alpha (l.drop k) := ⟨h.asc.sublist (List.drop_sublist ..), fun c hc => h.low c (List.mem_of_mem_drop hc)⟩
theorem alpha_nodup {l : List Nat} (h : Alpha l) : l.Nodup := h.asc.imp fun h => Nat.ne_of_lt h
theorem rolls1 {l : List Nat} (h : Alpha l) (h1 : 1 ≤ l.length) (h5 : l.length ≤ 5) : Rolls [l] := ⟨by simp, by simp, fun r hr => by rw [List.mem_singleton.mp hr]; exact ⟨h, h1⟩, by simpa using (alpha_nodup h), by simpa using h5⟩
theorem rolls2 {l : List Nat} (h : Alpha l) {k : Nat} (h5 : l.length ≤ 5) (hk : 1 ≤ k) (hk2 : k < l.length) : Rolls [l.take k, l.drop k] := ⟨by simp, by simp, fun r hr => by
  simp at hr
  rcases hr with rfl | rfl
  · exact ⟨alpha_take h k, by simp; omega⟩
  · exact ⟨alpha_drop h k, by simp; omega⟩, by simpa using (alpha_nodup h), by simp; omega⟩
theorem rolls3 {l : List Nat} (h : Alpha l) {k : Nat} (h5 : l.length ≤ 5) (hk : 1 ≤ k) (hk2 : k < l.length) : Rolls [l.drop k, l.take k] := ⟨by simp, by simp, fun r hr => by
  simp at hr
  rcases hr with rfl | rfl
  · exact ⟨alpha_drop h k, by simp; omega⟩
  · exact ⟨alpha_take h k, by simp; omega⟩, by
    have : (l.drop k ++ l.take k).Perm l := List.perm_append_comm.trans (by rw [List.take_append_drop])
    simpa using this.nodup_iff.mpr (alpha_nodup h), by simp; omega⟩
theorem rolls4 {l : List Nat} (h : Alpha l) (h5 : l.length ≤ 5) (h2 : 2 < l.length) : Rolls [l.take 1, l.drop 2, (l.take 2).drop 1] := ⟨by simp, by simp, fun r hr => by
  simp at hr
  rcases hr with rfl | rfl | rfl
  · exact ⟨alpha_take h 1, by simp; omega⟩
  · exact ⟨alpha_drop h 2, by simp; omega⟩
  · exact ⟨by have := alpha_drop (alpha_take h 2) 1; simpa using this, by simp; omega⟩, by
    match l, h2, h with
    | a :: b :: c :: r, _, h =>
      have := (alpha_nodup h)
      have p : (a :: (c :: r ++ [b])).Perm (a :: b :: c :: r) := List.Perm.cons a (by simpa using (List.perm_append_comm (l₁ := c :: r) (l₂ := [b])))
      simpa using p.nodup_iff.mpr this, by simp; omega⟩
/-- two lists by a pair -/
def readerT (R : List (List Nat)) (rows : List Row) : D := .tup [.lst (R.map strD), .lst (rows.map rowD)]
theorem places_we {n : Nat} {cs : List Int} {R : List (List Nat)} (hR : Rolls R) {m : Nat} (hm0 : 0 < m) (hm : m ≤ 1000) {S : Store} (hB : IsBag S n cs) {sl : Sl} {it : IX} {G : Store → Prop} {g : GX} {fe : EX} {own : List Nat} {P X : D → Store → Prop} {xs : List D} (hit : it sl S = .ok (xs, G) S) (hl : xs.length = m) (hG : ∀ S' T, Drawn n cs S S' → G (S' ++ T))
    (step : ∀ x ∈ xs, ∀ S1 (P' : D → Store → Prop), We (f__law_place [.ptr n, .lst (R.map strD), .int m] S1) P' (fun _ _ => False) → Wo (g x (wipeS sl own) S1) ⟨fun sl1 S2 => We (fe sl1 S2) P' (fun _ _ => False), fun _ _ => False, fun _ _ => False, fun _ _ => False, fun _ _ _ => False⟩)
    (hend : ∀ (rows : List Row) S', rows.length = m → (∀ r ∈ rows, OkRow R m r) → Drawn n cs S S' → P (.lst (rows.map rowD)) S') : We (eLc it g bTrue fe own sl S) (FinP S P) X := by
  refine we_lc_draw (Drawn.refl hB) hit (by omega) hG (fun _ d => ∃ r, d = rowD r ∧ OkRow R m r) (fun x hx S' acc hD => ?_) (fun _ d ⟨r, e, _⟩ => by rw [e]; simp) fun ys S' hl' hy hD => ?_
  · exact step x hx _ _ ((place_df hR hm0 hm).app hD.1 fun d S4 hd hD' => ⟨S4, rfl, hD', hd⟩)
  · have : ∀ ys : List D, (∀ y ∈ ys, ∃ r, y = rowD r ∧ OkRow R m r) → ∃ rows : List Row, ys = rows.map rowD ∧ ∀ r ∈ rows, OkRow R m r := fun ys => by
      induction ys with
      | nil => exact fun _ => ⟨[], rfl, by simp⟩
      | cons y ys ih =>
        intro h
        obtain ⟨r, e, hr⟩ := h y (by simp)
        obtain ⟨rows, e2, h2⟩ := ih fun y hy => h y (by simp [hy])
        exact ⟨r :: rows, by rw [e, e2]; rfl, fun r' hr' => by
          rcases List.mem_cons.mp hr' with rfl | h
          · exact hr
          · exact h2 r' h⟩
    obtain ⟨rows, rfl, hr⟩ := this ys fun y h => let ⟨_, _, q⟩ := hy y h; q
    exact hend rows S' (by simpa [hl] using hl') hr hD
theorem reader_df {n : Nat} {cs : List Int} : DF n cs (f__law_reader [.ptr n, .int 4]) (fun d => ∃ R rows, d = readerT R rows ∧ OkRows R rows ∧ rows.length ≤ 4) := fun S hB => by
  unfold f__law_reader
  refine we_def rfl ?_
  unfold m__law_reader
  refine wo_cut (fun sl S1 => ∃ l : List Nat, 2 ≤ l.length ∧ l.length ≤ 5 ∧ Alpha l ∧ sl = [some (.ptr n), some (.int 4), some (.str (tx l)), none, none, none, none, none] ∧ Drawn n cs S S1) ?_ ?_
  · simp
    refine (pick_df (by omega) (by omega)).we hB fun d S1 ⟨k, hk, e⟩ hD1 => ?_
    subst e
    simp
    have hc : (2 : Int) + (k : Int) = ((2 + k : Nat) : Int) := by omega
    rw [hc]
    refine (letters_df (by omega)).we hD1.1 fun d S2 ⟨l, e, hl, hA⟩ hD2 => ?_
    subst e
    exact ⟨l, by omega, by omega, hA, by simp, hD1.trans hD2⟩
  rintro sl S1 ⟨l, i1, i2, hA, rfl, hD1⟩
  have i3 : l.length ≤ 1000000 := by omega
  refine wo_cut (fun sl S2 => ∃ j : Nat, 1 ≤ j ∧ j < l.length ∧ sl = [some (.ptr n), some (.int 4), some (.str (tx l)), some (.int j), none, none, none, none] ∧ Drawn n cs S S2) ?_ ?_
  · simp [i3]
    refine (pick_df (by omega) (by omega)).we hD1.1 fun d S3 ⟨j, hj, e⟩ hD3 => ?_
    subst e
    simp
    exact ⟨1 + j, by omega, by omega, by omega, hD1.trans hD3⟩
  rintro sl S2 ⟨j, hj1, hj2, rfl, hD2⟩
  refine wo_cut (fun sl S3 => ∃ R : List (List Nat), Rolls R ∧ sl = [some (.ptr n), some (.int 4), some (.str (tx l)), some (.int j), some (.lst (R.map strD)), none, none, none] ∧ Drawn n cs S S3) ?_ ?_
  · simp [i3]
    refine (of_df (by simp) (by simp) (by simp)).we hD2.1 fun d S4 hd hD4 => ?_
    simp at hd
    rcases hd with rfl | rfl | rfl
    · exact ⟨[l], rolls1 hA (by omega) i2, rfl, hD2.trans hD4⟩
    · exact ⟨[l.take j, l.drop j], rolls2 hA i2 (by omega) (by omega), rfl, hD2.trans hD4⟩
    · exact ⟨[l.drop j, l.take j], rolls3 hA i2 (by omega) (by omega), rfl, hD2.trans hD4⟩
  rintro sl S3 ⟨R, hR, rfl, hD3⟩
  refine wo_cut (fun sl S3 => ∃ R : List (List Nat), Rolls R ∧ sl = [some (.ptr n), some (.int 4), some (.str (tx l)), some (.int j), some (.lst (R.map strD)), none, none, none] ∧ Drawn n cs S S3) ?_ ?_
  · simp [i3]
    by_cases h2 : 2 < l.length
    · rw [if_pos (by omega)]
      refine (pick_df (by omega) (by omega)).we hD3.1 fun d S4 ⟨q, hq, e⟩ hD4 => ?_
      subst e
      simp
      by_cases hq0 : q = 0
      · rw [if_pos hq0]
        simp [i3]
        exact ⟨[l.take 1, l.drop 2, (l.take 2).drop 1], rolls4 hA i2 h2, by simp, hD3.trans hD4⟩
      · rw [if_neg hq0, w_sNil]
        exact ⟨R, hR, rfl, hD3.trans hD4⟩
    · rw [if_neg (by omega)]
      exact ⟨R, hR, rfl, hD3⟩
  clear hR hD3 R
  rintro sl S3 ⟨R, hR, rfl, hD3⟩
  simp
  refine (pick_df (by omega) (by omega)).we hD3.1 fun d S4 ⟨q, hq, e⟩ hD4 => ?_
  subst e
  have hc : (1 : Int) + (q : Int) = ((1 + q : Nat) : Int) := by omega
  simp
  simp only [hc]
  have hD := hD3.trans hD4
  refine places_we hR (m := 1 + q) (by omega) (by omega) hD.1 (itRange1_of (j := (1 + q : Nat)) (eName_of rfl) (by omega) (by omega)) (by simp [rangeD]; omega) (fun _ _ _ => trivial) (fun x hx S1 P' h => ?_) fun rows S5 hl hr hD5 => ?_
  · simp [wipeS]
    exact h
  · exact fin_drawn (hD.trans hD5) (by simp) ⟨hD.trans hD5, R, rows, rfl, ⟨hR, by omega, by omega, fun r h => by rw [hl]; exact hr r h⟩, by omega⟩

theorem strs_of {Q : List Nat → Prop} : ∀ {ys : List D}, (∀ y ∈ ys, ∃ t, y = strD t ∧ Q t) → ∃ ts : List (List Nat), ys = ts.map strD ∧ ∀ t ∈ ts, Q t
  | [], _ => ⟨[], rfl, by simp⟩
  | y :: ys, h => by
    obtain ⟨t, e, ht⟩ := h y (by simp)
    obtain ⟨ts, e2, h2⟩ := strs_of (ys := ys) fun y hy => h y (by simp [hy])
    exact ⟨t :: ts, by rw [e, e2]; rfl, fun t' ht' => by
      rcases List.mem_cons.mp ht' with rfl | h
      · exact ht
      · exact h2 t' h⟩
theorem sgs_of {Q : Nat → Prop} : ∀ {ys : List D}, (∀ y ∈ ys, ∃ c, y = sg c ∧ Q c) → ∃ l : List Nat, ys = l.map sg ∧ ∀ c ∈ l, Q c
  | [], _ => ⟨[], rfl, by simp⟩
  | y :: ys, h => by
    obtain ⟨t, e, ht⟩ := h y (by simp)
    obtain ⟨ts, e2, h2⟩ := sgs_of (ys := ys) fun y hy => h y (by simp [hy])
    exact ⟨t :: ts, by rw [e, e2]; rfl, fun t' ht' => by
      rcases List.mem_cons.mp ht' with rfl | h
      · exact ht
      · exact h2 t' h⟩
theorem text_df {n : Nat} {cs : List Int} {roll : List Nat} (h1 : roll ≠ []) (h2 : roll.length ≤ 1000) : DF n cs (f__law_text_of [.ptr n, strD roll, .int 4]) (fun d => ∃ t, d = strD t ∧ t.length ≤ 4 ∧ ∀ c ∈ t, c ∈ roll) := fun S hB => by
  unfold f__law_text_of
  refine we_def rfl ?_
  simp [m__law_text_of, tyStr]
  obtain ⟨d, S1, e, hD1, k, hk, rfl⟩ := ((pick_df (n := n) (cs := cs) (many := 5) (by omega) (by omega)) S hB).get
  have hit := itRange1_of (sl := [some (.ptr n), some (strD roll), some (.int 4), none]) (S := S) (S1 := S1) (j := k) (f := eArgs f__law_pick (aCons (eName 0) (aCons (eBin addX (eName 2) (eLit (.int 1))) aNil))) (by simp [eArgs, aCons, aNil, eName, eBin, eLit, e]) (by omega) (by omega)
  refine we_lc_draw hD1 hit (by simp [rangeD]; omega) (fun _ _ _ => trivial) (fun _ d => ∃ c ∈ roll, d = sg c) (fun x hx S' acc hD => ?_) (fun _ d ⟨c, _, e⟩ => by rw [e]; simp) fun ys S' hl hy hD => ?_
  · simp [wipeS]
    exact (ofS_df h1 (by omega)).app hD.1 fun d S4 hd hD4 => ⟨S4, rfl, hD4, hd⟩
  · simp [rangeD] at hl
    obtain ⟨l, rfl, hQ⟩ := sgs_of (Q := fun c => c ∈ roll) (ys := ys) fun y h => let ⟨_, _, c, hc, e⟩ := hy y h; ⟨c, e, hc⟩
    simp at hl
    rw [w_joinSg (l := l) rfl]
    exact ⟨by omega, fin_drawn (hD1.trans hD) (by simp) ⟨hD1.trans hD, l, rfl, by omega, hQ⟩⟩
end K51
namespace K51
open PySem L2 Z

theorem reads_ne {R : List (List Nat)} {rows : List Row} {ts : List (List Nat)} (h : ts.length ≠ R.length) (hl : ts.length ≤ 1000) (S : Store) : f_Reader_reads (readerD R rows :: ts.map strD) S = .ok (.bl false) S := by
  refine eq_of_we ?_
  unfold f_Reader_reads
  have i1 : ¬ ((ts.length : Int) = (R.length : Int)) := by omega
  rw [w_starS (by simp) (by simp; omega), we_defS]
  simp [m_Reader_reads, readerD]
  rw [if_neg i1]
  simp
theorem okS_abc {l : List Nat} (h : ∀ c ∈ l, c ∈ abc) : okS l := fun c hc => by
  have := mem_abc.mp (h c hc)
  omega
theorem run_empty {R : List (List Nat)} {rows : List Row} (h : OkRows R rows) (k : Nat) : ∃ r, rows[0]? = some r ∧ run rows (tot (List.replicate k []) + 1) 0 (List.replicate k []) = r.acc := by
  have h0 : rows[0]? = some (rows[0]'h.ne) := by simp
  refine ⟨_, h0, ?_⟩
  rw [run_step h0, if_pos]
  rw [List.all_eq_true]
  intro x hx
  rw [List.eq_of_mem_replicate hx]
  rfl
theorem same_bl (b : Bool) (S : Store) : f__law_same [.bl b, .bl b] S = .ok (.bl true) S := same_refl 11 _ S (by simp)
theorem same_bls (bs : List Bool) (hl : bs.length ≤ 1000) (S : Store) : f__law_same [.lst (bs.map .bl), .lst (bs.map .bl)] S = .ok (.bl true) S := same_refl 11 _ S ⟨plainL_iff.mpr fun x hx => by
  obtain ⟨b, _, rfl⟩ := List.mem_map.mp hx
  simp, by simp; omega⟩
theorem repD_false {k : Nat} : repD k [D.bl false] = List.replicate k (.bl false) := by
  unfold repD
  induction k with
  | zero => rfl
  | succ k ih => simp [List.replicate_succ, ih]
theorem repD_str {k : Nat} : repD k [strD []] = (List.replicate k ([] : List Nat)).map strD := by
  unfold repD
  induction k with
  | zero => rfl
  | succ k ih => simp [List.replicate_succ] at ih ⊢
theorem mulX_rep {d : D} {k : Nat} {S : Store} (h : k < 1000) : mulX (.lst [d]) (.int k) S = .ok (.lst (repD k [d])) S := by
  unfold mulX
  rw [orS2_r (by rfl)]
  simp only [mulL, asL_lst']
  rw [if_pos ⟨by omega, by simp <;> omega, by omega⟩]
  simp
theorem ne_falses {S : Store} {n k : Nat} (hk : k ≤ 4) (h : S[n]? = some (.lst (List.replicate k (.bl false)))) : eqD true (.ptr n) (.lst (List.replicate k (.bl false))) S = .ok (.bl false) S := by
  simp only [eqD, toP, h]
  have : k = 0 ∨ k = 1 ∨ k = 2 ∨ k = 3 ∨ k = 4 := by omega
  rcases this with rfl | rfl | rfl | rfl | rfl <;> rfl
@[simp] theorem fl_readerD {R : List (List Nat)} {rows : List Row} {S : Store} : fldsOf S (readerD R rows) = some ((("Reader" : Str), ((["own_rolls", "rows"] : List Str), ([.tup (R.map strD), .lst (rows.map rowD)] : List D)))) := (rfl)
theorem tab_reads : tabOf [("Reader", f_Reader_reads)] "Reader" = some f_Reader_reads := by simp [tabOf]
theorem ne1 : ¬ ("reads" : Str) = "own_rolls" := by decide
theorem ne2 : ¬ ("reads" : Str) = "rows" := by decide
theorem lit_A : ("A" : Str) = tx [65] := by decide +kernel
theorem lit_0 : ("0" : Str) = tx [48] := by decide +kernel
theorem law_we (ns : List Int) : We (defS 14 m_law [.scr ns] []) (fun d S => d = .bl true) (fun _ _ => False) := by
  rw [we_defS]
  unfold m_law
  rw [w_sSeq]
  simp [-w_sSeq]
  refine bag_start ns ?_
  refine wo_cut (fun sl S => True) ?_ ?_
  · refine wo_for (itRange1_of (j := 4) rfl (by omega) (by omega)) (fun pre sl S1 => IsBag S1 0 (ns.take 63) ∧ ∃ x2 x3 x4 x5 x6 x7 x8 x9 x10 x11 x12 x13, sl = [some (.scr ns), some (.ptr 0), x2, x3, x4, x5, x6, x7, x8, x9, x10, x11, x12, x13]) ⟨bag_is ns, _, _, _, _, _, _, _, _, _, _, _, _, rfl⟩ ?_ ?_
    · rintro p x post sl S1 he ⟨hB, x2, x3, x4, x5, x6, x7, x8, x9, x10, x11, x12, x13, rfl⟩
      refine ⟨trivial, ?_⟩
      rw [w_gSet]
      simp only [List.set_cons_succ, List.set_cons_zero]
      refine wo_cut (fun sl S2 => IsBag S2 0 (ns.take 63) ∧ ∃ R rows, OkRows R rows ∧ rows.length ≤ 4 ∧ sl = [some (.scr ns), some (.ptr 0), some x, some (.lst (R.map strD)), some (.lst (rows.map rowD)), x5, x6, x7, x8, x9, x10, x11, x12, x13]) ?_ ?_
      · simp
        exact reader_df.we hB fun d S2 ⟨R, rows, e, h1, h2⟩ hD => by
          subst e
          simp [readerT]
          exact ⟨hD.1, R, rows, h1, h2, rfl, rfl⟩
      rintro sl S2 ⟨hB2, R, rows, hO, hr4, rfl⟩
      refine wo_cut (fun sl S3 => IsBag S3 0 (ns.take 63) ∧ ∃ late, OkRows R late ∧ late.length = rows.length ∧ sl = [some (.scr ns), some (.ptr 0), some x, some (.lst (R.map strD)), some (.lst (rows.map rowD)), some (.lst (late.map rowD)), x6, x7, x8, x9, x10, x11, x12, x13]) ?_ ?_
      · simp
        refine places_we hO.ro hO.ne (by omega) hB2 (itAny_of (eName_of rfl) (srcD_lst _)) (by simp) (fun _ _ _ => rfl) (fun y hy S' P' h => ?_) fun late S3 hl hr hD3 => ?_
        · simp [wipeS]
          exact h
        · exact ⟨hD3.1, late, ⟨hO.ro, by have := hO.ne; omega, by have := hO.le; omega, fun r h => by rw [hl]; exact hr r h⟩, hl, by simp⟩
      rintro sl S3 ⟨hB3, late, hL, hll, rfl⟩
      refine wo_cut (fun sl S4 => IsBag S4 0 (ns.take 63) ∧ sl = [some (.scr ns), some (.ptr 0), some x, some (.lst (R.map strD)), some (.lst (rows.map rowD)), some (.lst (late.map rowD)), x6, some (readerD R rows), some (readerD R late), x9, x10, x11, x12, x13]) ?_ ?_
      · simp
        refine make_we hO (.inl rfl) (.inl rfl) _ ?_
        refine make_we hL (.inr rfl) (.inr rfl) _ ?_
        exact ⟨hB3, by simp⟩
      rintro sl S4 ⟨hB4, rfl⟩
      refine wo_cut (fun sl S5 => IsBag S5 0 (ns.take 63) ∧ ∃ x9 x10 x11 x12 x13, sl = [some (.scr ns), some (.ptr 0), some x, some (.lst (R.map strD)), some (.lst (rows.map rowD)), some (.lst (late.map rowD)), x6, some (readerD R rows), some (readerD R late), x9, x10, x11, x12, x13]) ?_ ?_
      · refine wo_for (itRange1_of (j := 6) rfl (by omega) (by omega)) (fun pre sl S1 => IsBag S1 0 (ns.take 63) ∧ ∃ x9 x10 x11 x12 x13, sl = [some (.scr ns), some (.ptr 0), some x, some (.lst (R.map strD)), some (.lst (rows.map rowD)), some (.lst (late.map rowD)), x6, some (readerD R rows), some (readerD R late), x9, x10, x11, x12, x13]) ⟨hB4, _, _, _, _, _, rfl⟩ ?_ ?_
        · rintro p' x' post' sl S5 he' ⟨hB5, x9, x10, x11, x12, x13, rfl⟩
          refine ⟨trivial, ?_⟩
          rw [w_gSet]
          simp only [List.set_cons_succ, List.set_cons_zero]
          refine wo_cut (fun sl S6 => ∃ (S7 : Store) (texts : List (List Nat)), S6 = S7 ++ [.lst (texts.map strD)] ∧ IsBag S7 0 (ns.take 63) ∧ texts.length = R.length ∧ (∀ t ∈ texts, t.length ≤ 4 ∧ okS t) ∧ sl = [some (.scr ns), some (.ptr 0), some x, some (.lst (R.map strD)), some (.lst (rows.map rowD)), some (.lst (late.map rowD)), x6, some (readerD R rows), some (readerD R late), some x', some (.ptr S7.length), x11, x12, x13]) ?_ ?_
          · simp
            have i3 := hO.ro.n3
            refine we_lc_drawH hB5 (itAny_of (eName_of rfl) (srcD_lst _)) (by simp; omega) (fun _ _ _ => rfl) (fun _ d => ∃ t, d = strD t ∧ t.length ≤ 4 ∧ okS t) (fun y hy S' acc hD => ?_) fun ys S' hl hy hD => ?_
            · obtain ⟨r, hr, rfl⟩ := List.mem_map.mp hy
              have hal := hO.ro.al r hr
              have hfl := hO.ro.five r hr
              simp [wipeS]
              refine (text_df (roll := r) (by rintro rfl; simp at hal) (by omega)).app hD.1 fun d S4 ⟨t, e, h1, h2⟩ hD4 => ?_
              exact ⟨S4, rfl, hD4, t, e, h1, okS_abc fun c hc => hal.1.low c (h2 c hc)⟩
            · obtain ⟨ts, rfl, hQ⟩ := strs_of (Q := fun t => t.length ≤ 4 ∧ okS t) (ys := ys) fun y h => let ⟨_, _, t, e, hc⟩ := hy y h; ⟨t, e, hc⟩
              simp at hl
              exact ⟨S', ts, rfl, hD.1, hl, hQ, rfl⟩
          rintro sl S6 ⟨S7, texts, rfl, hB7, htl, htx, rfl⟩
          refine wo_cut (fun sl S6 => ∃ (S8 : Store) (texts : List (List Nat)), S6 = S8 ++ [.lst (texts.map strD)] ∧ S8.length = S7.length ∧ IsBag S8 0 (ns.take 63) ∧ texts.length = R.length ∧ (∀ t ∈ texts, t.length ≤ 1000 ∧ okS t) ∧ sl = [some (.scr ns), some (.ptr 0), some x, some (.lst (R.map strD)), some (.lst (rows.map rowD)), some (.lst (late.map rowD)), x6, some (readerD R rows), some (readerD R late), some x', some (.ptr S7.length), x11, x12, x13]) ?_ ?_
          · simp
            refine (pick_df (by omega) (by omega)).app hB7 fun d S8 ⟨q, hq, e⟩ hD8 => ?_
            subst e
            simp
            by_cases hq0 : q = 0
            · rw [if_pos hq0]
              simp
              have hl8 := hD8.len
              have i1 := hO.ro.n1
              have hc : (R.length : Int) - 1 = ((R.length - 1 : Nat) : Int) := by omega
              have hR : R[R.length - 1]? = some (R[R.length - 1]'(by omega)) := by simp
              have hRm : R[R.length - 1]'(by omega) ∈ R := List.getElem_mem _
              have hal := hO.ro.al _ hRm
              have hfl := hO.ro.five _ hRm
              generalize R[R.length - 1]'(by omega) = r at hR hal hfl
              have ht0 : texts[0]? = some (texts[0]'(by omega)) := by simp
              have htm := htx _ (List.getElem_mem (show 0 < texts.length by omega))
              generalize texts[0]'(by omega) = t0 at ht0 htm
              rw [w_ix_ptr (get_last hl8)]
              simp [ht0, hc, hR, lit_A, lit_0]
              refine (of_df (by simp) (by simp) (by simp)).app hD8.1 fun d S9 hd hD9 => ?_
              have hd' : ∃ t, d = strD t ∧ t.length ≤ 5 ∧ okS t := by
                simp at hd
                rcases hd with rfl | rfl | rfl
                · exact ⟨[65], rfl, by simp, by intro c hc; simp at hc; omega⟩
                · exact ⟨[48], rfl, by simp, by intro c hc; simp at hc; omega⟩
                · exact ⟨r, rfl, hfl, okS_abc hal.1.low⟩
              obtain ⟨t, rfl, h1, h2⟩ := hd'
              simp
              have hl9 := hD9.len.trans hl8
              refine ⟨by omega, _, setD_lst (k := 0) (get_last hl9) (by simp; omega), S9, texts.set 0 (t0 ++ t), ?_, hl9, hD9.1, by simp [htl], fun u hu => ?_⟩
              · rw [set_last hl9, List.map_set]
              · rcases List.mem_or_eq_of_mem_set hu with h | rfl
                · exact ⟨by have := (htx u h).1; omega, (htx u h).2⟩
                · exact ⟨by simp; omega, fun c hc => by
                    rcases List.mem_append.mp hc with h | h
                    · exact htm.2 c h
                    · exact h2 c h⟩
            · rw [if_neg hq0, w_sNil]
              exact ⟨S8, texts, rfl, hD8.len, hD8.1, htl, fun t ht => ⟨by have := (htx t ht).1; omega, (htx t ht).2⟩, rfl⟩
          clear htx htl texts hB7
          rintro sl S6 ⟨S8, texts, rfl, hl8, hB8, htl, htx, rfl⟩
          have hp : asL (S8 ++ [MO.lst (texts.map strD)]) (.ptr S7.length) = some (texts.map strD) := asL_ptr (get_last hl8)
          have hx1 : ∀ t ∈ texts, t.length ≤ 1000 := fun t h => (htx t h).1
          have a1 := ask_eq hO htl hx1 hp
          have a2 := ask_eq hL htl hx1 hp
          have a3 := lreads_eq hO htl htx hp
          have a4 := lreads_eq hL htl htx hp
          simp [a1, a2, a3, a4]
          generalize run rows (tot texts + 1) 0 texts = b1
          generalize run late (tot texts + 1) 0 texts = b2
          have hs := same_bls [b1, b2, b1] (by simp) (S8 ++ [MO.lst (texts.map strD)])
          simp only [List.map_cons, List.map_nil] at hs
          simp [hs]
          exact hB8.app
        · rintro sl S5 h
          exact ⟨trivial, h⟩
      rintro sl S5 ⟨hB5, x9, x10, x11, x12, x13, rfl⟩
      have n1 := hO.ro.n1
      have n3 := hO.ro.n3
      refine wo_cut (fun sl S6 => ∃ (k : Nat), k ≤ 2 ∧ S6 = S5 ++ [.lst (List.replicate k (.bl false))] ∧ sl = [some (.scr ns), some (.ptr 0), some x, some (.lst (R.map strD)), some (.lst (rows.map rowD)), some (.lst (late.map rowD)), x6, some (readerD R rows), some (readerD R late), x9, x10, x11, some (.ptr S5.length), x13]) ?_ ?_
      · have r0 := fun S => reads_ne (R := R) (rows := rows) (ts := []) (by simp; omega) (by simp) S
        have r4 := fun S => reads_ne (R := R) (rows := rows) (ts := [[], [], [], []]) (by simp; omega) (by simp) S
        simp only [List.map_cons, List.map_nil] at r0 r4
        simp [ne1, ne2, tab_reads, r0, r4]
        exact ⟨2, by omega, rfl⟩
      rintro sl S6 ⟨k, hk, rfl, rfl⟩
      refine wo_cut (fun sl S6 => ∃ (k : Nat), k ≤ 3 ∧ S6 = S5 ++ [.lst (List.replicate k (.bl false))] ∧ sl = [some (.scr ns), some (.ptr 0), some x, some (.lst (R.map strD)), some (.lst (rows.map rowD)), some (.lst (late.map rowD)), x6, some (readerD R rows), some (readerD R late), x9, x10, x11, some (.ptr S5.length), x13]) ?_ ?_
      · simp
        by_cases h1 : R.length = 1
        · rw [if_pos (by omega), w_sNil]
          exact ⟨k, by omega, rfl, rfl⟩
        · rw [if_neg (by omega)]
          have r1 := fun S => reads_ne (R := R) (rows := rows) (ts := [[]]) (by simp; omega) (by simp) S
          simp only [List.map_cons, List.map_nil] at r1
          simp [ne1, ne2, tab_reads, r1]
          refine ⟨tyLst_at (get_last rfl), by omega, k + 1, by omega, ?_⟩
          rw [List.replicate_succ']
      clear hk k
      rintro sl S6 ⟨k, hk, rfl, rfl⟩
      refine wo_cut (fun sl S6 => ∃ (k : Nat), k ≤ 4 ∧ S6 = S5 ++ [.lst (List.replicate k (.bl false))] ∧ sl = [some (.scr ns), some (.ptr 0), some x, some (.lst (R.map strD)), some (.lst (rows.map rowD)), some (.lst (late.map rowD)), x6, some (readerD R rows), some (readerD R late), x9, x10, x11, some (.ptr S5.length), x13]) ?_ ?_
      · simp
        by_cases h1 : R.length = 2
        · rw [if_pos (by omega), w_sNil]
          exact ⟨k, by omega, rfl, rfl⟩
        · rw [if_neg (by omega)]
          have r1 := fun S => reads_ne (R := R) (rows := rows) (ts := [[], []]) (by simp; omega) (by simp) S
          simp only [List.map_cons, List.map_nil] at r1
          simp [ne1, ne2, tab_reads, r1]
          refine ⟨tyLst_at (get_last rfl), by omega, k + 1, by omega, ?_⟩
          rw [List.replicate_succ']
      clear hk k
      rintro sl S6 ⟨k, hk, rfl, rfl⟩
      have hg : (S5 ++ [MO.lst (List.replicate k (.bl false))])[S5.length]? = some (.lst (List.replicate k (.bl false))) := get_last rfl
      have hlen := len_ptr hg
      simp only [List.length_replicate] at hlen
      obtain ⟨r, hr0, hrun⟩ := run_empty hO R.length
      have ha := ask_eq hO (texts := List.replicate R.length []) (by simp) (fun t ht => by rw [List.eq_of_mem_replicate ht]; simp) (S := S5 ++ [MO.lst (List.replicate k (.bl false))]) (d := .lst ((List.replicate R.length ([] : List Nat)).map strD)) rfl
      rw [hrun] at ha
      simp [hlen]
      rw [mulX_rep (by omega), repD_false]
      simp
      rw [ne_falses (by omega) hg]
      simp
      rw [mulX_rep (by omega), repD_str]
      simp only [we_ok, ha]
      simp [hr0, rowD, same_bl]
      exact hB5.app
    · intro sl S1 h
      exact ⟨trivial, trivial⟩
  · intro sl S1 _
    simp
    exact ⟨fun i m hi => by simp at hi, _, rfl, rfl⟩
theorem law_ok : ∀ ns : List Int, ns.length ≤ 63 → ∃ S, defS 14 m_law [.scr ns] [] = .ok (.bl true) S := fun ns _ => by
  obtain ⟨d, S, e, h⟩ := (law_we ns).get
  exact ⟨S, by rw [e, h]⟩
end K51
open PySem PySem.W PyProof.Rows
set_option maxRecDepth 100000 in
set_option maxHeartbeats 0 in
theorem PySem.Challenge.cw_waysagree_k51_texts_read_holds : PySem.Challenge.rw_waysagree_k51_texts_read.Holds := by
  w_on; o_law; k_head; (case hw => w_witness2)
  k_fill
  refine Z.walkZ (l := PySem.Challenge.rw_waysagree_k51_texts_read) (k := 14) (x := "_law_script") rfl rfl ⟨rfl, by decide, by decide⟩ (fun w h Y => PySem.W.kIn_of Y) ?F
  case F =>
    intro w mg fa h KX G hmg
    refine' K51.all_mk K51.law_ok KX G hmg ?h_Reader ?pg_Reader ?hd_Reader ?po_Reader ?sa_Reader ?mk_Reader ?kc_Reader ?na_Reader_own_rolls ?na_Reader_rows ?h_is_alphabet ?l_is_alphabet ?c_is_alphabet ?k_is_alphabet ?h_is_list ?l_is_list ?c_is_list ?k_is_list ?h_are_rolls ?l_are_rolls ?c_are_rolls ?k_are_rolls ?h_is_whole ?l_is_whole ?c_is_whole ?k_is_whole ?h_is_within ?l_is_within ?c_is_within ?k_is_within ?h_is_place ?l_is_place ?c_is_place ?k_is_place ?h_Reader___init__ ?i_Reader___init__ ?l_Reader___init__ ?c_Reader___init__ ?k_Reader___init__ ?h_Reader_reads ?i_Reader_reads ?l_Reader_reads ?c_Reader_reads ?k_Reader_reads ?h__law_ask ?l__law_ask ?c__law_ask ?k__law_ask ?h__law_bag ?l__law_bag ?c__law_bag ?k__law_bag ?h__law_pick ?l__law_pick ?c__law_pick ?k__law_pick ?h__law_of ?l__law_of ?c__law_of ?k__law_of ?h__law_place ?l__law_place ?c__law_place ?k__law_place ?h__law_letters ?l__law_letters ?c__law_letters ?k__law_letters ?h__law_reader ?l__law_reader ?c__law_reader ?k__law_reader ?h__law_reads ?l__law_reads ?c__law_reads ?k__law_reads ?h__law_same ?l__law_same ?c__law_same ?k__law_same ?h__law_text_of ?l__law_text_of ?c__law_text_of ?k__law_text_of ?h_law ?l_law ?c_law ?k_law ?h_LETTERS ?h_MOST_LETTERS ?h_MOST_ROLLS ?b_all ?b_bool ?b_dict ?b_enumerate ?b_int ?b_isinstance ?b_len ?b_list ?b_range ?b_sorted ?b_str ?b_tuple ?b_zip
    (case h_Reader => k_is)
    (case pg_Reader => k_is)
    (case hd_Reader => k_is)
    (case po_Reader => k_is)
    (case sa_Reader => k_is)
    (case mk_Reader => k_is)
    (case kc_Reader => k_is)
    (case na_Reader_own_rolls => k_is)
    (case na_Reader_rows => k_is)
    (case h_is_alphabet => k_is)
    (case l_is_alphabet => k_is)
    (case c_is_alphabet => k_is)
    (case k_is_alphabet => k_is)
    (case h_is_list => k_is)
    (case l_is_list => k_is)
    (case c_is_list => k_is)
    (case k_is_list => k_is)
    (case h_are_rolls => k_is)
    (case l_are_rolls => k_is)
    (case c_are_rolls => k_is)
    (case k_are_rolls => k_is)
    (case h_is_whole => k_is)
    (case l_is_whole => k_is)
    (case c_is_whole => k_is)
    (case k_is_whole => k_is)
    (case h_is_within => k_is)
    (case l_is_within => k_is)
    (case c_is_within => k_is)
    (case k_is_within => k_is)
    (case h_is_place => k_is)
    (case l_is_place => k_is)
    (case c_is_place => k_is)
    (case k_is_place => k_is)
    (case h_Reader___init__ => k_is)
    (case i_Reader___init__ => k_is)
    (case l_Reader___init__ => k_is)
    (case c_Reader___init__ => k_is)
    (case k_Reader___init__ => k_is)
    (case h_Reader_reads => k_is)
    (case i_Reader_reads => k_is)
    (case l_Reader_reads => k_is)
    (case c_Reader_reads => k_is)
    (case k_Reader_reads => k_is)
    (case h__law_ask => k_is)
    (case l__law_ask => k_is)
    (case c__law_ask => k_is)
    (case k__law_ask => k_is)
    (case h__law_bag => k_is)
    (case l__law_bag => k_is)
    (case c__law_bag => k_is)
    (case k__law_bag => k_is)
    (case h__law_pick => k_is)
    (case l__law_pick => k_is)
    (case c__law_pick => k_is)
    (case k__law_pick => k_is)
    (case h__law_of => k_is)
    (case l__law_of => k_is)
    (case c__law_of => k_is)
    (case k__law_of => k_is)
    (case h__law_place => k_is)
    (case l__law_place => k_is)
    (case c__law_place => k_is)
    (case k__law_place => k_is)
    (case h__law_letters => k_is)
    (case l__law_letters => k_is)
    (case c__law_letters => k_is)
    (case k__law_letters => k_is)
    (case h__law_reader => k_is)
    (case l__law_reader => k_is)
    (case c__law_reader => k_is)
    (case k__law_reader => k_is)
    (case h__law_reads => k_is)
    (case l__law_reads => k_is)
    (case c__law_reads => k_is)
    (case k__law_reads => k_is)
    (case h__law_same => k_is)
    (case l__law_same => k_is)
    (case c__law_same => k_is)
    (case k__law_same => k_is)
    (case h__law_text_of => k_is)
    (case l__law_text_of => k_is)
    (case c__law_text_of => k_is)
    (case k__law_text_of => k_is)
    (case h_law => k_is)
    (case l_law => k_is)
    (case c_law => k_is)
    (case k_law => k_is)
    (case h_LETTERS => k_is)
    (case h_MOST_LETTERS => k_is)
    (case h_MOST_ROLLS => k_is)
    (case b_all => k_is)
    (case b_bool => k_is)
    (case b_dict => k_is)
    (case b_enumerate => k_is)
    (case b_int => k_is)
    (case b_isinstance => k_is)
    (case b_len => k_is)
    (case b_list => k_is)
    (case b_range => k_is)
    (case b_sorted => k_is)
    (case b_str => k_is)
    (case b_tuple => k_is)
    (case b_zip => k_is)
