import PyProof.Rows.All
import Wide.All
import OpenK.AllK
import Wide.FinOn
import HandS.ForMost
import HandS.ForExc
import HandS.Lambda
import HandS.Wide
import HandS.TupAny
import HandS.TupMul
import HandS.IsInst
import HandS.Deep
import HandS.RaiseMore
import HandS.Gcd
import HandS.Base
import HandS.Call
import HandS.More
import HandS.Dict
import HandS.Walk
import HandS.Zip
import KE.GoesEnum
import HandS.Style
import HandS.Small
import HandS.Defaults
import HandS.CallSlots
import HandS.ExcField
import HandS.TryMany
import HandS.Exc
import HandS.ExcInit
import KE.KExcSuper
import KE.KStateDown
import HandS.Ends
import HandS.EndBits
import HandS.Words
import HandS.WordsExc
import HandS.Head0
import HandS.Head1
import HandS.Head2
import HandS.HeadEnd
import HandS.HeadHook1
import HandS.HeadHook2
import HandS.HeadHook3
import HandS.Head3
import HandS.Codes
import PyProof.P3Eq
import PySem.Challenge.RW_digitsay_k24_countings_judged_and_valued
section
set_option Elab.async false
set_option linter.all false
set_option maxRecDepth 100000
set_option maxHeartbeats 2000000
/-! DgA: plain values, stores, worlds, what stands for what. -/
namespace Dg
open PySem L2

/-- plain values: immutable data whole; ref n: the n-th mutable object of the store -/
inductive PV where
  | non | bl (b : Bool) | int (i : Int) | str (x : Str) | tup (xs : List PV) | lst (xs : List PV) | ref (n : Nat) | ty (n : String) | scr (xs : List PV) | thk
  deriving Inhabited
/-- mutable objects: a list, a dict with int and text keys -/
inductive MO where
  | lst (xs : List PV) | dct (kvs : List (Key × PV)) | dctT (kvs : List (List Key × PV))
  deriving Inhabited
abbrev Store := List MO
abbrev PEnv := List (Option PV)

/-- where one stands: phi: addresses that no immutable value may lie at; al: where the store's objects lie -/
structure Wd where
  K : PySem.W.Frag
  phi : Addr → Prop
  al : List Addr
  H : Hp
  tb : List (Addr × Str) := []
  tf : Addr := 0
/-- no table of code objects -/
def nTb (o : HO) : Prop := ∀ ps, o ≠ .tbl ps
/-- nothing but perhaps a table -/
def NB (w : Wd) (a : Addr) : Prop := ∀ o, w.H a = some o → ¬ nTb o
theorem NB.of {w : Wd} {a : Addr} (h : w.H a = none) : NB w a := fun o e => by rw [h] at e; cases e

def RLs (w : Wd) (a : Addr) (vs : List V) : Prop :=
  (Rd w.H a (.lst vs) ∧ ¬ w.phi a) ∨
    ∃ (o : Obj) (its : Array Value) (n : Nat), w.K.lookup a = some o ∧ o.cls = .type "list" ∧ o.dict = none ∧ o.data = .seq its n ∧ its.size ≤ sizeLine ∧ Vals vs its.toList
def RTs (w : Wd) (a : Addr) (vs : List V) : Prop :=
  (Rd w.H a (.tup vs) ∧ ¬ w.phi a) ∨
    ∃ (o : Obj) (its : Array Value) (n : Nat), w.K.lookup a = some o ∧ o.cls = .type "tuple" ∧ o.data = .seq its n ∧ its.size ≤ sizeLine ∧ Vals vs its.toList
theorem RLs.sq {w : Wd} {a : Addr} {vs : List V} (h : RLs w a vs) : SqL w.K w.H a vs := by
  rcases h with ⟨h, _⟩ | h
  · exact .inl h
  · exact .inr h
theorem RTs.sq {w : Wd} {a : Addr} {vs : List V} (h : RTs w a vs) : SqT w.K w.H a vs := by
  rcases h with ⟨h, _⟩ | h
  · exact .inl h
  · exact .inr h

mutual
inductive Rep (w : Wd) : V → PV → Prop where
  | non : Rep w .non .non
  | bl (b : Bool) : Rep w (.bl b) (.bl b)
  | int (i : Int) : Rep w (.int i) (.int i)
  | str (x : Str) : Rep w (.str x) (.str x)
  | ty (n : String) : Rep w (.ty n) (.ty n)
  | tup {a : Addr} {vs : List V} {xs : List PV} : RTs w a vs → Reps w vs xs → Rep w (.ref a) (.tup xs)
  | lst {a : Addr} {vs : List V} {xs : List PV} : Rd w.H a (.lst vs) ∧ ¬ w.phi a → Reps w vs xs → Rep w (.ref a) (.lst xs)
  | scr {a : Addr} {vs : List V} {xs : List PV} : RLs w a vs → Reps w vs xs → Rep w (.ref a) (.scr xs)
  | ref {a : Addr} {n : Nat} : w.al[n]? = some a → Rep w (.ref a) (.ref n)
  | thk : Rep w (.ref w.tf) .thk
inductive Reps (w : Wd) : List V → List PV → Prop where
  | nil : Reps w [] []
  | cons {v : V} {x : PV} {vs : List V} {xs : List PV} : Rep w v x → Reps w vs xs → Reps w (v :: vs) (x :: xs)
end

/-- a later world -/
structure Ext (w u : Wd) : Prop where
  k : u.K = w.K
  al : ∃ b, u.al = w.al ++ b ∧ ∀ a ∈ b, ¬ w.phi a ∧ NB w a
  phi : ∀ a, w.phi a → u.phi a
  keep : ∀ (a : Addr) (o : HO), w.H a = some o → nTb o → ¬ w.phi a → u.H a = some o
  new : ∀ a, u.phi a → ¬ w.phi a → NB w a
  hid : ∀ a, w.phi a → a ∉ w.al → (∀ p ∈ w.tb, p.1 ≠ a) → u.H a = w.H a
  tb : u.tb = w.tb
  tf : u.tf = w.tf
/-- what a value's reading needs -/
structure RM (w u : Wd) : Prop where
  k : u.K = w.K
  al : ∀ (n : Nat) (a : Addr), w.al[n]? = some a → u.al[n]? = some a
  keep : ∀ (a : Addr) (o : HO), w.H a = some o → nTb o → ¬ w.phi a → u.H a = some o ∧ ¬ u.phi a
  tf : u.tf = w.tf
theorem Ext.refl (w : Wd) : Ext w w := ⟨rfl, ⟨[], by simp, fun a h => absurd h (by simp)⟩, fun _ h => h, fun _ _ h _ _ => h, fun _ h n => absurd h n, fun _ _ _ _ => rfl, rfl, rfl⟩
theorem Ext.phi_back {w u : Wd} (e : Ext w u) {a : Addr} {o : HO} (h : w.H a = some o) (t : nTb o) (n : ¬ w.phi a) : ¬ u.phi a := fun q => e.new a q n o h t
theorem Ext.trans {w u t : Wd} (e : Ext w u) (f : Ext u t) : Ext w t := by
  obtain ⟨b, hb, nb⟩ := e.al
  obtain ⟨c, hc, nc⟩ := f.al
  have none_back : ∀ a, ¬ w.phi a → NB u a → NB w a := fun a n h o q t => h o (e.keep a o q t n) t
  refine ⟨f.k.trans e.k, ⟨b ++ c, by rw [hc, hb, List.append_assoc], fun a ha => ?_⟩, fun a h => f.phi a (e.phi a h), fun a o h nt n => f.keep a o (e.keep a o h nt n) nt (e.phi_back h nt n), fun a h n => ?_, fun a h n nt => ?_, f.tb.trans e.tb, f.tf.trans e.tf⟩
  · rcases List.mem_append.mp ha with h | h
    · exact nb a h
    · obtain ⟨n1, n2⟩ := nc a h
      have n3 : ¬ w.phi a := fun q => n1 (e.phi a q)
      exact ⟨n3, none_back a n3 n2⟩
  · by_cases q : u.phi a
    · exact e.new a q n
    · exact none_back a n (f.new a h q)
  · rw [f.hid a (e.phi a h) (by
      rw [hb]; intro z
      rcases List.mem_append.mp z with z | z
      · exact n z
      · exact (nb a z).1 h) (by rw [e.tb]; exact nt), e.hid a h n nt]
theorem Ext.ref {w u : Wd} (e : Ext w u) {n : Nat} {a : Addr} (h : w.al[n]? = some a) : u.al[n]? = some a := by
  obtain ⟨b, hb, _⟩ := e.al
  rw [hb, List.getElem?_append_left (List.getElem?_eq_some_iff.mp h).1]
  exact h
theorem Ext.rm {w u : Wd} (e : Ext w u) : RM w u := ⟨e.k, fun _ _ h => e.ref h, fun a o h t n => ⟨e.keep a o h t n, e.phi_back h t n⟩, e.tf⟩
theorem nTb_lst {vs : List V} : nTb (.lst vs) := fun _ z => by cases z
theorem nTb_tup {vs : List V} : nTb (.tup vs) := fun _ z => by cases z
theorem nTb_frz {o : Obj} {u : HO} : nTb (.frz o u) := fun _ z => by cases z
theorem nTb_xd {fs : List (Str × V)} : nTb (.xd fs) := fun _ z => by cases z
theorem RLs.monoR {w u : Wd} (e : RM w u) {a : Addr} {vs : List V} (h : RLs w a vs) : RLs u a vs := by
  rcases h with ⟨h | ⟨o, h⟩, n⟩ | h
  · exact .inl ⟨.inl (e.keep _ _ h nTb_lst n).1, (e.keep _ _ h nTb_lst n).2⟩
  · exact .inl ⟨.inr ⟨o, (e.keep _ _ h nTb_frz n).1⟩, (e.keep _ _ h nTb_frz n).2⟩
  · exact .inr (by rw [e.k]; exact h)
theorem rd_monoR {w u : Wd} (e : RM w u) {a : Addr} {vs : List V} (h : Rd w.H a (.lst vs) ∧ ¬ w.phi a) : Rd u.H a (.lst vs) ∧ ¬ u.phi a := by
  rcases h with ⟨h | ⟨o, h⟩, n⟩
  · exact ⟨.inl (e.keep _ _ h nTb_lst n).1, (e.keep _ _ h nTb_lst n).2⟩
  · exact ⟨.inr ⟨o, (e.keep _ _ h nTb_frz n).1⟩, (e.keep _ _ h nTb_frz n).2⟩
theorem RTs.monoR {w u : Wd} (e : RM w u) {a : Addr} {vs : List V} (h : RTs w a vs) : RTs u a vs := by
  rcases h with ⟨h | ⟨o, h⟩, n⟩ | h
  · exact .inl ⟨.inl (e.keep _ _ h nTb_tup n).1, (e.keep _ _ h nTb_tup n).2⟩
  · exact .inl ⟨.inr ⟨o, (e.keep _ _ h nTb_frz n).1⟩, (e.keep _ _ h nTb_frz n).2⟩
  · exact .inr (by rw [e.k]; exact h)
mutual
theorem Rep.monoR {w u : Wd} (e : RM w u) : ∀ {v : V} {x : PV}, Rep w v x → Rep u v x
  | _, _, .non => .non
  | _, _, .bl b => .bl b
  | _, _, .int i => .int i
  | _, _, .str x => .str x
  | _, _, .ty n => .ty n
  | _, _, .tup h r => .tup (h.monoR e) (Reps.monoR e r)
  | _, _, .lst h r => .lst (rd_monoR e h) (Reps.monoR e r)
  | _, _, .scr h r => .scr (h.monoR e) (Reps.monoR e r)
  | _, _, .ref h => .ref (e.al _ _ h)
  | _, _, .thk => by have := e.tf; rw [← this]; exact .thk
theorem Reps.monoR {w u : Wd} (e : RM w u) : ∀ {vs : List V} {xs : List PV}, Reps w vs xs → Reps u vs xs
  | _, _, .nil => .nil
  | _, _, .cons h r => .cons (Rep.monoR e h) (Reps.monoR e r)
end
theorem Rep.mono {w u : Wd} (e : Ext w u) {v : V} {x : PV} (h : Rep w v x) : Rep u v x := h.monoR e.rm
theorem Reps.mono {w u : Wd} (e : Ext w u) {vs : List V} {xs : List PV} (h : Reps w vs xs) : Reps u vs xs := h.monoR e.rm
theorem rd_mono {w u : Wd} (e : Ext w u) {a : Addr} {vs : List V} (h : Rd w.H a (.lst vs) ∧ ¬ w.phi a) : Rd u.H a (.lst vs) ∧ ¬ u.phi a := rd_monoR e.rm h
theorem RTs.mono {w u : Wd} (e : Ext w u) {a : Addr} {vs : List V} (h : RTs w a vs) : RTs u a vs := h.monoR e.rm
theorem RLs.mono {w u : Wd} (e : Ext w u) {a : Addr} {vs : List V} (h : RLs w a vs) : RLs u a vs := h.monoR e.rm
theorem Reps.length {w : Wd} : ∀ {vs : List V} {xs : List PV}, Reps w vs xs → vs.length = xs.length
  | _, _, .nil => rfl
  | _, _, .cons _ r => congrArg Nat.succ (Reps.length r)
theorem Reps.get {w : Wd} : ∀ {vs : List V} {xs : List PV} {i : Nat} {x : PV}, Reps w vs xs → xs[i]? = some x → ∃ v, vs[i]? = some v ∧ Rep w v x
  | _, _, _, _, .nil, h => by simp at h
  | _, _, 0, _, .cons h _, e => by simp at e; subst e; exact ⟨_, rfl, h⟩
  | _, _, i + 1, x, .cons _ r, e => by
    obtain ⟨v, h1, h2⟩ := Reps.get (i := i) (x := x) r (by simpa using e)
    exact ⟨v, by simpa using h1, h2⟩
theorem Reps.getV {w : Wd} : ∀ {vs : List V} {xs : List PV} {i : Nat} {v : V}, Reps w vs xs → vs[i]? = some v → ∃ x, xs[i]? = some x ∧ Rep w v x
  | _, _, _, _, .nil, h => by simp at h
  | _, _, 0, _, .cons h _, e => by simp at e; subst e; exact ⟨_, rfl, h⟩
  | _, _, i + 1, v, .cons _ r, e => by
    obtain ⟨x, h1, h2⟩ := Reps.getV (i := i) (v := v) r (by simpa using e)
    exact ⟨x, by simpa using h1, h2⟩
theorem Reps.append {w : Wd} : ∀ {vs us : List V} {xs ys : List PV}, Reps w vs xs → Reps w us ys → Reps w (vs ++ us) (xs ++ ys)
  | _, _, _, _, .nil, s => s
  | _, _, _, _, .cons h r, s => .cons h (Reps.append r s)
theorem Reps.set {w : Wd} {v : V} {x : PV} (r : Rep w v x) : ∀ {vs : List V} {xs : List PV} (i : Nat), Reps w vs xs → Reps w (vs.set i v) (xs.set i x)
  | _, _, _, .nil => .nil
  | _, _, 0, .cons _ t => .cons r t
  | _, _, i + 1, .cons q t => .cons q (Reps.set r i t)
theorem Reps.take {w : Wd} : ∀ {vs : List V} {xs : List PV} (n : Nat), Reps w vs xs → Reps w (vs.take n) (xs.take n)
  | _, _, 0, _ => .nil
  | _, _, _ + 1, .nil => .nil
  | _, _, n + 1, .cons h r => .cons h (Reps.take n r)
theorem Reps.drop {w : Wd} : ∀ {vs : List V} {xs : List PV} (n : Nat), Reps w vs xs → Reps w (vs.drop n) (xs.drop n)
  | _, _, 0, r => r
  | _, _, _ + 1, .nil => .nil
  | _, _, n + 1, .cons _ r => Reps.drop n r
theorem Reps.reverse {w : Wd} : ∀ {vs : List V} {xs : List PV}, Reps w vs xs → Reps w vs.reverse xs.reverse
  | _, _, .nil => .nil
  | _, _, .cons h r => by rw [List.reverse_cons, List.reverse_cons]; exact (Reps.reverse r).append (.cons h .nil)
theorem Reps.snoc {w : Wd} {v : V} {x : PV} {vs : List V} {xs : List PV} (r : Reps w vs xs) (h : Rep w v x) : Reps w (vs ++ [v]) (xs ++ [x]) := r.append (.cons h .nil)

/-- a dict's pairs -/
inductive RepK {κ : Type} (w : Wd) : List (κ × V) → List (κ × PV) → Prop where
  | nil : RepK w [] []
  | cons {k : κ} {v : V} {x : PV} {vs : List (κ × V)} {xs : List (κ × PV)} : Rep w v x → RepK w vs xs → RepK w ((k, v) :: vs) ((k, x) :: xs)
theorem RepK.monoR {κ : Type} {w u : Wd} (e : RM w u) : ∀ {vs : List (κ × V)} {xs : List (κ × PV)}, RepK w vs xs → RepK u vs xs
  | _, _, .nil => .nil
  | _, _, .cons h r => .cons (h.monoR e) (RepK.monoR e r)
theorem RepK.mono {κ : Type} {w u : Wd} (e : Ext w u) {vs : List (κ × V)} {xs : List (κ × PV)} (h : RepK w vs xs) : RepK u vs xs := h.monoR e.rm
theorem RepK.length {κ : Type} {w : Wd} : ∀ {vs : List (κ × V)} {xs : List (κ × PV)}, RepK w vs xs → vs.length = xs.length
  | _, _, .nil => rfl
  | _, _, .cons _ r => congrArg Nat.succ (RepK.length r)

/-- what stands at a store object's address -/
def MRep (w : Wd) (a : Addr) : MO → Prop
  | .lst xs => ∃ vs, w.H a = some (.lst vs) ∧ Reps w vs xs
  | .dct kvs => ∃ ws, w.H a = some (.dK ws) ∧ RepK w ws kvs
  | .dctT kvs => ∃ ws, w.H a = some (.dT ws) ∧ RepK w ws kvs
/-- no code object -/
def nCo (o : HO) : Prop := ∀ c q, o ≠ LamX.CodeO c q
/-- the tables of code objects -/
structure TbOk (w : Wd) : Prop where
  tabs : LamX.Tabs w.tb w.H
  in_ : ∀ p ∈ w.tb, w.phi p.1 ∧ p.1 ∉ w.al
  nc : ∀ (a : Addr) (o : HO), w.phi a → w.H a = some o → nCo o
structure HRel (w : Wd) (S : Store) : Prop where
  len : w.al.length = S.length
  nd : w.al.Nodup
  phi : ∀ a ∈ w.al, w.phi a
  dom : ∀ a, w.phi a → ∃ o, w.H a = some o
  objs : ∀ (n : Nat) (a : Addr) (o : MO), w.al[n]? = some a → S[n]? = some o → MRep w a o
  t : TbOk w
theorem MRep.monoR {w u : Wd} (e : RM w u) {a : Addr} {o : MO} (h : MRep w a o) (hk : u.H a = w.H a) : MRep u a o := by
  cases o with
  | lst xs => obtain ⟨vs, h1, h2⟩ := h; exact ⟨vs, hk.trans h1, h2.monoR e⟩
  | dct xs => obtain ⟨vs, h1, h2⟩ := h; exact ⟨vs, hk.trans h1, h2.monoR e⟩
  | dctT xs => obtain ⟨vs, h1, h2⟩ := h; exact ⟨vs, hk.trans h1, h2.monoR e⟩
theorem MRep.mono {w u : Wd} (e : Ext w u) {a : Addr} {o : MO} (h : MRep w a o) (hk : u.H a = w.H a) : MRep u a o := h.monoR e.rm hk
theorem HRel.at_ {w : Wd} {S : Store} (h : HRel w S) {n : Nat} {o : MO} (e : S[n]? = some o) : ∃ a, w.al[n]? = some a ∧ MRep w a o := by
  have hn : n < w.al.length := by rw [h.len]; exact (List.getElem?_eq_some_iff.mp e).1
  exact ⟨w.al[n], List.getElem?_eq_getElem hn, h.objs n _ o (List.getElem?_eq_getElem hn) e⟩
theorem MRep.there {w : Wd} {a : Addr} {o : MO} (h : MRep w a o) : ∃ u, w.H a = some u := by
  cases o with
  | lst xs => obtain ⟨vs, h1, _⟩ := h; exact ⟨_, h1⟩
  | dct xs => obtain ⟨vs, h1, _⟩ := h; exact ⟨_, h1⟩
  | dctT xs => obtain ⟨vs, h1, _⟩ := h; exact ⟨_, h1⟩
theorem HRel.there {w : Wd} {S : Store} (h : HRel w S) {a : Addr} (ha : a ∈ w.al) : ∃ u, w.H a = some u := by
  obtain ⟨n, hn, e⟩ := List.getElem_of_mem ha
  have h1 : w.al[n]? = some a := by rw [List.getElem?_eq_getElem hn, e]
  have h2 : n < S.length := by rw [← h.len]; exact hn
  exact (h.objs n a S[n] h1 (List.getElem?_eq_getElem h2)).there
/-- objects laid that nobody of the store tracks -/
theorem TbOk.same {w u : Wd} (t : TbOk w) (tb : u.tb = w.tb) (ha : ∀ a, w.phi a → a ∈ u.al → a ∈ w.al) (hp : ∀ a, w.phi a → u.phi a) (k : ∀ a o, w.H a = some o → (∀ p ∈ w.tb, p.1 = a → u.H a = some o) ∧ ((∃ c q, o = LamX.CodeO c q) → u.H a = some o)) (nc : ∀ (a : Addr) (o : HO), u.phi a → u.H a = some o → nCo o) : TbOk u := by
  refine ⟨?_, fun p h => ?_, nc⟩
  · rw [tb]
    intro p h
    obtain ⟨ps, h1, h2, h3⟩ := t.tabs p h
    refine ⟨ps, (k _ _ h1).1 p h rfl, h2, fun pos cv hc => ?_⟩
    obtain ⟨c, e1, e2⟩ := h3 pos cv hc
    exact ⟨c, e1, (k _ _ e2).2 ⟨_, _, rfl⟩⟩
  · rw [tb] at h
    obtain ⟨h1, h2⟩ := t.in_ p h
    exact ⟨hp _ h1, fun z => h2 (ha _ h1 z)⟩
theorem TbOk.same2 {w u : Wd} (t : TbOk w) (tb : u.tb = w.tb) (ha : ∀ p ∈ w.tb, p.1 ∉ u.al) (hp : ∀ a, w.phi a → u.phi a) (k : ∀ a o, w.H a = some o → (∀ p ∈ w.tb, p.1 = a → u.H a = some o) ∧ ((∃ c q, o = LamX.CodeO c q) → u.H a = some o)) (nc : ∀ (a : Addr) (o : HO), u.phi a → u.H a = some o → nCo o) : TbOk u := by
  refine ⟨?_, fun p h => ?_, nc⟩
  · rw [tb]
    intro p h
    obtain ⟨ps, h1, h2, h3⟩ := t.tabs p h
    refine ⟨ps, (k _ _ h1).1 p h rfl, h2, fun pos cv hc => ?_⟩
    obtain ⟨c, e1, e2⟩ := h3 pos cv hc
    exact ⟨c, e1, (k _ _ e2).2 ⟨_, _, rfl⟩⟩
  · rw [tb] at h
    exact ⟨hp _ (t.in_ p h).1, ha p h⟩
theorem HRel.grow {w : Wd} {S : Store} (h : HRel w S) {H' : Hp} (k : ∀ a o, w.H a = some o → H' a = some o) : HRel { w with H := H' } S ∧ Ext w { w with H := H' } := by
  have e : Ext w { w with H := H' } := ⟨rfl, ⟨[], by simp, fun a h => absurd h (by simp)⟩, fun _ h => h, fun a o h _ _ => k a o h, fun _ h n => absurd h n, fun a q _ _ => by
    obtain ⟨o, ho⟩ := h.dom a q
    show H' a = _
    rw [ho, k a o ho], rfl, rfl⟩
  refine ⟨⟨h.len, h.nd, h.phi, fun a q => (h.dom a q).imp fun o q => k a o q, fun n a o h1 h2 => ?_, ?_⟩, e⟩
  · have m := h.objs n a o h1 h2
    obtain ⟨u, hu⟩ := m.there
    exact m.mono e (show H' a = w.H a by rw [hu]; exact k a u hu)
  · refine h.t.same rfl (fun a _ z => z) (fun a q => q) (fun a o q => ⟨fun _ _ _ => k a o q, fun _ => k a o q⟩) fun a o q z => ?_
    obtain ⟨u, hu⟩ := h.dom a q
    have z' : H' a = some o := z
    rw [k a u hu] at z'
    cases z'
    exact h.t.nc a _ q hu
theorem HRel.laid {w : Wd} {S : Store} (h : HRel w S) {p : Addr} {o : HO} (hp : w.H p = none) : HRel { w with H := upd w.H p o } S ∧ Ext w { w with H := upd w.H p o } :=
  h.grow fun a u q => by rw [upd_ne (ne_of_none q hp)]; exact q
theorem HRel.notAl {w : Wd} {S : Store} (h : HRel w S) {p : Addr} (hp : w.H p = none) : p ∉ w.al := fun hm => by
  obtain ⟨u, hu⟩ := h.there hm
  rw [hp] at hu; cases hu
theorem HRel.notPhi {w : Wd} {S : Store} (h : HRel w S) {p : Addr} (hp : w.H p = none) : ¬ w.phi p := fun hm => by
  obtain ⟨u, hu⟩ := h.dom p hm
  rw [hp] at hu; cases hu
/-- a new tuple, a new list that stays as it is -/
theorem HRel.newT {w : Wd} {S : Store} (h : HRel w S) {p : Addr} {vs : List V} {xs : List PV} (hp : w.H p = none) (r : Reps w vs xs) :
    HRel { w with H := upd w.H p (.tup vs) } S ∧ Ext w { w with H := upd w.H p (.tup vs) } ∧ Rep { w with H := upd w.H p (.tup vs) } (.ref p) (.tup xs) := by
  obtain ⟨h1, e1⟩ := h.laid (o := .tup vs) hp
  exact ⟨h1, e1, .tup (.inl ⟨.inl upd_same, h.notPhi hp⟩) (r.mono e1)⟩
theorem HRel.newL {w : Wd} {S : Store} (h : HRel w S) {p : Addr} {vs : List V} {xs : List PV} (hp : w.H p = none) (r : Reps w vs xs) :
    HRel { w with H := upd w.H p (.lst vs) } S ∧ Ext w { w with H := upd w.H p (.lst vs) } ∧ Rep { w with H := upd w.H p (.lst vs) } (.ref p) (.lst xs) := by
  obtain ⟨h1, e1⟩ := h.laid (o := .lst vs) hp
  exact ⟨h1, e1, .lst ⟨.inl upd_same, h.notPhi hp⟩ (r.mono e1)⟩
/-- a new object of the store -/
def Wd.add (w : Wd) (p : Addr) (o : HO) : Wd := { w with phi := fun a => w.phi a ∨ a = p, al := w.al ++ [p], H := upd w.H p o }
theorem Ext.add {w : Wd} {S : Store} (h : HRel w S) {p : Addr} {o : HO} (hp : w.H p = none) : Ext w (w.add p o) := by
  refine ⟨rfl, ⟨[p], rfl, fun a ha => ?_⟩, fun a q => .inl q, fun a u q _ _ => ?_, fun a q n => ?_, fun a q _ _ => ?_, rfl, rfl⟩
  · have e : a = p := by simpa using ha
    rw [e]; exact ⟨h.notPhi hp, .of hp⟩
  · show upd w.H p o a = some u
    rw [upd_ne (ne_of_none q hp)]; exact q
  · rcases q with q | q
    · exact absurd q n
    · rw [q]; exact .of hp
  · obtain ⟨z, hz⟩ := h.dom a q
    show upd w.H p o a = _
    rw [upd_ne (ne_of_none hz hp)]
theorem MRep.nc {w : Wd} {a : Addr} {m : MO} {o : HO} (h : MRep w a m) (e : w.H a = some o) : nCo o := by
  cases m with
  | lst xs => obtain ⟨vs, h1, _⟩ := h; rw [h1] at e; cases e; exact fun c q z => by unfold LamX.CodeO at z; cases z
  | dct xs => obtain ⟨vs, h1, _⟩ := h; rw [h1] at e; cases e; exact fun c q z => by unfold LamX.CodeO at z; cases z
  | dctT xs => obtain ⟨vs, h1, _⟩ := h; rw [h1] at e; cases e; exact fun c q z => by unfold LamX.CodeO at z; cases z
theorem TbOk.some_ {w : Wd} (t : TbOk w) {p : Addr × Str} (h : p ∈ w.tb) : ∃ o, w.H p.1 = some o := by
  obtain ⟨ps, h1, _⟩ := t.tabs p h
  exact ⟨_, h1⟩
theorem HRel.add {w : Wd} {S : Store} (h : HRel w S) {p : Addr} {o : HO} {m : MO} (hp : w.H p = none) (hm : MRep (w.add p o) p m) :
    HRel (w.add p o) (S ++ [m]) ∧ Rep (w.add p o) (.ref p) (.ref S.length) := by
  have e := Ext.add (o := o) h hp
  refine ⟨⟨?_, ?_, fun a ha => ?_, fun a q => ?_, fun n a u h1 h2 => ?_, ?_⟩, .ref ?_⟩
  · show (w.al ++ [p]).length = (S ++ [m]).length
    rw [List.length_append, List.length_append, h.len]; rfl
  · show (w.al ++ [p]).Nodup
    refine List.nodup_append.mpr ⟨h.nd, by simp, fun a ha b hb q => ?_⟩
    have e2 : b = p := by simpa using hb
    subst e2; subst q
    exact h.notAl hp ha
  · rcases List.mem_append.mp (show a ∈ w.al ++ [p] from ha) with q | q
    · exact .inl (h.phi a q)
    · exact .inr (by simpa using q)
  · rcases q with q | q
    · obtain ⟨u, hu⟩ := h.dom a q
      exact ⟨u, by show upd w.H p o a = _; rw [upd_ne (ne_of_none hu hp)]; exact hu⟩
    · exact ⟨o, by rw [q]; exact upd_same⟩
  · have h1' : (w.al ++ [p])[n]? = some a := h1
    by_cases hn : n < w.al.length
    · rw [List.getElem?_append_left hn] at h1'
      rw [List.getElem?_append_left (by rw [← h.len]; exact hn)] at h2
      have mm := h.objs n a u h1' h2
      obtain ⟨z, hz⟩ := mm.there
      exact mm.mono e (by show upd w.H p o a = _; rw [upd_ne (ne_of_none hz hp)])
    · have hl : n < (w.al ++ [p]).length := (List.getElem?_eq_some_iff.mp h1').1
      have hn2 : n = w.al.length := by rw [List.length_append] at hl; simp at hl; omega
      subst hn2
      rw [List.getElem?_append_right (Nat.le_refl _)] at h1'
      rw [h.len, List.getElem?_append_right (Nat.le_refl _)] at h2
      simp at h1' h2
      subst h1'; subst h2
      exact hm
  · have kk : ∀ a u, w.H a = some u → (w.add p o).H a = some u := fun a u q => by
      show upd w.H p o a = some u
      rw [upd_ne (ne_of_none q hp)]; exact q
    refine h.t.same rfl (fun a q z => ?_) (fun a q => .inl q) (fun a o q => ⟨fun _ _ _ => kk a o q, fun _ => kk a o q⟩) fun a u q z => ?_
    · rcases List.mem_append.mp (show a ∈ w.al ++ [p] from z) with z | z
      · exact z
      · have e2 : a = p := by simpa using z
        subst e2
        exact absurd q (h.notPhi hp)
    · rcases q with q | q
      · obtain ⟨v, hv⟩ := h.dom a q
        rw [kk a v hv] at z
        cases z
        exact h.t.nc a _ q hv
      · subst q
        exact hm.nc z
  · show (w.al ++ [p])[S.length]? = some p
    rw [← h.len, List.getElem?_append_right (Nat.le_refl _)]; simp
theorem HRel.addL {w : Wd} {S : Store} (h : HRel w S) {p : Addr} {vs : List V} {xs : List PV} (hp : w.H p = none) (r : Reps w vs xs) :
    HRel (w.add p (.lst vs)) (S ++ [.lst xs]) ∧ Ext w (w.add p (.lst vs)) ∧ Rep (w.add p (.lst vs)) (.ref p) (.ref S.length) := by
  have e := Ext.add (o := .lst vs) h hp
  obtain ⟨h1, h2⟩ := h.add (o := .lst vs) (m := .lst xs) hp ⟨vs, upd_same, r.mono e⟩
  exact ⟨h1, e, h2⟩
/-- an object of the store is written -/
theorem HRel.write {w : Wd} {S : Store} (h : HRel w S) {n : Nat} {a : Addr} {o : HO} {m : MO} (ha : w.al[n]? = some a) (hm : ∀ u : Wd, Ext w u → u.H a = some o → MRep u a m) :
    HRel { w with H := upd w.H a o } (S.set n m) ∧ Ext w { w with H := upd w.H a o } := by
  have hphi : w.phi a := h.phi a (List.mem_of_getElem? ha)
  have e : Ext w { w with H := upd w.H a o } := ⟨rfl, ⟨[], by simp, fun b z => absurd z (by simp)⟩, fun _ z => z, fun b u q _ nb => by
    show upd w.H a o b = some u
    rw [upd_ne (fun z => nb (by rw [z]; exact hphi))]; exact q, fun b z nb => absurd z nb, fun b _ nb _ => by
    show upd w.H a o b = _
    rw [upd_ne (fun z => nb (by rw [z]; exact List.mem_of_getElem? ha))], rfl, rfl⟩
  have hmm : MRep { w with H := upd w.H a o } a m := hm _ e upd_same
  refine ⟨⟨?_, h.nd, h.phi, fun b q => ?_, fun k b u h1 h2 => ?_, ?_⟩, e⟩
  · rw [List.length_set]; exact h.len
  · by_cases hb : b = a
    · exact ⟨o, by rw [hb]; exact upd_same⟩
    · obtain ⟨z, hz⟩ := h.dom b q
      exact ⟨z, by show upd w.H a o b = _; rw [upd_ne hb]; exact hz⟩
  · by_cases hk : n = k
    · subst hk
      have hb : a = b := by have z : w.al[n]? = some b := h1; rw [ha] at z; exact Option.some.inj z
      subst hb
      have hl : n < S.length := by rw [← h.len]; exact (List.getElem?_eq_some_iff.mp ha).1
      rw [List.getElem?_set_self hl] at h2
      cases h2
      exact hm _ e upd_same
    · rw [List.getElem?_set_ne hk] at h2
      have hb : b ≠ a := fun z => hk (by
        subst z
        have h1' : w.al[k]? = some b := h1
        exact (List.getElem?_inj (List.getElem?_eq_some_iff.mp ha).1 h.nd).mp (ha.trans h1'.symm))
      have mm := h.objs k b u h1 h2
      exact mm.mono e (by show upd w.H a o b = _; rw [upd_ne hb])
  · refine h.t.same rfl (fun b _ z => z) (fun b q => q) (fun b u q => ⟨fun p hp z => ?_, fun ⟨c, x, z⟩ => ?_⟩) fun b u q z => ?_
    · show upd w.H a o b = some u
      rw [upd_ne]
      · exact q
      · rintro rfl
        exact (h.t.in_ p hp).2 (by rw [z]; exact List.mem_of_getElem? ha)
    · show upd w.H a o b = some u
      rw [upd_ne]
      · exact q
      · rintro rfl
        exact h.t.nc b u hphi q c x z
    · by_cases hb : b = a
      · subst hb
        exact hmm.nc z
      · have z' : upd w.H a o b = some u := z
        rw [upd_ne hb] at z'
        exact h.t.nc b u q z'
end Dg
end

section
set_option Elab.async false
set_option linter.all false
set_option maxRecDepth 100000
set_option maxHeartbeats 2000000
/-! DgB: a small language over plain values, and what it evaluates to. -/
namespace Dg
open PySem L2

inductive Res (β : Type) where
  | ok (b : β) (S : Store) | exc (c : Nat) (a : PV) (S : Store) | bad
def Res.bind {β γ : Type} (r : Res β) (f : β → Store → Res γ) : Res γ := match r with
  | .ok b S => f b S
  | .exc c a S => .exc c a S
  | .bad => .bad
@[simp] theorem Res.bind_ok {β γ : Type} {b : β} {S : Store} {f : β → Store → Res γ} : (Res.ok b S).bind f = f b S := rfl
@[simp] theorem Res.bind_exc {β γ : Type} {c : Nat} {a : PV} {S : Store} {f : β → Store → Res γ} : (Res.exc c a S : Res β).bind f = .exc c a S := rfl
/-- a comprehension's block lets no exception out -/
def Res.nox {β : Type} (r : Res β) : Res β := match r with
  | .ok b S => .ok b S
  | _ => .bad
@[simp] theorem Res.nox_ok {β : Type} {b : β} {S : Store} : (Res.ok b S).nox = .ok b S := rfl
@[simp] theorem Res.bind_bad {β γ : Type} {f : β → Store → Res γ} : (Res.bad : Res β).bind f = .bad := rfl

/-! ### operations on values -/
inductive O2 where
  | add | sub | mul | fdiv | mod | pow | eq | ne | lt | le | gt | ge | inn | nin | ix | mulW | fdivW
inductive O1 where
  | neg | isN | notN
/-- built-in functions and methods by values (v: a new list stays as it is; r: it is an object of the store) -/
inductive BI where
  | len | int_ | str_ | listV | listR | tuple_ | isin (ts : List String) | all_ | any_ | min1 | min2 | max2 | sum_ | abs_ | join | splitV | splitR | ord_ | lower_
  | kin (neg : Bool) (ks : List Str) | kget (kvs : List (Str × PV)) | gcd

/-- the items of a list or tuple -/
def seqOf (x : PV) (S : Store) : Option (List PV) := match x with
  | .lst xs => some xs
  | .tup xs => some xs
  | .scr xs => some xs
  | .ref n => match S[n]? with
    | some (.lst xs) => some xs
    | _ => none
  | _ => none
def lstOf (x : PV) (S : Store) : Option (List PV) := match x with
  | .lst xs => some xs
  | .ref n => match S[n]? with
    | some (.lst xs) => some xs
    | _ => none
  | _ => none
/-! data for == -/
mutual
def toD (S : Store) : PV → Option PyData
  | .non => some .none
  | .bl b => some (.bool b)
  | .int i => some (.int i)
  | .str x => some (.str x)
  | .tup xs => (toDs S xs).map .tuple
  | .lst xs => (toDs S xs).map .list
  | .ref _ => none
  | .ty _ => none
  | .scr _ => none
  | .thk => none
def toDs (S : Store) : List PV → Option (List PyData)
  | [] => some []
  | x :: xs => match toD S x, toDs S xs with
    | some d, some ds => some (d :: ds)
    | _, _ => none
end
/-- .. a list of the store at the top -/
def toD1 (S : Store) (x : PV) : Option PyData := match x with
  | .ref n => match S[n]? with
    | some (.lst xs) => (toDs S xs).map .list
    | _ => none
  | x => toD S x
def okI (b : Prop) [Decidable b] (i : Int) (S : Store) : Res PV := if b then .ok (.int i) S else .bad
def okB (b : Bool) (S : Store) : Res PV := .ok (.bl b) S
def cmpI (p : Int → Int → Bool) (x y : PV) (S : Store) : Res PV := match x, y with
  | .int i, .int j => okB (p i j) S
  | _, _ => .bad
/-- the scalars that == tells apart as data does -/
def scalP : PV → PV → Bool
  | .non, .non => true | .non, .int _ => true | .int _, .non => true | .non, .bl _ => true | .bl _, .non => true | .non, .str _ => true | .str _, .non => true
  | .int _, .int _ => true | .bl _, .bl _ => true | .str _, .str _ => true
  | .int _, .str _ => true | .str _, .int _ => true | .bl _, .str _ => true | .str _, .bl _ => true
  | _, _ => false
def decP : PV → PV → Bool
  | .non, .non => true
  | .int i, .int j => i == j
  | .bl i, .bl j => i == j
  | .str i, .str j => i == j
  | _, _ => false
def eqD (neg : Bool) (x y : PV) (S : Store) : Res PV := if scalP x y = true then okB (if neg then !decP x y else decP x y) S else match toD1 S x, toD1 S y with
  | some d, some e => if SeqAt.shaped d = true ∧ SeqAt.shaped e = true then okB (if neg then !PyData.eqv d e else PyData.eqv d e) S else .bad
  | _, _ => .bad
def flatP : PV → Bool
  | .non => true | .bl _ => true | .int _ => true | .str _ => true | _ => false
def eqP : PV → PV → Bool
  | .non, .non => true
  | .bl a, .bl b => a == b
  | .bl a, .int j => (if a then 1 else 0) == j
  | .int i, .bl b => i == (if b then 1 else 0)
  | .int i, .int j => i == j
  | .str x, .str y => x == y
  | _, _ => false
/-- a dict's key -/
def keyP : PV → Option Key
  | .int i => some (.inl i)
  | .str x => some (.inr x)
  | _ => none
def lookK {κ : Type} [DecidableEq κ] (k : κ) : List (κ × PV) → Option PV
  | [] => none
  | (k', v) :: r => if k' = k then some v else lookK k r
def putK {κ : Type} [DecidableEq κ] (k : κ) (v : PV) (kvs : List (κ × PV)) : List (κ × PV) :=
  if (kvs.any fun kv => decide (kv.1 = k)) = true then kvs.map (fun kv => if kv.1 = k then (kv.1, v) else kv) else kvs ++ [(k, v)]
/-- x in a list of data of any depth -/
def deepP (neg : Bool) (x : PV) (xs : List PV) (S : Store) : Res PV := match toD S x, toDs S xs with
  | some d, some ds => if SeqAt.shaped d = true ∧ SeqAt.shaped (.list ds) = true then okB (if neg then !ds.any (fun z => PyData.eqv z d) else ds.any (fun z => PyData.eqv z d)) S else .bad
  | _, _ => .bad
def inP (neg : Bool) (x y : PV) (S : Store) : Res PV := match y with
  | .str z => match x with
    | .str c => if c.cps.size = 1 then okB (if neg then !decide (c.cps.toList.getD 0 0 ∈ z.cps.toList) else decide (c.cps.toList.getD 0 0 ∈ z.cps.toList)) S else .bad
    | _ => .bad
  | .ref n => match S[n]? with
    | some (.dct kvs) => match keyP x with
      | some k => okB (if neg then !(lookK k kvs).isSome else (lookK k kvs).isSome) S
      | none => .bad
    | some (.lst xs) => if flatP x && xs.all flatP then okB (if neg then !xs.any (eqP · x) else xs.any (eqP · x)) S else deepP neg x xs S
    | _ => .bad
  | .lst xs => if flatP x && xs.all flatP then okB (if neg then !xs.any (eqP · x) else xs.any (eqP · x)) S else deepP neg x xs S
  | .tup xs => if flatP x && xs.all flatP then okB (if neg then !xs.any (eqP · x) else xs.any (eqP · x)) S else deepP neg x xs S
  | _ => .bad
def ixP (x y : PV) (S : Store) : Res PV := match x, y with
  | .str z, .int i => if z.length ≤ sizeLine then match atI z.cps.toList i with
    | some c => .ok (.str ⟨#[c]⟩) S
    | none => .bad else .bad
  | .lst xs, .int i => match atI xs i with
    | some v => .ok v S
    | none => .bad
  | .tup xs, .int i => match atI xs i with
    | some v => .ok v S
    | none => .bad
  | .ref n, k => match S[n]? with
    | some (.lst xs) => match k with
      | .int i => match atI xs i with
        | some v => .ok v S
        | none => .bad
      | _ => .bad
    | some (.dct kvs) => match keyP k with
      | some k => match lookK k kvs with
        | some v => .ok v S
        | none => .bad
      | none => .bad
    | _ => .bad
  | _, _ => .bad
def CMulP (i j : Int) : Prop := (-(2 ^ 64) < i ∧ i < 2 ^ 64) ∨ (-(2 ^ 64) < j ∧ j < 2 ^ 64)
instance (i j : Int) : Decidable (CMulP i j) := by unfold CMulP; exact inferInstance
instance (i j : Int) : Decidable (CMulW i j) := by unfold CMulW; exact inferInstance
instance (i j : Int) : Decidable (CDivW i j) := by unfold CDivW; exact inferInstance
instance (i j : Int) : Decidable (CPow i j) := by unfold CPow; exact inferInstance
def addP (x y : PV) (S : Store) : Res PV := match x, y with
  | .int i, .int j => .ok (.int (i + j)) S
  | .str a, .str b => if a.length + b.length ≤ sizeLine then .ok (.str (a ++ b)) S else .bad
  | .tup xs, .tup ys => if xs.length + ys.length ≤ sizeLine then .ok (.tup (xs ++ ys)) S else .bad
  | x, y => match lstOf x S, lstOf y S with
    | some xs, some ys => if xs.length + ys.length ≤ sizeLine then .ok (.lst (xs ++ ys)) S else .bad
    | _, _ => .bad
def mulP (x y : PV) (S : Store) : Res PV := match x, y with
  | .int i, .int j => okI (CMulP i j ∨ CMulW i j) (i * j) S
  | .tup xs, .int k => if xs ≠ [] ∧ 2 ≤ k ∧ (xs.length : Int) * k ≤ 10000000 then .ok (.tup (List.replicate k.toNat xs).flatten) S else if xs ≠ [] ∧ k = 1 then .ok (.tup xs) S else if xs ≠ [] ∧ k = 0 then .ok (.tup []) S else .bad
  | .str a, .int k => if a.length = 1 ∧ 2 ≤ k ∧ k ≤ 100000 then .ok (.str ⟨(List.replicate k.toNat a.cps.toList).flatten.toArray⟩) S else .bad
  | _, _ => .bad
def op2 (o : O2) (x y : PV) (S : Store) : Res PV := match o with
  | .add => addP x y S
  | .sub => match x, y with
    | .int i, .int j => .ok (.int (i - j)) S
    | _, _ => .bad
  | .mul => mulP x y S
  | .mulW => match x, y with
    | .int i, .int j => okI (CMulW i j) (i * j) S
    | _, _ => .bad
  | .fdiv => match x, y with
    | .int i, .int j => if CDivW i j then .ok (.int (i / j)) S else if j < 0 ∧ j.natAbs.log2 < 9000 then .ok (.int (i.fdiv j)) S else .bad
    | _, _ => .bad
  | .fdivW => match x, y with
    | .int i, .int j => okI (CDivW i j) (i / j) S
    | _, _ => .bad
  | .mod => match x, y with
    | .int i, .int j => if 0 < j then .ok (.int (i % j)) S else if j < 0 then .ok (.int (i.fmod j)) S else .bad
    | _, _ => .bad
  | .pow => match x, y with
    | .int i, .int j => okI (CPow i j) (i ^ j.toNat) S
    | _, _ => .bad
  | .eq => eqD false x y S
  | .ne => eqD true x y S
  | .lt => cmpI (fun i j => decide (i < j)) x y S
  | .le => cmpI (fun i j => decide (i ≤ j)) x y S
  | .gt => cmpI (fun i j => decide (j < i)) x y S
  | .ge => cmpI (fun i j => decide (j ≤ i)) x y S
  | .inn => inP false x y S
  | .nin => inP true x y S
  | .ix => ixP x y S
def isNon : PV → Bool
  | .non => true
  | _ => false
def op1 (o : O1) (x : PV) (S : Store) : Res PV := match o with
  | .neg => match x with
    | .int i => .ok (.int (-i)) S
    | _ => .bad
  | .isN => okB (isNon x) S
  | .notN => okB (!isNon x) S
def tyP (S : Store) : PV → Option String
  | .non => some "NoneType"
  | .bl _ => some "bool"
  | .int _ => some "int"
  | .str _ => some "str"
  | .tup _ => some "tuple"
  | .lst _ => some "list"
  | .ref n => match S[n]? with
    | some (.lst _) => some "list"
    | some (.dct _) => some "dict"
    | some (.dctT _) => some "dict"
    | none => none
  | .ty _ => none
  | .scr _ => none
  | .thk => none
def subTy (t c : String) : Bool := t == c || (t == "bool" && c == "int")
def isBl : PV → Option Bool
  | .bl b => some b
  | _ => none
def isIn : PV → Option Int
  | .int i => some i
  | _ => none
def isSt : PV → Option Str
  | .str x => some x
  | _ => none
/-- all of a list's items, of one kind -/
def allOf {β : Type} (f : PV → Option β) : List PV → Option (List β)
  | [] => some []
  | x :: xs => match f x, allOf f xs with
    | some b, some bs => some (b :: bs)
    | _, _ => none
def minL : Int → List Int → Int
  | m, [] => m
  | m, x :: xs => minL (if x < m then x else m) xs
def opn (o : BI) (vs : List PV) (S : Store) : Res PV := match o, vs with
  | .len, [.str x] => if x.length ≤ sizeLine then .ok (.int x.length) S else .bad
  | .len, [.ref n] => match S[n]? with
    | some (.lst xs) => .ok (.int xs.length) S
    | some (.dct xs) => .ok (.int xs.length) S
    | _ => .bad
  | .len, [x] => match seqOf x S with
    | some xs => .ok (.int xs.length) S
    | none => .bad
  | .int_, [.int i] => .ok (.int i) S
  | .int_, [.bl b] => .ok (.int (if b then 1 else 0)) S
  | .int_, [.str x] => if x.length ≤ 640 then match PySem.intText? x with
    | some n => .ok (.int n) S
    | none => .bad else .bad
  | .str_, [.int i] => if i.natAbs.log2 < 1920 then .ok (.str (toString i)) S else .bad
  | .str_, [.str x] => .ok (.str x) S
  | .listV, [x] => match seqOf x S with
    | some xs => .ok (.lst xs) S
    | none => .bad
  | .listR, [x] => match seqOf x S with
    | some xs => .ok (.ref S.length) (S ++ [.lst xs])
    | none => .bad
  | .tuple_, [x] => match seqOf x S with
    | some xs => .ok (.tup xs) S
    | none => .bad
  | .isin ts, [x] => match tyP S x with
    | some t => okB (ts.any (subTy t)) S
    | none => .bad
  | .all_, [x] => match (lstOf x S).bind (allOf isBl) with
    | some bs => okB (bs.all id) S
    | none => .bad
  | .any_, [x] => match (lstOf x S).bind (allOf isBl) with
    | some bs => okB (bs.any id) S
    | none => .bad
  | .sum_, [x] => match (lstOf x S).bind (allOf isIn) with
    | some is => .ok (.int is.sum) S
    | none => .bad
  | .min1, [x] => match (lstOf x S).bind (allOf isIn) with
    | some (i :: is) => .ok (.int (minL i is)) S
    | _ => .bad
  | .min2, [.int i, .int j] => .ok (.int (if j < i then j else i)) S
  | .max2, [.int i, .int j] => .ok (.int (if j > i then j else i)) S
  | .abs_, [.int i] => .ok (.int (if i < 0 then -i else i)) S
  | .join, [.str a, x] => match (lstOf x S).bind (allOf isSt) with
    | some ys => if (ys.map (·.length)).sum + ys.length * a.length ≤ 16777216 then .ok (.str (Txt.join a ys)) S else .bad
    | none => .bad
  | .splitV, [.str a, .str b] => if (b.length == 0) = false ∧ a.length + 2 ≤ sizeLine then .ok (.lst ((Txt.split a b).map .str)) S else .bad
  | .splitR, [.str a, .str b] => if (b.length == 0) = false ∧ a.length + 2 ≤ sizeLine then .ok (.ref S.length) (S ++ [.lst ((Txt.split a b).map .str)]) else .bad
  | .kin neg ks, [.str x] => okB (neg != ks.contains x) S
  | .kget kvs, [.str x] => .ok ((kvs.lookup x).getD .non) S
  | .gcd, [.int a, .int b] => .ok (.int ((Nat.gcd a.natAbs b.natAbs : Nat) : Int)) S
  | _, _ => .bad
def slP (x : PV) (lo hi : Option Int) (S : Store) : Res PV := match x with
  | .str z => if z.length ≤ sizeLine then .ok (.str (cutS z lo hi)) S else .bad
  | .tup xs => .ok (.tup ((xs.drop (HT.sIx xs.length 0 lo)).take (HT.sIx xs.length xs.length hi - HT.sIx xs.length 0 lo))) S
  | x => match lstOf x S with
    | some xs => .ok (.lst ((xs.drop (HT.sIx xs.length 0 lo)).take (HT.sIx xs.length xs.length hi - HT.sIx xs.length 0 lo))) S
    | none => .bad
/-- truth -/
def truP (x : PV) (S : Store) : Option Bool := match x with
  | .non => some false
  | .bl b => some b
  | .int i => some (i != 0)
  | .str z => if z.length ≤ sizeLine then some ((z.length : Int) != 0) else none
  | .tup xs => some (!xs.isEmpty)
  | .lst xs => some (!xs.isEmpty)
  | .ref n => match S[n]? with
    | some (.lst xs) => some (!xs.isEmpty)
    | _ => none
  | .ty _ => none
  | .scr xs => some (!xs.isEmpty)
  | .thk => none

/-! ### the language -/
inductive TGT where
  | name (i : Nat) | tup (is : List Nat)
  deriving Repr
mutual
inductive ME where
  | var (i : Nat)
  | k (c : PV)
  | un (o : O1) (a : ME)
  | bin (o : O2) (a b : ME)
  | chain (o p : O2) (a b c : ME)
  | and_ (a b : ME) | or_ (a b : ME) | not_ (a : ME) | ite (c a b : ME)
  | tup (es : MEs) | lst (es : MEs) | lstR (es : MEs) | dctR (ks : List Key) (es : MEs)
  | call (f : Nat) (perm : List (Sum Nat PV)) (es : MEs)
  | bi (o : BI) (es : MEs)
  | mt (o : BI) (a e : ME)
  | app (i : Nat) (e : ME)
  | extd (i : Nat) (e : ME)
  | slice (a : ME) (lo hi : MEo)
  | comp (r : Bool) (own : List Nat) (t : TGT) (it : IT) (c : MEo) (e : ME)
  | exarg
  | thunk (i : Nat)
  | lamcall (g : Nat) (e : ME)
inductive MEs where
  | nil | cons (e : ME) (es : MEs)
inductive MEo where
  | none | some (e : ME)
inductive IT where
  | of (e : ME) | range (es : MEs) | enum (e : ME) | zip (a b : ME)
end
/-- a target: a name, a place of a list or dict -/
inductive MT where
  | name (i : Nat) | sub (a i : ME)
/-- except c as nm: t = e | return e -/
inductive MHd where
  | mk (c : Nat) (nm : Option Nat) (t : Option Nat) (e : ME)
mutual
inductive MS where
  | asg (t : TGT) (e : ME)
  | setix (a i e : ME)
  | unp (ts : List MT) (e : ME)
  | ex (e : ME)
  | ret (e : ME)
  | ifS (c : ME) (a b : MSs)
  | forS (t : TGT) (it : IT) (b : MSs)
  | whileS (c : ME) (b : MSs)
  | brk | cont | pass
  | raise (c : Nat) (e : ME)
  | try_ (b : MSs) (hs : List MHd)
inductive MSs where
  | nil | cons (s : MS) (r : MSs)
end

/-- what a context says: what calls give; the exception at hand -/
structure Cxt where
  G : Nat → List PV → Store → Res PV
  sub : Nat → Nat → Option Bool := fun _ _ => none
  hx : Option (Nat × PV) := none
  th : Option (Store → Res PV) := none
  GL : Nat → (Store → Res PV) → Store → Res PV := fun _ _ _ => .bad
def bindT (t : TGT) (v : PV) (r : PEnv) : Option PEnv := match t with
  | .name i => some (r.set i (some v))
  | .tup is => match v with
    | .tup xs => if xs.length = is.length then some ((is.zip xs).foldl (fun r p => r.set p.1 (some p.2)) r) else none
    | _ => none
def wipeP (r : PEnv) : List Nat → PEnv
  | [] => r
  | v :: vs => (wipeP r vs).set v none
/-- a list that is walked stays as it is -/
def Grd : Option (Nat × List PV) → Store → Prop
  | none, _ => True
  | some (n, xs), S => S[n]? = some (.lst xs)
open Classical in
noncomputable def compL (f : PV → Store → Res (Option PV)) (g : Option (Nat × List PV)) : List PV → Store → Res (List PV)
  | [], S => .ok [] S
  | x :: xs, S => (f x S).bind fun o S1 => if Grd g S1 then (compL f g xs S1).bind fun ys S2 => .ok (match o with
    | some y => y :: ys
    | none => ys) S2 else .bad
def rangeP : List PV → Option (List PV)
  | [.int j] => if -(2 ^ 62) ≤ j ∧ j < 2 ^ 62 then some ((List.range j.toNat).map fun (k : Nat) => .int (0 + (k : Int))) else none
  | [.int i, .int j] => if -(2 ^ 62) ≤ i ∧ i < 2 ^ 62 ∧ -(2 ^ 62) ≤ j ∧ j < 2 ^ 62 then some ((List.range (j - i).toNat).map fun (k : Nat) => .int (i + (k : Int))) else none
  | _ => none
def enumP (k : Nat) : List PV → List PV
  | [] => []
  | x :: xs => .tup [.int k, x] :: enumP (k + 1) xs
def zipP : List PV → List PV → List PV
  | x :: xs, y :: ys => .tup [x, y] :: zipP xs ys
  | _, _ => []
/-- the arguments of a def in order -/
def permP (p : List (Sum Nat PV)) (vs : List PV) : Option (List PV) := match p with
  | [] => some []
  | .inl i :: p => match vs[i]?, permP p vs with
    | some v, some r => some (v :: r)
    | _, _ => none
  | .inr d :: p => match permP p vs with
    | some r => some (d :: r)
    | _ => none
/-! what refers to nothing new -/
mutual
/-- no object of the store from n on -/
def below (n : Nat) : PV → Bool
  | .ref k => decide (k < n)
  | .tup xs => belows n xs
  | .lst xs => belows n xs
  | .scr _ => false
  | .thk => false
  | _ => true
def belows (n : Nat) : List PV → Bool
  | [] => true
  | x :: xs => below n x && belows n xs
end
def belowM (n : Nat) : MO → Bool
  | .lst xs => belows n xs
  | .dct kvs => kvs.all fun p => below n p.2
  | .dctT kvs => kvs.all fun p => below n p.2
mutual
noncomputable def evalE (C : Cxt) : ME → PEnv → Store → Res PV
  | .var i, r, S => match r[i]? with
    | some (some v) => .ok v S
    | _ => .bad
  | .k c, _, S => .ok c S
  | .un o a, r, S => (evalE C a r S).bind fun x S1 => op1 o x S1
  | .bin o a b, r, S => (evalE C a r S).bind fun x S1 => (evalE C b r S1).bind fun y S2 => op2 o x y S2
  | .chain o p a b c, r, S => (evalE C a r S).bind fun x S1 => (evalE C b r S1).bind fun y S2 => (op2 o x y S2).bind fun z S3 => match z with
    | .bl true => (evalE C c r S3).bind fun u S4 => op2 p y u S4
    | .bl false => .ok (.bl false) S3
    | _ => .bad
  | .and_ a b, r, S => (evalE C a r S).bind fun x S1 => match x with
    | .bl true => evalE C b r S1
    | .bl false => .ok (.bl false) S1
    | _ => .bad
  | .or_ a b, r, S => (evalE C a r S).bind fun x S1 => match x with
    | .bl true => .ok (.bl true) S1
    | .bl false => evalE C b r S1
    | _ => .bad
  | .not_ a, r, S => (evalE C a r S).bind fun x S1 => match x with
    | .bl b => .ok (.bl (!b)) S1
    | _ => .bad
  | .ite c a b, r, S => (evalT C c r S).bind fun t S1 => if t = true then evalE C a r S1 else evalE C b r S1
  | .tup es, r, S => (evalEs C es r S).bind fun vs S1 => if vs.length ≤ sizeLine then .ok (.tup vs) S1 else .bad
  | .lst es, r, S => (evalEs C es r S).bind fun vs S1 => if vs.length ≤ sizeLine then .ok (.lst vs) S1 else .bad
  | .lstR es, r, S => (evalEs C es r S).bind fun vs S1 => if vs.length ≤ sizeLine then .ok (.ref S1.length) (S1 ++ [.lst vs]) else .bad
  | .dctR ks es, r, S => (evalEs C es r S).bind fun vs S1 => if vs.length = ks.length ∧ vs.length ≤ 15 ∧ ks.Nodup then .ok (.ref S1.length) (S1 ++ [.dct (ks.zip vs)]) else .bad
  | .call f p es, r, S => (evalEs C es r S).bind fun vs S1 => match permP p vs with
    | some as => C.G f as S1
    | none => .bad
  | .bi o es, r, S => (evalEs C es r S).bind fun vs S1 => opn o vs S1
  | .mt o a e, r, S => (evalE C a r S).bind fun x S1 => match x with
    | .str z => (evalE C e r S1).bind fun y S2 => opn o [.str z, y] S2
    | _ => .bad
  | .app i e, r, S => match r[i]? with
    | some (some (.ref n)) => match S[n]? with
      | some (.lst _) => (evalE C e r S).bind fun x S1 => match S1[n]? with
        | some (.lst xs) => if xs.length < sizeLine then .ok .non (S1.set n (.lst (xs ++ [x]))) else .bad
        | _ => .bad
      | _ => .bad
    | _ => .bad
  | .extd i e, r, S => match r[i]? with
    | some (some (.ref n)) => match S[n]? with
      | some (.lst _) => (evalE C e r S).bind fun x S1 => match x with
        | .lst ys => (match S1[n]? with
          | some (.lst xs) => if xs.length + ys.length ≤ sizeLine then .ok .non (S1.set n (.lst (xs ++ ys))) else .bad
          | _ => .bad)
        | _ => .bad
      | _ => .bad
    | _ => .bad
  | .slice a lo hi, r, S => (evalE C a r S).bind fun x S1 => (evalO C lo r S1).bind fun l S2 => (evalO C hi r S2).bind fun h S3 => slP x l h S3
  | .comp rf own t it c e, r, S => (evalI C it r S).bind fun p S1 => if p.1.length < sizeLine then (compL (fun x S2 => match bindT t x (wipeP r own) with
      | none => .bad
      | some r2 => ((evalC C c r2 S2).bind fun b S3 => if b = true then (evalE C e r2 S3).bind fun y S4 => .ok (some y) S4 else .ok none S3).nox) p.2 p.1 S1).bind fun ys S2 =>
    if rf = true then .ok (.ref S2.length) (S2 ++ [.lst ys]) else .ok (.lst ys) S2 else .bad
  | .exarg, _, S => match C.hx with
    | some (_, a) => .ok a S
    | none => .bad
  | .thunk i, r, S => match r[i]?, C.th with
    | some (some .thk), some th => if S.all (belowM S.length) = true then th S else .bad
    | _, _ => .bad
  | .lamcall g e, r, S => if S.all (belowM S.length) = true then match C.GL g (fun S' => evalE C e r S') S with
    | .ok v S' => .ok v S'
    | _ => .bad else .bad
noncomputable def evalT (C : Cxt) : ME → PEnv → Store → Res Bool
  | .and_ a b, r, S => (evalT C a r S).bind fun t S1 => if t = true then evalT C b r S1 else .ok false S1
  | .or_ a b, r, S => (evalT C a r S).bind fun t S1 => if t = true then .ok true S1 else evalT C b r S1
  | .not_ a, r, S => (evalT C a r S).bind fun t S1 => .ok (!t) S1
  | .ite c a b, r, S => (evalT C c r S).bind fun t S1 => if t = true then evalT C a r S1 else evalT C b r S1
  | e, r, S => (evalE C e r S).bind fun x S1 => match truP x S1 with
    | some t => .ok t S1
    | none => .bad
noncomputable def evalEs (C : Cxt) : MEs → PEnv → Store → Res (List PV)
  | .nil, _, S => .ok [] S
  | .cons e es, r, S => (evalE C e r S).bind fun x S1 => (evalEs C es r S1).bind fun xs S2 => .ok (x :: xs) S2
noncomputable def evalO (C : Cxt) : MEo → PEnv → Store → Res (Option Int)
  | .none, _, S => .ok none S
  | .some e, r, S => (evalE C e r S).bind fun x S1 => match x with
    | .int i => .ok (some i) S1
    | _ => .bad
noncomputable def evalC (C : Cxt) : MEo → PEnv → Store → Res Bool
  | .none, _, S => .ok true S
  | .some e, r, S => evalT C e r S
noncomputable def evalI (C : Cxt) : IT → PEnv → Store → Res (List PV × Option (Nat × List PV))
  | .of e, r, S => (evalE C e r S).bind fun x S1 => match x with
    | .str z => .ok (z.cps.toList.map (fun c => .str ⟨#[c]⟩), none) S1
    | .ref n => match S1[n]? with
      | some (.lst xs) => .ok (xs, some (n, xs)) S1
      | _ => .bad
    | x => match seqOf x S1 with
      | some xs => .ok (xs, none) S1
      | none => .bad
  | .range es, r, S => (evalEs C es r S).bind fun vs S1 => match rangeP vs with
    | some xs => .ok (xs, none) S1
    | none => .bad
  | .enum e, r, S => (evalE C e r S).bind fun x S1 => match x with
    | .ref n => match S1[n]? with
      | some (.lst xs) => .ok (enumP 0 xs, some (n, xs)) S1
      | _ => .bad
    | x => match seqOf x S1 with
      | some xs => .ok (enumP 0 xs, none) S1
      | none => .bad
  | .zip a b, r, S => (evalE C a r S).bind fun x S1 => (evalE C b r S1).bind fun y S2 => match x, y with
    | .tup xs, .tup ys => .ok (zipP xs ys, none) S2
    | .lst xs, .lst ys => .ok (zipP xs ys, none) S2
    | .tup xs, .lst ys => .ok (zipP xs ys, none) S2
    | .lst xs, .tup ys => .ok (zipP xs ys, none) S2
    | .ref n, .lst ys => match S2[n]? with
      | some (.lst xs) => .ok (zipP xs ys, some (n, xs)) S2
      | _ => .bad
    | .ref n, .tup ys => match S2[n]? with
      | some (.lst xs) => .ok (zipP xs ys, some (n, xs)) S2
      | _ => .bad
    | _, _ => .bad
end

/-! ### statements -/
inductive SRes where
  | nx (r : PEnv) (S : Store) | ret (v : PV) (S : Store) | brk (r : PEnv) (S : Store) | ct (r : PEnv) (S : Store) | exc (c : Nat) (a : PV) (r : PEnv) (S : Store) | bad
def Res.to {β : Type} (x : Res β) (r : PEnv) (k : β → Store → SRes) : SRes := match x with
  | .ok b S => k b S
  | .exc c a S => .exc c a r S
  | .bad => .bad
@[simp] theorem Res.to_ok {β : Type} {b : β} {S : Store} {r : PEnv} {k : β → Store → SRes} : (Res.ok b S).to r k = k b S := rfl
@[simp] theorem Res.to_exc {β : Type} {c : Nat} {a : PV} {S : Store} {r : PEnv} {k : β → Store → SRes} : (Res.exc c a S : Res β).to r k = .exc c a r S := rfl
@[simp] theorem Res.to_bad {β : Type} {r : PEnv} {k : β → Store → SRes} : (Res.bad : Res β).to r k = .bad := rfl
def SRes.seq (x : SRes) (k : PEnv → Store → SRes) : SRes := match x with
  | .nx r S => k r S
  | y => y
@[simp] theorem SRes.seq_nx {r : PEnv} {S : Store} {k : PEnv → Store → SRes} : (SRes.nx r S).seq k = k r S := rfl
@[simp] theorem SRes.seq_ret {v : PV} {S : Store} {k : PEnv → Store → SRes} : (SRes.ret v S).seq k = .ret v S := rfl
@[simp] theorem SRes.seq_brk {r : PEnv} {S : Store} {k : PEnv → Store → SRes} : (SRes.brk r S).seq k = .brk r S := rfl
@[simp] theorem SRes.seq_ct {r : PEnv} {S : Store} {k : PEnv → Store → SRes} : (SRes.ct r S).seq k = .ct r S := rfl
@[simp] theorem SRes.seq_exc {c : Nat} {a : PV} {r : PEnv} {S : Store} {k : PEnv → Store → SRes} : (SRes.exc c a r S).seq k = .exc c a r S := rfl
@[simp] theorem SRes.seq_bad {k : PEnv → Store → SRes} : SRes.bad.seq k = .bad := rfl
open Classical in
noncomputable def forL (t : TGT) (f : PEnv → Store → SRes) (g : Option (Nat × List PV)) : List PV → PEnv → Store → SRes
  | [], r, S => .nx r S
  | x :: xs, r, S => match bindT t x r with
    | none => .bad
    | some r2 => match f r2 S with
      | .nx r3 S3 => if Grd g S3 then forL t f g xs r3 S3 else .bad
      | .ct r3 S3 => if Grd g S3 then forL t f g xs r3 S3 else .bad
      | .brk r3 S3 => .nx r3 S3
      | .ret v S3 => .ret v S3
      | .exc c a r3 S3 => .exc c a r3 S3
      | .bad => .bad
def whileN (c : PEnv → Store → Res Bool) (f : PEnv → Store → SRes) : Nat → PEnv → Store → SRes
  | 0, _, _ => .bad
  | n + 1, r, S => (c r S).to r fun t S1 => if t = true then match f r S1 with
      | .nx r3 S3 => whileN c f n r3 S3
      | .ct r3 S3 => whileN c f n r3 S3
      | .brk r3 S3 => .nx r3 S3
      | .ret v S3 => .ret v S3
      | .exc c a r3 S3 => .exc c a r3 S3
      | .bad => .bad
    else .nx r S1
open Classical in
noncomputable def whileR (c : PEnv → Store → Res Bool) (f : PEnv → Store → SRes) (r : PEnv) (S : Store) : SRes :=
  if h : ∃ n, whileN c f n r S ≠ .bad then whileN c f (Classical.choose h) r S else .bad
theorem whileN_mono {c : PEnv → Store → Res Bool} {f : PEnv → Store → SRes} : ∀ {n : Nat} {r : PEnv} {S : Store} {m : Nat}, whileN c f n r S ≠ .bad → n ≤ m → whileN c f m r S = whileN c f n r S
  | 0, _, _, _, h, _ => absurd rfl h
  | n + 1, r, S, 0, _, hm => absurd hm (Nat.not_succ_le_zero n)
  | n + 1, r, S, m + 1, h, hm => by
    unfold whileN at h ⊢
    cases e : c r S with
    | bad => rfl
    | exc => rfl
    | ok t S1 =>
      rw [e] at h
      simp only [Res.to_ok] at h ⊢
      cases t with
      | false => rfl
      | true =>
        simp only [if_true] at h ⊢
        cases q : f r S1 with
        | nx r3 S3 => rw [q] at h; exact whileN_mono h (Nat.le_of_succ_le_succ hm)
        | ct r3 S3 => rw [q] at h; exact whileN_mono h (Nat.le_of_succ_le_succ hm)
        | _ => rfl
theorem whileR_eq {c : PEnv → Store → Res Bool} {f : PEnv → Store → SRes} {n : Nat} {r : PEnv} {S : Store} {x : SRes} (h : whileN c f n r S = x) (hb : x ≠ .bad) : whileR c f r S = x := by
  have hn : whileN c f n r S ≠ .bad := by rw [h]; exact hb
  have ex : ∃ n, whileN c f n r S ≠ .bad := ⟨n, hn⟩
  unfold whileR
  rw [dif_pos ex]
  have h2 := Classical.choose_spec ex
  rcases Nat.le_total n (Classical.choose ex) with l | l
  · rw [whileN_mono hn l, h]
  · rw [← whileN_mono h2 l, h]
theorem whileR_bad {c : PEnv → Store → Res Bool} {f : PEnv → Store → SRes} {r : PEnv} {S : Store} (h : whileR c f r S ≠ .bad) : ∃ n, whileN c f n r S = whileR c f r S := by
  unfold whileR at h ⊢
  by_cases ex : ∃ n, whileN c f n r S ≠ .bad
  · rw [dif_pos ex]; exact ⟨_, rfl⟩
  · rw [dif_neg ex] at h; exact absurd rfl h
def setP (o k x : PV) (S : Store) : Option Store := match o with
  | .ref n => match S[n]? with
    | some (.lst xs) => match k with
      | .int i => match ixN xs.length i with
        | some j => some (S.set n (.lst (xs.set j x)))
        | none => none
      | _ => none
    | some (.dct kvs) => match keyP k with
      | some k => if kvs.length < sizeLine then some (S.set n (.dct (putK k x kvs))) else none
      | none => none
    | _ => none
  | _ => none
noncomputable def evalGs (C : Cxt) : List MT → List PV → PEnv → Store → SRes
  | [], [], r, S => .nx r S
  | .name i :: ts, v :: vs, r, S => evalGs C ts vs (r.set i (some v)) S
  | .sub a i :: ts, v :: vs, r, S => (evalE C a r S).to r fun o S1 => (evalE C i r S1).to r fun k S2 => match setP o k v S2 with
    | some S3 => evalGs C ts vs r S3
    | none => .bad
  | _, _, _, _ => .bad
noncomputable def handle (C : Cxt) (c : Nat) (a : PV) (r : PEnv) (S : Store) : List MHd → SRes
  | [] => .exc c a r S
  | .mk c' none t e :: hs => if C.sub c c' = some true then (match evalE C e r S with
      | .ok v S1 => match t with
        | some j => .nx (r.set j (some v)) S1
        | none => .ret v S1
      | _ => .bad)
    else if C.sub c c' = some false then handle C c a r S hs else .bad
  | .mk c' (some i) t e :: hs => if C.sub c c' = some true then (if i < r.length ∧ t ≠ some i then (match evalE { C with hx := some (c, a) } e (r.set i none) S with
      | .ok v S1 => match t with
        | some j => .nx ((r.set i none).set j (some v)) S1
        | none => .ret v S1
      | _ => .bad) else .bad)
    else if C.sub c c' = some false then handle C c a r S hs else .bad
mutual
noncomputable def evalS (C : Cxt) : MS → PEnv → Store → SRes
  | .asg t e, r, S => (evalE C e r S).to r fun v S1 => match bindT t v r with
    | some r2 => .nx r2 S1
    | none => .bad
  | .setix a i e, r, S => (evalE C e r S).to r fun v S1 => (evalE C a r S1).to r fun o S2 => (evalE C i r S2).to r fun k S3 => match setP o k v S3 with
    | some S4 => .nx r S4
    | none => .bad
  | .unp ts e, r, S => (evalE C e r S).to r fun v S1 => match v with
    | .tup xs => if xs.length = ts.length then evalGs C ts xs r S1 else .bad
    | _ => .bad
  | .ex e, r, S => (evalE C e r S).to r fun _ S1 => .nx r S1
  | .ret e, r, S => (evalE C e r S).to r fun v S1 => .ret v S1
  | .ifS c a b, r, S => (evalT C c r S).to r fun t S1 => if t = true then evalSs C a r S1 else evalSs C b r S1
  | .forS t it b, r, S => (evalI C it r S).to r fun p S1 => forL t (fun r2 S2 => evalSs C b r2 S2) p.2 p.1 r S1
  | .whileS c b, r, S => whileR (fun r2 S2 => evalT C c r2 S2) (fun r2 S2 => evalSs C b r2 S2) r S
  | .brk, r, S => .brk r S
  | .cont, r, S => .ct r S
  | .pass, r, S => .nx r S
  | .raise c e, r, S => (evalE C e r S).to r fun v S1 => .exc c v r S1
  | .try_ b hs, r, S => match evalSs C b r S with
    | .exc c a r2 S2 => handle C c a r2 S2 hs
    | x => x
noncomputable def evalSs (C : Cxt) : MSs → PEnv → Store → SRes
  | .nil, r, S => .nx r S
  | .cons s t, r, S => (evalS C s r S).seq fun r2 S2 => evalSs C t r2 S2
end

/-! ### a def's call: its own objects are let go, what it gives stands frozen -/
mutual
/-- the value with its new lists frozen -/
def frzG (n : Nat) (g : Nat → Option PV) : PV → Option PV
  | .ref k => if k < n then some (.ref k) else g k
  | .tup xs => (frzGs n g xs).map .tup
  | .lst xs => (frzGs n g xs).map .lst
  | .scr _ => none
  | .non => some .non
  | .bl b => some (.bl b)
  | .int i => some (.int i)
  | .str x => some (.str x)
  | .ty x => some (.ty x)
  | .thk => none
def frzGs (n : Nat) (g : Nat → Option PV) : List PV → Option (List PV)
  | [] => some []
  | x :: xs => match frzG n g x, frzGs n g xs with
    | some y, some ys => some (y :: ys)
    | _, _ => none
end
def gz (S : Store) (n : Nat) : Nat → Nat → Option PV
  | 0, _ => none
  | d + 1, k => match S[k]? with
    | some (.lst xs) => (frzGs n (gz S n d) xs).map .lst
    | _ => none
def frz (S : Store) (n d : Nat) (x : PV) : Option PV := frzG n (gz S n d) x
def startP (m : Nat) (vs : List PV) : PEnv := vs.map some ++ List.replicate (m - vs.length) none
/-- m: how many names; raw: what is made stays in the store -/
noncomputable def evalD (C : Cxt) (raw : Bool) (m : Nat) (b : MSs) (vs : List PV) (S : Store) : Res PV :=
  let fin := fun (v : PV) (S' : Store) (k : PV → Store → Res PV) => if raw = true then k v S' else
    match frz S' S.length 8 v with
    | some v' => if (S'.take S.length).all (belowM S.length) = true then k v' (S'.take S.length) else .bad
    | none => .bad
  match evalSs C b (startP m vs) S with
  | .nx _ S' => fin .non S' .ok
  | .ret v S' => fin v S' .ok
  | .exc c a _ S' => fin a S' (.exc c)
  | _ => .bad
end Dg
end

section
set_option Elab.async false
set_option linter.all false
set_option maxRecDepth 100000
set_option maxHeartbeats 2000000
/-! DgC: the judgement TI: what evalE tells is a reading; expressions case by case. -/
namespace Dg
open PySem PySem.Spec L2
open PyProof.Rows hiding St

/-- what is fixed: the written part, the context of evaluation, where the exceptions' classes stand, their fields; the exception at hand -/
structure Xc where
  K : PySem.W.Frag
  C : Cxt
  cl : Nat → Addr
  fd : Nat → Str
  hs : Nat := 0
  pin : Addr → Nat → Addr → Prop := fun _ _ _ => False
  I : Wd → Prop := fun _ => True
  Icl : ∀ (w u : Wd), I w → Ext w u → I u := by intros; trivial

def Good {α β : Type} (Z : Xc) (W : WX) (σ : St) (R : Wd → α → β → Prop) (w : Wd) (Q : α → Hp → Prop) : Res β → Prop
  | .ok b S' => ∀ u x, Ext w u → HRel u S' → R u x b → Q x u.H
  | .exc c a S' => ∀ u d va, Ext w u → HRel u S' → u.H d = some (.xd [(Z.fd c, va)]) → Rep u va a → ¬ u.phi d → W (.ref (Z.cl c)) (some d) σ u.H
  | .bad => False
theorem Good.mono {α β : Type} {Z : Xc} {W : WX} {σ : St} {R : Wd → α → β → Prop} {w t : Wd} {Q : α → Hp → Prop} {r : Res β} (e : Ext w t) (g : Good Z W σ R w Q r) : Good Z W σ R t Q r := by
  cases r with
  | ok b S => exact fun u x e2 => g u x (e.trans e2)
  | exc c a S => exact fun u d va e2 => g u d va (e.trans e2)
  | bad => exact g
theorem Good.bindI {α β α' γ : Type} {Z : Xc} {W : WX} {σ : St} {R : Wd → α → β → Prop} {R2 : Wd → α' → γ → Prop} {w : Wd} {Q : α' → Hp → Prop} {K : α → Hp → Prop} {r : Res β} {f : β → Store → Res γ} (g : Good Z W σ R2 w Q (r.bind f))
    (k : ∀ u x b S1, Ext w u → HRel u S1 → R u x b → Good Z W σ R2 u Q (f b S1) → K x u.H) : Good Z W σ R w K r := by
  cases r with
  | ok b S => exact fun u x e h q => k u x b S e h q (Good.mono e g)
  | exc c a S => exact g
  | bad => exact g
/-- the slots -/
def ERel (w : Wd) (σ : St) (r : PEnv) : Prop := σ.length = r.length ∧ ∀ (i : Nat) (x : PV), r[i]? = some (some x) → ∃ v, σ[i]? = some (some v) ∧ Rep w v x
theorem ERel.mono {w u : Wd} {σ : St} {r : PEnv} (e : Ext w u) (h : ERel w σ r) : ERel u σ r := ⟨h.1, fun i x q => by
  obtain ⟨v, h1, h2⟩ := h.2 i x q
  exact ⟨v, h1, h2.mono e⟩⟩
theorem ERel.set {w : Wd} {σ : St} {r : PEnv} {v : V} {x : PV} (h : ERel w σ r) (i : Nat) (q : Rep w v x) : ERel w (σ.set i (some v)) (r.set i (some x)) := by
  refine ⟨by rw [List.length_set, List.length_set]; exact h.1, fun j y hj => ?_⟩
  by_cases e : i = j
  · subst e
    have hl : i < r.length := by have z := (List.getElem?_eq_some_iff.mp hj).1; rw [List.length_set] at z; exact z
    rw [List.getElem?_set_self hl] at hj
    cases hj
    exact ⟨v, List.getElem?_set_self (by rw [h.1]; exact hl), q⟩
  · rw [List.getElem?_set_ne e] at hj
    obtain ⟨v', h1, h2⟩ := h.2 j y hj
    exact ⟨v', by rw [List.getElem?_set_ne e]; exact h1, h2⟩
theorem ERel.unset {w : Wd} {σ : St} {r : PEnv} (h : ERel w σ r) (i : Nat) (o : Option V) : ERel w (σ.set i o) (r.set i none) := by
  refine ⟨by rw [List.length_set, List.length_set]; exact h.1, fun j y hj => ?_⟩
  by_cases e : i = j
  · subst e
    have hl : i < r.length := by have z := (List.getElem?_eq_some_iff.mp hj).1; rw [List.length_set] at z; exact z
    rw [List.getElem?_set_self hl] at hj
    cases hj
  · rw [List.getElem?_set_ne e] at hj
    obtain ⟨v', h1, h2⟩ := h.2 j y hj
    exact ⟨v', by rw [List.getElem?_set_ne e]; exact h1, h2⟩
theorem ERel.wipe {w : Wd} {σ : St} {r : PEnv} (h : ERel w σ r) : ∀ vs : List Nat, ERel w (wipe σ vs) (wipeP r vs)
  | [] => h
  | v :: vs => (ERel.wipe h vs).unset v none
/-- the exception at hand -/
def HX (Z : Xc) (σ : St) (w : Wd) : Prop := match Z.C.hx with
  | none => True
  | some (c, a) => ∃ (x d : Addr) (va : V), σ[Z.hs]? = some (some (.ref x)) ∧ Z.pin x c d ∧ w.H d = some (.xd [(Z.fd c, va)]) ∧ ¬ w.phi d ∧ Rep w va a
theorem HX.mono {Z : Xc} {σ : St} {w u : Wd} (e : Ext w u) (h : HX Z σ w) : HX Z σ u := by
  unfold HX at h ⊢
  cases q : Z.C.hx with
  | none => trivial
  | some p =>
    obtain ⟨c, a⟩ := p
    rw [q] at h
    obtain ⟨x, d, va, h1, h2, h3, h4, h5⟩ := h
    exact ⟨x, d, va, h1, h2, e.keep _ _ h3 nTb_xd h4, e.phi_back h3 nTb_xd h4, h5.mono e⟩
/-- where one stands, ahead of a piece of code -/
structure At (Z : Xc) (σ : St) (H : Hp) (w : Wd) (r : PEnv) (S : Store) : Prop where
  H : w.H = H
  K : w.K = Z.K
  e : ERel w σ r
  h : HRel w S
  x : HX Z σ w
  i : Z.I w
theorem At.next {Z : Xc} {σ : St} {H : Hp} {w u : Wd} {r : PEnv} {S S' : Store} (a : At Z σ H w r S) (e : Ext w u) (h : HRel u S') : At Z σ u.H u r S' :=
  ⟨rfl, e.k.trans a.K, a.e.mono e, h, a.x.mono e, Z.Icl _ _ a.i e⟩

def TI (Z : Xc) (W : WX) (m : ME) : TE := fun σ H Q => ∃ w r S, At Z σ H w r S ∧ Good Z W σ Rep w Q (evalE Z.C m r S)
def TIT (Z : Xc) (W : WX) (m : ME) : TT := fun σ H Q => ∃ w r S, At Z σ H w r S ∧ Good Z W σ (fun _ b b' => b = b') w Q (evalT Z.C m r S)
def TIA (Z : Xc) (W : WX) (m : MEs) : TA := fun σ H Q => ∃ w r S, At Z σ H w r S ∧ Good Z W σ Reps w Q (evalEs Z.C m r S)
def TIO (Z : Xc) (W : WX) (m : MEo) : TO := fun σ H Q => ∃ w r S, At Z σ H w r S ∧ Good Z W σ (fun _ b b' => b = b') w Q (evalO Z.C m r S)

theorem _root_.L2.PE.imp {X : Cx} {e : Expr} {t t' : TE} (h : PE X e t) (i : ∀ σ H Q, t' σ H Q → t σ H Q) : PE X e t' := ⟨fun pins s σ H Q I q => h.run pins s σ H Q I (i σ H Q q)⟩
theorem _root_.L2.PT.imp {X : Cx} {e : Expr} {t t' : TT} (h : PT X e t) (i : ∀ σ H Q, t' σ H Q → t σ H Q) : PT X e t' := ⟨fun pins s σ H Q I q => h.run pins s σ H Q I (i σ H Q q)⟩
theorem _root_.L2.PW.imp {X : Cx} {e : Expr} {t t' : TT} (h : PW X e t) (i : ∀ σ H Q, t' σ H Q → t σ H Q) : PW X e t' := ⟨fun wh pins s σ H Q I q => h.run wh pins s σ H Q I (i σ H Q q)⟩
theorem _root_.L2.PA.imp {X : Cx} {e : List Expr} {t t' : TA} (h : PA X e t) (i : ∀ σ H Q, t' σ H Q → t σ H Q) : PA X e t' := ⟨fun pos pins s σ H Q I q => h.run pos pins s σ H Q I (i σ H Q q)⟩
theorem _root_.L2.PO.imp {X : Cx} {e : Option Expr} {t t' : TO} (h : PO X e t) (i : ∀ σ H Q, t' σ H Q → t σ H Q) : PO X e t' := ⟨fun pins s σ H Q I q => h.run pins s σ H Q I (i σ H Q q)⟩
theorem _root_.L2.OpR.imp {X : Cx} {f : Value → Value → Sem Value} {r r' : R2} (h : OpR X f r) (i : ∀ x y H Q, r' x y H Q → r x y H Q) : OpR X f r' := fun pins s σ H x y v u Q I rx ry q => h pins s σ H x y v u Q I rx ry (i x y H Q q)

/-- no exception: the plain end -/
def GoodN {α β : Type} (R : Wd → α → β → Prop) (w : Wd) (Q : α → Hp → Prop) : Res β → Prop
  | .ok b S' => ∀ u x, Ext w u → HRel u S' → R u x b → Q x u.H
  | _ => False
theorem Good.n {α β : Type} {Z : Xc} {W : WX} {σ : St} {R : Wd → α → β → Prop} {w : Wd} {Q : α → Hp → Prop} {r : Res β} (g : Good Z W σ R w Q r) (h : ∀ c a S, r ≠ .exc c a S) : GoodN R w Q r := by
  cases r with
  | ok b S => exact g
  | exc c a S => exact absurd rfl (h c a S)
  | bad => exact g
/-- an operator by plain values -/
def rg (K : PySem.W.Frag) (g : PV → PV → Store → Res PV) : R2 := fun x y H Q => ∃ w S px py, w.H = H ∧ w.K = K ∧ HRel w S ∧ Rep w x px ∧ Rep w y py ∧ GoodN Rep w Q (g px py S)

section
variable {X : Cx} {Z : Xc} {W : WX} {a b c e : Expr} {ma mb mc : ME} {pos : Pos}
theorem snd_var {i : Nat} {x : Str} (hN : X.N[i]? = some x) (hv : Vis X.env.scope x) (hd : (x == ("__debug__" : Str)) = false) (hcd : (x == ("__classdict__" : Str)) = false) : PE X (.Name x pos) (TI Z W (.var i)) := by
  refine (pe_var hN hv hd hcd).imp fun σ H Q h => ?_
  obtain ⟨w, r, S, at_, g⟩ := h
  unfold evalE at g
  cases q : r[i]? with
  | none => rw [q] at g; exact g.elim
  | some o =>
    cases o with
    | none => rw [q] at g; exact g.elim
    | some x =>
      rw [q] at g
      obtain ⟨v, h1, h2⟩ := at_.e.2 i x q
      exact ⟨v, h1, by rw [← at_.H]; exact g w v (Ext.refl w) at_.h h2⟩
theorem snd_k {v : V} {p : PV} {e : Expr} (h : PE X e (tC v)) (hr : ∀ w : Wd, w.K = Z.K → Rep w v p) : PE X e (TI Z W (.k p)) := by
  refine h.imp fun σ H Q h => ?_
  obtain ⟨w, r, S, at_, g⟩ := h
  unfold evalE at g
  show Q v H
  rw [← at_.H]
  exact g w v (Ext.refl w) at_.h (hr w at_.K)
theorem snd_bin {op : Operator} {o : O2} (ho : OpR X (binaryOp op) (rg Z.K (op2 o))) (hx : ∀ x y S c a S', op2 o x y S ≠ .exc c a S') (ha : PE X a (TI Z W ma)) (hb : PE X b (TI Z W mb)) :
    PE X (.BinOp a op b pos) (TI Z W (.bin o ma mb)) := by
  refine (pe_op ho ha hb).imp fun σ H Q h => ?_
  obtain ⟨w, r, S, at_, g⟩ := h
  unfold evalE at g
  refine ⟨w, r, S, at_, g.bindI fun u x p S1 e1 h1 r1 g1 => ?_⟩
  refine ⟨u, r, S1, at_.next e1 h1, g1.bindI fun t y q S2 e2 h2 r2 g2 => ?_⟩
  exact ⟨t, S2, p, q, rfl, e2.k.trans (e1.k.trans at_.K), h2, r1.mono e2, r2, g2.n (hx _ _ _)⟩
theorem snd_cmp {op : CmpOp} {o : O2} (ho : OpR X (compareOp op) (rg Z.K (op2 o))) (hx : ∀ x y S c a S', op2 o x y S ≠ .exc c a S') (ha : PE X a (TI Z W ma)) (hb : PE X b (TI Z W mb)) (hm : behindInMarks op b = false) :
    PE X (.Compare a [op] [b] pos) (TI Z W (.bin o ma mb)) := by
  refine (pe_cmpR ho ha hb hm).imp fun σ H Q h => ?_
  obtain ⟨w, r, S, at_, g⟩ := h
  unfold evalE at g
  refine ⟨w, r, S, at_, g.bindI fun u x p S1 e1 h1 r1 g1 => ?_⟩
  refine ⟨u, r, S1, at_.next e1 h1, g1.bindI fun t y q S2 e2 h2 r2 g2 => ?_⟩
  exact ⟨t, S2, p, q, rfl, e2.k.trans (e1.k.trans at_.K), h2, r1.mono e2, r2, g2.n (hx _ _ _)⟩
/-- a comparison gives a truth value -/
def Bo (o : O2) : Prop := ∀ x y S v S', op2 o x y S = .ok v S' → ∃ k, v = .bl k
theorem tru_bl {b : Bool} {S : Store} : truP (.bl b) S = some b := rfl
theorem Rep.of_bl {w : Wd} {v : V} {k : Bool} (h : Rep w v (.bl k)) : v = .bl k := by cases h; rfl
theorem Res.bind_assoc {α β γ : Type} {r : Res α} {f : α → Store → Res β} {g : β → Store → Res γ} : (r.bind f).bind g = r.bind fun x S => (f x S).bind g := by cases r <;> rfl
/-- what a value tells as a test -/
def truR (x : PV) (S : Store) : Res Bool := match truP x S with
  | some t => .ok t S
  | none => .bad
theorem truR_bl {b : Bool} {S : Store} : truR (.bl b) S = .ok b S := rfl
theorem Good.test {Z : Xc} {W : WX} {σ : St} {w : Wd} {Q : Bool → Hp → Prop} {o : O2} {p q : PV} {S : Store} (hx : ∀ c a S', op2 o p q S ≠ .exc c a S') (hbo : Bo o) (g : Good Z W σ (fun _ b b' => b = b') w Q ((op2 o p q S).bind truR)) :
    GoodN Rep w (fun z H' => ∃ k, z = V.bl k ∧ Q k H') (op2 o p q S) := by
  cases e : op2 o p q S with
  | bad => rw [e] at g; exact g.elim
  | exc c a S' => exact absurd e (hx c a S')
  | ok v S' =>
    obtain ⟨k, rfl⟩ := hbo _ _ _ _ _ e
    rw [e] at g
    exact fun u z e1 h1 r1 => ⟨k, r1.of_bl, g u k e1 h1 rfl⟩
theorem evalT_bin {C : Cxt} {o : O2} {r : PEnv} {S : Store} : evalT C (.bin o ma mb) r S = (evalE C (.bin o ma mb) r S).bind truR := by
  rw [evalT] <;> first | rfl | (intros; rintro ⟨⟩) | (rintro _ _ _ ⟨⟩) | (intros; rename_i h; cases h)
theorem snd_cmpT {op : CmpOp} {o : O2} (ho : OpR X (compareOp op) (rg Z.K (op2 o))) (hx : ∀ x y S c a S', op2 o x y S ≠ .exc c a S') (hbo : Bo o) (ha : PE X a (TI Z W ma)) (hb : PE X b (TI Z W mb)) (hm : behindInMarks op b = false) :
    PT X (.Compare a [op] [b] pos) (TIT Z W (.bin o ma mb)) := by
  refine (pt_cmpR ho ha hb hm).imp fun σ H Q h => ?_
  obtain ⟨w, r, S, at_, g⟩ := h
  rw [evalT_bin, evalE, Res.bind_assoc] at g
  refine ⟨w, r, S, at_, g.bindI fun u x p S1 e1 h1 r1 g1 => ?_⟩
  rw [Res.bind_assoc] at g1
  refine ⟨u, r, S1, at_.next e1 h1, g1.bindI fun t y q S2 e2 h2 r2 g2 => ?_⟩
  exact ⟨t, S2, p, q, rfl, e2.k.trans (e1.k.trans at_.K), h2, r1.mono e2, r2, g2.test (hx _ _ _) hbo⟩
/-! ### and, or, not -/
theorem evalT_and {C : Cxt} {r : PEnv} {S : Store} : evalT C (.and_ ma mb) r S = (evalT C ma r S).bind fun t S1 => if t = true then evalT C mb r S1 else .ok false S1 := by rw [evalT]
theorem evalT_or {C : Cxt} {r : PEnv} {S : Store} : evalT C (.or_ ma mb) r S = (evalT C ma r S).bind fun t S1 => if t = true then .ok true S1 else evalT C mb r S1 := by rw [evalT]
theorem evalT_not {C : Cxt} {r : PEnv} {S : Store} : evalT C (.not_ ma) r S = (evalT C ma r S).bind fun t S1 => .ok (!t) S1 := by rw [evalT]
theorem evalT_ite {C : Cxt} {r : PEnv} {S : Store} : evalT C (.ite ma mb mc) r S = (evalT C ma r S).bind fun t S1 => if t = true then evalT C mb r S1 else evalT C mc r S1 := by rw [evalT]
theorem snd_andT {rest : List Expr} (ha : PT X a (TIT Z W ma)) (hb : PW X (.BoolOp .And (b :: rest) pos) (TIT Z W mb)) : PW X (.BoolOp .And (a :: b :: rest) pos) (TIT Z W (.and_ ma mb)) := by
  refine (pw_and ha hb).imp fun σ H Q h => ?_
  obtain ⟨w, r, S, at_, g⟩ := h
  rw [evalT_and] at g
  refine ⟨w, r, S, at_, g.bindI fun u x p S1 e1 h1 r1 g1 => ?_⟩
  subst r1
  cases x with
  | true => exact ⟨u, r, S1, at_.next e1 h1, g1⟩
  | false => exact g1 u false (Ext.refl u) h1 rfl
theorem snd_orT {rest : List Expr} (ha : PT X a (TIT Z W ma)) (hb : PW X (.BoolOp .Or (b :: rest) pos) (TIT Z W mb)) : PW X (.BoolOp .Or (a :: b :: rest) pos) (TIT Z W (.or_ ma mb)) := by
  refine (pw_or ha hb).imp fun σ H Q h => ?_
  obtain ⟨w, r, S, at_, g⟩ := h
  rw [evalT_or] at g
  refine ⟨w, r, S, at_, g.bindI fun u x p S1 e1 h1 r1 g1 => ?_⟩
  subst r1
  cases x with
  | false => exact ⟨u, r, S1, at_.next e1 h1, g1⟩
  | true => exact g1 u true (Ext.refl u) h1 rfl
theorem snd_notT (ha : PT X a (TIT Z W ma)) : PT X (.UnaryOp .Not a pos) (TIT Z W (.not_ ma)) := by
  refine (pt_not ha).imp fun σ H Q h => ?_
  obtain ⟨w, r, S, at_, g⟩ := h
  rw [evalT_not] at g
  refine ⟨w, r, S, at_, g.bindI fun u x p S1 e1 h1 r1 g1 => ?_⟩
  subst r1
  exact g1 u _ (Ext.refl u) h1 rfl
theorem snd_and {rest : List Expr} (ha : PE X a (TI Z W ma)) (hb : PE X (.BoolOp .And (b :: rest) pos) (TI Z W mb)) : PE X (.BoolOp .And (a :: b :: rest) pos) (TI Z W (.and_ ma mb)) := by
  refine (pe_and ha hb).imp fun σ H Q h => ?_
  obtain ⟨w, r, S, at_, g⟩ := h
  rw [evalE] at g
  refine ⟨w, r, S, at_, g.bindI fun u x p S1 e1 h1 r1 g1 => ?_⟩
  cases p with
  | bl k =>
    cases r1
    refine ⟨k, rfl, ?_⟩
    cases k with
    | true => exact ⟨u, r, S1, at_.next e1 h1, g1⟩
    | false => exact g1 u _ (Ext.refl u) h1 (.bl false)
  | _ => exact g1.elim
theorem snd_or {rest : List Expr} (ha : PE X a (TI Z W ma)) (hb : PE X (.BoolOp .Or (b :: rest) pos) (TI Z W mb)) : PE X (.BoolOp .Or (a :: b :: rest) pos) (TI Z W (.or_ ma mb)) := by
  refine (pe_or ha hb).imp fun σ H Q h => ?_
  obtain ⟨w, r, S, at_, g⟩ := h
  rw [evalE] at g
  refine ⟨w, r, S, at_, g.bindI fun u x p S1 e1 h1 r1 g1 => ?_⟩
  cases p with
  | bl k =>
    cases r1
    refine ⟨k, rfl, ?_⟩
    cases k with
    | false => exact ⟨u, r, S1, at_.next e1 h1, g1⟩
    | true => exact g1 u _ (Ext.refl u) h1 (.bl true)
  | _ => exact g1.elim
theorem snd_not (ha : PE X a (TI Z W ma)) : PE X (.UnaryOp .Not a pos) (TI Z W (.not_ ma)) := by
  refine (pe_not ha).imp fun σ H Q h => ?_
  obtain ⟨w, r, S, at_, g⟩ := h
  rw [evalE] at g
  refine ⟨w, r, S, at_, g.bindI fun u x p S1 e1 h1 r1 g1 => ?_⟩
  cases p with
  | bl k =>
    cases r1
    exact ⟨k, rfl, g1 u _ (Ext.refl u) h1 (.bl _)⟩
  | _ => exact g1.elim
theorem snd_ite (hc : PT X c (TIT Z W mc)) (ha : PE X a (TI Z W ma)) (hb : PE X b (TI Z W mb)) : PE X (.IfExp c a b pos) (TI Z W (.ite mc ma mb)) := by
  refine (pe_ifExp hc ha hb).imp fun σ H Q h => ?_
  obtain ⟨w, r, S, at_, g⟩ := h
  rw [evalE] at g
  refine ⟨w, r, S, at_, g.bindI fun u x p S1 e1 h1 r1 g1 => ?_⟩
  subst r1
  cases x with
  | true => exact ⟨u, r, S1, at_.next e1 h1, g1⟩
  | false => exact ⟨u, r, S1, at_.next e1 h1, g1⟩
/-- a value as a test -/
theorem truV {w : Wd} {S : Store} {v : V} {p : PV} {t : Bool} (hr : HRel w S) (r : Rep w v p) (h : truP p S = some t) : TruV w.K v w.H t := by
  cases r with
  | non => cases h; exact rfl
  | bl b => cases h; exact rfl
  | int i => cases h; exact rfl
  | str x =>
    unfold truP at h
    dsimp only at h
    split at h
    · rename_i hz
      cases h
      exact ⟨hz, rfl⟩
    · cases h
  | ty n => cases h
  | thk => cases h
  | tup q rs =>
    cases h
    refine .inr (.inl ⟨_, q.sq, ?_⟩)
    cases rs <;> rfl
  | lst q rs =>
    cases h
    refine .inl ⟨_, .inl q.1, ?_⟩
    cases rs <;> rfl
  | scr q rs =>
    cases h
    refine .inl ⟨_, q.sq, ?_⟩
    cases rs <;> rfl
  | @ref a n q =>
    unfold truP at h
    dsimp only at h
    split at h
    · rename_i xs e
      cases h
      obtain ⟨a', h1, vs, h2, h3⟩ := hr.at_ e
      rw [q] at h1; cases h1
      refine .inl ⟨vs, SqL.of h2, ?_⟩
      cases h3 <;> rfl
    · cases h
theorem evalT_truth {C : Cxt} {m : ME} {r : PEnv} {S : Store} (h1 : ∀ a b, m ≠ .and_ a b) (h2 : ∀ a b, m ≠ .or_ a b) (h3 : ∀ a, m ≠ .not_ a) (h4 : ∀ a b c, m ≠ .ite a b c) : evalT C m r S = (evalE C m r S).bind truR := by
  cases m with
  | and_ a b => exact absurd rfl (h1 a b)
  | or_ a b => exact absurd rfl (h2 a b)
  | not_ a => exact absurd rfl (h3 a)
  | ite a b c => exact absurd rfl (h4 a b c)
  | _ => rw [evalT] <;> first | rfl | (intros; rintro ⟨⟩) | (rintro _ _ _ ⟨⟩) | (intros; rename_i h; cases h)
theorem snd_truth (ha : PE X a (TI Z W ma)) (he : ∀ whole, isTrue a X.env whole = (do let v ← whole; standAt a.pos; holding [v] (truthy v))) (hK : Z.K = X.K)
    (h1 : ∀ a b, ma ≠ .and_ a b) (h2 : ∀ a b, ma ≠ .or_ a b) (h3 : ∀ a, ma ≠ .not_ a) (h4 : ∀ a b c, ma ≠ .ite a b c) : PT X a (TIT Z W ma) := by
  refine (pt_truth ha he).imp fun σ H Q h => ?_
  obtain ⟨w, r, S, at_, g⟩ := h
  rw [evalT_truth h1 h2 h3 h4] at g
  refine ⟨w, r, S, at_, g.bindI fun u x p S1 e1 hr1 r1 g1 => ?_⟩
  unfold truR at g1
  cases q : truP p S1 with
  | none => rw [q] at g1; exact g1.elim
  | some t =>
    rw [q] at g1
    have k := truV hr1 r1 q
    rw [e1.k.trans (at_.K.trans hK)] at k
    exact ⟨t, k, g1 u t (Ext.refl u) hr1 rfl⟩
/-! ### displays, arguments -/
theorem snd_anil : PA X [] (TIA Z W .nil) := by
  refine pa_nil.imp fun σ H Q h => ?_
  obtain ⟨w, r, S, at_, g⟩ := h
  rw [evalEs] at g
  show Q [] H
  rw [← at_.H]
  exact g w [] (Ext.refl w) at_.h .nil
theorem snd_acons {es : List Expr} {ms : MEs} (ha : PE X a (TI Z W ma)) (hb : PA X es (TIA Z W ms)) (hs : starEach (a :: es) X.env = (false, eval a X.env) :: starEach es X.env) : PA X (a :: es) (TIA Z W (.cons ma ms)) := by
  refine (pa_cons ha hb hs).imp fun σ H Q h => ?_
  obtain ⟨w, r, S, at_, g⟩ := h
  rw [evalEs] at g
  refine ⟨w, r, S, at_, g.bindI fun u x p S1 e1 h1 r1 g1 => ?_⟩
  refine ⟨u, r, S1, at_.next e1 h1, g1.bindI fun t y q S2 e2 h2 r2 g2 => ?_⟩
  exact g2 t _ (Ext.refl t) h2 (.cons (r1.mono e2) r2)
theorem snd_tup {es : List Expr} {ms : MEs} {x1} (ha : PA X es (TIA Z W ms)) : PE X (.Tuple es x1 pos) (TI Z W (.tup ms)) := by
  refine (pe_tup ha).imp fun σ H Q h => ?_
  obtain ⟨w, r, S, at_, g⟩ := h
  rw [evalE] at g
  refine ⟨w, r, S, at_, g.bindI fun u x p S1 e1 h1 r1 g1 => ?_⟩
  split at g1
  · rename_i hz
    refine ⟨by rw [r1.length]; exact hz, fun l hl => ?_⟩
    obtain ⟨h2, e2, r2⟩ := h1.newT hl r1
    exact g1 _ _ e2 h2 r2
  · exact g1.elim
theorem snd_lst {es : List Expr} {ms : MEs} (ha : PA X es (TIA Z W ms)) : PE X (.List es pos) (TI Z W (.lst ms)) := by
  refine (pe_lst ha).imp fun σ H Q h => ?_
  obtain ⟨w, r, S, at_, g⟩ := h
  rw [evalE] at g
  refine ⟨w, r, S, at_, g.bindI fun u x p S1 e1 h1 r1 g1 => ?_⟩
  split at g1
  · rename_i hz
    refine ⟨by rw [r1.length]; exact hz, fun l hl => ?_⟩
    obtain ⟨h2, e2, r2⟩ := h1.newL hl r1
    exact g1 _ _ e2 h2 r2
  · exact g1.elim
theorem snd_lstR {es : List Expr} {ms : MEs} (ha : PA X es (TIA Z W ms)) : PE X (.List es pos) (TI Z W (.lstR ms)) := by
  refine (pe_lst ha).imp fun σ H Q h => ?_
  obtain ⟨w, r, S, at_, g⟩ := h
  rw [evalE] at g
  refine ⟨w, r, S, at_, g.bindI fun u x p S1 e1 h1 r1 g1 => ?_⟩
  split at g1
  · rename_i hz
    refine ⟨by rw [r1.length]; exact hz, fun l hl => ?_⟩
    obtain ⟨h2, e2, r2⟩ := h1.addL hl r1
    exact g1 _ _ e2 h2 r2
  · exact g1.elim
end
end Dg
end

section
set_option Elab.async false
set_option linter.all false
set_option maxRecDepth 100000
set_option maxHeartbeats 4000000
/-! DgD: the operators by plain values. -/
namespace Dg
open PySem PySem.Spec L2
open PyProof.Rows hiding St

/-- a raised exception never comes out of an operation on values -/
theorem op2_noexc (o : O2) (x y : PV) (S : Store) (c : Nat) (a : PV) (S' : Store) : op2 o x y S ≠ .exc c a S' := by
  intro h
  cases o <;> simp only [op2, addP, mulP, eqD, cmpI, inP, deepP, ixP, okI, okB] at h <;> (repeat' split at h) <;> cases h
theorem bo_of {o : O2} (h : o = .eq ∨ o = .ne ∨ o = .lt ∨ o = .le ∨ o = .gt ∨ o = .ge ∨ o = .inn ∨ o = .nin) : Bo o := by
  intro x y S v S' e
  rcases h with rfl | rfl | rfl | rfl | rfl | rfl | rfl | rfl <;> simp only [op2, eqD, cmpI, inP, deepP, okB] at e <;> (repeat' split at e) <;> first | (cases e; exact ⟨_, rfl⟩) | cases e

theorem lstOf_sq {w : Wd} {S : Store} {v : V} {p : PV} {xs : List PV} (hr : HRel w S) (r : Rep w v p) (h : lstOf p S = some xs) : ∃ a vs, v = .ref a ∧ Rd w.H a (.lst vs) ∧ Reps w vs xs := by
  cases r with
  | lst q rs => cases h; exact ⟨_, _, rfl, q.1, rs⟩
  | @ref a n q =>
    unfold lstOf at h
    dsimp only at h
    split at h
    · rename_i e
      cases h
      obtain ⟨a', h1, vs, h2, h3⟩ := hr.at_ e
      rw [q] at h1; cases h1
      exact ⟨_, _, rfl, .inl h2, h3⟩
    · cases h
  | _ => cases h
theorem seqOf_sq {w : Wd} {S : Store} {v : V} {p : PV} {xs : List PV} (hr : HRel w S) (r : Rep w v p) (h : seqOf p S = some xs) : ∃ a vs, v = .ref a ∧ (SqL w.K w.H a vs ∨ SqT w.K w.H a vs) ∧ Reps w vs xs := by
  cases r with
  | lst q rs => cases h; exact ⟨_, _, rfl, .inl (.inl q.1), rs⟩
  | scr q rs => cases h; exact ⟨_, _, rfl, .inl q.sq, rs⟩
  | tup q rs => cases h; exact ⟨_, _, rfl, .inr q.sq, rs⟩
  | @ref a n q =>
    unfold seqOf at h
    dsimp only at h
    split at h
    · rename_i e
      cases h
      obtain ⟨a', h1, vs, h2, h3⟩ := hr.at_ e
      rw [q] at h1; cases h1
      exact ⟨_, _, rfl, .inl (.inl (.inl h2)), h3⟩
    · cases h
  | _ => cases h
/-! ### data -/
mutual
theorem Rep.toD {w : Wd} {S : Store} : ∀ {v : V} {p : PV} {d : PyData}, Rep w v p → toD S p = some d → Dp w.K w.H v d
  | _, .non, _, .non, h => by cases h; exact .non
  | _, .bl b, _, .bl _, h => by cases h; exact .bl b
  | _, .int i, _, .int _, h => by cases h; exact .int i
  | _, .str x, _, .str _, h => by cases h; exact .str x
  | _, .tup xs, _, .tup q rs, h => by
    unfold Dg.toD at h
    cases e : toDs S xs with
    | none => rw [e] at h; cases h
    | some ds => rw [e] at h; cases h; exact .tup q.sq (Reps.toDs rs e)
  | _, .lst xs, _, .lst q rs, h => by
    unfold Dg.toD at h
    cases e : toDs S xs with
    | none => rw [e] at h; cases h
    | some ds => rw [e] at h; cases h; exact .lst (.inl q.1) (Reps.toDs rs e)
  | _, .ref _, _, _, h => by unfold Dg.toD at h; cases h
  | _, .ty _, _, _, h => by unfold Dg.toD at h; cases h
  | _, .scr _, _, _, h => by unfold Dg.toD at h; cases h
  | _, .thk, _, _, h => by unfold Dg.toD at h; cases h
theorem Reps.toDs {w : Wd} {S : Store} : ∀ {vs : List V} {xs : List PV} {ds : List PyData}, Reps w vs xs → toDs S xs = some ds → DpAll w.K w.H vs ds
  | _, [], _, .nil, h => by cases h; exact .nil
  | _, x :: xs, _, .cons q rs, h => by
    unfold Dg.toDs at h
    cases e1 : Dg.toD S x with
    | none => rw [e1] at h; cases h
    | some d =>
      cases e2 : toDs S xs with
      | none => rw [e1, e2] at h; cases h
      | some es => rw [e1, e2] at h; cases h; exact .cons (Rep.toD q e1) (Reps.toDs rs e2)
end
theorem Rep.toD1 {w : Wd} {S : Store} {v : V} {p : PV} {d : PyData} (hr : HRel w S) (r : Rep w v p) (h : toD1 S p = some d) : Dp w.K w.H v d := by
  cases r with
  | @ref a n q =>
    unfold Dg.toD1 at h
    dsimp only at h
    split at h
    · rename_i xs e
      cases e2 : toDs S xs with
      | none => rw [e2] at h; cases h
      | some ds =>
        rw [e2] at h; cases h
        obtain ⟨a', h1, vs, h2, h3⟩ := hr.at_ e
        rw [q] at h1; cases h1
        exact .lst (.inl (.inl h2)) (Reps.toDs h3 e2)
    · cases h
  | non => exact Rep.toD (S := S) .non h
  | bl b => exact Rep.toD (S := S) (.bl b) h
  | int i => exact Rep.toD (S := S) (.int i) h
  | str x => exact Rep.toD (S := S) (.str x) h
  | ty n => exact Rep.toD (S := S) (.ty n) h
  | thk => exact Rep.toD (S := S) .thk h
  | tup q rs => exact Rep.toD (S := S) (.tup q rs) h
  | lst q rs => exact Rep.toD (S := S) (.lst q rs) h
  | scr q rs => exact Rep.toD (S := S) (.scr q rs) h

section
variable {X : Cx}
/-- list + list of any kind that is tracked -/
theorem op_catS : OpR X (binaryOp .Add) (fun x y H Q => ∃ l b xs zs, x = .ref l ∧ y = .ref b ∧ Rd H l (.lst xs) ∧ Rd H b (.lst zs) ∧ xs.length + zs.length ≤ sizeLine ∧ ∀ p, H p = none → Q (.ref p) (upd H p (.lst (xs ++ zs)))) := by
  intro pins s σ H x y v u Q I rx ry h
  obtain ⟨l, b, xs, zs, rfl, rfl, hH, hB, hz, q⟩ := h
  cases rx
  cases ry
  obtain ⟨z, its, n, r, e⟩ := hH.ok I.hok
  obtain ⟨z2, its2, n2, r2, e2⟩ := hB.ok I.hok
  have hl := r.length
  have hl2 := r2.length
  refine PySem.P.add_list e e2 ?_ (by rw [List.size_toArray, List.size_toArray]; omega)
  have ea : its.toArray ++ its2.toArray = (its ++ its2).toArray := by simp
  rw [ea]
  exact ⟨.ref _, _, I.lnew (t' := s.toks) (r.append r2) (by rw [List.length_append]; omega), rfl, q _ I.fresh⟩
theorem og_add {K : PySem.W.Frag} (hK : K = X.K) : OpR X (binaryOp .Add) (rg K (op2 .add)) := by
  intro pins s σ H x y v u Q I rx ry ⟨w, S, px, py, hw, hk, hr, r1, r2, g⟩
  subst hw
  have lists : ∀ {g : GoodN Rep w Q (match lstOf px S, lstOf py S with
      | some xs, some ys => if xs.length + ys.length ≤ sizeLine then .ok (.lst (xs ++ ys)) S else .bad
      | _, _ => .bad)}, wpAny (model X.prog X.w) X.A (binaryOp .Add v u) (EP X pins σ Q) X.xe s := fun {g} => by
    cases e1 : lstOf px S with
    | none => rw [e1] at g; exact g.elim
    | some xs =>
      cases e2 : lstOf py S with
      | none => rw [e1, e2] at g; exact g.elim
      | some ys =>
        rw [e1, e2] at g
        dsimp only at g
        split at g
        · rename_i hz
          obtain ⟨a, vs, rfl, h1, q1⟩ := lstOf_sq hr r1 e1
          obtain ⟨b, us, rfl, h2, q2⟩ := lstOf_sq hr r2 e2
          refine op_catS pins s σ _ _ _ v u Q I rx ry ⟨a, b, vs, us, rfl, rfl, h1, h2, by rw [q1.length, q2.length]; exact hz, fun p hp => ?_⟩
          obtain ⟨h3, e3, r3⟩ := hr.newL hp (q1.append q2)
          exact g _ _ e3 h3 r3
        · exact g.elim
  cases r1 with
  | int i =>
    cases r2 with
    | int j => exact op_add pins s σ _ _ _ v u Q I rx ry ⟨i, j, rfl, rfl, g w _ (Ext.refl w) hr (.int _)⟩
    | _ => exact lists (g := g)
  | str i =>
    cases r2 with
    | str j =>
      simp only [op2, addP] at g
      split at g
      · rename_i hz
        exact op_add_str pins s σ _ _ _ v u Q I rx ry ⟨i, j, rfl, rfl, hz, g w _ (Ext.refl w) hr (.str _)⟩
      · exact g.elim
    | _ => exact lists (g := g)
  | tup q1 s1 =>
    cases r2 with
    | tup q2 s2 =>
      simp only [op2, addP] at g
      split at g
      · rename_i xs ys hz
        subst hk
        rename_i vs us
        refine op_catA pins s σ _ _ _ v u Q I rx ry ⟨_, _, _, _, rfl, rfl, hK ▸ q1.sq, hK ▸ q2.sq, by rw [s1.length, s2.length]; exact hz, fun h0 => ?_, fun h0 h1 => ?_, fun _ _ p hp => ?_⟩
        · cases s1 with
          | nil => exact g w _ (Ext.refl w) hr (.tup q2 s2)
          | cons => cases h0
        · cases s2 with
          | nil => rw [List.append_nil] at g; exact g w _ (Ext.refl w) hr (.tup q1 s1)
          | cons => cases h1
        · obtain ⟨h3, e3, r3⟩ := hr.newT hp (s1.append s2)
          exact g _ _ e3 h3 r3
      · exact g.elim
    | _ => exact lists (g := g)
  | _ => exact lists (g := g)
theorem og_sub {K : PySem.W.Frag} : OpR X (binaryOp .Sub) (rg K (op2 .sub)) := by
  intro pins s σ H x y v u Q I rx ry ⟨w, S, px, py, hw, hk, hr, r1, r2, g⟩
  subst hw
  cases r1 with
  | int i =>
    cases r2 with
    | int j => exact op_sub pins s σ _ _ _ v u Q I rx ry ⟨i, j, rfl, rfl, g w _ (Ext.refl w) hr (.int _)⟩
    | _ => exact g.elim
  | _ => exact g.elim
/-- two ints under a condition -/
theorem og_int {f : Value → Value → Sem Value} {C : Int → Int → Prop} [∀ i j, Decidable (C i j)] {h : Int → Int → Int} {K : PySem.W.Frag} {o : PV → PV → Store → Res PV} (ho : OpR X f (rI C fun i j => .int (h i j)))
    (hi : ∀ i j S, o (.int i) (.int j) S = okI (C i j) (h i j) S) (hb : ∀ x y S, (∀ i j, ¬ (x = .int i ∧ y = .int j)) → o x y S = .bad) : OpR X f (rg K o) := by
  intro pins s σ H x y v u Q I rx ry ⟨w, S, px, py, hw, hk, hr, r1, r2, g⟩
  subst hw
  cases r1 with
  | int i =>
    cases r2 with
    | int j =>
      rw [hi] at g
      unfold okI at g
      split at g
      · rename_i hc
        exact ho pins s σ _ _ _ v u Q I rx ry ⟨i, j, rfl, rfl, hc, g w _ (Ext.refl w) hr (.int _)⟩
      · exact g.elim
    | _ => rw [hb _ _ _ (by rintro i j ⟨_, ⟨⟩⟩)] at g; exact g.elim
  | _ => rw [hb _ _ _ (by rintro i j ⟨⟨⟩, _⟩)] at g; exact g.elim
theorem op_fdivG : OpR X (binaryOp .FloorDiv) (rI (fun _ j => j < 0 ∧ j.natAbs.log2 < 9000) fun i j => .int (i.fdiv j)) :=
  opI fun i j _ _ _ _ _ hc q => floordiv_int (by have := hc.1; omega) q (.inl (PyProof.noPylong_of_log2 hc.2))
theorem og_fdiv {K : PySem.W.Frag} : OpR X (binaryOp .FloorDiv) (rg K (op2 .fdiv)) := by
  intro pins s σ H x y v u Q I rx ry ⟨w, S, px, py, hw, hk, hr, r1, r2, g⟩
  subst hw
  cases r1 with
  | int i =>
    cases r2 with
    | int j =>
      simp only [op2] at g
      split at g
      · rename_i hc
        exact op_fdivW pins s σ _ _ _ v u Q I rx ry ⟨i, j, rfl, rfl, hc, g w _ (Ext.refl w) hr (.int _)⟩
      · split at g
        · rename_i hc
          exact op_fdivG pins s σ _ _ _ v u Q I rx ry ⟨i, j, rfl, rfl, hc, g w _ (Ext.refl w) hr (.int _)⟩
        · exact g.elim
    | _ => exact g.elim
  | _ => exact g.elim
theorem og_fdivW {K : PySem.W.Frag} : OpR X (binaryOp .FloorDiv) (rg K (op2 .fdivW)) :=
  og_int (C := CDivW) op_fdivW (fun _ _ _ => rfl) fun x y S h => by
    cases x <;> cases y <;> first | rfl | exact absurd ⟨rfl, rfl⟩ (h _ _)
theorem og_mulW {K : PySem.W.Frag} : OpR X (binaryOp .Mult) (rg K (op2 .mulW)) :=
  og_int (C := CMulW) op_mulW (fun _ _ _ => rfl) fun x y S h => by
    cases x <;> cases y <;> first | rfl | exact absurd ⟨rfl, rfl⟩ (h _ _)
theorem og_mod {K : PySem.W.Frag} : OpR X (binaryOp .Mod) (rg K (op2 .mod)) := by
  intro pins s σ H x y v u Q I rx ry ⟨w, S, px, py, hw, hk, hr, r1, r2, g⟩
  subst hw
  cases r1 with
  | int i =>
    cases r2 with
    | int j =>
      simp only [op2] at g
      split at g
      · rename_i hc
        exact op_mod pins s σ _ _ _ v u Q I rx ry ⟨i, j, rfl, rfl, hc, g w _ (Ext.refl w) hr (.int _)⟩
      · split at g
        · rename_i hc
          exact op_modN pins s σ _ _ _ v u Q I rx ry ⟨i, j, rfl, rfl, (by intro z; rw [z] at hc; exact absurd hc (by decide)), g w _ (Ext.refl w) hr (.int _)⟩
        · exact g.elim
    | _ => exact g.elim
  | _ => exact g.elim
theorem og_pow {K : PySem.W.Frag} : OpR X (binaryOp .Pow) (rg K (op2 .pow)) :=
  og_int (C := CPow) op_pow (fun _ _ _ => rfl) fun x y S h => by
    cases x <;> cases y <;> first | rfl | exact absurd ⟨rfl, rfl⟩ (h _ _)
/-- two ints compared -/
theorem og_cmp {f : Value → Value → Sem Value} {p : Int → Int → Bool} {K : PySem.W.Frag} (ho : OpR X f (rI0 fun i j => .bl (p i j))) : OpR X f (rg K (cmpI p)) := by
  intro pins s σ H x y v u Q I rx ry ⟨w, S, px, py, hw, hk, hr, r1, r2, g⟩
  subst hw
  cases r1 with
  | int i =>
    cases r2 with
    | int j => exact ho pins s σ _ _ _ v u Q I rx ry ⟨i, j, rfl, rfl, g w _ (Ext.refl w) hr (.bl _)⟩
    | _ => exact g.elim
  | _ => exact g.elim
theorem og_lt {K : PySem.W.Frag} : OpR X (compareOp .Lt) (rg K (op2 .lt)) := og_cmp op_lt
theorem og_le {K : PySem.W.Frag} : OpR X (compareOp .LtE) (rg K (op2 .le)) := og_cmp op_le
theorem og_gt {K : PySem.W.Frag} : OpR X (compareOp .Gt) (rg K (op2 .gt)) := og_cmp op_gt
theorem og_ge {K : PySem.W.Frag} : OpR X (compareOp .GtE) (rg K (op2 .ge)) := og_cmp op_ge
theorem scal_ok {w : Wd} {x y : V} {p q : PV} (r : Rep w x p) (s : Rep w y q) (h : scalP p q = true) : scal x y = true ∧ decide (x = y) = decP p q := by
  cases r <;> cases s <;> first | (exact absurd h Bool.false_ne_true) | exact ⟨rfl, by first | rfl | exact dec_int | exact dec_bl | exact dec_str | simp [decP]⟩
theorem og_eq {K : PySem.W.Frag} (hK : K = X.K) (hu : X.A.units + 64 < cLine) : OpR X (compareOp .Eq) (rg K (op2 .eq)) := by
  intro pins s σ H x y v u Q I rx ry ⟨w, S, px, py, hw, hk, hr, r1, r2, g⟩
  subst hw
  simp only [op2, eqD] at g
  by_cases hsc : scalP px py = true
  · obtain ⟨sc1, sc2⟩ := scal_ok r1 r2 hsc
    rw [if_pos hsc] at g
    exact op_eq pins s σ _ _ _ v u Q I rx ry ⟨sc1, by rw [sc2]; exact g w _ (Ext.refl w) hr (.bl _)⟩
  rw [if_neg hsc] at g
  cases e1 : toD1 S px with
  | none => rw [e1] at g; exact g.elim
  | some d =>
    cases e2 : toD1 S py with
    | none => rw [e1, e2] at g; exact g.elim
    | some e =>
      rw [e1, e2] at g
      dsimp only at g
      split at g
      · rename_i hs
        have h1 := r1.toD1 hr e1
        have h2 := r2.toD1 hr e2
        rw [hk.trans hK] at h1 h2
        exact op_eqD hu pins s σ _ _ _ v u Q I rx ry ⟨d, e, h1, h2, hs.1, hs.2, g w _ (Ext.refl w) hr (.bl _)⟩
      · exact g.elim
theorem og_ne {K : PySem.W.Frag} (hK : K = X.K) (hu : X.A.units + 64 < cLine) : OpR X (compareOp .NotEq) (rg K (op2 .ne)) := by
  intro pins s σ H x y v u Q I rx ry ⟨w, S, px, py, hw, hk, hr, r1, r2, g⟩
  subst hw
  simp only [op2, eqD] at g
  by_cases hsc : scalP px py = true
  · obtain ⟨sc1, sc2⟩ := scal_ok r1 r2 hsc
    rw [if_pos hsc] at g
    exact op_ne pins s σ _ _ _ v u Q I rx ry ⟨sc1, by rw [sc2]; exact g w _ (Ext.refl w) hr (.bl _)⟩
  rw [if_neg hsc] at g
  cases e1 : toD1 S px with
  | none => rw [e1] at g; exact g.elim
  | some d =>
    cases e2 : toD1 S py with
    | none => rw [e1, e2] at g; exact g.elim
    | some e =>
      rw [e1, e2] at g
      dsimp only at g
      split at g
      · rename_i hs
        have h1 := r1.toD1 hr e1
        have h2 := r2.toD1 hr e2
        rw [hk.trans hK] at h1 h2
        exact op_neD hu pins s σ _ _ _ v u Q I rx ry ⟨d, e, h1, h2, hs.1, hs.2, g w _ (Ext.refl w) hr (.bl _)⟩
      · exact g.elim
end
end Dg
end

section
set_option Elab.async false
set_option linter.all false
set_option maxRecDepth 100000
set_option maxHeartbeats 4000000
/-! DgE: more operators, built-in functions and methods by plain values. -/
namespace Dg
open PySem PySem.Spec L2
open PyProof.Rows hiding St

section
variable {X : Cx}
/-- tuple * int, any size that fits -/
theorem op_repT2 : OpR X (binaryOp .Mult) (fun x y H Q => ∃ l k xs, x = .ref l ∧ y = .int k ∧ SqT X.K H l xs ∧ xs ≠ [] ∧ 2 ≤ k ∧ (xs.length : Int) * k ≤ 10000000 ∧ ∀ p, H p = none → Q (.ref p) (upd H p (.tup (List.replicate k.toNat xs).flatten))) := by
  intro pins s σ H x y v u Q I rx ry h
  obtain ⟨l, k, xs, rfl, rfl, hT, hne, h1, hz, q⟩ := h
  cases rx
  obtain ⟨t, rfl⟩ := ry
  obtain ⟨its, r, ⟨⟨cls, dd, data, sl⟩, ho, hc, n, hd⟩, hs⟩ := I.tuple hT
  simp only at hc hd
  subst hc hd
  have hle : its.length = xs.length := r.length.symm
  have hn : its ≠ [] := fun e => hne (by
    rw [e] at hle
    exact List.eq_nil_of_length_eq_zero hle.symm)
  have hi : its.toArray.isEmpty = false := by
    cases its with
    | nil => exact absurd rfl hn
    | cons a b => rfl
  have hsz0 : its.toArray.size = xs.length := by rw [List.size_toArray, hle]
  have hm : ((its.toArray.size : Nat) : Int) * k ≤ 10000000 := by rw [hsz0]; exact hz
  have hnat : k.toNat * xs.length ≤ 10000000 := by
    have e1 : ((k.toNat * xs.length : Nat) : Int) = (xs.length : Int) * k := by
      rw [Int.natCast_mul, Int.toNat_of_nonneg (by omega), Int.mul_comm]
    omega
  have hk : k ≤ 10000000 := by
    have l1 : 1 ≤ (xs.length : Int) := by
      have : 0 < xs.length := List.length_pos_iff.mpr hne
      omega
    have a1 : 1 * k ≤ (xs.length : Int) * k := Int.mul_le_mul_of_nonneg_right l1 (by omega)
    omega
  have flen : (List.replicate k.toNat its).flatten.length ≤ sizeLine := by
    rw [PyProof.Rows.lm_len_rep_flat, hle, sizeLine_eq]
    omega
  have c0 : (decide (k < -(2 ^ 63)) || decide (k ≥ 2 ^ 63)) = false := by
    rw [decide_eq_false (by omega), decide_eq_false (by omega)] <;> rfl
  have c1 : (its.toArray.isEmpty || k == 1) = false := by
    rw [hi, Bool.false_or]
    exact beq_eq_false_iff_ne.mpr (by omega)
  have c2 : (decide (k ≤ 0) || its.toArray.isEmpty) = false := by
    rw [hi, Bool.or_false]
    exact decide_eq_false (by omega)
  have c4 : Builtin.Tuple.tupleTooMany (((its.toArray.size : Nat) : Int) * k) = false := by
    unfold Builtin.Tuple.tupleTooMany
    rw [sizeLine_eq]
    exact decide_eq_false (by omega)
  refine wpAny_binaryOp_repeat_ref (T := "tuple") (U := "int") (by decide) ⟨_, ho, rfl⟩ (fun s' => typeIs_int s' k t) noFill_tuple_mul F.fills_int_mul F.slot_int_rmul repeat_tuple F.slot_int_index.lookup
    (call_meets F.slot_int_rmul (typeIs_int s k t) F.entry_int_rmul (F.args_int_rmul_2 _ _) (int_rmul_tuple k t l its.toArray n dd sl)
      ⟨ho, rfl, ⟨_, ho, rfl⟩, call_meets F.slot_tuple_mul ⟨_, ho, rfl⟩ F.entry_tuple_mul (F.args_tuple_mul_2 _ _) (tuple_mulW l its.toArray n dd sl k t c0 c1 c2 (by omega) c4 (by rw [size_rep, List.size_toArray]; exact flen)) ⟨ho, ?_⟩⟩)
  rw [size_rep]
  refine ⟨.ref s.heap.objs.size, _, I.laid (t' := s.toks) (o := .tup (List.replicate k.toNat xs).flatten) (fun b ob q => Heap.get?_push_of_some _ q) (Nat.le_refl _) ?_, rfl, q _ (I.hok.fresh (Nat.le_refl _))⟩
  exact ⟨by rw [PyProof.Rows.lm_len_rep_flat, sizeLine_eq]; omega, _, r.rep k.toNat, IsTup.new _ _⟩
/-- tuple * 1: the same one; tuple * 0: the empty one -/
theorem rep1_meets (l : Addr) (items : Array Value) (n : Nat) (dd : Option Addr) (sl : Array (Option Value)) (u : Tok) :
    Meets (Builtin.«tuple.__mul__» ⟨[.ref l, .int 1 u], []⟩) (fun _ R s => s.heap.get? l = some { cls := .type "tuple", dict := dd, data := .seq items n, slots := sl } ∧ R (.ok (.ret (.ref l))) s) :=
  .of_wp fun prog w A R s h => by
    obtain ⟨hp, g, d, tk, os⟩ := s
    obtain ⟨hl, h⟩ := h
    have f1 := AutoSeq1.idx_int
    have c0 : (decide ((1 : Int) < -(2 ^ 63)) || decide ((1 : Int) ≥ 2 ^ 63)) = false := by decide
    have c1 : (items.isEmpty || (1 : Int) == 1) = true := by simp
    wp_walk using wpAny_loadPart' hl
    repeat (first
      | (refine wpAny_ite_false (decide_eq_false (by rw [c0]; exact Bool.false_ne_true)) ?_; wp_walk using wpAny_loadPart' hl)
      | (refine wpAny_ite_true (decide_eq_true c1) ?_; wp_walk using wpAny_loadPart' hl))
    exact ⟨_, rfl, h⟩
theorem rep0_meets (l : Addr) (items : Array Value) (n : Nat) (dd : Option Addr) (sl : Array (Option Value)) (u : Tok) (hi : items.isEmpty = false) :
    Meets (Builtin.«tuple.__mul__» ⟨[.ref l, .int 0 u], []⟩) (fun _ R s => s.heap.get? l = some { cls := .type "tuple", dict := dd, data := .seq items n, slots := sl } ∧
      R (.ok (.ret (Value.ref s.heap.objs.size))) { s with heap := s.heap.push { cls := Value.type "tuple", data := Data.seq #[] }, toks := s.toks }) :=
  .of_wp fun prog w A R s h => by
    obtain ⟨hp, g, d, tk, os⟩ := s
    obtain ⟨hl, h⟩ := h
    have f1 := AutoSeq1.idx_int
    have c0 : (decide ((0 : Int) < -(2 ^ 63)) || decide ((0 : Int) ≥ 2 ^ 63)) = false := by decide
    have c1 : (items.isEmpty || (0 : Int) == 1) = false := by rw [hi]; rfl
    have c2 : (decide ((0 : Int) ≤ 0) || items.isEmpty) = true := by simp
    wp_walk using wpAny_loadPart' hl
    repeat (first
      | (refine wpAny_ite_false (decide_eq_false (by rw [c0]; exact Bool.false_ne_true)) ?_; wp_walk using wpAny_loadPart' hl)
      | (refine wpAny_ite_false (decide_eq_false (by rw [c1]; exact Bool.false_ne_true)) ?_; wp_walk using wpAny_loadPart' hl)
      | (refine wpAny_ite_true (decide_eq_true c2) ?_; wp_walk using wpAny_loadPart' hl))
    exact ⟨_, rfl, h⟩
theorem op_rep1 : OpR X (binaryOp .Mult) (fun x y H Q => ∃ l xs, x = .ref l ∧ y = .int 1 ∧ SqT X.K H l xs ∧ Q (.ref l) H) := by
  intro pins s σ H x y v u Q I rx ry h
  obtain ⟨l, xs, rfl, rfl, hT, q⟩ := h
  cases rx
  obtain ⟨t, rfl⟩ := ry
  obtain ⟨its, r, ⟨⟨cls, dd, data, sl⟩, ho, hc, n, hd⟩, hs⟩ := I.tuple hT
  simp only at hc hd
  subst hc hd
  exact wpAny_binaryOp_repeat_ref (T := "tuple") (U := "int") (by decide) ⟨_, ho, rfl⟩ (fun s' => typeIs_int s' 1 t) noFill_tuple_mul F.fills_int_mul F.slot_int_rmul repeat_tuple F.slot_int_index.lookup
    (call_meets F.slot_int_rmul (typeIs_int s 1 t) F.entry_int_rmul (F.args_int_rmul_2 _ _) (int_rmul_tuple 1 t l its.toArray n dd sl)
      ⟨ho, rfl, ⟨_, ho, rfl⟩, call_meets F.slot_tuple_mul ⟨_, ho, rfl⟩ F.entry_tuple_mul (F.args_tuple_mul_2 _ _) (rep1_meets l its.toArray n dd sl t) ⟨ho, ⟨.ref l, H, I, rfl, q⟩⟩⟩)
theorem op_rep0 : OpR X (binaryOp .Mult) (fun x y H Q => ∃ l xs, x = .ref l ∧ y = .int 0 ∧ SqT X.K H l xs ∧ xs ≠ [] ∧ ∀ p, H p = none → Q (.ref p) (upd H p (.tup []))) := by
  intro pins s σ H x y v u Q I rx ry h
  obtain ⟨l, xs, rfl, rfl, hT, hne, q⟩ := h
  cases rx
  obtain ⟨t, rfl⟩ := ry
  obtain ⟨its, r, ⟨⟨cls, dd, data, sl⟩, ho, hc, n, hd⟩, hs⟩ := I.tuple hT
  simp only at hc hd
  subst hc hd
  have hi : its.toArray.isEmpty = false := by
    cases its with
    | nil => exact absurd (List.eq_nil_of_length_eq_zero r.length) hne
    | cons a b => rfl
  refine wpAny_binaryOp_repeat_ref (T := "tuple") (U := "int") (by decide) ⟨_, ho, rfl⟩ (fun s' => typeIs_int s' 0 t) noFill_tuple_mul F.fills_int_mul F.slot_int_rmul repeat_tuple F.slot_int_index.lookup
    (call_meets F.slot_int_rmul (typeIs_int s 0 t) F.entry_int_rmul (F.args_int_rmul_2 _ _) (int_rmul_tuple 0 t l its.toArray n dd sl)
      ⟨ho, rfl, ⟨_, ho, rfl⟩, call_meets F.slot_tuple_mul ⟨_, ho, rfl⟩ F.entry_tuple_mul (F.args_tuple_mul_2 _ _) (rep0_meets l its.toArray n dd sl t hi) ⟨ho, ?_⟩⟩)
  refine ⟨.ref s.heap.objs.size, _, I.laid (t' := s.toks) (o := .tup []) (fun b ob q => Heap.get?_push_of_some _ q) (Nat.le_refl _) ?_, rfl, q _ (I.hok.fresh (Nat.le_refl _))⟩
  exact ⟨by simp, _, .nil, IsTup.new _ _⟩
theorem Reps.rep {w : Wd} {vs : List V} {xs : List PV} (h : Reps w vs xs) : ∀ k : Nat, Reps w (List.replicate k vs).flatten (List.replicate k xs).flatten
  | 0 => .nil
  | k + 1 => by
    rw [List.replicate_succ, List.replicate_succ, List.flatten_cons, List.flatten_cons]
    exact h.append (Reps.rep h k)
/-- a sign times a number -/
theorem op_repS : OpR X (binaryOp .Mult) (fun x y H Q => ∃ a k, x = .str a ∧ y = .int k ∧ a.length = 1 ∧ 2 ≤ k ∧ k ≤ 100000 ∧ Q (.str ⟨(List.replicate k.toNat a.cps.toList).flatten.toArray⟩) H) := by
  intro pins s σ H x y v u Q I rx ry h
  obtain ⟨a, k, rfl, rfl, ha, h0, hk, q⟩ := h
  obtain ⟨t, rfl⟩ := rx
  obtain ⟨t', rfl⟩ := ry
  have c0 : (decide (k < -(2 ^ 63 : Int)) || decide (k ≥ 2 ^ 63)) = false := by
    rw [decide_eq_false (by omega), decide_eq_false (by omega)] <;> rfl
  have cps : ∀ m : Nat, (List.replicate m a.cps).foldl (· ++ ·) #[] = (List.replicate m a.cps.toList).flatten.toArray := fun m => by
    have g : ∀ (m : Nat) (acc : Array Nat), (List.replicate m a.cps).foldl (· ++ ·) acc = acc ++ (List.replicate m a.cps.toList).flatten.toArray := by
      intro m
      induction m with
      | zero => intro acc; simp
      | succ m ih =>
        intro acc
        rw [List.replicate_succ, List.foldl_cons, ih, List.replicate_succ, List.flatten_cons]
        apply Array.ext'
        simp
    rw [g]; simp
  refine PySem.P.mul_str c0 (fun _ _ => ?_) (fun _ _ => ?_) ?_
  · rw [ha]
    intro z
    have h3 : (100000 : Int) ≤ (2 ^ 63 - 1) / k := by
      refine Int.le_ediv_of_mul_le (by omega) ?_
      have : (100000 : Int) * k ≤ 100000 * 100000 := Int.mul_le_mul_of_nonneg_left hk (by omega)
      omega
    have z' : ((1 : Nat) : Int) > (2 ^ 63 - 1) / k := z
    omega
  · rw [ha]
    unfold Builtin.Str.tooLong
    rw [sizeLine_eq]
    exact decide_eq_false (by omega)
  · rw [if_neg (by omega)]
    have e1 : (k == 1 || a.length == 0) = false := by
      rw [ha, Bool.or_eq_false_iff]
      exact ⟨beq_eq_false_iff_ne.mpr (by omega), rfl⟩
    rw [if_neg (by rw [e1]; exact Bool.false_ne_true), cps]
    exact ⟨by
      show (List.replicate k.toNat a.cps.toList).flatten.toArray.size ≤ sizeLine
      have e2 : a.cps.toList.length = 1 := by rw [Array.length_toList]; exact ha
      rw [List.size_toArray, PyProof.Rows.lm_len_rep_flat, e2, sizeLine_eq]
      omega, ⟨.str _, H, I.tok _, ⟨_, rfl⟩, q⟩⟩

/-! ### mul, in, items -/
theorem og_mul {K : PySem.W.Frag} (hK : K = X.K) : OpR X (binaryOp .Mult) (rg K (op2 .mul)) := by
  intro pins s σ H x y v u Q I rx ry ⟨w, S, px, py, hw, hk, hr, r1, r2, g⟩
  subst hw
  cases r1 with
  | int i =>
    cases r2 with
    | int j =>
      simp only [op2, mulP, okI] at g
      split at g
      · rename_i hc
        rcases hc with hc | hc
        · exact op_mul pins s σ _ _ _ v u Q I rx ry ⟨i, j, rfl, rfl, hc, g w _ (Ext.refl w) hr (.int _)⟩
        · exact op_mulW pins s σ _ _ _ v u Q I rx ry ⟨i, j, rfl, rfl, hc, g w _ (Ext.refl w) hr (.int _)⟩
      · exact g.elim
    | _ => exact g.elim
  | str i =>
    cases r2 with
    | int j =>
      simp only [op2, mulP] at g
      split at g
      · rename_i hc
        exact op_repS pins s σ _ _ _ v u Q I rx ry ⟨i, j, rfl, rfl, hc.1, hc.2.1, hc.2.2, g w _ (Ext.refl w) hr (.str _)⟩
      · exact g.elim
    | _ => exact g.elim
  | tup q1 s1 =>
    cases r2 with
    | int j =>
      simp only [op2, mulP] at g
      split at g
      · rename_i hc
        refine op_repT2 pins s σ _ _ _ v u Q I rx ry ⟨_, j, _, rfl, rfl, by rw [← hK, ← hk]; exact q1.sq, fun z => ?_, hc.2.1, by rw [s1.length]; exact hc.2.2, fun p hp => ?_⟩
        · subst z
          cases s1
          exact hc.1 rfl
        · obtain ⟨h3, e3, r3⟩ := hr.newT hp (s1.rep j.toNat)
          exact g _ _ e3 h3 r3
      · split at g
        · rename_i hc
          obtain ⟨hc1, rfl⟩ := hc
          exact op_rep1 pins s σ _ _ _ v u Q I rx ry ⟨_, _, rfl, rfl, by rw [← hK, ← hk]; exact q1.sq, g w _ (Ext.refl w) hr (.tup q1 s1)⟩
        · split at g
          · rename_i hc
            obtain ⟨hc1, rfl⟩ := hc
            refine op_rep0 pins s σ _ _ _ v u Q I rx ry ⟨_, _, rfl, rfl, by rw [← hK, ← hk]; exact q1.sq, fun z => ?_, fun p hp => ?_⟩
            · subst z
              cases s1
              exact hc1 rfl
            · obtain ⟨h3, e3, r3⟩ := hr.newT hp .nil
              exact g _ _ e3 h3 r3
          · exact g.elim
    | _ => exact g.elim
  | lst q1 s1 =>
    cases r2 with
    | int j => exact g.elim
    | _ => exact g.elim
  | _ => exact g.elim
end
end Dg
end

section
set_option Elab.async false
set_option linter.all false
set_option maxRecDepth 100000
set_option maxHeartbeats 4000000
/-! DgF: in, items, unary operators, built-in functions by plain values. -/
namespace Dg
open PySem PySem.Spec L2
open PyProof.Rows hiding St

theorem Rep.flat {w : Wd} {v : V} {p : PV} (r : Rep w v p) (h : flatP p = true) : flatV v = true := by cases r <;> first | rfl | cases h
theorem Reps.flat {w : Wd} : ∀ {vs : List V} {xs : List PV}, Reps w vs xs → xs.all flatP = true → vs.all flatV = true
  | _, _, .nil, _ => rfl
  | _, _, .cons h r, q => by
    rw [List.all_cons, Bool.and_eq_true] at q ⊢
    exact ⟨h.flat q.1, Reps.flat r q.2⟩
theorem eqV_eqP {w : Wd} {v u : V} {p q : PV} (r : Rep w v p) (s : Rep w u q) (h1 : flatP p = true) (h2 : flatP q = true) : eqV v u = eqP p q := by
  cases r <;> cases s <;> first | rfl | (exact absurd h1 Bool.false_ne_true) | (exact absurd h2 Bool.false_ne_true)
theorem inV_eqP {w : Wd} {u : V} {q : PV} (s : Rep w u q) (h2 : flatP q = true) : ∀ {vs : List V} {xs : List PV}, Reps w vs xs → xs.all flatP = true → inV u vs = xs.any (eqP · q)
  | _, _, .nil, _ => rfl
  | _, _, .cons h r, k => by
    rw [List.all_cons, Bool.and_eq_true] at k
    unfold inV
    rw [List.any_cons, List.any_cons, eqV_eqP h s k.1 h2]
    have e := inV_eqP s h2 r k.2
    unfold inV at e
    rw [e]
theorem Rep.key {w : Wd} {v : V} {p : PV} {k : Key} (r : Rep w v p) (h : keyP p = some k) : v = kV k := by cases r <;> cases h <;> rfl
theorem RepK.look {κ : Type} [DecidableEq κ] {w : Wd} {k : κ} : ∀ {ws : List (κ × V)} {xs : List (κ × PV)}, RepK w ws xs → (∀ x, lookK k xs = some x → ∃ v, valV ws k = some v ∧ Rep w v x) ∧ (lookK k xs = none → valV ws k = none)
  | _, _, .nil => ⟨(fun x h => by cases h), fun _ => rfl⟩
  | _, _, @RepK.cons _ _ k' v x vs xs h r => by
    obtain ⟨i1, i2⟩ := RepK.look (k := k) r
    by_cases e : k' = k
    · refine ⟨fun y hy => ?_, fun hy => ?_⟩
      · unfold lookK at hy
        rw [if_pos e] at hy
        cases hy
        exact ⟨v, valV_pos e, h⟩
      · unfold lookK at hy
        rw [if_pos e] at hy
        cases hy
    · refine ⟨fun y hy => ?_, fun hy => ?_⟩
      · unfold lookK at hy
        rw [if_neg e] at hy
        obtain ⟨z, h1, h2⟩ := i1 y hy
        exact ⟨z, (valV_neg e).trans h1, h2⟩
      · unfold lookK at hy
        rw [if_neg e] at hy
        exact (valV_neg e).trans (i2 hy)
theorem RepK.isSome {κ : Type} [DecidableEq κ] {w : Wd} {k : κ} {ws : List (κ × V)} {xs : List (κ × PV)} (r : RepK w ws xs) : (valV ws k).isSome = (lookK k xs).isSome := by
  obtain ⟨h1, h2⟩ := r.look (k := k)
  cases e : lookK k xs with
  | none => rw [h2 e]; rfl
  | some x => obtain ⟨v, e2, _⟩ := h1 x e; rw [e2]; rfl
theorem one_sign {c : Str} (h : c.cps.size = 1) : c = ⟨#[c.cps.toList.getD 0 0]⟩ := by
  obtain ⟨⟨l⟩⟩ := c
  have h' : l.length = 1 := h
  match l, h' with
  | [a], _ => rfl
section
variable {X : Cx}
def rInT (K : PySem.W.Frag) : R2 := fun x y H Q => ∃ d ds, Dp K H x d ∧ Dp K H y (.tuple ds) ∧ SeqAt.shaped d = true ∧ SeqAt.shaped (.list ds) = true ∧ Q (.bl (ds.any fun z => PyData.eqv z d)) H
def rNotInT (K : PySem.W.Frag) : R2 := fun x y H Q => ∃ d ds, Dp K H x d ∧ Dp K H y (.tuple ds) ∧ SeqAt.shaped d = true ∧ SeqAt.shaped (.list ds) = true ∧ Q (.bl (!ds.any fun z => PyData.eqv z d)) H
theorem op_inT (hu : X.A.units + 65 < cLine) : OpR X (compareOp .In) (rInT X.K) := by
  intro pins s σ H x y v u Q I rx ry h
  obtain ⟨d, ds, hd, he, sd, se, q⟩ := h
  obtain ⟨as, r1⟩ := Dp.reads I d x v hd rx
  obtain ⟨bs, r2⟩ := Dp.reads I (.tuple ds) y u he ry
  exact SeqAt.in_tuple_reads r2 r1 (SeqAt.canLay_of_shaped se) (SeqAt.canLay_of_shaped sd) (room_in_shaped sd hu) ⟨.bl _, H, I, rfl, q⟩
theorem op_notInT (hu : X.A.units + 65 < cLine) : OpR X (compareOp .NotIn) (rNotInT X.K) := by
  intro pins s σ H x y v u Q I rx ry h
  obtain ⟨d, ds, hd, he, sd, se, q⟩ := h
  obtain ⟨as, r1⟩ := Dp.reads I d x v hd rx
  obtain ⟨bs, r2⟩ := Dp.reads I (.tuple ds) y u he ry
  exact SeqAt.notIn_tuple_reads r2 r1 (SeqAt.canLay_of_shaped se) (SeqAt.canLay_of_shaped sd) (room_in_shaped sd hu) ⟨.bl _, H, I, rfl, q⟩
theorem og_in_ {K : PySem.W.Frag} (hK : K = X.K) (hu : X.A.units + 65 < cLine) : OpR X (compareOp .In) (rg K (op2 .inn)) := by
  intro pins s σ H x y v u Q I rx ry ⟨w, S, px, py, hw, hk, hr, r1, r2, g⟩
  subst hw
  have flat : ∀ {xs : List PV} {a : Addr} {vs : List V}, y = .ref a → (SqL w.K w.H a vs ∨ SqT w.K w.H a vs) → Reps w vs xs → GoodN Rep w Q (if flatP px && xs.all flatP then okB (if false = true then !xs.any (eqP · px) else xs.any (eqP · px)) S else .bad) →
      wpAny (model X.prog X.w) X.A (compareOp .In v u) (EP X pins σ Q) X.xe s := fun {xs a vs} ey hs rs g => by
    split at g
    · rename_i hc
      rw [Bool.and_eq_true] at hc
      subst ey
      rw [hk.trans hK] at hs
      refine op_in_seq pins s σ _ _ _ v u Q I rx ry ⟨a, vs, rfl, hs, r1.flat hc.1, rs.flat hc.2, ?_⟩
      rw [if_neg Bool.false_ne_true, inV_eqP r1 hc.1 rs hc.2]
      exact g w _ (Ext.refl w) hr (.bl _)
    · exact g.elim
  have deep : ∀ {xs : List PV} {a : Addr} {vs : List V}, y = .ref a → (SqL w.K w.H a vs ∨ SqT w.K w.H a vs) → Reps w vs xs → GoodN Rep w Q (if flatP px && xs.all flatP then okB (if false = true then !xs.any (eqP · px) else xs.any (eqP · px)) S else deepP false px xs S) →
      wpAny (model X.prog X.w) X.A (compareOp .In v u) (EP X pins σ Q) X.xe s := fun {xs a vs} ey hs rs g => by
    by_cases hc : (flatP px && xs.all flatP) = true
    · rw [if_pos hc] at g
      exact flat ey hs rs (by rw [if_pos hc]; exact g)
    · rw [if_neg hc] at g
      unfold deepP at g
      cases e1 : toD S px with
      | none => rw [e1] at g; exact g.elim
      | some d =>
        cases e2 : toDs S xs with
        | none => rw [e1, e2] at g; exact g.elim
        | some ds =>
          rw [e1, e2] at g
          dsimp only at g
          split at g
          · rename_i hz
            subst ey
            have h1 := r1.toD e1
            have h2 := rs.toDs e2
            rw [hk.trans hK] at h1 h2 hs
            rcases hs with hs | hs
            · exact op_inD hu pins s σ _ _ _ v u Q I rx ry ⟨d, ds, h1, .lst hs h2, hz.1, hz.2, g w _ (Ext.refl w) hr (.bl _)⟩
            · exact op_inT hu pins s σ _ _ _ v u Q I rx ry ⟨d, ds, h1, .tup hs h2, hz.1, hz.2, g w _ (Ext.refl w) hr (.bl _)⟩
          · exact g.elim
  cases r2 with
  | str z =>
    cases r1 with
    | str c =>
      simp only [op2, inP] at g
      split at g
      · rename_i hc
        have e := one_sign hc
        refine op_in_sign pins s σ _ _ _ v u Q I rx ry ⟨_, z, by rw [e], rfl, ?_⟩
        exact g w _ (Ext.refl w) hr (.bl _)
      · exact g.elim
    | _ => exact g.elim
  | lst q rs => exact deep rfl (.inl (.inl q.1)) rs g
  | tup q rs => exact deep rfl (.inr q.sq) rs g
  | @ref a n q =>
    simp only [op2, inP] at g
    split at g
    · rename_i kvs e
      obtain ⟨a', h1, ws, h2, h3⟩ := hr.at_ e
      rw [q] at h1; cases h1
      cases ek : keyP px with
      | none => rw [ek] at g; exact g.elim
      | some k =>
        rw [ek] at g
        have ex := r1.key ek
        subst ex
        cases ry
        refine d_in (by omega) I (DGet.k (k := k) h2) rx fun s' I' => ⟨.bl _, _, I', rfl, ?_⟩
        rw [h3.isSome]
        exact g w _ (Ext.refl w) hr (.bl _)
    · rename_i xs e
      obtain ⟨a', h1, vs, h2, h3⟩ := hr.at_ e
      rw [q] at h1; cases h1
      exact deep rfl (.inl (.inl (.inl h2))) h3 g
    · exact g.elim
  | _ => exact g.elim
theorem og_nin {K : PySem.W.Frag} (hK : K = X.K) (hu : X.A.units + 65 < cLine) : OpR X (compareOp .NotIn) (rg K (op2 .nin)) := by
  intro pins s σ H x y v u Q I rx ry ⟨w, S, px, py, hw, hk, hr, r1, r2, g⟩
  subst hw
  have flat : ∀ {xs : List PV} {a : Addr} {vs : List V}, y = .ref a → (SqL w.K w.H a vs ∨ SqT w.K w.H a vs) → Reps w vs xs → GoodN Rep w Q (if flatP px && xs.all flatP then okB (if true = true then !xs.any (eqP · px) else xs.any (eqP · px)) S else .bad) →
      wpAny (model X.prog X.w) X.A (compareOp .NotIn v u) (EP X pins σ Q) X.xe s := fun {xs a vs} ey hs rs g => by
    split at g
    · rename_i hc
      rw [Bool.and_eq_true] at hc
      subst ey
      rw [hk.trans hK] at hs
      refine op_notIn_seq pins s σ _ _ _ v u Q I rx ry ⟨a, vs, rfl, hs, r1.flat hc.1, rs.flat hc.2, ?_⟩
      rw [if_pos rfl, inV_eqP r1 hc.1 rs hc.2]
      exact g w _ (Ext.refl w) hr (.bl _)
    · exact g.elim
  have deep : ∀ {xs : List PV} {a : Addr} {vs : List V}, y = .ref a → (SqL w.K w.H a vs ∨ SqT w.K w.H a vs) → Reps w vs xs → GoodN Rep w Q (if flatP px && xs.all flatP then okB (if true = true then !xs.any (eqP · px) else xs.any (eqP · px)) S else deepP true px xs S) →
      wpAny (model X.prog X.w) X.A (compareOp .NotIn v u) (EP X pins σ Q) X.xe s := fun {xs a vs} ey hs rs g => by
    by_cases hc : (flatP px && xs.all flatP) = true
    · rw [if_pos hc] at g
      exact flat ey hs rs (by rw [if_pos hc]; exact g)
    · rw [if_neg hc] at g
      unfold deepP at g
      cases e1 : toD S px with
      | none => rw [e1] at g; exact g.elim
      | some d =>
        cases e2 : toDs S xs with
        | none => rw [e1, e2] at g; exact g.elim
        | some ds =>
          rw [e1, e2] at g
          dsimp only at g
          split at g
          · rename_i hz
            subst ey
            have h1 := r1.toD e1
            have h2 := rs.toDs e2
            rw [hk.trans hK] at h1 h2 hs
            rcases hs with hs | hs
            · exact op_notInD hu pins s σ _ _ _ v u Q I rx ry ⟨d, ds, h1, .lst hs h2, hz.1, hz.2, g w _ (Ext.refl w) hr (.bl _)⟩
            · exact op_notInT hu pins s σ _ _ _ v u Q I rx ry ⟨d, ds, h1, .tup hs h2, hz.1, hz.2, g w _ (Ext.refl w) hr (.bl _)⟩
          · exact g.elim
  cases r2 with
  | str z =>
    cases r1 with
    | str c =>
      simp only [op2, inP] at g
      split at g
      · rename_i hc
        have e := one_sign hc
        refine op_notIn_sign pins s σ _ _ _ v u Q I rx ry ⟨_, z, by rw [e], rfl, ?_⟩
        exact g w _ (Ext.refl w) hr (.bl _)
      · exact g.elim
    | _ => exact g.elim
  | lst q rs => exact deep rfl (.inl (.inl q.1)) rs g
  | tup q rs => exact deep rfl (.inr q.sq) rs g
  | @ref a n q =>
    simp only [op2, inP] at g
    split at g
    · rename_i kvs e
      obtain ⟨a', h1, ws, h2, h3⟩ := hr.at_ e
      rw [q] at h1; cases h1
      cases ek : keyP px with
      | none => rw [ek] at g; exact g.elim
      | some k =>
        rw [ek] at g
        have ex := r1.key ek
        subst ex
        cases ry
        refine d_notIn (by omega) I (DGet.k (k := k) h2) rx fun s' I' => ⟨.bl _, _, I', rfl, ?_⟩
        rw [h3.isSome]
        exact g w _ (Ext.refl w) hr (.bl _)
    · rename_i xs e
      obtain ⟨a', h1, vs, h2, h3⟩ := hr.at_ e
      rw [q] at h1; cases h1
      exact deep rfl (.inl (.inl (.inl h2))) h3 g
    · exact g.elim
  | _ => exact g.elim
theorem atI_rep {w : Wd} {vs : List V} {xs : List PV} {i : Int} {p : PV} (r : Reps w vs xs) (h : atI xs i = some p) : ∃ v, atI vs i = some v ∧ Rep w v p := by
  unfold atI at h ⊢
  rw [r.length]
  cases e : ixN xs.length i with
  | none => rw [e] at h; cases h
  | some j =>
    rw [e] at h
    obtain ⟨v, h1, h2⟩ := r.get h
    exact ⟨v, h1, h2⟩
/-- an item of a dict -/
theorem ix_dict (hu : X.A.units + 1 < cLine) : IxR X (fun x y H Q => ∃ d v, x = .ref d ∧ DGet H d y (some v) ∧ Q v H) := by
  intro value slice pins s σ H x y v u Q I rx ry h hs
  obtain ⟨d, z, rfl, g, q⟩ := h
  cases rx
  have hT := dict_typeIs I g
  have hl := PySem.F.slot_dict_getitem.lookup
  unfold subscriptTail
  refine wpAny_bind ?_
  rw [getitemInPython_of_ne hT.not_modules]
  refine wpAny_bind (wpAny_specialOf hT hl ?_)
  have fin : wpAny (model X.prog X.w) X.A (subscripted slice false (.ref d) u) (fun r s₃ => wpAny (model X.prog X.w) X.A (letTemporaryGo value (.ref d) r >>= fun _ => pure r) (EP X pins σ Q) X.xe s₃) X.xe s := by
    rw [hs]
    exact wpAny_operating (wpAny_mono (d_getItem (Q := EP X pins σ Q) hu I g ry fun w' s' I' r => ⟨z, _, I', r, q⟩) (fun r s₃ h₃ => wpAny_bind (wpAny_letTemporaryGo (wpAny_pure h₃))) fun _ _ x => x)
  first
    | exact wpAny_pure (wpAny_bind fin)
    | exact wpAny_bind (wpAny_pure (wpAny_bind fin))
theorem IxR.imp {r r' : R2} (h : IxR X r) (i : ∀ x y H Q, r' x y H Q → r x y H Q) : IxR X r' := fun value slice pins s σ H x y v u Q I rx ry q hs => h value slice pins s σ H x y v u Q I rx ry (i x y H Q q) hs
theorem og_ix {K : PySem.W.Frag} (hK : K = X.K) (hu : X.A.units + 1 < cLine) : IxR X (rg K (op2 .ix)) := by
  intro value slice pins s σ H x y v u Q I rx ry ⟨w, S, px, py, hw, hk, hr, r1, r2, g⟩ hs
  subst hw
  cases r1 with
  | str z =>
    cases r2 with
    | int i =>
      simp only [op2, ixP] at g
      split at g
      · rename_i hz
        cases e : atI z.cps.toList i with
        | none => rw [e] at g; exact g.elim
        | some c =>
          rw [e] at g
          exact ix_str value slice pins s σ _ _ _ v u Q I rx ry ⟨z, i, c, rfl, rfl, hz, e, g w _ (Ext.refl w) hr (.str _)⟩ hs
      · exact g.elim
    | _ => exact g.elim
  | lst q rs =>
    cases r2 with
    | int i =>
      simp only [op2, ixP] at g
      split at g
      · rename_i p e
        obtain ⟨z, e2, r3⟩ := atI_rep rs e
        exact ix_list value slice pins s σ _ _ _ v u Q I rx ry ⟨_, _, i, z, rfl, rfl, .inl q.1, e2, g w _ (Ext.refl w) hr r3⟩ hs
      · exact g.elim
    | _ => exact g.elim
  | tup q rs =>
    cases r2 with
    | int i =>
      simp only [op2, ixP] at g
      split at g
      · rename_i p e
        obtain ⟨z, e2, r3⟩ := atI_rep rs e
        have q' := q.sq
        rw [hk.trans hK] at q'
        exact ix_tup value slice pins s σ _ _ _ v u Q I rx ry ⟨_, _, i, z, rfl, rfl, q', e2, g w _ (Ext.refl w) hr r3⟩ hs
      · exact g.elim
    | _ => exact g.elim
  | @ref a n q =>
    simp only [op2, ixP] at g
    split at g
    · rename_i xs e
      obtain ⟨a', h1, vs, h2, h3⟩ := hr.at_ e
      rw [q] at h1; cases h1
      cases r2 with
      | int i =>
        dsimp only at g
        split at g
        · rename_i p e
          obtain ⟨z, e2, r3⟩ := atI_rep h3 e
          exact ix_list value slice pins s σ _ _ _ v u Q I rx ry ⟨_, _, i, z, rfl, rfl, .inl (.inl h2), e2, g w _ (Ext.refl w) hr r3⟩ hs
        · exact g.elim
      | _ => exact g.elim
    · rename_i kvs e
      obtain ⟨a', h1, ws, h2, h3⟩ := hr.at_ e
      rw [q] at h1; cases h1
      cases ek : keyP py with
      | none => rw [ek] at g; exact g.elim
      | some k =>
        rw [ek] at g
        dsimp only at g
        have ex := r2.key ek
        subst ex
        cases el : lookK k kvs with
        | none => rw [el] at g; exact g.elim
        | some p =>
          rw [el] at g
          obtain ⟨z, e2, r3⟩ := (h3.look (k := k)).1 p el
          exact ix_dict hu value slice pins s σ _ _ _ v u Q I rx ry ⟨_, z, rfl, by rw [← e2]; exact DGet.k h2, g w _ (Ext.refl w) hr r3⟩ hs
    · exact g.elim
  | _ => exact g.elim
/-! ### subscripts, unary operators -/
variable {Z : Xc} {W : WX} {a b e : Expr} {ma mb : ME} {pos : Pos}
theorem snd_ix (hK : Z.K = X.K) (hu : X.A.units + 1 < cLine) (ha : PE X a (TI Z W ma)) (hb : PE X b (TI Z W mb)) (hs : PlainIx b) : PE X (.Subscript a b pos) (TI Z W (.bin .ix ma mb)) := by
  refine (pe_ix (og_ix hK hu) ha hb hs).imp fun σ H Q h => ?_
  obtain ⟨w, r, S, at_, g⟩ := h
  unfold evalE at g
  refine ⟨w, r, S, at_, g.bindI fun u x p S1 e1 h1 r1 g1 => ?_⟩
  refine ⟨u, r, S1, at_.next e1 h1, g1.bindI fun t y q S2 e2 h2 r2 g2 => ?_⟩
  exact ⟨t, S2, p, q, rfl, e2.k.trans (e1.k.trans at_.K), h2, r1.mono e2, r2, g2.n (op2_noexc _ _ _ _)⟩
theorem snd_neg (ha : PE X a (TI Z W ma)) : PE X (.UnaryOp .USub a pos) (TI Z W (.un .neg ma)) := by
  refine (pe_un un_neg ha).imp fun σ H Q h => ?_
  obtain ⟨w, r, S, at_, g⟩ := h
  unfold evalE at g
  refine ⟨w, r, S, at_, g.bindI fun u x p S1 e1 h1 r1 g1 => ?_⟩
  cases r1 with
  | int i => exact ⟨i, rfl, g1 u _ (Ext.refl u) h1 (.int _)⟩
  | _ => exact g1.elim
theorem isNon_rep {w : Wd} {v : V} {p : PV} (r : Rep w v p) : decide (v = V.non) = isNon p := by
  cases r <;> first | rfl | exact decide_eq_false (fun z => by cases z)
theorem snd_isN {j : Nat} {pos' : Pos} (ha : PE X a (TI Z W ma)) : PE X (.Compare a [.Is] [.Constant .none j pos'] pos) (TI Z W (.un .isN ma)) := by
  refine (pe_cmp (pc_isN ha)).imp fun σ H Q h => ?_
  obtain ⟨w, r, S, at_, g⟩ := h
  unfold evalE at g
  refine ⟨w, r, S, at_, g.bindI fun u x p S1 e1 h1 r1 g1 => ?_⟩
  rw [isNon_rep r1]
  exact g1 u _ (Ext.refl u) h1 (.bl _)
theorem snd_notN {j : Nat} {pos' : Pos} (ha : PE X a (TI Z W ma)) : PE X (.Compare a [.IsNot] [.Constant .none j pos'] pos) (TI Z W (.un .notN ma)) := by
  refine (pe_cmp (pc_notN ha)).imp fun σ H Q h => ?_
  obtain ⟨w, r, S, at_, g⟩ := h
  unfold evalE at g
  refine ⟨w, r, S, at_, g.bindI fun u x p S1 e1 h1 r1 g1 => ?_⟩
  rw [isNon_rep r1]
  exact g1 u _ (Ext.refl u) h1 (.bl _)
theorem evalT_un {C : Cxt} {o : O1} {r : PEnv} {S : Store} : evalT C (.un o ma) r S = (evalE C (.un o ma) r S).bind truR := evalT_truth (fun _ _ => by simp) (fun _ _ => by simp) (fun _ => by simp) (fun _ _ _ => by simp)
theorem snd_isNT {j : Nat} {pos' : Pos} (ha : PE X a (TI Z W ma)) : PT X (.Compare a [.Is] [.Constant .none j pos'] pos) (TIT Z W (.un .isN ma)) := by
  refine (pt_cmp (pc_isN ha)).imp fun σ H Q h => ?_
  obtain ⟨w, r, S, at_, g⟩ := h
  rw [evalT_un] at g
  unfold evalE at g
  rw [Res.bind_assoc] at g
  refine ⟨w, r, S, at_, g.bindI fun u x p S1 e1 h1 r1 g1 => ?_⟩
  exact ⟨_, rfl, by rw [isNon_rep r1]; exact g1 u _ (Ext.refl u) h1 rfl⟩
theorem snd_notNT {j : Nat} {pos' : Pos} (ha : PE X a (TI Z W ma)) : PT X (.Compare a [.IsNot] [.Constant .none j pos'] pos) (TIT Z W (.un .notN ma)) := by
  refine (pt_cmp (pc_notN ha)).imp fun σ H Q h => ?_
  obtain ⟨w, r, S, at_, g⟩ := h
  rw [evalT_un] at g
  unfold evalE at g
  rw [Res.bind_assoc] at g
  refine ⟨w, r, S, at_, g.bindI fun u x p S1 e1 h1 r1 g1 => ?_⟩
  exact ⟨_, rfl, by rw [isNon_rep r1]; exact g1 u _ (Ext.refl u) h1 rfl⟩
end
end Dg
end

section
set_option Elab.async false
set_option linter.all false
set_option maxRecDepth 100000
set_option maxHeartbeats 4000000
/-! DgG: built-in functions, methods, slices. -/
namespace Dg
open PySem PySem.Spec L2
open PyProof.Rows hiding St

theorem opn_noexc (o : BI) (vs : List PV) (S : Store) (c : Nat) (a : PV) (S' : Store) : opn o vs S ≠ .exc c a S' := by
  intro h
  cases o <;> simp only [opn, okB] at h <;> (repeat' split at h) <;> cases h
/-- a function by plain values -/
def rgn (K : PySem.W.Frag) (g : List PV → Store → Res PV) : List V → Hp → VK → Prop := fun vs H Q => ∃ w S ps, w.H = H ∧ w.K = K ∧ HRel w S ∧ Reps w vs ps ∧ GoodN Rep w Q (g ps S)
theorem CallR.imp {X : Cx} {f : Value} {r r' : List V → Hp → VK → Prop} (h : CallR X f r) (i : ∀ vs H Q, r' vs H Q → r vs H Q) : CallR X f r' := fun pins s σ H vs us Q I rv q => h pins s σ H vs us Q I rv (i vs H Q q)
theorem allOf_bl {w : Wd} : ∀ {vs : List V} {xs : List PV} {bs : List Bool}, Reps w vs xs → allOf isBl xs = some bs → vs = bs.map V.bl
  | _, _, _, .nil, h => by cases h; rfl
  | _, x :: xs, bs, .cons q r, h => by
    unfold allOf at h
    cases e1 : isBl x with
    | none => rw [e1] at h; cases h
    | some b =>
      cases e2 : allOf isBl xs with
      | none => rw [e1, e2] at h; cases h
      | some cs =>
        rw [e1, e2] at h; cases h
        have e3 := allOf_bl r e2
        cases q <;> cases e1
        rw [e3]; rfl
theorem allOf_int {w : Wd} : ∀ {vs : List V} {xs : List PV} {bs : List Int}, Reps w vs xs → allOf isIn xs = some bs → vs = bs.map V.int
  | _, _, _, .nil, h => by cases h; rfl
  | _, x :: xs, bs, .cons q r, h => by
    unfold allOf at h
    cases e1 : isIn x with
    | none => rw [e1] at h; cases h
    | some b =>
      cases e2 : allOf isIn xs with
      | none => rw [e1, e2] at h; cases h
      | some cs =>
        rw [e1, e2] at h; cases h
        have e3 := allOf_int r e2
        cases q <;> cases e1
        rw [e3]; rfl
theorem allOf_str {w : Wd} : ∀ {vs : List V} {xs : List PV} {bs : List Str}, Reps w vs xs → allOf isSt xs = some bs → vs = bs.map V.str
  | _, _, _, .nil, h => by cases h; rfl
  | _, x :: xs, bs, .cons q r, h => by
    unfold allOf at h
    cases e1 : isSt x with
    | none => rw [e1] at h; cases h
    | some b =>
      cases e2 : allOf isSt xs with
      | none => rw [e1, e2] at h; cases h
      | some cs =>
        rw [e1, e2] at h; cases h
        have e3 := allOf_str r e2
        cases q <;> cases e1
        rw [e3]; rfl
theorem reps_str {w : Wd} : ∀ ys : List Str, Reps w (ys.map V.str) (ys.map PV.str)
  | [] => .nil
  | y :: ys => .cons (.str y) (reps_str ys)
theorem reps_int {w : Wd} : ∀ ys : List Int, Reps w (ys.map V.int) (ys.map PV.int)
  | [] => .nil
  | y :: ys => .cons (.int y) (reps_int ys)
theorem minL_spec : ∀ (is : List Int) (m : Int), (minL m is ∈ m :: is) ∧ ∀ y ∈ m :: is, minL m is ≤ y
  | [], m => ⟨by simp [minL], fun y hy => by have e : y = m := by simpa using hy
                                             rw [e]; exact Int.le_refl _⟩
  | x :: is, m => by
    unfold minL
    obtain ⟨h1, h2⟩ := minL_spec is (if x < m then x else m)
    by_cases c : x < m
    · rw [if_pos c] at h1 h2 ⊢
      refine ⟨List.mem_cons_of_mem _ h1, fun y hy => ?_⟩
      rcases List.mem_cons.mp hy with e | hy
      · rw [e]; exact Int.le_trans (h2 x List.mem_cons_self) (Int.le_of_lt c)
      · exact h2 y hy
    · rw [if_neg c] at h1 h2 ⊢
      refine ⟨?_, fun y hy => ?_⟩
      · rcases List.mem_cons.mp h1 with e | h1
        · rw [e]; exact List.mem_cons_self
        · exact List.mem_cons_of_mem _ (List.mem_cons_of_mem _ h1)
      · rcases List.mem_cons.mp hy with e | hy
        · rw [e]; exact h2 m List.mem_cons_self
        · rcases List.mem_cons.mp hy with e | hy
          · rw [e]; exact Int.le_trans (h2 m List.mem_cons_self) (Int.not_lt.mp c)
          · exact h2 y (List.mem_cons_of_mem _ hy)
section
variable {X : Cx} {K : PySem.W.Frag}
/-- one argument -/
theorem one_arg {w : Wd} {vs : List V} {p : PV} (r : Reps w vs [p]) : ∃ v, vs = [v] ∧ Rep w v p := by
  cases r with
  | cons h t => cases t; exact ⟨_, rfl, h⟩
theorem bg_len (hK : K = X.K) : CallR X (.builtin "len") (rgn K (opn .len)) := by
  intro pins s σ H vs us Q I rv ⟨w, S, ps, hw, hk, hr, rs, g⟩
  subst hw
  match ps, rs, g with
  | [p], rs, g =>
    obtain ⟨v, rfl, r⟩ := one_arg rs
    cases r with
    | str x =>
      simp only [opn] at g
      split at g
      · rename_i hz
        exact call_len_str pins s σ _ _ us Q I rv ⟨x, rfl, hz, g w _ (Ext.refl w) hr (.int _)⟩
      · exact (show False from g).elim
    | @ref a n q =>
      simp only [opn] at g
      split at g
      · rename_i xs e
        obtain ⟨a', h1, ws, h2, h3⟩ := hr.at_ e
        rw [q] at h1; cases h1
        refine call_len_seq pins s σ _ _ us Q I rv ⟨a, ws, rfl, .inl (.inl (.inl h2)), ?_⟩
        rw [h3.length]
        exact g w _ (Ext.refl w) hr (.int _)
      · rename_i xs e
        obtain ⟨a', h1, ws, h2, h3⟩ := hr.at_ e
        rw [q] at h1; cases h1
        refine call_lenD pins s σ _ _ us Q I rv ⟨a, ws, rfl, h2, ?_⟩
        rw [h3.length]
        exact g w _ (Ext.refl w) hr (.int _)
      · exact (show False from g).elim
    | lst q rq =>
      refine call_len_seq pins s σ _ _ us Q I rv ⟨_, _, rfl, .inl (.inl q.1), ?_⟩
      rw [rq.length]
      exact g w _ (Ext.refl w) hr (.int _)
    | scr q rq =>
      refine call_len_seq pins s σ _ _ us Q I rv ⟨_, _, rfl, .inl (hK ▸ hk ▸ q.sq), ?_⟩
      rw [rq.length]
      exact g w _ (Ext.refl w) hr (.int _)
    | tup q rq =>
      refine call_len_seq pins s σ _ _ us Q I rv ⟨_, _, rfl, .inr (hK ▸ hk ▸ q.sq), ?_⟩
      rw [rq.length]
      exact g w _ (Ext.refl w) hr (.int _)
    | _ => exact (show False from g).elim
  | [], _, g => exact (show False from g).elim
  | x :: _ :: _, _, g => exact (show False from by cases x <;> exact g).elim
theorem bg_int : CallR X (.type "int") (rgn K (opn .int_)) := by
  intro pins s σ H vs us Q I rv ⟨w, S, ps, hw, hk, hr, rs, g⟩
  subst hw
  match ps, rs, g with
  | [p], rs, g =>
    obtain ⟨v, rfl, r⟩ := one_arg rs
    cases r with
    | int i => exact call_int1 pins s σ _ _ us Q I rv (.inl ⟨i, rfl, g w _ (Ext.refl w) hr (.int _)⟩)
    | bl b => exact call_int1 pins s σ _ _ us Q I rv (.inr ⟨b, rfl, g w _ (Ext.refl w) hr (.int _)⟩)
    | str x =>
      simp only [opn] at g
      split at g
      · rename_i hz
        cases e : PySem.intText? x with
        | none => rw [e] at g; exact (show False from g).elim
        | some n =>
          rw [e] at g
          exact call_int_str pins s σ _ _ us Q I rv ⟨x, n, rfl, e, hz, g w _ (Ext.refl w) hr (.int _)⟩
      · exact (show False from g).elim
    | _ => exact (show False from g).elim
  | [], _, g => exact (show False from g).elim
  | x :: _ :: _, _, g => exact (show False from by cases x <;> exact g).elim
theorem bg_str : CallR X (.type "str") (rgn K (opn .str_)) := by
  intro pins s σ H vs us Q I rv ⟨w, S, ps, hw, hk, hr, rs, g⟩
  subst hw
  match ps, rs, g with
  | [p], rs, g =>
    obtain ⟨v, rfl, r⟩ := one_arg rs
    cases r with
    | int i =>
      simp only [opn] at g
      split at g
      · rename_i hz
        exact call_str_int pins s σ _ _ us Q I rv ⟨i, rfl, hz, g w _ (Ext.refl w) hr (.str _)⟩
      · exact (show False from g).elim
    | str x => exact SkE.call_str_str pins s σ _ _ us Q I rv ⟨x, rfl, g w _ (Ext.refl w) hr (.str _)⟩
    | _ => exact (show False from g).elim
  | [], _, g => exact (show False from g).elim
  | x :: _ :: _, _, g => exact (show False from by cases x <;> exact g).elim
theorem bg_listV (hK : K = X.K) : CallR X (.type "list") (rgn K (opn .listV)) := by
  intro pins s σ H vs us Q I rv ⟨w, S, ps, hw, hk, hr, rs, g⟩
  subst hw
  match ps, rs, g with
  | [p], rs, g =>
    obtain ⟨v, rfl, r⟩ := one_arg rs
    simp only [opn] at g
    cases e : seqOf p S with
    | none => rw [e] at g; exact (show False from g).elim
    | some xs =>
      rw [e] at g
      obtain ⟨a, ws, rfl, h1, h2⟩ := seqOf_sq hr r e
      refine call_list_of pins s σ _ _ us Q I rv ⟨a, ws, rfl, hK ▸ hk ▸ h1, fun l hl => ?_⟩
      obtain ⟨h3, e3, r3⟩ := hr.newL hl h2
      exact g _ _ e3 h3 r3
  | [], _, g => exact (show False from g).elim
  | x :: _ :: _, _, g => exact (show False from by cases x <;> exact g).elim
theorem bg_listR (hK : K = X.K) : CallR X (.type "list") (rgn K (opn .listR)) := by
  intro pins s σ H vs us Q I rv ⟨w, S, ps, hw, hk, hr, rs, g⟩
  subst hw
  match ps, rs, g with
  | [p], rs, g =>
    obtain ⟨v, rfl, r⟩ := one_arg rs
    simp only [opn] at g
    cases e : seqOf p S with
    | none => rw [e] at g; exact (show False from g).elim
    | some xs =>
      rw [e] at g
      obtain ⟨a, ws, rfl, h1, h2⟩ := seqOf_sq hr r e
      refine call_list_of pins s σ _ _ us Q I rv ⟨a, ws, rfl, hK ▸ hk ▸ h1, fun l hl => ?_⟩
      obtain ⟨h3, e3, r3⟩ := hr.addL hl h2
      exact g _ _ e3 h3 r3
  | [], _, g => exact (show False from g).elim
  | x :: _ :: _, _, g => exact (show False from by cases x <;> exact g).elim
theorem bg_tuple (hK : K = X.K) : CallR X (.type "tuple") (rgn K (opn .tuple_)) := by
  intro pins s σ H vs us Q I rv ⟨w, S, ps, hw, hk, hr, rs, g⟩
  subst hw
  match ps, rs, g with
  | [p], rs, g =>
    obtain ⟨v, rfl, r⟩ := one_arg rs
    simp only [opn] at g
    have isT : ∀ {a : Addr} {vs : List V} {xs : List PV}, v = .ref a → RTs w a vs → Reps w vs xs → GoodN Rep w Q (.ok (.tup xs) S : Res PV) → wpAny (model X.prog X.w) X.A (call (.type "tuple") us) (EP X pins σ Q) X.xe s := fun {a vs xs} e q rq g => by
      subst e
      exact call_tuple_of pins s σ _ _ us Q I rv ⟨a, vs, rfl, .inr ⟨hK ▸ hk ▸ q.sq, g w _ (Ext.refl w) hr (.tup q rq)⟩⟩
    have isL : ∀ {a : Addr} {vs : List V} {xs : List PV}, v = .ref a → SqL w.K w.H a vs → Reps w vs xs → GoodN Rep w Q (.ok (.tup xs) S : Res PV) → wpAny (model X.prog X.w) X.A (call (.type "tuple") us) (EP X pins σ Q) X.xe s := fun {a vs xs} e q rq g => by
      subst e
      refine call_tuple_of pins s σ _ _ us Q I rv ⟨a, vs, rfl, .inl ⟨hK ▸ hk ▸ q, fun l hl => ?_⟩⟩
      obtain ⟨h3, e3, r3⟩ := hr.newT hl rq
      exact g _ _ e3 h3 r3
    cases r with
    | tup q rq => exact isT rfl q rq g
    | lst q rq => exact isL rfl (.inl q.1) rq g
    | scr q rq => exact isL rfl q.sq rq g
    | @ref a n q =>
      unfold seqOf at g
      dsimp only at g
      split at g
      · rename_i xs e
        split at e
        · rename_i ys e2
          cases e
          obtain ⟨a', h1, ws, h2, h3⟩ := hr.at_ e2
          rw [q] at h1; cases h1
          exact isL rfl (.inl (.inl h2)) h3 g
        · cases e
      · exact (show False from g).elim
    | _ => exact (show False from g).elim
  | [], _, g => exact (show False from g).elim
  | x :: _ :: _, _, g => exact (show False from by cases x <;> exact g).elim
theorem bg_all (hc : X.calm = true) : CallR X (.builtin "all") (rgn K (opn .all_)) := by
  intro pins s σ H vs us Q I rv ⟨w, S, ps, hw, hk, hr, rs, g⟩
  subst hw
  match ps, rs, g with
  | [p], rs, g =>
    obtain ⟨v, rfl, r⟩ := one_arg rs
    simp only [opn] at g
    cases e : lstOf p S with
    | none => rw [e] at g; exact (show False from g).elim
    | some xs =>
      rw [e] at g
      dsimp only [Option.bind_some] at g
      cases e2 : allOf isBl xs with
      | none => rw [e2] at g; exact (show False from g).elim
      | some bs =>
        rw [e2] at g
        obtain ⟨a, ws, rfl, h1, h2⟩ := lstOf_sq hr r e
        have e3 := allOf_bl h2 e2
        subst e3
        exact cr_all hc pins s σ _ _ us Q I rv ⟨a, bs, rfl, .inl h1, g w _ (Ext.refl w) hr (.bl _)⟩
  | [], _, g => exact (show False from g).elim
  | x :: _ :: _, _, g => exact (show False from by cases x <;> exact g).elim
theorem bg_any (hc : X.calm = true) : CallR X (.builtin "any") (rgn K (opn .any_)) := by
  intro pins s σ H vs us Q I rv ⟨w, S, ps, hw, hk, hr, rs, g⟩
  subst hw
  match ps, rs, g with
  | [p], rs, g =>
    obtain ⟨v, rfl, r⟩ := one_arg rs
    simp only [opn] at g
    cases e : lstOf p S with
    | none => rw [e] at g; exact (show False from g).elim
    | some xs =>
      rw [e] at g
      dsimp only [Option.bind_some] at g
      cases e2 : allOf isBl xs with
      | none => rw [e2] at g; exact (show False from g).elim
      | some bs =>
        rw [e2] at g
        obtain ⟨a, ws, rfl, h1, h2⟩ := lstOf_sq hr r e
        have e3 := allOf_bl h2 e2
        subst e3
        exact cr_any hc pins s σ _ _ us Q I rv ⟨a, bs, rfl, .inl h1, g w _ (Ext.refl w) hr (.bl _)⟩
  | [], _, g => exact (show False from g).elim
  | x :: _ :: _, _, g => exact (show False from by cases x <;> exact g).elim
theorem bg_sum (hc : X.calm = true) : CallR X (.builtin "sum") (rgn K (opn .sum_)) := by
  intro pins s σ H vs us Q I rv ⟨w, S, ps, hw, hk, hr, rs, g⟩
  subst hw
  match ps, rs, g with
  | [p], rs, g =>
    obtain ⟨v, rfl, r⟩ := one_arg rs
    simp only [opn] at g
    cases e : lstOf p S with
    | none => rw [e] at g; exact (show False from g).elim
    | some xs =>
      rw [e] at g
      dsimp only [Option.bind_some] at g
      cases e2 : allOf isIn xs with
      | none => rw [e2] at g; exact (show False from g).elim
      | some bs =>
        rw [e2] at g
        obtain ⟨a, ws, rfl, h1, h2⟩ := lstOf_sq hr r e
        have e3 := allOf_int h2 e2
        subst e3
        exact cr_sum hc pins s σ _ _ us Q I rv ⟨a, bs, rfl, .inl h1, g w _ (Ext.refl w) hr (.int _)⟩
  | [], _, g => exact (show False from g).elim
  | x :: _ :: _, _, g => exact (show False from by cases x <;> exact g).elim
theorem bg_min1 (hc : X.calm = true) : CallR X (.builtin "min") (rgn K (opn .min1)) := by
  intro pins s σ H vs us Q I rv ⟨w, S, ps, hw, hk, hr, rs, g⟩
  subst hw
  match ps, rs, g with
  | [p], rs, g =>
    obtain ⟨v, rfl, r⟩ := one_arg rs
    simp only [opn] at g
    cases e : lstOf p S with
    | none => rw [e] at g; exact (show False from g).elim
    | some xs =>
      rw [e] at g
      dsimp only [Option.bind_some] at g
      cases e2 : allOf isIn xs with
      | none => rw [e2] at g; exact (show False from g).elim
      | some bs =>
        rw [e2] at g
        obtain ⟨a, ws, rfl, h1, h2⟩ := lstOf_sq hr r e
        have e3 := allOf_int h2 e2
        subst e3
        cases bs with
        | nil => exact (show False from g).elim
        | cons i is =>
          obtain ⟨m1, m2⟩ := minL_spec is i
          refine cr_min hc pins s σ _ _ us Q I rv ⟨a, i :: is, rfl, .inl h1, Nat.zero_lt_succ _, fun m h3 h4 => ?_⟩
          have em : m = minL i is := Int.le_antisymm (h4 _ m1) (m2 m h3)
          rw [em]
          exact g w _ (Ext.refl w) hr (.int _)
  | [], _, g => exact (show False from g).elim
  | x :: _ :: _, _, g => exact (show False from by cases x <;> exact g).elim
theorem two_arg {w : Wd} {vs : List V} {p q : PV} (r : Reps w vs [p, q]) : ∃ v u, vs = [v, u] ∧ Rep w v p ∧ Rep w u q := by
  cases r with
  | cons h t => cases t with
    | cons h2 t => cases t; exact ⟨_, _, rfl, h, h2⟩
theorem bg_min2 (hc : X.calm = true) : CallR X (.builtin "min") (rgn K (opn .min2)) := by
  intro pins s σ H vs us Q I rv ⟨w, S, ps, hw, hk, hr, rs, g⟩
  subst hw
  match ps, rs, g with
  | [p, q], rs, g =>
    obtain ⟨v, u, rfl, r1, r2⟩ := two_arg rs
    cases r1 with
    | int i => cases r2 with
      | int j => exact call_min2 hc pins s σ _ _ us Q I rv ⟨i, j, rfl, g w _ (Ext.refl w) hr (.int _)⟩
      | _ => exact (show False from g).elim
    | _ => exact (show False from g).elim
  | [], _, g => exact (show False from g).elim
  | [x], _, g => exact (show False from by cases x <;> exact g).elim
  | _ :: _ :: _ :: _, _, g => simp only [opn] at g; exact (show False from g).elim
theorem bg_max2 (hc : X.calm = true) : CallR X (.builtin "max") (rgn K (opn .max2)) := by
  intro pins s σ H vs us Q I rv ⟨w, S, ps, hw, hk, hr, rs, g⟩
  subst hw
  match ps, rs, g with
  | [p, q], rs, g =>
    obtain ⟨v, u, rfl, r1, r2⟩ := two_arg rs
    cases r1 with
    | int i => cases r2 with
      | int j => exact call_max2 hc pins s σ _ _ us Q I rv ⟨i, j, rfl, g w _ (Ext.refl w) hr (.int _)⟩
      | _ => exact (show False from g).elim
    | _ => exact (show False from g).elim
  | [], _, g => exact (show False from g).elim
  | [x], _, g => exact (show False from by cases x <;> exact g).elim
  | _ :: _ :: _ :: _, _, g => simp only [opn] at g; exact (show False from g).elim
theorem bg_abs : CallR X (.builtin "abs") (rgn K (opn .abs_)) := by
  intro pins s σ H vs us Q I rv ⟨w, S, ps, hw, hk, hr, rs, g⟩
  subst hw
  match ps, rs, g with
  | [p], rs, g =>
    obtain ⟨v, rfl, r⟩ := one_arg rs
    cases r with
    | int i => exact call_abs pins s σ _ _ us Q I rv ⟨i, rfl, g w _ (Ext.refl w) hr (.int _)⟩
    | _ => exact (show False from g).elim
  | [], _, g => exact (show False from g).elim
  | x :: _ :: _, _, g => exact (show False from by cases x <;> exact g).elim
theorem bg_gcd : CallR X (.builtin "math.gcd") (rgn K (opn .gcd)) := by
  intro pins s σ H vs us Q I rv ⟨w, S, ps, hw, hk, hr, rs, g⟩
  subst hw
  match ps, rs, g with
  | [p, q], .cons (v := v1) r1 (.cons (v := v2) r2 .nil), g =>
    cases r1 with
    | int i =>
      cases r2 with
      | int j => exact cr_gcd pins s σ _ _ us Q I rv ⟨i, j, rfl, g w _ (Ext.refl w) hr (.int _)⟩
      | _ => exact (show False from g).elim
    | _ => exact (show False from g).elim
  | [], _, g => exact (show False from g).elim
  | [x], _, g => exact (show False from by cases x <;> exact g).elim
  | x :: y :: _ :: _, _, g => exact (show False from by cases x <;> cases y <;> exact g).elim
/-! ### methods of texts -/
def MtG (X : Cx) (id : String) (K : PySem.W.Frag) (o : BI) : Prop := MtR X id (fun x xs H Q => rgn K (opn o) (x :: xs) H Q)
theorem mg_join (hK : K = X.K) : MtG X "str.join" K .join := by
  intro pins s σ H x xs v us Q I rx rs ⟨w, S, ps, hw, hk, hr, rp, g⟩
  subst hw
  match ps, rp, g with
  | [p, q], rp, g =>
    obtain ⟨v1, v2, e0, r1, r2⟩ := two_arg rp
    cases e0
    cases r1 with
    | str a =>
      simp only [opn] at g
      cases e : lstOf q S with
      | none => rw [e] at g; exact (show False from g).elim
      | some xs =>
        rw [e] at g
        dsimp only [Option.bind_some] at g
        cases e2 : allOf isSt xs with
        | none => rw [e2] at g; exact (show False from g).elim
        | some ys =>
          rw [e2] at g
          dsimp only at g
          split at g
          · rename_i hz
            obtain ⟨b, ws, rfl, h1, h2⟩ := lstOf_sq hr r2 e
            have e3 := allOf_str h2 e2
            subst e3
            exact mt_join pins s σ _ _ _ v us Q I rx rs ⟨a, b, ys, rfl, rfl, .inl (.inl h1), hz, g w _ (Ext.refl w) hr (.str _)⟩
          · exact (show False from g).elim
    | _ => exact (show False from g).elim
  | [], _, g => exact (show False from g).elim
  | [x], _, g => exact (show False from by cases x <;> exact g).elim
  | _ :: _ :: _ :: _, _, g => simp only [opn] at g; exact (show False from g).elim
theorem mg_splitV : MtG X "str.split" K .splitV := by
  intro pins s σ H x xs v us Q I rx rs ⟨w, S, ps, hw, hk, hr, rp, g⟩
  subst hw
  match ps, rp, g with
  | [p, q], rp, g =>
    obtain ⟨v1, v2, e0, r1, r2⟩ := two_arg rp
    cases e0
    cases r1 with
    | str a =>
      cases r2 with
      | str b =>
        simp only [opn] at g
        split at g
        · rename_i hz
          refine mt_split pins s σ _ _ _ v us Q I rx rs ⟨a, b, rfl, rfl, hz.1, hz.2, fun l hl => ?_⟩
          obtain ⟨h3, e3, r3⟩ := hr.newL hl (reps_str _)
          exact g _ _ e3 h3 r3
        · exact (show False from g).elim
      | _ => exact (show False from g).elim
    | _ => exact (show False from g).elim
  | [], _, g => exact (show False from g).elim
  | [x], _, g => exact (show False from by cases x <;> exact g).elim
  | _ :: _ :: _ :: _, _, g => simp only [opn] at g; exact (show False from g).elim
theorem mg_splitR : MtG X "str.split" K .splitR := by
  intro pins s σ H x xs v us Q I rx rs ⟨w, S, ps, hw, hk, hr, rp, g⟩
  subst hw
  match ps, rp, g with
  | [p, q], rp, g =>
    obtain ⟨v1, v2, e0, r1, r2⟩ := two_arg rp
    cases e0
    cases r1 with
    | str a =>
      cases r2 with
      | str b =>
        simp only [opn] at g
        split at g
        · rename_i hz
          refine mt_split pins s σ _ _ _ v us Q I rx rs ⟨a, b, rfl, rfl, hz.1, hz.2, fun l hl => ?_⟩
          obtain ⟨h3, e3, r3⟩ := hr.addL hl (reps_str _)
          exact g _ _ e3 h3 r3
        · exact (show False from g).elim
      | _ => exact (show False from g).elim
    | _ => exact (show False from g).elim
  | [], _, g => exact (show False from g).elim
  | [x], _, g => exact (show False from by cases x <;> exact g).elim
  | _ :: _ :: _ :: _, _, g => simp only [opn] at g; exact (show False from g).elim
variable {Z : Xc} {W : WX} {a b c e : Expr} {es : List Expr} {ma mb mc : ME} {ms : MEs} {ml mh : MEo} {pos apos p p2 : Pos} {x : Str}
theorem snd_bi {id : String} {o : BI} (hc : CallR X (.builtin id) (rgn Z.K (opn o))) (hg : Gl X x) (hm : X.mg x = none) (hv : bootBuiltins x = some (.builtin id)) (ha : PA X (e :: es) (TIA Z W ms)) (hn : x ≠ "__name__") (hdb : (x == ("__debug__" : Str)) = false)
    (he : starEach (e :: es) X.env = (false, eval e X.env) :: starEach es X.env) (hpl : (backTo pos (starEach es X.env)).any (·.1) = false) : PE X (.Call (.Name x p) (e :: es) [] pos) (TI Z W (.bi o ms)) := by
  refine (pe_callB hc hg hm hv ha hn hdb he hpl).imp fun σ H Q h => ?_
  obtain ⟨w, r, S, at_, g⟩ := h
  rw [evalE] at g
  refine ⟨w, r, S, at_, g.bindI fun u vs ps S1 e1 h1 r1 g1 => ?_⟩
  exact ⟨u, S1, ps, rfl, e1.k.trans at_.K, h1, r1, g1.n (opn_noexc _ _ _)⟩
theorem snd_bif {id : String} {o : BI} (hc : CallR X (.builtin id) (rgn Z.K (opn o))) (hg : Gl X x) (hm : X.mg x = some (.builtin id)) (ha : PA X (e :: es) (TIA Z W ms)) (hdb : (x == ("__debug__" : Str)) = false)
    (he : starEach (e :: es) X.env = (false, eval e X.env) :: starEach es X.env) (hpl : (backTo pos (starEach es X.env)).any (·.1) = false) : PE X (.Call (.Name x p) (e :: es) [] pos) (TI Z W (.bi o ms)) := by
  refine (pe_callBfun hc hg hm ha hdb he hpl).imp fun σ H Q h => ?_
  obtain ⟨w, r, S, at_, g⟩ := h
  rw [evalE] at g
  refine ⟨w, r, S, at_, g.bindI fun u vs ps S1 e1 h1 r1 g1 => ?_⟩
  exact ⟨u, S1, ps, rfl, e1.k.trans at_.K, h1, r1, g1.n (opn_noexc _ _ _)⟩
theorem snd_biT {T : String} {o : BI} (hc : CallR X (.type T) (rgn Z.K (opn o))) (hg : Gl X x) (hm : X.mg x = none) (hv : bootBuiltins x = some (.type T)) (ha : PA X (e :: es) (TIA Z W ms)) (hn : x ≠ "__name__") (hdb : (x == ("__debug__" : Str)) = false)
    (he : starEach (e :: es) X.env = (false, eval e X.env) :: starEach es X.env) (hpl : (backTo pos (starEach es X.env)).any (·.1) = false) : PE X (.Call (.Name x p) (e :: es) [] pos) (TI Z W (.bi o ms)) := by
  refine (pe_callTy hc hg hm hv ha hn hdb he hpl).imp fun σ H Q h => ?_
  obtain ⟨w, r, S, at_, g⟩ := h
  rw [evalE] at g
  refine ⟨w, r, S, at_, g.bindI fun u vs ps S1 e1 h1 r1 g1 => ?_⟩
  exact ⟨u, S1, ps, rfl, e1.k.trans at_.K, h1, r1, g1.n (opn_noexc _ _ _)⟩
/-- a method of a text with one argument -/
theorem snd_m1 {id : String} {o : BI} {name : Str} (slot : Slot "str" name id) (ty : typeOf (.builtin id) = pure (.type "method_descriptor")) (rule : MtG X id Z.K o) (ha : PE X a (TI Z W ma)) (hb : PE X b (TI Z W mb))
    (hs : starEach [b] X.env = [(false, eval b X.env)]) (hbase : attributeBase a name X.env (eval a X.env) = eval a X.env) (hline : (apos.endLine == pos.line) = true) : PE X (.Call (.Attribute a name apos) [b] [] pos) (TI Z W (.mt o ma mb)) := by
  refine (pe_m1 slot ty rule ha hb hs hbase hline).imp fun σ H Q h => ?_
  obtain ⟨w, r, S, at_, g⟩ := h
  rw [evalE] at g
  refine ⟨w, r, S, at_, g.bindI fun u v q S1 e1 h1 r1 g1 => ?_⟩
  cases r1 with
  | str z =>
    refine ⟨⟨z, rfl⟩, u, r, S1, at_.next e1 h1, Good.bindI g1 fun t y q S2 e2 h2 r2 g2 => ?_⟩
    exact ⟨t, S2, [.str z, q], rfl, e2.k.trans (e1.k.trans at_.K), h2, .cons (.str z) (.cons r2 .nil), g2.n (opn_noexc _ _ _)⟩
  | _ => exact (show False from g1).elim
/-- x.append(e), x a name -/
theorem snd_app {i : Nat} {y : Str} (hN : X.N[i]? = some y) (hv : Vis X.env.scope y) (hd : (y == ("__debug__" : Str)) = false) (hcd : (y == ("__classdict__" : Str)) = false) (hK : Z.K = X.K) (ha : PE X a (TI Z W ma))
    (hbase : attributeBase (.Name y p) "append" X.env (eval (.Name y p) X.env) = eval (.Name y p) X.env)
    (hfew : ((backTo pos (starEach (a :: []) X.env)).all (fun x => !x.1) && (backToKw pos (keywordEach [] X.env)).all (fun x => x.1.isSome)
      && decide ((a :: []).length + ([] : List Keyword).length + (if ([] : List Keyword).isEmpty then 0 else 1) < 30)) = true)
    (hline : (apos.endLine == pos.line) = true) (hs : starEach (a :: []) X.env = (false, eval a X.env) :: starEach [] X.env) : PE X (.Call (.Attribute (.Name y p) "append" apos) [a] [] pos) (TI Z W (.app i ma)) := by
  refine (pe_bm PySem.F.plainAttrs_list PySem.F.slot_list_append PySem.F.type_list_append mt_append (pe_var hN hv hd hcd) (pa_cons ha pa_nil hs) hbase hfew hline hs rfl).imp fun σ H Q h => ?_
  obtain ⟨w, r, S, at_, g⟩ := h
  rw [evalE] at g
  split at g
  · rename_i n hn
    split at g
    · rename_i ys e0
      obtain ⟨v, hv1, hv2⟩ := at_.e.2 i _ hn
      obtain ⟨a0, k1, vs0, k2, k3⟩ := at_.h.at_ e0
      cases hv2 with
      | @ref av _ hal =>
        rw [hal] at k1; cases k1
        refine ⟨_, hv1, .inl ⟨rfl, vs0, .inl (.inl (by rw [← at_.H]; exact k2))⟩, ?_⟩
        refine ⟨w, r, S, at_, g.bindI fun u x q S1 e1 h1 r1 g1 => ?_⟩
        split at g1
        · rename_i xs e
          split at g1
          · rename_i hz
            obtain ⟨a', m1, vs, m2, m3⟩ := h1.at_ e
            have z := e1.ref hal
            rw [m1] at z; cases z
            refine ⟨_, vs, x, rfl, rfl, m2, by rw [m3.length]; exact hz, ?_⟩
            obtain ⟨h2, e2⟩ := h1.write (o := .lst (vs ++ [x])) (m := .lst (xs ++ [q])) m1 fun t et ht => ⟨_, ht, (m3.mono et).snoc (r1.mono et)⟩
            exact g1 _ _ e2 h2 .non
          · exact g1.elim
        · exact g1.elim
    · exact g.elim
  · exact g.elim
/-- xs.extend(ys), ys a list that is read -/
theorem mt_extendR : MtM X "list.extend" (fun x vs H Q => ∃ l b xs zs, x = .ref l ∧ vs = [.ref b] ∧ H l = some (.lst xs) ∧ Rd H b (.lst zs) ∧ xs.length + zs.length ≤ sizeLine ∧ Q .non (upd H l (.lst (xs ++ zs)))) := by
  intro pins s σ H x vs v us Q I rx rv h
  obtain ⟨l, b, xs, zs, rfl, rfl, hH, hB, hz, q⟩ := h
  cases rx
  obtain ⟨u, rfl, ru⟩ := rv.one
  cases ru
  obtain ⟨z, its, n, r, hl, e⟩ := I.lstM hH
  obtain ⟨z2, its2, n2, r2, e2⟩ := hB.ok I.hok
  have hl2 := r2.length
  have hsz : its.toArray.size + its2.toArray.size ≤ sizeLine := by rw [List.size_toArray, List.size_toArray]; omega
  have hlong : ¬ (!its.toArray.isEmpty && Builtin.List.listTooLong (its.toArray.size + its2.toArray.size)) = true := by
    rw [notLongL hsz, Bool.and_false]
    exact Bool.false_ne_true
  refine call_meets PySem.F.slot_list_extend ⟨_, e, rfl⟩ PySem.F.entry_list_extend (PySem.F.args_list_extend_2 _ _)
    (AutoSeq1.list_extend_list_list_0 l its.toArray n b its2.toArray n2 hlong (by rw [List.size_toArray]; omega) (by omega)) ⟨e, e2, ?_⟩
  refine ⟨.non, _, I.lset (its' := its ++ its2) hH e (by simp) (r.append r2) ?_, rfl, q⟩
  rw [List.length_append]
  omega
/-- x.extend(e), x a name, e a list as a value -/
theorem snd_extd {i : Nat} {y : Str} (hN : X.N[i]? = some y) (hv : Vis X.env.scope y) (hd : (y == ("__debug__" : Str)) = false) (hcd : (y == ("__classdict__" : Str)) = false) (hK : Z.K = X.K) (ha : PE X a (TI Z W ma))
    (hbase : attributeBase (.Name y p) "extend" X.env (eval (.Name y p) X.env) = eval (.Name y p) X.env)
    (hfew : ((backTo pos (starEach (a :: []) X.env)).all (fun x => !x.1) && (backToKw pos (keywordEach [] X.env)).all (fun x => x.1.isSome)
      && decide ((a :: []).length + ([] : List Keyword).length + (if ([] : List Keyword).isEmpty then 0 else 1) < 30)) = true)
    (hline : (apos.endLine == pos.line) = true) (hs : starEach (a :: []) X.env = (false, eval a X.env) :: starEach [] X.env) : PE X (.Call (.Attribute (.Name y p) "extend" apos) [a] [] pos) (TI Z W (.extd i ma)) := by
  refine (pe_bm PySem.F.plainAttrs_list PySem.F.slot_list_extend PySem.F.type_list_extend mt_extendR (pe_var hN hv hd hcd) (pa_cons ha pa_nil hs) hbase hfew hline hs rfl).imp fun σ H Q h => ?_
  obtain ⟨w, r, S, at_, g⟩ := h
  rw [evalE] at g
  split at g
  · rename_i n hn
    split at g
    · rename_i ys e0
      obtain ⟨v, hv1, hv2⟩ := at_.e.2 i _ hn
      obtain ⟨a0, k1, vs0, k2, k3⟩ := at_.h.at_ e0
      cases hv2 with
      | @ref av _ hal =>
        rw [hal] at k1; cases k1
        refine ⟨_, hv1, .inl ⟨rfl, vs0, .inl (.inl (by rw [← at_.H]; exact k2))⟩, ?_⟩
        refine ⟨w, r, S, at_, g.bindI fun u x q S1 e1 h1 r1 g1 => ?_⟩
        split at g1
        · rename_i zs
          split at g1
          · rename_i xs e
            split at g1
            · rename_i hz
              obtain ⟨a', m1, vs, m2, m3⟩ := h1.at_ e
              have z := e1.ref hal
              rw [m1] at z; cases z
              cases r1 with
              | @lst b ws _ hr rq =>
                refine ⟨_, b, vs, ws, rfl, rfl, m2, hr.1, by rw [m3.length, rq.length]; exact hz, ?_⟩
                obtain ⟨h2, e2⟩ := h1.write (o := .lst (vs ++ ws)) (m := .lst (xs ++ zs)) m1 fun t et ht => ⟨_, ht, (m3.mono et).append (rq.mono et)⟩
                exact g1 _ _ e2 h2 .non
            · exact g1.elim
          · exact g1.elim
        · exact g1.elim
    · exact g.elim
  · exact g.elim
/-! ### slices -/
theorem snd_onone : PO X none (TIO Z W .none) := by
  refine po_none.imp fun σ H Q h => ?_
  obtain ⟨w, r, S, at_, g⟩ := h
  rw [evalO] at g
  show Q none H
  rw [← at_.H]
  exact g w none (Ext.refl w) at_.h rfl
theorem snd_osome (ha : PE X a (TI Z W ma)) : PO X (some a) (TIO Z W (.some ma)) := by
  refine (po_some ha).imp fun σ H Q h => ?_
  obtain ⟨w, r, S, at_, g⟩ := h
  rw [evalO] at g
  refine ⟨w, r, S, at_, g.bindI fun u x q S1 e1 h1 r1 g1 => ?_⟩
  cases r1 with
  | int i => exact ⟨i, rfl, g1 u _ (Ext.refl u) h1 rfl⟩
  | _ => exact (show False from g1).elim
theorem Reps.cut {w : Wd} {vs : List V} {xs : List PV} (h : Reps w vs xs) (lo hi : Option Int) : Reps w (cutV vs lo hi) ((xs.drop (HT.sIx xs.length 0 lo)).take (HT.sIx xs.length xs.length hi - HT.sIx xs.length 0 lo)) := by
  unfold cutV
  rw [h.length]
  exact (h.drop _).take _
theorem slP_noexc (x : PV) (lo hi : Option Int) (S : Store) (c : Nat) (a : PV) (S' : Store) : slP x lo hi S ≠ .exc c a S' := by
  intro h
  unfold slP at h
  (repeat' split at h) <;> cases h
/-- a slice by plain values -/
def rSlG (K : PySem.W.Frag) : V → Option Int → Option Int → Hp → VK → Prop := fun x lo hi H Q => ∃ w S p, w.H = H ∧ w.K = K ∧ HRel w S ∧ Rep w x p ∧ GoodN Rep w Q (slP p lo hi S)
theorem sg_all (hK : K = X.K) : SlR X (rSlG K) := by
  intro pins s σ H x v vl vu lo hi sl Q I rx hs pl pu ⟨w, S, p, hw, hk, hr, r1, g⟩
  subst hw
  have lists : ∀ {a : Addr} {vs : List V} {xs : List PV}, x = .ref a → Rd w.H a (.lst vs) → Reps w vs xs → GoodN Rep w Q (.ok (.lst ((xs.drop (HT.sIx xs.length 0 lo)).take (HT.sIx xs.length xs.length hi - HT.sIx xs.length 0 lo))) S : Res PV) →
      ∃ T id, typeLookup (.type T) "__getitem__" = pure (some (.builtin id)) ∧ s.TypeIs v T ∧ wpAny (model X.prog X.w) X.A (getItem v (.ref sl)) (EP X pins σ Q) X.xe s := fun {a vs xs} e q rq g => by
    subst e
    refine sl_list pins s σ _ _ v vl vu lo hi sl Q I rx hs pl pu ⟨a, vs, rfl, .inl q, fun l hl => ?_⟩
    obtain ⟨h3, e3, r3⟩ := hr.newL hl (rq.cut lo hi)
    exact g _ _ e3 h3 r3
  cases r1 with
  | str z =>
    simp only [slP] at g
    split at g
    · rename_i hz
      exact sl_str pins s σ _ _ v vl vu lo hi sl Q I rx hs pl pu ⟨z, rfl, hz, g w _ (Ext.refl w) hr (.str _)⟩
    · exact (show False from g).elim
  | tup q rq =>
    refine sl_tupA pins s σ _ _ v vl vu lo hi sl Q I rx hs pl pu ⟨_, _, rfl, hK ▸ hk ▸ q.sq, fun hw => ?_, fun hw l hl => ?_⟩
    · have e2 := rq.length
      refine g w _ (Ext.refl w) hr ?_
      rename_i a vs xs
      rw [e2] at hw
      have e3 : (xs.drop (HT.sIx xs.length 0 lo)).take (HT.sIx xs.length xs.length hi - HT.sIx xs.length 0 lo) = xs := by
        rw [hw.1, hw.2]; simp
      rw [e3]
      exact .tup q rq
    · obtain ⟨h3, e3, r3⟩ := hr.newT hl (rq.cut lo hi)
      exact g _ _ e3 h3 r3
  | lst q rq => exact lists rfl q.1 rq g
  | @ref a n q =>
    simp only [slP, lstOf] at g
    split at g
    · rename_i xs e
      split at e
      · rename_i ys e2
        cases e
        obtain ⟨a', h1, ws, h2, h3⟩ := hr.at_ e2
        rw [q] at h1; cases h1
        exact lists rfl (.inl h2) h3 g
      · cases e
    · exact (show False from g).elim
  | _ => exact (show False from g).elim
theorem snd_slice {lo hi : Option Expr} (hK : Z.K = X.K) (ha : PE X a (TI Z W ma)) (hl : PO X lo (TIO Z W ml)) (hh : PO X hi (TIO Z W mh)) : PE X (.Subscript a (.Slice lo hi none p2) pos) (TI Z W (.slice ma ml mh)) := by
  refine (pe_slice (sg_all hK) ha hl hh).imp fun σ H Q h => ?_
  obtain ⟨w, r, S, at_, g⟩ := h
  rw [evalE] at g
  refine ⟨w, r, S, at_, g.bindI fun u x q S1 e1 h1 r1 g1 => ?_⟩
  refine ⟨u, r, S1, at_.next e1 h1, g1.bindI fun t l l' S2 e2 h2 r2 g2 => ?_⟩
  subst r2
  refine ⟨t, r, S2, (at_.next e1 h1).next e2 h2, g2.bindI fun t2 l2 l2' S3 e3 h3 r3 g3 => ?_⟩
  subst r3
  exact ⟨t2, S3, q, rfl, e3.k.trans (e2.k.trans (e1.k.trans at_.K)), h3, (r1.mono e2).mono e3, g3.n fun _ _ _ => slP_noexc _ _ _ _ _ _ _⟩
/-! ### isinstance, chains -/
theorem ty_rep {w : Wd} {S : Store} {v : V} {p : PV} {t : String} (hr : HRel w S) (r : Rep w v p) (h : tyP S p = some t) : TyX w.K w.H v (.type t) := by
  cases r with
  | non => cases h; exact .base .non
  | bl b => cases h; exact .base (.bl b)
  | int i => cases h; exact .base (.int i)
  | str x => cases h; exact .base (.str x)
  | tup q rq =>
    cases h
    rcases q with ⟨q | ⟨o, q⟩, _⟩ | ⟨o, its, n, e, c, _⟩
    · exact .base (.tup q)
    · exact .fTuple q
    · exact .kTuple e c
  | lst q rq =>
    cases h
    rcases q.1 with q | ⟨o, q⟩
    · exact .base (.lst q)
    · exact .base (.frz q)
  | @ref a n q =>
    simp only [tyP] at h
    split at h
    · rename_i xs e
      cases h
      obtain ⟨a', h1, ws, h2, h3⟩ := hr.at_ e
      rw [q] at h1; cases h1
      exact .base (.lst h2)
    · rename_i xs e
      cases h
      obtain ⟨a', h1, ws, h2, h3⟩ := hr.at_ e
      rw [q] at h1; cases h1
      exact .base (.dK h2)
    · rename_i xs e
      cases h
      obtain ⟨a', h1, ws, h2, h3⟩ := hr.at_ e
      rw [q] at h1; cases h1
      exact .base (.dT h2)
    · cases h
  | ty n => cases h
  | thk => cases h
  | scr q rq => cases h
/-- a built-in class that isinstance may name -/
def KTy (T : String) : Prop := ∀ (K : PySem.W.Frag) (S : Store) (p : PV) (t : String), tyP S p = some t → PySem.W.kitOne K (.type t) (.type T) = some (subTy t T)
theorem tyP_cases {S : Store} {p : PV} {t : String} (h : tyP S p = some t) : t ∈ ["NoneType", "bool", "int", "str", "tuple", "list", "dict"] := by
  cases p <;> simp only [tyP] at h <;> (repeat' split at h) <;> first | (cases h; decide) | cases h
theorem kty_of {T : String} (h : ∀ t ∈ ["NoneType", "bool", "int", "str", "tuple", "list", "dict"], kitB t T = some (subTy t T)) : KTy T := fun K S p t e => kit_ty (h t (tyP_cases e))
theorem kty_int : KTy "int" := kty_of (by decide +kernel)
theorem kty_bool : KTy "bool" := kty_of (by decide +kernel)
theorem kty_str : KTy "str" := kty_of (by decide +kernel)
theorem kty_tuple : KTy "tuple" := kty_of (by decide +kernel)
theorem kty_list : KTy "list" := kty_of (by decide +kernel)
theorem kty_dict : KTy "dict" := kty_of (by decide +kernel)
theorem snd_isin {T : String} {y : Str} (hK : Z.K = X.K) (hT : KTy T) (hg : Gl X "isinstance") (hm : X.mg "isinstance" = none) (hg2 : Gl X y) (hm2 : X.mg y = none) (hv2 : bootBuiltins y = some (.type T)) (hn2 : y ≠ "__name__") (hd2 : (y == ("__debug__" : Str)) = false) (ha : PE X a (TI Z W ma))
    (hs : starEach [a, .Name y p2] X.env = (false, eval a X.env) :: starEach [.Name y p2] X.env) : PE X (.Call (.Name "isinstance" p) [a, .Name y p2] [] pos) (TI Z W (.bi (.isin [T]) (.cons ma .nil))) := by
  refine (pe_callB call_isi hg hm PyProof.Rows.boot_isinstance (pa_cons ha (pa_cons (pe_bltn (v := .ty T) hg2 hm2 hv2 rfl hn2 hd2) pa_nil rfl) hs) (by decide) (by decide) hs rfl).imp fun σ H Q h => ?_
  obtain ⟨w, r, S, at_, g⟩ := h
  rw [evalE, evalEs, Res.bind_assoc] at g
  refine ⟨w, r, S, at_, g.bindI fun u x q S1 e1 h1 r1 g1 => ?_⟩
  rw [evalEs, Res.bind_ok, Res.bind_ok] at g1
  simp only [opn] at g1
  split at g1
  · rename_i t e
    have ty := ty_rep h1 r1 e
    rw [e1.k.trans (at_.K.trans hK)] at ty
    refine ⟨x, .ty T, .type t, .type T, subTy t T, rfl, .ty T, ty, hT X.K S1 q t e, ?_⟩
    have g2 := g1 u (.bl (subTy t T)) (Ext.refl u) h1
    rw [List.any_cons, List.any_nil, Bool.or_false] at g2
    exact g2 (.bl _)
  · exact (show False from g1).elim
theorem Good.chain {Z : Xc} {W : WX} {σ : St} {H : Hp} {u3 : Wd} {r : PEnv} {S' : Store} {Q : VK} {k : Bool} {o' : O2} {y : V} {q : PV} {mc : ME} (at3 : At Z σ H u3 r S') (ry : Rep u3 y q)
    (g : Good Z W σ Rep u3 Q (match PV.bl k with
      | .bl true => (evalE Z.C mc r S').bind fun u S4 => op2 o' q u S4
      | .bl false => .ok (.bl false) S'
      | _ => .bad)) : if k = true then TI Z W mc σ H fun w' H4 => rg Z.K (op2 o') y w' H4 Q else Q (.bl false) H := by
  cases k with
  | false =>
    have e := at3.H
    subst e
    exact g u3 _ (Ext.refl u3) at3.h (.bl false)
  | true =>
    have g' : Good Z W σ Rep u3 Q ((evalE Z.C mc r S').bind fun u S4 => op2 o' q u S4) := g
    refine ⟨u3, r, S', at3, Good.bindI g' fun u4 x4 p4 S4 e4 h4 r4 g4 => ?_⟩
    exact ⟨u4, S4, q, p4, rfl, e4.k.trans at3.K, h4, ry.mono e4, r4, g4.n (op2_noexc _ _ _ _)⟩
theorem snd_chain {op op' : CmpOp} {o o' : O2} (ho : OpR X (compareOp op) (rg Z.K (op2 o))) (hx : Bo o) (ho' : OpR X (compareOp op') (rg Z.K (op2 o'))) (ha : PE X a (TI Z W ma)) (hb : PE X b (TI Z W mb)) (hc : PE X c (TI Z W mc)) (hm : lastMarks [op, op'] [b, c] = false) :
    PE X (.Compare a [op, op'] [b, c] pos) (TI Z W (.chain o o' ma mb mc)) := by
  refine (pe_chain ho ho' ha hb hc hm).imp fun σ H Q h => ?_
  obtain ⟨w, r, S, at_, g⟩ := h
  rw [evalE] at g
  refine ⟨w, r, S, at_, g.bindI fun u x p S1 e1 h1 r1 g1 => ?_⟩
  refine ⟨u, r, S1, at_.next e1 h1, g1.bindI fun t y q S2 e2 h2 r2 g2 => ?_⟩
  refine ⟨t, S2, p, q, rfl, e2.k.trans (e1.k.trans at_.K), h2, r1.mono e2, r2, ?_⟩
  cases e : op2 o p q S2 with
  | bad => rw [e] at g2; exact g2.elim
  | exc cc aa S' => exact absurd e (op2_noexc _ _ _ _ _ _ _)
  | ok v S' =>
    obtain ⟨k, rfl⟩ := hx _ _ _ _ _ e
    rw [e, Res.bind_ok] at g2
    intro u3 z e3 h3 r3
    cases r3
    exact ⟨k, rfl, Good.chain (((at_.next e1 h1).next e2 h2).next e3 h3) (r2.mono e3) (Good.mono e3 g2)⟩
end
end Dg
end

section
set_option Elab.async false
set_option linter.all false
set_option maxRecDepth 100000
set_option maxHeartbeats 2000000
/-! DgV: the module's own dicts with text keys: k in D, k not in D, D.get(k). -/
namespace Dg
open PySem PySem.Spec L2
open PyProof.Rows hiding St
/-- what stands in the module's dict at a -/
structure DTab (K : PySem.W.Frag) (w : World) (a : Addr) (kvs : List (Str × PV)) : Prop where
  d : ∃ es n, KDict K w a es n
  at_ : ∀ s : Str, ∃ r, PySem.W.nsIn K a s = some r ∧ (∀ p, kvs.lookup s = some p → ∃ u v, r = some u ∧ RelV v u ∧ ∀ wd : Wd, wd.K = K → Rep wd v p) ∧ (kvs.lookup s = none → r = none)
theorem lookup_has {kvs : List (Str × PV)} {s : Str} : (kvs.map fun q => q.1).contains s = (kvs.lookup s).isSome := by
  induction kvs with
  | nil => rfl
  | cons q kvs ih =>
    obtain ⟨k, v⟩ := q
    rw [List.map_cons, List.contains_cons, List.lookup_cons, ih]
    cases e : s == k <;> rfl
theorem DTab.isS {K : PySem.W.Frag} {w : World} {a : Addr} {kvs : List (Str × PV)} (D : DTab K w a kvs) (s : Str) : ∃ r, PySem.W.nsIn K a s = some r ∧ r.isSome = (kvs.map fun q => q.1).contains s := by
  obtain ⟨r, h1, h2, h3⟩ := D.at_ s
  refine ⟨r, h1, ?_⟩
  rw [lookup_has]
  cases e : kvs.lookup s with
  | none =>
    rw [h3 e]
    rfl
  | some p =>
    obtain ⟨u, v, rfl, _⟩ := h2 p e
    rfl
theorem eE_bi1 {C : Cxt} {o : BI} {e : ME} {r : PEnv} {S : Store} : evalE C (.bi o (.cons e .nil)) r S = (evalE C e r S).bind fun x S1 => opn o [x] S1 := by
  rw [evalE, evalEs, Res.bind_assoc]
  congr 1
  funext x S1
  rw [evalEs]
  rfl
section
variable {X : Cx} {Z : Xc} {W : WX} {a : Expr} {ma : ME} {a0 : Addr} {kvs : List (Str × PV)} {y : Str} {p pos apos : Pos}
theorem snd_kin (D : DTab X.K X.w a0 kvs) (hg : Gl X y) (hm : X.mg y = some (.ref a0)) (hd : (y == ("__debug__" : Str)) = false) (ha : PE X a (TI Z W ma)) : PE X (.Compare a [.In] [.Name y p] pos) (TI Z W (.bi (.kin false (kvs.map fun q => q.1)) (.cons ma .nil))) := by
  obtain ⟨es, n, kd⟩ := D.d
  refine (pe_cmpR (op_in_kd kd) ha (pe_glob (v := .ref a0) hg hm rfl hd) rfl).imp fun σ H Q h => ?_
  obtain ⟨w, r, S, at_, g⟩ := h
  rw [eE_bi1] at g
  refine ⟨w, r, S, at_, g.bindI fun u x q S1 e1 h1 r1 g1 => ?_⟩
  cases r1 with
  | str z =>
    obtain ⟨r2, k1, k2⟩ := D.isS z
    refine ⟨z, r2, rfl, rfl, k1, ?_⟩
    rw [k2]
    have := g1 u (.bl (false != (kvs.map fun q => q.1).contains z)) (Ext.refl u) h1 (.bl _)
    simpa using this
  | _ => exact (show False from g1).elim
theorem snd_knin (D : DTab X.K X.w a0 kvs) (hg : Gl X y) (hm : X.mg y = some (.ref a0)) (hd : (y == ("__debug__" : Str)) = false) (ha : PE X a (TI Z W ma)) : PE X (.Compare a [.NotIn] [.Name y p] pos) (TI Z W (.bi (.kin true (kvs.map fun q => q.1)) (.cons ma .nil))) := by
  obtain ⟨es, n, kd⟩ := D.d
  refine (pe_cmpR (op_notIn_kd kd) ha (pe_glob (v := .ref a0) hg hm rfl hd) rfl).imp fun σ H Q h => ?_
  obtain ⟨w, r, S, at_, g⟩ := h
  rw [eE_bi1] at g
  refine ⟨w, r, S, at_, g.bindI fun u x q S1 e1 h1 r1 g1 => ?_⟩
  cases r1 with
  | str z =>
    obtain ⟨r2, k1, k2⟩ := D.isS z
    refine ⟨z, r2, rfl, rfl, k1, ?_⟩
    rw [k2]
    have := g1 u (.bl (true != (kvs.map fun q => q.1).contains z)) (Ext.refl u) h1 (.bl _)
    simpa using this
  | _ => exact (show False from g1).elim
theorem evalT_kin {C : Cxt} {neg : Bool} {ks : List Str} {e : ME} {r : PEnv} {S : Store} : evalT C (.bi (.kin neg ks) (.cons e .nil)) r S = (evalE C e r S).bind fun x S1 => (opn (.kin neg ks) [x] S1).bind truR := by
  rw [evalT, eE_bi1, Res.bind_assoc]
  · rfl
  all_goals (intros; contradiction)
theorem snd_kinT (D : DTab X.K X.w a0 kvs) (hg : Gl X y) (hm : X.mg y = some (.ref a0)) (hd : (y == ("__debug__" : Str)) = false) (ha : PE X a (TI Z W ma)) : PT X (.Compare a [.In] [.Name y p] pos) (TIT Z W (.bi (.kin false (kvs.map fun q => q.1)) (.cons ma .nil))) := by
  obtain ⟨es, n, kd⟩ := D.d
  refine (pt_cmpR (op_in_kd kd) ha (pe_glob (v := .ref a0) hg hm rfl hd) rfl).imp fun σ H Q h => ?_
  obtain ⟨w, r, S, at_, g⟩ := h
  rw [evalT_kin] at g
  refine ⟨w, r, S, at_, g.bindI fun u x q S1 e1 h1 r1 g1 => ?_⟩
  cases r1 with
  | str z =>
    obtain ⟨r2, k1, k2⟩ := D.isS z
    refine ⟨z, r2, rfl, rfl, k1, _, rfl, ?_⟩
    rw [k2]
    have := g1 u (false != (kvs.map fun q => q.1).contains z) (Ext.refl u) h1 rfl
    simpa using this
  | _ => exact (show False from g1).elim
theorem snd_kninT (D : DTab X.K X.w a0 kvs) (hg : Gl X y) (hm : X.mg y = some (.ref a0)) (hd : (y == ("__debug__" : Str)) = false) (ha : PE X a (TI Z W ma)) : PT X (.Compare a [.NotIn] [.Name y p] pos) (TIT Z W (.bi (.kin true (kvs.map fun q => q.1)) (.cons ma .nil))) := by
  obtain ⟨es, n, kd⟩ := D.d
  refine (pt_cmpR (op_notIn_kd kd) ha (pe_glob (v := .ref a0) hg hm rfl hd) rfl).imp fun σ H Q h => ?_
  obtain ⟨w, r, S, at_, g⟩ := h
  rw [evalT_kin] at g
  refine ⟨w, r, S, at_, g.bindI fun u x q S1 e1 h1 r1 g1 => ?_⟩
  cases r1 with
  | str z =>
    obtain ⟨r2, k1, k2⟩ := D.isS z
    refine ⟨z, r2, rfl, rfl, k1, _, rfl, ?_⟩
    rw [k2]
    have := g1 u (true != (kvs.map fun q => q.1).contains z) (Ext.refl u) h1 rfl
    simpa using this
  | _ => exact (show False from g1).elim
/-- D.get(e) -/
theorem snd_kget (D : DTab X.K X.w a0 kvs) (hK : Z.K = X.K) (hg : Gl X y) (hm : X.mg y = some (.ref a0)) (hd : (y == ("__debug__" : Str)) = false) (ha : PE X a (TI Z W ma)) (m : M1 X (.Name y p) "get" apos a pos) : PE X (.Call (.Attribute (.Name y p) "get" apos) [a] [] pos) (TI Z W (.bi (.kget kvs) (.cons ma .nil))) := by
  obtain ⟨es, n, kd⟩ := D.d
  have ho : PE X (.Name y p) (tC (.ref a0)) := pe_glob (v := .ref a0) hg hm rfl hd
  refine ⟨fun pins s σ H Q I h => ?_⟩
  refine wpAny_Call_method m.base m.few m.line PySem.F.plainAttrs_dict PySem.F.slot_dict_get PySem.F.type_dict_get (thn (ho.run pins s σ H (fun x H1 => x = .ref a0 ∧ H1 = H) I ⟨rfl, rfl⟩) fun u s1 ⟨x, H1, I1, rx, ex, eH⟩ => ?_)
  subst ex; subst eH
  obtain rfl : u = Value.ref a0 := rx
  refine ⟨kd_type kd I1, fun b q => ?_, ?_⟩
  · cases q
    exact ⟨_, I1.kIn _ _ kd.at_, rfl⟩
  rw [m.trees]
  obtain ⟨w, r, S, at_, g⟩ := h
  rw [eE_bi1] at g
  refine Calls.callWith_builtin rfl (Calls.evalArgs_plain (Calls.spliced_cons (thn (ha.run pins s1 σ H1 (fun v H2 => ∃ (z : Str) (r2 : Option Value) (v2 : V), v = .str z ∧ PySem.W.nsIn X.K a0 z = some r2 ∧ RelV v2 (r2.getD .none) ∧ Q v2 H2) I1 ⟨w, r, S, at_, g.bindI fun u x q S1 e1 h1 r1 g1 => ?_⟩) fun iv s2 ⟨v, H2, I2, ry, z, r2, v2, ez, k1, rv2, q2⟩ => Calls.spliced_nil ?_)))
  · cases r1 with
    | str z =>
      obtain ⟨r2, k1, k2, k3⟩ := D.at_ z
      have g2 : Good Z W σ Rep u Q (.ok ((kvs.lookup z).getD .non) S1) := g1
      cases e : kvs.lookup z with
      | none =>
        rw [e] at g2
        refine ⟨z, r2, .non, rfl, k1, ?_, g2 u .non (Ext.refl u) h1 .non⟩
        rw [k3 e]
        rfl
      | some p =>
        rw [e] at g2
        obtain ⟨u', v, rfl, rv, rw_⟩ := k2 p e
        exact ⟨z, some u', v, rfl, k1, rv, g2 u v (Ext.refl u) h1 (rw_ u ((e1.k.trans at_.K).trans hK))⟩
    | _ => exact (show False from g1).elim
  · subst ez
    obtain ⟨t, rfl⟩ := ry
    have mo := PySem.W.mapOf_K (prog := X.prog) (w := X.w) I2.kIn kd.at_ kd.lit
    refine call_meetsIn PySem.F.slot_dict_get mo.typeIs PySem.F.entry_dict_get (PySem.F.args_dict_get_2 _ _) (meets_dict_get (PySem.strKind X.prog X.w) a0 (PySem.strKind_is X.prog X.w z t) kd.low) ⟨_, mo, ?_⟩
    rw [PySem.W.find_K kd.at_ k1]
    exact ⟨v2, H2, I2.tok _, rv2, q2⟩
end
end Dg
end

section
set_option Elab.async false
set_option linter.all false
set_option maxRecDepth 100000
set_option maxHeartbeats 4000000
/-! DgH: what is walked. -/
namespace Dg
open PySem PySem.Spec L2
open PyProof.Rows hiding St

/-! ### enumerate of a tuple -/
set_option maxHeartbeats 1000000 in
theorem meets_enum1 {v : Value} {o : Obj} {H : Heap → Prop} (B : Begins v o H) :
    Meets (Builtin.«enumerate.__new__» ⟨[.type "enumerate", v], []⟩) (fun _ R s => H s.heap ∧
      R (.ok (.ret (.ref (s.heap.push o).objs.size))) { s with heap := (s.heap.push o).push { cls := .type "enumerate", data := .fields #[.none, .bool false, .ref s.heap.objs.size, rawInt 0, .none, .none] } }) :=
  .of_wp fun prog w A R s h => by
    obtain ⟨hp, g, d, tk, os⟩ := s; obtain ⟨h1, h⟩ := h
    have hsub := sub_enumerate
    have q1 : ∀ {A' : Around} {E : Value → Shared → Prop} {Q : Value → Shared → Prop}, Q (.ref hp.objs.size) ⟨hp.push o, g, d, tk, os⟩ → wpAny (model prog w) A' (pyIter v) Q E ⟨hp, g, d, tk, os⟩ :=
      fun q => B.iter prog w _ _ ⟨hp, g, d, tk, os⟩ _ h1 q
    wp_walk using q1
    refine wpAny_stack_any fun st => wpAny_pure ?_
    split
    · rename_i c _ _ _ _ _
      cases (c == Value.type "enumerate")
      · wp_walk using q1
        exact ⟨_, rfl, h⟩
      · wp_walk using q1
        exact ⟨_, rfl, h⟩
    · wp_walk using q1
      exact ⟨_, rfl, h⟩
section
variable {prog : Program} {w : World} {A : Around} {E : Value → Shared → Prop} {s : Shared}
theorem enum_begins1 {v : Value} {o : Obj} {H : Heap → Prop} {Q : Value → Shared → Prop} (B : Begins v o H) (h1 : H s.heap)
    (h : ∀ h', IsEnum h' (s.heap.objs.size + 1) s.heap.objs.size 0 .none → h'.get? s.heap.objs.size = some o → h'.objs.size = s.heap.objs.size + 2 →
      (∀ b o, s.heap.get? b = some o → h'.get? b = some o) → Q (.ref (s.heap.objs.size + 1)) { s with heap := h' }) :
    wpAny (model prog w) A (call (.type "enumerate") [v]) Q E s := by
  refine callType_new F.called_enumerate (by decide) (F.typeCall_enumerate_1 _) (F.newCall_enumerate_1 _) (fun obj => F.args_object_init_2 obj _) F.entry_enumerate_new
    (meets_enum1 B) ⟨h1, ?_⟩
  have hz : (s.heap.push o).objs.size = s.heap.objs.size + 1 := Heap.size_push ..
  show _ ∧ _
  rw [hz]
  have he : IsEnum ((s.heap.push o).push { cls := .type "enumerate", data := .fields #[.none, .bool false, .ref s.heap.objs.size, rawInt 0, .none, .none] }) (s.heap.objs.size + 1) s.heap.objs.size 0 .none := by
    have := Heap.get?_push_size (s.heap.push o) (o := { cls := .type "enumerate", data := .fields #[.none, .bool false, .ref s.heap.objs.size, rawInt 0, .none, .none] }) rfl
    rw [hz] at this; exact this
  refine ⟨⟨_, he, rfl⟩, h _ he (Heap.get?_push_of_some _ (Heap.get?_push_size _ B.free)) (by rw [Heap.size_push, hz]) fun b o x => Heap.get?_push_of_some _ (Heap.get?_push_of_some _ x)⟩
end
/-- the end -/
theorem enum_endT {prog : Program} {w : World} {A : Around} {E : Value → Shared → Prop} {s : Shared} {e it l : Addr} {items : Array Value} {i : Nat} {j : Int} {old : Value} {Q : Option Value → Shared → Prop} (hh : A.handled = none)
    (he : IsEnum s.heap e it j old) (hit : s.heap.IsTupleIter it l i) (hl : s.heap.IsTuple l items) (hx : items[i]? = none)
    (hQ : ∀ h', Heap.ExtBut it s.heap h' → Q none { s with heap := h' }) : wpAny (model prog w) A (pyNext (.ref e)) Q E s := by
  have hT : s.TypeIs (.ref e) "enumerate" := ⟨_, he, rfl⟩
  unfold pyNext
  refine wpAny_bind (wpAny_attempt (wpAny_callSpecial?_slot (name := Str.ofString "__next__") hT F.slot_enumerate_next
    (wpAny_call_entry F.slot_enumerate_next hT F.entry_enumerate_next ?_ (F.args_enumerate_next_1 _))))
  show wpAny _ _ (field (.ref e) 2 >>= _) _ _ _
  refine wpAny_bind (wpAny_field he rfl (x := .ref it) rfl ?_)
  refine wpAny_bind (RZ.nextOf_tuple_end (A := A.in1) hh hit hl hx fun h' x he' hx' => ?_)
  obtain ⟨o, ho, hc⟩ := hx'
  refine wpAny_bind (wpAny_isInstance (T := "StopIteration") (b := true) ⟨o, ho, hc⟩ isSubtype_stop ?_)
  exact wpAny_pure (hQ _ he')
def IteT (K : PySem.W.Frag) (a : Addr) : It :=
  ⟨fun i H => ∃ (xs : List V) (x : V), SqT K H a xs ∧ xs[i]? = some x, fun i H v H' => ∃ T x, v = .ref T ∧ H T = none ∧ H' = upd H T (.tup [.int (i : Nat), x]) ∧ ∀ xs, SqT K H a xs → xs[i]? = some x, fun i H => ∃ xs : List V, SqT K H a xs ∧ xs.length ≤ i⟩
theorem turn_enumT {P : Program} {w : World} {K : PySem.W.Frag} {elts : List Expr} {kk : Nat} {tpos : Pos} (a e it n : Addr) (hea : e ≠ a) (hita : a ≠ it) :
    Turn P w K (.Tuple elts kk tpos) (IteT K a) [e, it] e (fun i h => (∃ old, IsEnum h e it ((i : Nat) : Int) old) ∧ h.IsTupleIter it a i ∧ e ≠ it) where
  mem := by simp
  obj := fun i h st b hb => by
    obtain ⟨⟨old, he⟩, ⟨o, ho, hc, hd⟩, _⟩ := st
    have e' : b = e ∨ b = it := by simpa using hb
    rcases e' with z | z
    · rw [z]; exact ⟨_, he, fun v q => nomatch q⟩
    · rw [z]; exact ⟨o, ho, fun v q => by rw [hd] at q; cases q⟩
  keep := fun i h h' st k => let ⟨⟨old, he⟩, hi, hne⟩ := st; ⟨⟨old, k e (by simp) _ he⟩, hi.at fun o q => k it (by simp) o q, hne⟩
  item := by
    intro X hP hw hK hc i pins s σ H E I hf st hg
    subst hP hw hK
    obtain ⟨⟨old, he⟩, hit, hne⟩ := st
    obtain ⟨xs, x, hq, hx⟩ := hg
    obtain ⟨its, rv, p, hz⟩ := I.tuple hq
    obtain ⟨u, hu, ru⟩ := rv.get hx
    have hel : e < s.heap.objs.size := Heap.lt_size he
    have hil : it < s.heap.objs.size := by obtain ⟨_, q, _⟩ := hit; exact Heap.lt_size q
    have D := Draws.tuple (prog := X.prog) (w := X.w) (A := X.A.in1) (I.ok.hd hc) it a hita its.toArray
    have hi : i < its.toArray.size := by rw [List.size_toArray, ← rv.length]; exact (List.getElem?_eq_some_iff.mp hx).1
    refine wpAny_pyNext_enum_itemD D he ⟨hit, show s.heap.IsTuple a its.toArray from p⟩ hi hne (by simp [hne, hea]) fun y h' tk hy ho hst hT hsz hk => ?_
    have hy' : its[i]? = some y := by simpa using hy
    rw [hu] at hy'; cases hy'
    obtain ⟨hit', _⟩ := hst
    refine ⟨_, rfl, wpAny_letOwnedTupleGo_enum (s := { s with heap := h', toks := tk + 1 }) ho fun h'' he' sb => ?_⟩
    have hT2 : h''.get? s.heap.objs.size = some { cls := .type "tuple", data := .seq #[.int i tk, u] } := (sb.2 _ (Nat.ne_of_gt hel)).trans hT
    have new : ObjOk X.prog X.w (upd H s.heap.objs.size (.tup [.int (i : Nat), x])) h'' s.heap.objs.size (.tup [.int (i : Nat), x]) :=
      ⟨by show 2 ≤ sizeLine; decide, [.int i tk, u], .cons ⟨_, rfl⟩ (.cons ru .nil), ⟨_, hT2, rfl, _, rfl⟩⟩
    have I1 : Inv X pins σ (upd H s.heap.objs.size (.tup [.int (i : Nat), x])) { s with heap := h'', toks := tk + 1 } :=
      I.turnedNew (ch := [e, it]) (fun b ob hb q => (sb.2 b (fun z => hb (by simp [z]))).trans (hk b ob (fun z => hb (by simp [z])) (fun z => hb (by simp [z])) q)) hf (Nat.le_refl _) new
    refine ⟨.ref s.heap.objs.size, _, I1, rfl, ⟨_, x, rfl, I.hok.fresh (Nat.le_refl _), rfl, fun ys hy => by rw [I.tuple_inj hy hq]; exact hx⟩, ⟨⟨u, ?_⟩, hit'.at fun o q => (sb.2 it (Ne.symm hne)).trans q, hne⟩, fun b hb => ?_⟩
    · have e1 : ((i + 1 : Nat) : Int) = (i : Int) + 1 := by omega
      rw [e1]; exact he'
    · have hb' : b < s.heap.objs.size := by
        have e' : b = e ∨ b = it := by simpa using hb
        rcases e' with z | z
        · rw [z]; exact hel
        · rw [z]; exact hil
      rw [upd_ne (Nat.ne_of_lt hb')]
      exact (hf b hb).1
  done := by
    intro X hP hw hK hc i pins s σ H E I hf st hg
    subst hP hw hK
    obtain ⟨⟨old, he⟩, hit, hne⟩ := st
    obtain ⟨xs, hq, hx⟩ := hg
    obtain ⟨its, rv, p, hz⟩ := I.tuple hq
    obtain ⟨f0, f1, f2, f3, f4, f5⟩ := hf it (by simp)
    have hl := rv.length
    have hi : its.toArray[i]? = none := by simp; omega
    refine enum_endT (I.ok.hd hc) he hit (show s.heap.IsTuple a its.toArray from p) hi fun h' eb => ⟨rfl, I.turned (t' := s.toks) (fun b o hb q => eb b o hb q) f0 f1 f3 f4 f5⟩
  self := fun A i s Q E st h => let ⟨⟨_, he⟩, _⟩ := st; wpAny_pyIter_enum he h
/-- enumerate of a list or a tuple -/
def iEnumA (K : PySem.W.Frag) (ta : TA) : L2.TI := fun σ H R => ta σ H fun vs H1 => ∃ a, vs = [.ref a] ∧ ((∃ xs, SqL K H1 a xs ∧ R (Ite K a) H1) ∨ (∃ xs, SqT K H1 a xs ∧ R (IteT K a) H1))
theorem pi_enumA {X : Cx} {e : Expr} {ta : TA} {p pos tpos : Pos} {elts : List Expr} {kk : Nat} (hg : Gl X "enumerate") (hm : X.mg "enumerate" = none) (ha : PA X [e] ta) (hs : starEach [e] X.env = [(false, eval e X.env)]) :
    PI X (.Tuple elts kk tpos) (.Call (.Name "enumerate" p) [e] [] pos) (iEnumA X.K ta) := by
  refine ⟨fun pins s σ H R I h => ?_⟩
  refine Call_ (ld_blt I hg hm PyProof.Rows.boot_enumerate (PyProof.Rows.callWith_type1 (thn (ha.run pos pins s σ H _ I h) fun us s1 ⟨vs, H1, I1, r1, q1⟩ => ?_) hs rfl))
  · obtain ⟨a, e1, q⟩ := q1
    subst e1
    cases r1 with
    | cons r rr =>
      cases rr
      cases r
      have fresh : ∀ b ∈ [s1.heap.objs.size + 1, s1.heap.objs.size], FpOk X pins H1 b := fun b hb => by
        have e' : b = s1.heap.objs.size + 1 ∨ b = s1.heap.objs.size := by simpa using hb
        have hle : s1.heap.objs.size ≤ b := by
          rcases e' with z | z
          · rw [z]; exact Nat.le_add_right _ _
          · rw [z]; exact Nat.le_refl _
        exact I1.fpOk hle (I1.hok.fresh hle)
      rcases q with ⟨xs, hq, q⟩ | ⟨xs, hq, q⟩
      · obtain ⟨its, rv, p', hz⟩ := I1.list hq
        refine call_enumerate_list p'.isList fun h' he hit hsz hk => wpAny_pyIter_enum he ?_
        have I2 : Inv X pins σ H1 { s1 with heap := h' } := I1.kept (t' := s1.toks) hk
        exact ⟨s1.heap.objs.size + 1, [s1.heap.objs.size + 1, s1.heap.objs.size], _, _, H1, rfl, I2, turn_enum a (s1.heap.objs.size + 1) s1.heap.objs.size, ⟨⟨.none, he⟩, hit, Nat.succ_ne_self _⟩, fresh, q⟩
      · obtain ⟨its, rv, p', hz⟩ := I1.tuple hq
        have ht : s1.heap.IsTuple a its.toArray := p'
        refine enum_begins1 (begins_tuple a its.toArray) ht fun h' he hit hsz hk => wpAny_pyIter_enum he ?_
        have I2 : Inv X pins σ H1 { s1 with heap := h' } := I1.kept (t' := s1.toks) hk
        have hlt : a < s1.heap.objs.size := by obtain ⟨o, ho, _⟩ := ht; exact Heap.lt_size ho
        exact ⟨s1.heap.objs.size + 1, [s1.heap.objs.size + 1, s1.heap.objs.size], _, _, H1, rfl, I2, turn_enumT a (s1.heap.objs.size + 1) s1.heap.objs.size 0 (Nat.ne_of_gt (Nat.lt_succ_of_lt hlt)) (Nat.ne_of_lt hlt), ⟨⟨.none, he⟩, ⟨_, hit, rfl, rfl⟩, Nat.succ_ne_self _⟩, fresh, q⟩
end Dg
end

section
set_option Elab.async false
set_option linter.all false
set_option maxRecDepth 100000
set_option maxHeartbeats 1000000
/-! DgW: zip of two rows of any kinds (true: a tuple, false: a list). -/
namespace Dg
open PySem L2 PySem.Spec PyProof.Rows
def SqO (t : Bool) (h : Heap) (l : Addr) (xs : Array Value) : Prop := if t then h.IsTuple l xs else h.IsList l xs
def ItO (t : Bool) (h : Heap) (i l : Addr) (k : Nat) : Prop := if t then h.IsTupleIter i l k else h.IsListIter i l k
theorem SqO.but {t : Bool} {h h' : Heap} {l b : Addr} {xs : Array Value} (x : SqO t h l xs) (e : Heap.ExtBut b h h') (n : l ≠ b) : SqO t h' l xs := by
  cases t
  · exact Heap.IsList.extBut x e n
  · exact Heap.IsTuple.extBut x e n
theorem ItO.at {t : Bool} {h h' : Heap} {i l : Addr} {k : Nat} (x : ItO t h i l k) (e : ∀ o, h.get? i = some o → h'.get? i = some o) : ItO t h' i l k := by
  cases t
  · exact Heap.IsListIter.at x e
  · exact Heap.IsTupleIter.at x e
theorem ItO.but {t : Bool} {h h' : Heap} {i l b : Addr} {k : Nat} (x : ItO t h i l k) (e : Heap.ExtBut b h h') (n : i ≠ b) : ItO t h' i l k :=
  x.at fun o q => e i o n q
theorem ItO.obj {t : Bool} {h : Heap} {i l : Addr} {k : Nat} (x : ItO t h i l k) : ∃ o, h.get? i = some o ∧ ∀ v, o.data ≠ .cell v := by
  cases t
  · obtain ⟨o, e, _, d⟩ := x
    exact ⟨o, e, fun v q => by rw [d] at q; cases q⟩
  · obtain ⟨o, e, _, d⟩ := x
    exact ⟨o, e, fun v q => by rw [d] at q; cases q⟩
section
variable {P : Program} {w : World} {A : Around} {E : Value → Shared → Prop} {s : Shared}
theorem pullO {t : Bool} {i l : Addr} {k : Nat} {xs : Array Value} {x : Value} {Q : Value → Shared → Prop} (a : ItO t s.heap i l k) (b : SqO t s.heap l xs) (c : xs[k]? = some x)
    (q : ∀ g, ItO t g i l (k + 1) → Heap.SameBut i s.heap g → Q x { s with heap := g }) : wpAny (model P w) A (Builtin.SmallTypes.nextOf (.ref i)) Q E s := by
  cases t
  · exact wpAny_nextOf_list_item a b c q
  · exact RZ.nextOf_tuple_item a b c q
theorem endO {t : Bool} {i l : Addr} {k : Nat} {xs : Array Value} {Q : Value → Shared → Prop} (hh : A.handled = none) (a : ItO t s.heap i l k) (b : SqO t s.heap l xs) (c : xs[k]? = none)
    (q : ∀ g e, Heap.ExtBut i s.heap g → (∃ o, g.get? e = some o ∧ o.cls = .type "StopIteration") → E (.ref e) { s with heap := g }) : wpAny (model P w) A (Builtin.SmallTypes.nextOf (.ref i)) Q E s := by
  cases t
  · exact wpAny_nextOf_list_end hh a b c q
  · exact RZ.nextOf_tuple_end hh a b c q
/-- a turn of zip that finds both items -/
theorem zipO_item {t1 t2 : Bool} {z TI TO i1 i2 l1 l2 : Addr} {k1 k2 : Nat} {xs ys : Array Value} {x y a b : Value} {Q : Value → Shared → Prop} (D : ZipApart z TI TO i1 i2 l1 l2) (hz : IsZip s.heap z TI TO .none)
    (hTI : IsPair s.heap TI (.ref i1) (.ref i2)) (hTO : IsPair s.heap TO a b) (a1 : ItO t1 s.heap i1 l1 k1) (a2 : ItO t2 s.heap i2 l2 k2) (b1 : SqO t1 s.heap l1 xs) (b2 : SqO t2 s.heap l2 ys) (hx : xs[k1]? = some x) (hy : ys[k2]? = some y)
    (q : ∀ g, IsZip g z TI TO (rawInt s.heap.objs.size) → IsPair g TO x y → ItO t1 g i1 l1 (k1 + 1) → ItO t2 g i2 l2 (k2 + 1) → IsPair g s.heap.objs.size x y → g.objs.size = s.heap.objs.size + 1 →
      (∀ c o, c ≠ z → c ≠ TO → c ≠ i1 → c ≠ i2 → s.heap.get? c = some o → g.get? c = some o) → Q (.ref s.heap.objs.size) { s with heap := g }) :
    wpAny (model P w) A (Builtin.«zip.__next__» ⟨[.ref z], []⟩) (fun fin s' => ∃ v, fin = .done (.ret v) ∧ Q v s') E s := by
  show wpAny _ _ (field (.ref z) 2 >>= _) _ _ _; refine wpAny_bind (wpAny_field hz rfl (x := .bool false) rfl ?_)
  show wpAny _ _ (field (.ref z) 3 >>= _) _ _ _; refine wpAny_bind (wpAny_field hz rfl (x := .ref TI) rfl ?_); refine wpAny_bind (wpAny_seqItems hTI rfl ?_)
  show wpAny _ _ (Builtin.SmallTypes.ownedTupleIsFree (.ref z) >>= _) _ _ _; refine wpAny_bind ?_; unfold Builtin.SmallTypes.ownedTupleIsFree
  refine wpAny_bind (wpAny_field hz rfl (x := .none) rfl (wpAny_pure ?_)); simp only [if_true]; refine wpAny_bind (wpAny_rule ?_)
  refine wpAny_bind (wpAny_field hz rfl (x := .ref TO) rfl ?_); refine wpAny_bind (wpAny_setField_rec hz (by simp) fun g1 (z1 : IsZip g1 z TI TO .ellipsis) s1 => ?_)
  refine wpAny_bind ?_; simp only [List.zipIdx_cons, List.zipIdx_nil, List.forIn_cons, List.forIn_nil]
  refine wpAny_bind (wpAny_bind (wpAny_onRaise ?_)); show wpAny _ _ (Builtin.SmallTypes.nextOf (.ref i1) >>= _) _ _ _
  refine wpAny_bind (pullO (a1.but s1.extBut D.i1z) (b1.but s1.extBut D.l1z) hx fun g2 c1 s2 => wpAny_pure ?_)
  have t2' : IsPair g2 TO a b := s2.extBut _ _ D.TOi1 (s1.extBut _ _ D.TOz hTO)
  refine wpAny_bind (wpAny_seqItems t2' rfl ?_); refine wpAny_bind (wpAny_updateSeq_pair t2' fun g3 (t3 : IsPair g3 TO x b) s3 => ?_); refine wpAny_bind (wpAny_letGo (wpAny_pure ?_))
  refine wpAny_bind (wpAny_bind (wpAny_onRaise ?_)); show wpAny _ _ (Builtin.SmallTypes.nextOf (.ref i2) >>= _) _ _ _
  refine wpAny_bind (pullO (((a2.but s1.extBut D.i2z).but s2.extBut D.i12.symm).but s3.extBut D.TOi2.symm) (((b2.but s1.extBut D.l2z).but s2.extBut D.l2i1).but s3.extBut D.l2TO) hy fun g4 c2 s4 => wpAny_pure ?_)
  have t4 : IsPair g4 TO x b := s4.extBut _ _ D.TOi2 t3
  refine wpAny_bind (wpAny_seqItems t4 rfl ?_); refine wpAny_bind (wpAny_updateSeq_pair t4 fun g5 (t5 : IsPair g5 TO x y) s5 => ?_); refine wpAny_bind (wpAny_letGo (wpAny_pure (wpAny_pure ?_)))
  refine wpAny_bind (wpAny_seqItems t5 rfl ?_); refine wpAny_bind (wpAny_newTuple ?_)
  have sz : g5.objs.size = s.heap.objs.size := by simp only [s5.1, s4.1, s3.1, s2.1, s1.1]
  have z5 : IsZip g5 z TI TO .ellipsis := s5.extBut z _ D.TOz.symm (s4.extBut z _ D.i2z.symm (s3.extBut z _ D.TOz.symm (s2.extBut z _ D.i1z.symm z1)))
  have k5 : ∀ c o, c ≠ z → c ≠ TO → c ≠ i1 → c ≠ i2 → s.heap.get? c = some o → g5.get? c = some o := fun c o n1 n2 n3 n4 e => s5.extBut c o n2 (s4.extBut c o n4 (s3.extBut c o n2 (s2.extBut c o n3 (s1.extBut c o n1 e))))
  have d1 : ItO t1 g5 i1 l1 (k1 + 1) := ((c1.but s3.extBut D.TOi1.symm).but s4.extBut D.i12).but s5.extBut D.TOi1.symm
  have d2 : ItO t2 g5 i2 l2 (k2 + 1) := c2.but s5.extBut D.TOi2.symm
  have zlt : z < g5.objs.size := Heap.lt_size z5
  show wpAny _ _ (Builtin.SmallTypes.ownedTupleHandOut (.ref z) (.ref g5.objs.size) >>= _) _ _ _; refine wpAny_bind ?_; unfold Builtin.SmallTypes.ownedTupleHandOut
  have z6 : IsZip (g5.push { cls := .type "tuple", data := .seq #[x, y] }) z TI TO .ellipsis := Heap.get?_push_of_some _ z5
  refine wpAny_bind (wpAny_setField_rec z6 (by simp) fun g7 (z7 : IsZip g7 z TI TO (rawInt g5.objs.size)) s7 => ?_); refine wpAny_setField_rec z7 (by simp) fun g8 (z8 : IsZip g8 z TI TO (rawInt g5.objs.size)) s8 => ?_
  have up : ∀ c o, c ≠ z → g5.get? c = some o → g8.get? c = some o := fun c o n1 e => s8.extBut c o n1 (s7.extBut c o n1 (Heap.get?_push_of_some _ e))
  have t8 : IsPair g8 g5.objs.size x y := s8.extBut _ _ (Nat.ne_of_gt zlt) (s7.extBut _ _ (Nat.ne_of_gt zlt) (Heap.get?_push_size _ rfl))
  have n8 : g8.objs.size = g5.objs.size + 1 := by simp only [s8.1, s7.1, Heap.size_push]
  rw [sz] at z8 t8 n8; refine wpAny_pure ⟨_, rfl, ?_⟩; show Q (.ref g5.objs.size) _; rw [sz]
  exact q g8 z8 (up _ _ D.TOz t5) (d1.at fun o e => up _ o D.i1z e) (d2.at fun o e => up _ o D.i2z e) t8 n8 fun c o n1 n2 n3 n4 e => up c o n1 (k5 c o n1 n2 n3 n4 e)
/-- a turn of zip that finds an end -/
theorem zipO_end {t1 t2 : Bool} {z TI TO i1 i2 l1 l2 : Addr} {k1 k2 : Nat} {xs ys : Array Value} {a b : Value} {Q : Fin → Shared → Prop} (hh : A.handled = none) (D : ZipApart z TI TO i1 i2 l1 l2) (hz : IsZip s.heap z TI TO .none)
    (hTI : IsPair s.heap TI (.ref i1) (.ref i2)) (hTO : IsPair s.heap TO a b) (a1 : ItO t1 s.heap i1 l1 k1) (a2 : ItO t2 s.heap i2 l2 k2) (b1 : SqO t1 s.heap l1 xs) (b2 : SqO t2 s.heap l2 ys) (he : xs[k1]? = none ∨ ys[k2]? = none)
    (q : ∀ g e, (∀ c o, c ≠ z → c ≠ TO → c ≠ i1 → c ≠ i2 → s.heap.get? c = some o → g.get? c = some o) → (∃ o, g.get? e = some o ∧ o.cls = .type "StopIteration") → E (.ref e) { s with heap := g }) :
    wpAny (model P w) A (Builtin.«zip.__next__» ⟨[.ref z], []⟩) Q E s := by
  show wpAny _ _ (field (.ref z) 2 >>= _) _ _ _; refine wpAny_bind (wpAny_field hz rfl (x := .bool false) rfl ?_)
  show wpAny _ _ (field (.ref z) 3 >>= _) _ _ _; refine wpAny_bind (wpAny_field hz rfl (x := .ref TI) rfl ?_); refine wpAny_bind (wpAny_seqItems hTI rfl ?_)
  show wpAny _ _ (Builtin.SmallTypes.ownedTupleIsFree (.ref z) >>= _) _ _ _; refine wpAny_bind ?_; unfold Builtin.SmallTypes.ownedTupleIsFree
  refine wpAny_bind (wpAny_field hz rfl (x := .none) rfl (wpAny_pure ?_)); simp only [if_true]; refine wpAny_bind (wpAny_rule ?_)
  refine wpAny_bind (wpAny_field hz rfl (x := .ref TO) rfl ?_); refine wpAny_bind (wpAny_setField_rec hz (by simp) fun g1 (z1 : IsZip g1 z TI TO .ellipsis) s1 => ?_)
  refine wpAny_bind ?_; simp only [List.zipIdx_cons, List.zipIdx_nil, List.forIn_cons, List.forIn_nil]
  refine wpAny_bind (wpAny_bind (wpAny_onRaise ?_)); show wpAny _ _ (Builtin.SmallTypes.nextOf (.ref i1) >>= _) _ _ _
  by_cases hx : xs[k1]? = none
  · refine wpAny_bind (endO hh (a1.but s1.extBut D.i1z) (b1.but s1.extBut D.l1z) hx fun g2 e s2 ⟨oe, ho, hc⟩ => ?_)
    have z2 : IsZip g2 z TI TO .ellipsis := s2 _ _ D.i1z.symm z1
    have ez : e ≠ z := fun u => by rw [u, z2] at ho; cases ho; simp at hc
    exact wpAny_setField_rec z2 (by simp) fun g3 _ s3 => q g3 e (fun c o n1 _ n3 _ u => s3.extBut c o n1 (s2 c o n3 (s1.extBut c o n1 u))) ⟨oe, s3.extBut e oe ez ho, hc⟩
  · have hy : ys[k2]? = none := he.resolve_left hx
    obtain ⟨x, hx⟩ := Option.ne_none_iff_exists'.1 hx
    refine wpAny_bind (pullO (a1.but s1.extBut D.i1z) (b1.but s1.extBut D.l1z) hx fun g2 c1 s2 => wpAny_pure ?_)
    have t2' : IsPair g2 TO a b := s2.extBut _ _ D.TOi1 (s1.extBut _ _ D.TOz hTO)
    refine wpAny_bind (wpAny_seqItems t2' rfl ?_); refine wpAny_bind (wpAny_updateSeq_pair t2' fun g3 (t3 : IsPair g3 TO x b) s3 => ?_); refine wpAny_bind (wpAny_letGo (wpAny_pure ?_))
    refine wpAny_bind (wpAny_bind (wpAny_onRaise ?_)); show wpAny _ _ (Builtin.SmallTypes.nextOf (.ref i2) >>= _) _ _ _
    refine wpAny_bind (endO hh (((a2.but s1.extBut D.i2z).but s2.extBut D.i12.symm).but s3.extBut D.TOi2.symm) (((b2.but s1.extBut D.l2z).but s2.extBut D.l2i1).but s3.extBut D.l2TO) hy fun g4 e s4 ⟨oe, ho, hc⟩ => ?_)
    have z4 : IsZip g4 z TI TO .ellipsis := s4 _ _ D.i2z.symm (s3.extBut z _ D.TOz.symm (s2.extBut z _ D.i1z.symm z1))
    have ez : e ≠ z := fun u => by rw [u, z4] at ho; cases ho; simp at hc
    exact wpAny_setField_rec z4 (by simp) fun g5 _ s5 => q g5 e (fun c o n1 n2 n3 n4 u => s5.extBut c o n1 (s4 c o n4 (s3.extBut c o n2 (s2.extBut c o n3 (s1.extBut c o n1 u))))) ⟨oe, s5.extBut e oe ez ho, hc⟩
theorem nextO_item {t1 t2 : Bool} {z TI TO i1 i2 l1 l2 : Addr} {k1 k2 : Nat} {xs ys : Array Value} {x y a b : Value} {Q : Option Value → Shared → Prop} (D : ZipApart z TI TO i1 i2 l1 l2) (hz : IsZip s.heap z TI TO .none)
    (hTI : IsPair s.heap TI (.ref i1) (.ref i2)) (hTO : IsPair s.heap TO a b) (a1 : ItO t1 s.heap i1 l1 k1) (a2 : ItO t2 s.heap i2 l2 k2) (b1 : SqO t1 s.heap l1 xs) (b2 : SqO t2 s.heap l2 ys) (hx : xs[k1]? = some x) (hy : ys[k2]? = some y)
    (q : ∀ g, IsZip g z TI TO (rawInt s.heap.objs.size) → IsPair g TO x y → ItO t1 g i1 l1 (k1 + 1) → ItO t2 g i2 l2 (k2 + 1) → IsPair g s.heap.objs.size x y → g.objs.size = s.heap.objs.size + 1 →
      (∀ c o, c ≠ z → c ≠ TO → c ≠ i1 → c ≠ i2 → s.heap.get? c = some o → g.get? c = some o) → Q (some (.ref s.heap.objs.size)) { s with heap := g }) :
    wpAny (model P w) A (pyNext (.ref z)) Q E s := by
  have ty : s.TypeIs (.ref z) "zip" := ⟨_, hz, rfl⟩
  unfold pyNext
  refine wpAny_bind (wpAny_attempt (wpAny_callSpecial?_slot (name := Str.ofString "__next__") ty F.slot_zip_next (wpAny_call_entry F.slot_zip_next ty F.entry_zip_next ?_ (F.args_zip_next_1 _))))
  exact zipO_item D hz hTI hTO a1 a2 b1 b2 hx hy fun g u1 u2 u3 u4 u5 u6 u7 => wpAny_pure (q g u1 u2 u3 u4 u5 u6 u7)
theorem nextO_end {t1 t2 : Bool} {z TI TO i1 i2 l1 l2 : Addr} {k1 k2 : Nat} {xs ys : Array Value} {a b : Value} {Q : Option Value → Shared → Prop} (hh : A.handled = none) (D : ZipApart z TI TO i1 i2 l1 l2) (hz : IsZip s.heap z TI TO .none)
    (hTI : IsPair s.heap TI (.ref i1) (.ref i2)) (hTO : IsPair s.heap TO a b) (a1 : ItO t1 s.heap i1 l1 k1) (a2 : ItO t2 s.heap i2 l2 k2) (b1 : SqO t1 s.heap l1 xs) (b2 : SqO t2 s.heap l2 ys) (he : xs[k1]? = none ∨ ys[k2]? = none)
    (q : ∀ g, (∀ c o, c ≠ z → c ≠ TO → c ≠ i1 → c ≠ i2 → s.heap.get? c = some o → g.get? c = some o) → Q none { s with heap := g }) : wpAny (model P w) A (pyNext (.ref z)) Q E s := by
  have ty : s.TypeIs (.ref z) "zip" := ⟨_, hz, rfl⟩
  unfold pyNext
  refine wpAny_bind (wpAny_attempt (wpAny_callSpecial?_slot (name := Str.ofString "__next__") ty F.slot_zip_next (wpAny_call_entry F.slot_zip_next ty F.entry_zip_next ?_ (F.args_zip_next_1 _))))
  refine zipO_end hh D hz hTI hTO a1 a2 b1 b2 he fun g e k ⟨o, ho, hc⟩ => ?_
  exact wpAny_bind (wpAny_isInstance (T := "StopIteration") (b := true) ⟨o, ho, hc⟩ isSubtype_stop (wpAny_pure (q _ k)))
end
def itN (t : Bool) : String := if t then "tuple_iterator" else "list_iterator"
def pushI (t : Bool) (h : Heap) (l : Addr) : Heap := h.push { cls := .type (itN t), data := .fields #[.ref l, .int 0 0] }
def pushZ (t1 t2 : Bool) (h : Heap) (l1 l2 : Addr) : Heap :=
  let h2 := pushI t2 (pushI t1 h l1) l2
  let h3 := h2.push { cls := .type "tuple", data := .seq #[.ref h.objs.size, .ref (pushI t1 h l1).objs.size] }
  let h4 := h3.push { cls := .type "tuple", data := .seq #[.none, .none] }
  h4.push { cls := .type "zip", data := .fields #[.none, .bool false, .bool false, .ref h2.objs.size, .ref h3.objs.size] }
theorem size_I (t : Bool) (h : Heap) (l : Addr) : (pushI t h l).objs.size = h.objs.size + 1 := Heap.size_push ..
theorem SqO.push {t : Bool} {h : Heap} {l : Addr} {xs : Array Value} (x : SqO t h l xs) (o : Obj) : SqO t (h.push o) l xs := by
  cases t
  · exact Heap.IsList.push x _
  · exact Heap.IsTuple.push x _
theorem meets_zipO (t1 t2 : Bool) (l1 l2 : Addr) (xs ys : Array Value) : Meets (Builtin.«zip.__new__» ⟨[.type "zip", .ref l1, .ref l2], []⟩) (fun _ R s => SqO t1 s.heap l1 xs ∧ SqO t2 s.heap l2 ys ∧
      R (.ok (.ret (.ref (s.heap.objs.size + 4)))) { s with heap := pushZ t1 t2 s.heap l1 l2 }) :=
  .of_wp fun prog w A R s h => by
    obtain ⟨hp, g, d, tk, os⟩ := s; obtain ⟨b1, b2, h⟩ := h; have hsub := sub_zip
    have e4 : hp.objs.size + 4 = (((pushI t2 (pushI t1 hp l1) l2).push { cls := .type "tuple", data := .seq #[.ref hp.objs.size, .ref (pushI t1 hp l1).objs.size] }).push { cls := .type "tuple", data := .seq #[.none, .none] }).objs.size := by
      rw [Heap.size_push, Heap.size_push, size_I, size_I]
    change R (.ok (.ret (.ref (hp.objs.size + 4)))) _ at h
    rw [e4] at h
    cases t1 <;> cases t2
    · have c1 : Heap.IsList (Shared.heap ⟨hp, g, d, tk, os⟩) l1 xs := b1
      have c2 : Heap.IsList (Shared.heap ⟨hp.push { cls := .type "list_iterator", data := .fields #[.ref l1, .int 0 0] }, g, d, tk, os⟩) l2 ys := SqO.push (t := false) b2 _
      wp_walk using wpAny_pyIter_list c1, wpAny_pyIter_list c2
      exact ⟨_, rfl, h⟩
    · have c1 : Heap.IsList (Shared.heap ⟨hp, g, d, tk, os⟩) l1 xs := b1
      have c2 : Heap.IsTuple (Shared.heap ⟨hp.push { cls := .type "list_iterator", data := .fields #[.ref l1, .int 0 0] }, g, d, tk, os⟩) l2 ys := SqO.push (t := true) b2 _
      wp_walk using wpAny_pyIter_list c1, wpAny_pyIter_tuple c2
      exact ⟨_, rfl, h⟩
    · have c1 : Heap.IsTuple (Shared.heap ⟨hp, g, d, tk, os⟩) l1 xs := b1
      have c2 : Heap.IsList (Shared.heap ⟨hp.push { cls := .type "tuple_iterator", data := .fields #[.ref l1, .int 0 0] }, g, d, tk, os⟩) l2 ys := SqO.push (t := false) b2 _
      wp_walk using wpAny_pyIter_tuple c1, wpAny_pyIter_list c2
      exact ⟨_, rfl, h⟩
    · have c1 : Heap.IsTuple (Shared.heap ⟨hp, g, d, tk, os⟩) l1 xs := b1
      have c2 : Heap.IsTuple (Shared.heap ⟨hp.push { cls := .type "tuple_iterator", data := .fields #[.ref l1, .int 0 0] }, g, d, tk, os⟩) l2 ys := SqO.push (t := true) b2 _
      wp_walk using wpAny_pyIter_tuple c1, wpAny_pyIter_tuple c2
      exact ⟨_, rfl, h⟩
theorem itO_new {t : Bool} {h h' : Heap} {l : Addr} (e : h'.get? h.objs.size = some { cls := .type (itN t), data := .fields #[.ref l, .int 0 0] }) : ItO t h' h.objs.size l 0 := by
  cases t <;> exact ⟨_, e, rfl, rfl⟩
theorem call_zipO {t1 t2 : Bool} {P : Program} {w : World} {A : Around} {E : Value → Shared → Prop} {s : Shared} {l1 l2 : Addr} {xs ys : Array Value} {Q : Value → Shared → Prop} (b1 : SqO t1 s.heap l1 xs) (b2 : SqO t2 s.heap l2 ys)
    (q : ∀ g, IsZip g (s.heap.objs.size + 4) (s.heap.objs.size + 2) (s.heap.objs.size + 3) .none → IsPair g (s.heap.objs.size + 2) (.ref s.heap.objs.size) (.ref (s.heap.objs.size + 1)) → IsPair g (s.heap.objs.size + 3) .none .none →
      ItO t1 g s.heap.objs.size l1 0 → ItO t2 g (s.heap.objs.size + 1) l2 0 → g.objs.size = s.heap.objs.size + 5 → (∀ c o, s.heap.get? c = some o → g.get? c = some o) → Q (.ref (s.heap.objs.size + 4)) { s with heap := g }) :
    wpAny (model P w) A (call (.type "zip") [.ref l1, .ref l2]) Q E s := by
  refine callType_new F.called_zip (by decide) (F.typeCall_zip_2 _ _) (F.newCall_zip_2 _ _) (fun obj => F.args_object_init_3 obj _ _) F.entry_zip_new (meets_zipO t1 t2 l1 l2 xs ys) ⟨b1, b2, ?_⟩
  have z1 := size_I t1 s.heap l1
  have z2 : (pushI t2 (pushI t1 s.heap l1) l2).objs.size = s.heap.objs.size + 2 := by rw [size_I, z1]
  generalize e : pushZ t1 t2 s.heap l1 l2 = g
  have z5 : g.objs.size = s.heap.objs.size + 5 := by rw [← e]; unfold pushZ; simp only [Heap.size_push]; omega
  have up : ∀ o c, (pushI t2 (pushI t1 s.heap l1) l2).get? c = some o → g.get? c = some o := fun o c u => by
    rw [← e]; exact Heap.get?_push_of_some _ (Heap.get?_push_of_some _ (Heap.get?_push_of_some _ u))
  have f3 : IsPair g (pushI t2 (pushI t1 s.heap l1) l2).objs.size (.ref s.heap.objs.size) (.ref (pushI t1 s.heap l1).objs.size) := by rw [← e]; exact Heap.get?_push_of_some _ (Heap.get?_push_of_some _ (Heap.get?_push_size _ rfl))
  have f4 : IsPair g ((pushI t2 (pushI t1 s.heap l1) l2).push { cls := .type "tuple", data := .seq #[.ref s.heap.objs.size, .ref (pushI t1 s.heap l1).objs.size] }).objs.size .none .none := by rw [← e]; exact Heap.get?_push_of_some _ (Heap.get?_push_size _ rfl)
  have f5 : IsZip g (((pushI t2 (pushI t1 s.heap l1) l2).push { cls := .type "tuple", data := .seq #[.ref s.heap.objs.size, .ref (pushI t1 s.heap l1).objs.size] }).push { cls := .type "tuple", data := .seq #[.none, .none] }).objs.size (pushI t2 (pushI t1 s.heap l1) l2).objs.size ((pushI t2 (pushI t1 s.heap l1) l2).push { cls := .type "tuple", data := .seq #[.ref s.heap.objs.size, .ref (pushI t1 s.heap l1).objs.size] }).objs.size .none := by rw [← e]; exact Heap.get?_push_size _ rfl
  have f1 : g.get? s.heap.objs.size = some { cls := .type (itN t1), data := .fields #[.ref l1, .int 0 0] } := up _ _ (Heap.get?_push_of_some _ (Heap.get?_push_size _ rfl))
  have f2 : g.get? (pushI t1 s.heap l1).objs.size = some { cls := .type (itN t2), data := .fields #[.ref l2, .int 0 0] } := up _ _ (Heap.get?_push_size _ rfl)
  have i2 := itO_new f2
  simp only [Heap.size_push, z1, z2] at f3 f4 f5 i2
  exact ⟨⟨_, f5, rfl⟩, q g f5 f3 f4 (itO_new f1) i2 z5 fun c o u => up o c (Heap.get?_push_of_some _ (Heap.get?_push_of_some _ u))⟩
end Dg
end

section
set_option Elab.async false
set_option linter.all false
set_option maxRecDepth 100000
set_option maxHeartbeats 1000000
/-! DgW2: a loop over zip of two rows of any kinds. -/
namespace Dg
open PySem L2 PySem.Spec PyProof.Rows
def SqV (t : Bool) (K : PySem.W.Frag) (H : Hp) (a : Addr) (xs : List V) : Prop := if t then SqT K H a xs else SqL K H a xs
theorem SqV.its {t : Bool} {X : Cx} {pins : List (Addr × Obj)} {σ : L2.St} {H : Hp} {s : Shared} {a : Addr} {xs : List V} (I : Inv X pins σ H s) (h : SqV t X.K H a xs) : ∃ its : List Value, Vals xs its ∧ SqO t s.heap a its.toArray := by
  cases t
  · obtain ⟨its, r, p, _⟩ := I.list h
    exact ⟨its, r, p.isList⟩
  · obtain ⟨its, r, p, _⟩ := I.tuple h
    exact ⟨its, r, p⟩
theorem SqV.one {t : Bool} {X : Cx} {pins : List (Addr × Obj)} {σ : L2.St} {H : Hp} {s : Shared} {a : Addr} {xs ys : List V} (I : Inv X pins σ H s) (h : SqV t X.K H a xs) (k : SqV t X.K H a ys) : xs = ys := by
  cases t
  · exact I.list_inj h k
  · exact I.tuple_inj h k
theorem SqO.lt {t : Bool} {h : Heap} {a : Addr} {xs : Array Value} (x : SqO t h a xs) : a < h.objs.size := by
  cases t
  · obtain ⟨o, e, _⟩ := x
    exact Heap.lt_size e
  · obtain ⟨o, e, _⟩ := x
    exact Heap.lt_size e
/-- the rows at a and b as they stand at each turn -/
def ItzO (t1 t2 : Bool) (K : PySem.W.Frag) (a b : Addr) : It where
  go i H := ∃ (xs ys : List V) (x y : V), (SqV t1 K H a xs ∧ xs[i]? = some x) ∧ SqV t2 K H b ys ∧ ys[i]? = some y
  yld i H v H' := ∃ T x y, v = .ref T ∧ H T = none ∧ H' = upd H T (.tup [x, y]) ∧ (∀ xs, SqV t1 K H a xs → xs[i]? = some x) ∧ ∀ ys, SqV t2 K H b ys → ys[i]? = some y
  stop i H := ∃ xs ys : List V, (SqV t1 K H a xs ∧ SqV t2 K H b ys) ∧ (xs.length ≤ i ∨ ys.length ≤ i)
def TnO (t1 t2 : Bool) (z TI TO i1 i2 a b : Addr) (i : Nat) (h : Heap) : Prop :=
  IsZip h z TI TO .none ∧ IsPair h TI (.ref i1) (.ref i2) ∧ (∃ x y, IsPair h TO x y) ∧ ItO t1 h i1 a i ∧ ItO t2 h i2 b i
theorem in5 {c z TI TO i1 i2 : Addr} (h : c ∈ [z, TI, TO, i1, i2]) {p : Addr → Prop} (hz : p z) (hTI : p TI) (hTO : p TO) (h1 : p i1) (h2 : p i2) : p c := by
  simp only [List.mem_cons, List.not_mem_nil, or_false] at h
  obtain e | e | e | e | e := h <;> (rw [e]; assumption)
theorem not5 {c z TI TO i1 i2 : Addr} (h : ¬ c ∈ [z, TI, TO, i1, i2]) : c ≠ z ∧ c ≠ TI ∧ c ≠ TO ∧ c ≠ i1 ∧ c ≠ i2 := by
  simp only [List.mem_cons, List.not_mem_nil, or_false, not_or] at h
  exact h
theorem turnO {t1 t2 : Bool} {P : Program} {w : World} {K : PySem.W.Frag} {elts : List Expr} {kk : Nat} {tpos : Pos} {a b z TI TO i1 i2 : Addr} (D : ZipApart z TI TO i1 i2 a b) :
    Turn P w K (.Tuple elts kk tpos) (ItzO t1 t2 K a b) [z, TI, TO, i1, i2] z (TnO t1 t2 z TI TO i1 i2 a b) where
  mem := List.mem_cons_self ..
  obj := fun i h ⟨hz, hTI, ⟨x, y, hTO⟩, a1, a2⟩ c hc => in5 hc (p := fun c => ∃ o, h.get? c = some o ∧ ∀ v, o.data ≠ .cell v) ⟨_, hz, fun v q => nomatch q⟩ ⟨_, hTI, fun v q => nomatch q⟩ ⟨_, hTO, fun v q => nomatch q⟩ a1.obj a2.obj
  keep := fun i h h' ⟨hz, hTI, ⟨x, y, hTO⟩, a1, a2⟩ k =>
    ⟨k z (by simp) _ hz, k TI (by simp) _ hTI, ⟨x, y, k TO (by simp) _ hTO⟩, a1.at fun o q => k i1 (by simp) o q, a2.at fun o q => k i2 (by simp) o q⟩
  item := by
    rintro X rfl rfl rfl calm i pins s σ H E I hf ⟨hz, hTI, ⟨x0, y0, hTO⟩, a1, a2⟩ ⟨xs, ys, x, y, ⟨q1, hx⟩, q2, hy⟩
    obtain ⟨us, r1, p1⟩ := q1.its I
    obtain ⟨vs, r2, p2⟩ := q2.its I
    obtain ⟨u, hu, ru⟩ := r1.get hx
    obtain ⟨v, hv, rv⟩ := r2.get hy
    refine nextO_item D hz hTI hTO a1 a2 p1 p2 (x := u) (y := v) (by simpa using hu) (by simpa using hv) fun g gz gO g1 g2 gT gs gk => ⟨_, rfl, ?_⟩
    refine wpAny_letOwnedTupleGo_zip (s := { s with heap := g }) gz fun g' gz' sb => ?_
    have zl : z < s.heap.objs.size := Heap.lt_size hz
    have fresh : H s.heap.objs.size = none := I.hok.fresh (Nat.le_refl _)
    have new : ObjOk X.prog X.w (upd H s.heap.objs.size (.tup [x, y])) g' s.heap.objs.size (.tup [x, y]) := ⟨(by decide : 2 ≤ sizeLine), [u, v], .cons ru (.cons rv .nil), _, (sb.2 _ (Nat.ne_of_gt zl)).trans gT, rfl, _, rfl⟩
    have I1 : Inv X pins σ (upd H s.heap.objs.size (.tup [x, y])) { s with heap := g' } := by
      refine I.turnedNew (t' := s.toks) (ch := [z, TI, TO, i1, i2]) (fun c o hb q => ?_) hf (Nat.le_refl _) new
      obtain ⟨n1, n2, n3, n4, n5⟩ := not5 hb
      exact (sb.2 c n1).trans (gk c o n1 n3 n4 n5 q)
    refine ⟨.ref s.heap.objs.size, _, I1, rfl, ⟨_, x, y, rfl, fresh, rfl, fun l hl => (hl.one I q1) ▸ hx, fun l hl => (hl.one I q2) ▸ hy⟩, ?_, fun c hc => ?_⟩
    · exact ⟨gz', (sb.2 _ D.TIz).trans (gk _ _ D.TIz D.TITO D.TIi1 D.TIi2 hTI), ⟨u, v, (sb.2 _ D.TOz).trans gO⟩, g1.at fun o q => (sb.2 _ D.i1z).trans q, g2.at fun o q => (sb.2 _ D.i2z).trans q⟩
    · have hlt : c < s.heap.objs.size := by
        obtain ⟨_, e1, _⟩ := a1.obj
        obtain ⟨_, e2, _⟩ := a2.obj
        exact in5 hc (p := fun c => c < s.heap.objs.size) zl (Heap.lt_size hTI) (Heap.lt_size hTO) (Heap.lt_size e1) (Heap.lt_size e2)
      exact (upd_ne (Nat.ne_of_lt hlt)).trans (hf c hc).1
  done := by
    rintro X rfl rfl rfl calm i pins s σ H E I hf ⟨hz, hTI, ⟨x0, y0, hTO⟩, a1, a2⟩ ⟨xs, ys, ⟨q1, q2⟩, e⟩
    obtain ⟨us, r1, p1⟩ := q1.its I
    obtain ⟨vs, r2, p2⟩ := q2.its I
    have n1 := r1.length
    have n2 := r2.length
    refine nextO_end (I.ok.hd calm) D hz hTI hTO a1 a2 p1 p2 (e.imp (fun q => by simp; omega) (fun q => by simp; omega)) fun g gk => ⟨rfl, ?_⟩
    refine I.turnedL (t' := s.toks) (ch := [z, TI, TO, i1, i2]) (fun c o hb q => ?_) hf
    obtain ⟨n1, n2, n3, n4, n5⟩ := not5 hb
    exact gk c o n1 n3 n4 n5 q
  self := fun A i s Q E st h => wpAny_pyIter_zip st.1 h
/-- zip of two rows of kinds that are told -/
def iZipO (K : PySem.W.Frag) (ta : TA) : L2.TI := fun σ H R => ta σ H fun vs H1 => ∃ (t1 t2 : Bool) (a b : Addr) (xs ys : List V), vs = [.ref a, .ref b] ∧ SqV t1 K H1 a xs ∧ SqV t2 K H1 b ys ∧ R (ItzO t1 t2 K a b) H1
theorem pi_zipO {X : Cx} {e e2 : Expr} {ta : TA} {p pos tpos : Pos} {elts : List Expr} {kk : Nat} (hg : Gl X "zip") (hm : X.mg "zip" = none) (ha : PA X [e, e2] ta)
    (hs : starEach [e, e2] X.env = (false, eval e X.env) :: starEach [e2] X.env := by rfl) (hpl : (backTo pos (starEach [e2] X.env)).any (·.1) = false := by rfl) :
    PI X (.Tuple elts kk tpos) (.Call (.Name "zip" p) [e, e2] [] pos) (iZipO X.K ta) := by
  refine ⟨fun pins s σ H R I h => ?_⟩
  refine Call_ (ld_blt I hg hm PyProof.Rows.boot_zip (PyProof.Rows.callWith_type1 (thn (ha.run pos pins s σ H _ I h) fun us s1 ⟨vs, H1, I1, r1, t1, t2, a, b, xs, ys, ex, q1, q2, q⟩ => ?_) hs hpl))
  subst ex
  obtain _ | ⟨r, _ | ⟨r', _ | _⟩⟩ := r1
  cases r
  cases r'
  obtain ⟨u1, _, p1⟩ := q1.its I1
  obtain ⟨u2, _, p2⟩ := q2.its I1
  have fr : ∀ n, FpOk X pins H1 (s1.heap.objs.size + n) := fun n => I1.fpOk (Nat.le_add_right _ _) (I1.hok.fresh (Nat.le_add_right _ _))
  refine call_zipO p1 p2 fun g hz hTI hTO h1 h2 hsz hk => wpAny_pyIter_zip hz ?_
  exact ⟨s1.heap.objs.size + 4, [s1.heap.objs.size + 4, s1.heap.objs.size + 2, s1.heap.objs.size + 3, s1.heap.objs.size, s1.heap.objs.size + 1], _, _, H1, rfl, I1.kept (t' := s1.toks) hk, turnO (PySem.W.ktu_apart s1.heap.objs.size a b p1.lt p2.lt), ⟨hz, hTI, ⟨_, _, hTO⟩, h1, h2⟩, fun c hc => in5 hc (p := FpOk X pins H1) (fr 4) (fr 2) (fr 3) (fr 0) (fr 1), q⟩
end Dg
end

section
set_option Elab.async false
set_option linter.all false
set_option maxRecDepth 100000
set_option maxHeartbeats 4000000
/-! DgI: iterators by plain lists; statements. -/
namespace Dg
open PySem PySem.Spec L2
open PyProof.Rows hiding St

/-- what an iterator gives, while what it walks stays -/
structure Wk (J : It) (w0 : Wd) (g : Option (Nat × List PV)) (xs : List PV) : Prop where
  goes : ∀ (u : Wd) (S : Store) (i : Nat), RM w0 u → HRel u S → Grd g S → i < xs.length → J.go i u.H
  stops : ∀ (u : Wd) (S : Store), RM w0 u → HRel u S → Grd g S → J.stop xs.length u.H
  yields : ∀ (u : Wd) (S : Store) (i : Nat) (x : V) (H' : Hp), RM w0 u → HRel u S → Grd g S → i < xs.length → J.yld i u.H x H' → ∃ u' p, u'.H = H' ∧ Ext u u' ∧ HRel u' S ∧ xs[i]? = some p ∧ Rep u' x p
def LAt (w : Wd) (a : Addr) (g : Option (Nat × List PV)) (xs : List PV) : Prop := ∀ (u : Wd) (S : Store), RM w u → HRel u S → Grd g S → ∃ vs, SqL w.K u.H a vs ∧ Reps u vs xs
def TAt (w : Wd) (a : Addr) (xs : List PV) : Prop := ∀ (u : Wd), RM w u → ∃ vs, SqT w.K u.H a vs ∧ Reps u vs xs
theorem LAt.lst {w : Wd} {a : Addr} {vs : List V} {xs : List PV} (h : RLs w a vs) (r : Reps w vs xs) : LAt w a none xs := fun u S e _ _ => by
  have q := (h.monoR e).sq
  rw [e.k] at q
  exact ⟨vs, q, r.monoR e⟩
theorem LAt.ref {w : Wd} {a : Addr} {n : Nat} {xs : List PV} (h : w.al[n]? = some a) : LAt w a (some (n, xs)) xs := fun u S e hr g => by
  obtain ⟨vs, h1, h2⟩ := hr.objs n a _ (e.al _ _ h) g
  exact ⟨vs, .inl (.inl h1), h2⟩
theorem TAt.tup {w : Wd} {a : Addr} {vs : List V} {xs : List PV} (h : RTs w a vs) (r : Reps w vs xs) : TAt w a xs := fun u e => by
  have q := (h.monoR e).sq
  rw [e.k] at q
  exact ⟨vs, q, r.monoR e⟩
theorem enumP_length : ∀ (xs : List PV) (k : Nat), (enumP k xs).length = xs.length
  | [], _ => rfl
  | _ :: xs, k => congrArg Nat.succ (enumP_length xs (k + 1))
theorem enumP_get : ∀ (xs : List PV) (k i : Nat) (x : PV), xs[i]? = some x → (enumP k xs)[i]? = some (.tup [.int ((k + i : Nat) : Int), x])
  | _ :: _, k, 0, x, h => by
    have z : some _ = some x := h
    cases z; rfl
  | _ :: xs, k, i + 1, x, h => by
    have z := enumP_get xs (k + 1) i x h
    rw [show k + 1 + i = k + (i + 1) by omega] at z
    exact z
theorem zipP_length : ∀ (xs ys : List PV), (zipP xs ys).length = min xs.length ys.length
  | [], ys => by simp [zipP]
  | _ :: _, [] => by simp [zipP]
  | _ :: xs, _ :: ys => by simp only [zipP, List.length_cons, zipP_length xs ys]; omega
theorem zipP_get : ∀ (xs ys : List PV) (i : Nat) (x y : PV), xs[i]? = some x → ys[i]? = some y → (zipP xs ys)[i]? = some (.tup [x, y])
  | _ :: _, _ :: _, 0, x, y, h, k => by
    have z : some _ = some x := h
    have z2 : some _ = some y := k
    cases z; cases z2; rfl
  | _ :: xs, _ :: ys, i + 1, x, y, h, k => zipP_get xs ys i x y h k
  | [], _, _, _, _, h, _ => by simp at h
  | _ :: _, [], _, _, _, _, k => by simp at k
theorem wk_l {w : Wd} {a : Addr} {g : Option (Nat × List PV)} {xs : List PV} (h : LAt w a g xs) : Wk (Itl w.K a) w g xs := by
  refine ⟨fun u S i e hr hg hi => ?_, fun u S e hr hg => ?_, fun u S i x H' e hr hg hi y => ?_⟩
  · obtain ⟨vs, q, r⟩ := h u S e hr hg
    exact ⟨vs, vs[i]'(by rw [r.length]; exact hi), q, List.getElem?_eq_getElem _⟩
  · obtain ⟨vs, q, r⟩ := h u S e hr hg
    exact ⟨vs, q, Nat.le_of_eq r.length⟩
  · obtain ⟨vs, q, r⟩ := h u S e hr hg
    obtain ⟨p, h1, h2⟩ := r.getV (y.2 vs q)
    exact ⟨u, p, y.1.symm, Ext.refl u, hr, h1, h2⟩
theorem wk_t {w : Wd} {a : Addr} {xs : List PV} (h : TAt w a xs) : Wk (Itt w.K a) w none xs := by
  refine ⟨fun u S i e hr hg hi => ?_, fun u S e hr hg => ?_, fun u S i x H' e hr hg hi y => ?_⟩
  · obtain ⟨vs, q, r⟩ := h u e
    exact ⟨vs, vs[i]'(by rw [r.length]; exact hi), q, List.getElem?_eq_getElem _⟩
  · obtain ⟨vs, q, r⟩ := h u e
    exact ⟨vs, q, Nat.le_of_eq r.length⟩
  · obtain ⟨vs, q, r⟩ := h u e
    obtain ⟨p, h1, h2⟩ := r.getV (y.2 vs q)
    exact ⟨u, p, y.1.symm, Ext.refl u, hr, h1, h2⟩
theorem wk_pair {u : Wd} {S : Store} {T : Addr} {x y : V} {p q : PV} (hr : HRel u S) (hT : u.H T = none) (r1 : Rep u x p) (r2 : Rep u y q) : ∃ u', u'.H = upd u.H T (.tup [x, y]) ∧ Ext u u' ∧ HRel u' S ∧ Rep u' (.ref T) (.tup [p, q]) := by
  obtain ⟨h, e, r⟩ := hr.newT hT (.cons r1 (.cons r2 .nil))
  exact ⟨_, rfl, e, h, r⟩
theorem wk_el {w : Wd} {a : Addr} {g : Option (Nat × List PV)} {xs : List PV} (h : LAt w a g xs) : Wk (Ite w.K a) w g (enumP 0 xs) := by
  refine ⟨fun u S i e hr hg hi => ?_, fun u S e hr hg => ?_, fun u S i x H' e hr hg hi y => ?_⟩
  · obtain ⟨vs, q, r⟩ := h u S e hr hg
    rw [enumP_length] at hi
    exact ⟨vs, vs[i]'(by rw [r.length]; exact hi), q, List.getElem?_eq_getElem _⟩
  · obtain ⟨vs, q, r⟩ := h u S e hr hg
    exact ⟨vs, q, by rw [enumP_length]; exact Nat.le_of_eq r.length⟩
  · obtain ⟨vs, q, r⟩ := h u S e hr hg
    obtain ⟨T, z, rfl, hT, rfl, hz⟩ := y
    obtain ⟨p, h1, h2⟩ := r.getV (hz vs q)
    obtain ⟨u', a1, a2, a3, a4⟩ := wk_pair hr hT (.int (i : Nat)) h2
    have z := enumP_get xs 0 i p h1
    rw [Nat.zero_add] at z
    exact ⟨u', _, a1, a2, a3, z, a4⟩
theorem wk_et {w : Wd} {a : Addr} {xs : List PV} (h : TAt w a xs) : Wk (IteT w.K a) w none (enumP 0 xs) := by
  refine ⟨fun u S i e hr hg hi => ?_, fun u S e hr hg => ?_, fun u S i x H' e hr hg hi y => ?_⟩
  · obtain ⟨vs, q, r⟩ := h u e
    rw [enumP_length] at hi
    exact ⟨vs, vs[i]'(by rw [r.length]; exact hi), q, List.getElem?_eq_getElem _⟩
  · obtain ⟨vs, q, r⟩ := h u e
    exact ⟨vs, q, by rw [enumP_length]; exact Nat.le_of_eq r.length⟩
  · obtain ⟨vs, q, r⟩ := h u e
    obtain ⟨T, z, rfl, hT, rfl, hz⟩ := y
    obtain ⟨p, h1, h2⟩ := r.getV (hz vs q)
    obtain ⟨u', a1, a2, a3, a4⟩ := wk_pair hr hT (.int (i : Nat)) h2
    have z := enumP_get xs 0 i p h1
    rw [Nat.zero_add] at z
    exact ⟨u', _, a1, a2, a3, z, a4⟩
def SAt (t : Bool) (w : Wd) (a : Addr) (g : Option (Nat × List PV)) (xs : List PV) : Prop := if t then TAt w a xs else LAt w a g xs
theorem SAt.get {t : Bool} {w : Wd} {a : Addr} {g : Option (Nat × List PV)} {xs : List PV} (h : SAt t w a g xs) (u : Wd) (S : Store) (e : RM w u) (hr : HRel u S) (hg : Grd g S) : ∃ vs, SqV t w.K u.H a vs ∧ Reps u vs xs := by
  cases t
  · exact h u S e hr hg
  · exact h u e
theorem wk_zO {t1 t2 : Bool} {w : Wd} {a b : Addr} {g : Option (Nat × List PV)} {xs ys : List PV} (h : SAt t1 w a g xs) (k : SAt t2 w b none ys) : Wk (ItzO t1 t2 w.K a b) w g (zipP xs ys) := by
  refine ⟨fun u S i e hr hg hi => ?_, fun u S e hr hg => ?_, fun u S i x H' e hr hg hi y => ?_⟩
  · obtain ⟨vs, q, r⟩ := h.get u S e hr hg
    obtain ⟨us, q2, r2⟩ := k.get u S e hr trivial
    rw [zipP_length, ← r.length, ← r2.length] at hi
    exact ⟨vs, us, vs[i]'(by omega), us[i]'(by omega), ⟨q, List.getElem?_eq_getElem _⟩, q2, List.getElem?_eq_getElem _⟩
  · obtain ⟨vs, q, r⟩ := h.get u S e hr hg
    obtain ⟨us, q2, r2⟩ := k.get u S e hr trivial
    exact ⟨vs, us, ⟨q, q2⟩, by rw [zipP_length, ← r.length, ← r2.length]; omega⟩
  · obtain ⟨vs, q, r⟩ := h.get u S e hr hg
    obtain ⟨us, q2, r2⟩ := k.get u S e hr trivial
    obtain ⟨T, z, z2, rfl, hT, rfl, hz, hz2⟩ := y
    obtain ⟨p, h1, h2⟩ := r.getV (hz vs q)
    obtain ⟨p2, h12, h22⟩ := r2.getV (hz2 us q2)
    obtain ⟨u', a1, a2, a3, a4⟩ := wk_pair hr hT h2 h22
    exact ⟨u', _, a1, a2, a3, zipP_get xs ys i p p2 h1 h12, a4⟩
theorem wk_r {w : Wd} (lo : Int) (n : Nat) : Wk (Itr lo n) w none ((List.range n).map fun (k : Nat) => .int (lo + (k : Int))) := by
  refine ⟨fun u S i e hr hg hi => ?_, fun u S e hr hg => ?_, fun u S i x H' e hr hg hi y => ?_⟩
  · rw [List.length_map, List.length_range] at hi; exact hi
  · rw [List.length_map, List.length_range]; exact Nat.le_refl n
  · rw [List.length_map, List.length_range] at hi
    obtain ⟨rfl, rfl⟩ := y
    exact ⟨u, .int (lo + (i : Nat)), rfl, Ext.refl u, hr, by rw [List.getElem?_map, List.getElem?_range hi]; rfl, .int _⟩
theorem wk_s {w : Wd} (z : Str) : Wk (Its z) w none (z.cps.toList.map fun c => .str ⟨#[c]⟩) := by
  refine ⟨fun u S i e hr hg hi => ?_, fun u S e hr hg => ?_, fun u S i x H' e hr hg hi y => ?_⟩
  · rw [List.length_map, Array.length_toList] at hi; exact hi
  · rw [List.length_map, Array.length_toList]; exact Nat.le_refl _
  · obtain ⟨rfl, c, hc, rfl⟩ := y
    exact ⟨u, .str ⟨#[c]⟩, rfl, Ext.refl u, hr, by rw [List.getElem?_map, Array.getElem?_toList, hc]; rfl, .str _⟩

def TII (Z : Xc) (W : WX) (m : IT) : L2.TI := fun σ H R => ∃ w r S, At Z σ H w r S ∧ Good Z W σ (fun u J p => Wk J u p.2 p.1) w R (evalI Z.C m r S)
theorem bind_ok_inv {β γ : Type} {r : Res β} {f : β → Store → Res γ} {c : γ} {S : Store} (h : r.bind f = .ok c S) : ∃ b S1, r = .ok b S1 ∧ f b S1 = .ok c S := by
  cases r with
  | ok b S1 => exact ⟨b, S1, rfl, h⟩
  | exc c a S1 => cases h
  | bad => cases h
theorem evalI_grd {C : Cxt} {m : IT} {r : PEnv} {S S1 : Store} {p : List PV × Option (Nat × List PV)} (h : evalI C m r S = .ok p S1) : Grd p.2 S1 := by
  cases m with
  | of e =>
    rw [evalI] at h
    obtain ⟨x, S2, h1, h2⟩ := bind_ok_inv h
    split at h2
    · cases h2; trivial
    · split at h2
      · rename_i e; cases h2; exact e
      · cases h2
    · split at h2
      · cases h2; trivial
      · cases h2
  | range es =>
    rw [evalI] at h
    obtain ⟨x, S2, h1, h2⟩ := bind_ok_inv h
    split at h2
    · cases h2; trivial
    · cases h2
  | enum e =>
    rw [evalI] at h
    obtain ⟨x, S2, h1, h2⟩ := bind_ok_inv h
    split at h2
    · split at h2
      · rename_i e; cases h2; exact e
      · cases h2
    · split at h2
      · cases h2; trivial
      · cases h2
  | zip a b =>
    rw [evalI] at h
    obtain ⟨x, S2, h1, h2⟩ := bind_ok_inv h
    obtain ⟨y, S3, h3, h4⟩ := bind_ok_inv h2
    split at h4
    · cases h4; trivial
    · cases h4; trivial
    · cases h4; trivial
    · cases h4; trivial
    · split at h4
      · rename_i e; cases h4; exact e
      · cases h4
    · split at h4
      · rename_i e; cases h4; exact e
      · cases h4
    · cases h4
section
variable {X : Cx} {Z : Xc} {W : WX} {a b c e tg : Expr} {ma mb mc : ME} {pos p : Pos}
theorem _root_.L2.PI.imp {t t' : L2.TI} (h : PI X tg e t) (i : ∀ σ H Q, t' σ H Q → t σ H Q) : PI X tg e t' := ⟨fun pins s σ H Q I q => h.run pins s σ H Q I (i σ H Q q)⟩
/-- by what the value is: a list, a tuple, a text -/
def iAny (K : PySem.W.Frag) (tl : TE) : L2.TI := fun σ H R => tl σ H fun x H1 => (∃ a, x = .ref a ∧ (∃ xs, SqL K H1 a xs) ∧ R (Itl K a) H1) ∨ (∃ a, x = .ref a ∧ (∃ xs, SqT K H1 a xs) ∧ R (Itt K a) H1) ∨ ∃ z, x = .str z ∧ R (Its z) H1
theorem pi_any {l : Expr} {tl : TE} (hl : PE X l tl) : PI X tg l (iAny X.K tl) := by
  refine ⟨fun pins s σ H R I h => ?_⟩
  refine thn (hl.run pins s σ H _ I h) fun v s1 ⟨x, H1, I1, r1, q1⟩ => ?_
  rcases q1 with ⟨a, e, ⟨xs, hq⟩, q⟩ | ⟨a, e, ⟨xs, hq⟩, q⟩ | ⟨z, e, q⟩
  · subst e
    cases r1
    obtain ⟨its, rv, p, hz⟩ := I1.list hq
    refine wpAny_pyIter_list p.isList ?_
    refine ⟨s1.heap.objs.size, [s1.heap.objs.size], _, _, H1, rfl, I1.kept (t' := s1.toks) fun b o e => Heap.get?_push_of_some _ e, turn_list a _, ⟨_, Heap.get?_push_size _ rfl, rfl, rfl⟩, fun b hb => ?_, q⟩
    have e : b = s1.heap.objs.size := by simpa using hb
    subst e
    exact I1.fpOk (Nat.le_refl _) (I1.hok.fresh (Nat.le_refl _))
  · subst e
    cases r1
    obtain ⟨its, rv, p, hz⟩ := I1.tuple hq
    refine wpAny_pyIter_tuple (show s1.heap.IsTuple a its.toArray from p) ?_
    refine ⟨s1.heap.objs.size, [s1.heap.objs.size], _, _, H1, rfl, I1.kept (t' := s1.toks) fun b o e => Heap.get?_push_of_some _ e, turn_tuple a _, ⟨_, Heap.get?_push_size _ rfl, rfl, rfl⟩, fun b hb => ?_, q⟩
    have e : b = s1.heap.objs.size := by simpa using hb
    subst e
    exact I1.fpOk (Nat.le_refl _) (I1.hok.fresh (Nat.le_refl _))
  · subst e
    obtain ⟨t, rfl⟩ := r1
    cases ha : z.cps.all (· < 128)
    · exact wpAny_pyIter_wide ha (pi_one (tk := s1.toks) I1 _ (turn_str _ z t "str_iterator" (.inr rfl)) ⟨_, Heap.get?_push_size _ rfl, rfl, rfl⟩ q)
    · exact wpAny_pyIter_ascii ha (pi_one (tk := s1.toks) I1 _ (turn_str _ z t "str_ascii_iterator" (.inl rfl)) ⟨_, Heap.get?_push_size _ rfl, rfl, rfl⟩ q)
theorem Good.okI {α β : Type} {Z : Xc} {W : WX} {σ : St} {R : Wd → α → β → Prop} {w : Wd} {Q : α → Hp → Prop} {b : β} {S : Store} {x : α} (g : Good Z W σ R w Q (.ok b S)) (hr : HRel w S) (r : R w x b) : Q x w.H := g w x (Ext.refl w) hr r
theorem snd_of (hK : Z.K = X.K) (ha : PE X e (TI Z W ma)) : PI X tg e (TII Z W (.of ma)) := by
  refine (pi_any ha).imp fun σ H R h => ?_
  obtain ⟨w, r, S, at_, g⟩ := h
  rw [evalI] at g
  refine ⟨w, r, S, at_, g.bindI fun u x q S1 e1 h1 r1 g1 => ?_⟩
  have kk : u.K = X.K := e1.k.trans (at_.K.trans hK)
  cases r1 with
  | str z => exact .inr (.inr ⟨z, rfl, g1.okI h1 (wk_s z)⟩)
  | @ref a n al =>
    dsimp only at g1
    split at g1
    · rename_i xs e2
      obtain ⟨vs, q1, q2⟩ := LAt.ref (xs := xs) al u S1 (Ext.refl u).rm h1 e2
      rw [kk] at q1
      have wk := wk_l (LAt.ref (xs := xs) al)
      rw [kk] at wk
      exact .inl ⟨a, rfl, ⟨vs, q1⟩, g1.okI h1 wk⟩
    · exact g1.elim
  | @lst a vs xs q rs =>
    have hl : RLs u a vs := .inl q
    have wk := wk_l (LAt.lst hl rs)
    have sq := hl.sq
    rw [kk] at wk sq
    exact .inl ⟨a, rfl, ⟨vs, sq⟩, Good.okI (b := (xs, none)) g1 h1 wk⟩
  | @scr a vs xs hl rs =>
    have wk := wk_l (LAt.lst hl rs)
    have sq := hl.sq
    rw [kk] at wk sq
    exact .inl ⟨a, rfl, ⟨vs, sq⟩, Good.okI (b := (xs, none)) g1 h1 wk⟩
  | @tup a vs xs hl rs =>
    have wk := wk_t (TAt.tup hl rs)
    have sq := hl.sq
    rw [kk] at wk sq
    exact .inr (.inl ⟨a, rfl, ⟨vs, sq⟩, Good.okI (b := (xs, none)) g1 h1 wk⟩)
  | _ => exact (show False from g1).elim
theorem Rep.int_of {w : Wd} {v : V} {i : Int} (r : Rep w v (.int i)) : v = .int i := by cases r; rfl
theorem Good.bindE {α β α' γ : Type} {Z : Xc} {W : WX} {σ : St} {R : Wd → α → β → Prop} {R2 : Wd → α' → γ → Prop} {w : Wd} {Q : α' → Hp → Prop} {K : α → Hp → Prop} {r : Res β} {f : β → Store → Res γ} (g : Good Z W σ R2 w Q (r.bind f))
    (k : ∀ u x b S1, r = .ok b S1 → Ext w u → HRel u S1 → R u x b → Good Z W σ R2 u Q (f b S1) → K x u.H) : Good Z W σ R w K r := by
  cases r with
  | ok b S => exact fun u x e h q => k u x b S rfl e h q (Good.mono e g)
  | exc c a S => exact g
  | bad => exact g
def lenMs : MEs → Nat
  | .nil => 0
  | .cons _ es => lenMs es + 1
theorem evalEs_len {C : Cxt} : ∀ {ms : MEs} {r : PEnv} {S S1 : Store} {q : List PV}, evalEs C ms r S = .ok q S1 → q.length = lenMs ms
  | .nil, _, _, _, _, h => by rw [evalEs] at h; cases h; rfl
  | .cons e es, _, _, _, _, h => by
    rw [evalEs] at h
    obtain ⟨x, S2, h1, h2⟩ := bind_ok_inv h
    obtain ⟨y, S3, h3, h4⟩ := bind_ok_inv h2
    cases h4
    show y.length + 1 = _
    rw [evalEs_len h3]; rfl
theorem snd_range1 (hg : Gl X "range") (hm : X.mg "range" = none) (ha : PA X [a] (TIA Z W (.cons ma .nil))) (hs : starEach [a] X.env = [(false, eval a X.env)]) : PI X tg (.Call (.Name "range" p) [a] [] pos) (TII Z W (.range (.cons ma .nil))) := by
  refine (pi_range1 hg hm ha hs).imp fun σ H R h => ?_
  obtain ⟨w, r, S, at_, g⟩ := h
  rw [evalI] at g
  refine ⟨w, r, S, at_, g.bindE fun u x q S1 he e1 h1 r1 g1 => ?_⟩
  have hl := evalEs_len he
  match q, hl, r1, g1 with
  | [.int j], _, r1, g1 =>
    obtain ⟨v, rfl, r2⟩ := one_arg r1
    have e2 := r2.int_of
    subst e2
    simp only [rangeP] at g1
    split at g1
    · rename_i xs e
      split at e
      · rename_i hz
        cases e
        exact ⟨j, rfl, hz.1, hz.2, Good.okI (b := (_, none)) g1 h1 (wk_r 0 j.toNat)⟩
      · cases e
    · exact g1.elim
  | [.non], _, _, g1 => exact g1.elim
  | [.bl _], _, _, g1 => exact g1.elim
  | [.str _], _, _, g1 => exact g1.elim
  | [.tup _], _, _, g1 => exact g1.elim
  | [.lst _], _, _, g1 => exact g1.elim
  | [.ref _], _, _, g1 => exact g1.elim
  | [.ty _], _, _, g1 => exact g1.elim
  | [.scr _], _, _, g1 => exact g1.elim
theorem snd_range2 (hg : Gl X "range") (hm : X.mg "range" = none) (ha : PA X [a, b] (TIA Z W (.cons ma (.cons mb .nil)))) (hs : starEach [a, b] X.env = [(false, eval a X.env), (false, eval b X.env)]) (hs2 : starEach [b] X.env = [(false, eval b X.env)]) : PI X tg (.Call (.Name "range" p) [a, b] [] pos) (TII Z W (.range (.cons ma (.cons mb .nil)))) := by
  refine (pi_range2 hg hm ha hs hs2).imp fun σ H R h => ?_
  obtain ⟨w, r, S, at_, g⟩ := h
  rw [evalI] at g
  refine ⟨w, r, S, at_, g.bindE fun u x q S1 he e1 h1 r1 g1 => ?_⟩
  have hl := evalEs_len he
  match q, hl, r1, g1 with
  | [y, z], _, r1, g1 =>
    obtain ⟨v1, v2, rfl, r2, r3⟩ := two_arg r1
    cases y with
    | int i =>
      cases z with
      | int j =>
        have e2 := r2.int_of
        have e3 := r3.int_of
        subst e2; subst e3
        simp only [rangeP] at g1
        split at g1
        · rename_i xs e
          split at e
          · rename_i hz
            cases e
            exact ⟨i, j, rfl, hz, Good.okI (b := (_, none)) g1 h1 (wk_r i (j - i).toNat)⟩
          · cases e
        · exact g1.elim
      | _ => exact (show False from g1).elim
    | _ => exact (show False from g1).elim
theorem snd_enum {tg : Expr} {elts : List Expr} {kk : Nat} {tpos : Pos} (hK : Z.K = X.K) (hg : Gl X "enumerate") (hm : X.mg "enumerate" = none) (ha : PE X a (TI Z W ma)) (hs : starEach [a] X.env = [(false, eval a X.env)]) : PI X (.Tuple elts kk tpos) (.Call (.Name "enumerate" p) [a] [] pos) (TII Z W (.enum ma)) := by
  refine (pi_enumA hg hm (pa_cons ha pa_nil hs) hs).imp fun σ H R h => ?_
  obtain ⟨w, r, S, at_, g⟩ := h
  rw [evalI] at g
  refine ⟨w, r, S, at_, g.bindI fun u x q S1 e1 h1 r1 g1 => ?_⟩
  have kk : u.K = X.K := e1.k.trans (at_.K.trans hK)
  cases r1 with
  | @ref a n al =>
    dsimp only at g1
    split at g1
    · rename_i xs e2
      obtain ⟨vs, q1, q2⟩ := LAt.ref (xs := xs) al u S1 (Ext.refl u).rm h1 e2
      rw [kk] at q1
      have wk := wk_el (LAt.ref (xs := xs) al)
      rw [kk] at wk
      exact ⟨a, rfl, .inl ⟨vs, q1, Good.okI (b := (enumP 0 xs, some (n, xs))) g1 h1 wk⟩⟩
    · exact g1.elim
  | @lst a vs xs q rs =>
    have hl : RLs u a vs := .inl q
    have wk := wk_el (LAt.lst hl rs)
    have sq := hl.sq
    rw [kk] at wk sq
    exact ⟨a, rfl, .inl ⟨vs, sq, Good.okI (b := (enumP 0 xs, none)) g1 h1 wk⟩⟩
  | @scr a vs xs hl rs =>
    have wk := wk_el (LAt.lst hl rs)
    have sq := hl.sq
    rw [kk] at wk sq
    exact ⟨a, rfl, .inl ⟨vs, sq, Good.okI (b := (enumP 0 xs, none)) g1 h1 wk⟩⟩
  | @tup a vs xs hl rs =>
    have wk := wk_et (TAt.tup hl rs)
    have sq := hl.sq
    rw [kk] at wk sq
    exact ⟨a, rfl, .inr ⟨vs, sq, Good.okI (b := (enumP 0 xs, none)) g1 h1 wk⟩⟩
  | _ => exact (show False from g1).elim
theorem snd_zip {elts : List Expr} {kk : Nat} {tpos : Pos} (hK : Z.K = X.K) (hg : Gl X "zip") (hm : X.mg "zip" = none) (ha : PE X a (TI Z W ma)) (hb : PE X b (TI Z W mb)) (hs : starEach [a, b] X.env = (false, eval a X.env) :: starEach [b] X.env) (hs2 : starEach [b] X.env = (false, eval b X.env) :: starEach [] X.env) :
    PI X (.Tuple elts kk tpos) (.Call (.Name "zip" p) [a, b] [] pos) (TII Z W (.zip ma mb)) := by
  refine (pi_zipO hg hm (pa_cons ha (pa_cons hb pa_nil hs2) hs) hs (by rw [hs2]; rfl)).imp fun σ H R h => ?_
  obtain ⟨w, r, S, at_, g⟩ := h
  rw [evalI] at g
  refine ⟨w, r, S, at_, g.bindI fun u x q S1 e1 h1 r1 g1 => ?_⟩
  refine ⟨u, r, S1, at_.next e1 h1, g1.bindI fun t y q2 S2 e2 h2 r2 g2 => ?_⟩
  have kk : t.K = X.K := e2.k.trans (e1.k.trans (at_.K.trans hK))
  have r1' := r1.mono e2
  cases r1' with
  | @tup a1 vs xs hl rs =>
    cases r2 with
    | @tup a2 us ys hl2 rs2 =>
      have wk := wk_zO (t1 := true) (t2 := true) (g := none) (TAt.tup hl rs) (TAt.tup hl2 rs2)
      have sq := hl.sq
      have sq2 := hl2.sq
      rw [kk] at wk sq sq2
      exact ⟨true, true, a1, a2, vs, us, rfl, sq, sq2, Good.okI (b := (zipP xs ys, none)) g2 h2 wk⟩
    | @lst a2 us ys q2 rs2 =>
      have hl2 : RLs t a2 us := .inl q2
      have wk := wk_zO (t1 := true) (t2 := false) (g := none) (TAt.tup hl rs) (LAt.lst hl2 rs2)
      have sq := hl.sq
      have sq2 := hl2.sq
      rw [kk] at wk sq sq2
      exact ⟨true, false, a1, a2, vs, us, rfl, sq, sq2, Good.okI (b := (zipP xs ys, none)) g2 h2 wk⟩
    | _ => exact (show False from g2).elim
  | @lst a1 vs xs q rs =>
    have hl : RLs t a1 vs := .inl q
    cases r2 with
    | @lst a2 us ys q2 rs2 =>
      have hl2 : RLs t a2 us := .inl q2
      have wk := wk_zO (t1 := false) (t2 := false) (LAt.lst hl rs) (LAt.lst hl2 rs2)
      have sq := hl.sq
      have sq2 := hl2.sq
      rw [kk] at wk sq sq2
      exact ⟨false, false, a1, a2, vs, us, rfl, sq, sq2, Good.okI (b := (zipP xs ys, none)) g2 h2 wk⟩
    | @tup a2 us ys hl2 rs2 =>
      have wk := wk_zO (t1 := false) (t2 := true) (LAt.lst hl rs) (TAt.tup hl2 rs2)
      have sq := hl.sq
      have sq2 := hl2.sq
      rw [kk] at wk sq sq2
      exact ⟨false, true, a1, a2, vs, us, rfl, sq, sq2, Good.okI (b := (zipP xs ys, none)) g2 h2 wk⟩
    | _ => exact (show False from g2).elim
  | @ref a1 n al =>
    cases r2 with
    | @lst a2 us ys q2 rs2 =>
      dsimp only at g2
      split at g2
      · rename_i xs e4
        have hl2 : RLs t a2 us := .inl q2
        obtain ⟨vs, q1, _⟩ := LAt.ref (xs := xs) al t S2 (Ext.refl t).rm h2 e4
        have wk := wk_zO (t1 := false) (t2 := false) (LAt.ref (xs := xs) al) (LAt.lst hl2 rs2)
        have sq2 := hl2.sq
        rw [kk] at wk q1 sq2
        exact ⟨false, false, a1, a2, vs, us, rfl, q1, sq2, Good.okI (b := (zipP xs ys, some (n, xs))) g2 h2 wk⟩
      · exact g2.elim
    | @tup a2 us ys hl2 rs2 =>
      dsimp only at g2
      split at g2
      · rename_i xs e4
        obtain ⟨vs, q1, _⟩ := LAt.ref (xs := xs) al t S2 (Ext.refl t).rm h2 e4
        have wk := wk_zO (t1 := false) (t2 := true) (LAt.ref (xs := xs) al) (TAt.tup hl2 rs2)
        have sq2 := hl2.sq
        rw [kk] at wk q1 sq2
        exact ⟨false, true, a1, a2, vs, us, rfl, q1, sq2, Good.okI (b := (zipP xs ys, some (n, xs))) g2 h2 wk⟩
      · exact g2.elim
    | _ => exact (show False from g2).elim
  | _ => exact (show False from g2).elim
end
end Dg
end

section
set_option Elab.async false
set_option linter.all false
set_option maxRecDepth 100000
set_option maxHeartbeats 4000000
/-! DgJ: statements. -/
namespace Dg
open PySem PySem.Spec L2
open PyProof.Rows hiding St

def GoodS (Z : Xc) (W : WX) (D : Ends) (w : Wd) : SRes → Prop
  | .nx r S => ∀ u σ, Ext w u → At Z σ u.H u r S → D.nx σ u.H
  | .ret v S => ∀ u x, Ext w u → HRel u S → Rep u x v → D.rt x u.H
  | .brk r S => ∀ u σ, Ext w u → At Z σ u.H u r S → D.bk σ u.H
  | .ct r S => ∀ u σ, Ext w u → At Z σ u.H u r S → D.ct σ u.H
  | .exc c a r S => ∀ u σ d va, Ext w u → At Z σ u.H u r S → u.H d = some (.xd [(Z.fd c, va)]) → Rep u va a → ¬ u.phi d → W (.ref (Z.cl c)) (some d) σ u.H
  | .bad => False
theorem GoodS.mono {Z : Xc} {W : WX} {D : Ends} {w t : Wd} {x : SRes} (e : Ext w t) (g : GoodS Z W D w x) : GoodS Z W D t x := by
  cases x with
  | nx r S => exact fun u σ e2 => g u σ (e.trans e2)
  | ret v S => exact fun u x e2 => g u x (e.trans e2)
  | brk r S => exact fun u σ e2 => g u σ (e.trans e2)
  | ct r S => exact fun u σ e2 => g u σ (e.trans e2)
  | exc c a r S => exact fun u σ d va e2 => g u σ d va (e.trans e2)
  | bad => exact g
theorem GoodS.to {α β : Type} {Z : Xc} {W : WX} {D : Ends} {σ : St} {R : Wd → α → β → Prop} {w : Wd} {K : α → Hp → Prop} {res : Res β} {r : PEnv} {S : Store} {k : β → Store → SRes} {H : Hp} (a : At Z σ H w r S) (g : GoodS Z W D w (res.to r k))
    (f : ∀ u x b S1, res = .ok b S1 → Ext w u → HRel u S1 → R u x b → GoodS Z W D u (k b S1) → K x u.H) : Good Z W σ R w K res := by
  cases res with
  | ok b S1 => exact fun u x e h q => f u x b S1 rfl e h q (GoodS.mono e g)
  | exc c v S1 => exact fun u d va e h h1 h2 h3 => g u σ d va e (a.next e h) h1 h2 h3
  | bad => exact g
def TSS (Z : Xc) (W : WX) (m : MS) : TS := fun D σ H => ∃ w r S, At Z σ H w r S ∧ GoodS Z W D w (evalS Z.C m r S)
def TSSs (Z : Xc) (W : WX) (m : MSs) : TS := fun D σ H => ∃ w r S, At Z σ H w r S ∧ GoodS Z W D w (evalSs Z.C m r S)
theorem _root_.L2.PS.imp {X : Cx} {st : Stmt} {t t' : TS} (h : PS X st t) (i : ∀ D σ H, t' D σ H → t D σ H) : PS X st t' := ⟨fun pins s σ H D I q => h.run pins s σ H D I (i D σ H q)⟩
theorem _root_.L2.PSs.imp {X : Cx} {st : List Stmt} {t t' : TS} (h : PSs X st t) (i : ∀ D σ H, t' D σ H → t D σ H) : PSs X st t' := ⟨fun pins s σ H D I q => h.run pins s σ H D I (i D σ H q)⟩
theorem _root_.L2.PG.imp {X : Cx} {e : Expr} {t t' : TG} (h : PG X e t) (i : ∀ v σ H Q, t' v σ H Q → t v σ H Q) : PG X e t' := ⟨fun pins s σ H v u Q I r q => h.run pins s σ H v u Q I r (i v σ H Q q)⟩
theorem _root_.L2.PGs.imp {X : Cx} {e : List Expr} {t t' : TGs} (h : PGs X e t) (i : ∀ v σ H Q, t' v σ H Q → t v σ H Q) : PGs X e t' := ⟨fun pins s σ H v u Q I r q => h.run pins s σ H v u Q I r (i v σ H Q q)⟩

/-! ### slots -/
theorem wipe_get (σ : St) : ∀ (vs : List Nat) (j : Nat), (wipe σ vs)[j]? = if j ∈ vs then σ[j]?.map (fun _ => none) else σ[j]?
  | [], j => by simp [wipe]
  | v :: vs, j => by
    unfold wipe
    rw [List.getElem?_set, wipe_length]
    by_cases h : v = j
    · subst h
      by_cases hl : v < σ.length
      · rw [if_pos rfl, if_pos hl, if_pos (List.mem_cons_self ..), List.getElem?_eq_getElem hl]; rfl
      · rw [if_pos rfl, if_neg hl, if_pos (List.mem_cons_self ..), List.getElem?_eq_none (by omega)]; rfl
    · rw [if_neg h, wipe_get σ vs j]
      by_cases hm : j ∈ vs
      · rw [if_pos hm, if_pos (List.mem_cons_of_mem _ hm)]
      · rw [if_neg hm, if_neg (by simp only [List.mem_cons, not_or]; exact ⟨fun z => h z.symm, hm⟩)]
theorem wipe_set {σ : St} {vs : List Nat} {i : Nat} {o : Option V} (h : i ∈ vs) : wipe (σ.set i o) vs = wipe σ vs := by
  apply List.ext_getElem?
  intro j
  rw [wipe_get, wipe_get, List.getElem?_set]
  by_cases hm : j ∈ vs
  · rw [if_pos hm, if_pos hm]
    by_cases hi : i = j
    · subst hi
      by_cases hl : i < σ.length
      · rw [if_pos rfl, if_pos hl, List.getElem?_eq_getElem hl]; rfl
      · rw [if_pos rfl, if_neg hl, List.getElem?_eq_none (by omega)]
    · rw [if_neg hi]
  · rw [if_neg hm, if_neg hm, if_neg (fun z => hm (by rw [← z]; exact h))]
theorem wipe_wipe {σ : St} {vs : List Nat} : wipe (wipe σ vs) vs = wipe σ vs := by
  apply List.ext_getElem?
  intro j
  rw [wipe_get, wipe_get]
  by_cases hm : j ∈ vs
  · rw [if_pos hm, if_pos hm]; cases σ[j]? <;> rfl
  · rw [if_neg hm, if_neg hm]
/-! ### targets -/
def slT : TGT → List Nat
  | .name i => [i]
  | .tup is => is
def TGr (Z : Xc) (t : TGT) : TG := fun v σ H Q => ∃ w r S p r2, At Z σ H w r S ∧ Rep w v p ∧ bindT t p r = some r2 ∧ ∀ σ2, At Z σ2 H w r2 S → (∀ vs : List Nat, (∀ i ∈ slT t, i ∈ vs) → wipe σ2 vs = wipe σ vs) → Q σ2 H
def setsP (r : PEnv) : List Nat → List PV → PEnv
  | i :: is, x :: xs => setsP (r.set i (some x)) is xs
  | _, _ => r
theorem setsP_eq : ∀ (is : List Nat) (xs : List PV) (r : PEnv), (is.zip xs).foldl (fun r p => r.set p.1 (some p.2)) r = setsP r is xs
  | [], _, _ => by simp [setsP]
  | _ :: _, [], _ => by simp [setsP]
  | i :: is, x :: xs, r => by simp only [List.zip_cons_cons, List.foldl_cons, setsP]; exact setsP_eq is xs _
def TGsr (Z : Xc) (is : List Nat) : TGs := fun vs σ H Q => ∃ w r S ps, At Z σ H w r S ∧ Reps w vs ps ∧ ps.length = is.length ∧ ∀ σ2, At Z σ2 H w (setsP r is ps) S → (∀ vs : List Nat, (∀ i ∈ is, i ∈ vs) → wipe σ2 vs = wipe σ vs) → Q σ2 H
theorem At.set {Z : Xc} {σ : St} {H : Hp} {w : Wd} {r : PEnv} {S : Store} {v : V} {p : PV} (hx : Z.C.hx = none) (a : At Z σ H w r S) (i : Nat) (q : Rep w v p) : At Z (σ.set i (some v)) H w (r.set i (some p)) S :=
  ⟨a.H, a.K, a.e.set i q, a.h, by unfold HX; rw [hx]; trivial, a.i⟩
section
variable {X : Cx} {Z : Xc} {W : WX} {a b c e tg : Expr} {ma mb mc : ME} {pos p pos' : Pos} {x : Str} {i : Nat}
theorem snd_gname (hx : Z.C.hx = none) (hN : X.N.Nodup) (hi : X.N[i]? = some x) (hl : Loc X.env.scope x) (hf : X.fn x = true ∨ X.env.scope.names.lookup x = some .local) : PG X (.Name x pos) (TGr Z (.name i)) := by
  refine (pg_name hN hi hl hf).imp fun v σ H Q h => ?_
  obtain ⟨w, r, S, p, r2, at_, rp, e1, q⟩ := h
  cases e1
  exact q _ (at_.set hx i rp) fun vs hm => wipe_set (hm i (by simp [slT]))
theorem snd_gnil : PGs X [] (TGsr Z []) := by
  refine pgs_nil.imp fun vs σ H Q h => ?_
  obtain ⟨w, r, S, ps, at_, rp, hl, q⟩ := h
  cases ps with
  | nil => cases rp; exact ⟨rfl, q σ (by simpa [setsP] using at_) fun _ _ => rfl⟩
  | cons p ps => cases hl
theorem snd_gcons {es : List Expr} {is : List Nat} (h1 : PG X a (TGr Z (.name i))) (h2 : PGs X es (TGsr Z is)) (hs : (assignEach (a :: es) X.env).map (·.2) = assign a X.env :: (assignEach es X.env).map (·.2)) : PGs X (a :: es) (TGsr Z (i :: is)) := by
  refine (pgs_cons h1 h2 hs).imp fun vs σ H Q h => ?_
  obtain ⟨w, r, S, ps, at_, rp, hl, q⟩ := h
  cases rp with
  | nil => cases hl
  | @cons v p vs ps rv rs =>
    refine ⟨v, vs, rfl, w, r, S, p, _, at_, rv, rfl, fun σ2 at2 hw => ?_⟩
    refine ⟨w, _, S, ps, at2, rs, by simpa using hl, fun σ3 at3 hw3 => q σ3 at3 fun us hu => ?_⟩
    rw [hw3 us fun j hj => hu j (List.mem_cons_of_mem _ hj), hw us fun j hj => hu j (by simp only [slT, List.mem_singleton] at hj; rw [hj]; exact List.mem_cons_self ..)]
theorem snd_gtup {es : List Expr} {k : Nat} {is : List Nat} (hK : Z.K = X.K) (hc : X.calm = true) (h : PGs X es (TGsr Z is)) (hn : (assignEach es X.env).length = is.length) (hst : (assignEach es X.env).findIdx? (·.1) = none) : PG X (.Tuple es k pos) (TGr Z (.tup is)) := by
  refine (pg_tup (n := is.length) hc h hn hst).imp fun v σ H Q h => ?_
  obtain ⟨w, r, S, p, r2, at_, rp, e1, q⟩ := h
  cases rp with
  | @tup a vs xs ht rs =>
    unfold bindT at e1
    dsimp only at e1
    split at e1
    · rename_i hl
      cases e1
      rw [setsP_eq] at q
      refine ⟨a, vs, rfl, ?_, by rw [rs.length]; exact hl, w, r, S, xs, at_, rs, hl, fun σ2 at2 hw => q σ2 at2 hw⟩
      have sq := ht.sq
      rw [at_.K, hK, at_.H] at sq
      exact sq
    · cases e1
  | _ => exact (show False by simp [bindT] at e1).elim
/-! ### assignments -/
theorem snd_set (hx : Z.C.hx = none) (hN : X.N.Nodup) (hi : X.N[i]? = some x) (hl : Loc X.env.scope x) (he : PE X e (TI Z W ma)) (hs : swapsWith e (some (.Name x pos')) pos.line X.env = pure false) (hf : X.fn x = true ∨ X.env.scope.names.lookup x = some .local) :
    PS X (.Assign [.Name x pos'] e pos) (TSS Z W (.asg (.name i) ma)) := by
  refine (ps_set hN hi hl he hs hf).imp fun D σ H h => ?_
  obtain ⟨w, r, S, at_, g⟩ := h
  rw [evalS] at g
  refine ⟨w, r, S, at_, GoodS.to at_ g fun u v p S1 he e1 h1 r1 g1 => ?_⟩
  exact g1 u _ (Ext.refl u) ((at_.next e1 h1).set hx i r1)
theorem snd_asg {t : TGT} (he : PE X e (TI Z W ma)) (hg : PG X tg (TGr Z t)) (hs : swapsWithSole [tg] e pos.line X.env = pure false) (hw : swappedStores [tg] e X.env = pure none) (h1 : (assignEach [tg] X.env).map (·.2) = [assign tg X.env]) :
    PS X (.Assign [tg] e pos) (TSS Z W (.asg t ma)) := by
  refine (ps_asg he hg hs hw h1).imp fun D σ H h => ?_
  obtain ⟨w, r, S, at_, g⟩ := h
  rw [evalS] at g
  refine ⟨w, r, S, at_, GoodS.to at_ g fun u v p S1 he e1 h1 r1 g1 => ?_⟩
  cases q : bindT t p r with
  | none => rw [q] at g1; exact g1.elim
  | some r2 =>
    rw [q] at g1
    exact ⟨u, r, S1, p, r2, at_.next e1 h1, r1, q, fun σ2 at2 _ => g1 u σ2 (Ext.refl u) at2⟩
theorem snd_par {i j : Nat} {x y : Str} {px py pt : Pos} {kt k2 : Nat} {pt2 : Pos} (hx : Z.C.hx = none) (hc : X.calm = true) (hN : X.N.Nodup) (hi : X.N[i]? = some x) (hj : X.N[j]? = some y) (hij : i ≠ j)
    (hlx : X.env.scope.names.lookup x = some .local) (hly : X.env.scope.names.lookup y = some .local) (ha : PA X [a, b] (TIA Z W (.cons ma (.cons mb .nil))))
    (hw : swappedStores [.Tuple [.Name x px, .Name y py] kt pt] (.Tuple [a, b] k2 pt2) X.env = pure (some [x, y])) (hs : swapsWithSole [.Tuple [.Name x px, .Name y py] kt pt] (.Tuple [a, b] k2 pt2) pos.line X.env = pure false) :
    PS X (.Assign [.Tuple [.Name x px, .Name y py] kt pt] (.Tuple [a, b] k2 pt2) pos) (TSS Z W (.asg (.tup [i, j]) (.tup (.cons ma (.cons mb .nil))))) := by
  refine (ps_par hc hN hi hj hij hlx hly ha hw hs).imp fun D σ H h => ?_
  obtain ⟨w, r, S, at_, g⟩ := h
  rw [evalS, evalE] at g
  refine ⟨w, r, S, at_, ?_⟩
  have key : ∀ (res : Res (List PV)), GoodS Z W D w ((res.bind fun vs S1 => if vs.length ≤ sizeLine then Res.ok (PV.tup vs) S1 else Res.bad).to r fun v S1 => match bindT (.tup [i, j]) v r with
      | some r2 => SRes.nx r2 S1
      | none => .bad) → (∀ q S1, res = .ok q S1 → q.length = 2) → Good Z W σ Reps w (fun vs H1 => ∃ v w, vs = [v, w] ∧ D.nx ((σ.set i (some v)).set j (some w)) H1) res := fun res g hl => by
    cases res with
    | bad => exact g
    | exc c v S1 => exact fun u d va e h h1 h2 h3 => g u σ d va e (at_.next e h) h1 h2 h3
    | ok q S1 =>
      have h2 := hl q S1 rfl
      match q, h2 with
      | [p1, p2], _ =>
        intro u vs e1 h1 rs
        obtain ⟨v1, v2, rfl, r1, r2⟩ := two_arg rs
        rw [Res.bind_ok, if_pos (show [p1, p2].length ≤ sizeLine by rw [sizeLine_eq]; show 2 ≤ _; omega), Res.to_ok] at g
        exact ⟨v1, v2, rfl, g u _ e1 (((at_.next e1 h1).set hx i r1).set hx j r2)⟩
  exact key _ g fun q S1 he => evalEs_len he
theorem snd_par3 {i j l : Nat} {x y z : Str} {px py pz pt : Pos} {kt k2 : Nat} {pt2 : Pos} (hx : Z.C.hx = none) (hc : X.calm = true) (hN : X.N.Nodup) (hi : X.N[i]? = some x) (hj : X.N[j]? = some y) (hl : X.N[l]? = some z) (hij : i ≠ j) (hil : i ≠ l) (hjl : j ≠ l)
    (hlx : X.env.scope.names.lookup x = some .local) (hly : X.env.scope.names.lookup y = some .local) (hlz : X.env.scope.names.lookup z = some .local) (ha : PA X [a, b, c] (TIA Z W (.cons ma (.cons mb (.cons mc .nil)))))
    (hw : swappedStores [.Tuple [.Name x px, .Name y py, .Name z pz] kt pt] (.Tuple [a, b, c] k2 pt2) X.env = pure (some [x, y, z])) (hs : swapsWithSole [.Tuple [.Name x px, .Name y py, .Name z pz] kt pt] (.Tuple [a, b, c] k2 pt2) pos.line X.env = pure false) :
    PS X (.Assign [.Tuple [.Name x px, .Name y py, .Name z pz] kt pt] (.Tuple [a, b, c] k2 pt2) pos) (TSS Z W (.asg (.tup [i, j, l]) (.tup (.cons ma (.cons mb (.cons mc .nil)))))) := by
  refine (ps_par3 hc hN hi hj hl hij hil hjl hlx hly hlz ha hw hs).imp fun D σ H h => ?_
  obtain ⟨w, r, S, at_, g⟩ := h
  rw [evalS, evalE] at g
  refine ⟨w, r, S, at_, ?_⟩
  have key : ∀ (res : Res (List PV)), GoodS Z W D w ((res.bind fun vs S1 => if vs.length ≤ sizeLine then Res.ok (PV.tup vs) S1 else Res.bad).to r fun v S1 => match bindT (.tup [i, j, l]) v r with
      | some r2 => SRes.nx r2 S1
      | none => .bad) → (∀ q S1, res = .ok q S1 → q.length = 3) → Good Z W σ Reps w (fun vs H1 => ∃ u v w, vs = [u, v, w] ∧ D.nx (((σ.set i (some u)).set j (some v)).set l (some w)) H1) res := fun res g hl => by
    cases res with
    | bad => exact g
    | exc c v S1 => exact fun u d va e h h1 h2 h3 => g u σ d va e (at_.next e h) h1 h2 h3
    | ok q S1 =>
      have h2 := hl q S1 rfl
      match q, h2 with
      | [p1, p2, p3], _ =>
        intro u vs e1 h1 rs
        cases rs with
        | cons r1 rs =>
          obtain ⟨v1, v2, rfl, r2, r3⟩ := two_arg rs
          rw [Res.bind_ok, if_pos (show [p1, p2, p3].length ≤ sizeLine by rw [sizeLine_eq]; show 3 ≤ _; omega), Res.to_ok] at g
          exact ⟨_, v1, v2, rfl, g u _ e1 ((((at_.next e1 h1).set hx i r1).set hx j r2).set hx l r3)⟩
  exact key _ g fun q S1 he => evalEs_len he
end
end Dg
end

section
set_option Elab.async false
set_option linter.all false
set_option maxRecDepth 100000
set_option maxHeartbeats 4000000
/-! DgK: stores, branches, loops. -/
namespace Dg
open PySem PySem.Spec L2
open PyProof.Rows hiding St

theorem RepK.any {κ : Type} [DecidableEq κ] {w : Wd} (k : κ) : ∀ {vs : List (κ × V)} {xs : List (κ × PV)}, RepK w vs xs → (vs.any fun kv => decide (kv.1 = k)) = xs.any fun kv => decide (kv.1 = k)
  | _, _, .nil => rfl
  | _, _, .cons _ r => by rw [List.any_cons, List.any_cons, RepK.any k r]
theorem RepK.mapPut {κ : Type} [DecidableEq κ] {w : Wd} {k : κ} {v : V} {x : PV} (h : Rep w v x) : ∀ {vs : List (κ × V)} {xs : List (κ × PV)}, RepK w vs xs → RepK w (vs.map fun kv => if kv.1 = k then (kv.1, v) else kv) (xs.map fun kv => if kv.1 = k then (kv.1, x) else kv)
  | _, _, .nil => .nil
  | _, _, @RepK.cons _ _ k' v' x' vs xs q r => by
    rw [List.map_cons, List.map_cons]
    by_cases e : k' = k
    · rw [if_pos (show (k', v').1 = k from e), if_pos (show (k', x').1 = k from e)]; exact .cons h (RepK.mapPut h r)
    · rw [if_neg (show ¬ (k', v').1 = k from e), if_neg (show ¬ (k', x').1 = k from e)]; exact .cons q (RepK.mapPut h r)
theorem RepK.snoc {κ : Type} {w : Wd} {k : κ} {v : V} {x : PV} (h : Rep w v x) : ∀ {vs : List (κ × V)} {xs : List (κ × PV)}, RepK w vs xs → RepK w (vs ++ [(k, v)]) (xs ++ [(k, x)])
  | _, _, .nil => .cons h .nil
  | _, _, .cons q r => .cons q (RepK.snoc h r)
theorem RepK.put {κ : Type} [DecidableEq κ] {w : Wd} {k : κ} {v : V} {x : PV} {vs : List (κ × V)} {xs : List (κ × PV)} (h : Rep w v x) (r : RepK w vs xs) : RepK w (L2.putK vs k v) (Dg.putK k x xs) := by
  unfold L2.putK Dg.putK
  rw [r.any k]
  by_cases c : (xs.any fun kv => decide (kv.1 = k)) = true
  · rw [if_pos c, if_pos c]; exact r.mapPut h
  · rw [if_neg c, if_neg c]; exact r.snoc h
def rSetG (K : PySem.W.Frag) : TSet := fun o i v H Q => ∃ w S po pi pv, w.H = H ∧ w.K = K ∧ HRel w S ∧ Rep w o po ∧ Rep w i pi ∧ Rep w v pv ∧ ∃ S4, setP po pi pv S = some S4 ∧ ∀ u, Ext w u → HRel u S4 → Q u.H
theorem set_any {X : Cx} {K : PySem.W.Frag} (hu : X.A.units + 1 < cLine) : PSet X (rSetG K) := by
  intro pins s σ H o i v ov iv u Q I ro ri rv ⟨w, S, po, pi, pv, hw, hk, hr, r1, r2, r3, S4, hs, q⟩
  subst hw
  unfold setP at hs
  split at hs
  · rename_i n
    cases r1 with
    | @ref a _ al =>
    split at hs
    · rename_i xs e
      split at hs
      · rename_i k
        split at hs
        · rename_i j hj
          cases hs
          cases r2
          obtain ⟨a', h1, vs, h2, h3⟩ := hr.at_ e
          rw [al] at h1; cases h1
          obtain ⟨h4, e4⟩ := hr.write (o := .lst (vs.set j v)) (m := .lst (xs.set j pv)) al fun t et ht => ⟨_, ht, Reps.set (r3.mono et) j (h3.mono et)⟩
          exact set_list pins s σ _ _ _ v ov iv u Q I ro ri rv ⟨a, vs, k, j, rfl, rfl, h2, by rw [h3.length]; exact hj, q _ e4 h4⟩
        · cases hs
      · cases hs
    · rename_i kvs e
      split at hs
      · rename_i k ek
        split at hs
        · rename_i hz
          cases hs
          have ex := r2.key ek
          subst ex
          obtain ⟨a', h1, ws, h2, h3⟩ := hr.at_ e
          rw [al] at h1; cases h1
          obtain ⟨h4, e4⟩ := hr.write (o := .dK (L2.putK ws k v)) (m := .dct (Dg.putK k pv kvs)) al fun t et ht => ⟨_, ht, RepK.put (r3.mono et) (h3.mono et)⟩
          exact set_dict hu pins s σ _ _ _ v ov iv u Q I ro ri rv ⟨a, _, rfl, DPut.k h2 (by rw [h3.length]; exact hz), q _ e4 h4⟩
        · cases hs
      · cases hs
    · cases hs
  · cases hs
section
variable {X : Cx} {Z : Xc} {W : WX} {a b c e tg : Expr} {ma mb mc : ME} {pos p pos' : Pos} {x : Str} {i : Nat}
/-- o[i] = e -/
theorem snd_setix (hu : X.A.units + 1 < cLine) (he : PE X e (TI Z W mc)) (ho : PE X a (TI Z W ma)) (hi : PE X b (TI Z W mb)) (hs : swapsWithSole [.Subscript a b pos'] e pos.line X.env = pure false) (hw : swappedStores [.Subscript a b pos'] e X.env = pure none)
    (ha : ∀ v, assign (.Subscript a b pos') X.env v = (do
      let ov ← holding [v] (eval a X.env)
      let iv ← holding [v, ov] (eval b X.env)
      standAt pos'
      holding [v, ov, iv] (setItem ov iv v)
      release [v, ov, iv] [])) (h1 : (assignEach [.Subscript a b pos'] X.env).map (·.2) = [assign (.Subscript a b pos') X.env]) : PS X (.Assign [.Subscript a b pos'] e pos) (TSS Z W (.setix ma mb mc)) := by
  refine (ps_asg he (pg_sub ho hi (set_any (K := Z.K) hu) ha) hs hw h1).imp fun D σ H h => ?_
  obtain ⟨w, r, S, at_, g⟩ := h
  rw [evalS] at g
  refine ⟨w, r, S, at_, GoodS.to at_ g fun u v p S1 he e1 h1 r1 g1 => ?_⟩
  have a1 := at_.next e1 h1
  refine ⟨u, r, S1, a1, GoodS.to a1 g1 fun u2 v2 p2 S2 he2 e2 h2 r2 g2 => ?_⟩
  have a2 := a1.next e2 h2
  refine ⟨u2, r, S2, a2, GoodS.to a2 g2 fun u3 v3 p3 S3 he3 e3 h3 r3 g3 => ?_⟩
  have a3 := a2.next e3 h3
  cases q : setP p2 p3 p S3 with
  | none => rw [q] at g3; exact g3.elim
  | some S4 =>
    rw [q] at g3
    exact ⟨u3, S3, p2, p3, p, rfl, a3.K, h3, r2.mono e3, r3, (r1.mono e2).mono e3, S4, q, fun u4 e4 h4 => g3 u4 σ e4 (a3.next e4 h4)⟩
/-! ### several targets, names and places -/
def TMs (Z : Xc) (W : WX) (ts : List MT) : TGs := fun vs σ H Q => ∃ w r S ps D, At Z σ H w r S ∧ Reps w vs ps ∧ GoodS Z W D w (evalGs Z.C ts ps r S) ∧ ∀ σ H, D.nx σ H → Q σ H
theorem snd_mnil : PGs X [] (TMs Z W []) := by
  refine pgs_nil.imp fun vs σ H Q h => ?_
  obtain ⟨w, r, S, ps, D, at_, rp, g, q⟩ := h
  cases rp with
  | nil =>
    rw [evalGs] at g
    have e := at_.H
    subst e
    exact ⟨rfl, q _ _ (g w σ (Ext.refl w) at_)⟩
  | cons _ _ => exact (show False by simpa [evalGs, GoodS] using g).elim
theorem snd_mname {es : List Expr} {ts : List MT} (hx : Z.C.hx = none) (hN : X.N.Nodup) (hi : X.N[i]? = some x) (hl : Loc X.env.scope x) (hf : X.fn x = true ∨ X.env.scope.names.lookup x = some .local) (h2 : PGs X es (TMs Z W ts))
    (hs : (assignEach (.Name x p :: es) X.env).map (·.2) = assign (.Name x p) X.env :: (assignEach es X.env).map (·.2)) : PGs X (.Name x p :: es) (TMs Z W (.name i :: ts)) := by
  refine (pgs_cons (pg_name hN hi hl hf) h2 hs).imp fun vs σ H Q h => ?_
  obtain ⟨w, r, S, ps, D, at_, rp, g, q⟩ := h
  cases rp with
  | nil => exact (show False by simpa [evalGs, GoodS] using g).elim
  | @cons v p1 vs ps rv rs =>
    rw [evalGs] at g
    exact ⟨v, vs, rfl, w, _, S, ps, D, at_.set hx i rv, rs, g, q⟩
theorem snd_msub {es : List Expr} {ts : List MT} (hu : X.A.units + 1 < cLine) (ho : PE X a (TI Z W ma)) (hi : PE X b (TI Z W mb)) (h2 : PGs X es (TMs Z W ts))
    (ha : ∀ v, assign (.Subscript a b pos') X.env v = (do
      let ov ← holding [v] (eval a X.env)
      let iv ← holding [v, ov] (eval b X.env)
      standAt pos'
      holding [v, ov, iv] (setItem ov iv v)
      release [v, ov, iv] []))
    (hs : (assignEach (.Subscript a b pos' :: es) X.env).map (·.2) = assign (.Subscript a b pos') X.env :: (assignEach es X.env).map (·.2)) : PGs X (.Subscript a b pos' :: es) (TMs Z W (.sub ma mb :: ts)) := by
  refine (pgs_cons (pg_sub ho hi (set_any (K := Z.K) hu) ha) h2 hs).imp fun vs σ H Q h => ?_
  obtain ⟨w, r, S, ps, D, at_, rp, g, q⟩ := h
  cases rp with
  | nil => exact (show False by simpa [evalGs, GoodS] using g).elim
  | @cons v p1 vs ps rv rs =>
    rw [evalGs] at g
    refine ⟨v, vs, rfl, w, r, S, at_, GoodS.to at_ g fun u2 v2 p2 S2 he2 e2 h2 r2 g2 => ?_⟩
    have a2 := at_.next e2 h2
    refine ⟨u2, r, S2, a2, GoodS.to a2 g2 fun u3 v3 p3 S3 he3 e3 h3 r3 g3 => ?_⟩
    have a3 := a2.next e3 h3
    cases qq : setP p2 p3 p1 S3 with
    | none => rw [qq] at g3; exact g3.elim
    | some S4 =>
      rw [qq] at g3
      refine ⟨u3, S3, p2, p3, p1, rfl, a3.K, h3, r2.mono e3, r3, (rv.mono e2).mono e3, S4, qq, fun u4 e4 h4 => ?_⟩
      exact ⟨u4, r, S4, ps, D, a3.next e4 h4, ((rs.mono e2).mono e3).mono e4, GoodS.mono e4 g3, q⟩
/-- (t1, t2, ..) = e, not swapped -/
theorem snd_unp {es : List Expr} {ts : List MT} {k : Nat} {tp : Pos} (hK : Z.K = X.K) (hc : X.calm = true) (he : PE X e (TI Z W ma)) (hg : PGs X es (TMs Z W ts)) (hn : (assignEach es X.env).length = ts.length) (hst : (assignEach es X.env).findIdx? (·.1) = none)
    (hs : swapsWithSole [.Tuple es k tp] e pos.line X.env = pure false) (hw : swappedStores [.Tuple es k tp] e X.env = pure none) (h1 : (assignEach [.Tuple es k tp] X.env).map (·.2) = [assign (.Tuple es k tp) X.env]) :
    PS X (.Assign [.Tuple es k tp] e pos) (TSS Z W (.unp ts ma)) := by
  refine (ps_asg he (pg_tup (n := ts.length) hc hg hn hst) hs hw h1).imp fun D σ H h => ?_
  obtain ⟨w, r, S, at_, g⟩ := h
  rw [evalS] at g
  refine ⟨w, r, S, at_, GoodS.to at_ g fun u v p S1 he e1 h1 r1 g1 => ?_⟩
  cases r1 with
  | @tup a vs xs ht rs =>
    dsimp only at g1
    have sq := ht.sq
    rw [e1.k.trans (at_.K.trans hK)] at sq
    split at g1
    · rename_i hl
      exact ⟨a, vs, rfl, sq, by rw [rs.length]; exact hl, u, r, S1, xs, D, at_.next e1 h1, rs, g1, fun _ _ z => z⟩
    · exact g1.elim
  | _ => exact (show False from g1).elim
/-! ### plain statements -/
theorem snd_ex (he : PE X e (TI Z W ma)) (hs : swapsWith e none pos.line X.env = pure false) : PS X (.Expr e pos) (TSS Z W (.ex ma)) := by
  refine (ps_expr he hs).imp fun D σ H h => ?_
  obtain ⟨w, r, S, at_, g⟩ := h
  rw [evalS] at g
  exact ⟨w, r, S, at_, GoodS.to at_ g fun u v p S1 he e1 h1 r1 g1 => g1 u σ (Ext.refl u) (at_.next e1 h1)⟩
theorem snd_ret (he : PE X e (TI Z W ma)) : PS X (.Return (some e) pos) (TSS Z W (.ret ma)) := by
  refine (ps_ret he).imp fun D σ H h => ?_
  obtain ⟨w, r, S, at_, g⟩ := h
  rw [evalS] at g
  exact ⟨w, r, S, at_, GoodS.to at_ g fun u v p S1 he e1 h1 r1 g1 => g1 u v (Ext.refl u) h1 r1⟩
theorem snd_pass : PS X (.Pass pos) (TSS Z W .pass) := by
  refine ps_pass.imp fun D σ H h => ?_
  obtain ⟨w, r, S, at_, g⟩ := h
  rw [evalS] at g
  have e := at_.H; subst e
  exact g w σ (Ext.refl w) at_
theorem snd_brk : PS X (.Break pos) (TSS Z W .brk) := by
  refine ps_break.imp fun D σ H h => ?_
  obtain ⟨w, r, S, at_, g⟩ := h
  rw [evalS] at g
  have e := at_.H; subst e
  exact g w σ (Ext.refl w) at_
theorem snd_cont : PS X (.Continue pos) (TSS Z W .cont) := by
  refine ps_continue.imp fun D σ H h => ?_
  obtain ⟨w, r, S, at_, g⟩ := h
  rw [evalS] at g
  have e := at_.H; subst e
  exact g w σ (Ext.refl w) at_
theorem snd_nil : PSs X [] (TSSs Z W .nil) := by
  refine pss_nil.imp fun D σ H h => ?_
  obtain ⟨w, r, S, at_, g⟩ := h
  rw [evalSs] at g
  have e := at_.H; subst e
  exact g w σ (Ext.refl w) at_
theorem snd_cons {s1 : Stmt} {rest : List Stmt} {m : MS} {ms : MSs} (h1 : PS X s1 (TSS Z W m)) (h2 : PSs X rest (TSSs Z W ms)) : PSs X (s1 :: rest) (TSSs Z W (.cons m ms)) := by
  refine (pss_cons h1 h2).imp fun D σ H h => ?_
  obtain ⟨w, r, S, at_, g⟩ := h
  rw [evalSs] at g
  refine ⟨w, r, S, at_, ?_⟩
  cases q : evalS Z.C m r S with
  | bad => rw [q] at g; exact g
  | nx r2 S2 => rw [q, SRes.seq_nx] at g; exact fun u σ2 e2 a2 => ⟨u, r2, S2, a2, GoodS.mono e2 g⟩
  | ret v S2 => rw [q] at g; exact g
  | brk r2 S2 => rw [q] at g; exact g
  | ct r2 S2 => rw [q] at g; exact g
  | exc c v r2 S2 => rw [q] at g; exact g
theorem snd_if {sa sb : List Stmt} {m1 m2 : MSs} (hc : PT X c (TIT Z W mc)) (ha : PSs X sa (TSSs Z W m1)) (hb : PSs X sb (TSSs Z W m2)) : PS X (.If c sa sb pos) (TSS Z W (.ifS mc m1 m2)) := by
  refine (ps_if hc ha hb).imp fun D σ H h => ?_
  obtain ⟨w, r, S, at_, g⟩ := h
  rw [evalS] at g
  refine ⟨w, r, S, at_, GoodS.to at_ g fun u v p S1 he e1 h1 r1 g1 => ?_⟩
  subst r1
  cases v with
  | true => exact ⟨u, r, S1, at_.next e1 h1, g1⟩
  | false => exact ⟨u, r, S1, at_.next e1 h1, g1⟩
/-! ### loops -/
theorem snd_while {body : List Stmt} {ms : MSs} (hp : PassesOwn (model X.prog X.w) X.A X.env X.xe) (hc : PT X c (TIT Z W mc)) (hb : PSs X body (TSSs Z W ms)) : PS X (.While c body [] pos) (TSS Z W (.whileS mc ms)) := by
  refine (ps_while hp hc hb).imp fun D σ H h => ?_
  obtain ⟨w, r, S, at_, g⟩ := h
  rw [evalS] at g
  have hb : whileR (fun r2 S2 => evalT Z.C mc r2 S2) (fun r2 S2 => evalSs Z.C ms r2 S2) r S ≠ .bad := fun z => by rw [z] at g; exact g
  obtain ⟨n, hn⟩ := whileR_bad hb
  rw [← hn] at g
  refine ⟨fun m σ H => ∃ v r S, At Z σ H v r S ∧ GoodS Z W D v (whileN (fun r2 S2 => evalT Z.C mc r2 S2) (fun r2 S2 => evalSs Z.C ms r2 S2) m r S), ⟨n, w, r, S, at_, g⟩, ?_⟩
  rintro m σ H ⟨w, r, S, at_, g⟩
  cases m with
  | zero => exact g.elim
  | succ m =>
    unfold whileN at g
    refine ⟨w, r, S, at_, GoodS.to at_ g fun u v p S1 he e1 h1 r1 g1 => ?_⟩
    subst r1
    have a1 := at_.next e1 h1
    cases v with
    | false => exact g1 u σ (Ext.refl u) a1
    | true =>
      refine ⟨fun σ H => ∃ v r S, At Z σ H v r S ∧ GoodS Z W D v (whileN (fun r2 S2 => evalT Z.C mc r2 S2) (fun r2 S2 => evalSs Z.C ms r2 S2) m r S), fun σ' H' q => ⟨m, Nat.lt_succ_self m, q⟩, u, r, S1, a1, ?_⟩
      simp only [if_true] at g1
      cases q : evalSs Z.C ms r S1 with
      | bad => rw [q] at g1; exact g1
      | nx r2 S2 => rw [q] at g1; exact fun t σ2 e2 a2 => ⟨t, r2, S2, a2, GoodS.mono e2 g1⟩
      | ct r2 S2 => rw [q] at g1; exact fun t σ2 e2 a2 => ⟨t, r2, S2, a2, GoodS.mono e2 g1⟩
      | ret v S2 => rw [q] at g1; exact g1
      | brk r2 S2 => rw [q] at g1; exact g1
      | exc c v r2 S2 => rw [q] at g1; exact g1
open Classical in
theorem snd_for {iter : Expr} {body : List Stmt} {ms : MSs} {it : IT} {t : TGT} (hp : PassesOwn (model X.prog X.w) X.A X.env X.xe) (hc : X.calm = true) (hi : PI X tg iter (TII Z W it)) (hg : PG X tg (TGr Z t)) (hb : PSs X body (TSSs Z W ms))
    (hs : ∀ x, foldedSetIterable iter X.env x = pure x) : PS X (.For tg iter body [] pos) (TSS Z W (.forS t it ms)) := by
  refine (ps_for hp hc hi hg hb hs).imp fun D σ H h => ?_
  obtain ⟨w, r, S, at_, g⟩ := h
  rw [evalS] at g
  refine ⟨w, r, S, at_, GoodS.to at_ g fun u J p S1 he e1 h1 wk g1 => ?_⟩
  have hgd := evalI_grd he
  have a1 := at_.next e1 h1
  let Pv : Nat → St → Hp → Prop := fun i σ H => ∃ v r S, Ext u v ∧ At Z σ H v r S ∧ Grd p.2 S ∧ GoodS Z W D v (forL t (fun r2 S2 => evalSs Z.C ms r2 S2) p.2 (p.1.drop i) r S)
  refine ⟨fun i m σ H => m = p.1.length - i ∧ i ≤ p.1.length ∧ Pv i σ H, ⟨p.1.length, by simp, Nat.zero_le _, u, r, S1, Ext.refl u, a1, hgd, by simpa using g1⟩, ?_⟩
  rintro i m σ H ⟨rfl, hi, v, r, S, ev, at_, hgd, g⟩
  have eH := at_.H
  subst eH
  by_cases hlt : i < p.1.length
  · refine .inr ⟨wk.goes v S i ev.rm at_.h hgd hlt, Pv (i + 1), fun σ' H' p' => ⟨p.1.length - (i + 1), by omega, rfl, hlt, p'⟩, fun x H' y => ?_⟩
    obtain ⟨v', q, eq1, e2, h2, hq, rq⟩ := wk.yields v S i x H' ev.rm at_.h hgd hlt y
    subst eq1
    have hd : p.1.drop i = q :: p.1.drop (i + 1) := by
      obtain ⟨hl2, hq2⟩ := List.getElem?_eq_some_iff.mp hq
      rw [List.drop_eq_getElem_cons hl2, hq2]
    rw [hd] at g
    unfold forL at g
    cases hbt : bindT t q r with
    | none => rw [hbt] at g; exact g.elim
    | some r2 =>
      rw [hbt] at g
      dsimp only at g
      have at2 := at_.next e2 h2
      refine ⟨v', r, S, q, r2, at2, rq, hbt, fun σ2 at3 _ => ⟨v', r2, S, at3, ?_⟩⟩
      have nx : ∀ {r3 S3}, GoodS Z W D v (if Grd p.2 S3 then forL t (fun r2 S2 => evalSs Z.C ms r2 S2) p.2 (p.1.drop (i + 1)) r3 S3 else .bad) → ∀ (t : Wd) (σ : St), Ext v' t → At Z σ t.H t r3 S3 → Pv (i + 1) σ t.H := fun {r3 S3} g t σ et a3 => by
        split at g
        · rename_i hg3
          exact ⟨t, r3, S3, (ev.trans e2).trans et, a3, hg3, GoodS.mono (e2.trans et) g⟩
        · exact g.elim
      cases hq3 : evalSs Z.C ms r2 S with
      | bad => rw [hq3] at g; exact g
      | nx r3 S3 => rw [hq3] at g; exact nx g
      | ct r3 S3 => rw [hq3] at g; exact nx g
      | ret v3 S3 => rw [hq3] at g; exact GoodS.mono (D := D) (x := .ret v3 S3) e2 g
      | brk r3 S3 => rw [hq3] at g; exact GoodS.mono (D := D) (x := .nx r3 S3) e2 g
      | exc c v3 r3 S3 => rw [hq3] at g; exact GoodS.mono (D := D) (x := .exc c v3 r3 S3) e2 g
  · have e : i = p.1.length := by omega
    subst e
    refine .inl ⟨wk.stops v S ev.rm at_.h hgd, ?_⟩
    rw [List.drop_length] at g
    unfold forL at g
    exact g v σ (Ext.refl v) at_
end
end Dg
end

section
set_option Elab.async false
set_option linter.all false
set_option maxRecDepth 100000
set_option maxHeartbeats 4000000
/-! DgL: comprehensions, displays of dicts. -/
namespace Dg
open PySem PySem.Spec L2
open PyProof.Rows hiding St

abbrev WF : WX := fun _ _ _ _ => False
def TIC (Z : Xc) (W : WX) (m : MEo) : TT := fun σ H Q => ∃ w r S, At Z σ H w r S ∧ Good Z W σ (fun _ b b' => b = b') w Q (evalC Z.C m r S)
/-- the new list stands aside -/
def Wd.hide (w : Wd) (D : Addr) (o : HO) : Wd := { w with phi := fun a => w.phi a ∨ a = D, H := upd w.H D o }
theorem HRel.notTb {w : Wd} {S : Store} (h : HRel w S) {D : Addr} (hD : w.H D = none) : ∀ p ∈ w.tb, p.1 ≠ D := fun p hp z => by
  obtain ⟨o, ho⟩ := h.t.some_ hp
  rw [z, hD] at ho; cases ho
theorem nCo_lst {vs : List V} : nCo (.lst vs) := fun c q z => by unfold LamX.CodeO at z; cases z
theorem nCo_dK {vs : List (Key × V)} : nCo (.dK vs) := fun c q z => by unfold LamX.CodeO at z; cases z
theorem hide_ext {w : Wd} {S : Store} (h : HRel w S) {D : Addr} {o : HO} (hD : w.H D = none) (hn : nCo o) : Ext w (w.hide D o) ∧ HRel (w.hide D o) S := by
  have e : Ext w (w.hide D o) := by
    refine ⟨rfl, ⟨[], by simp [Wd.hide], fun a h => absurd h (by simp)⟩, fun a q => .inl q, fun a u q _ _ => ?_, fun a q n => ?_, fun a q _ _ => ?_, rfl, rfl⟩
    · show upd w.H D o a = some u
      rw [upd_ne (ne_of_none q hD)]; exact q
    · rcases q with q | q
      · exact absurd q n
      · rw [q]; exact .of hD
    · obtain ⟨z, hz⟩ := h.dom a q
      show upd w.H D o a = _
      rw [upd_ne (ne_of_none hz hD)]
  refine ⟨e, h.len, h.nd, fun a q => .inl (h.phi a q), fun a q => ?_, fun n a m h1 h2 => ?_, ?_⟩
  · rcases q with q | q
    · obtain ⟨z, hz⟩ := h.dom a q
      exact ⟨z, by show upd w.H D o a = _; rw [upd_ne (ne_of_none hz hD)]; exact hz⟩
    · exact ⟨o, by rw [q]; exact upd_same⟩
  · have mm := h.objs n a m h1 h2
    obtain ⟨z, hz⟩ := mm.there
    exact mm.mono e (by show upd w.H D o a = _; rw [upd_ne (ne_of_none hz hD)])
  · have kk : ∀ a u, w.H a = some u → (w.hide D o).H a = some u := fun a u q => by
      show upd w.H D o a = some u
      rw [upd_ne (ne_of_none q hD)]; exact q
    refine h.t.same rfl (fun a _ z => z) (fun a q => .inl q) (fun a u q => ⟨fun _ _ _ => kk a u q, fun _ => kk a u q⟩) fun a u q z => ?_
    rcases q with q | q
    · obtain ⟨v, hv⟩ := h.dom a q
      rw [kk a v hv] at z
      cases z
      exact h.t.nc a _ q hv
    · subst q
      have z' : upd w.H a o a = some u := z
      rw [upd_same] at z'
      cases z'
      exact hn
/-- a hidden list, ahead -/
structure Hid (u : Wd) (D : Addr) (v : Wd) (S : Store) (acc : List V) (accP : List PV) : Prop where
  e : Ext u v
  phi : v.phi D
  nal : D ∉ v.al
  at_ : v.H D = some (.lst acc)
  h : HRel v S
  r : Reps v acc accP
  nt : ∀ p ∈ v.tb, p.1 ≠ D
theorem Hid.begin {u : Wd} {S : Store} (h : HRel u S) {D : Addr} (hD : u.H D = none) : Hid u D (u.hide D (.lst [])) S [] [] :=
  ⟨(hide_ext h hD nCo_lst).1, .inr rfl, h.notAl hD, upd_same, (hide_ext h hD nCo_lst).2, .nil, h.notTb hD⟩
theorem Hid.next {u v t : Wd} {D : Addr} {S S2 : Store} {acc : List V} {accP : List PV} (a : Hid u D v S acc accP) (e : Ext v t) (h : HRel t S2) : Hid u D t S2 acc accP := by
  refine ⟨a.e.trans e, e.phi D a.phi, fun hm => ?_, (e.hid D a.phi a.nal a.nt).trans a.at_, h, a.r.mono e, by rw [e.tb]; exact a.nt⟩
  obtain ⟨b, hb, nb⟩ := e.al
  rw [hb] at hm
  rcases List.mem_append.mp hm with z | z
  · exact a.nal z
  · exact (nb D z).1 a.phi
theorem Hid.push {u v : Wd} {D : Addr} {S S0 : Store} {acc : List V} {accP : List PV} {y : V} {p : PV} (h0 : HRel u S0) (a : Hid u D v S acc accP) (hD : u.H D = none) (r : Rep v y p) :
    Hid u D { v with H := upd v.H D (.lst (acc ++ [y])) } S (acc ++ [y]) (accP ++ [p]) := by
  have rm : RM v { v with H := upd v.H D (.lst (acc ++ [y])) } := ⟨rfl, fun _ _ z => z, fun b o q _ n => ⟨by
    show upd v.H D _ b = _
    rw [upd_ne (fun z => n (by rw [z]; exact a.phi))]; exact q, n⟩, rfl⟩
  refine ⟨⟨a.e.k, a.e.al, a.e.phi, fun b o q t n => ?_, a.e.new, fun b q n t => ?_, a.e.tb, a.e.tf⟩, a.phi, a.nal, upd_same, ⟨a.h.len, a.h.nd, a.h.phi, fun b q => ?_, fun n b m h1 h2 => ?_, ?_⟩, (a.r.snoc r).monoR rm, a.nt⟩
  · show upd v.H D _ b = _
    rw [upd_ne (ne_of_none q hD)]; exact a.e.keep b o q t n
  · obtain ⟨z, hz⟩ := h0.dom b q
    show upd v.H D _ b = _
    rw [upd_ne (ne_of_none hz hD)]; exact a.e.hid b q n t
  · by_cases e : b = D
    · exact ⟨_, by rw [e]; exact upd_same⟩
    · obtain ⟨z, hz⟩ := a.h.dom b q
      exact ⟨z, by show upd v.H D _ b = _; rw [upd_ne e]; exact hz⟩
  · have hb : b ≠ D := fun z => a.nal (by rw [← z]; exact List.mem_of_getElem? h1)
    exact (a.h.objs n b m h1 h2).monoR rm (by show upd v.H D _ b = _; rw [upd_ne hb])
  · refine a.h.t.same rfl (fun b _ z => z) (fun b q => q) (fun b u q => ⟨fun p hp z => ?_, fun ⟨c, x, z⟩ => ?_⟩) fun b u q z => ?_
    · show upd v.H D _ b = some u
      rw [upd_ne (by rw [← z]; exact a.nt p hp)]; exact q
    · show upd v.H D _ b = some u
      rw [upd_ne]
      · exact q
      · rintro rfl
        exact a.h.t.nc b u a.phi q c x z
    · by_cases hb : b = D
      · subst hb
        have z' : upd v.H b _ b = some u := z
        rw [upd_same] at z'
        cases z'
        exact nCo_lst
      · have z' : upd v.H D _ b = some u := z
        rw [upd_ne hb] at z'
        exact a.h.t.nc b u q z'
/-- .. left as it is -/
theorem Hid.frozen {u v : Wd} {D : Addr} {S S0 : Store} {acc : List V} {accP : List PV} (h0 : HRel u S0) (hD : u.H D = none) (a : Hid u D v S acc accP) :
    ∃ z : Wd, z.H = v.H ∧ Ext u z ∧ HRel z S ∧ Rep z (.ref D) (.lst accP) := by
  have rm : RM v { v with phi := fun b => v.phi b ∧ b ≠ D } := ⟨rfl, fun _ _ z => z, fun b o q _ n => ⟨q, fun z => n z.1⟩, rfl⟩
  refine ⟨{ v with phi := fun b => v.phi b ∧ b ≠ D }, rfl, ⟨a.e.k, a.e.al, fun b q => ⟨a.e.phi b q, fun z => ?_⟩, a.e.keep, fun b q n => a.e.new b q.1 n, a.e.hid, a.e.tb, a.e.tf⟩, ⟨a.h.len, a.h.nd, fun b hb => ⟨a.h.phi b hb, fun z => a.nal (by rw [← z]; exact hb)⟩, fun b q => a.h.dom b q.1, fun n b m h1 h2 => (a.h.objs n b m h1 h2).monoR rm rfl, ⟨a.h.t.tabs, fun p hp => ⟨⟨(a.h.t.in_ p hp).1, a.nt p hp⟩, (a.h.t.in_ p hp).2⟩, fun b o q z => a.h.t.nc b o q.1 z⟩⟩, .lst ⟨.inl a.at_, fun z => z.2 rfl⟩ (a.r.monoR rm)⟩
  subst z
  obtain ⟨o, ho⟩ := h0.dom _ q
  rw [hD] at ho; cases ho
/-- .. made an object of the store -/
theorem Hid.store {u v : Wd} {D : Addr} {S S0 : Store} {acc : List V} {accP : List PV} (h0 : HRel u S0) (hD : u.H D = none) (a : Hid u D v S acc accP) :
    ∃ z : Wd, z.H = v.H ∧ Ext u z ∧ HRel z (S ++ [.lst accP]) ∧ Rep z (.ref D) (.ref S.length) := by
  have rm : RM v { v with al := v.al ++ [D] } := ⟨rfl, fun n b z => by
    show (v.al ++ [D])[n]? = _
    rw [List.getElem?_append_left (List.getElem?_eq_some_iff.mp z).1]; exact z, fun b o q _ n => ⟨q, n⟩, rfl⟩
  obtain ⟨bs, hb, nb⟩ := a.e.al
  refine ⟨{ v with al := v.al ++ [D] }, rfl, ⟨a.e.k, ⟨bs ++ [D], by show v.al ++ [D] = _; rw [hb, List.append_assoc], fun b hm => ?_⟩, a.e.phi, a.e.keep, a.e.new, a.e.hid, a.e.tb, a.e.tf⟩, ⟨?_, ?_, fun b hm => ?_, a.h.dom, fun n b m h1 h2 => ?_, ⟨a.h.t.tabs, fun p hp => ⟨(a.h.t.in_ p hp).1, fun z => ?_⟩, a.h.t.nc⟩⟩, .ref ?_⟩
  · rcases List.mem_append.mp hm with z | z
    · exact nb b z
    · have e : b = D := by simpa using z
      rw [e]; exact ⟨h0.notPhi hD, .of hD⟩
  · show (v.al ++ [D]).length = (S ++ [_]).length
    rw [List.length_append, List.length_append, a.h.len]; rfl
  · refine List.nodup_append.mpr ⟨a.h.nd, by simp, fun b hb c hc z => ?_⟩
    have e : c = D := by simpa using hc
    subst e; subst z
    exact a.nal hb
  · rcases List.mem_append.mp (show b ∈ v.al ++ [D] from hm) with z | z
    · exact a.h.phi b z
    · have e : b = D := by simpa using z
      rw [e]; exact a.phi
  · have h1' : (v.al ++ [D])[n]? = some b := h1
    by_cases hn : n < v.al.length
    · rw [List.getElem?_append_left hn] at h1'
      rw [List.getElem?_append_left (by rw [← a.h.len]; exact hn)] at h2
      exact (a.h.objs n b m h1' h2).monoR rm rfl
    · have hl : n < (v.al ++ [D]).length := (List.getElem?_eq_some_iff.mp h1').1
      have hn2 : n = v.al.length := by rw [List.length_append] at hl; simp at hl; omega
      subst hn2
      rw [List.getElem?_append_right (Nat.le_refl _)] at h1'
      rw [a.h.len, List.getElem?_append_right (Nat.le_refl _)] at h2
      simp at h1' h2
      subst h1'; subst h2
      exact ⟨acc, a.at_, a.r.monoR rm⟩
  · rcases List.mem_append.mp (show p.1 ∈ v.al ++ [D] from z) with z | z
    · exact (a.h.t.in_ p hp).2 z
    · exact a.nt p hp (by simpa using z)
  · show (v.al ++ [D])[S.length]? = some D
    rw [← a.h.len, List.getElem?_append_right (Nat.le_refl _)]; simp

theorem nox_ok_inv {β : Type} {r : Res β} {b : β} {S : Store} (h : r.nox = .ok b S) : r = .ok b S := by
  cases r with
  | ok c S1 => exact h
  | exc c a S1 => cases h
  | bad => cases h
def finL (rf : Bool) (ys : List PV) (S : Store) : Res PV := if rf = true then .ok (.ref S.length) (S ++ [.lst ys]) else .ok (.lst ys) S
theorem compL_noexc {f : PV → Store → Res (Option PV)} {g : Option (Nat × List PV)} (hf : ∀ x S c a S', f x S ≠ .exc c a S') : ∀ (xs : List PV) (S : Store) (c : Nat) (a : PV) (S' : Store), compL f g xs S ≠ .exc c a S'
  | [], _, _, _, _, h => by unfold compL at h; cases h
  | x :: xs, S, c, a, S', h => by
    unfold compL at h
    cases e : f x S with
    | bad => rw [e] at h; cases h
    | exc c2 a2 S2 => exact hf x S _ _ _ e
    | ok o S1 =>
      rw [e, Res.bind_ok] at h
      split at h
      · cases e2 : compL f g xs S1 with
        | bad => rw [e2] at h; cases h
        | exc c2 a2 S2 => exact compL_noexc hf xs S1 _ _ _ e2
        | ok ys S2 => rw [e2] at h; cases h
      · cases h
open Classical in
theorem compL_cons_ok {f : PV → Store → Res (Option PV)} {g : Option (Nat × List PV)} {x : PV} {xs ys : List PV} {S S' : Store} (h : compL f g (x :: xs) S = .ok ys S') :
    ∃ o S1 zs, f x S = .ok o S1 ∧ Grd g S1 ∧ compL f g xs S1 = .ok zs S' ∧ ys = match o with
      | some y => y :: zs
      | none => zs := by
  unfold compL at h
  obtain ⟨o, S1, h1, h2⟩ := bind_ok_inv h
  split at h2
  · rename_i hg
    obtain ⟨zs, S2, h3, h4⟩ := bind_ok_inv h2
    cases h4
    exact ⟨o, S1, zs, h1, hg, h3, rfl⟩
  · cases h2
section
variable {Z : Xc} {W : WX}
/-- what a list comprehension's reading is -/
theorem lc_read {rf : Bool} {it : IT} {t : TGT} {mo : MEo} {me : ME} {vs : List Nat} (hx : Z.C.hx = none) (hsl : ∀ i ∈ slT t, i ∈ vs) {σ : St} {H : Hp} {Q : VK} (h : TI Z W (.comp rf vs t it mo me) σ H Q) :
    tLc (TII Z W it) (TGr Z t) (TIC Z WF mo) (TI Z WF me) vs σ H Q := by
  obtain ⟨w, r, S, at_, g⟩ := h
  rw [evalE] at g
  refine ⟨w, r, S, at_, g.bindE fun u J p S1 hev e1 h1 wk g1 => ?_⟩
  have hgd := evalI_grd hev
  have a1 := at_.next e1 h1
  intro D hD
  split at g1
  · rename_i hlen
    generalize hf : (fun (x : PV) (S2 : Store) => match bindT t x (wipeP r vs) with
      | none => Res.bad
      | some r2 => ((evalC Z.C mo r2 S2).bind fun b S3 => if b = true then (evalE Z.C me r2 S3).bind fun y S4 => .ok (some y) S4 else .ok none S3).nox) = f at g1
    have fnox : ∀ x S c a S', f x S ≠ .exc c a S' := fun x S c a S' q => by
      rw [← hf] at q
      dsimp only at q
      split at q
      · cases q
      · rename_i r2 _
        cases hq : ((evalC Z.C mo r2 S).bind fun b S3 => if b = true then (evalE Z.C me r2 S3).bind fun y S4 => Res.ok (some y) S4 else .ok none S3) <;> rw [hq] at q <;> cases q
    cases hc : compL f p.2 p.1 S1 with
    | bad => rw [hc] at g1; exact g1.elim
    | exc c a S2 => exact absurd hc (compL_noexc fnox _ _ _ _ _)
    | ok ys S9 =>
      rw [hc, Res.bind_ok] at g1
      let Pv : Nat → Hp → Prop := fun i H => ∃ v S acc accP zs, v.H = H ∧ v.K = Z.K ∧ Hid u D v S acc accP ∧ Grd p.2 S ∧ accP.length ≤ i ∧ compL f p.2 (p.1.drop i) S = .ok zs S9 ∧ ys = accP ++ zs
      refine ⟨fun i m H => m = p.1.length - i ∧ i ≤ p.1.length ∧ Pv i H, ⟨p.1.length, by simp, Nat.zero_le _, u.hide D (.lst []), S1, [], [], ys, rfl, e1.k.trans at_.K, Hid.begin h1 hD, hgd, Nat.zero_le _, by simpa using hc, rfl⟩, ?_⟩
      rintro i m H ⟨rfl, hi, v, S, acc, accP, zs, rfl, vK, hid, hgd, hal, hcl, rfl⟩
      by_cases hlt : i < p.1.length
      · refine .inr ⟨wk.goes v S i hid.e.rm hid.h hgd hlt, Pv (i + 1), fun H' p' => ⟨p.1.length - (i + 1), by omega, rfl, hlt, p'⟩, fun x H' y => ?_⟩
        obtain ⟨v', q, eq1, e2, h2, hq, rq⟩ := wk.yields v S i x H' hid.e.rm hid.h hgd hlt y
        subst eq1
        have hid2 := hid.next e2 h2
        have hd : p.1.drop i = q :: p.1.drop (i + 1) := by
          obtain ⟨hl2, hq2⟩ := List.getElem?_eq_some_iff.mp hq
          rw [List.drop_eq_getElem_cons hl2, hq2]
        rw [hd] at hcl
        obtain ⟨o, S2, zs2, hfx, hg2, hcl2, rfl⟩ := compL_cons_ok hcl
        rw [← hf] at hfx
        dsimp only at hfx
        cases hbt : bindT t q (wipeP r vs) with
        | none => rw [hbt] at hfx; cases hfx
        | some r2 =>
          rw [hbt] at hfx
          have hfx := nox_ok_inv hfx
          obtain ⟨b, S3, hb1, hb2⟩ := bind_ok_inv hfx
          have e9 : Ext u v' := hid2.e
          have at0 : At Z (wipe σ vs) v'.H v' (wipeP r vs) S := ⟨rfl, e2.k.trans vK, ((a1.e.mono e9).wipe vs), h2, by unfold HX; rw [hx]; trivial, Z.Icl _ _ a1.i e9⟩
          refine ⟨v', _, S, q, r2, at0, rq, hbt, fun σ2 at2 hw => ⟨(hw vs hsl).trans wipe_wipe, v', r2, S, at2, ?_⟩⟩
          rw [hb1]
          intro u3 b' e3 h3 eb
          subst eb
          have hid3 := hid2.next e3 h3
          have at3 := at2.next e3 h3
          cases b' with
          | false =>
            rw [if_neg Bool.false_ne_true] at hb2 ⊢
            cases hb2
            exact ⟨u3, S2, acc, accP, zs2, rfl, e3.k.trans (e2.k.trans vK), hid3, hg2, Nat.le_succ_of_le hal, hcl2, rfl⟩
          | true =>
            rw [if_pos rfl] at hb2 ⊢
            obtain ⟨y9, S4, hy1, hy2⟩ := bind_ok_inv hb2
            cases hy2
            refine ⟨u3, r2, S3, at3, ?_⟩
            rw [hy1]
            intro u4 yv e4 h4 ry
            have hid4 := hid3.next e4 h4
            have hz : acc.length < sizeLine := by rw [hid4.r.length]; omega
            refine ⟨acc, hid4.at_, hz, { u4 with H := upd u4.H D (.lst (acc ++ [yv])) }, S2, acc ++ [yv], accP ++ [y9], zs2, rfl, e4.k.trans (e3.k.trans (e2.k.trans vK)), hid4.push h1 hD ry, hg2, ?_, hcl2, ?_⟩
            · rw [List.length_append]; exact Nat.add_le_add_right hal 1
            · rw [List.append_assoc]; rfl
      · have e : i = p.1.length := by omega
        subst e
        rw [List.drop_length] at hcl
        unfold compL at hcl
        cases hcl
        refine .inl ⟨wk.stops v S9 hid.e.rm hid.h hgd, ?_⟩
        rw [List.append_nil] at g1
        cases rf with
        | true =>
          rw [if_pos rfl] at g1
          obtain ⟨z, hz, ez, hrz, rz⟩ := hid.store h1 hD
          rw [← hz]
          exact g1 z _ ez hrz rz
        | false =>
          rw [if_neg Bool.false_ne_true] at g1
          obtain ⟨z, hz, ez, hrz, rz⟩ := hid.frozen h1 hD
          rw [← hz]
          exact g1 z _ ez hrz rz
  · exact g1.elim
variable {X : Cx} {elt tg iter e : Expr} {ifs : List Expr} {scope : Scope} {own : List (Str × Nat)} {pos : Pos} {it : IT} {t : TGT} {mo : MEo} {me ma : ME} {rf : Bool}
theorem snd_comp (hx : Z.C.hx = none) (hc : X.calm = true) (hN : X.N.Nodup) (hi : PI X tg iter (TII Z W it)) (ok : BlkOk X.N X.env.scope scope own)
    (hg : ∀ (s : Shared) (H : Hp) (C : Addr) (cl : List (Str × Addr)) (fp : List Addr), PG (X.blk s H scope (compEnvC scope cl C X.env) fp) tg (TGr Z t)) (ht : ∀ (s : Shared) (H : Hp) (C : Addr) (cl : List (Str × Addr)) (fp : List Addr), PTs (X.blk s H scope (compEnvC scope cl C X.env) fp) ifs (TIC Z WF mo))
    (he : ∀ (s : Shared) (H : Hp) (C : Addr) (cl : List (Str × Addr)) (fp : List Addr), PE (X.blk s H scope (compEnvC scope cl C X.env) fp) elt (TI Z WF me)) (hs : ∀ x, foldedSetIterable iter X.env x = pure x) (hsl : ∀ i ∈ slT t, i ∈ own.map (·.2)) :
    PE X (.ListComp elt [⟨tg, iter, ifs, 0⟩] scope pos) (TI Z W (.comp rf (own.map (·.2)) t it mo me)) :=
  (pe_lc hc hN hi ok hg ht he hs).imp fun σ H Q h => lc_read hx hsl h
/-- name = [..] on one line -/
theorem snd_setLc {i : Nat} {y : Str} {py spos : Pos} (hx : Z.C.hx = none) (hc : X.calm = true) (hN : X.N.Nodup) (hy : X.N[i]? = some y) (hyl : X.env.scope.names.lookup y = some .local)
    (hsw : swapsWith (.ListComp elt [⟨tg, iter, ifs, 0⟩] scope pos) (some (.Name y py)) spos.line X.env = pure true) (hi : PI X tg iter (TII Z W it)) (ok : BlkOk X.N X.env.scope scope own)
    (hg : ∀ (s : Shared) (H : Hp) (C : Addr) (cl : List (Str × Addr)) (fp : List Addr), PG (X.blk s H scope (compEnvC scope cl C X.env) fp) tg (TGr Z t)) (ht : ∀ (s : Shared) (H : Hp) (C : Addr) (cl : List (Str × Addr)) (fp : List Addr), PTs (X.blk s H scope (compEnvC scope cl C X.env) fp) ifs (TIC Z WF mo))
    (he : ∀ (s : Shared) (H : Hp) (C : Addr) (cl : List (Str × Addr)) (fp : List Addr), PE (X.blk s H scope (compEnvC scope cl C X.env) fp) elt (TI Z WF me)) (hs : ∀ x, foldedSetIterable iter X.env x = pure x) (hsl : ∀ i ∈ slT t, i ∈ own.map (·.2)) :
    PS X (.Assign [.Name y py] (.ListComp elt [⟨tg, iter, ifs, 0⟩] scope pos) spos) (TSS Z W (.asg (.name i) (.comp rf (own.map (·.2)) t it mo me))) := by
  refine (ps_setLc hc hN hy hyl hsw hi ok hg ht he hs).imp fun D σ H h => ?_
  obtain ⟨w, r, S, at_, g⟩ := h
  rw [evalS] at g
  refine lc_read (rf := rf) hx hsl ⟨w, r, S, at_, GoodS.to at_ g fun u v p S1 he e1 h1 r1 g1 => ?_⟩
  exact g1 u _ (Ext.refl u) ((at_.next e1 h1).set hx i r1)
theorem snd_pnil : PTs X [] (TIC Z W .none) := ⟨fun pins s σ H Q I h => pts_nil.run pins s σ H Q I (by
  obtain ⟨w, r, S, at_, g⟩ := h
  rw [evalC] at g
  have e := at_.H; subst e
  exact g w true (Ext.refl w) at_.h rfl)⟩
theorem snd_pone {c : Expr} {mc : ME} (hc : PT X c (TIT Z W mc)) : PTs X [c] (TIC Z W (.some mc)) := ⟨fun pins s σ H Q I h => (pts_one hc).run pins s σ H Q I (by
  obtain ⟨w, r, S, at_, g⟩ := h
  rw [evalC] at g
  exact ⟨w, r, S, at_, g⟩)⟩
end
end Dg
end

section
set_option Elab.async false
set_option linter.all false
set_option maxRecDepth 100000
set_option maxHeartbeats 4000000
/-! DgM: displays of dicts, calls. -/
namespace Dg
open PySem PySem.Spec L2
open PyProof.Rows hiding St

/-! ### displays of dicts -/
theorem mergeK_app : ∀ (kvs acc : List (Key × V)), ((acc ++ kvs).map (·.1)).Nodup → mergeK acc kvs = acc ++ kvs
  | [], acc, _ => by simp [mergeK]
  | p :: kvs, acc, h => by
    have hn : (acc.any fun kv => decide (kv.1 = p.1)) = false := by
      rw [List.any_eq_false]
      intro q hq z
      have z : q.1 = p.1 := of_decide_eq_true z
      rw [List.map_append] at h
      exact (List.nodup_append.mp h).2.2 q.1 (List.mem_map_of_mem hq) p.1 (by simp) z
    show mergeK (L2.putK acc p.1 p.2) kvs = _
    unfold L2.putK
    rw [hn, if_neg Bool.false_ne_true, mergeK_app kvs (acc ++ [(p.1, p.2)]) (by simpa using h)]
    simp
theorem RepK.zip {w : Wd} : ∀ {ks : List Key} {vs : List V} {ps : List PV}, Reps w vs ps → RepK w (ks.zip vs) (ks.zip ps)
  | [], _, _, _ => by simp only [List.zip_nil_left]; exact .nil
  | k :: ks, _, _, .nil => by simp only [List.zip_nil_right]; exact .nil
  | k :: ks, _, _, .cons h r => by simp only [List.zip_cons_cons]; exact .cons h (RepK.zip r)
theorem dict_store {w u : Wd} {D : Addr} {S S0 : Store} {ws : List (Key × V)} {kvs : List (Key × PV)} (h0 : HRel w S0) (hD : w.H D = none) (e : Ext (w.hide D (.dK [])) u) (hu : HRel u S) (r : RepK u ws kvs) :
    Ext w { u with al := u.al ++ [D], H := upd u.H D (.dK ws) } ∧ HRel { u with al := u.al ++ [D], H := upd u.H D (.dK ws) } (S ++ [.dct kvs]) ∧ Rep { u with al := u.al ++ [D], H := upd u.H D (.dK ws) } (.ref D) (.ref S.length) := by
  have hphi : u.phi D := e.phi D (.inr rfl)
  have hnal : D ∉ u.al := fun hm => by
    obtain ⟨b, hb, nb⟩ := e.al
    rw [hb] at hm
    rcases List.mem_append.mp hm with z | z
    · exact h0.notAl hD z
    · exact (nb D z).1 (.inr rfl)
  have e0 : Ext w u := (hide_ext h0 hD nCo_dK).1.trans e
  have hnt : ∀ p ∈ u.tb, p.1 ≠ D := by rw [e.tb]; exact h0.notTb hD
  have rm : RM u { u with al := u.al ++ [D], H := upd u.H D (.dK ws) } := ⟨rfl, fun n b z => by
    show (u.al ++ [D])[n]? = _
    rw [List.getElem?_append_left (List.getElem?_eq_some_iff.mp z).1]; exact z, fun b o q _ n => ⟨by
    show upd u.H D _ b = _
    rw [upd_ne (fun z => n (by rw [z]; exact hphi))]; exact q, n⟩, rfl⟩
  obtain ⟨bs, hb, nb⟩ := e0.al
  refine ⟨⟨e0.k, ⟨bs ++ [D], by show u.al ++ [D] = _; rw [hb, List.append_assoc], fun b hm => ?_⟩, e0.phi, fun b o q t n => ?_, e0.new, fun b q n t => ?_, e0.tb, e0.tf⟩, ⟨?_, ?_, fun b hm => ?_, fun b q => ?_, fun n b m h1 h2 => ?_, ?_⟩, .ref ?_⟩
  · rcases List.mem_append.mp hm with z | z
    · exact nb b z
    · have e : b = D := by simpa using z
      rw [e]; exact ⟨h0.notPhi hD, .of hD⟩
  · show upd u.H D _ b = _
    rw [upd_ne (ne_of_none q hD)]; exact e0.keep b o q t n
  · obtain ⟨z, hz⟩ := h0.dom b q
    show upd u.H D _ b = _
    rw [upd_ne (ne_of_none hz hD)]; exact e0.hid b q n t
  · show (u.al ++ [D]).length = (S ++ [_]).length
    rw [List.length_append, List.length_append, hu.len]; rfl
  · refine List.nodup_append.mpr ⟨hu.nd, by simp, fun b hb c hc z => ?_⟩
    have e : c = D := by simpa using hc
    subst e; subst z
    exact hnal hb
  · rcases List.mem_append.mp (show b ∈ u.al ++ [D] from hm) with z | z
    · exact hu.phi b z
    · have e : b = D := by simpa using z
      rw [e]; exact hphi
  · by_cases e : b = D
    · exact ⟨_, by rw [e]; exact upd_same⟩
    · obtain ⟨z, hz⟩ := hu.dom b q
      exact ⟨z, by show upd u.H D _ b = _; rw [upd_ne e]; exact hz⟩
  · have h1' : (u.al ++ [D])[n]? = some b := h1
    by_cases hn : n < u.al.length
    · rw [List.getElem?_append_left hn] at h1'
      rw [List.getElem?_append_left (by rw [← hu.len]; exact hn)] at h2
      have hb : b ≠ D := fun z => hnal (by rw [← z]; exact List.mem_of_getElem? h1')
      exact (hu.objs n b m h1' h2).monoR rm (by show upd u.H D _ b = _; rw [upd_ne hb])
    · have hl : n < (u.al ++ [D]).length := (List.getElem?_eq_some_iff.mp h1').1
      have hn2 : n = u.al.length := by rw [List.length_append] at hl; simp at hl; omega
      subst hn2
      rw [List.getElem?_append_right (Nat.le_refl _)] at h1'
      rw [hu.len, List.getElem?_append_right (Nat.le_refl _)] at h2
      simp at h1' h2
      subst h1'; subst h2
      exact ⟨ws, upd_same, r.monoR rm⟩
  · refine hu.t.same2 rfl (fun p hp z => ?_) (fun b q => q) (fun b o q => ⟨fun p hp z => ?_, fun ⟨c, x, z⟩ => ?_⟩) fun b o q z => ?_
    · rcases List.mem_append.mp (show p.1 ∈ u.al ++ [D] from z) with z | z
      · exact (hu.t.in_ p hp).2 z
      · exact hnt p hp (by simpa using z)
    · show upd u.H D _ b = some o
      rw [upd_ne (by rw [← z]; exact hnt p hp)]; exact q
    · show upd u.H D _ b = some o
      rw [upd_ne]
      · exact q
      · rintro rfl
        exact hu.t.nc b o hphi q c x z
    · by_cases hb : b = D
      · subst hb
        have z' : upd u.H b _ b = some o := z
        rw [upd_same] at z'
        cases z'
        exact nCo_dK
      · have z' : upd u.H D _ b = some o := z
        rw [upd_ne hb] at z'
        exact hu.t.nc b o q z'
  · show (u.al ++ [D])[S.length]? = some D
    rw [← hu.len, List.getElem?_append_right (Nat.le_refl _)]; simp
def trsD (Z : Xc) (W : WX) : List Key → MEs → List (TE × TE)
  | k :: ks, .cons e es => (tC (kV k), TI Z W e) :: trsD Z W ks es
  | _, _ => []
theorem tPairs_read {Z : Xc} {W : WX} : ∀ {ks : List Key} {ms : MEs} {σ : St} {H : Hp} {Q : List (V × V) → Hp → Prop} {w : Wd} {r : PEnv} {S : Store}, ks.length = lenMs ms → At Z σ H w r S →
    Good Z W σ Reps w (fun vs H2 => Q ((ks.zip vs).map fun kv => (kV kv.1, kv.2)) H2) (evalEs Z.C ms r S) → tPairs (trsD Z W ks ms) σ H Q
  | [], .nil, σ, H, Q, w, r, S, _, at_, g => by
    rw [evalEs] at g
    have e := at_.H
    subst e
    exact g w [] (Ext.refl w) at_.h .nil
  | [], .cons _ _, _, _, _, _, _, _, h, _, _ => by cases h
  | _ :: _, .nil, _, _, _, _, _, _, h, _, _ => by cases h
  | k :: ks, .cons e es, σ, H, Q, w, r, S, h, at_, g => by
    rw [evalEs] at g
    show TI Z W e σ H fun y H2 => tPairs (trsD Z W ks es) σ H2 fun ps H3 => Q ((kV k, y) :: ps) H3
    refine ⟨w, r, S, at_, g.bindI fun u y p S1 e1 h1 r1 g1 => ?_⟩
    refine tPairs_read (Nat.succ.inj h) (at_.next e1 h1) (g1.bindI fun t vs ps S2 e2 h2 r2 g2 => ?_)
    exact g2 t (y :: vs) (Ext.refl t) h2 (.cons (r1.mono e2) r2)
section
variable {X : Cx} {Z : Xc} {W : WX} {a b c e : Expr} {ma mb mc : ME} {pos p : Pos} {x : Str}
theorem snd_dict {keys : List (Option Expr)} {values : List Expr} {ks : List Key} {ms : MEs} (hp : PPs X pos keys values (trsD Z W ks ms)) (hk : ks.length = lenMs ms) (hall : keys.all (·.isSome) = true) (hl : keys.length = values.length) (h0 : keys ≠ []) (h15 : keys.length ≤ 15) (hkx : ∀ (σ : St) (w : Wd), HX Z σ w) :
    PE X (.Dict keys values pos) (TI Z W (.dctR ks ms)) := by
  refine (pe_disp hp hall hl h0 h15).imp fun σ H Q h => ?_
  obtain ⟨w, r, S, at_, g⟩ := h
  rw [evalE] at g
  intro D hD
  have eH := at_.H
  subst eH
  obtain ⟨e0, h0'⟩ := hide_ext (o := .dK []) at_.h hD nCo_dK
  have at0 : At Z σ (upd w.H D (.dK [])) (w.hide D (.dK [])) r S := ⟨rfl, at_.K, at_.e.mono e0, h0', hkx _ _, Z.Icl _ _ at_.i e0⟩
  refine tPairs_read hk at0 ?_
  have key : ∀ (res : Res (List PV)), Good Z W σ Rep w Q (res.bind fun vs S1 => if vs.length = ks.length ∧ vs.length ≤ 15 ∧ ks.Nodup then .ok (.ref S1.length) (S1 ++ [.dct (ks.zip vs)]) else .bad) →
      Good Z W σ Reps (w.hide D (.dK [])) (fun vs H2 => H2 D = some (.dK []) ∧ ∃ kvs : List (Key × V), ((ks.zip vs).map fun kv => (kV kv.1, kv.2)) = kvs.map (fun kv => (kV kv.1, kv.2)) ∧ kvs.length ≤ 15 ∧ Q (.ref D) (upd H2 D (.dK (mergeK [] kvs)))) res := fun res g => by
    cases res with
    | bad => exact g
    | exc c v S1 => exact fun u d va e h h1 h2 h3 => g u d va (e0.trans e) h h1 h2 h3
    | ok q S1 =>
      rw [Res.bind_ok] at g
      split at g
      · rename_i hq
        intro u vs e1 h1 rs
        have hz : (ks.zip vs).length ≤ 15 := by
          rw [List.length_zip, rs.length]; omega
        have hD2 : u.H D = some (.dK []) := (e1.hid D (.inr rfl) (at_.h.notAl hD) (at_.h.notTb hD)).trans upd_same
        refine ⟨hD2, ks.zip vs, rfl, hz, ?_⟩
        have hm : mergeK [] (ks.zip vs) = ks.zip vs := by
          rw [mergeK_app _ [] ?_]
          · rfl
          · rw [List.nil_append]
            have : (ks.zip vs).map (·.1) = ks := by
              rw [List.map_fst_zip]
              rw [rs.length]; omega
            rw [this]; exact hq.2.2
        rw [hm]
        obtain ⟨e9, h9, r9⟩ := dict_store at_.h hD e1 h1 (RepK.zip (ks := ks) rs)
        exact g _ _ e9 h9 r9
      · exact g.elim
  exact key _ g
/-- {} -/
theorem snd_dict0 : PE X (.Dict [] [] pos) (TI Z W (.dctR [] .nil)) := by
  refine pe_dnewK.imp fun σ H Q h => ?_
  obtain ⟨w, r, S, at_, g⟩ := h
  rw [evalE, evalEs, Res.bind_ok] at g
  intro D hD
  have eH := at_.H
  subst eH
  rw [if_pos ⟨rfl, Nat.zero_le _, List.nodup_nil⟩] at g
  obtain ⟨h2, r2⟩ := at_.h.add (o := .dK []) (m := .dct []) hD ⟨[], upd_same, .nil⟩
  exact g _ _ (Ext.add at_.h hD) h2 r2
/-! ### calls -/
/-- a def by plain values -/
def spI (Z : Xc) (g : List PV → Store → Res PV) (n : Nat) : Sp := fun vs H Q E => ∃ w S pvs, w.H = H ∧ w.K = Z.K ∧ HRel w S ∧ Reps w vs pvs ∧ pvs.length = n ∧ Good Z (fun c d _ H => E c d H) [] Rep w Q (g pvs S)
/-- how a call's arguments are bound -/
structure CallB (K : PySem.W.Frag) (fd : FuncData) (ps : List Str) (n : Nat) (ks : List Str) (perm : List (Sum Nat PV)) : Prop where
  go : ∃ (g : List Value → List Value → List Value) (gV : List V → List V → List V), KBn K fd ps n ks g gV ∧
    ∀ (w : Wd) (vs zs : List V) (pv pz : List PV), Reps w vs pv → Reps w zs pz → pv.length = n → pz.length = ks.length → ∃ r, permP perm (pv ++ pz) = some r ∧ r.length = ps.length ∧ Reps w (gV vs zs) r
/-- a def that may be called here -/
structure Callee (X : Cx) (Z : Xc) (x : Str) (n : Nat) (ks : List Str) (f : Nat) (perm : List (Sum Nat PV)) : Prop where
  go : ∃ (k : Nat) (fa : Addr) (fd : FuncData) (ps : List Str), FnOk X.prog X.w X.K X.mg X.base (L2.CX X.prog X.w) k fa fd ps (spI Z (Z.C.G f) ps.length) ∧ Room k X.A ∧ X.mg x = some (.ref fa) ∧ PySem.W.keepIn X.K (.ref fa) = true ∧ CallB X.K fd ps n ks perm
def tCallG (sp : Sp) (n m : Nat) (gV : List V → List V → List V) (E : St → XK) (t tk : TA) : TE := fun σ H Q => t σ H fun vs H1 => tk σ H1 fun zs H2 => vs.length = n ∧ zs.length = m ∧ sp (gV vs zs) H2 Q (E σ)
section
variable {CX : CXT} {k n : Nat} {f : Addr} {fd : FuncData} {ps ks : List Str} {sp : Sp} {E : St → XK} {es : List Expr} {kws : List Keyword} {t tk : TA} {g : List Value → List Value → List Value} {gV : List V → List V → List V}
theorem run_fnG {pins : List (Addr × Obj)} {σ : St} {H : Hp} {s : Shared} {Q : VK} {us ws : List Value} {vs zs : List V} (F : FnOk X.prog X.w X.K X.mg X.base CX k f fd ps sp) (hr : Room k X.A) (hb : KBn X.K fd ps n ks g gV) (hx : PassesAt CX X σ (E σ))
    (I : Inv X pins σ H s) (r : Vals vs us) (rz : Vals zs ws) (l1 : vs.length = n) (l2 : zs.length = ks.length) (h : sp (gV vs zs) H Q (E σ)) : wpAny (model X.prog X.w) X.A (call (.ref f) us (ks.zip ws)) (EP X pins σ Q) X.xe s := by
  have r2 := hb.rel r rz
  refine wpAny_call (codeAny_mono (F.run X.A X.stack s H ⟨us, ks.zip ws⟩ (g us ws) (gV vs zs) Q (E σ) hr I.env0 (hb.to s us ws I.kIn (r.length.symm.trans l1) (rz.length.symm.trans l2)) r2 h) fun r s' hq => ?_)
  cases r with
  | error e => exact hx pins H s e s' I hq
  | ok fl =>
    cases fl with
    | ret u => exact I.after hq
    | next => exact False.elim hq
    | brk => exact False.elim hq
    | cont => exact False.elim hq
/-- f(e, ..) -/
theorem pe_cg (F : FnOk X.prog X.w X.K X.mg X.base CX k f fd ps sp) (hr : Room k X.A) (hg : Gl X x) (hm : X.mg x = some (.ref f)) (hk : PySem.W.keepIn X.K (.ref f) = true) (hb : KBn X.K fd ps n [] g gV) (hx : ∀ σ, PassesAt CX X σ (E σ))
    (ha : PA X (e :: es) t) (hdb : (x == ("__debug__" : Str)) = false) (he : starEach (e :: es) X.env = (false, eval e X.env) :: starEach es X.env) (hpl : (backTo pos (starEach es X.env)).any (·.1) = false) :
    PE X (.Call (.Name x p) (e :: es) [] pos) (tCallG sp n 0 gV E t tNil) := by
  refine ⟨fun pins s σ H Q I h => ?_⟩
  refine wpAny_Call_Name_kw (ld_glob I hg hm ?_ hdb)
  refine PySem.W.callWith_K (h₀ := X.base) I.ok.mod.kin hk (thn (ha.run pos pins s σ H _ I h) fun us s1 ⟨vs, H1, I1, r, q⟩ => ⟨I1.kIn, ?_⟩) he hpl
  obtain ⟨l1, l2, q⟩ := q
  exact run_fnG (ws := []) (zs := []) F hr hb (hx σ) I1 r .nil l1 rfl q
/-- f(e, .., k = v, ..) -/
theorem pe_cgk (F : FnOk X.prog X.w X.K X.mg X.base CX k f fd ps sp) (hr : Room k X.A) (hg : Gl X x) (hm : X.mg x = some (.ref f)) (hk : PySem.W.keepIn X.K (.ref f) = true) (hb : KBn X.K fd ps n ks g gV) (hx : ∀ σ, PassesAt CX X σ (E σ))
    (ha : PA X (e :: es) t) (hkw : PK X kws tk) (hall : (backToKw pos (keywordEach kws X.env)).all (·.1.isSome) = true) (hks : (backToKw pos (keywordEach kws X.env)).filterMap (·.1) = ks)
    (hdb : (x == ("__debug__" : Str)) = false) (he : starEach (e :: es) X.env = (false, eval e X.env) :: starEach es X.env)
    (hpl : ((backTo pos (starEach (e :: es) X.env)).any (·.1) || (backToKw pos (keywordEach kws X.env)).any (·.1.isNone)) = false) :
    PE X (.Call (.Name x p) (e :: es) kws pos) (tCallG sp n ks.length gV E t tk) := by
  refine ⟨fun pins s σ H Q I h => ?_⟩
  refine wpAny_Call_Name_kw (ld_glob I hg hm ?_ hdb)
  refine PySem.W.callWith_KW (h₀ := X.base) I.ok.mod.kin hk hall (thn (ha.run pos pins s σ H _ I h) fun us s1 ⟨vs, H1, I1, r, q⟩ => ?_) hpl he
  refine thn (hkw.run pos pins s1 σ H1 _ I1 q) fun ws s2 ⟨zs, H2, I2, rz, q2⟩ => ⟨I2.kIn, ?_⟩
  obtain ⟨l1, l2, q2⟩ := q2
  rw [hks]
  exact run_fnG F hr hb (hx σ) I2 r rz l1 l2 q2
/-- f() -/
theorem pe_cg0 (F : FnOk X.prog X.w X.K X.mg X.base CX k f fd ps sp) (hr : Room k X.A) (hg : Gl X x) (hm : X.mg x = some (.ref f)) (hk : PySem.W.keepIn X.K (.ref f) = true) (hb : KBn X.K fd ps n [] g gV) (hx : ∀ σ, PassesAt CX X σ (E σ))
    (hdb : (x == ("__debug__" : Str)) = false) : PE X (.Call (.Name x p) [] [] pos) (tCallG sp n 0 gV E tNil tNil) := by
  refine ⟨fun pins s σ H Q I h => ?_⟩
  refine wpAny_Call_Name_kw (ld_glob I hg hm ?_ hdb)
  obtain ⟨l1, l2, h⟩ := h
  exact PySem.W.callWith_K0 I.kIn hk (run_fnG (us := []) (ws := []) (vs := []) (zs := []) F hr hb (hx σ) I .nil .nil l1 rfl h)
end
end
end Dg
end

section
set_option Elab.async false
set_option linter.all false
set_option maxRecDepth 100000
set_option maxHeartbeats 4000000
/-! DgN: calls of defs, raise, try. -/
namespace Dg
open PySem PySem.Spec L2
open PyProof.Rows hiding St

def appMs : MEs → MEs → MEs
  | .nil, b => b
  | .cons e es, b => .cons e (appMs es b)
theorem evalEs_app {C : Cxt} {b : MEs} : ∀ {a : MEs} {r : PEnv} {S : Store}, evalEs C (appMs a b) r S = (evalEs C a r S).bind fun xs S1 => (evalEs C b r S1).bind fun ys S2 => .ok (xs ++ ys) S2
  | .nil, r, S => by
    rw [evalEs, Res.bind_ok]
    show evalEs C b r S = _
    cases evalEs C b r S <;> rfl
  | .cons e es, r, S => by
    show evalEs C (.cons e (appMs es b)) r S = _
    rw [evalEs, evalEs, Res.bind_assoc]
    congr 1
    funext x S1
    rw [evalEs_app, Res.bind_assoc, Res.bind_assoc]
    congr 1
    funext xs S2
    rw [Res.bind_ok, Res.bind_assoc]
    rfl
theorem Good.wx {α β : Type} {Z : Xc} {W W' : WX} {σ σ' : St} {R : Wd → α → β → Prop} {w : Wd} {Q : α → Hp → Prop} {r : Res β} (g : Good Z W σ R w Q r) (h : ∀ c d H, W c d σ H → W' c d σ' H) : Good Z W' σ' R w Q r := by
  cases r with
  | ok b S => exact g
  | exc c a S => exact fun u d va e h1 h2 h3 h4 => h _ _ _ (g u d va e h1 h2 h3 h4)
  | bad => exact g
theorem call_read {Z : Xc} {W : WX} {σ : St} {H : Hp} {Q : VK} {f n : Nat} {ps ks : List Str} {perm : List (Sum Nat PV)} {ma mk : MEs} {gV : List V → List V → List V} (hn : lenMs ma = n) (hm : lenMs mk = ks.length)
    (hp : ∀ (w : Wd) (vs zs : List V) (pv pz : List PV), Reps w vs pv → Reps w zs pz → pv.length = n → pz.length = ks.length → ∃ r, permP perm (pv ++ pz) = some r ∧ r.length = ps.length ∧ Reps w (gV vs zs) r)
    (h : TI Z W (.call f perm (appMs ma mk)) σ H Q) : tCallG (spI Z (Z.C.G f) ps.length) n ks.length gV (WE W) (TIA Z W ma) (TIA Z W mk) σ H Q := by
  obtain ⟨w, r, S, at_, g⟩ := h
  rw [evalE, evalEs_app, Res.bind_assoc] at g
  refine ⟨w, r, S, at_, g.bindE fun u vs pv S1 he e1 h1 r1 g1 => ?_⟩
  rw [Res.bind_assoc] at g1
  refine ⟨u, r, S1, at_.next e1 h1, Good.bindE g1 fun t zs pz S2 he2 e2 h2 r2 g2 => ?_⟩
  have l1 : pv.length = n := (evalEs_len he).trans hn
  have l2 : pz.length = ks.length := (evalEs_len he2).trans hm
  have r1' := r1.mono e2
  refine ⟨r1.length.trans l1, r2.length.trans l2, ?_⟩
  obtain ⟨q, hq, hl, hr⟩ := hp t vs zs pv pz r1' r2 l1 l2
  rw [Res.bind_ok, hq] at g2
  exact ⟨t, S2, q, rfl, e2.k.trans (e1.k.trans at_.K), h2, hr, hl, g2.wx fun _ _ _ z => z⟩
section
variable {X : Cx} {Z : Xc} {W : WX} {a b c e : Expr} {ma mb mc : ME} {pos p pos' : Pos} {x : Str} {es : List Expr} {kws : List Keyword} {ms mk : MEs} {n f : Nat} {ks : List Str} {perm : List (Sum Nat PV)}
theorem app_nil : ∀ ms : MEs, appMs ms .nil = ms
  | .nil => rfl
  | .cons e es => by show MEs.cons e (appMs es .nil) = _; rw [app_nil es]
theorem nilK {Z : Xc} {W : WX} {σ : St} {H : Hp} {Q : List V → Hp → Prop} (h : TIA Z W .nil σ H Q) : tNil σ H Q := by
  obtain ⟨w, r, S, at_, g⟩ := h
  rw [evalEs] at g
  show Q [] H
  rw [← at_.H]
  exact g w [] (Ext.refl w) at_.h .nil
theorem snd_call (hC : Callee X Z x n [] f perm) (tk : Takes X W) (hg : Gl X x) (ha : PA X (e :: es) (TIA Z W ms)) (hn : lenMs ms = n) (hdb : (x == ("__debug__" : Str)) = false)
    (he : starEach (e :: es) X.env = (false, eval e X.env) :: starEach es X.env) (hpl : (backTo pos (starEach es X.env)).any (·.1) = false) : PE X (.Call (.Name x p) (e :: es) [] pos) (TI Z W (.call f perm ms)) := by
  obtain ⟨k, fa, fd, ps, F, hr, hm, hk, ⟨g, gV, hb, hp⟩⟩ := hC.go
  refine (pe_cg F hr hg hm hk hb (fun σ => passAt tk σ) ha hdb he hpl).imp fun σ H Q h => ?_
  have h2 := call_read (mk := .nil) (ks := []) hn rfl hp (by rw [app_nil]; exact h)
  obtain ⟨w, r, S, at_, g2⟩ := h2
  refine ⟨w, r, S, at_, ?_⟩
  have key : ∀ (res : Res (List PV)), Good Z W σ Reps w (fun vs H1 => TIA Z W .nil σ H1 fun zs H2 => vs.length = n ∧ zs.length = 0 ∧ spI Z (Z.C.G f) ps.length (gV vs zs) H2 Q (WE W σ)) res → Good Z W σ Reps w (fun vs H1 => tNil σ H1 fun zs H2 => vs.length = n ∧ zs.length = 0 ∧ spI Z (Z.C.G f) ps.length (gV vs zs) H2 Q (WE W σ)) res := fun res g => by
    cases res with
    | ok q S1 => exact fun u vs e1 h1 r1 => nilK (g u vs e1 h1 r1)
    | exc c v S1 => exact g
    | bad => exact g
  exact key _ g2
theorem snd_call0 (hC : Callee X Z x 0 [] f perm) (tk : Takes X W) (hg : Gl X x) (hdb : (x == ("__debug__" : Str)) = false) : PE X (.Call (.Name x p) [] [] pos) (TI Z W (.call f perm .nil)) := by
  obtain ⟨k, fa, fd, ps, F, hr, hm, hk, ⟨g, gV, hb, hp⟩⟩ := hC.go
  refine (pe_cg0 F hr hg hm hk hb (fun σ => passAt tk σ) hdb).imp fun σ H Q h => ?_
  have h2 := call_read (ma := .nil) (mk := .nil) (ks := []) (n := 0) rfl rfl hp h
  have h3 : TIA Z W .nil σ H fun zs H2 => ([] : List V).length = 0 ∧ zs.length = 0 ∧ spI Z (Z.C.G f) ps.length (gV [] zs) H2 Q (WE W σ) := nilK h2
  exact (show tNil σ H fun zs H2 => ([] : List V).length = 0 ∧ zs.length = 0 ∧ spI Z (Z.C.G f) ps.length (gV [] zs) H2 Q (WE W σ) from nilK h3)
theorem snd_knil : PK X [] (TIA Z W .nil) := ⟨fun pos pins s σ H Q I h => pk_nil.run pos pins s σ H Q I (nilK h)⟩
theorem snd_kcons {nm : Option Str} {kpos : Pos} (ha : PE X a (TI Z W ma)) (hb : PK X kws (TIA Z W mk)) : PK X (⟨nm, a, kpos⟩ :: kws) (TIA Z W (.cons ma mk)) := ⟨fun pos pins s σ H Q I h => (pk_cons ha hb).run pos pins s σ H Q I (by
  obtain ⟨w, r, S, at_, g⟩ := h
  rw [evalEs] at g
  refine ⟨w, r, S, at_, g.bindI fun u x p S1 e1 h1 r1 g1 => ?_⟩
  refine ⟨u, r, S1, at_.next e1 h1, g1.bindI fun t y q S2 e2 h2 r2 g2 => ?_⟩
  exact g2 t _ (Ext.refl t) h2 (.cons (r1.mono e2) r2))⟩
theorem snd_callk (hC : Callee X Z x n ks f perm) (tk : Takes X W) (hg : Gl X x) (ha : PA X (e :: es) (TIA Z W ms)) (hkw : PK X kws (TIA Z W mk)) (hn : lenMs ms = n) (hm : lenMs mk = ks.length) (hall : (backToKw pos (keywordEach kws X.env)).all (·.1.isSome) = true) (hks : (backToKw pos (keywordEach kws X.env)).filterMap (·.1) = ks)
    (hdb : (x == ("__debug__" : Str)) = false) (he : starEach (e :: es) X.env = (false, eval e X.env) :: starEach es X.env)
    (hpl : ((backTo pos (starEach (e :: es) X.env)).any (·.1) || (backToKw pos (keywordEach kws X.env)).any (·.1.isNone)) = false) : PE X (.Call (.Name x p) (e :: es) kws pos) (TI Z W (.call f perm (appMs ms mk))) := by
  obtain ⟨k, fa, fd, ps, F, hr, hmg, hk, ⟨g, gV, hb, hp⟩⟩ := hC.go
  exact (pe_cgk F hr hg hmg hk hb (fun σ => passAt tk σ) ha hkw hall hks hdb he hpl).imp fun σ H Q h => call_read hn hm hp h
/-- f(k = v, ..) -/
theorem snd_callk0 (hC : Callee X Z x 0 ks f perm) (tk : Takes X W) (hg : Gl X x) (hkw : PK X kws (TIA Z W mk)) (hm : lenMs mk = ks.length) (hall : (backToKw pos (keywordEach kws X.env)).all (·.1.isSome) = true) (hks : (backToKw pos (keywordEach kws X.env)).filterMap (·.1) = ks)
    (hdb : (x == ("__debug__" : Str)) = false)
    (hpl : ((backTo pos (starEach [] X.env)).any (·.1) || (backToKw pos (keywordEach kws X.env)).any (·.1.isNone)) = false) : PE X (.Call (.Name x p) [] kws pos) (TI Z W (.call f perm mk)) := by
  obtain ⟨k, fa, fd, ps, F, hr, hmg, hk, ⟨g, gV, hb, hp⟩⟩ := hC.go
  refine ⟨fun pins s σ H Q I h => ?_⟩
  have h2 : TIA Z W .nil σ H fun vs H1 => TIA Z W mk σ H1 fun zs H2 => vs.length = 0 ∧ zs.length = ks.length ∧ spI Z (Z.C.G f) ps.length (gV vs zs) H2 Q (WE W σ) := call_read (ma := .nil) (n := 0) rfl hm hp h
  have h3 := nilK h2
  refine wpAny_Call_Name_kw (ld_glob I hg hmg ?_ hdb)
  refine PySem.W.callWith_KW0 (h₀ := X.base) I.ok.mod.kin hk hall (thn (hkw.run pos pins s σ H _ I h3) fun ws s2 ⟨zs, H2, I2, rz, q2⟩ => ⟨I2.kIn, ?_⟩) hpl
  obtain ⟨l1, l2, q2⟩ := q2
  rw [hks]
  exact run_fnG (us := []) (vs := []) F hr hb (passAt tk σ) I2 .nil rz l1 l2 q2
end
/-! ### raise -/
/-- a class of exceptions that is made by one argument -/
def tMkX (Z : Xc) (c : Nat) (te : TE) : St → Hp → XK → Prop := fun σ H Q => te σ H fun v H1 => ∀ d, H1 d = none → Q (.ref (Z.cl c)) (some d) (upd H1 d (.xd [(Z.fd c, v)]))
section
variable {X : Cx} {Z : Xc} {W : WX} {e : Expr} {me : ME} {c : Nat} {pos : Pos}
theorem snd_raise (hc : X.calm = true) (tk : Takes X W) (he : PMk X e (tMkX Z c (TI Z W me))) : PS X (.Raise (some e) none pos) (TSS Z W (.raise c me)) := by
  refine (ps_raise hc tk he).imp fun D σ H h => ?_
  obtain ⟨w, r, S, at_, g⟩ := h
  rw [evalS] at g
  refine ⟨w, r, S, at_, GoodS.to at_ g fun u v p S1 he e1 h1 r1 g1 => ?_⟩
  intro d hd
  obtain ⟨h2, e2⟩ := h1.laid (o := .xd [(Z.fd c, v)]) hd
  exact g1 _ σ d v e2 ((at_.next e1 h1).next e2 h2) upd_same (r1.mono e2) (h1.notPhi hd)
end
/-! ### try -/
/-- the clauses: a class, the slot of the name, the suite's reading -/
abbrev HdL := List (Value × Option Nat × (Addr → Value → Option Addr → TS))
def unsetD (i : Nat) (D : Ends) : Ends := { nx := fun σ' H' => D.nx (σ'.set i none) H', rt := D.rt, bk := fun σ' H' => D.bk (σ'.set i none) H', ct := fun σ' H' => D.ct (σ'.set i none) H' }
def wMg (K : PySem.W.Frag) (Wout : WX) (D : Ends) : HdL → WX
  | [] => Wout
  | (c, none, ts) :: r => fun cls d σ H => ∃ b, PySem.W.exmOne K cls c = some b ∧ (b = true → ∀ a, H a = none → ts a cls d D σ H) ∧ (b = false → wMg K Wout D r cls d σ H)
  | (c, some i, ts) :: r => fun cls d σ H => ∃ b, PySem.W.exmOne K cls c = some b ∧ (b = true → ∀ a, H a = none → ts a cls d (unsetD i D) (σ.set i (some (.ref a))) H) ∧ (b = false → wMg K Wout D r cls d σ H)
inductive HdsG (X : Cx) : List ExceptHandler → HdL → Prop
  | nil : HdsG X [] []
  | cons {x : Str} {c : Value} {ts : Addr → Value → Option Addr → TS} {b₀ : Stmt} {suite : List Stmt} {np pos' : Pos} {hds : List ExceptHandler} {l : HdL} (hc : Names X x c)
      (hsu : ∀ (a : Addr) (oe : Obj) (cls : Value) (d : Option Addr) (pn : List (Addr × Obj)), Zc cls d oe → (∃ vs, oe.data = .fields vs) → PSs (X.suite a ((a, oe) :: pn)) (b₀ :: suite) (ts a cls d)) (r : HdsG X hds l) :
      HdsG X (.ExceptHandler (some (.Name x np)) none (b₀ :: suite) pos' :: hds) ((c, none, ts) :: l)
  | consAs {x n : Str} {i : Nat} {c : Value} {ts : Addr → Value → Option Addr → TS} {b₀ : Stmt} {suite : List Stmt} {np pos' : Pos} {hds : List ExceptHandler} {l : HdL} (hc : Names X x c) (hi : X.N[i]? = some n) (hln : X.env.kindOf n = some .local)
      (hsu : ∀ (a : Addr) (oe : Obj) (cls : Value) (d : Option Addr) (pn : List (Addr × Obj)), Zc cls d oe → (∃ vs, oe.data = .fields vs) → PSs (X.suite a ((a, oe) :: pn)) (b₀ :: suite) (ts a cls d)) (r : HdsG X hds l) :
      HdsG X (.ExceptHandler (some (.Name x np)) (some n) (b₀ :: suite) pos' :: hds) ((c, some i, ts) :: l)
section
variable {X : Cx} {body : List Stmt} {h₀ : ExceptHandler} {hds : List ExceptHandler} {l : HdL} {pos : Pos} {tb : WX → TS} {Wout : WX}
theorem ps_try_g (hs : X.stack = X.env :: X.outer) (hf : X.env.frame = some X.env.locals) (hN : X.N.Nodup) (tk : Takes X Wout)
    (hb : ∀ (W : WX) (pn : List (Addr × Obj)) (xe : Value → Shared → Prop), Takes (X.tr pn xe) W → PassesOwn (model X.prog X.w) X.A X.env xe → PSs (X.tr pn xe) body (tb W))
    (hh : HdsG X (h₀ :: hds) l) : PS X (.Try body (h₀ :: hds) [] [] pos) (fun D σ H => tb (wMg X.K Wout D l) D σ H) := by
  refine ⟨fun pins s σ H D I h => ?_⟩
  have ok := I.ok
  have hfr : X.A.frames = some (X.env :: X.outer) := by rw [ok.frames, hs]
  refine wpAny_Try_except ?_
  refine wpAny_mono ((hb (wMg X.K Wout D l) (X.pn ++ pins) (fun e s₁ => wpAny (model X.prog X.w) X.A (noteFrame e X.env) (fun _ s₂ => wpAny (model X.prog X.w) X.A (setFlight e none) (fun _ s₃ =>
    wpAny (model X.prog X.w) X.A (handleBy e X.env (h₀ :: hds)) (SP X pins D) X.xe s₃) X.xe s₂) X.xe s₁) (fun u s' xx => ?_) PassesOwn.looking).run [] s σ H D (I.toTry _) h) (fun f s1 hsp => ?_) (fun e s1 he => he)
  · -- the catch
    obtain ⟨a, B, sI, pins', σ', H', cls, d, rfl, J', nb, up, sky, na, os, ag, w⟩ := xx
    have J : Inv X pins σ' H' sI := J'.ofTry ok
    have sky' : Sky B (X.env :: X.outer) a (Zc cls d) X.env.locals s'.heap := by rw [← hs]; exact sky
    show wpAny (model X.prog X.w) X.A (noteFrame (.ref a) X.env) _ _ _
    refine Sky.land Zc.steady hfr hf sky' fun h3 fl3 up3 => ?_
    have J3 : Inv X pins σ' H' { s' with heap := h3 } := J.landed nb fl3.1 (up.trans up3) os ag
    obtain ⟨oe3, vs3, he3, hz3, hd3⟩ := fl3.there
    have notFr : ∀ {h : Heap} {o : Obj} {vs : Array Value}, h.FunFrames B (X.env :: X.outer) → h.get? a = some o → o.data = .fields vs → a ∉ frs (X.env :: X.outer) := fun {h o vs} ff e dd hm => by
      obtain ⟨_, o', e', hnf⟩ := ff.mem hm
      rw [e] at e'; cases e'
      exact hnf _ dd
    have nfr := notFr fl3.2.2.1 he3 hd3
    have nL : a ≠ X.env.locals := fun z => nfr (List.mem_filterMap.mpr ⟨X.env, List.mem_cons_self, by rw [hf, z]⟩)
    have nF : a ∉ X.fs := fun hm => by
      obtain ⟨e, he, q⟩ := List.mem_filterMap.mp hm
      exact nfr (List.mem_filterMap.mpr ⟨e, List.mem_cons_of_mem _ he, q⟩)
    have S3 := J3.suite he3 hd3 na nL nF
    have LT : PySem.W.Looks (model X.prog X.w) h3 (typeOf (.ref a)) cls := fun A Q E s k q => wpAny_typeOf_ref (k _ _ he3) (by rw [hz3.1]; exact q)
    have test : ∀ {x : Str} {c : Value} {np : Pos} {Q : Value → Shared → Prop} {E : Value → Shared → Prop}, Names X x c → Q c { s' with heap := h3 } → wpAny (model X.prog X.w) (X.A.mark (some (.ref a))) (eval (.Name x np) X.env) Q E { s' with heap := h3 } := fun {x c np Q E} hc q => by
      obtain ⟨hg, hdbg, hm | ⟨hm, hv, hnn⟩⟩ := hc
      · exact ld_glob (X := X.suite a ((a, oe3) :: (X.pn ++ pins))) S3 hg hm q hdbg
      · exact ld_blt (X := X.suite a ((a, oe3) :: (X.pn ++ pins))) S3 hg hm hv q hnn hdbg
    have go : ∀ {hds' : List ExceptHandler} {l' : HdL}, HdsG X hds' l' → wMg X.K Wout D l' cls d σ' H' →
        wpAny (model X.prog X.w) X.A (handleBy (.ref a) X.env hds') (SP X pins D) X.xe { s' with heap := h3 } := by
      intro hds' l' hk
      induction hk with
      | nil =>
        intro w
        refine wpAny_handleBy_nil ?_
        obtain ⟨k1, k2, k3, oe, vs, T, oT, ts', he, hz, hd, h1, hr⟩ := id fl3
        unfold PySem.passOn
        refine wpAny_bind (wpAny_field he hd h1 ?_)
        rw [if_neg (show ¬ ((Value.ref T == Value.none) = true) from by simp)]
        have fin : wpAny (model X.prog X.w) X.A (setFlight (.ref a) X.env.frame) (fun _ s4 => wpAny (model X.prog X.w) X.A (throw (.ref a) : Sem Flow) (SP X pins D) X.xe s4) X.xe { s' with heap := h3 } := by
          rw [hf]
          refine HandSPX.setFlight_upZ fl3 fun h4 hh4 up4 => wpAny_throw (tk _ _ ?_)
          exact ⟨a, B, sI, pins, σ', H', cls, d, rfl, J, nb, (up.trans up3).trans up4, .inr (.inr (by rw [hs]; exact hh4)), na, os, ag, w⟩
        first
          | exact wpAny_bind (wpAny_pure (wpAny_bind fin))
          | exact wpAny_bind fin
      | @cons x c ts b₀ suite np pos' hds2 l2 hc hsu r ih =>
        intro w
        obtain ⟨b, hb1, hyes, hno⟩ := w
        refine wpAny_handleBy_cons (codeAny_handlers_test ?_) (by intro q; cases q)
        have LM := PySem.W.exm_one (M := model X.prog X.w) (J3.kIn) LT hb1
        refine test hc (LM.here ?_)
        cases b with
        | true =>
          refine codeAny_handlers_suite ?_
          refine HandSPX.lands_againZ fl3 fun h4 fl4 up4 => ?_
          have J4 : Inv X pins σ' H' { s' with heap := h4 } := J.landed nb fl4.1 ((up.trans up3).trans up4) os ag
          obtain ⟨oe4, vs4, he4, hz4, hd4⟩ := fl4.there
          have S4 := J4.suite he4 hd4 na nL nF
          refine wpAny_mono ((hsu a oe4 cls d (X.pn ++ pins) hz4 ⟨_, hd4⟩).run [] _ _ H' _ S4 (hyes rfl a na)) (fun f s6 hsp => ?_) (fun _ _ z => False.elim z)
          cases f with
          | next =>
            obtain ⟨σ6, H6, S6, q6⟩ := hsp
            exact ⟨_, _, S6.unsuite ok, q6⟩
          | brk =>
            obtain ⟨σ6, H6, S6, q6⟩ := hsp
            exact ⟨_, _, S6.unsuite ok, q6⟩
          | cont =>
            obtain ⟨σ6, H6, S6, q6⟩ := hsp
            exact ⟨_, _, S6.unsuite ok, q6⟩
          | ret u =>
            obtain ⟨v6, σ6, H6, S6, r6, q6⟩ := hsp
            exact ⟨_, _, _, S6.unsuite ok, r6, q6⟩
        | false =>
          show wpAny _ X.A (handleBy (.ref a) X.env hds2) _ _ _
          exact ih (hno rfl)
      | @consAs x n i c ts b₀ suite np pos' hds2 l2 hc hi hln hsu r ih =>
        intro w
        obtain ⟨b, hb1, hyes, hno⟩ := w
        refine wpAny_handleBy_cons (codeAny_handlers_test ?_) (by intro q; cases q)
        have LM := PySem.W.exm_one (M := model X.prog X.w) (J3.kIn) LT hb1
        refine test hc (LM.here ?_)
        cases b with
        | true =>
          refine codeAny_handlers_suite_as ?_
          refine HandSPX.lands_againZ fl3 fun h4 fl4 up4 => ?_
          have J4 : Inv X pins σ' H' { s' with heap := h4 } := J.landed nb fl4.1 ((up.trans up3).trans up4) os ag
          obtain ⟨oe4, vs4, he4, hz4, hd4⟩ := fl4.there
          have S4 := J4.suite he4 hd4 na nL nF
          refine store_ok (X := X.suite a ((a, oe4) :: (X.pn ++ pins))) (v := .ref a) S4 hN hi (.inl hln) rfl (fun s5 S5 => ?_) (.inr hln)
          refine wpAny_mono ((hsu a oe4 cls d (X.pn ++ pins) hz4 ⟨_, hd4⟩).run [] s5 _ H' _ S5 (hyes rfl a na)) (fun f s6 hsp => ?_) (fun _ _ z => False.elim z)
          have end_ : ∀ {σ6 : St} {H6 : Hp} {Q : Shared → Prop}, Inv (X.suite a ((a, oe4) :: (X.pn ++ pins))) [] σ6 H6 s6 → (∀ s7, Inv X pins (σ6.set i none) H6 s7 → Q s7) →
              wpAny (model X.prog X.w) X.A (do bindName X.env n .none; unbindBehindTheSuite X.env n pos') (fun _ s7 => Q s7) X.xe s6 := fun {σ6 H6 Q} S6 hq => gone_ok (S6.unsuite ok) hN hi hln hq
          cases f with
          | next =>
            obtain ⟨σ6, H6, S6, q6⟩ := hsp
            exact end_ S6 fun s7 J7 => ⟨_, _, J7, q6⟩
          | brk =>
            obtain ⟨σ6, H6, S6, q6⟩ := hsp
            exact end_ S6 fun s7 J7 => ⟨_, _, J7, q6⟩
          | cont =>
            obtain ⟨σ6, H6, S6, q6⟩ := hsp
            exact end_ S6 fun s7 J7 => ⟨_, _, J7, q6⟩
          | ret u =>
            obtain ⟨v6, σ6, H6, S6, r6, q6⟩ := hsp
            exact end_ S6 fun s7 J7 => ⟨_, _, _, J7, r6, q6⟩
        | false =>
          show wpAny _ X.A (handleBy (.ref a) X.env hds2) _ _ _
          exact ih (hno rfl)
    exact go hh w
  · cases f with
    | next =>
      obtain ⟨σ', H', J', q⟩ := hsp
      exact wpAny_execs_nil ⟨σ', H', J'.ofTry ok, q⟩
    | brk =>
      obtain ⟨σ', H', J', q⟩ := hsp
      exact ⟨σ', H', J'.ofTry ok, q⟩
    | cont =>
      obtain ⟨σ', H', J', q⟩ := hsp
      exact ⟨σ', H', J'.ofTry ok, q⟩
    | ret u =>
      obtain ⟨v, σ', H', J', r, q⟩ := hsp
      exact ⟨v, σ', H', J'.ofTry ok, r, q⟩
end
end Dg
end

section
set_option Elab.async false
set_option linter.all false
set_option maxRecDepth 100000
set_option maxHeartbeats 4000000
/-! DgO: try by plain values. -/
namespace Dg
open PySem PySem.Spec L2
open PyProof.Rows hiding St

theorem _root_.L2.PSs.ex {X : Cx} {st : List Stmt} {ι : Type} {p : ι → Prop} {t : ι → TS} (h : ∀ i, p i → PSs X st (t i)) : PSs X st (fun D σ H => ∃ i, p i ∧ t i D σ H) := ⟨fun pins s σ H D I ⟨i, hp, q⟩ => (h i hp).run pins s σ H D I q⟩
/-- the context of an except suite's expressions -/
def Zh (Z : Xc) (c : Nat) (av : PV) (a : Addr) (d : Option Addr) (i : Nat) : Xc := { Z with C := { Z.C with hx := some (c, av) }, hs := i, pin := fun x c' d' => x = a ∧ c' = c ∧ d = some d' }
def tEnd (t : Option Nat) (D : Ends) (σ : St) (x : V) (H : Hp) : Prop := match t with
  | some j => D.nx (σ.set j (some x)) H
  | none => D.rt x H
/-- a suite of one statement, the name at slot i -/
def tSuA (Z : Xc) (okc : Nat → Prop) (i : Nat) (t : Option Nat) (e : ME) : Addr → Value → Option Addr → TS := fun a cls d D σ H => ∃ p : Nat × PV, (cls = .ref (Z.cl p.1) ∧ okc p.1) ∧ TI (Zh Z p.1 p.2 a d i) WF e σ H (tEnd t D σ)
def tSu0 (Z : Xc) (t : Option Nat) (e : ME) : Addr → Value → Option Addr → TS := fun a cls d D σ H => TI Z WF e σ H (tEnd t D σ)
def hdR (Z : Xc) (okc : Nat → Nat → Prop) : MHd → Value × Option Nat × (Addr → Value → Option Addr → TS)
  | .mk c none t e => (.ref (Z.cl c), none, tSu0 Z t e)
  | .mk c (some i) t e => (.ref (Z.cl c), some i, tSuA Z (okc c) i t e)
section
variable {X : Cx} {Z : Xc} {W : WX} {okc : Nat → Nat → Prop}
theorem GoodS.end0 {D : Ends} {w : Wd} {σ : St} {H : Hp} {t : Option Nat} {r : PEnv} {S : Store} {res : Res PV} (hx : Z.C.hx = none) (at_ : At Z σ H w r S) (g : GoodS Z W D w (match res with
      | .ok v S1 => match t with
        | some j => .nx (r.set j (some v)) S1
        | none => .ret v S1
      | _ => .bad)) : Good Z WF σ Rep w (tEnd t D σ) res := by
  cases res with
  | bad => exact g
  | exc c a S => exact g.elim
  | ok v S1 =>
    intro u x e1 h1 r1
    cases t with
    | none => exact g u x e1 h1 r1
    | some j => exact g u _ e1 ((at_.next e1 h1).set hx j r1)
theorem handle_ok {D : Ends} (hx : Z.C.hx = none) (hsub : ∀ c c' b, Z.C.sub c c' = some b → PySem.W.exmOne X.K (.ref (Z.cl c)) (.ref (Z.cl c')) = some b) (hok : ∀ c c', Z.C.sub c c' = some true → okc c' c) :
    ∀ {hs : List MHd} {c : Nat} {a : PV} {r : PEnv} {S : Store} {u : Wd} {σ : St} {d : Addr} {va : V}, At Z σ u.H u r S → u.H d = some (.xd [(Z.fd c, va)]) → Rep u va a → ¬ u.phi d →
    GoodS Z W D u (handle Z.C c a r S hs) → wMg X.K W D (hs.map (hdR Z okc)) (.ref (Z.cl c)) (some d) σ u.H
  | [], c, a, r, S, u, σ, d, va, at_, hd, rv, np, g => by
    rw [handle] at g
    exact g u σ d va (Ext.refl u) at_ hd rv np
  | .mk c' none t e :: hs, c, a, r, S, u, σ, d, va, at_, hd, rv, np, g => by
    rw [handle] at g
    by_cases hb : Z.C.sub c c' = some true
    · rw [if_pos hb] at g
      exact ⟨true, hsub c c' _ hb, fun _ a0 _ => ⟨u, r, S, at_, GoodS.end0 hx at_ g⟩, fun z => by cases z⟩
    · rw [if_neg hb] at g
      by_cases hb2 : Z.C.sub c c' = some false
      · rw [if_pos hb2] at g
        exact ⟨false, hsub c c' _ hb2, (fun z => by cases z), fun _ => handle_ok hx hsub hok at_ hd rv np g⟩
      · rw [if_neg hb2] at g
        exact g.elim
  | .mk c' (some i) t e :: hs, c, a, r, S, u, σ, d, va, at_, hd, rv, np, g => by
    rw [handle] at g
    by_cases hb : Z.C.sub c c' = some true
    · rw [if_pos hb] at g
      refine ⟨true, hsub c c' _ hb, fun _ a0 _ => ?_, fun z => by cases z⟩
      split at g
      · rename_i hi
        have hl : i < σ.length := by rw [at_.e.1]; exact hi.1
        have at2 : At (Zh Z c a a0 (some d) i) (σ.set i (some (.ref a0))) u.H u (r.set i none) S :=
          ⟨rfl, at_.K, at_.e.unset i _, at_.h, by
            show ∃ (x d' : Addr) (va : V), (σ.set i (some (.ref a0)))[i]? = some (some (.ref x)) ∧ (x = a0 ∧ c = c ∧ some d = some d') ∧ u.H d' = some (.xd [(Z.fd c, va)]) ∧ ¬ u.phi d' ∧ Rep u va a
            exact ⟨a0, d, va, List.getElem?_set_self hl, ⟨rfl, rfl, rfl⟩, hd, np, rv⟩, at_.i⟩
        refine ⟨(c, a), ⟨rfl, hok c c' hb⟩, u, r.set i none, S, at2, ?_⟩
        show Good (Zh Z c a a0 (some d) i) WF _ Rep u _ (evalE { Z.C with hx := some (c, a) } e (r.set i none) S)
        cases q : evalE { Z.C with hx := some (c, a) } e (r.set i none) S with
        | bad => rw [q] at g; exact g
        | exc c a S => rw [q] at g; exact g.elim
        | ok v S1 =>
          rw [q] at g
          intro u2 x e1 h1 r1
          have at3 := at2.next e1 h1
          cases t with
          | none => exact g u2 x e1 h1 r1
          | some j =>
            have hij : i ≠ j := fun z => hi.2 (by rw [z])
            have er := at3.e.set j r1
            refine g u2 _ e1 ⟨rfl, at3.K, ⟨?_, fun k y hk => ?_⟩, h1, by unfold HX; rw [hx]; trivial, at3.i⟩
            · rw [List.length_set]; exact er.1
            · have hki : i ≠ k := fun z => by
                subst z
                have hk' : ((r.set i none).set j (some v))[i]? = some (some y) := hk
                rw [List.getElem?_set_ne (Ne.symm hij), List.getElem?_set_self hi.1] at hk'
                cases hk'
              rw [List.getElem?_set_ne hki]
              exact er.2 k y hk
      · exact g.elim
    · rw [if_neg hb] at g
      by_cases hb2 : Z.C.sub c c' = some false
      · rw [if_pos hb2] at g
        exact ⟨false, hsub c c' _ hb2, (fun z => by cases z), fun _ => handle_ok hx hsub hok at_ hd rv np g⟩
      · rw [if_neg hb2] at g
        exact g.elim
theorem snd_try {body : List Stmt} {h₀ : ExceptHandler} {hds : List ExceptHandler} {pos : Pos} {mb : MSs} {hs : List MHd} (hst : X.stack = X.env :: X.outer) (hf : X.env.frame = some X.env.locals) (hN : X.N.Nodup) (tk : Takes X W) (hx : Z.C.hx = none)
    (hsub : ∀ c c' b, Z.C.sub c c' = some b → PySem.W.exmOne X.K (.ref (Z.cl c)) (.ref (Z.cl c')) = some b) (hok : ∀ c c', Z.C.sub c c' = some true → okc c' c)
    (hb : ∀ (W : WX) (pn : List (Addr × Obj)) (xe : Value → Shared → Prop), Takes (X.tr pn xe) W → PassesOwn (model X.prog X.w) X.A X.env xe → PSs (X.tr pn xe) body (TSSs Z W mb))
    (hh : HdsG X (h₀ :: hds) (hs.map (hdR Z okc))) : PS X (.Try body (h₀ :: hds) [] [] pos) (TSS Z W (.try_ mb hs)) := by
  refine (ps_try_g (tb := fun W => TSSs Z W mb) hst hf hN tk hb hh).imp fun D σ H h => ?_
  obtain ⟨w, r, S, at_, g⟩ := h
  rw [evalS] at g
  refine ⟨w, r, S, at_, ?_⟩
  cases q : evalSs Z.C mb r S with
  | bad => rw [q] at g; exact g
  | nx r2 S2 => rw [q] at g; exact g
  | ret v S2 => rw [q] at g; exact g
  | brk r2 S2 => rw [q] at g; exact g
  | ct r2 S2 => rw [q] at g; exact g
  | exc c a r2 S2 =>
    rw [q] at g
    exact fun u σ2 d va e1 a1 hd rv np => handle_ok hx hsub hok a1 hd rv np (GoodS.mono e1 g)
/-! ### the suites -/
variable {a : Addr} {oe : Obj} {cls : Value} {d : Option Addr} {pn : List (Addr × Obj)} {e : Expr} {me : ME} {pos p pos' : Pos} {x n f : Str} {i j c : Nat} {av : PV}
/-- e.f, e the exception's name -/
theorem snd_exarg (T : XfC X.K (Z.cl c)) (hno : PySem.W.findIn X.K (.ref (Z.cl c)) f = some none) (hfd : Z.fd c = f) (hz : Zc (.ref (Z.cl c)) d oe) (hf : ∃ vs, oe.data = .fields vs) (hN : X.N[i]? = some n) (hv : Vis X.env.scope n) (hd : (n == ("__debug__" : Str)) = false) (hcd : (n == ("__classdict__" : Str)) = false)
    (hb : attributeBase (.Name n p) f X.env (eval (.Name n p) X.env) = eval (.Name n p) X.env) : PE (X.suite a ((a, oe) :: pn)) (.Attribute (.Name n p) f pos) (TI (Zh Z c av a d i) W .exarg) := by
  refine (pe_xf (cls := .ref (Z.cl c)) T hno hz hf (pe_var (X := X.suite a ((a, oe) :: pn)) hN hv hd hcd) hb).imp fun σ H Q h => ?_
  obtain ⟨w, r, S, at_, g⟩ := h
  rw [evalE] at g
  obtain ⟨x, dd, va, h1, ⟨h2, _, h3⟩, h4, h5, h6⟩ := (show ∃ (x d' : Addr) (va : V), σ[i]? = some (some (.ref x)) ∧ (x = a ∧ c = c ∧ d = some d') ∧ w.H d' = some (.xd [(Z.fd c, va)]) ∧ ¬ w.phi d' ∧ Rep w va av from at_.x)
  subst h2
  have eH := at_.H
  subst eH
  refine ⟨_, h1, rfl, rfl, dd, _, va, h3, h4, by rw [hfd]; simp [List.lookup], ?_⟩
  exact g w va (Ext.refl w) at_.h h6
theorem suite_one {y : Str} (hN : X.N.Nodup) (hj : X.N[j]? = some y) (hl : Loc X.env.scope y) (hf : X.fn y = true ∨ X.env.scope.names.lookup y = some .local) {te : TE} (he : PE (X.suite a ((a, oe) :: pn)) e te) (hs : swapsWith e (some (.Name y pos')) pos.line X.env = pure false) :
    PSs (X.suite a ((a, oe) :: pn)) [.Assign [.Name y pos'] e pos] (fun D σ H => te σ H (tEnd (some j) D σ)) :=
  pss_one (ps_set (X := X.suite a ((a, oe) :: pn)) hN hj hl he hs hf)
theorem suite_ret {te : TE} (he : PE (X.suite a ((a, oe) :: pn)) e te) : PSs (X.suite a ((a, oe) :: pn)) [.Return (some e) pos] (fun D σ H => te σ H (tEnd none D σ)) := pss_one (ps_ret he)
end
end Dg
end

section
set_option Elab.async false
set_option linter.all false
set_option maxRecDepth 100000
set_option maxHeartbeats 4000000
/-! DgP: the translation of expressions, sound. -/
namespace Dg
open PySem PySem.Spec L2
open PyProof.Rows hiding St

/-! ### what is seen of the text -/
def noStar : Expr → Bool
  | .Starred .. => false
  | _ => true
theorem starEach_ns {a : Expr} {es : List Expr} {env : Env} (h : noStar a = true) : starEach (a :: es) env = (false, eval a env) :: starEach es env := by
  cases a <;> first | rfl | (cases h)
theorem back_ns {env : Env} {pos : Pos} : ∀ {es : List Expr}, es.all noStar = true → (backTo pos (starEach es env)).any (·.1) = false
  | [], _ => rfl
  | a :: es, h => by
    rw [List.all_cons, Bool.and_eq_true] at h
    rw [starEach_ns h.1]
    show (false || (backTo pos (starEach es env)).any (·.1)) = false
    rw [back_ns h.2]; rfl
theorem back_all {env : Env} {pos : Pos} : ∀ {es : List Expr}, es.all noStar = true → (backTo pos (starEach es env)).all (fun x => !x.1) = true
  | [], _ => rfl
  | a :: es, h => by
    rw [List.all_cons, Bool.and_eq_true] at h
    rw [starEach_ns h.1]
    show (true && (backTo pos (starEach es env)).all (fun x => !x.1)) = true
    rw [back_all h.2]; rfl
def kwNames : List Keyword → Option (List Str)
  | [] => some []
  | ⟨some n, _, _⟩ :: r => (kwNames r).map (n :: ·)
  | _ => none
theorem kw_all {env : Env} {pos : Pos} : ∀ {kws : List Keyword} {ks : List Str}, kwNames kws = some ks → (backToKw pos (keywordEach kws env)).all (·.1.isSome) = true ∧ (backToKw pos (keywordEach kws env)).filterMap (·.1) = ks ∧ (backToKw pos (keywordEach kws env)).any (·.1.isNone) = false
  | [], ks, h => by cases h; exact ⟨rfl, rfl, rfl⟩
  | ⟨none, _, _⟩ :: r, ks, h => by cases h
  | ⟨some n, e, p⟩ :: r, ks, h => by
    unfold kwNames at h
    cases q : kwNames r with
    | none => rw [q] at h; cases h
    | some l =>
      rw [q] at h
      cases h
      obtain ⟨h1, h2, h3⟩ := kw_all (env := env) (pos := pos) q
      refine ⟨?_, ?_, ?_⟩
      · show (true && (backToKw pos (keywordEach r env)).all (·.1.isSome)) = true
        rw [h1]; rfl
      · show n :: (backToKw pos (keywordEach r env)).filterMap (·.1) = _
        rw [h2]
      · show (false || (backToKw pos (keywordEach r env)).any (·.1.isNone)) = false
        rw [h3]; rfl
/-- not a call: super() has its own road -/
def noCall : Expr → Bool
  | .Call .. => false
  | _ => true
theorem base_nc {o : Expr} {attr : Str} {env : Env} {whole : Sem Value} (h : noCall o = true) : attributeBase o attr env whole = whole := by
  cases o <;> first | rfl | (cases h)
def noSet : Expr → Bool
  | .Set .. => false
  | _ => true
theorem folded_ns {e : Expr} {env : Env} (h : noSet e = true) (x : Value) : foldedSetIterable e env x = pure x := by
  cases e <;> first | rfl | (cases h)
theorem behind_ns {e : Expr} {op : CmpOp} (h : noSet e = true) : behindInMarks op e = false := by
  cases e <;> first | rfl | (cases h)
def noSlice : Expr → Bool
  | .Slice .. => false
  | _ => true
theorem plainIx_ns {e : Expr} (h : noSlice e = true) : PlainIx e := fun o i => by
  cases e <;> first | rfl | (cases h)
/-- truth of the whole value -/
def plainT : Expr → Bool
  | .BoolOp .. => false
  | .UnaryOp .Not _ _ => false
  | .IfExp .. => false
  | .Compare .. => false
  | _ => true
theorem plainT_ok {e : Expr} {env : Env} (h : plainT e = true) : ∀ whole, isTrue e env whole = (do let v ← whole; standAt e.pos; holding [v] (truthy v)) := fun whole => by
  cases e with
  | UnaryOp op a p => cases op <;> first | rfl | (cases h)
  | BoolOp => cases h
  | IfExp => cases h
  | Compare => cases h
  | _ => rfl
def idx (x : Str) : List Str → Option Nat
  | [] => none
  | y :: r => if y = x then some 0 else (idx x r).map (· + 1)
theorem idx_ok {x : Str} : ∀ {N : List Str} {i : Nat}, idx x N = some i → N[i]? = some x
  | [], _, h => by cases h
  | y :: r, i, h => by
    unfold idx at h
    split at h
    · rename_i e; cases h; rw [e]; rfl
    · cases q : idx x r with
      | none => rw [q] at h; cases h
      | some j =>
        rw [q] at h; cases h
        show r[j]? = some x
        exact idx_ok q
theorem idx_none {x : Str} : ∀ {N : List Str}, idx x N = none → x ∉ N
  | [], _ => by simp
  | y :: r, h => by
    unfold idx at h
    split at h
    · cases h
    · rename_i e
      cases q : idx x r with
      | none => exact fun z => (List.mem_cons.mp z).elim (fun z => e z.symm) (idx_none q)
      | some j => rw [q] at h; cases h
def visB (sc : Scope) (x : Str) : Bool := match sc.names.lookup x with
  | some .local => true
  | some .cell => true
  | some .free => true
  | _ => false
theorem visB_ok {sc : Scope} {x : Str} (h : visB sc x = true) : Vis sc x := by
  unfold visB at h
  unfold Vis
  split at h <;> first | (rename_i e; rw [e]; simp) | cases h
def glB (sc : Scope) (x : Str) : Bool := match sc.names.lookup x with
  | some .globalImplicit => true
  | _ => false
theorem glB_ok {X : Cx} {sc : Scope} {x : Str} (e : X.env.scope = sc) (h : glB sc x = true) : Gl X x := by
  unfold glB at h
  unfold Gl Env.kindOf
  rw [e]
  split at h
  · assumption
  · cases h
def okNm (x : Str) : Bool := !(x == ("__debug__" : Str)) && !(x == ("__classdict__" : Str))
theorem okNm_ok {x : Str} (h : okNm x = true) : (x == ("__debug__" : Str)) = false ∧ (x == ("__classdict__" : Str)) = false := by
  unfold okNm at h
  rw [Bool.and_eq_true] at h
  exact ⟨by simpa using h.1, by simpa using h.2⟩

/-! ### the tables -/
structure Tab where
  N : List Str
  sc : Scope
  fn : Str → Bool
  calls : List (Str × Nat × List Str × Nat × List (Sum Nat PV))
  consts : List (Str × PV)
  bl : List Str
  excs : List (Str × Nat)
  fds : List Str
  subs : List ((Nat × Nat) × Bool)
  mu : List Str
  tabs : List (Str × List (Str × PV)) := []
  bfs : List Str := []
structure Ctx (X : Cx) (Z : Xc) (W : WX) (T : Tab) : Prop where
  K : Z.K = X.K
  hx : Z.C.hx = none
  calm : X.calm = true
  nd : X.N.Nodup
  N : X.N = T.N
  sc : X.env.scope = T.sc
  fn : X.fn = T.fn
  un : X.A.units + 65 < cLine
  calls : ∀ q ∈ T.calls, Callee X Z q.1 q.2.1 q.2.2.1 q.2.2.2.1 q.2.2.2.2
  consts : ∀ x p, T.consts.lookup x = some p → ∃ u v, X.mg x = some u ∧ RelV v u ∧ ∀ w : Wd, w.K = Z.K → Rep w v p
  bl : ∀ x ∈ T.bl, X.mg x = none
  tabs : ∀ x kvs, T.tabs.lookup x = some kvs → ∃ a, X.mg x = some (.ref a) ∧ DTab X.K X.w a kvs
  bfs : ∀ x ∈ T.bfs, X.mg x = some (.builtin "math.gcd")
  tk : Takes X W
def blkT (T : Tab) (scope : Scope) : Tab := { T with sc := relS scope T.sc, fn := fun x => scope.names.lookup x == some .cell }
theorem Ctx.blk {X : Cx} {Z : Xc} {W : WX} {T : Tab} (c : Ctx X Z W T) (s : Shared) (H : Hp) (scope : Scope) (C : Addr) (cl : List (Str × Addr)) (fp : List Addr) : Ctx (X.blk s H scope (compEnvC scope cl C X.env) fp) Z WF (blkT T scope) where
  K := c.K
  hx := c.hx
  calm := c.calm
  nd := c.nd
  N := c.N
  sc := by
    show relS scope X.env.scope = relS scope T.sc
    rw [c.sc]
  fn := rfl
  un := c.un
  calls := fun q hq => ⟨(c.calls q hq).go⟩
  consts := c.consts
  bl := c.bl
  tabs := c.tabs
  bfs := c.bfs
  tk := fun u s' x => by
    obtain ⟨a, B, sI, pins, σ, H, cls, d, e, I, nb, up, sky, na, os, ag, w⟩ := x
    exact w.elim
/-! ### the steps -/
structure Rc where
  e : Tab → Expr → Option ME
  t : Tab → Expr → Option ME
structure Snd (R : Rc) : Prop where
  e : ∀ {T : Tab} {a : Expr} {m : ME} {X : Cx} {Z : Xc} {W : WX}, Ctx X Z W T → R.e T a = some m → PE X a (TI Z W m)
  t : ∀ {T : Tab} {a : Expr} {m : ME} {X : Cx} {Z : Xc} {W : WX}, Ctx X Z W T → R.t T a = some m → PT X a (TIT Z W m)
def locV (T : Tab) (x : Str) : Option Nat := if visB T.sc x && okNm x then idx x T.N else none
/-- the module's own dict of a name -/
def tabOf (T : Tab) (x : Str) : Option (List (Str × PV)) := if glB T.sc x && okNm x then T.tabs.lookup x else none
theorem tabOf_ok {X : Cx} {Z : Xc} {W : WX} {T : Tab} {x : Str} {kvs : List (Str × PV)} (c : Ctx X Z W T) (h : tabOf T x = some kvs) : ∃ a, DTab X.K X.w a kvs ∧ Gl X x ∧ X.mg x = some (.ref a) ∧ (x == ("__debug__" : Str)) = false := by
  unfold tabOf at h
  split at h
  · rename_i hc
    rw [Bool.and_eq_true] at hc
    obtain ⟨a, h1, h2⟩ := c.tabs x kvs h
    exact ⟨a, h2, glB_ok c.sc hc.1, h1, (okNm_ok hc.2).1⟩
  · cases h
def trName (T : Tab) (x : Str) : Option ME := match locV T x with
  | some i => some (.var i)
  | none => if glB T.sc x && okNm x then (T.consts.lookup x).map .k else none
theorem locV_ok {X : Cx} {Z : Xc} {W : WX} {T : Tab} {x : Str} {i : Nat} (c : Ctx X Z W T) (h : locV T x = some i) : X.N[i]? = some x ∧ Vis X.env.scope x ∧ (x == ("__debug__" : Str)) = false ∧ (x == ("__classdict__" : Str)) = false := by
  unfold locV at h
  split at h
  · rename_i hc
    rw [Bool.and_eq_true] at hc
    obtain ⟨h1, h2⟩ := okNm_ok hc.2
    exact ⟨by rw [c.N]; exact idx_ok h, by rw [c.sc]; exact visB_ok hc.1, h1, h2⟩
  · cases h
theorem trName_ok {X : Cx} {Z : Xc} {W : WX} {T : Tab} {x : Str} {m : ME} {pos : Pos} (c : Ctx X Z W T) (h : trName T x = some m) : PE X (.Name x pos) (TI Z W m) := by
  unfold trName at h
  split at h
  · rename_i i hi
    cases h
    obtain ⟨h1, h2, h3, h4⟩ := locV_ok c hi
    exact snd_var h1 h2 h3 h4
  · split at h
    · rename_i hc
      rw [Bool.and_eq_true] at hc
      obtain ⟨h1, h2⟩ := okNm_ok hc.2
      cases q : T.consts.lookup x with
      | none => rw [q] at h; cases h
      | some p =>
        rw [q] at h
        cases h
        obtain ⟨u, v, m1, m2, m3⟩ := c.consts x p q
        exact snd_k (pe_glob (glB_ok c.sc hc.1) m1 m2 h1) m3
    · cases h
def trConst : Const → Option PV
  | .none => some .non
  | .bool b => some (.bl b)
  | .int i => some (.int i)
  | .str x => some (.str x)
  | _ => none
theorem trConst_ok {X : Cx} {Z : Xc} {W : WX} {k : Const} {p : PV} {j : Nat} {pos : Pos} (h : trConst k = some p) : PE X (.Constant k j pos) (TI Z W (.k p)) := by
  cases k <;> cases h
  · exact snd_k pe_non fun _ _ => .non
  · exact snd_k pe_bl fun _ _ => .bl _
  · exact snd_k pe_int fun _ _ => .int _
  · exact snd_k pe_str fun _ _ => .str _
def opB : Operator → Option O2
  | .Add => some .add
  | .Sub => some .sub
  | .Mult => some .mul
  | .FloorDiv => some .fdiv
  | .Mod => some .mod
  | .Pow => some .pow
  | _ => none
theorem opB_ok {X : Cx} {Z : Xc} {W : WX} {T : Tab} {op : Operator} {o : O2} (c : Ctx X Z W T) (h : opB op = some o) : OpR X (binaryOp op) (rg Z.K (op2 o)) := by
  cases op <;> cases h
  · exact og_add c.K
  · exact og_sub
  · exact og_mul c.K
  · exact og_mod
  · exact og_pow
  · exact og_fdiv
def opC : CmpOp → Option O2
  | .Eq => some .eq
  | .NotEq => some .ne
  | .Lt => some .lt
  | .LtE => some .le
  | .Gt => some .gt
  | .GtE => some .ge
  | .In => some .inn
  | .NotIn => some .nin
  | _ => none
theorem opC_ok {X : Cx} {Z : Xc} {W : WX} {T : Tab} {op : CmpOp} {o : O2} (c : Ctx X Z W T) (h : opC op = some o) : OpR X (compareOp op) (rg Z.K (op2 o)) ∧ Bo o := by
  have hu := c.un
  cases op <;> cases h
  · exact ⟨og_eq c.K (by omega), bo_of (by simp)⟩
  · exact ⟨og_ne c.K (by omega), bo_of (by simp)⟩
  · exact ⟨og_lt, bo_of (by simp)⟩
  · exact ⟨og_le, bo_of (by simp)⟩
  · exact ⟨og_gt, bo_of (by simp)⟩
  · exact ⟨og_ge, bo_of (by simp)⟩
  · exact ⟨og_in_ c.K (by omega), bo_of (by simp)⟩
  · exact ⟨og_nin c.K (by omega), bo_of (by simp)⟩
def trEs (R : Rc) (T : Tab) : List Expr → Option MEs
  | [] => some .nil
  | e :: es => if noStar e then match R.e T e, trEs R T es with
    | some m, some ms => some (.cons m ms)
    | _, _ => none else none
theorem trEs_ok {R : Rc} (hR : Snd R) {X : Cx} {Z : Xc} {W : WX} {T : Tab} (c : Ctx X Z W T) : ∀ {es : List Expr} {ms : MEs}, trEs R T es = some ms → PA X es (TIA Z W ms) ∧ es.all noStar = true ∧ lenMs ms = es.length
  | [], ms, h => by cases h; exact ⟨snd_anil, rfl, rfl⟩
  | e :: es, ms, h => by
    unfold trEs at h
    split at h
    · rename_i hs
      split at h
      · rename_i m ms' h1 h2
        cases h
        obtain ⟨a1, a2, a3⟩ := trEs_ok hR c h2
        exact ⟨snd_acons (hR.e c h1) a1 (starEach_ns hs), by rw [List.all_cons, hs, a2]; rfl, by show lenMs ms' + 1 = es.length + 1; rw [a3]⟩
      · cases h
    · cases h
def trKs (R : Rc) (T : Tab) : List Keyword → Option MEs
  | [] => some .nil
  | ⟨_, e, _⟩ :: es => match R.e T e, trKs R T es with
    | some m, some ms => some (.cons m ms)
    | _, _ => none
theorem trKs_ok {R : Rc} (hR : Snd R) {X : Cx} {Z : Xc} {W : WX} {T : Tab} (c : Ctx X Z W T) : ∀ {es : List Keyword} {ms : MEs}, trKs R T es = some ms → PK X es (TIA Z W ms) ∧ lenMs ms = es.length
  | [], ms, h => by cases h; exact ⟨snd_knil, rfl⟩
  | ⟨nm, e, p⟩ :: es, ms, h => by
    unfold trKs at h
    split at h
    · rename_i m ms' h1 h2
      cases h
      obtain ⟨a1, a3⟩ := trKs_ok hR c h2
      exact ⟨snd_kcons (hR.e c h1) a1, by show lenMs ms' + 1 = es.length + 1; rw [a3]⟩
    · cases h
theorem kwNames_len : ∀ {kws : List Keyword} {ks : List Str}, kwNames kws = some ks → ks.length = kws.length
  | [], ks, h => by cases h; rfl
  | ⟨none, _, _⟩ :: r, ks, h => by cases h
  | ⟨some n, e, p⟩ :: r, ks, h => by
    unfold kwNames at h
    cases q : kwNames r with
    | none => rw [q] at h; cases h
    | some l => rw [q] at h; cases h; show l.length + 1 = r.length + 1; rw [kwNames_len q]
/-! calls -/
def findC (x : Str) (n : Nat) (ks : List Str) : List (Str × Nat × List Str × Nat × List (Sum Nat PV)) → Option (Nat × List (Sum Nat PV))
  | [] => none
  | (y, m, ls, f, p) :: r => if y = x ∧ m = n ∧ ls = ks then some (f, p) else findC x n ks r
theorem findC_ok {x : Str} {n : Nat} {ks : List Str} : ∀ {l : List (Str × Nat × List Str × Nat × List (Sum Nat PV))} {f : Nat} {p : List (Sum Nat PV)}, findC x n ks l = some (f, p) → (x, n, ks, f, p) ∈ l
  | [], _, _, h => by cases h
  | (y, m, ls, g, q) :: r, f, p, h => by
    unfold findC at h
    split at h
    · rename_i e
      obtain ⟨rfl, rfl, rfl⟩ := e
      cases h
      exact List.mem_cons_self ..
    · exact List.mem_cons_of_mem _ (findC_ok h)
def biOf (x : Str) (n : Nat) : Option BI :=
  if x = ("len" : Str) ∧ n = 1 then some .len else
  if x = ("int" : Str) ∧ n = 1 then some .int_ else
  if x = ("str" : Str) ∧ n = 1 then some .str_ else
  if x = ("list" : Str) ∧ n = 1 then some .listV else
  if x = ("tuple" : Str) ∧ n = 1 then some .tuple_ else
  if x = ("all" : Str) ∧ n = 1 then some .all_ else
  if x = ("any" : Str) ∧ n = 1 then some .any_ else
  if x = ("sum" : Str) ∧ n = 1 then some .sum_ else
  if x = ("min" : Str) ∧ n = 1 then some .min1 else
  if x = ("min" : Str) ∧ n = 2 then some .min2 else
  if x = ("max" : Str) ∧ n = 2 then some .max2 else
  if x = ("abs" : Str) ∧ n = 1 then some .abs_ else none
theorem iteS {α : Type} {p : Prop} [Decidable p] {a o : α} {b : Option α} (h : (if p then some a else b) = some o) : (p ∧ a = o) ∨ b = some o := by
  by_cases c : p
  · rw [if_pos c] at h; cases h; exact .inl ⟨c, rfl⟩
  · rw [if_neg c] at h; exact .inr h
theorem biOf_ok {X : Cx} {Z : Xc} {W : WX} {T : Tab} {x : Str} {n : Nat} {o : BI} (c : Ctx X Z W T) (h : biOf x n = some o) : ((∃ id, bootBuiltins x = some (.builtin id) ∧ CallR X (.builtin id) (rgn Z.K (opn o))) ∨ (∃ id, bootBuiltins x = some (.type id) ∧ CallR X (.type id) (rgn Z.K (opn o)))) ∧ x ≠ "__name__" ∧ (x == ("__debug__" : Str)) = false := by
  have hK := c.K
  have hc := c.calm
  unfold biOf at h
  rcases iteS h with ⟨⟨rfl, _⟩, rfl⟩ | h
  · exact ⟨.inl ⟨_, boot_len, bg_len hK⟩, by decide, by decide⟩
  rcases iteS h with ⟨⟨rfl, _⟩, rfl⟩ | h
  · exact ⟨.inr ⟨_, boot_int, bg_int⟩, by decide, by decide⟩
  rcases iteS h with ⟨⟨rfl, _⟩, rfl⟩ | h
  · exact ⟨.inr ⟨_, boot_str, bg_str⟩, by decide, by decide⟩
  rcases iteS h with ⟨⟨rfl, _⟩, rfl⟩ | h
  · exact ⟨.inr ⟨_, boot_list, bg_listV hK⟩, by decide, by decide⟩
  rcases iteS h with ⟨⟨rfl, _⟩, rfl⟩ | h
  · exact ⟨.inr ⟨_, boot_tuple, bg_tuple hK⟩, by decide, by decide⟩
  rcases iteS h with ⟨⟨rfl, _⟩, rfl⟩ | h
  · exact ⟨.inl ⟨_, boot_all, bg_all hc⟩, by decide, by decide⟩
  rcases iteS h with ⟨⟨rfl, _⟩, rfl⟩ | h
  · exact ⟨.inl ⟨_, boot_any, bg_any hc⟩, by decide, by decide⟩
  rcases iteS h with ⟨⟨rfl, _⟩, rfl⟩ | h
  · exact ⟨.inl ⟨_, boot_sum, bg_sum hc⟩, by decide, by decide⟩
  rcases iteS h with ⟨⟨rfl, _⟩, rfl⟩ | h
  · exact ⟨.inl ⟨_, boot_min, bg_min1 hc⟩, by decide, by decide⟩
  rcases iteS h with ⟨⟨rfl, _⟩, rfl⟩ | h
  · exact ⟨.inl ⟨_, boot_min, bg_min2 hc⟩, by decide, by decide⟩
  rcases iteS h with ⟨⟨rfl, _⟩, rfl⟩ | h
  · exact ⟨.inl ⟨_, boot_max, bg_max2 hc⟩, by decide, by decide⟩
  rcases iteS h with ⟨⟨rfl, _⟩, rfl⟩ | h
  · exact ⟨.inl ⟨_, boot_abs, bg_abs⟩, by decide, by decide⟩
  cases h
def tyOf (x : Str) : Option String :=
  if x = ("int" : Str) then some "int" else
  if x = ("bool" : Str) then some "bool" else
  if x = ("str" : Str) then some "str" else
  if x = ("tuple" : Str) then some "tuple" else
  if x = ("list" : Str) then some "list" else
  if x = ("dict" : Str) then some "dict" else none
theorem tyOf_ok {x : Str} {t : String} (h : tyOf x = some t) : bootBuiltins x = some (.type t) ∧ KTy t ∧ x ≠ "__name__" ∧ (x == ("__debug__" : Str)) = false := by
  unfold tyOf at h
  rcases iteS h with ⟨rfl, rfl⟩ | h
  · exact ⟨boot_int, kty_int, by decide, by decide⟩
  rcases iteS h with ⟨rfl, rfl⟩ | h
  · exact ⟨boot_bool, kty_bool, by decide, by decide⟩
  rcases iteS h with ⟨rfl, rfl⟩ | h
  · exact ⟨boot_str, kty_str, by decide, by decide⟩
  rcases iteS h with ⟨rfl, rfl⟩ | h
  · exact ⟨boot_tuple, kty_tuple, by decide, by decide⟩
  rcases iteS h with ⟨rfl, rfl⟩ | h
  · exact ⟨boot_list, kty_list, by decide, by decide⟩
  rcases iteS h with ⟨rfl, rfl⟩ | h
  · exact ⟨boot_dict, kty_dict, by decide, by decide⟩
  cases h
end Dg
end

section
set_option Elab.async false
set_option linter.all false
set_option maxRecDepth 100000
set_option maxHeartbeats 4000000
/-! DgQ: the translation of expressions, the steps. -/
namespace Dg
open PySem PySem.Spec L2
open PyProof.Rows hiding St

/-! ### blocks, targets, iterators -/
def kindEq (a b : NameKind) : Bool := match a, b with
  | .local, .local => true
  | .cell, .cell => true
  | .free, .free => true
  | .globalImplicit, .globalImplicit => true
  | _, _ => false
theorem kindEq_ok {a b : NameKind} (h : kindEq a b = true) : a = b := by cases a <;> cases b <;> first | rfl | (cases h)
def ownOf (N : List Str) (scope : Scope) : List (Str × Nat) := scope.names.filterMap fun y => match y.2 with
  | .local => (idx y.1 N).map (y.1, ·)
  | .cell => (idx y.1 N).map (y.1, ·)
  | _ => none
def isFun : ScopeKind → Bool
  | .function => true
  | _ => false
theorem isFun_ok {k : ScopeKind} (h : isFun k = true) : k = .function := by cases k <;> first | rfl | (cases h)
def blkB (sc scope : Scope) : Bool := isFun scope.kind && scope.names.all (fun y => (match scope.names.lookup y.1 with
    | some k => kindEq k y.2
    | none => false) && (match y.2 with
    | .free => (match sc.names.lookup y.1 with
      | some .cell => true
      | some .free => true
      | _ => false)
    | _ => true))
theorem blkB_ok {N : List Str} {sc scope : Scope} (h : blkB sc scope = true) : BlkOk N sc scope (ownOf N scope) := by
  unfold blkB at h
  rw [Bool.and_eq_true] at h
  have h2 := List.all_eq_true.mp h.2
  refine ⟨isFun_ok h.1, fun y hy => ?_, fun p hp => ?_, fun y hy hf => ?_, fun y hy hk => ?_⟩
  · have z := h2 y hy
    rw [Bool.and_eq_true] at z
    have z1 := z.1
    split at z1
    · rename_i k e
      rw [e, kindEq_ok z1]
    · cases z1
  · unfold ownOf at hp
    obtain ⟨y, hy, e⟩ := List.mem_filterMap.mp hp
    have key : (idx y.1 N).map (y.1, ·) = some p → N[p.2]? = some p.1 := fun e => by
      cases q : idx y.1 N with
      | none => rw [q] at e; cases e
      | some j => rw [q] at e; cases e; exact idx_ok q
    split at e
    · exact key e
    · exact key e
    · cases e
  · have z := h2 y hy
    rw [Bool.and_eq_true] at z
    have z1 := z.2
    rw [hf] at z1
    dsimp only at z1
    split at z1
    · rename_i e; exact .inl e
    · rename_i e; exact .inr e
    · cases z1
  · cases q : idx y.1 N with
    | none => exact .inr (idx_none q)
    | some j =>
      refine .inl (List.mem_map.mpr ⟨(y.1, j), List.mem_filterMap.mpr ⟨y, hy, ?_⟩, rfl⟩)
      rcases hk with e | e <;> rw [e] <;> dsimp only <;> rw [q] <;> rfl
/-- a name that is stored to -/
def trSt (T : Tab) (x : Str) : Option Nat := match T.sc.names.lookup x with
  | some .local => idx x T.N
  | some .cell => if T.fn x = true then idx x T.N else none
  | _ => none
theorem trSt_ok {X : Cx} {Z : Xc} {W : WX} {T : Tab} {x : Str} {i : Nat} (c : Ctx X Z W T) (h : trSt T x = some i) : X.N[i]? = some x ∧ L2.Loc X.env.scope x ∧ (X.fn x = true ∨ X.env.scope.names.lookup x = some .local) := by
  unfold trSt at h
  unfold L2.Loc
  rw [c.N, c.sc, c.fn]
  split at h
  · rename_i e; exact ⟨idx_ok h, .inl e, .inr e⟩
  · rename_i e
    split at h
    · rename_i e2; exact ⟨idx_ok h, .inr e, .inl e2⟩
    · cases h
  · cases h
def trNs (T : Tab) : List Expr → Option (List Nat)
  | [] => some []
  | .Name x _ :: r => match trSt T x, trNs T r with
    | some i, some is => some (i :: is)
    | _, _ => none
  | _ => none
def trTg (T : Tab) : Expr → Option TGT
  | .Name x _ => (trSt T x).map .name
  | .Tuple es _ _ => (trNs T es).map .tup
  | _ => none
theorem trNs_ok {X : Cx} {Z : Xc} {W : WX} {T : Tab} (c : Ctx X Z W T) : ∀ {es : List Expr} {is : List Nat}, trNs T es = some is → PGs X es (TGsr Z is) ∧ (assignEach es X.env).length = is.length ∧ (assignEach es X.env).findIdx? (·.1) = none
  | [], is, h => by cases h; exact ⟨snd_gnil, rfl, rfl⟩
  | e :: r, is, h => by
    unfold trNs at h
    split at h
    · rename_i heq; cases heq
    · rename_i x p r' heq
      cases heq
      split at h
      · rename_i i is' h1 h2
        cases h
        obtain ⟨a1, a2, a3⟩ := trSt_ok c h1
        obtain ⟨b1, b2, b3⟩ := trNs_ok c h2
        refine ⟨snd_gcons (snd_gname c.hx c.nd a1 a2 a3) b1 rfl, ?_, ?_⟩
        · show (assignEach r X.env).length + 1 = is'.length + 1
          rw [b2]
        · show (List.findIdx? (·.1) ((false, assign (.Name x p) X.env) :: assignEach r X.env)) = none
          rw [List.findIdx?_cons, b3]; rfl
      · cases h
    · cases h
theorem trTg_ok {X : Cx} {Z : Xc} {W : WX} {T : Tab} {tg : Expr} {t : TGT} (c : Ctx X Z W T) (h : trTg T tg = some t) : PG X tg (TGr Z t) := by
  unfold trTg at h
  split at h
  · rename_i x p
    cases q : trSt T x with
    | none => rw [q] at h; cases h
    | some i =>
      rw [q] at h; cases h
      obtain ⟨a1, a2, a3⟩ := trSt_ok c q
      exact snd_gname c.hx c.nd a1 a2 a3
  · rename_i es k p
    cases q : trNs T es with
    | none => rw [q] at h; cases h
    | some is =>
      rw [q] at h; cases h
      obtain ⟨b1, b2, b3⟩ := trNs_ok c q
      exact snd_gtup c.K c.calm b1 b2 b3
  · cases h
def blB (T : Tab) (x : Str) : Bool := glB T.sc x && T.bl.contains x
theorem blB_ok {X : Cx} {Z : Xc} {W : WX} {T : Tab} {x : Str} (c : Ctx X Z W T) (h : blB T x = true) : Gl X x ∧ X.mg x = none := by
  unfold blB at h
  rw [Bool.and_eq_true] at h
  exact ⟨glB_ok c.sc h.1, c.bl x (List.contains_iff_mem.mp h.2)⟩
def isTup : Expr → Bool
  | .Tuple .. => true
  | _ => false
def trI (R : Rc) (T : Tab) (tg : Expr) (e : Expr) : Option IT := match e with
  | .Call (.Name x _) [a] [] _ =>
    if x = ("range" : Str) ∧ blB T x = true ∧ noStar a = true then (R.e T a).map fun m => .range (.cons m .nil)
    else if x = ("enumerate" : Str) ∧ blB T x = true ∧ noStar a = true ∧ isTup tg = true then (R.e T a).map .enum
    else (R.e T e).map .of
  | .Call (.Name x _) [a, b] [] _ =>
    if x = ("range" : Str) ∧ blB T x = true ∧ noStar a = true ∧ noStar b = true then (match R.e T a, R.e T b with
      | some m, some n => some (.range (.cons m (.cons n .nil)))
      | _, _ => none)
    else if x = ("zip" : Str) ∧ blB T x = true ∧ noStar a = true ∧ noStar b = true ∧ isTup tg = true then (match R.e T a, R.e T b with
      | some m, some n => some (.zip m n)
      | _, _ => none)
    else (R.e T e).map .of
  | e => if noSet e = true then (R.e T e).map .of else none
theorem mapO {α β : Type} {o : Option α} {f : α → β} {b : β} (h : o.map f = some b) : ∃ a, o = some a ∧ f a = b := by
  cases o with
  | none => cases h
  | some a => exact ⟨a, rfl, Option.some.inj h⟩
theorem trI_ok {R : Rc} (hR : Snd R) {X : Cx} {Z : Xc} {W : WX} {T : Tab} {tg e : Expr} {it : IT} (c : Ctx X Z W T) (h : trI R T tg e = some it) : PI X tg e (TII Z W it) ∧ ∀ x, foldedSetIterable e X.env x = pure x := by
  unfold trI at h
  split at h
  · rename_i x p a pos
    refine ⟨?_, fun _ => rfl⟩
    split at h
    · rename_i hc
      obtain ⟨rfl, h1, h2⟩ := hc
      obtain ⟨m, hm, rfl⟩ := mapO h
      obtain ⟨g1, g2⟩ := blB_ok c h1
      have hs : starEach [a] X.env = [(false, eval a X.env)] := starEach_ns h2
      exact snd_range1 g1 g2 (snd_acons (hR.e c hm) snd_anil (starEach_ns h2)) hs
    · split at h
      · rename_i hc
        obtain ⟨rfl, h1, h2, h3⟩ := hc
        obtain ⟨m, hm, rfl⟩ := mapO h
        obtain ⟨g1, g2⟩ := blB_ok c h1
        have hs : starEach [a] X.env = [(false, eval a X.env)] := starEach_ns h2
        cases tg <;> first | exact snd_enum (tg := a) c.K g1 g2 (hR.e c hm) hs | (cases h3)
      · obtain ⟨m, hm, rfl⟩ := mapO h
        exact snd_of c.K (hR.e c hm)
  · rename_i x p a b pos
    refine ⟨?_, fun _ => rfl⟩
    split at h
    · rename_i hc
      obtain ⟨rfl, h1, h2, h3⟩ := hc
      split at h
      · rename_i m n hm hn
        cases h
        obtain ⟨g1, g2⟩ := blB_ok c h1
        have hs2 : starEach [b] X.env = [(false, eval b X.env)] := starEach_ns h3
        have hs : starEach [a, b] X.env = [(false, eval a X.env), (false, eval b X.env)] := by rw [starEach_ns h2, hs2]
        exact snd_range2 g1 g2 (snd_acons (hR.e c hm) (snd_acons (hR.e c hn) snd_anil (starEach_ns h3)) (starEach_ns h2)) hs hs2
      · cases h
    · split at h
      · rename_i hc
        obtain ⟨rfl, h1, h2, h3, h4⟩ := hc
        split at h
        · rename_i m n hm hn
          cases h
          obtain ⟨g1, g2⟩ := blB_ok c h1
          cases tg <;> first | exact snd_zip c.K g1 g2 (hR.e c hm) (hR.e c hn) (starEach_ns h2) (starEach_ns h3) | (cases h4)
        · cases h
      · obtain ⟨m, hm, rfl⟩ := mapO h
        exact snd_of c.K (hR.e c hm)
  · split at h
    · rename_i hn
      obtain ⟨m, hm, rfl⟩ := mapO h
      exact ⟨snd_of c.K (hR.e c hm), fun x => folded_ns hn x⟩
    · cases h
/-! ### comprehensions -/
def trIf (R : Rc) (T : Tab) : List Expr → Option MEo
  | [] => some .none
  | [c] => (R.t T c).map .some
  | _ => none
def trLc (R : Rc) (T : Tab) (rf : Bool) (elt : Expr) (gs : List Comprehension) (scope : Scope) : Option ME := match gs with
  | [⟨tg, iter, ifs, k⟩] => if k = 0 ∧ blkB T.sc scope = true then (match trI R T tg iter, trTg (blkT T scope) tg, trIf R (blkT T scope) ifs, R.e (blkT T scope) elt with
    | some it, some t, some mo, some me => if (slT t).all (fun i => ((ownOf T.N scope).map (·.2)).contains i) = true then some (.comp rf ((ownOf T.N scope).map (·.2)) t it mo me) else none
    | _, _, _, _ => none) else none
  | _ => none
structure LcOk (X : Cx) (Z : Xc) (W : WX) (T : Tab) (rf : Bool) (elt : Expr) (gs : List Comprehension) (scope : Scope) (m : ME) : Prop where
  go : ∃ tg iter ifs own it t mo me, gs = [⟨tg, iter, ifs, 0⟩] ∧ m = .comp rf (own.map (·.2)) t it mo me ∧ PI X tg iter (TII Z W it) ∧ BlkOk X.N X.env.scope scope own ∧
    (∀ (s : Shared) (H : Hp) (C : Addr) (cl : List (Str × Addr)) (fp : List Addr), PG (X.blk s H scope (compEnvC scope cl C X.env) fp) tg (TGr Z t)) ∧ (∀ (s : Shared) (H : Hp) (C : Addr) (cl : List (Str × Addr)) (fp : List Addr), PTs (X.blk s H scope (compEnvC scope cl C X.env) fp) ifs (TIC Z WF mo)) ∧
    (∀ (s : Shared) (H : Hp) (C : Addr) (cl : List (Str × Addr)) (fp : List Addr), PE (X.blk s H scope (compEnvC scope cl C X.env) fp) elt (TI Z WF me)) ∧ (∀ x, foldedSetIterable iter X.env x = pure x) ∧ (∀ i ∈ slT t, i ∈ own.map (·.2))
theorem trLc_ok {R : Rc} (hR : Snd R) {X : Cx} {Z : Xc} {W : WX} {T : Tab} {rf : Bool} {elt : Expr} {gs : List Comprehension} {scope : Scope} {m : ME} (c : Ctx X Z W T) (h : trLc R T rf elt gs scope = some m) : LcOk X Z W T rf elt gs scope m := by
  unfold trLc at h
  split at h
  · rename_i tg iter ifs k
    split at h
    · rename_i hc
      obtain ⟨rfl, hb⟩ := hc
      split at h
      · rename_i it t mo me h1 h2 h3 h4
        split at h
        · rename_i hs
          cases h
          obtain ⟨a1, a2⟩ := trI_ok hR c h1
          refine ⟨⟨tg, iter, ifs, ownOf T.N scope, it, t, mo, me, rfl, rfl, a1, ?_, fun s H C cl fp => trTg_ok (c.blk s H scope C cl fp) h2, fun s H C cl fp => ?_, fun s H C cl fp => hR.e (c.blk s H scope C cl fp) h4, a2, fun i hi => List.contains_iff_mem.mp (List.all_eq_true.mp hs i hi)⟩⟩
          · rw [c.N, c.sc]; exact blkB_ok hb
          · unfold trIf at h3
            split at h3
            · cases h3; exact snd_pnil
            · obtain ⟨mc, hm, rfl⟩ := mapO h3
              exact snd_pone (hR.t (c.blk s H scope C cl fp) hm)
            · cases h3
        · cases h
      · cases h
    · cases h
  · cases h
theorem LcOk.pe {X : Cx} {Z : Xc} {W : WX} {T : Tab} {rf : Bool} {elt : Expr} {gs : List Comprehension} {scope : Scope} {m : ME} {pos : Pos} (c : Ctx X Z W T) (h : LcOk X Z W T rf elt gs scope m) : PE X (.ListComp elt gs scope pos) (TI Z W m) := by
  obtain ⟨tg, iter, ifs, own, it, t, mo, me, rfl, rfl, h1, h2, h3, h4, h5, h6, h7⟩ := h.go
  exact snd_comp c.hx c.calm c.nd h1 h2 h3 h4 h5 h6 h7
/-! ### displays of dicts -/
def trKeys : List (Option Expr) → Option (List Key)
  | [] => some []
  | some (.Constant (.int i) _ _) :: r => (trKeys r).map (.inl i :: ·)
  | some (.Constant (.str x) _ _) :: r => (trKeys r).map (.inr x :: ·)
  | _ => none
theorem dict_ok {R : Rc} (hR : Snd R) {X : Cx} {Z : Xc} {W : WX} {T : Tab} {pos : Pos} (c : Ctx X Z W T) : ∀ {keys : List (Option Expr)} {values : List Expr} {ks : List Key} {ms : MEs}, trKeys keys = some ks → trEs R T values = some ms → keys.length = values.length →
    PPs X pos keys values (trsD Z W ks ms) ∧ keys.all (·.isSome) = true ∧ ks.length = lenMs ms
  | [], [], ks, ms, h1, h2, _ => by cases h1; cases h2; exact ⟨pps_nil, rfl, rfl⟩
  | [], _ :: _, _, _, _, _, h => by cases h
  | _ :: _, [], _, _, _, _, h => by cases h
  | k :: keys, v :: values, ks, ms, h1, h2, hl => by
    unfold trEs at h2
    split at h2
    · split at h2
      · rename_i m ms' e1 e2
        cases h2
        unfold trKeys at h1
        split at h1
        · rename_i heq; cases heq
        · rename_i i j p r heq
          cases heq
          obtain ⟨ks', hk, rfl⟩ := mapO h1
          obtain ⟨b1, b2, b3⟩ := dict_ok hR c hk e2 (Nat.succ.inj hl)
          exact ⟨pps_cons pe_int (hR.e c e1) b1, by rw [List.all_cons, b2]; rfl, congrArg Nat.succ b3⟩
        · rename_i x j p r heq
          cases heq
          obtain ⟨ks', hk, rfl⟩ := mapO h1
          obtain ⟨b1, b2, b3⟩ := dict_ok hR c hk e2 (Nat.succ.inj hl)
          exact ⟨pps_cons pe_str (hR.e c e1) b1, by rw [List.all_cons, b2]; rfl, congrArg Nat.succ b3⟩
        · cases h1
      · cases h2
    · cases h2
end Dg
end

section
set_option Elab.async false
set_option linter.all false
set_option maxRecDepth 100000
set_option maxHeartbeats 4000000
/-! DgR: the translation of expressions: one step, all steps. -/
namespace Dg
open PySem PySem.Spec L2
open PyProof.Rows hiding St

section
variable {X : Cx} {Z : Xc} {W : WX} {a b c e : Expr} {ma mb mc : ME} {pos : Pos}
theorem Good.chainT {Z : Xc} {W : WX} {σ : St} {H : Hp} {u3 : Wd} {r : PEnv} {S' : Store} {Q : Bool → Hp → Prop} {k : Bool} {o' : O2} {y : V} {q : PV} {mc : ME} (hbo : Bo o') (at3 : At Z σ H u3 r S') (ry : Rep u3 y q)
    (g : Good Z W σ (fun _ b b' => b = b') u3 Q ((match PV.bl k with
      | .bl true => (evalE Z.C mc r S').bind fun u S4 => op2 o' q u S4
      | .bl false => .ok (.bl false) S'
      | _ => .bad).bind truR)) : if k = true then TI Z W mc σ H fun w' H4 => rg Z.K (op2 o') y w' H4 (fun x H' => ∃ k, x = V.bl k ∧ Q k H') else (∃ k, V.bl false = V.bl k ∧ Q k H) := by
  cases k with
  | false =>
    have e := at3.H
    subst e
    exact ⟨false, rfl, g u3 false (Ext.refl u3) at3.h rfl⟩
  | true =>
    have g' : Good Z W σ (fun _ b b' => b = b') u3 Q (((evalE Z.C mc r S').bind fun u S4 => op2 o' q u S4).bind truR) := g
    rw [Res.bind_assoc] at g'
    refine ⟨u3, r, S', at3, Good.bindI g' fun u4 x4 p4 S4 e4 h4 r4 g4 => ?_⟩
    exact ⟨u4, S4, q, p4, rfl, e4.k.trans at3.K, h4, ry.mono e4, r4, g4.test (fun _ _ _ => op2_noexc _ _ _ _ _ _ _) hbo⟩
theorem snd_chainT {op op' : CmpOp} {o o' : O2} (ho : OpR X (compareOp op) (rg Z.K (op2 o))) (hx : Bo o) (ho' : OpR X (compareOp op') (rg Z.K (op2 o'))) (hx' : Bo o') (ha : PE X a (TI Z W ma)) (hb : PE X b (TI Z W mb)) (hc : PE X c (TI Z W mc)) (hm : lastMarks [op, op'] [b, c] = false) :
    PT X (.Compare a [op, op'] [b, c] pos) (TIT Z W (.chain o o' ma mb mc)) := by
  refine (pt_chain ho ho' ha hb hc hm).imp fun σ H Q h => ?_
  obtain ⟨w, r, S, at_, g⟩ := h
  rw [evalT_truth (fun _ _ => by simp) (fun _ _ => by simp) (fun _ => by simp) (fun _ _ _ => by simp), evalE, Res.bind_assoc] at g
  refine ⟨w, r, S, at_, g.bindI fun u x p S1 e1 h1 r1 g1 => ?_⟩
  rw [Res.bind_assoc] at g1
  refine ⟨u, r, S1, at_.next e1 h1, g1.bindI fun t y q S2 e2 h2 r2 g2 => ?_⟩
  refine ⟨t, S2, p, q, rfl, e2.k.trans (e1.k.trans at_.K), h2, r1.mono e2, r2, ?_⟩
  cases e : op2 o p q S2 with
  | bad => rw [e] at g2; exact g2.elim
  | exc cc aa S' => exact absurd e (op2_noexc _ _ _ _ _ _ _)
  | ok v S' =>
    obtain ⟨k, rfl⟩ := hx _ _ _ _ _ e
    rw [e, Res.bind_ok] at g2
    intro u3 z e3 h3 r3
    cases r3
    exact ⟨k, rfl, Good.chainT hx' (((at_.next e1 h1).next e2 h2).next e3 h3) (r2.mono e3) (Good.mono e3 g2)⟩
theorem pw_bool {op : BoolOp} {vs : List Expr} {t : TT} (h : PT X (.BoolOp op vs pos) t) : PW X (.BoolOp op vs pos) t := ⟨fun whole pins s σ H Q I q => h.run pins s σ H Q I q⟩
theorem snd_iteT (hc : PT X c (TIT Z W mc)) (ha : PT X a (TIT Z W ma)) (hb : PT X b (TIT Z W mb)) (h : ∀ whole, isTrue (.IfExp c a b pos) X.env whole = (do if ← isTrue c X.env (eval c X.env) then isTrue a X.env (eval a X.env) else isTrue b X.env (eval b X.env))) : PT X (.IfExp c a b pos) (TIT Z W (.ite mc ma mb)) := by
  refine ⟨fun pins s σ H Q I hh => ?_⟩
  obtain ⟨w, r, S, at_, g⟩ := hh
  rw [evalT_ite] at g
  rw [h]
  refine wpAny_bind (thn (hc.run pins s σ H (fun t H1 => (t = true → TIT Z W ma σ H1 Q) ∧ (t = false → TIT Z W mb σ H1 Q)) I ⟨w, r, S, at_, g.bindI fun u x p S1 e1 h1 r1 g1 => ?_⟩) fun t s1 ⟨H1, I1, q1, q2⟩ => ?_)
  · subst r1
    cases x with
    | true => exact ⟨fun _ => ⟨u, r, S1, at_.next e1 h1, g1⟩, fun z => by cases z⟩
    | false => exact ⟨fun z => (by cases z), fun _ => ⟨u, r, S1, at_.next e1 h1, g1⟩⟩
  · cases t with
    | true => exact ha.run pins s1 σ H1 Q I1 (q1 rfl)
    | false => exact hb.run pins s1 σ H1 Q I1 (q2 rfl)
end
/-! ### calls -/
def trCall (R : Rc) (T : Tab) (x : Str) (args : List Expr) (kws : List Keyword) : Option ME :=
  if glB T.sc x = true ∧ okNm x = true then
    match kwNames kws with
    | some ks => match findC x args.length ks T.calls with
      | some (f, perm) => match trEs R T args, trKs R T kws with
        | some ms, some mk => some (.call f perm (appMs ms mk))
        | _, _ => none
      | none => if T.bl.contains x = true ∧ kws.isEmpty = true then
          (match args with
          | [a, .Name y _] => if x = ("isinstance" : Str) then (if noStar a = true ∧ blB T y = true then (match tyOf y, R.e T a with
              | some t, some m => some (.bi (.isin [t]) (.cons m .nil))
              | _, _ => none) else none)
            else (match biOf x args.length, trEs R T args with
              | some o, some ms => some (.bi o ms)
              | _, _ => none)
          | [] => none
          | args => (match biOf x args.length, trEs R T args with
            | some o, some ms => some (.bi o ms)
            | _, _ => none))
        else if T.bfs.contains x = true ∧ kws.isEmpty = true ∧ args ≠ [] then (match trEs R T args with
          | some ms => some (.bi .gcd ms)
          | none => none)
        else none
    | none => none
  else none
theorem bi_ok {R : Rc} (hR : Snd R) {X : Cx} {Z : Xc} {W : WX} {T : Tab} {x : Str} {a : Expr} {args : List Expr} {n : Nat} {m : ME} {p pos : Pos} (c : Ctx X Z W T) (hg : glB T.sc x = true) (hb : T.bl.contains x = true) (h : (match biOf x n, trEs R T (a :: args) with
      | some o, some ms => some (ME.bi o ms)
      | _, _ => none) = some m) : PE X (.Call (.Name x p) (a :: args) [] pos) (TI Z W m) := by
  split at h
  · rename_i o ms h1 h2
    cases h
    obtain ⟨b1, b2, b3⟩ := trEs_ok hR c h2
    rw [List.all_cons, Bool.and_eq_true] at b2
    obtain ⟨hh, n1, n2⟩ := biOf_ok c h1
    rcases hh with ⟨id, q1, q2⟩ | ⟨id, q1, q2⟩
    · exact snd_bi q2 (glB_ok c.sc hg) (c.bl x (List.contains_iff_mem.mp hb)) q1 b1 n1 n2 (starEach_ns b2.1) (back_ns b2.2)
    · exact snd_biT q2 (glB_ok c.sc hg) (c.bl x (List.contains_iff_mem.mp hb)) q1 b1 n1 n2 (starEach_ns b2.1) (back_ns b2.2)
  · cases h
theorem trCall_ok {R : Rc} (hR : Snd R) {X : Cx} {Z : Xc} {W : WX} {T : Tab} {x : Str} {args : List Expr} {kws : List Keyword} {m : ME} {p pos : Pos} (c : Ctx X Z W T) (h : trCall R T x args kws = some m) : PE X (.Call (.Name x p) args kws pos) (TI Z W m) := by
  unfold trCall at h
  split at h
  · rename_i hc
    obtain ⟨hg, hn⟩ := hc
    have hG := glB_ok c.sc hg
    obtain ⟨hd, _⟩ := okNm_ok hn
    split at h
    · rename_i ks hk
      split at h
      · rename_i f perm hf
        split at h
        · rename_i ms mk h1 h2
          cases h
          have hC := c.calls _ (findC_ok hf)
          dsimp only at hC
          obtain ⟨b1, b2, b3⟩ := trEs_ok hR c h1
          obtain ⟨d1, d3⟩ := trKs_ok hR c h2
          have hl := kwNames_len hk
          cases args with
          | nil =>
            cases kws with
            | nil =>
              cases hk; cases h1; cases h2
              exact snd_call0 hC c.tk hG hd
            | cons kw kws =>
              cases h1
              obtain ⟨w1, w2, w3⟩ := kw_all (env := X.env) (pos := pos) hk
              exact snd_callk0 hC c.tk hG d1 (d3.trans hl.symm) w1 w2 hd (by rw [w3]; rfl)
          | cons a args =>
            rw [List.all_cons, Bool.and_eq_true] at b2
            cases kws with
            | nil =>
              cases hk; cases h2
              rw [app_nil]
              exact snd_call hC c.tk hG b1 b3 hd (starEach_ns b2.1) (back_ns b2.2)
            | cons kw kws =>
              obtain ⟨w1, w2, w3⟩ := kw_all (env := X.env) (pos := pos) hk
              exact snd_callk hC c.tk hG b1 d1 b3 (d3.trans hl.symm) w1 w2 hd (starEach_ns b2.1) (by
                rw [w3, back_ns (by rw [List.all_cons, b2.1, b2.2]; rfl)]; rfl)
        · cases h
      · split at h
        · rename_i hb
          obtain ⟨hb, hk0⟩ := hb
          cases kws with
          | cons kw kws => cases hk0
          | nil =>
            split at h
            · rename_i a y py
              split at h
              · rename_i e
                subst e
                split at h
                · rename_i hy
                  split at h
                  · rename_i t m' h1 h2
                    cases h
                    obtain ⟨t1, t2, t3, t4⟩ := tyOf_ok h1
                    obtain ⟨g1, g2⟩ := blB_ok c hy.2
                    exact snd_isin c.K t2 hG (c.bl _ (List.contains_iff_mem.mp hb)) g1 g2 t1 t3 t4 (hR.e c h2) (starEach_ns hy.1)
                  · cases h
                · cases h
              · exact bi_ok hR c hg hb h
            · cases h
            · rename_i args' hne1 hne2
              cases args with
              | nil => exact absurd rfl hne2
              | cons a args => exact bi_ok hR c hg hb h
        · split at h
          · rename_i hb
            obtain ⟨hb, hk0, hne⟩ := hb
            cases kws with
            | cons kw kws => cases hk0
            | nil =>
              split at h
              · rename_i ms h1
                cases h
                cases args with
                | nil => exact absurd rfl hne
                | cons a args =>
                  obtain ⟨b1, b2, b3⟩ := trEs_ok hR c h1
                  rw [List.all_cons, Bool.and_eq_true] at b2
                  exact snd_bif bg_gcd hG (c.bfs x (List.contains_iff_mem.mp hb)) b1 hd (starEach_ns b2.1) (back_ns b2.2)
              · cases h
          · cases h
    · cases h
  · cases h
/-! ### methods of texts, append -/
def trMt (R : Rc) (T : Tab) (r : Bool) (a : Expr) (name : Str) (apos : Pos) (b : Expr) (pos : Pos) : Option ME :=
  if noCall a = true ∧ noStar b = true ∧ (apos.endLine == pos.line) = true then
    if name = ("join" : Str) then (match R.e T a, R.e T b with
      | some m, some n => some (.mt .join m n)
      | _, _ => none)
    else if name = ("split" : Str) then (match R.e T a, R.e T b with
      | some m, some n => some (.mt (if r = true then .splitR else .splitV) m n)
      | _, _ => none)
    else if name = ("append" : Str) then (match a with
      | .Name y _ => (match locV T y, R.e T b with
        | some i, some n => some (.app i n)
        | _, _ => none)
      | _ => none)
    else if name = ("extend" : Str) then (match a with
      | .Name y _ => (match locV T y, R.e T b with
        | some i, some n => some (.extd i n)
        | _, _ => none)
      | _ => none)
    else none
  else none
theorem trMt_ok {R : Rc} (hR : Snd R) {X : Cx} {Z : Xc} {W : WX} {T : Tab} {r : Bool} {a b : Expr} {name : Str} {apos pos : Pos} {m : ME} (c : Ctx X Z W T) (h : trMt R T r a name apos b pos = some m) : PE X (.Call (.Attribute a name apos) [b] [] pos) (TI Z W m) := by
  unfold trMt at h
  split at h
  · rename_i hc
    obtain ⟨h1, h2, h3⟩ := hc
    have hs : starEach [b] X.env = [(false, eval b X.env)] := starEach_ns h2
    split at h
    · rename_i e
      subst e
      split at h
      · rename_i m' n' e1 e2
        cases h
        exact snd_m1 PySem.F.slot_str_join PySem.F.type_str_join (mg_join c.K) (hR.e c e1) (hR.e c e2) hs (base_nc h1) h3
      · cases h
    · split at h
      · rename_i e
        subst e
        split at h
        · rename_i m' n' e1 e2
          cases h
          cases r with
          | true => exact snd_m1 PySem.F.slot_str_split PySem.F.type_str_split mg_splitR (hR.e c e1) (hR.e c e2) hs (base_nc h1) h3
          | false => exact snd_m1 PySem.F.slot_str_split PySem.F.type_str_split mg_splitV (hR.e c e1) (hR.e c e2) hs (base_nc h1) h3
        · cases h
      · split at h
        · rename_i e
          subst e
          split at h
          · rename_i y p
            split at h
            · rename_i i n' e1 e2
              cases h
              obtain ⟨a1, a2, a3, a4⟩ := locV_ok c e1
              refine snd_app a1 a2 a3 a4 c.K (hR.e c e2) (base_nc h1) ?_ h3 (starEach_ns h2)
              rw [hs]; rfl
            · cases h
          · cases h
        · split at h
          · rename_i e
            subst e
            split at h
            · rename_i y p
              split at h
              · rename_i i n' e1 e2
                cases h
                obtain ⟨a1, a2, a3, a4⟩ := locV_ok c e1
                refine snd_extd a1 a2 a3 a4 c.K (hR.e c e2) (base_nc h1) ?_ h3 (starEach_ns h2)
                rw [hs]; rfl
              · cases h
            · cases h
          · cases h
  · cases h
/-! ### the module's own dicts -/
def trKin (R : Rc) (T : Tab) (a : Expr) (op : CmpOp) (b : Expr) : Option ME := match b with
  | .Name y _ => match tabOf T y with
    | some kvs => match op with
      | .In => (R.e T a).map fun m => .bi (.kin false (kvs.map fun q => q.1)) (.cons m .nil)
      | .NotIn => (R.e T a).map fun m => .bi (.kin true (kvs.map fun q => q.1)) (.cons m .nil)
      | _ => none
    | none => none
  | _ => none
theorem trKin_ok {R : Rc} (hR : Snd R) {X : Cx} {Z : Xc} {W : WX} {T : Tab} {a b : Expr} {op : CmpOp} {m : ME} {pos : Pos} (c : Ctx X Z W T) (h : trKin R T a op b = some m) : PE X (.Compare a [op] [b] pos) (TI Z W m) := by
  unfold trKin at h
  split at h
  · split at h
    · rename_i kvs hk
      obtain ⟨a0, D, g1, g2, g3⟩ := tabOf_ok c hk
      split at h
      · obtain ⟨x, h1, rfl⟩ := mapO h
        exact snd_kin D g1 g2 g3 (hR.e c h1)
      · obtain ⟨x, h1, rfl⟩ := mapO h
        exact snd_knin D g1 g2 g3 (hR.e c h1)
      · cases h
    · cases h
  · cases h
theorem trKin_okT {R : Rc} (hR : Snd R) {X : Cx} {Z : Xc} {W : WX} {T : Tab} {a b : Expr} {op : CmpOp} {m : ME} {pos : Pos} (c : Ctx X Z W T) (h : trKin R T a op b = some m) : PT X (.Compare a [op] [b] pos) (TIT Z W m) := by
  unfold trKin at h
  split at h
  · split at h
    · rename_i kvs hk
      obtain ⟨a0, D, g1, g2, g3⟩ := tabOf_ok c hk
      split at h
      · obtain ⟨x, h1, rfl⟩ := mapO h
        exact snd_kinT D g1 g2 g3 (hR.e c h1)
      · obtain ⟨x, h1, rfl⟩ := mapO h
        exact snd_kninT D g1 g2 g3 (hR.e c h1)
      · cases h
    · cases h
  · cases h
def trKget (R : Rc) (T : Tab) (a : Expr) (name : Str) (apos : Pos) (b : Expr) (pos : Pos) : Option ME := match a with
  | .Name y _ => if name = ("get" : Str) ∧ noStar b = true ∧ (apos.endLine == pos.line) = true then match tabOf T y with
    | some kvs => (R.e T b).map fun m => .bi (.kget kvs) (.cons m .nil)
    | none => none
    else none
  | _ => none
theorem trKget_ok {R : Rc} (hR : Snd R) {X : Cx} {Z : Xc} {W : WX} {T : Tab} {a b : Expr} {name : Str} {apos pos : Pos} {m : ME} (c : Ctx X Z W T) (h : trKget R T a name apos b pos = some m) : PE X (.Call (.Attribute a name apos) [b] [] pos) (TI Z W m) := by
  unfold trKget at h
  split at h
  · split at h
    · rename_i hc
      obtain ⟨rfl, h2, h3⟩ := hc
      split at h
      · rename_i kvs hk
        obtain ⟨a0, D, g1, g2, g3⟩ := tabOf_ok c hk
        obtain ⟨x, h1, rfl⟩ := mapO h
        have hs : starEach [b] X.env = [(false, eval b X.env)] := starEach_ns h2
        refine snd_kget D c.K g1 g2 g3 (hR.e c h1) ⟨base_nc rfl, ?_, h3, ?_⟩
        · rw [hs]; rfl
        · rw [hs]; rfl
      · cases h
    · cases h
  · cases h
def trO (R : Rc) (T : Tab) : Option Expr → Option MEo
  | none => some .none
  | some e => (R.e T e).map .some
theorem trO_ok {R : Rc} (hR : Snd R) {X : Cx} {Z : Xc} {W : WX} {T : Tab} {o : Option Expr} {m : MEo} (c : Ctx X Z W T) (h : trO R T o = some m) : PO X o (TIO Z W m) := by
  cases o with
  | none => cases h; exact snd_onone
  | some e =>
    obtain ⟨m', h1, rfl⟩ := mapO h
    exact snd_osome (hR.e c h1)
/-! ### one step -/
def two (R : Rc) (T : Tab) (a b : Expr) (f : ME → ME → ME) : Option ME := match R.e T a, R.e T b with
  | some m, some n => some (f m n)
  | _, _ => none
theorem two_ok {R : Rc} {T : Tab} {a b : Expr} {f : ME → ME → ME} {m : ME} (h : two R T a b f = some m) : ∃ x y, R.e T a = some x ∧ R.e T b = some y ∧ m = f x y := by
  unfold two at h
  split at h
  · rename_i x y e1 e2; cases h; exact ⟨x, y, e1, e2, rfl⟩
  · cases h
def stepE (R : Rc) (T : Tab) : Expr → Option ME
  | .Constant c _ _ => (trConst c).map .k
  | .Name x _ => trName T x
  | .BinOp a op b _ => match opB op with
    | some o => two R T a b (.bin o)
    | none => none
  | .UnaryOp .USub a _ => (R.e T a).map (.un .neg)
  | .UnaryOp .Not a _ => (R.e T a).map .not_
  | .Compare a [.Is] [.Constant .none _ _] _ => (R.e T a).map (.un .isN)
  | .Compare a [.IsNot] [.Constant .none _ _] _ => (R.e T a).map (.un .notN)
  | .Compare a [op] [b] _ => match trKin R T a op b with
    | some m => some m
    | none => match opC op with
      | some o => if noSet b = true then two R T a b (.bin o) else none
      | none => none
  | .Compare a [op, op'] [b, c] _ => match opC op, opC op', R.e T a, R.e T b, R.e T c with
    | some o, some o', some ma, some mb, some mc => if noSet c = true then some (.chain o o' ma mb mc) else none
    | _, _, _, _, _ => none
  | .BoolOp _ [a] _ => R.e T a
  | .BoolOp .And (a :: b :: r) p => two R T a (.BoolOp .And (b :: r) p) .and_
  | .BoolOp .Or (a :: b :: r) p => two R T a (.BoolOp .Or (b :: r) p) .or_
  | .IfExp c a b _ => match R.t T c with
    | some mc => two R T a b (.ite mc)
    | none => none
  | .Tuple es _ _ => (trEs R T es).map .tup
  | .List es _ => (trEs R T es).map .lst
  | .Dict [] [] _ => some (.dctR [] .nil)
  | .Dict keys values _ => match trKeys keys, trEs R T values with
    | some ks, some ms => if keys.length = values.length ∧ keys.isEmpty = false ∧ keys.length ≤ 15 then some (.dctR ks ms) else none
    | _, _ => none
  | .Subscript a (.Slice lo hi none _) _ => match R.e T a, trO R T lo, trO R T hi with
    | some m, some l, some h => some (.slice m l h)
    | _, _, _ => none
  | .Subscript a b _ => if noSlice b = true then two R T a b (.bin .ix) else none
  | .ListComp elt gs scope _ => trLc R T false elt gs scope
  | .Call (.Name x _) args kws _ => trCall R T x args kws
  | .Call (.Attribute a name apos) [b] [] pos => match trKget R T a name apos b pos with
    | some m => some m
    | none => trMt R T false a name apos b pos
  | _ => none
theorem stepE_ok {R : Rc} (hR : Snd R) {T : Tab} {a : Expr} {m : ME} {X : Cx} {Z : Xc} {W : WX} (c : Ctx X Z W T) (h : stepE R T a = some m) : PE X a (TI Z W m) := by
  have hu := c.un
  unfold stepE at h
  split at h
  · obtain ⟨p, h1, rfl⟩ := mapO h; exact trConst_ok h1
  · exact trName_ok c h
  · split at h
    · rename_i o ho
      obtain ⟨x, y, e1, e2, rfl⟩ := two_ok h
      exact snd_bin (opB_ok c ho) (op2_noexc o) (hR.e c e1) (hR.e c e2)
    · cases h
  · obtain ⟨x, h1, rfl⟩ := mapO h; exact snd_neg (hR.e c h1)
  · obtain ⟨x, h1, rfl⟩ := mapO h; exact snd_not (hR.e c h1)
  · obtain ⟨x, h1, rfl⟩ := mapO h; exact snd_isN (hR.e c h1)
  · obtain ⟨x, h1, rfl⟩ := mapO h; exact snd_notN (hR.e c h1)
  · split at h
    · rename_i m' hm
      cases h
      exact trKin_ok hR c hm
    · split at h
      · rename_i o ho
        split at h
        · rename_i hs
          obtain ⟨x, y, e1, e2, rfl⟩ := two_ok h
          exact snd_cmp (opC_ok c ho).1 (op2_noexc o) (hR.e c e1) (hR.e c e2) (behind_ns hs)
        · cases h
      · cases h
  · split at h
    · rename_i o o' ma mb mc h1 h2 h3 h4 h5
      split at h
      · rename_i hs
        cases h
        exact snd_chain (opC_ok c h1).1 (opC_ok c h1).2 (opC_ok c h2).1 (hR.e c h3) (hR.e c h4) (hR.e c h5) (behind_ns hs)
      · cases h
    · cases h
  · exact pe_one (hR.e c h)
  · obtain ⟨x, y, e1, e2, rfl⟩ := two_ok h; exact snd_and (hR.e c e1) (hR.e c e2)
  · obtain ⟨x, y, e1, e2, rfl⟩ := two_ok h; exact snd_or (hR.e c e1) (hR.e c e2)
  · split at h
    · rename_i mc h1
      obtain ⟨x, y, e1, e2, rfl⟩ := two_ok h
      exact snd_ite (hR.t c h1) (hR.e c e1) (hR.e c e2)
    · cases h
  · obtain ⟨ms, h1, rfl⟩ := mapO h; exact snd_tup (trEs_ok hR c h1).1
  · obtain ⟨ms, h1, rfl⟩ := mapO h; exact snd_lst (trEs_ok hR c h1).1
  · cases h; exact snd_dict0
  · split at h
    · rename_i ks ms h1 h2
      split at h
      · rename_i hl
        cases h
        obtain ⟨b1, b2, b3⟩ := dict_ok hR c h1 h2 hl.1
        exact snd_dict b1 b3 b2 hl.1 (fun z => by rw [z] at hl; exact absurd hl.2.1 (by simp)) hl.2.2 fun σ w => by unfold HX; rw [c.hx]; trivial
      · cases h
    · cases h
  · split at h
    · rename_i m' l h' e1 e2 e3
      cases h
      exact snd_slice c.K (hR.e c e1) (trO_ok hR c e2) (trO_ok hR c e3)
    · cases h
  · split at h
    · rename_i hs
      obtain ⟨x, y, e1, e2, rfl⟩ := two_ok h
      exact snd_ix c.K (by omega) (hR.e c e1) (hR.e c e2) (plainIx_ns hs)
    · cases h
  · exact (trLc_ok hR c h).pe c
  · exact trCall_ok hR c h
  · split at h
    · rename_i m' hm
      cases h
      exact trKget_ok hR c hm
    · exact trMt_ok hR c h
  · cases h
def trueE (R : Rc) (T : Tab) (e : Expr) : Option ME := if plainT e = true then (match R.e T e with
  | some (.and_ _ _) => none
  | some (.or_ _ _) => none
  | some (.not_ _) => none
  | some (.ite _ _ _) => none
  | o => o) else none
theorem trueE_ok {R : Rc} (hR : Snd R) {T : Tab} {a : Expr} {m : ME} {X : Cx} {Z : Xc} {W : WX} (c : Ctx X Z W T) (h : trueE R T a = some m) : PT X a (TIT Z W m) := by
  unfold trueE at h
  split at h
  · rename_i hp
    split at h
    · cases h
    · cases h
    · cases h
    · cases h
    · rename_i h1 h2 h3 h4
      refine snd_truth (hR.e c h) (plainT_ok hp) c.K (fun x y e => ?_) (fun x y e => ?_) (fun x e => ?_) (fun x y z e => ?_)
      · subst e; exact h1 _ _ h
      · subst e; exact h2 _ _ h
      · subst e; exact h3 _ h
      · subst e; exact h4 _ _ _ h
  · cases h
def twoT (R : Rc) (T : Tab) (a b : Expr) (f : ME → ME → ME) : Option ME := match R.t T a, R.t T b with
  | some m, some n => some (f m n)
  | _, _ => none
theorem twoT_ok {R : Rc} {T : Tab} {a b : Expr} {f : ME → ME → ME} {m : ME} (h : twoT R T a b f = some m) : ∃ x y, R.t T a = some x ∧ R.t T b = some y ∧ m = f x y := by
  unfold twoT at h
  split at h
  · rename_i x y e1 e2; cases h; exact ⟨x, y, e1, e2, rfl⟩
  · cases h
def stepT (R : Rc) (T : Tab) : Expr → Option ME
  | .UnaryOp .Not a _ => (R.t T a).map .not_
  | .Compare a [.Is] [.Constant .none _ _] _ => (R.e T a).map (.un .isN)
  | .Compare a [.IsNot] [.Constant .none _ _] _ => (R.e T a).map (.un .notN)
  | .Compare a [op] [b] _ => match trKin R T a op b with
    | some m => some m
    | none => match opC op with
      | some o => if noSet b = true then two R T a b (.bin o) else none
      | none => none
  | .Compare a [op, op'] [b, c] _ => match opC op, opC op', R.e T a, R.e T b, R.e T c with
    | some o, some o', some ma, some mb, some mc => if noSet c = true then some (.chain o o' ma mb mc) else none
    | _, _, _, _, _ => none
  | .BoolOp .And [a] _ => R.t T a
  | .BoolOp .Or [a] _ => R.t T a
  | .BoolOp .And (a :: b :: r) p => twoT R T a (.BoolOp .And (b :: r) p) .and_
  | .BoolOp .Or (a :: b :: r) p => twoT R T a (.BoolOp .Or (b :: r) p) .or_
  | .IfExp c a b _ => match R.t T c with
    | some mc => twoT R T a b (.ite mc)
    | none => none
  | e => trueE R T e
theorem stepT_ok {R : Rc} (hR : Snd R) {T : Tab} {a : Expr} {m : ME} {X : Cx} {Z : Xc} {W : WX} (c : Ctx X Z W T) (h : stepT R T a = some m) : PT X a (TIT Z W m) := by
  unfold stepT at h
  split at h
  · obtain ⟨x, h1, rfl⟩ := mapO h; exact snd_notT (hR.t c h1)
  · obtain ⟨x, h1, rfl⟩ := mapO h; exact snd_isNT (hR.e c h1)
  · obtain ⟨x, h1, rfl⟩ := mapO h; exact snd_notNT (hR.e c h1)
  · split at h
    · rename_i m' hm
      cases h
      exact trKin_okT hR c hm
    · split at h
      · rename_i o ho
        split at h
        · rename_i hs
          obtain ⟨x, y, e1, e2, rfl⟩ := two_ok h
          exact snd_cmpT (opC_ok c ho).1 (op2_noexc o) (opC_ok c ho).2 (hR.e c e1) (hR.e c e2) (behind_ns hs)
        · cases h
      · cases h
  · split at h
    · rename_i o o' ma mb mc h1 h2 h3 h4 h5
      split at h
      · rename_i hs
        cases h
        exact snd_chainT (opC_ok c h1).1 (opC_ok c h1).2 (opC_ok c h2).1 (opC_ok c h2).2 (hR.e c h3) (hR.e c h4) (hR.e c h5) (behind_ns hs)
      · cases h
    · cases h
  · exact (pw_and1 (hR.t c h)).pt
  · exact (pw_or1 (hR.t c h)).pt
  · obtain ⟨x, y, e1, e2, rfl⟩ := twoT_ok h; exact (snd_andT (hR.t c e1) (pw_bool (hR.t c e2))).pt
  · obtain ⟨x, y, e1, e2, rfl⟩ := twoT_ok h; exact (snd_orT (hR.t c e1) (pw_bool (hR.t c e2))).pt
  · split at h
    · rename_i mc h1
      obtain ⟨x, y, e1, e2, rfl⟩ := twoT_ok h
      exact snd_iteT (hR.t c h1) (hR.t c e1) (hR.t c e2) fun _ => rfl
    · cases h
  · exact trueE_ok hR c h
def rc : Nat → Rc
  | 0 => ⟨fun _ _ => none, fun _ _ => none⟩
  | n + 1 => ⟨stepE (rc n), stepT (rc n)⟩
theorem rc_ok : ∀ n : Nat, Snd (rc n)
  | 0 => ⟨(fun _ h => by cases h), (fun _ h => by cases h)⟩
  | n + 1 => ⟨fun c h => stepE_ok (rc_ok n) c h, fun c h => stepT_ok (rc_ok n) c h⟩
/-- a fresh list that is an object of the store -/
def trR (R : Rc) (T : Tab) : Expr → Option ME
  | .List es _ => (trEs R T es).map .lstR
  | .ListComp elt gs scope _ => trLc R T true elt gs scope
  | .Call (.Name x _) [a] [] _ => if x = ("list" : Str) ∧ blB T x = true ∧ noStar a = true then (R.e T a).map fun m => .bi .listR (.cons m .nil) else trCall R T x [a] []
  | .Call (.Attribute a name apos) [b] [] pos => trMt R T true a name apos b pos
  | e => R.e T e
theorem trR_ok {R : Rc} (hR : Snd R) {T : Tab} {a : Expr} {m : ME} {X : Cx} {Z : Xc} {W : WX} (c : Ctx X Z W T) (h : trR R T a = some m) : PE X a (TI Z W m) := by
  unfold trR at h
  split at h
  · obtain ⟨ms, h1, rfl⟩ := mapO h; exact snd_lstR (trEs_ok hR c h1).1
  · exact (trLc_ok hR c h).pe c
  · split at h
    · rename_i hc
      obtain ⟨rfl, h1, h2⟩ := hc
      obtain ⟨m', hm, rfl⟩ := mapO h
      obtain ⟨g1, g2⟩ := blB_ok c h1
      exact snd_biT (bg_listR c.K) g1 g2 boot_list (snd_acons (hR.e c hm) snd_anil (starEach_ns h2)) (by decide) (by decide) (starEach_ns h2) rfl
    · exact trCall_ok hR c h
  · exact trMt_ok hR c h
  · exact hR.e c h
end Dg
end

section
set_option Elab.async false
set_option linter.all false
set_option maxRecDepth 100000
set_option maxHeartbeats 4000000
/-! DgS: the translation of statements, sound. -/
namespace Dg
open PySem PySem.Spec L2
open PyProof.Rows hiding St

def Raise1 (X : Cx) (Z : Xc) (x : Str) (c : Nat) : Prop := ∀ {e : Expr} {te : TE} {p pos : Pos}, Gl X x → (x == ("__debug__" : Str)) = false → PE X e te → noStar e = true → PMk X (.Call (.Name x p) [e] [] pos) (tMkX Z c te)
structure SCx (X : Cx) (Z : Xc) (W : WX) (T : Tab) : Prop extends Ctx X Z W T where
  po : PassesOwn (model X.prog X.w) X.A X.env X.xe
  hst : X.stack = X.env :: X.outer
  hf : X.env.frame = some X.env.locals
  raise : ∀ x c, T.excs.lookup x = some c → ∀ (pn : List (Addr × Obj)) (xe : Value → Shared → Prop), Raise1 (X.tr pn xe) Z x c
  sub : ∀ c c', Z.C.sub c c' = T.subs.lookup (c, c')
  xm : ∀ c c' b, T.subs.lookup (c, c') = some b → PySem.W.exmOne X.K (.ref (Z.cl c)) (.ref (Z.cl c')) = some b
  xcls : ∀ x c, T.excs.lookup x = some c → X.mg x = some (.ref (Z.cl c))
  xf : ∀ c f, T.fds[c]? = some f → Z.fd c = f ∧ XfC X.K (Z.cl c) ∧ PySem.W.findIn X.K (.ref (Z.cl c)) f = some none
theorem SCx.tr {X : Cx} {Z : Xc} {W W' : WX} {T : Tab} (c : SCx X Z W T) {pn : List (Addr × Obj)} {xe : Value → Shared → Prop} (tk : Takes (X.tr pn xe) W') (po : PassesOwn (model X.prog X.w) X.A X.env xe) : SCx (X.tr pn xe) Z W' T where
  K := c.K
  hx := c.hx
  calm := c.calm
  nd := c.nd
  N := c.N
  sc := c.sc
  fn := c.fn
  un := c.un
  calls := fun q hq => ⟨(c.calls q hq).go⟩
  consts := c.consts
  bl := c.bl
  tabs := c.tabs
  bfs := c.bfs
  tk := tk
  po := po
  hst := c.hst
  hf := c.hf
  raise := fun x d h pn' xe' => c.raise x d h pn' xe'
  sub := c.sub
  xm := c.xm
  xcls := c.xcls
  xf := c.xf

/-! ### what is seen of a store -/
def noComp : Expr → Bool
  | .ListComp .. => false
  | .SetComp .. => false
  | .DictComp .. => false
  | _ => true
theorem swaps_nc {e : Expr} {o : Option Expr} {line : Nat} {env : Env} (h : noComp e = true) : swapsWith e o line env = pure false := by
  cases e <;> first | rfl | (cases h)
def lcSw (T : Tab) (t : Str) (pos p : Pos) (s : Scope) : Bool :=
  (if T.sc.kind.isAnnotationScope then ScopeKind.function else T.sc.kind) == .function && T.sc.names.lookup t == some .local && pos.line == p.line
      && !(s.names.any fun (n, k) => n == t && (k == .local || k == .cell))
theorem lcSw_ok {T : Tab} {t : Str} {pos p : Pos} {s : Scope} {elt : Expr} {gs : List Comprehension} {line : Nat} {env : Env} (h : env.scope = T.sc) : swapsWith (.ListComp elt gs s p) (some (.Name t pos)) line env = pure (lcSw T t pos p s) := by
  unfold lcSw
  rw [← h]
  rfl
def bkS (sc : Scope) : ScopeKind := if sc.kind.isAnnotationScope then ScopeKind.function else sc.kind
def sw1 (sc : Scope) (ts vs : List Expr) : Bool := !(ts.length == 2 || ts.length == 3) || vs.length != ts.length || bkS sc != .function
def sw2 (vs : List Expr) : Bool := vs.any fun
  | .Starred .. => true
  | _ => false
def swN (sc : Scope) (ts : List Expr) : List Str := ts.filterMap fun
    | .Name id pos => if sc.names.lookup id == some .local && pos.line == (ts.head?.map (·.pos.line)).getD 0 then some id else none
    | _ => none
def sw3 (ts : List Expr) (ns : List Str) : Bool := ns.length != ts.length || ns.eraseDups.length != ns.length
theorem sw_tup {ts vs : List Expr} {k k2 : Nat} {p p2 : Pos} {env : Env} : swappedStores [.Tuple ts k p] (.Tuple vs k2 p2) env =
    if sw1 env.scope ts vs = true then pure none else if sw2 vs = true then pure none else if sw3 ts (swN env.scope ts) = true then pure none else
      if vs.all (foldedForSure 8) = true then pure none else if vs.all (constantsAlone 8) = true then (do unsupported "assign.tuple-of-constant-expressions:order-of-the-stores"; pure (some (swN env.scope ts))) else pure (some (swN env.scope ts)) := by
  unfold swappedStores sw1 sw2 sw3 swN bkS
  rfl
def swF (T : Tab) (ts vs : List Expr) : Option (Option (List Str)) :=
  if sw1 T.sc ts vs = true then some none else if sw2 vs = true then some none else if sw3 ts (swN T.sc ts) = true then some none else
  if vs.all (foldedForSure 8) = true then some none else if vs.all (constantsAlone 8) = true then none else some (some (swN T.sc ts))
theorem swF_ok {T : Tab} {ts vs : List Expr} {k k2 : Nat} {p p2 : Pos} {env : Env} {r : Option (List Str)} (h : env.scope = T.sc) (hr : swF T ts vs = some r) : swappedStores [.Tuple ts k p] (.Tuple vs k2 p2) env = pure r := by
  rw [sw_tup, h]
  unfold swF at hr
  by_cases c1 : sw1 T.sc ts vs = true
  · rw [if_pos c1] at hr ⊢; cases hr; rfl
  rw [if_neg c1] at hr ⊢
  by_cases c2 : sw2 vs = true
  · rw [if_pos c2] at hr ⊢; cases hr; rfl
  rw [if_neg c2] at hr ⊢
  by_cases c3 : sw3 ts (swN T.sc ts) = true
  · rw [if_pos c3] at hr ⊢; cases hr; rfl
  rw [if_neg c3] at hr ⊢
  by_cases c4 : vs.all (foldedForSure 8) = true
  · rw [if_pos c4] at hr ⊢; cases hr; rfl
  rw [if_neg c4] at hr ⊢
  by_cases c5 : vs.all (constantsAlone 8) = true
  · rw [if_pos c5] at hr; cases hr
  rw [if_neg c5] at hr ⊢
  cases hr; rfl
def noTup : Expr → Bool
  | .Tuple .. => false
  | _ => true
theorem sw_nt {tg e : Expr} {env : Env} (h : noTup e = true) : swappedStores [tg] e env = pure none := by
  cases e <;> first | (cases tg <;> rfl) | (cases h)
theorem assign_ns {a : Expr} {es : List Expr} {env : Env} (h : noStar a = true) : (assignEach (a :: es) env).map (·.2) = assign a env :: (assignEach es env).map (·.2) := by
  cases a <;> first | rfl | (cases h)
theorem assign_sub {a b : Expr} {p : Pos} {env : Env} (h : noSlice b = true) : ∀ v, assign (.Subscript a b p) env v = (do
      let ov ← holding [v] (eval a env)
      let iv ← holding [v, ov] (eval b env)
      standAt p
      holding [v, ov, iv] (setItem ov iv v)
      release [v, ov, iv] []) := fun v => by
  cases b <;> first | rfl | (cases h)
/-! ### targets of several kinds -/
def trMs (R : Rc) (T : Tab) : List Expr → Option (List MT)
  | [] => some []
  | .Name x _ :: r => match trSt T x, trMs R T r with
    | some i, some l => some (.name i :: l)
    | _, _ => none
  | .Subscript a b _ :: r => if noSlice b = true then (match R.e T a, R.e T b, trMs R T r with
    | some m, some n, some l => some (.sub m n :: l)
    | _, _, _ => none) else none
  | _ => none
theorem trMs_ok {R : Rc} (hR : Snd R) {X : Cx} {Z : Xc} {W : WX} {T : Tab} (c : Ctx X Z W T) : ∀ {es : List Expr} {ts : List MT}, trMs R T es = some ts → PGs X es (TMs Z W ts) ∧ (assignEach es X.env).length = ts.length ∧ (assignEach es X.env).findIdx? (·.1) = none
  | [], ts, h => by cases h; exact ⟨snd_mnil, rfl, rfl⟩
  | e :: r, ts, h => by
    have hu := c.un
    unfold trMs at h
    split at h
    · rename_i heq; cases heq
    · rename_i x p r' heq
      cases heq
      split at h
      · rename_i i l h1 h2
        cases h
        obtain ⟨a1, a2, a3⟩ := trSt_ok c h1
        obtain ⟨b1, b2, b3⟩ := trMs_ok hR c h2
        refine ⟨snd_mname c.hx c.nd a1 a2 a3 b1 rfl, ?_, ?_⟩
        · show (assignEach r X.env).length + 1 = l.length + 1
          rw [b2]
        · show (List.findIdx? (·.1) ((false, assign (.Name x p) X.env) :: assignEach r X.env)) = none
          rw [List.findIdx?_cons, b3]; rfl
      · cases h
    · rename_i a b p r' heq
      cases heq
      split at h
      · rename_i hs
        split at h
        · rename_i m n l h1 h2 h3
          cases h
          obtain ⟨b1, b2, b3⟩ := trMs_ok hR c h3
          refine ⟨snd_msub (by omega) (hR.e c h1) (hR.e c h2) b1 (assign_sub hs) rfl, ?_, ?_⟩
          · show (assignEach r X.env).length + 1 = l.length + 1
            rw [b2]
          · show (List.findIdx? (·.1) ((false, assign (.Subscript a b p) X.env) :: assignEach r X.env)) = none
            rw [List.findIdx?_cons, b3]; rfl
        · cases h
      · cases h
    · cases h
/-! ### values by their targets -/
def isMu (T : Tab) : Expr → Bool
  | .Name x _ => T.mu.contains x
  | _ => false
def trV (R : Rc) (T : Tab) (b : Bool) (e : Expr) : Option ME := if b = true then trR R T e else R.e T e
theorem trV_ok {R : Rc} (hR : Snd R) {T : Tab} {b : Bool} {a : Expr} {m : ME} {X : Cx} {Z : Xc} {W : WX} (c : Ctx X Z W T) (h : trV R T b a = some m) : PE X a (TI Z W m) := by
  unfold trV at h
  split at h
  · exact trR_ok hR c h
  · exact hR.e c h
def trVs (R : Rc) (T : Tab) : List Expr → List Expr → Option MEs
  | [], [] => some .nil
  | t :: ts, e :: es => if noStar e = true then (match trV R T (isMu T t) e, trVs R T ts es with
    | some m, some ms => some (.cons m ms)
    | _, _ => none) else none
  | _, _ => none
theorem trVs_ok {R : Rc} (hR : Snd R) {X : Cx} {Z : Xc} {W : WX} {T : Tab} (c : Ctx X Z W T) : ∀ {ts es : List Expr} {ms : MEs}, trVs R T ts es = some ms → PA X es (TIA Z W ms)
  | [], [], ms, h => by cases h; exact snd_anil
  | [], _ :: _, ms, h => by cases h
  | _ :: _, [], ms, h => by cases h
  | t :: ts, e :: es, ms, h => by
    unfold trVs at h
    split at h
    · rename_i hs
      split at h
      · rename_i m ms' h1 h2
        cases h
        exact snd_acons (trV_ok hR c h1) (trVs_ok hR c h2) (starEach_ns hs)
      · cases h
    · cases h
/-! ### assignments -/
def localB (T : Tab) (x : Str) : Bool := match T.sc.names.lookup x with
  | some .local => true
  | _ => false
theorem localB_ok {X : Cx} {Z : Xc} {W : WX} {T : Tab} {x : Str} (c : Ctx X Z W T) (h : localB T x = true) : X.env.scope.names.lookup x = some .local := by
  unfold localB at h
  rw [c.sc]
  split at h
  · assumption
  · cases h
def trAsg (R : Rc) (T : Tab) (tg e : Expr) : Option MS := match tg with
  | .Name x p => match trSt T x with
    | some i => (match e with
      | .ListComp elt gs s p' => if lcSw T x p p' s = true then (if localB T x = true then (trLc R T (T.mu.contains x) elt gs s).map (.asg (.name i)) else none) else (trV R T (T.mu.contains x) e).map (.asg (.name i))
      | e => if noComp e = true then (trV R T (T.mu.contains x) e).map (.asg (.name i)) else none)
    | none => none
  | .Subscript a b _ => if noSlice b = true ∧ noTup e = true then (match R.e T a, R.e T b, trV R T (match b with
      | .Constant (.str _) _ _ => true
      | _ => false) e with
    | some m, some n, some v => some (.setix m n v)
    | _, _, _ => none) else none
  | .Tuple ts _ _ => (match e with
    | .Tuple vs _ _ => (match swF T ts vs with
      | some none => (match trMs R T ts, trVs R T ts vs with
        | some l, some ms => some (.unp l (.tup ms))
        | _, _ => none)
      | some (some ns) => (match ts, vs with
        | [.Name x _, .Name y _], [a, b] => if ns = [x, y] ∧ localB T x = true ∧ localB T y = true then (match idx x T.N, idx y T.N, trVs R T ts vs with
          | some i, some j, some (.cons ma (.cons mb .nil)) => if i ≠ j then some (.asg (.tup [i, j]) (.tup (.cons ma (.cons mb .nil)))) else none
          | _, _, _ => none) else none
        | [.Name x _, .Name y _, .Name z _], [a, b, c] => if ns = [x, y, z] ∧ localB T x = true ∧ localB T y = true ∧ localB T z = true then (match idx x T.N, idx y T.N, idx z T.N, trVs R T ts vs with
          | some i, some j, some l, some (.cons ma (.cons mb (.cons mc .nil))) => if i ≠ j ∧ i ≠ l ∧ j ≠ l then some (.asg (.tup [i, j, l]) (.tup (.cons ma (.cons mb (.cons mc .nil))))) else none
          | _, _, _, _ => none) else none
        | _, _ => none)
      | none => none)
    | e => if noTup e = true ∧ noComp e = true then (match trMs R T ts, R.e T e with
        | some l, some m => some (.unp l m)
        | _, _ => none) else none)
  | _ => none
theorem sole_eq {tg e : Expr} {line : Nat} {env : Env} : swapsWithSole [tg] e line env = swapsWith e (some tg) line env := rfl
theorem swaps_tg {tg e : Expr} {line : Nat} {env : Env} (h : ∀ x p, tg ≠ .Name x p) : swapsWith e (some tg) line env = pure false := by
  cases e <;> first | rfl | (cases tg <;> first | rfl | (exact absurd rfl (h _ _)))
theorem trAsg_ok {R : Rc} (hR : Snd R) {X : Cx} {Z : Xc} {W : WX} {T : Tab} {tg e : Expr} {m : MS} {pos : Pos} (c : Ctx X Z W T) (h : trAsg R T tg e = some m) : PS X (.Assign [tg] e pos) (TSS Z W m) := by
  have hu := c.un
  unfold trAsg at h
  split at h
  · rename_i x p
    split at h
    · rename_i i hi
      obtain ⟨a1, a2, a3⟩ := trSt_ok c hi
      split at h
      · rename_i elt gs s p'
        split at h
        · rename_i hsw
          split at h
          · rename_i hl
            obtain ⟨me, hm, rfl⟩ := mapO h
            obtain ⟨tg, iter, ifs, own, it, t, mo, me, rfl, rfl, h1, h2, h3, h4, h5, h6, h7⟩ := (trLc_ok hR c hm).go
            exact snd_setLc c.hx c.calm c.nd a1 (localB_ok c hl) (by rw [lcSw_ok c.sc, hsw]) h1 h2 h3 h4 h5 h6 h7
          · cases h
        · rename_i hsw
          obtain ⟨me, hm, rfl⟩ := mapO h
          exact snd_set c.hx c.nd a1 a2 (trV_ok hR c hm) (by rw [lcSw_ok c.sc]; rw [Bool.not_eq_true] at hsw; rw [hsw]) a3
      · split at h
        · rename_i hn
          obtain ⟨me, hm, rfl⟩ := mapO h
          exact snd_set c.hx c.nd a1 a2 (trV_ok hR c hm) (swaps_nc hn) a3
        · cases h
    · cases h
  · rename_i a b p
    split at h
    · rename_i hs
      split at h
      · rename_i m' n' v' e1 e2 e3
        cases h
        exact snd_setix (by omega) (trV_ok hR c e3) (hR.e c e1) (hR.e c e2) (by rw [sole_eq, swaps_tg (fun _ _ z => by cases z)]) (sw_nt hs.2) (assign_sub hs.1) rfl
      · cases h
    · cases h
  · rename_i ts k tp
    split at h
    · rename_i vs k2 p2
      split at h
      · rename_i hsw
        split at h
        · rename_i l ms h1 h2
          cases h
          obtain ⟨b1, b2, b3⟩ := trMs_ok hR c h1
          exact snd_unp c.K c.calm (snd_tup (trVs_ok hR c h2)) b1 b2 b3 (by rw [sole_eq, swaps_nc rfl]) (swF_ok c.sc hsw) rfl
        · cases h
      · rename_i ns hsw
        split at h
        · rename_i x px y py a b
          split at h
          · rename_i hc
            obtain ⟨rfl, hx, hy⟩ := hc
            split at h
            · rename_i i j ma mb h1 h2 h3
              split at h
              · rename_i hij
                cases h
                exact snd_par c.hx c.calm c.nd (by rw [c.N]; exact idx_ok h1) (by rw [c.N]; exact idx_ok h2) hij (localB_ok c hx) (localB_ok c hy) (trVs_ok hR c h3) (swF_ok c.sc hsw) (by rw [sole_eq, swaps_nc rfl])
              · cases h
            · cases h
          · cases h
        · rename_i x px y py z pz a b d
          split at h
          · rename_i hc
            obtain ⟨rfl, hx, hy, hz⟩ := hc
            split at h
            · rename_i i j l ma mb mc h1 h2 h3 h4
              split at h
              · rename_i hij
                cases h
                exact snd_par3 c.hx c.calm c.nd (by rw [c.N]; exact idx_ok h1) (by rw [c.N]; exact idx_ok h2) (by rw [c.N]; exact idx_ok h3) hij.1 hij.2.1 hij.2.2 (localB_ok c hx) (localB_ok c hy) (localB_ok c hz) (trVs_ok hR c h4) (swF_ok c.sc hsw) (by rw [sole_eq, swaps_nc rfl])
              · cases h
            · cases h
          · cases h
        · cases h
      · cases h
    · split at h
      · rename_i hn
        split at h
        · rename_i l me h1 h2
          cases h
          obtain ⟨b1, b2, b3⟩ := trMs_ok hR c h1
          exact snd_unp c.K c.calm (hR.e c h2) b1 b2 b3 (by rw [sole_eq, swaps_nc hn.2]) (sw_nt hn.1) rfl
        · cases h
      · cases h
  · cases h
end Dg
end

section
set_option Elab.async false
set_option linter.all false
set_option maxRecDepth 100000
set_option maxHeartbeats 4000000
/-! DgT: the translation of statements, sound (2): try, all statements. -/
namespace Dg
open PySem PySem.Spec L2
open PyProof.Rows hiding St

/-! ### except suites -/
/-- what a suite's expression may be: n the exception's name, f the field -/
def trH0 (n f : Str) : Expr → Option ME
  | .Constant c _ _ => (trConst c).map .k
  | .Attribute (.Name x _) g _ => if x = n ∧ g = f then some .exarg else none
  | _ => none
def trHs (n f : Str) : List Expr → Option MEs
  | [] => some .nil
  | e :: es => if noStar e = true then (match trH0 n f e, trHs n f es with
    | some m, some ms => some (.cons m ms)
    | _, _ => none) else none
def trH (n f : Str) : Expr → Option ME
  | .List es _ => (trHs n f es).map .lst
  | .Tuple es _ _ => (trHs n f es).map .tup
  | e => trH0 n f e
section
variable {X : Cx} {Z : Xc} {W W' : WX} {T : Tab} {n f : Str} {i c : Nat} {av : PV} {a : Addr} {oe : Obj} {d : Option Addr} {pn : List (Addr × Obj)}
theorem trH0_ok (k : SCx X Z W' T) (hn : visB T.sc n = true ∧ okNm n = true ∧ idx n T.N = some i) (hf : T.fds[c]? = some f) (hz : Zc (.ref (Z.cl c)) d oe) (hv : ∃ vs, oe.data = .fields vs) {e : Expr} {m : ME} (h : trH0 n f e = some m) :
    PE (X.suite a ((a, oe) :: pn)) e (TI (Zh Z c av a d i) W m) := by
  unfold trH0 at h
  split at h
  · obtain ⟨p, h1, rfl⟩ := mapO h; exact trConst_ok h1
  · split at h
    · rename_i e2
      obtain ⟨rfl, rfl⟩ := e2
      cases h
      obtain ⟨x1, x2, x3⟩ := k.xf c _ hf
      obtain ⟨d1, d2⟩ := okNm_ok hn.2.1
      exact snd_exarg x2 x3 x1 hz hv (by rw [k.N]; exact idx_ok hn.2.2) (by rw [k.sc]; exact visB_ok hn.1) d1 d2 (base_nc rfl)
    · cases h
  · cases h
theorem trHs_ok (k : SCx X Z W' T) (hn : visB T.sc n = true ∧ okNm n = true ∧ idx n T.N = some i) (hf : T.fds[c]? = some f) (hz : Zc (.ref (Z.cl c)) d oe) (hv : ∃ vs, oe.data = .fields vs) : ∀ {es : List Expr} {ms : MEs}, trHs n f es = some ms →
    PA (X.suite a ((a, oe) :: pn)) es (TIA (Zh Z c av a d i) W ms)
  | [], ms, h => by cases h; exact snd_anil
  | e :: es, ms, h => by
    unfold trHs at h
    split at h
    · rename_i hs
      split at h
      · rename_i m ms' h1 h2
        cases h
        exact snd_acons (trH0_ok k hn hf hz hv h1) (trHs_ok k hn hf hz hv h2) (starEach_ns hs)
      · cases h
    · cases h
theorem trH_ok (k : SCx X Z W' T) (hn : visB T.sc n = true ∧ okNm n = true ∧ idx n T.N = some i) (hf : T.fds[c]? = some f) (hz : Zc (.ref (Z.cl c)) d oe) (hv : ∃ vs, oe.data = .fields vs) {e : Expr} {m : ME} (h : trH n f e = some m) :
    PE (X.suite a ((a, oe) :: pn)) e (TI (Zh Z c av a d i) W m) := by
  unfold trH at h
  split at h
  · obtain ⟨ms, h1, rfl⟩ := mapO h; exact snd_lst (trHs_ok k hn hf hz hv h1)
  · obtain ⟨ms, h1, rfl⟩ := mapO h; exact snd_tup (trHs_ok k hn hf hz hv h1)
  · exact trH0_ok k hn hf hz hv h
end
/-- what a suite's expression may be, no name given -/
def trC0 : Expr → Option ME
  | .Constant c _ _ => (trConst c).map .k
  | _ => none
def trCs : List Expr → Option MEs
  | [] => some .nil
  | e :: es => if noStar e = true then (match trC0 e, trCs es with
    | some m, some ms => some (.cons m ms)
    | _, _ => none) else none
def trC : Expr → Option ME
  | .List es _ => (trCs es).map .lst
  | .Tuple es _ _ => (trCs es).map .tup
  | e => trC0 e
section
variable {X : Cx} {Z : Xc} {W : WX}
theorem trC0_ok {e : Expr} {m : ME} (h : trC0 e = some m) : PE X e (TI Z W m) := by
  unfold trC0 at h
  split at h
  · obtain ⟨p, h1, rfl⟩ := mapO h; exact trConst_ok h1
  · cases h
theorem trCs_ok : ∀ {es : List Expr} {ms : MEs}, trCs es = some ms → PA X es (TIA Z W ms)
  | [], ms, h => by cases h; exact snd_anil
  | e :: es, ms, h => by
    unfold trCs at h
    split at h
    · rename_i hs
      split at h
      · rename_i m ms' h1 h2
        cases h
        exact snd_acons (trC0_ok h1) (trCs_ok h2) (starEach_ns hs)
      · cases h
    · cases h
theorem trC_ok {e : Expr} {m : ME} (h : trC e = some m) : PE X e (TI Z W m) := by
  unfold trC at h
  split at h
  · obtain ⟨ms, h1, rfl⟩ := mapO h; exact snd_lst (trCs_ok h1)
  · obtain ⟨ms, h1, rfl⟩ := mapO h; exact snd_tup (trCs_ok h1)
  · exact trC0_ok h
end
/-- a suite of one statement: where its value goes -/
def trSuite (T : Tab) (trX : Expr → Option ME) : List Stmt → Option (Option Nat × ME)
  | [.Assign [.Name y _] e _] => if noComp e = true then (match trSt T y, trX e with
    | some j, some m => some (some j, m)
    | _, _ => none) else none
  | [.Return (some e) _] => (trX e).map fun m => (none, m)
  | _ => none
theorem trSuite_ok {X : Cx} {Z : Xc} {W : WX} {T : Tab} {trX : Expr → Option ME} {sts : List Stmt} {t : Option Nat} {m : ME} {a : Addr} {oe : Obj} {pn : List (Addr × Obj)} {te : TE} (c : Ctx X Z W T) (h : trSuite T trX sts = some (t, m)) (hx : ∀ e, trX e = some m → PE (X.suite a ((a, oe) :: pn)) e te) :
    PSs (X.suite a ((a, oe) :: pn)) sts (fun D σ H => te σ H (tEnd t D σ)) ∧ sts ≠ [] := by
  unfold trSuite at h
  split at h
  · split at h
    · rename_i hn
      split at h
      · rename_i j m' h1 h2
        cases h
        obtain ⟨a1, a2, a3⟩ := trSt_ok c h1
        exact ⟨suite_one c.nd a1 a2 a3 (hx _ h2) (swaps_nc hn), by simp⟩
      · cases h
    · cases h
  · obtain ⟨m', h1, h2⟩ := mapO h
    cases h2
    exact ⟨suite_ret (hx _ h1), by simp⟩
  · cases h
def allSub (T : Tab) (c' : Nat) (f : Str) : Bool := T.subs.all fun q => !(q.2 && q.1.2 == c') || T.fds[q.1.1]? == some f
theorem lookup_mem' {α β : Type} [BEq α] [LawfulBEq α] {x : α} {y : β} : ∀ {l : List (α × β)}, l.lookup x = some y → (x, y) ∈ l
  | [], h => by cases h
  | (a, b) :: r, h => by
    rw [List.lookup_cons] at h
    split at h
    · rename_i e
      cases h
      rw [eq_of_beq e]; exact List.mem_cons_self ..
    · exact List.mem_cons_of_mem _ (lookup_mem' h)
theorem allSub_ok {T : Tab} {c' : Nat} {f : Str} (h : allSub T c' f = true) {c : Nat} (hs : T.subs.lookup (c, c') = some true) : T.fds[c]? = some f := by
  have z := List.all_eq_true.mp h _ (lookup_mem' hs)
  simpa using z
def trHd (T : Tab) : ExceptHandler → Option MHd
  | .ExceptHandler (some (.Name x _)) none sts _ => if glB T.sc x = true ∧ okNm x = true then (match T.excs.lookup x, trSuite T trC sts with
    | some c, some (t, m) => some (.mk c none t m)
    | _, _ => none) else none
  | .ExceptHandler (some (.Name x _)) (some n) sts _ => if glB T.sc x = true ∧ okNm x = true ∧ localB T n = true ∧ okNm n = true then (match T.excs.lookup x, idx n T.N with
    | some c, some i => (match T.fds[c]? with
      | some f => (match trSuite T (trH n f) sts with
        | some (t, m) => if allSub T c f = true then some (.mk c (some i) t m) else none
        | none => none)
      | none => none)
    | _, _ => none) else none
  | _ => none
def trHds (T : Tab) : List ExceptHandler → Option (List MHd)
  | [] => some []
  | h :: r => match trHd T h, trHds T r with
    | some m, some l => some (m :: l)
    | _, _ => none
def okcT (T : Tab) (c' c : Nat) : Prop := T.subs.lookup (c, c') = some true
theorem localB_vis {T : Tab} {n : Str} (h : localB T n = true) : visB T.sc n = true := by
  unfold localB at h
  unfold visB
  split at h
  · rename_i e; rw [e]
  · cases h
theorem trHds_ok {X : Cx} {Z : Xc} {W : WX} {T : Tab} (k : SCx X Z W T) : ∀ {hds : List ExceptHandler} {l : List MHd}, trHds T hds = some l → HdsG X hds (l.map (hdR Z (okcT T)))
  | [], l, h => by cases h; exact .nil
  | hd :: r, l, h => by
    unfold trHds at h
    split at h
    · rename_i m l' h1 h2
      cases h
      have ih := trHds_ok k h2
      unfold trHd at h1
      split at h1
      · rename_i x np sts hp
        split at h1
        · rename_i hc
          split at h1
          · rename_i c t m' e1 e2
            cases h1
            have hs := fun (a : Addr) (oe : Obj) (pn : List (Addr × Obj)) => trSuite_ok (a := a) (oe := oe) (pn := pn) (te := TI Z WF m') k.toCtx e2 fun e he => trC_ok he
            cases sts with
            | nil => exact absurd rfl (hs 0 default []).2
            | cons b₀ suite =>
              refine .cons ⟨glB_ok k.sc hc.1, (okNm_ok hc.2).1, .inl (k.xcls x c e1)⟩ (fun a oe cls d pn hz hv => ?_) ih
              exact (hs a oe pn).1
          · cases h1
        · cases h1
      · rename_i x np n sts hp
        split at h1
        · rename_i hc
          split at h1
          · rename_i c i e1 e2
            split at h1
            · rename_i f ef
              split at h1
              · rename_i t m' e3
                split at h1
                · rename_i hall
                  cases h1
                  have key : ∀ (a : Addr) (oe : Obj) (cls : Value) (d : Option Addr) (pn : List (Addr × Obj)), Zc cls d oe → (∃ vs, oe.data = .fields vs) → PSs (X.suite a ((a, oe) :: pn)) sts (tSuA Z (okcT T c) i t m' a cls d) ∧ (∀ c2, okcT T c c2 → sts ≠ []) := fun a oe cls d pn hz hv => by
                    refine ⟨PSs.ex fun p hp => ?_, fun c2 h2 => ?_⟩
                    · obtain ⟨hcl, hok⟩ := hp
                      subst hcl
                      exact (trSuite_ok (te := TI (Zh Z p.1 p.2 a d i) WF m') k.toCtx e3 fun e he => trH_ok k ⟨localB_vis hc.2.2.1, hc.2.2.2, e2⟩ (allSub_ok hall hok) hz hv he).1
                    · intro z
                      subst z
                      cases e3
                  cases sts with
                  | nil => cases e3
                  | cons b₀ suite =>
                    exact .consAs ⟨glB_ok k.sc hc.1, (okNm_ok hc.2.1).1, .inl (k.xcls x c e1)⟩ (by rw [k.N]; exact idx_ok e2) (localB_ok k.toCtx hc.2.2.1) (fun a oe cls d pn hz hv => (key a oe cls d pn hz hv).1) ih
                · cases h1
              · cases h1
            · cases h1
          · cases h1
        · cases h1
      · cases h1
    · cases h
/-! ### one statement -/
def stepS (R : Rc) (rec : List Stmt → Option MSs) (T : Tab) : Stmt → Option MS
  | .Assign [tg] e _ => trAsg R T tg e
  | .Expr e _ => if noComp e = true then (R.e T e).map .ex else none
  | .Return (some e) _ => (R.e T e).map .ret
  | .If c a b _ => match R.t T c, rec a, rec b with
    | some m, some x, some y => some (.ifS m x y)
    | _, _, _ => none
  | .For tg iter body [] _ => match trI R T tg iter, trTg T tg, rec body with
    | some it, some t, some b => some (.forS t it b)
    | _, _, _ => none
  | .While c body [] _ => match R.t T c, rec body with
    | some m, some b => some (.whileS m b)
    | _, _ => none
  | .Pass _ => some .pass
  | .Break _ => some .brk
  | .Continue _ => some .cont
  | .Raise (some (.Call (.Name x _) [e] [] _)) none _ => if glB T.sc x = true ∧ okNm x = true ∧ noStar e = true then (match T.excs.lookup x, R.e T e with
    | some c, some m => some (.raise c m)
    | _, _ => none) else none
  | .Try body (h :: hds) [] [] _ => match rec body, trHds T (h :: hds) with
    | some b, some l => some (.try_ b l)
    | _, _ => none
  | _ => none
theorem stepS_ok {R : Rc} (hR : Snd R) {rec : List Stmt → Option MSs} {T : Tab} (hrec : ∀ {sts : List Stmt} {m : MSs} {X : Cx} {Z : Xc} {W : WX}, SCx X Z W T → rec sts = some m → PSs X sts (TSSs Z W m)) {st : Stmt} {m : MS} {X : Cx} {Z : Xc} {W : WX} (k : SCx X Z W T) (h : stepS R rec T st = some m) : PS X st (TSS Z W m) := by
  have c := k.toCtx
  unfold stepS at h
  split at h
  · exact trAsg_ok hR c h
  · split at h
    · rename_i hn
      obtain ⟨x, h1, rfl⟩ := mapO h
      exact snd_ex (hR.e c h1) (swaps_nc hn)
    · cases h
  · obtain ⟨x, h1, rfl⟩ := mapO h
    exact snd_ret (hR.e c h1)
  · split at h
    · rename_i m' x y h1 h2 h3
      cases h
      exact snd_if (hR.t c h1) (hrec k h2) (hrec k h3)
    · cases h
  · split at h
    · rename_i it t b h1 h2 h3
      cases h
      obtain ⟨i1, i2⟩ := trI_ok hR c h1
      exact snd_for k.po c.calm i1 (trTg_ok c h2) (hrec k h3) i2
    · cases h
  · split at h
    · rename_i m' b h1 h2
      cases h
      exact snd_while k.po (hR.t c h1) (hrec k h2)
    · cases h
  · cases h; exact snd_pass
  · cases h; exact snd_brk
  · cases h; exact snd_cont
  · split at h
    · rename_i hc
      split at h
      · rename_i ci m' h1 h2
        cases h
        exact snd_raise c.calm c.tk (k.raise _ _ h1 X.pn X.xe (glB_ok c.sc hc.1) (okNm_ok hc.2.1).1 (hR.e c h2) hc.2.2)
      · cases h
    · cases h
  · split at h
    · rename_i b l h1 h2
      cases h
      refine snd_try k.hst k.hf c.nd c.tk c.hx (okc := okcT T) (fun a b v e => k.xm a b v (by rw [← k.sub]; exact e)) (fun a b e => by
        show T.subs.lookup (a, b) = some true
        rw [← k.sub]; exact e) (fun W' pn xe tk po => hrec (k.tr tk po) h1) (trHds_ok k h2)
    · cases h
  · cases h
def trSs (R : Rc) : Nat → Tab → List Stmt → Option MSs
  | 0, _, _ => none
  | _ + 1, _, [] => some .nil
  | n + 1, T, s :: r => match stepS R (trSs R n T) T s, trSs R n T r with
    | some m, some ms => some (.cons m ms)
    | _, _ => none
theorem trSs_ok {R : Rc} (hR : Snd R) {T : Tab} : ∀ {n : Nat} {sts : List Stmt} {m : MSs} {X : Cx} {Z : Xc} {W : WX}, SCx X Z W T → trSs R n T sts = some m → PSs X sts (TSSs Z W m)
  | 0, _, _, _, _, _, _, h => by cases h
  | n + 1, [], m, _, _, _, _, h => by cases h; exact snd_nil
  | n + 1, s :: r, m, _, _, _, k, h => by
    unfold trSs at h
    split at h
    · rename_i m' ms h1 h2
      cases h
      exact snd_cons (stepS_ok hR (fun k h => trSs_ok hR k h) k h1) (trSs_ok hR k h2)
    · cases h
end Dg
end

section
set_option Elab.async false
set_option linter.all false
set_option maxRecDepth 100000
set_option maxHeartbeats 4000000
/-! DgU: defs, by levels. -/
namespace Dg
open PySem PySem.Spec L2
open PyProof.Rows hiding St

/-! ### behind a def: its own objects are let go -/
def Wd.cut (u : Wd) (n : Nat) : Wd := { u with al := u.al.take n, phi := fun a => u.phi a ∧ a ∉ u.al.drop n }
mutual
theorem Rep.trim {u : Wd} {n : Nat} : ∀ {v : V} {x : PV}, Rep u v x → below n x = true → Rep (u.cut n) v x
  | _, _, .non, _ => .non
  | _, _, .bl b, _ => .bl b
  | _, _, .int i, _ => .int i
  | _, _, .str x, _ => .str x
  | _, _, .ty n, _ => .ty n
  | _, _, .tup h r, hb => .tup (h.imp (fun q => ⟨q.1, fun z => q.2 z.1⟩) id) (Reps.trim r (by simpa [below] using hb))
  | _, _, .lst h r, hb => .lst ⟨h.1, fun z => h.2 z.1⟩ (Reps.trim r (by simpa [below] using hb))
  | _, _, .scr h r, hb => by simp [below] at hb
  | _, _, @Rep.ref _ a k h, hb => .ref (by
    have hk : k < n := by simpa [below] using hb
    show (u.al.take n)[k]? = some a
    rw [List.getElem?_take_of_lt hk]; exact h)
theorem Reps.trim {u : Wd} {n : Nat} : ∀ {vs : List V} {xs : List PV}, Reps u vs xs → belows n xs = true → Reps (u.cut n) vs xs
  | _, _, .nil, _ => .nil
  | _, _, .cons h r, hb => by
    unfold belows at hb
    rw [Bool.and_eq_true] at hb
    exact .cons (Rep.trim h hb.1) (Reps.trim r hb.2)
end
theorem RepK.trim {κ : Type} {u : Wd} {n : Nat} : ∀ {vs : List (κ × V)} {xs : List (κ × PV)}, RepK u vs xs → xs.all (fun p => Dg.below n p.2) = true → RepK (u.cut n) vs xs
  | _, _, .nil, _ => .nil
  | _, _, .cons h r, hb => by
    rw [List.all_cons, Bool.and_eq_true] at hb
    exact .cons (h.trim hb.1) (RepK.trim r hb.2)
theorem MRep.trim {u : Wd} {n : Nat} {a : Addr} {o : MO} (h : MRep u a o) (hb : belowM n o = true) : MRep (u.cut n) a o := by
  cases o with
  | lst xs => obtain ⟨vs, h1, h2⟩ := h; exact ⟨vs, h1, h2.trim hb⟩
  | dct xs => obtain ⟨vs, h1, h2⟩ := h; exact ⟨vs, h1, h2.trim hb⟩
  | dctT xs => obtain ⟨vs, h1, h2⟩ := h; exact ⟨vs, h1, h2.trim hb⟩
theorem cut_ok {w u : Wd} {S S' : Store} (hw : HRel w S) (e : Ext w u) (h : HRel u S') (hb : (S'.take S.length).all (belowM S.length) = true) : Ext w (u.cut S.length) ∧ HRel (u.cut S.length) (S'.take S.length) := by
  obtain ⟨b, hal, nb⟩ := e.al
  have ht : u.al.take S.length = w.al := by rw [hal, ← hw.len, List.take_left']; rfl
  have hd : u.al.drop S.length = b := by rw [hal, ← hw.len, List.drop_left']; rfl
  have hle : S.length ≤ S'.length := by rw [← hw.len, ← h.len, hal, List.length_append]; omega
  refine ⟨⟨e.k, ⟨[], by show u.al.take S.length = _; rw [ht, List.append_nil], fun a q => absurd q (by simp)⟩, fun a q => ⟨e.phi a q, fun z => ?_⟩, e.keep, fun a q n => e.new a q.1 n, e.hid, e.tb, e.tf⟩, ⟨?_, ?_, fun a q => ⟨?_, fun z => ?_⟩, fun a q => h.dom a q.1, fun n a m h1 h2 => ?_, ⟨h.t.tabs, fun p hp => ⟨⟨(h.t.in_ p hp).1, fun z => (h.t.in_ p hp).2 (List.mem_of_mem_drop z)⟩, fun z => (h.t.in_ p hp).2 (List.mem_of_mem_take z)⟩, fun a o q z => h.t.nc a o q.1 z⟩⟩⟩
  · rw [hd] at z; exact (nb a z).1 q
  · show (u.al.take S.length).length = _
    rw [ht, List.length_take, hw.len]; omega
  · show (u.al.take S.length).Nodup
    rw [ht]; exact hw.nd
  · have q' : a ∈ u.al.take S.length := q
    exact h.phi a (List.mem_of_mem_take q')
  · have q' : a ∈ u.al.take S.length := q
    rw [ht] at q'
    rw [hd] at z
    exact (nb a z).1 (hw.phi a q')
  · have h1' : (u.al.take S.length)[n]? = some a := h1
    have hn : n < S.length := by
      have z := (List.getElem?_eq_some_iff.mp h1').1
      rw [List.length_take] at z; omega
    rw [List.getElem?_take_of_lt hn] at h1'
    have h2' := h2
    rw [List.getElem?_take_of_lt hn] at h2'
    exact (h.objs n a m h1' h2').trim (List.all_eq_true.mp hb m (List.mem_of_getElem? h2))
mutual
theorem Rep.frz {u : Wd} {S' : Store} (h : HRel u S') {n : Nat} {g : Nat → Option PV} (hg : ∀ (k : Nat) (a : Addr) (y : PV), ¬ k < n → u.al[k]? = some a → g k = some y → Rep (u.cut n) (.ref a) y) : ∀ {v : V} {x y : PV}, Rep u v x → frzG n g x = some y → Rep (u.cut n) v y
  | _, _, y, .non, e => by cases e; exact .non
  | _, _, y, .bl b, e => by cases e; exact .bl b
  | _, _, y, .int i, e => by cases e; exact .int i
  | _, _, y, .str x, e => by cases e; exact .str x
  | _, _, y, .ty n, e => by cases e; exact .ty n
  | _, _, y, .tup q r, e => by
    unfold frzG at e
    obtain ⟨ys, h1, rfl⟩ := mapO e
    exact .tup (q.imp (fun q => ⟨q.1, fun z => q.2 z.1⟩) id) (Reps.frz h hg r h1)
  | _, _, y, .lst q r, e => by
    unfold frzG at e
    obtain ⟨ys, h1, rfl⟩ := mapO e
    exact .lst ⟨q.1, fun z => q.2 z.1⟩ (Reps.frz h hg r h1)
  | _, _, y, .scr _ _, e => by cases e
  | _, _, y, @Rep.ref _ a k q, e => by
    unfold frzG at e
    split at e
    · rename_i hk
      cases e
      refine .ref ?_
      show (u.al.take n)[k]? = some a
      rw [List.getElem?_take_of_lt hk]; exact q
    · rename_i hk
      exact hg k a y hk q e
theorem Reps.frz {u : Wd} {S' : Store} (h : HRel u S') {n : Nat} {g : Nat → Option PV} (hg : ∀ (k : Nat) (a : Addr) (y : PV), ¬ k < n → u.al[k]? = some a → g k = some y → Rep (u.cut n) (.ref a) y) : ∀ {vs : List V} {xs ys : List PV}, Reps u vs xs → frzGs n g xs = some ys → Reps (u.cut n) vs ys
  | _, _, ys, .nil, e => by cases e; exact .nil
  | _, _, ys, .cons q r, e => by
    unfold frzGs at e
    split at e
    · rename_i y ys' h1 h2
      cases e
      exact .cons (Rep.frz h hg q h1) (Reps.frz h hg r h2)
    · cases e
end
theorem gz_ok {u : Wd} {S' : Store} (h : HRel u S') {n : Nat} : ∀ (d k : Nat) (a : Addr) (y : PV), ¬ k < n → u.al[k]? = some a → gz S' n d k = some y → Rep (u.cut n) (.ref a) y
  | 0, _, _, _, _, _, e => by cases e
  | d + 1, k, a, y, hk, ha, e => by
    unfold gz at e
    split at e
    · rename_i xs hx
      obtain ⟨ys, h1, rfl⟩ := mapO e
      obtain ⟨vs, m1, m2⟩ := h.objs k a _ ha hx
      refine .lst ⟨.inl m1, fun z => z.2 ?_⟩ (m2.frz h (gz_ok h d) h1)
      refine List.mem_of_getElem? (i := k - n) ?_
      rw [List.getElem?_drop, show n + (k - n) = k by omega]; exact ha
    · cases e
theorem frz_ok {u : Wd} {S' : Store} (h : HRel u S') {n d : Nat} {v : V} {x y : PV} (r : Rep u v x) (e : frz S' n d x = some y) : Rep (u.cut n) v y := r.frz h (gz_ok h d) e
/-! ### a def's body -/
theorem start_ok {w : Wd} {N : List Str} : ∀ {vs : List V} {ps : List PV}, Reps w vs ps → ERel w (L2.start N vs) (startP N.length ps) := by
  intro vs ps r
  unfold L2.start startP
  rw [r.length]
  refine ⟨by simp [r.length], fun i x hi => ?_⟩
  have hl := r.length
  by_cases h : i < ps.length
  · rw [List.getElem?_append_left (by simpa using h), List.getElem?_map] at hi
    rw [List.getElem?_append_left (by simpa [hl] using h), List.getElem?_map]
    obtain ⟨y, hy, e⟩ := Option.map_eq_some_iff.mp hi
    cases e
    obtain ⟨v, h1, h2⟩ := r.get hy
    exact ⟨v, by rw [h1]; rfl, h2⟩
  · rw [List.getElem?_append_right (by simpa using h)] at hi
    have z := List.mem_of_getElem? hi
    rw [List.mem_replicate] at z
    cases z.2
theorem def_core {Z : Xc} {raw : Bool} {b : MSs} {N : List Str} {vs : List V} {pvs : List PV} {w : Wd} {S : Store} {Q : VK} {E : XK} (hx : Z.C.hx = none) (hI : Z.I w) (hK : w.K = Z.K) (hr : HRel w S) (rs : Reps w vs pvs) (g : Good Z (fun c d _ H => E c d H) [] Rep w Q (evalD Z.C raw N.length b pvs S)) :
    TSSs Z (fun cls d _ H => E cls d H) b { nx := fun _ H' => Q .non H', rt := Q } (L2.start N vs) w.H := by
  refine ⟨w, startP N.length pvs, S, ⟨rfl, hK, start_ok rs, hr, by unfold HX; rw [hx]; trivial, hI⟩, ?_⟩
  unfold evalD at g
  cases q : evalSs Z.C b (startP N.length pvs) S with
  | bad => rw [q] at g; exact g
  | brk r2 S2 => rw [q] at g; exact g.elim
  | ct r2 S2 => rw [q] at g; exact g.elim
  | nx r2 S2 =>
    rw [q] at g
    dsimp only at g
    intro u σ e1 a1
    cases raw with
    | true => rw [if_pos rfl] at g; exact g u _ e1 a1.h .non
    | false =>
      rw [if_neg Bool.false_ne_true] at g
      split at g
      · rename_i v' ev
        split at g
        · rename_i hb
          obtain ⟨e9, h9⟩ := cut_ok hr e1 a1.h hb
          exact g (u.cut S.length) _ e9 h9 (frz_ok a1.h .non ev)
        · exact g.elim
      · exact g.elim
  | ret v S2 =>
    rw [q] at g
    dsimp only at g
    intro u x e1 h1 r1
    cases raw with
    | true => rw [if_pos rfl] at g; exact g u x e1 h1 r1
    | false =>
      rw [if_neg Bool.false_ne_true] at g
      split at g
      · rename_i v' ev
        split at g
        · rename_i hb
          obtain ⟨e9, h9⟩ := cut_ok hr e1 h1 hb
          exact g (u.cut S.length) _ e9 h9 (frz_ok h1 r1 ev)
        · exact g.elim
      · exact g.elim
  | exc c v r2 S2 =>
    rw [q] at g
    dsimp only at g
    intro u σ d va e1 a1 hd rv np
    cases raw with
    | true => rw [if_pos rfl] at g; exact g u d va e1 a1.h hd rv np
    | false =>
      rw [if_neg Bool.false_ne_true] at g
      split at g
      · rename_i v' ev
        split at g
        · rename_i hb
          obtain ⟨e9, h9⟩ := cut_ok hr e1 a1.h hb
          exact g (u.cut S.length) d va e9 h9 hd (frz_ok a1.h rv ev) fun z => np z.1
        · exact g.elim
      · exact g.elim
theorem def_read {Z : Xc} {raw : Bool} {b : MSs} {N : List Str} {n : Nat} {vs : List V} {H : Hp} {Q : VK} {E : XK} (hx : Z.C.hx = none) (hI : ∀ w, Z.I w) (h : spI Z (evalD Z.C raw N.length b) n vs H Q E) :
    TSSs Z (fun cls d _ H => E cls d H) b { nx := fun _ H' => Q .non H', rt := Q } (L2.start N vs) H := by
  obtain ⟨w, S, pvs, rfl, hK, hr, rs, hl, g⟩ := h
  exact def_core hx (hI w) hK hr rs g
/-! ### programs -/
/-- a def as data -/
structure DD where
  x : Str
  qual : Str
  params : Arguments
  body : List Stmt
  scope : Scope
  dvs : List V
  N : List Str
  ps : List Str
  raw : Bool
  mu : List Str
  m : MSs
/-- what is fixed of a program: the tables without names and scope; the defs by index; their addresses -/
structure PR where
  T : Tab
  defs : List DD
  fa : Nat → Addr
  fd : Nat → FuncData
  cl : Nat → Addr
def PR.tab (R : PR) (d : DD) : Tab := { R.T with N := d.N, sc := d.scope, fn := fun _ => true, mu := d.mu }
/-- what the def of index f computes, at level k -/
noncomputable def Gp (T : Tab) (defs : List DD) : Nat → Nat → List PV → Store → Res PV
  | 0, _, _, _ => .bad
  | k + 1, f, vs, S => match defs[f]? with
    | some d => evalD { G := Gp T defs k, sub := fun c c' => T.subs.lookup (c, c') } d.raw d.N.length d.m vs S
    | none => .bad
noncomputable abbrev PR.G (R : PR) : Nat → Nat → List PV → Store → Res PV := Gp R.T R.defs
noncomputable def PR.Z (R : PR) (K : PySem.W.Frag) (k : Nat) : Xc := { K := K, C := { G := R.G k, sub := fun c c' => R.T.subs.lookup (c, c') }, cl := R.cl, fd := fun c => (R.T.fds[c]?).getD "" }
/-- what must be shown of a program -/
structure PFacts (P : Program) (w : World) (K : PySem.W.Frag) (mg : Str → Option Value) (base : Heap) (R : PR) : Prop where
  defs : ∀ f d, R.defs[f]? = some d → FunD K d.x d.qual d.params d.body d.scope d.dvs [] (R.fa f) (R.fd f) ∧ FnScope d.N d.ps d.scope ∧ trSs (rc 40) 120 (R.tab d) d.body = some d.m
  calls : ∀ q ∈ R.T.calls, ∃ d, R.defs[q.2.2.2.1]? = some d ∧ mg q.1 = some (.ref (R.fa q.2.2.2.1)) ∧ CallB K (R.fd q.2.2.2.1) d.ps q.2.1 q.2.2.1 q.2.2.2.2
  consts : ∀ x p, R.T.consts.lookup x = some p → ∃ u v, mg x = some u ∧ RelV v u ∧ ∀ w : Wd, w.K = K → Rep w v p
  bl : ∀ x ∈ R.T.bl, mg x = none
  tabs : ∀ x kvs, R.T.tabs.lookup x = some kvs → ∃ a, mg x = some (.ref a) ∧ DTab K w a kvs
  bfs : ∀ x ∈ R.T.bfs, mg x = some (.builtin "math.gcd")
  raise : ∀ x c, R.T.excs.lookup x = some c → ∀ (k : Nat) (X : Cx), X.prog = P → X.w = w → X.K = K → X.mg = mg → X.base = base → Room 1 X.A → X.calm = true → Raise1 X (R.Z K k) x c
  xm : ∀ c c' b, R.T.subs.lookup (c, c') = some b → PySem.W.exmOne K (.ref (R.cl c)) (.ref (R.cl c')) = some b
  xcls : ∀ x c, R.T.excs.lookup x = some c → mg x = some (.ref (R.cl c))
  xf : ∀ c f, R.T.fds[c]? = some f → XfC K (R.cl c) ∧ PySem.W.findIn K (.ref (R.cl c)) f = some none
theorem levels {P : Program} {w : World} {K : PySem.W.Frag} {mg : Str → Option Value} {base : Heap} {R : PR} (F : PFacts P w K mg base R) : ∀ (k f : Nat) (d : DD), R.defs[f]? = some d →
    FnOk P w K mg base (L2.CX P w) (k + 1) (R.fa f) (R.fd f) d.ps (spI (R.Z K k) (R.G k f) d.ps.length)
  | 0, f, d, hd => ⟨fun vs H Q E ⟨w', S, pvs, h1, h2, h3, h4, h5, g⟩ => g.elim, fun A outer s H args us vs Q E hr he hb hv ⟨w', S, pvs, h1, h2, h3, h4, h5, g⟩ => g.elim⟩
  | k + 1, f, d, hd => by
    obtain ⟨f1, f2, f3⟩ := F.defs f d hd
    have ih := levels F k
    have key : FnOk P w K mg base (L2.CX P w) (k + 1 + 1) (R.fa f) (R.fd f) d.ps (spI (R.Z K k) (evalD (R.Z K k).C d.raw d.N.length d.m) d.ps.length) := by
      refine f1.ok f2 (fun vs H Q E ⟨w', S, pvs, h1, h2, h3, h4, h5, g⟩ => by rw [h4.length, h5]) fun cdv A outer s H vs Q E hroom hsp => ?_
      refine ⟨_, trSs_ok (rc_ok 40) (T := R.tab d) (Z := R.Z K k) (W := fun cls d _ H => E cls d H) ?_ f3, def_read rfl (fun _ => trivial) hsp⟩
      have hun := hroom.un
      exact {
        K := rfl
        hx := rfl
        calm := rfl
        nd := f2.nd
        N := rfl
        sc := rfl
        fn := rfl
        un := by
          show (A.deeper _).units + 65 < cLine
          omega
        calls := fun q hq => by
          obtain ⟨d', h1, h2, h3⟩ := F.calls q hq
          obtain ⟨g1, g2, g3⟩ := F.defs _ d' h1
          exact ⟨k + 1, _, _, _, ih _ d' h1, hroom, h2, g1.kp, h3⟩
        consts := F.consts
        bl := F.bl
        tabs := F.tabs
        bfs := F.bfs
        tk := takes_of rfl rfl rfl rfl
        po := passes_of rfl
        hst := rfl
        hf := rfl
        raise := fun x c h pn xe => F.raise x c h k _ rfl rfl rfl rfl rfl (hroom.mono (by omega)) rfl
        sub := fun _ _ => rfl
        xm := F.xm
        xcls := F.xcls
        xf := fun c f h => by
          obtain ⟨a1, a2⟩ := F.xf c f h
          exact ⟨by show (R.T.fds[c]?).getD "" = f; rw [show R.T.fds[c]? = some f from h]; rfl, a1, a2⟩ }
    refine key.imp fun vs H Q E ⟨w', S, pvs, h1, h2, h3, h4, h5, g⟩ => ⟨w', S, pvs, h1, h2, h3, h4, h5, ?_⟩
    have e : R.G (k + 1) f pvs S = evalD (R.Z K k).C d.raw d.N.length d.m pvs S := by
      show (match R.defs[f]? with
        | some d => evalD { G := R.G k, sub := fun c c' => R.T.subs.lookup (c, c') } d.raw d.N.length d.m pvs S
        | none => .bad) = _
      rw [hd]; rfl
    rw [e] at g
    exact g
end Dg
end

section
set_option Elab.async false
set_option linter.all false
set_option maxRecDepth 100000
set_option maxHeartbeats 4000000
/-! DgX: an own exception whose __init__ says super().__init__('text') and stores its one argument in a field. -/
namespace Dg
open PySem PySem.Spec L2
open PyProof.Rows hiding St

abbrev supBody (msg par sel f : Str) (j : Nat) (p0 p1 p2 p3 p4 p5 p6 p7 p8 p9 : Pos) : List Stmt :=
  [.Expr (.Call (.Attribute (.Call (.Name "super" p0) [] [] p1) "__init__" p2) [.Constant (.str msg) j p3] [] p4) p5, .Assign [.Attribute (.Name sel p6) f p7] (.Name par p8) p9]
/-- what the written part says of such a class -/
structure SupC (P : Program) (K : PySem.W.Frag) (C : Addr) (f : Str) : Prop where
  base : ∃ (B newId i : String) (bmB : List Value), PySem.W.KxsFacts B i ∧ ExcBaseFacts B newId i bmB ∧ StoreFacts B bmB "object.__setattr__" "object" ∧ PySem.W.excInitIn K C bmB newId = true ∧ PySem.W.excOver K C bmB = true ∧
    PySem.W.subIn K (.ref C) (.type B) = some true ∧ PySem.W.ks_superIn K C C "__init__" = some (some (.builtin i))
  tk : PySem.W.takerIn K C f = some none
  hdC : PySem.W.hasDictIn K C = true
  sa : PySem.W.findIn K (.ref C) "__setattr__" = some (some (.builtin "object.__setattr__"))
  exC : PySem.W.subIn K (.ref C) (.type "BaseException") = some true
  tyC : PySem.W.typeIn K (.ref C) = some (.type "type")
  kC : PySem.W.keepIn K (.ref C) = true
  thp : PySem.W.nsIn K cStatics "thirdparty.any" = some none
  self : PySem.W.mroIn K C (.ref C) = some true
  top : (P.main.scope.names.lookup ("super" : Str)).isSome = false
  init : ∃ (fI cda cc : Addr) (name qual : Str) (params : Arguments) (msg par sel : Str) (j : Nat) (p0 p1 p2 p3 p4 p5 p6 p7 p8 p9 : Pos) (scope : Scope) (dV kV doc pm ct : Value) (an : Option Addr) (oc : Value) (od : Option Addr) (osl : Array (Option Value))
      (ccl cl : Value) (cdd cld : Option Addr) (ccs csl : Array (Option Value)) (vs : Array Value) (file : Str) (tf : Tok) (ar : Arg),
    PySem.W.findIn K (.ref C) "__init__" = some (some (.ref fI)) ∧ PySem.W.typeIn K (.ref fI) = some (.type "function") ∧
    K.lookup fI = some ⟨oc, od, .func (PySem.W.ksFn name qual params (supBody msg par sel f j p0 p1 p2 p3 p4 p5 p6 p7 p8 p9) scope dV kV doc pm an (.ref cda) ct cc), osl⟩ ∧ PySem.W.codeIn K (.ref cda) qual = true ∧
    K.lookup cda = some ⟨ccl, cdd, .fields vs, ccs⟩ ∧ vs[2]? = some (.str file tf) ∧ ((P.main.file : Str) == file) = true ∧ K.lookup cc = some ⟨cl, cld, .cell (some (.ref C)), csl⟩ ∧
    (params.posonlyargs ++ params.args).head? = some ar ∧ ar.arg = sel ∧ sel ≠ par ∧
    (∀ a b : Value, bindArgs (PySem.W.ksFn name qual params (supBody msg par sel f j p0 p1 p2 p3 p4 p5 p6 p7 p8 p9) scope dV kV doc pm an (.ref cda) ct cc) ⟨[a, b], []⟩ = pure [(sel, a), (par, b)]) ∧
    scope.kind = .function ∧ scope.isCoroutine = false ∧ scope.isGenerator = false ∧ (∀ y ∈ scope.names, y.2 ≠ .cell) ∧ scope.names.lookup ("super" : Str) = some .globalImplicit ∧ scope.names.lookup ("__class__" : Str) = some .free ∧
    scope.names.lookup sel = some .local ∧ scope.names.lookup par = some .local ∧ (sel == ("__debug__" : Str)) = false ∧ (par == ("__debug__" : Str)) = false ∧ (p2.endLine == p4.line) = true
section
variable {prog : Program} {w : World} {A : Around} {E : Value → Shared → Prop} {R : Result → Shared → Prop} {hp : Heap} {g : Array GenState} {d : Drawn} {t : Nat} {os : OsState}
/-- the bound built-in __init__ called: the args are laid anew -/
theorem call_mw {B i newId : String} {bmB : List Value} {K : PySem.W.Frag} {C u e t0 : Addr} {rest : List Value} {Q : Value → Shared → Prop} (FB : ExcBaseFacts B newId i bmB) (X : K.In hp) (q : PySem.W.excInitIn K C bmB newId = true) (hu : hp.get? u = some (PySem.W.kxs_mw i e))
    (he : hp.get? e = some (PySem.W.excObj C t0 none .none)) (hz : rest.length ≤ sizeLine) (hq : ∀ h' t1, (∀ b o, b ≠ e → hp.get? b = some o → h'.get? b = some o) → h'.get? e = some (PySem.W.excObj C t1 none .none) → Q .none ⟨h', g, d, t, os⟩) :
    wpAny (model prog w) A (call (.ref u) rest) Q E ⟨hp, g, d, t, os⟩ := by
  obtain ⟨nm, N', qn, bs, bm, hdct, sn, sub, ab, col, dd, k0, k1, k2, k3, k5, hC, hT⟩ := PySem.W.excInit_of X q
  refine wpAny_call (codeAny_of_tree ?_)
  show wpAny _ A.in1 (callAny (.ref u) ⟨rest, []⟩) _ _ _
  simp only [callAny]
  refine wpAny_bind (wpAny_load hu ?_)
  simp only [PySem.W.kxs_mw, show (Value.type "method-wrapper" == Value.type "method" || Value.type "method-wrapper" == Value.type "builtin_function_or_method" || Value.type "method-wrapper" == Value.type "method-wrapper") = true by decide, if_true]
  refine PySem.W.KFB.if_so (by decide) ?_
  refine wpAny_bind (PySem.W.check_bound_init FB.toExcCallFacts hC he rfl ?_)
  refine wpAny_bind (wpAny_pure (wpAny_pure ?_))
  refine ⟨plainId_quiet FB.init.plain _, codeAny_builtin FB.initEntry ?_⟩
  exact PySem.W.exc_init_tree (cls := .ref C) (t0 := t0) (dv := none) (c2 := .none) (c3 := .none) (b4 := .bool false) he hz fun h' k1 k2 _ => hq h' _ k1 k2
/-- the field's store, the dict made -/
theorem store_f {B : String} {bmB : List Value} {K : PySem.W.Frag} {C e t1 : Addr} {f : Str} {u : Value} {Q : Unit → Shared → Prop} (SF : StoreFacts B bmB "object.__setattr__" "object") (X : K.In hp) (he : hp.get? e = some (PySem.W.excObj C t1 none .none)) (sa : PySem.W.findIn K (.ref C) "__setattr__" = some (some (.builtin "object.__setattr__")))
    (ov : PySem.W.excOver K C bmB = true) (tk : PySem.W.takerIn K C f = some none) (hd : PySem.W.hasDictIn K C = true)
    (hq : ∀ h' tk' dx, (∀ b o, b ≠ e → hp.get? b = some o → h'.get? b = some o) → hp.objs.size ≤ dx → dx ≠ e → h'.get? e = some (PySem.W.excObj C t1 (some dx) .none) → h'.Ns1 dx (fun y => if y = f then some u else none) → Q () ⟨h', g, d, tk', os⟩) :
    wpAny (model prog w) A (setAttr (.ref e) f u) Q E ⟨hp, g, d, t, os⟩ := by
  have I : PySem.W.InstAt hp e (PySem.W.excObj C t1 none .none) C none := ⟨he, rfl, rfl, trivial⟩
  refine PySem.W.set_plain (od := none) X I sa (PySem.W.osa_openX (s := ⟨hp, g, d, t + 1, os⟩) SF X I ov tk fun b => ?_)
  obtain ⟨cd, hc, hdd⟩ := PySem.W.any_some hd
  have hcls : PySem.W.Looks (model prog w) hp (classData C) cd := PySem.W.looks_clsIn X hc
  have hxs : e ≠ hp.objs.size := Nat.ne_of_lt (Heap.lt_size he)
  show wpAny _ _ (Builtin.ObjectAttr.storeInOwnDict (.ref e) (.ref C) (.str f t) f u b) _ _ _
  obtain ⟨nm, bs, mro, ns, qn, hd, sn, sb, ab, col, del⟩ := cd
  dsimp only at hdd
  subst hdd
  unfold Builtin.ObjectAttr.storeInOwnDict Builtin.ObjectAttr.ownDictForStores
  repeat (first | with_reducible refine PySem.HandSPX.store_in_new ?_ ?_ | with_reducible refine wpAny_loadPart_at he ?_ | with_reducible refine hcls.at ?_ | wp_step)
  · exact ⟨_, #[], _, (Heap.get?_update_ne _ _ _ _ hxs.symm).trans (Heap.get?_push_at rfl rfl), rfl, fun e he => absurd he (by simp), fun _ => rfl⟩
  · intro h' tk' hn' hs
    have hx₁ : (hp.push { cls := .type "dict", data := .dict #[] }).get? e = some (PySem.W.excObj C t1 none .none) := Heap.get?_push_of_some _ he
    refine hq h' tk' hp.objs.size (fun b o hb ho => ?_) (Nat.le_refl _) hxs.symm ?_ hn'
    · exact (hs.2 b (Nat.ne_of_lt (Heap.lt_size ho))).trans ((Heap.get?_update_ne _ _ _ _ hb).trans (Heap.get?_push_of_some _ ho))
    · exact (hs.2 e hxs).trans (Heap.get?_update_self _ hx₁ rfl)
theorem mcall_eq {o : Expr} {name msg : Str} {j : Nat} {apos pos p3 : Pos} {env : Env} (hl : (apos.endLine == pos.line) = true) : eval (.Call (.Attribute o name apos) [.Constant (.str msg) j p3] [] pos) env = (do
      let ov ← attributeBase o name env (eval o env)
      standAt apos.atName
      let (f, first) ← holding [ov] (getMethod ov name (do return (← importBound o env).getD true))
      callWith pos f first (backTo pos (starEach [.Constant (.str msg) j p3] env)) []) := by
  have h1 : ∀ (ov : Value) (args : List (Bool × Sem Value)), methodCallForm 1 args [] = true → methodCall o name apos pos env ov 1 args [] = (do
      let (f, first) ← holding [ov] (getMethod ov name (do return (← importBound o env).getD true))
      callWith pos f first args []) := fun ov args hf => by
    unfold methodCall calleeOf methodCallPos
    rw [hf, hl]
    simp
  show (do
    let ov ← attributeBase o name env (eval o env)
    standAt apos.atName
    methodCall o name apos pos env ov 1 (backTo pos (starEach [.Constant (.str msg) j p3] env)) []) = _
  simp only [h1 _ (backTo pos (starEach [.Constant (.str msg) j p3] env)) rfl]
theorem boot_super : bootBuiltins ("super" : Str) = some (.type "super") := by decide +kernel
theorem ld_loc {M : Model} {env : Env} {m : Str → Option Value} {s : Shared} {x : Str} {pos : Pos} {v : Value} {Q : Value → Shared → Prop} (hk : env.scope.kind = .function) (hl : env.kindOf x = some .local) (hn : s.heap.Ns env.locals m) (hv : m x = some v) (h : Q v s) (hd : (x == ("__debug__" : Str)) = false) :
    wpAny M A (eval (.Name x pos) env) Q E s := wpAny_Name (wpAny_loadName_local hk hl hn hv h) hd
/-- __init__ walked -/
theorem sup_run {K : PySem.W.Frag} {mg : Str → Option Value} {base : Heap} {C e t0 fI : Addr} {f : Str} {u : Value} (T : SupC prog K C f) (M : Mod K mg base) (hsup : mg ("super" : Str) = none) (kb : ∀ b o, base.get? b = some o → hp.get? b = some o) (hbe : base.get? e = none) (hroom : A.depth < recursionLimit)
    (hfI : PySem.W.findIn K (.ref C) "__init__" = some (some (.ref fI))) (he : hp.get? e = some (PySem.W.excObj C t0 none .none))
    (hq : ∀ h' tk' t1 dx, (∀ b o, b ≠ e → hp.get? b = some o → h'.get? b = some o) → hp.objs.size ≤ dx → dx ≠ e → h'.get? e = some (PySem.W.excObj C t1 (some dx) .none) → h'.Ns1 dx (fun y => if y = f then some u else none) → R (.ok (.ret .none)) ⟨h', g, d, tk', os⟩) :
    codeAny (model prog w) A (.call (.ref fI) ⟨[.ref e, u], []⟩) R ⟨hp, g, d, t, os⟩ := by
  have X : K.In hp := M.kin.keeps kb
  obtain ⟨B, newId, i, bmB, KF, FB, SF, q1, q2, q3, q4⟩ := T.base
  obtain ⟨fI', cda, cc, name, qual, params, msg, par, sel, j, p0, p1, p2, p3, p4, p5, p6, p7, p8, p9, scope, dV, kV, doc, pm, ct, an, oc, od, osl, ccl, cl, cdd, cld, ccs, csl, vs, file, tf, ar, i1, i2, i3, i4, i5, i6, i7, i8, i9, i10, i11, i12, i13, i14, i15, i16, i17, i18, i19, i20, i21, i22, i23⟩ := T.init
  rw [hfI] at i1
  cases i1
  obtain ⟨cd, hcd, hhd⟩ := PySem.W.any_some T.hdC
  have hel : e < hp.objs.size := Heap.lt_size he
  refine ks_codeAny_call_defAt (fd := PySem.W.ksFn name qual params (supBody msg par sel f j p0 p1 p2 p3 p4 p5 p6 p7 p8 p9) scope dV kV doc pm an (.ref cda) ct cc) (body := supBody msg par sel f j p0 p1 p2 p3 p4 p5 p6 p7 p8 p9) (binds := [(sel, .ref e), (par, u)]) hroom (X _ _ i3) rfl (M.nolimit.keeps kb) (PySem.W.codeRec_of X i4) rfl (BindsTo.of_eq (i12 _ _)) i16
    (fun y hy => ?_) (fun h₁ hns hk₁ => ?_) i14 i15 i13
  · rcases List.mem_cons.mp hy with z | hy
    · rw [z]; exact i19
    · have z := List.mem_singleton.mp hy
      rw [z]; exact i20
  have X1 : K.In h₁ := X.keeps hk₁
  have he1 := hk₁ _ _ he
  have ms : ([(sel, Value.ref e), (par, u)].reverse.lookup sel) = some (.ref e) := by
    show List.lookup sel [(par, u), (sel, Value.ref e)] = _
    have z : (sel == par) = false := by simpa using i11
    simp [List.lookup, z]
  have mp : ([(sel, Value.ref e), (par, u)].reverse.lookup par) = some u := by
    show List.lookup par [(par, u), (sel, Value.ref e)] = _
    simp [List.lookup]
  have hkk : (callEnv (PySem.W.ksFn name qual params (supBody msg par sel f j p0 p1 p2 p3 p4 p5 p6 p7 p8 p9) scope dV kV doc pm an (.ref cda) ct cc) hp.objs.size fI).scope.kind = .function := i13
  refine ks_wpAt_execs_cons (ks_wpAt_Expr_any (ks_wpAt_MethodCall (pl := (do return (← importBound (.Call (.Name "super" p0) [] [] p1) (callEnv (PySem.W.ksFn name qual params (supBody msg par sel f j p0 p1 p2 p3 p4 p5 p6 p7 p8 p9) scope dV kV doc pm an (.ref cda) ct cc) hp.objs.size fI)).getD true)) ?_ (mcall_eq i23)) (by simp [interactive, hkk]) rfl)
  obtain ⟨mb, hb1, hb2⟩ := M.blt
  have kb1 : ∀ b o, base.get? b = some o → h₁.get? b = some o := fun b o q => hk₁ b o (kb b o q)
  refine ks_wpAt_super_base i17 i18 (by decide) rfl (X1 _ _ i3) rfl i9 rfl (X1 _ _ i5) rfl i6 i7 T.top ?_
  refine PySem.W.ks_loadName_global i13 i17 (Calls.loadGlobal_builtin (M.glob.keeps kb1) hsup (hb1.keeps kb1) ((hb2 _ (by decide)).trans boot_super) ⟨rfl, ?_⟩)
  refine wpAny_loadName_free i13 i18 rfl ⟨_, X1 _ _ i8, rfl⟩ ?_
  refine wpAny_loadName_local i13 (by rw [i10]; exact i19) hns (by rw [i10]; exact ms) ?_
  obtain ⟨oD, hD1, hD2⟩ : ∃ oD, h₁.get? C = some oD ∧ oD.data = .cls cd := by
    unfold PySem.W.clsIn at hcd
    split at hcd
    · rename_i c0 d0 cd0 sl0 ho0
      cases hcd
      exact ⟨_, X1 _ _ ho0, rfl⟩
    · cases hcd
  refine ks_wpAny_isType_cls hD1 hD2 ⟨rfl, ?_⟩
  refine ks_wpAny_call_super hD1 hD2 he1 rfl (fun c z => by cases z) (PySem.W.looks_mroIn X1 T.self) (fun h2 e2 k2 => ?_)
  have X2 : K.In h2 := X1.keeps k2
  have he2 := k2 _ _ he1
  have hxC : e ≠ C := fun z => by
    subst z
    rw [hD1] at he1
    have z2 := Option.some.inj he1
    rw [z2] at hD2
    cases hD2
  unfold PySem.W.ks_superIn at q4
  rw [hcd] at q4
  have I2 : PySem.W.InstAt h2 e (PySem.W.excObj C t0 none .none) C none := ⟨he2, rfl, rfl, trivial⟩
  refine PySem.W.kxs_getMethod KF e2 (PySem.W.looks_opaque X2 T.thp) (l₀ := cd.mro) (fun A Q E s k q => wpAny_bind ((PySem.W.looks_clsIn X2 hcd) A _ E s k (wpAny_pure q))) rfl X2 q4 (I2.type.andThen (PySem.W.looks_subIn X2 q3)) hxC (by decide) ?_
  show wpAny _ _ (callWith p4 (.ref h2.objs.size) [] (backTo p4 (starEach [.Constant (.str msg) j p3] _)) []) _ _ _
  refine PySem.W.kxs_callWith (i := i) (x := e) rfl (Calls.evalArgs_plain (spliced_more (Calls.Constant_str (spliced_none ?_)) rfl))
  have hu3 : (h2.push (PySem.W.kxs_mw i e)).get? h2.objs.size = some (PySem.W.kxs_mw i e) := Heap.get?_push_size _ rfl
  refine ⟨hu3, ?_⟩
  have k3 : ∀ b o, h2.get? b = some o → (h2.push (PySem.W.kxs_mw i e)).get? b = some o := fun b o q => Heap.get?_push_of_some _ q
  refine call_mw FB (X2.keeps k3) q1 hu3 (k3 _ _ he2) (by show 1 ≤ sizeLine; decide) fun h4 t1 k4 he4 => ?_
  have kall : ∀ b o, b ≠ e → hp.get? b = some o → h4.get? b = some o := fun b o hb q => k4 b o hb (k3 _ _ (k2 _ _ (hk₁ _ _ q)))
  have Ce : C ≠ e := fun z => hxC z.symm
  have X4 : K.In h4 := M.kin.keeps fun b o q => kall b o (fun z => by rw [z, hbe] at q; cases q) (kb b o q)
  have hL : hp.objs.size ≠ e := Nat.ne_of_gt hel
  have hns4 : h4.Ns hp.objs.size (fun x => [(sel, Value.ref e), (par, u)].reverse.lookup x) := hns.at fun o q => k4 _ _ hL (k3 _ _ (k2 _ _ q))
  refine ks_wpAt_execs_cons (wpAt_of_wpAny (plainObj_wpAny_Assign_Attribute (ld_loc hkk i20 hns4 mp (ld_loc hkk i19 hns4 ms ?_ i21) i22)))
  refine store_f SF X4 he4 T.sa q2 T.tk T.hdC fun h5 tk5 dx k5 dxn dne he5 hn5 => ?_
  have hsz : hp.objs.size ≤ h4.objs.size := by
    obtain ⟨o, es, ep, ho, _⟩ := hns4
    exact Nat.le_of_lt (Heap.lt_size ho)
  refine wpAt_of_wpAny (wpAny_execs_nil ?_)
  exact hq h5 tk5 t1 dx (fun b o hb q => k5 b o hb (kall b o hb q)) (Nat.le_trans hsz dxn) dne he5 hn5
end
end Dg
end

section
set_option Elab.async false
set_option linter.all false
set_option maxRecDepth 100000
set_option maxHeartbeats 4000000
/-! DgY: X(e), made, for raise. -/
namespace Dg
open PySem PySem.Spec L2
open PyProof.Rows hiding St

theorem raise_sup {X : Cx} {Z : Xc} {x : Str} {c : Nat} (T : SupC X.prog X.K (Z.cl c) (Z.fd c)) (hm : X.mg x = some (.ref (Z.cl c))) (hsup : X.mg ("super" : Str) = none) (hr : Room 1 X.A) : Raise1 X Z x c := by
  intro e te p pos hg hdb he hns
  intro pins s σ H Q I h
  obtain ⟨B, newId, i, bmB, KF, FB, SF, q1, q2, q3, q4⟩ := T.base
  obtain ⟨fI, hfI, tI⟩ : ∃ fI, PySem.W.findIn X.K (.ref (Z.cl c)) "__init__" = some (some (.ref fI)) ∧ PySem.W.typeIn X.K (.ref fI) = some (.type "function") := by
    obtain ⟨fI', cda, cc, name, qual, params, msg, par, sel, j, p0, p1, p2, p3, p4, p5, p6, p7, p8, p9, scope, dV, kV, doc, pm, ct, an, oc, od, osl, ccl, cl, cdd, cld, ccs, csl, vs, file, tf, ar, i1, i2, _⟩ := T.init
    exact ⟨fI', i1, i2⟩
  refine wpAny_Call_Name_kw (ld_glob I hg hm ?_ hdb)
  refine PySem.W.callWith_K (h₀ := X.base) I.ok.mod.kin T.kC (spliced_more (thn (he.run pins s σ H _ I h) fun u s1 ⟨v, H1, I1, rv, hq⟩ => spliced_none ⟨I1.kIn, ?_⟩) (starEach_ns hns)) (starEach_ns hns) rfl
  show wpAny _ _ (call (.ref (Z.cl c)) [u]) _ _ _
  obtain ⟨hp, g, dr, tk, os⟩ := s1
  obtain ⟨nm, N', qn, bs, bm, hdct, sn, sub, ab, col, dd, k0, k1, k2, k3, k5, hC, hT⟩ := PySem.W.excInit_of I1.kIn q1
  have kk : ∀ b o, hp.get? b = some o → ((hp.push (PySem.W.kdv_tup [u])).push (PySem.HandSPX.excO (Z.cl c) hp.objs.size)).get? b = some o := fun b o e => Heap.get?_push_of_some _ (Heap.get?_push_of_some _ e)
  have hget : ((hp.push (PySem.W.kdv_tup [u])).push (PySem.HandSPX.excO (Z.cl c) hp.objs.size)).get? (hp.objs.size + 1) = some (PySem.HandSPX.excO (Z.cl c) hp.objs.size) := by heap_get
  have kb : ∀ b o, X.base.get? b = some o → hp.get? b = some o := I1.bk
  have hbe : X.base.get? (hp.objs.size + 1) = none := by
    cases z : X.base.get? (hp.objs.size + 1) with
    | none => rfl
    | some o => exact absurd (Heap.lt_size (kb _ _ z)) (Nat.not_lt.mpr (Nat.le_succ _))
  have hne : H1 (hp.objs.size + 1) = none := I1.hok.fresh (Nat.le_succ _)
  refine wpAny_call (PySem.HandSPX.call_own FB hT hC (PySem.W.looks_findIn I1.kIn hfI) (fun self => PySem.W.bind_fn I1.kIn self tI) (by show 1 ≤ sizeLine; decide)
    (codeAny_mono (sup_run (R := fun r s' => ∃ h' tk' t1 dx, r = .ok (.ret .none) ∧ s' = ⟨h', g, dr, tk', os⟩ ∧ (∀ b o, b ≠ hp.objs.size + 1 → ((hp.push (PySem.W.kdv_tup [u])).push (PySem.HandSPX.excO (Z.cl c) hp.objs.size)).get? b = some o → h'.get? b = some o) ∧
        ((hp.push (PySem.W.kdv_tup [u])).push (PySem.HandSPX.excO (Z.cl c) hp.objs.size)).objs.size ≤ dx ∧ dx ≠ hp.objs.size + 1 ∧ h'.get? (hp.objs.size + 1) = some (PySem.W.excObj (Z.cl c) t1 (some dx) .none) ∧ h'.Ns1 dx (fun y => if y = Z.fd c then some u else none))
      T I1.ok.mod hsup (fun b o q => kk b o (kb b o q)) hbe (Room.make (k := 0) hr (Z.cl c) [u] []).depth hfI hget (fun h' tk' t1 dx a1 a2 a3 a4 a5 => ⟨h', tk', t1, dx, rfl, rfl, a1, a2, a3, a4, a5⟩)) fun r s' hq' => ?_))
  obtain ⟨h', tk', t1, dx, rfl, rfl, a1, a2, a3, a4, a5⟩ := hq'
  refine ⟨rfl, ?_⟩
  have hdx : hp.objs.size ≤ dx := Nat.le_trans (by rw [Heap.size_push, Heap.size_push]; omega) a2
  obtain ⟨G, g1, g2⟩ := restrict h' fun b => decide (b ≠ hp.objs.size + 1)
  have gk : ∀ b, b ≠ hp.objs.size + 1 → G.get? b = h'.get? b := fun b hb => g1 b (decide_eq_true hb)
  have ge : G.get? (hp.objs.size + 1) = none := g2 _ (by simp)
  have keepG : ∀ b o, G.get? b = some o → h'.get? b = some o := fun b o z => by
    by_cases hb : b = hp.objs.size + 1
    · rw [hb, ge] at z; cases z
    · rw [← gk b hb]; exact z
  have keep : ∀ b o, hp.get? b = some o → G.get? b = some o := fun b o z => by
    have hb : b ≠ hp.objs.size + 1 := Nat.ne_of_lt (Nat.lt_succ_of_lt (Heap.lt_size z))
    rw [gk b hb]
    exact a1 b o hb (kk b o z)
  have J : Inv X pins σ (upd H1 dx (.xd [(Z.fd c, v)])) ⟨G, g, dr, tk', os⟩ := I1.laid (t' := tk') keep hdx
    ⟨_, a5.at fun o z => (gk dx a3).trans z, fun f => relO_put (fs := []) (mA := fun _ => none) rv (fun _ => True.intro) f⟩
  refine ⟨hp.objs.size + 1, _, _, ⟨G, g, dr, tk', os⟩, _, .ref (Z.cl c), some dx, rfl, J, keepG, ge, a4, ⟨rfl, rfl⟩, rfl, rfl, ?_, rfl, I1.bare, raises_own T.exC T.tyC, ?_⟩
  · rw [upd_ne (Ne.symm a3)]; exact hne
  · exact hq dx (I1.hok.fresh hdx)
end Dg
end

section
set_option Elab.async false
set_option linter.all false
set_option maxRecDepth 100000
set_option maxHeartbeats 4000000
/-! DgZ: the head: facts of the defs and of the exceptions, the law's end. -/
namespace Dg
open PySem PySem.Spec L2
open PyProof.Rows hiding St

/-! ### calls' bindings -/
theorem permP_range : ∀ (k i : Nat) (vs : List PV), i + k ≤ vs.length → permP ((List.range' i k).map .inl) vs = some ((vs.drop i).take k)
  | 0, i, vs, _ => by simp [permP]
  | k + 1, i, vs, h => by
    rw [List.range'_succ, List.map_cons]
    unfold permP
    rw [List.getElem?_eq_getElem (by omega), permP_range k (i + 1) vs (by omega)]
    show some (_ :: _) = _
    rw [List.drop_eq_getElem_cons (by omega : i < vs.length), List.take_succ_cons]
theorem permP_inr : ∀ (ds : List PV) (vs : List PV), permP (ds.map .inr) vs = some ds
  | [], _ => rfl
  | d :: ds, vs => by
    rw [List.map_cons]
    unfold permP
    rw [permP_inr ds vs]
theorem permP_app : ∀ (p q : List (Sum Nat PV)) (vs xs ys : List PV), permP p vs = some xs → permP q vs = some ys → permP (p ++ q) vs = some (xs ++ ys)
  | [], q, vs, xs, ys, h1, h2 => by cases h1; exact h2
  | .inl i :: p, q, vs, xs, ys, h1, h2 => by
    unfold permP at h1
    split at h1
    · rename_i v r e1 e2
      cases h1
      show permP (.inl i :: (p ++ q)) vs = _
      unfold permP
      rw [e1, permP_app p q vs r ys e2 h2]; rfl
    · cases h1
  | .inr d :: p, q, vs, xs, ys, h1, h2 => by
    unfold permP at h1
    split at h1
    · rename_i r e2
      cases h1
      show permP (.inr d :: (p ++ q)) vs = _
      unfold permP
      rw [permP_app p q vs r ys e2 h2]; rfl
    · cases h1
def idPerm (n : Nat) : List (Sum Nat PV) := (List.range' 0 n).map .inl
theorem permP_id {n : Nat} {vs : List PV} (h : vs.length = n) : permP (idPerm n) vs = some vs := by
  unfold idPerm
  rw [permP_range n 0 vs (by omega)]
  simp [← h]
section
variable {K : PySem.W.Frag} {x qual : Str} {params : Arguments} {body : List Stmt} {scope : Scope} {dvs : List V} {f : Addr} {fd : FuncData} {ps ks : List Str} {n : Nat}
/-- every parameter is given, the keywords in the parameters' order -/
theorem callA (F : FunD K x qual params body scope [] [] f fd) (hn : n + ks.length = ps.length)
    (h : ∀ (kV doc pm : Value) (an : Option Addr) (cdv ct : Value) (us ws : List Value), us.length = n → ws.length = ks.length → bindArgs (PySem.W.fnOf x qual params body scope .none kV doc pm an cdv ct) ⟨us, ks.zip ws⟩ = pure (ps.zip (us ++ ws))) : CallB K fd ps n ks (idPerm (n + ks.length)) := by
  obtain ⟨oc, od, dV, kV, doc, pm, an, cdv, ct, osl, rfl, lk, hcd, hD, hK⟩ := F.ex
  rcases hD with ⟨_, rfl⟩ | ⟨e, _⟩
  · refine ⟨⟨fun us ws => us ++ ws, fun vs zs => vs ++ zs, ⟨fun s us ws X l1 l2 => .of_eq (h kV doc pm an cdv ct us ws l1 l2), fun r1 r2 => r1.append r2⟩, fun w vs zs pv pz r1 r2 l1 l2 => ?_⟩⟩
    exact ⟨pv ++ pz, permP_id (by rw [List.length_append, l1, l2]), by rw [List.length_append, l1, l2, hn], r1.append r2⟩
  · exact absurd rfl e
/-- n are given, the defaults behind the first j fill up -/
theorem callD (F : FunD K x qual params body scope dvs [] f fd) (j : Nat) (hd : dvs ≠ []) (hn : n + (dvs.length - j) = ps.length) (dps : List PV) (hr : ∀ w : Wd, Reps w (dvs.drop j) dps)
    (h : ∀ (T : Addr) (kV doc pm : Value) (an : Option Addr) (cdv ct : Value) (us its : List Value), us.length = n → its.length = dvs.length →
      ∃ k, bindArgs (PySem.W.fnOf x qual params body scope (.ref T) kV doc pm an cdv ct) ⟨us, []⟩ = seqItems? (.ref T) >>= k ∧ k (some its.toArray) = pure (ps.zip (us ++ its.drop j))) : CallB K fd ps n [] (idPerm n ++ dps.map .inr) := by
  obtain ⟨ds, r, b⟩ := F.binds1 n j hd hn h
  have hdl : (dvs.drop j).length = ds.length := r.length
  refine ⟨⟨fun us ws => us ++ ds, fun vs zs => vs ++ dvs.drop j, ⟨fun s us ws X l1 l2 => ?_, fun r1 r2 => r1.append r⟩, fun w vs zs pv pz r1 r2 l1 l2 => ?_⟩⟩
  · exact b s us X (by rw [List.length_append, l1, ← hdl, List.length_drop]; exact hn)
  · have hz : pz = [] := List.length_eq_zero_iff.mp l2
    subst hz
    rw [List.append_nil]
    refine ⟨pv ++ dps, permP_app _ _ _ _ _ (permP_id l1) (permP_inr _ _), ?_, r1.append (hr w)⟩
    have := (hr w).length
    rw [List.length_drop] at this
    rw [List.length_append, l1, ← this]; exact hn
end
/-! ### lists of facts -/
def AllQ {α : Type} (p : α → Prop) : List α → Prop
  | [] => True
  | a :: r => p a ∧ AllQ p r
theorem all_of {α : Type} {p : α → Prop} : ∀ {l : List α}, AllQ p l → ∀ q ∈ l, p q
  | a :: r, h, q, hq => by
    rcases List.mem_cons.mp hq with z | z
    · rw [z]; exact h.1
    · exact all_of h.2 q z
def AllI {α : Type} (p : Nat → α → Prop) : Nat → List α → Prop
  | _, [] => True
  | i, a :: r => p i a ∧ AllI p (i + 1) r
theorem allI_of {α : Type} {p : Nat → α → Prop} : ∀ {l : List α} {i : Nat}, AllI p i l → ∀ j a, l[j]? = some a → p (i + j) a
  | a :: r, i, h, 0, b, e => by cases e; exact h.1
  | a :: r, i, h, j + 1, b, e => by
    have z := allI_of h.2 j b e
    rw [show i + 1 + j = i + (j + 1) by omega] at z
    exact z
  | [], _, _, _, _, e => by simp at e
theorem lookup_all {α β : Type} [BEq α] [LawfulBEq α] {p : α → β → Prop} : ∀ {l : List (α × β)}, AllQ (fun q => p q.1 q.2) l → ∀ x y, l.lookup x = some y → p x y := fun h x y e => all_of h (x, y) (lookup_mem' e)
/-! ### own exceptions, by the written part -/
structure ExD where
  x : Str
  B : String
  f : Str
  st : Stmt
def bmOf (B : String) : List Value := if B = "ValueError" then [.type "ValueError", .type "Exception", .type "BaseException", .type "object"] else if B = "OverflowError" then [.type "OverflowError", .type "ArithmeticError", .type "Exception", .type "BaseException", .type "object"] else [.type "LookupError", .type "Exception", .type "BaseException", .type "object"]
def initA (K : PySem.W.Frag) (x : Str) : Addr := He.ma K (He.ga K x) "__init__"
abbrev FnS : Type := Option (Str × Str × Arguments × FuncBody × Scope × Addr × List Str × Addr)
def fnS (K : PySem.W.Frag) (x : Str) : FnS := match K.lookup (initA K x) with
  | some ⟨_, _, .func fd, _⟩ => some (fd.name, fd.qualname, fd.params, fd.body, fd.scope, fd.globals, fd.closure.map (·.1), fd.builtins)
  | _ => none
def ExD.qual (d : ExD) : Str := d.x ++ ".__init__"
def ExD.val (d : ExD) : FnS := some ("__init__", d.qual, defArgs d.st, .stmts (defBody d.st), defScope d.st, mainGlobals, ["__class__"], builtinsNs)
/-- the code object's file, the cell -/
def initB (file : Str) (K : PySem.W.Frag) (d : ExD) : Bool := match K.lookup (initA K d.x) with
  | some ⟨_, _, .func fd, _⟩ => (match fd.defaults, fd.code, fd.closure with
    | .none, .ref cda, [(_, cc)] => PySem.W.codeIn K (.ref cda) d.qual && ((match K.lookup cda with
        | some ⟨_, _, .fields vs, _⟩ => (match vs[2]? with
          | some (Value.str z _) => (file == z)
          | _ => false)
        | _ => false) && (match K.lookup cc with
        | some ⟨_, _, .cell (some (.ref C)), _⟩ => decide (C = He.ga K d.x)
        | _ => false))
    | _, _, _ => false)
  | _ => false
def ExD.ok (file : Str) (K : PySem.W.Frag) (d : ExD) : Bool :=
  PySem.W.excInitIn K (He.ga K d.x) (bmOf d.B) (d.B ++ ".__new__") && (PySem.W.excOver K (He.ga K d.x) (bmOf d.B) && (decide (PySem.W.subIn K (.ref (He.ga K d.x)) (.type d.B) = some true) &&
  (decide (PySem.W.ks_superIn K (He.ga K d.x) (He.ga K d.x) "__init__" = some (some (.builtin (d.B ++ ".__init__")))) && (decide (PySem.W.takerIn K (He.ga K d.x) d.f = some none) && (PySem.W.hasDictIn K (He.ga K d.x) &&
  (He.eqO (PySem.W.findIn K (.ref (He.ga K d.x)) "__setattr__") (some (some (.builtin "object.__setattr__"))) && (decide (PySem.W.subIn K (.ref (He.ga K d.x)) (.type "BaseException") = some true) && (decide (PySem.W.typeIn K (.ref (He.ga K d.x)) = some (.type "type")) &&
  (PySem.W.keepIn K (.ref (He.ga K d.x)) && (decide (PySem.W.nsIn K cStatics "thirdparty.any" = some none) && (decide (PySem.W.mroIn K (He.ga K d.x) (.ref (He.ga K d.x)) = some true) &&
  (He.eqO (PySem.W.findIn K (.ref (He.ga K d.x)) "__init__") (some (some (.ref (initA K d.x)))) && (decide (PySem.W.typeIn K (.ref (initA K d.x)) = some (.type "function")) && (initB file K d &&
  (xfB K (He.ga K d.x) && He.eqO (PySem.W.findIn K (.ref (He.ga K d.x)) d.f) (some none))))))))))))))))
theorem base_of {B : String} (h : B = "ValueError" ∨ B = "OverflowError" ∨ B = "LookupError") : PySem.W.KxsFacts B (B ++ ".__init__") ∧ ExcBaseFacts B (B ++ ".__new__") (B ++ ".__init__") (bmOf B) ∧ StoreFacts B (bmOf B) "object.__setattr__" "object" := by
  rcases h with rfl | rfl | rfl
  · exact ⟨PySem.W.kxs_ValueError, PySem.F.excBase_ValueError, PySem.F.store_ValueError⟩
  · exact ⟨PySem.W.kxs_OverflowError, PySem.F.excBase_OverflowError, PySem.F.store_OverflowError⟩
  · exact ⟨PySem.W.kxs_LookupError, PySem.F.excBase_LookupError, PySem.F.store_LookupError⟩
/-- what is seen of an __init__'s text -/
structure ExT (d : ExD) : Prop where
  B : d.B = "ValueError" ∨ d.B = "OverflowError" ∨ d.B = "LookupError"
  t : ∃ (msg par sel : Str) (j : Nat) (p0 p1 p2 p3 p4 p5 p6 p7 p8 p9 : Pos) (ar : Arg), defBody d.st = supBody msg par sel d.f j p0 p1 p2 p3 p4 p5 p6 p7 p8 p9 ∧ ((defArgs d.st).posonlyargs ++ (defArgs d.st).args).head? = some ar ∧ ar.arg = sel ∧ sel ≠ par ∧
    (∀ (name qual : Str) (body : List Stmt) (scope : Scope) (kV doc pm ct cdv : Value) (an : Option Addr) (cc : Addr) (a b : Value), bindArgs (PySem.W.ksFn name qual (defArgs d.st) body scope .none kV doc pm an cdv ct cc) ⟨[a, b], []⟩ = pure [(sel, a), (par, b)]) ∧
    (defScope d.st).kind = .function ∧ (defScope d.st).isCoroutine = false ∧ (defScope d.st).isGenerator = false ∧ (∀ y ∈ (defScope d.st).names, y.2 ≠ .cell) ∧ (defScope d.st).names.lookup ("super" : Str) = some .globalImplicit ∧ (defScope d.st).names.lookup ("__class__" : Str) = some .free ∧
    (defScope d.st).names.lookup sel = some .local ∧ (defScope d.st).names.lookup par = some .local ∧ (sel == ("__debug__" : Str)) = false ∧ (par == ("__debug__" : Str)) = false ∧ (p2.endLine == p4.line) = true
theorem sup_of {P : Program} {K : PySem.W.Frag} {d : ExD} (T : ExT d) (htop : (P.main.scope.names.lookup ("super" : Str)).isSome = false) (e : fnS K d.x = d.val) (c : d.ok P.main.file K = true) : SupC P K (He.ga K d.x) d.f ∧ XfC K (He.ga K d.x) ∧ PySem.W.findIn K (.ref (He.ga K d.x)) d.f = some none := by
  obtain ⟨c1, c⟩ := He.ba c
  obtain ⟨c2, c⟩ := He.ba c
  obtain ⟨c3, c⟩ := He.ba c
  obtain ⟨c4, c⟩ := He.ba c
  obtain ⟨c5, c⟩ := He.ba c
  obtain ⟨c6, c⟩ := He.ba c
  obtain ⟨c7, c⟩ := He.ba c
  obtain ⟨c8, c⟩ := He.ba c
  obtain ⟨c9, c⟩ := He.ba c
  obtain ⟨c10, c⟩ := He.ba c
  obtain ⟨c11, c⟩ := He.ba c
  obtain ⟨c12, c⟩ := He.ba c
  obtain ⟨c13, c⟩ := He.ba c
  obtain ⟨c14, c⟩ := He.ba c
  obtain ⟨c15, c⟩ := He.ba c
  obtain ⟨c16, c17⟩ := He.ba c
  obtain ⟨b1, b2, b3⟩ := base_of T.B
  refine ⟨?_, xfB_ok c16, He.eqO_ok c17⟩
  refine ⟨⟨_, _, _, _, b1, b2, b3, c1, c2, of_decide_eq_true c3, of_decide_eq_true c4⟩, of_decide_eq_true c5, c6, He.eqO_ok c7, of_decide_eq_true c8, of_decide_eq_true c9, c10, of_decide_eq_true c11, of_decide_eq_true c12, htop, ?_⟩
  obtain ⟨msg, par, sel, j, p0, p1, p2, p3, p4, p5, p6, p7, p8, p9, ar, t1, t2, t3, t4, t5, t6, t7, t8, t9, t10, t11, t12, t13, t14, t15, t16⟩ := T.t
  unfold initB at c15
  unfold fnS at e
  cases q : K.lookup (initA K d.x) with
  | none => rw [q] at c15; cases c15
  | some o =>
    obtain ⟨oc, od, dt, osl⟩ := o
    rw [q] at c15 e
    cases dt with
    | func fd =>
      obtain ⟨n1, n2, n3, n4, n5, n6, n7, n8, n9, n10, n11, n12, n13, n14, n15⟩ := fd
      have e2 : (some (n1, n2, n3, n4, n5, n6, n7.map (·.1), n15) : FnS) = some (("__init__" : Str), d.qual, defArgs d.st, FuncBody.stmts (defBody d.st), defScope d.st, mainGlobals, [("__class__" : Str)], builtinsNs) := e
      simp only [Option.some.injEq, Prod.mk.injEq] at e2
      obtain ⟨h1, h2, h3, h4, h5, h6, h7, h8⟩ := e2
      dsimp only at c15
      split at c15
      · rename_i cda cn cc
        obtain ⟨k1, k2⟩ := He.ba c15
        obtain ⟨k3, k4⟩ := He.ba k2
        subst h1 h2 h3 h4 h5 h6 h8
        have hcn : cn = "__class__" := by simpa using h7
        subst hcn
        split at k3
        · rename_i ccl cdd vs ccs hl
          split at k3
          · rename_i z tf hv
            split at k4
            · rename_i cl cld C csl hcell
              have eC := of_decide_eq_true k4
              subst eC
              rw [t1] at q
              exact ⟨initA K d.x, cda, cc, "__init__", d.qual, defArgs d.st, msg, par, sel, j, p0, p1, p2, p3, p4, p5, p6, p7, p8, p9, defScope d.st, .none, n9, n10, n11, n14, n12, oc, od, osl, ccl, cl, cdd, cld, ccs, csl, vs, z, tf, ar,
                He.eqO_ok c13, of_decide_eq_true c14, q, k1, hl, hv, k3, hcell, t2, t3, t4, fun a b => t5 _ _ _ _ _ _ _ _ _ _ _ a b, t6, t7, t8, t9, t10, t11, t12, t13, t14, t15, t16⟩
            · cases k4
          · cases k3
        · cases k3
      · cases c15
    | _ => cases c15
/-! ### the Hook -/
abbrev AlX : Type := He.AlD × Bool × List FnS
def obsX (file : Str) (fa : List He.Fa) (fn : List He.DefD) (xs : List ExD) (K : PySem.W.Frag) : AlX := (He.obsD fa fn K, xs.all (fun d => d.ok file K), xs.map fun d => fnS K d.x)
def valX (fn : List He.DefD) (xs : List ExD) : AlX := (He.valD fn, true, xs.map ExD.val)
def SaysX (file : Str) (fa : List He.Fa) (fn : List He.DefD) (xs : List ExD) (K : PySem.W.Frag) : Prop := obsX file fa fn xs K = valX fn xs
def obsXG (n : Nat) (file : Str) (fa : List He.Fa) (fn : List He.DefD) (xs : List ExD) (g : Addr → Option Obj) : AlX := obsX file fa fn xs (He.frG g (cStatics :: He.asD g n))
def hookX (n : Nat) (file : Str) (fa : List He.Fa) (fn : List He.DefD) (xs : List ExD) : PySem.W.Hook where
  α := AlX
  obs := fun s => obsXG n file fa fn xs s.heap.get?
  val := fun _ => valX fn xs
  says := fun _ h => ∃ K : PySem.W.Frag, K.In h ∧ SaysX file fa fn xs K
  of := fun _ _ e => ⟨_, He.frG_in, e⟩
  keeps := fun _ _ _ ⟨K, hK, c⟩ k => ⟨K, PySem.W.Frag.In.keeps hK k, c⟩
theorem obsXG_eq {n : Nat} {file : Str} {fa : List He.Fa} {fn : List He.DefD} {xs : List ExD} {g : Addr → Option Obj} {s : Shared} (h : ∀ a, g a = s.heap.get? a) : obsXG n file fa fn xs g = (hookX n file fa fn xs).obs s := by
  have e : g = s.heap.get? := funext h
  rw [e] <;> rfl
section
variable {file : Str} {fa : List He.Fa} {fn : List He.DefD} {xs : List ExD} {K : PySem.W.Frag}
theorem SaysX.d (c : SaysX file fa fn xs K) : He.SaysD fa fn K := congrArg (fun z : AlX => z.1) c
theorem SaysX.ex (c : SaysX file fa fn xs K) (i : Nat) {d : ExD} (h : xs[i]? = some d) : fnS K d.x = d.val ∧ d.ok file K = true := by
  have c1 : xs.all (fun d => d.ok file K) = true := congrArg (fun z : AlX => z.2.1) c
  have e : xs.map (fun d => fnS K d.x) = xs.map ExD.val := congrArg (fun z : AlX => z.2.2) c
  have e2 : (xs.map fun d => fnS K d.x)[i]? = (xs.map ExD.val)[i]? := by rw [e]
  rw [List.getElem?_map, List.getElem?_map, h] at e2
  exact ⟨Option.some.inj e2, List.all_eq_true.mp c1 d (List.mem_of_getElem? h)⟩
end
/-! ### the law's end -/
theorem walk_dg {l : PySem.W.OpenLaw} {n k : Nat} {q : Program} {loose : List Str} {XP : (Str → Option Value) → Heap → Prop} {YP : World → Heap → Prop} {d : DefRec} {x : Str}
    (hn : l.most = some n) (hn2 : n ≤ sizeLine) (hdf : d.params.defaults = []) (hr : Room k callerA)
    (F : ∀ (w : World) (mg : Str → Option Value) (fa : Addr) (h : Heap), YP w h → h.Ns mainGlobals mg → mg d.name = some (.ref fa) →
      ∃ (K : PySem.W.Frag) (fd : FuncData) (sp : Sp), K.In h ∧ (∀ (s : Shared) (u : Value), BindsTo s fd ⟨[u], []⟩ [(x, u)]) ∧
        (∀ (H : Hp) (a : Addr) (ns : List Int), ns.length ≤ n → (∀ z ∈ ns, Builtin.Int.intBits z ≤ 1048576) → Only H → SqL K H a (ns.map V.int) → sp [.ref a] H (fun v _ => v = .bl true) fun _ _ _ => False) ∧
        ∀ base : Heap, K.In base → base.Ns mainGlobals mg → FnOk l.prog w K mg base (L2.CX l.prog w) k fa fd [x] sp) :
    PySem.W.WalkO q loose XP YP l.row.toRowW d [] (fun f vs => PySem.call f vs) := by
  refine Att.attach_callB hn hdf fun w s₀ s₁ mg mb fa o pm cd doc a vs ns G Y ho hd hcd hmg hobj hints hlen hbits hg => ?_
  obtain ⟨K, fd, sp, KX, hb, hsp, hF⟩ := F w mg fa _ Y G.T.g hmg
  refine law_call KX G.T.g G.T.b G.T.builtins G.T.nolimit hg hobj hints (Nat.le_trans hlen hn2) hr hF hb (fun H hO hS => hsp H a ns hlen hbits hO hS) fun H e s' hx => ?_
  obtain ⟨_, _, _, _, _, _, _, _, _, _, _, _, hE⟩ := hx
  exact False.elim hE
/-- the law's promise, by plain values -/
theorem law_sp {Z : Xc} {g : List PV → Store → Res PV} {H : Hp} {a : Addr} {ns : List Int} (hS : SqL Z.K H a (ns.map V.int)) (hg : ∃ S', g [.scr (ns.map PV.int)] [] = .ok (.bl true) S') : spI Z g 1 [.ref a] H (fun v _ => v = .bl true) fun _ _ _ => False := by
  obtain ⟨S', e⟩ := hg
  have hr : HRel ⟨Z.K, fun _ => False, [], H, [], 0⟩ [] := ⟨rfl, List.nodup_nil, (fun a h => by cases h), (fun a h => h.elim), (fun n a o h => by cases h), ⟨fun p h => absurd h List.not_mem_nil, fun p h => absurd h List.not_mem_nil, fun a o h => h.elim⟩⟩
  refine ⟨⟨Z.K, fun _ => False, [], H, [], 0⟩, [], [.scr (ns.map PV.int)], rfl, rfl, hr, .cons (.scr ?_ (reps_int ns)) .nil, rfl, ?_⟩
  · rcases hS with h | h
    · exact .inl ⟨h, fun z => z⟩
    · exact .inr h
  · rw [e]
    exact fun u x _ _ r => r.of_bl
def fdAt (K : PySem.W.Frag) (a : Addr) : FuncData := match K.lookup a with
  | some ⟨_, _, .func fd, _⟩ => fd
  | _ => default
theorem fdAt_ok {K : PySem.W.Frag} {x qual : Str} {params : Arguments} {body : List Stmt} {scope : Scope} {dvs : List V} {kws : List (Str × V)} {f : Addr} (h : ∃ fd, FunD K x qual params body scope dvs kws f fd) : FunD K x qual params body scope dvs kws f (fdAt K f) := by
  obtain ⟨fd, F⟩ := h
  obtain ⟨oc, od, dV, kV, doc, pm, an, cdv, ct, osl, e, lk, r⟩ := F.ex
  have e2 : fdAt K f = fd := by unfold fdAt; rw [lk]
  rw [e2]
  exact F
end Dg
end

section
set_option Elab.async false
set_option linter.all false
set_option maxRecDepth 100000
set_option maxHeartbeats 2000000
/-! DgZT: the head's Hook with the module's dicts (text keys; numbers, truths, texts, None as values). -/
namespace Dg
open PySem PySem.Spec L2
open PyProof.Rows hiding St
def dvO : PV → He.Dv
  | .int i => .int i
  | .bl b => .bl b
  | .str x => .str x
  | _ => .non
def simP : PV → Bool
  | .int _ => true
  | .bl _ => true
  | .str _ => true
  | .non => true
  | _ => false
theorem rep_dvO {p : PV} (h : simP p = true) {K : PySem.W.Frag} (wd : Wd) : Rep wd ((dvO p).v K) p := by
  cases p with
  | non => exact .non
  | bl b => exact .bl b
  | int i => exact .int i
  | str x => exact .str x
  | _ => cases h
theorem nsIn_out {K : PySem.W.Frag} {P : Params} {a : Addr} {es : Array DictEntry} {n : Nat} {ks : List Str} {s : Str} (hl : K.lookup a = some ⟨.type "dict", none, .dict es n, #[]⟩) (hk : es.toList.map He.keyOf = He.keysIn P ks) (hs : s ∉ ks) : PySem.W.nsIn K a s = some none := by
  have key : ∀ e ∈ es.toList, ∃ x t, e.key = .str x t ∧ x ∈ ks := fun e he => by
    have h1 : He.keyOf e ∈ He.keysIn P ks := hk ▸ List.mem_map_of_mem he
    obtain ⟨k, hk1, hk2⟩ := List.mem_map.mp h1
    unfold He.keyOf at hk2
    split at hk2
    · rename_i x t q
      injection hk2 with h3
      injection h3 with h4 h5
      exact ⟨x, t, q, h4 ▸ hk1⟩
    · cases hk2
  unfold PySem.W.nsIn
  rw [hl]
  dsimp only
  have h1 : es.toList.find? (fun e => e.key.isStr s) = none := by
    rw [List.find?_eq_none]
    intro e he h
    obtain ⟨x, t, q, hx⟩ := key e he
    rw [q] at h
    have : x = s := by simpa [Value.isStr] using h
    exact hs (this ▸ hx)
  have h2 : es.toList.any (fun e => e.refKey) = false := by
    rw [List.any_eq_false]
    intro e he h
    obtain ⟨x, t, q, hx⟩ := key e he
    unfold DictEntry.refKey at h
    rw [q] at h
    cases h
  rw [h1, h2]
  rfl
/-! ### the Hook -/
abbrev Tb : Type := Str × List (Str × PV)
abbrev AlT : Type := AlX × List (Option (List (Option (Str × Int))) × Bool) × Bool
def bfB (bs : List Str) (K : PySem.W.Frag) : Bool := bs.all fun x => He.eqO (PySem.W.nsIn K mainGlobals x) (some (some (.builtin "math.gcd")))
def obsT (file : Str) (fa : List He.Fa) (fn : List He.DefD) (xs : List ExD) (ts : List Tb) (bs : List Str) (K : PySem.W.Frag) : AlT :=
  (obsX file fa fn xs K, ts.map fun t => (He.dicW K (He.ga K t.1), He.valsB K (He.ga K t.1) (t.2.map fun q => (q.1, dvO q.2))), bfB bs K)
def valT (fn : List He.DefD) (xs : List ExD) (ts : List Tb) (bs : List Str) (w : World) : AlT := (valX fn xs, ts.map fun t => (some (He.keysIn w.params (t.2.map fun q => q.1)), true), true)
def SaysT (file : Str) (fa : List He.Fa) (fn : List He.DefD) (xs : List ExD) (ts : List Tb) (bs : List Str) (w : World) (K : PySem.W.Frag) : Prop := obsT file fa fn xs ts bs K = valT fn xs ts bs w
def obsTG (n : Nat) (file : Str) (fa : List He.Fa) (fn : List He.DefD) (xs : List ExD) (ts : List Tb) (bs : List Str) (g : Addr → Option Obj) : AlT := obsT file fa fn xs ts bs (He.frG g (cStatics :: He.asD g n))
def hookT (n : Nat) (file : Str) (fa : List He.Fa) (fn : List He.DefD) (xs : List ExD) (ts : List Tb) (bs : List Str) : PySem.W.Hook where
  α := AlT
  obs := fun s => obsTG n file fa fn xs ts bs s.heap.get?
  val := fun w => valT fn xs ts bs w
  says := fun w h => ∃ K : PySem.W.Frag, K.In h ∧ SaysT file fa fn xs ts bs w K
  of := fun _ _ e => ⟨_, He.frG_in, e⟩
  keeps := fun _ _ _ ⟨K, hK, c⟩ k => ⟨K, PySem.W.Frag.In.keeps hK k, c⟩
theorem obsTG_eq {n : Nat} {file : Str} {fa : List He.Fa} {fn : List He.DefD} {xs : List ExD} {ts : List Tb} {bs : List Str} {g : Addr → Option Obj} {s : Shared} (h : ∀ a, g a = s.heap.get? a) : obsTG n file fa fn xs ts bs g = (hookT n file fa fn xs ts bs).obs s := by
  have e : g = s.heap.get? := funext h
  rw [e] <;> rfl
section
variable {file : Str} {fa : List He.Fa} {fn : List He.DefD} {xs : List ExD} {ts : List Tb} {bs : List Str} {w : World} {K : PySem.W.Frag}
theorem SaysT.x (c : SaysT file fa fn xs ts bs w K) : SaysX file fa fn xs K := congrArg (fun z : AlT => z.1) c
theorem SaysT.d (c : SaysT file fa fn xs ts bs w K) : He.SaysD fa fn K := c.x.d
theorem SaysT.ex (c : SaysT file fa fn xs ts bs w K) (i : Nat) {d : ExD} (h : xs[i]? = some d) : fnS K d.x = d.val ∧ d.ok file K = true := c.x.ex i h
theorem SaysT.tab (c : SaysT file fa fn xs ts bs w K) (i : Nat) {x : Str} {kvs : List (Str × PV)} (h : ts[i]? = some (x, kvs)) (hs : kvs.all (fun q => simP q.2) = true) : DTab K w (He.ga K x) kvs := by
  have e : ts.map (fun t => (He.dicW K (He.ga K t.1), He.valsB K (He.ga K t.1) (t.2.map fun q => (q.1, dvO q.2)))) = ts.map fun t => (some (He.keysIn w.params (t.2.map fun q => q.1)), true) := congrArg (fun z : AlT => z.2.1) c
  have e2 := congrArg (fun l => l[i]?) e
  simp only [List.getElem?_map, h, Option.map_some] at e2
  injection e2 with e3
  injection e3 with e4 e5
  have hd := He.dicW_ok (w := w) e4
  obtain ⟨es, n, kd⟩ := hd
  refine ⟨⟨es, n, kd⟩, fun s => ?_⟩
  cases q : kvs.lookup s with
  | some p =>
    have hm : (s, p) ∈ kvs := lookup_mem' q
    obtain ⟨u, k1, k2⟩ := He.valsB_ok (q := (s, dvO p)) e5 (List.mem_map.mpr ⟨(s, p), hm, rfl⟩)
    refine ⟨some u, k1, fun p' hp => ?_, (fun hp => by cases hp)⟩
    cases hp
    exact ⟨u, _, rfl, k2, fun wd _ => rep_dvO (List.all_eq_true.mp hs _ hm) wd⟩
  | none =>
    refine ⟨none, ?_, (fun p' hp => by cases hp), fun _ => rfl⟩
    have hs2 : s ∉ kvs.map fun q => q.1 := fun hm => by
      have := lookup_has (kvs := kvs) (s := s)
      rw [q, List.contains_iff_mem.mpr hm] at this
      cases this
    have hk : es.toList.map He.keyOf = He.keysIn w.params (kvs.map fun q => q.1) := by
      have h6 := e4
      unfold He.dicW at h6
      rw [kd.at_] at h6
      dsimp only at h6
      split at h6
      · exact Option.some.inj h6
      · cases h6
    exact nsIn_out kd.at_ hk hs2
theorem SaysT.bf {h : Heap} {mg : Str → Option Value} (c : SaysT file fa fn xs ts bs w K) (X : K.In h) (G : h.Ns mainGlobals mg) : ∀ x ∈ bs, mg x = some (.builtin "math.gcd") := fun x hx => by
  have e : bfB bs K = true := congrArg (fun z : AlT => z.2.2) c
  exact PySem.W.mg_of X G (He.eqO_ok (List.all_eq_true.mp e x hx))
end
end Dg
namespace Dg
open PySem PySem.Spec L2
open PyProof.Rows hiding St
theorem vals_getD : ∀ {vs : List V} {us : List Value} (i : Nat), Vals vs us → RelV (vs.getD i .non) (us.getD i .none)
  | _, _, _, .nil => rfl
  | _, _, 0, .cons r _ => r
  | _, _, i + 1, .cons _ t => vals_getD i t
theorem vals_sel {vs : List V} {us : List Value} (r : Vals vs us) : ∀ sel : List Nat, Vals (sel.map fun i => vs.getD i .non) (sel.map fun i => us.getD i .none)
  | [] => .nil
  | i :: sel => .cons (vals_getD i r) (vals_sel r sel)
theorem reps_sel {w : Wd} {vs : List V} {xs : List PV} (r : Reps w vs xs) : ∀ sel : List Nat, Reps w (sel.map fun i => vs.getD i .non) (sel.map fun i => xs.getD i .non)
  | [] => .nil
  | i :: sel => by
    refine .cons ?_ (reps_sel r sel)
    show Rep w (vs.getD i .non) (xs.getD i .non)
    cases e : xs[i]? with
    | none =>
      have l := r.length
      have e2 : vs[i]? = none := by
        rw [List.getElem?_eq_none_iff] at e ⊢
        omega
      rw [List.getD_eq_getElem?_getD, List.getD_eq_getElem?_getD, e, e2]
      exact .non
    | some x =>
      obtain ⟨v, h1, h2⟩ := r.get e
      rw [List.getD_eq_getElem?_getD, List.getD_eq_getElem?_getD, e, h1]
      exact h2
theorem permP_sel {vs : List PV} : ∀ sel : List Nat, (∀ i ∈ sel, i < vs.length) → permP (sel.map .inl) vs = some (sel.map fun i => vs.getD i .non)
  | [], _ => rfl
  | i :: sel, h => by
    rw [List.map_cons, List.map_cons]
    unfold permP
    rw [permP_sel sel fun j hj => h j (List.mem_cons_of_mem _ hj), List.getElem?_eq_getElem (h i (List.mem_cons_self ..))]
    simp [List.getD_eq_getElem?_getD, h i (List.mem_cons_self ..)]
section
variable {K : PySem.W.Frag} {x qual : Str} {params : Arguments} {body : List Stmt} {scope : Scope} {f : Addr} {fd : FuncData} {ps ks : List Str} {n : Nat}
/-- every parameter is given, the keywords in any order -/
theorem callS (F : FunD K x qual params body scope [] [] f fd) (sel : List Nat) (hs : ∀ i ∈ sel, i < n + ks.length) (hl : sel.length = ps.length)
    (h : ∀ (kV doc pm : Value) (an : Option Addr) (cdv ct : Value) (us ws : List Value), us.length = n → ws.length = ks.length → bindArgs (PySem.W.fnOf x qual params body scope .none kV doc pm an cdv ct) ⟨us, ks.zip ws⟩ = pure (ps.zip (sel.map fun i => (us ++ ws).getD i .none))) : CallB K fd ps n ks (sel.map .inl) := by
  obtain ⟨oc, od, dV, kV, doc, pm, an, cdv, ct, osl, rfl, lk, hcd, hD, hK⟩ := F.ex
  rcases hD with ⟨_, rfl⟩ | ⟨e, _⟩
  · refine ⟨⟨fun us ws => sel.map fun i => (us ++ ws).getD i .none, fun vs zs => sel.map fun i => (vs ++ zs).getD i .non, ⟨fun s us ws X l1 l2 => .of_eq (h kV doc pm an cdv ct us ws l1 l2), fun r1 r2 => vals_sel (r1.append r2) sel⟩, fun w vs zs pv pz r1 r2 l1 l2 => ?_⟩⟩
    refine ⟨_, permP_sel sel (fun i hi => by rw [List.length_append, l1, l2]; exact hs i hi), by rw [List.length_map]; exact hl, reps_sel (r1.append r2) sel⟩
  · exact absurd rfl e
end
end Dg
end

section
set_option Elab.async false
set_option linter.all false
set_option maxRecDepth 100000
set_option maxHeartbeats 0
namespace Dg
open PySem PySem.Spec L2
open PyProof.Rows hiding St
/-! ### the text -/
def top (i : Nat) : Stmt := PySem.Challenge.pw_digitsay_k24_countings_judged_and_valued.main.body.getD i (.Pass ⟨0, 0, 0, 0⟩)
def clsInit (st : Stmt) : Stmt := match st with
  | .ClassDef _ _ _ b _ _ _ _ _ _ _ => b.headD (.Pass ⟨0, 0, 0, 0⟩)
  | s => s
def T0 : Tab where
  N := []
  sc := defScope (top 0)
  fn := fun _ => true
  calls := ([("is_row", 1, [], 1, idPerm 1 ++ [.inr .non]), ("is_whole", 3, [], 0, idPerm 3), ("is_row", 2, [], 1, idPerm 2), ("is_whole", 2, [], 0, idPerm 2 ++ [.inr .non]), ("is_ratio", 1, [], 5, idPerm 1), ("ratio_of", 2, [], 4, idPerm 2), ("sum_of_products", 2, [], 8, idPerm 2), ("are_wholes", 2, [], 2, idPerm 2 ++ [.inr .non]), ("power_of", 2, [], 3, idPerm 2), ("is_base", 1, [], 11, idPerm 1), ("are_ratios", 2, [], 7, idPerm 2), ("has_form", 1, [], 14, idPerm 1), ("matrix_times", 2, [], 10, idPerm 2), ("is_matrix", 2, [], 15, idPerm 2), ("counting_fault", 1, [], 16, idPerm 1), ("need_counting", 1, [], 17, idPerm 1), ("need_numbers", 2, [], 12, idPerm 2), ("columns_of", 2, [], 13, idPerm 2), ("row_times", 2, [], 9, idPerm 2), ("_law_mixed", 2, [], 19, idPerm 2), ("_law_folded", 1, [], 20, idPerm 1), ("_law_draw", 2, [], 21, idPerm 2), ("_law_like", 2, [], 24, idPerm 2), ("_law_gcd", 2, [], 27, idPerm 2), ("_law_ratio", 2, [], 28, idPerm 2), ("_law_plus", 2, [], 29, idPerm 2), ("_law_mult", 2, [], 30, idPerm 2), ("_law_dot", 2, [], 31, idPerm 2), ("_law_columns", 2, [], 26, idPerm 2), ("_law_along", 2, [], 32, idPerm 2)] : List (Str × Nat × List Str × Nat × List (Sum Nat PV))) ++ ([("_law_fraction", 1, [], 34, idPerm 1), ("_law_power", 2, [], 25, idPerm 2), ("_law_proofed", 2, [], 35, idPerm 2), ("_law_whole", 3, [], 37, idPerm 3), ("_law_is_fraction", 1, [], 38, idPerm 1), ("_law_formless", 1, [], 40, idPerm 1), ("_law_are_fractions", 2, [], 39, idPerm 2), ("_law_of", 2, [], 23, idPerm 2), ("_law_put", 3, [], 43, idPerm 3), ("_law_odd", 1, [], 42, idPerm 1), ("_law_row_spoilt", 2, [], 44, idPerm 2), ("_law_matrix_spoilt", 2, [], 45, idPerm 2), ("_law_fault", 1, [], 41, idPerm 1), ("need_counting", 0, ["counting"], 17, idPerm 1), ("value_of", 2, [], 18, idPerm 2), ("_law_heard", 2, [], 49, idPerm 2), ("value_of", 0, ["values", "counting"], 18, (([1, 0] : List Nat).map Sum.inl)), ("_law_worth", 2, [], 33, idPerm 2), ("_law_noughts", 3, [], 48, idPerm 3), ("_law_judged", 1, [], 47, idPerm 1), ("need_fraction", 1, [], 6, idPerm 1), ("need_fraction", 0, ["fraction"], 6, idPerm 1), ("_law_begun", 1, [], 22, idPerm 1), ("_law_great", 1, [], 51, idPerm 1), ("_law_counting", 4, [], 36, idPerm 4), ("_law_spoilt", 2, [], 46, idPerm 2), ("_law_fractions_right", 1, [], 52, idPerm 1), ("_law_valued", 2, [], 50, idPerm 2)] : List (Str × Nat × List Str × Nat × List (Sum Nat PV)))
  consts := [("MOST_BASE", (.int (10))), ("MOST_TRACKS", (.int (6))), ("MOST_SIZE", (.int (20000))), ("MOST_DIMENSION", (.int (40))), ("MOST_WORK", (.int (100000)))]
  bl := ["len", "int", "str", "list", "tuple", "all", "any", "sum", "min", "max", "abs", "range", "enumerate", "zip", "isinstance", "bool", "dict"]
  excs := [("BadNumbers", 0), ("BadCounting", 1), ("BadFraction", 2), ("TooMany", 3)]
  fds := ["value", "place", "value", "most"]
  subs := [((0, 0), true), ((0, 1), false), ((0, 2), false), ((0, 3), false), ((1, 0), false), ((1, 1), true), ((1, 2), false), ((1, 3), false), ((2, 0), false), ((2, 1), false), ((2, 2), true), ((2, 3), false), ((3, 0), false), ((3, 1), false), ((3, 2), false), ((3, 3), true)]
  mu := []
  bfs := ["gcd"]
def m_is_whole : MSs := (.cons (.ifS (.or_ (.not_ (.bi (.isin ["int"]) (.cons (.var 0) .nil))) (.bi (.isin ["bool"]) (.cons (.var 0) .nil))) (.cons (.ret (.k (.bl false))) .nil) .nil) (.cons (.ret (.and_ (.bin .ge (.var 0) (.var 1)) (.or_ (.un .isN (.var 2)) (.bin .le (.var 0) (.var 2))))) .nil))
def d_is_whole : DD := ⟨"is_whole", "is_whole", defArgs (top 8), defBody (top 8), defScope (top 8), [V.non], ["value", "least", "most"], ["value", "least", "most"], false, [], m_is_whole⟩
def m_is_row : MSs := (.cons (.ret (.and_ (.bi (.isin ["tuple"]) (.cons (.var 0) .nil)) (.or_ (.un .isN (.var 1)) (.bin .eq (.bi .len (.cons (.var 0) .nil)) (.var 1))))) .nil)
def d_is_row : DD := ⟨"is_row", "is_row", defArgs (top 9), defBody (top 9), defScope (top 9), [V.non], ["value", "length"], ["value", "length"], false, [], m_is_row⟩
def m_are_wholes : MSs := (.cons (.ret (.and_ (.call 1 [(.inl 0), (.inr .non)] (.cons (.var 0) .nil)) (.bi .all_ (.cons (.comp false [3, 4] (.name 4) (.of (.var 0)) .none (.call 0 [(.inl 0), (.inl 1), (.inl 2)] (.cons (.var 4) (.cons (.var 1) (.cons (.var 2) .nil))))) .nil)))) .nil)
def d_are_wholes : DD := ⟨"are_wholes", "are_wholes", defArgs (top 10), defBody (top 10), defScope (top 10), [V.non], ["value", "least", "most", ".0", "one"], ["value", "least", "most"], false, [], m_are_wholes⟩
def m_power_of : MSs := (.cons (.asg (.name 2) (.k (.int (1)))) (.cons (.forS (.name 3) (.range (.cons (.var 1) .nil)) (.cons (.asg (.name 2) (.bin .mul (.var 2) (.var 0))) .nil)) (.cons (.ret (.var 2)) .nil)))
def d_power_of : DD := ⟨"power_of", "power_of", defArgs (top 11), defBody (top 11), defScope (top 11), [], ["one", "times", "found", "turn"], ["one", "times"], false, [], m_power_of⟩
def m_ratio_of : MSs := (.cons (.asg (.name 2) (.bi .gcd (.cons (.var 0) (.cons (.var 1) .nil)))) (.cons (.ifS (.bin .lt (.var 1) (.k (.int (0)))) (.cons (.asg (.name 2) (.un .neg (.var 2))) .nil) .nil) (.cons (.ret (.tup (.cons (.bin .fdiv (.var 0) (.var 2)) (.cons (.bin .fdiv (.var 1) (.var 2)) .nil)))) .nil)))
def d_ratio_of : DD := ⟨"ratio_of", "ratio_of", defArgs (top 13), defBody (top 13), defScope (top 13), [], ["upper", "under", "most"], ["upper", "under"], false, [], m_ratio_of⟩
def m_is_ratio : MSs := (.cons (.ifS (.or_ (.not_ (.call 1 [(.inl 0), (.inl 1)] (.cons (.var 0) (.cons (.k (.int (2))) .nil)))) (.not_ (.call 0 [(.inl 0), (.inl 1), (.inr .non)] (.cons (.bin .ix (.var 0) (.k (.int (1)))) (.cons (.k (.int (1))) .nil))))) (.cons (.ret (.k (.bl false))) .nil) .nil) (.cons (.ifS (.or_ (.not_ (.bi (.isin ["int"]) (.cons (.bin .ix (.var 0) (.k (.int (0)))) .nil))) (.bi (.isin ["bool"]) (.cons (.bin .ix (.var 0) (.k (.int (0)))) .nil))) (.cons (.ret (.k (.bl false))) .nil) .nil) (.cons (.ret (.bin .eq (.bi .gcd (.cons (.bin .ix (.var 0) (.k (.int (0)))) (.cons (.bin .ix (.var 0) (.k (.int (1)))) .nil))) (.k (.int (1))))) .nil)))
def d_is_ratio : DD := ⟨"is_ratio", "is_ratio", defArgs (top 14), defBody (top 14), defScope (top 14), [], ["value"], ["value"], false, [], m_is_ratio⟩
def m_need_fraction : MSs := (.cons (.ifS (.not_ (.call 5 [(.inl 0)] (.cons (.var 0) .nil))) (.cons (.raise 2 (.var 0)) .nil) .nil) (.cons (.ret (.var 0)) .nil))
def d_need_fraction : DD := ⟨"need_fraction", "need_fraction", defArgs (top 15), defBody (top 15), defScope (top 15), [], ["fraction"], ["fraction"], false, [], m_need_fraction⟩
def m_are_ratios : MSs := (.cons (.ret (.and_ (.call 1 [(.inl 0), (.inl 1)] (.cons (.var 0) (.cons (.var 1) .nil))) (.bi .all_ (.cons (.comp false [2, 3] (.name 3) (.of (.var 0)) .none (.call 5 [(.inl 0)] (.cons (.var 3) .nil))) .nil)))) .nil)
def d_are_ratios : DD := ⟨"are_ratios", "are_ratios", defArgs (top 16), defBody (top 16), defScope (top 16), [], ["value", "length", ".0", "one"], ["value", "length"], false, [], m_are_ratios⟩
def m_sum_of_products : MSs := (.cons (.unp [(.name 2), (.name 3)] (.tup (.cons (.k (.int (0))) (.cons (.k (.int (1))) .nil)))) (.cons (.forS (.tup [4, 5]) (.zip (.var 0) (.var 1)) (.cons (.ifS (.and_ (.bin .ne (.bin .ix (.var 4) (.k (.int (0)))) (.k (.int (0)))) (.bin .ne (.bin .ix (.var 5) (.k (.int (0)))) (.k (.int (0))))) (.cons (.asg (.name 6) (.bin .mul (.bin .ix (.var 4) (.k (.int (1)))) (.bin .ix (.var 5) (.k (.int (1)))))) (.cons (.asg (.tup [2, 3]) (.tup (.cons (.bin .add (.bin .mul (.var 2) (.var 6)) (.bin .mul (.bin .mul (.bin .ix (.var 4) (.k (.int (0)))) (.bin .ix (.var 5) (.k (.int (0))))) (.var 3))) (.cons (.bin .mul (.var 3) (.var 6)) .nil)))) .nil)) .nil) .nil)) (.cons (.ret (.call 4 [(.inl 0), (.inl 1)] (.cons (.var 2) (.cons (.var 3) .nil)))) .nil)))
def d_sum_of_products : DD := ⟨"sum_of_products", "sum_of_products", defArgs (top 18), defBody (top 18), defScope (top 18), [], ["row", "other", "upper", "under", "one", "two", "many"], ["row", "other"], false, [], m_sum_of_products⟩
def m_row_times : MSs := (.cons (.asg (.name 2) (.lstR .nil)) (.cons (.forS (.name 3) (.range (.cons (.bi .len (.cons (.var 0) .nil)) .nil)) (.cons (.ex (.app 2 (.call 8 [(.inl 0), (.inl 1)] (.cons (.var 0) (.cons (.comp false [4, 5] (.name 5) (.of (.var 1)) .none (.bin .ix (.var 5) (.var 3))) .nil))))) .nil)) (.cons (.ret (.var 2)) .nil)))
def d_row_times : DD := ⟨"row_times", "row_times", defArgs (top 19), defBody (top 19), defScope (top 19), [], ["row", "matrix", "found", "place", ".0", "line"], ["row", "matrix"], false, ["found"], m_row_times⟩
def m_matrix_times : MSs := (.cons (.ret (.comp false [2, 3] (.name 3) (.of (.var 0)) .none (.call 8 [(.inl 0), (.inl 1)] (.cons (.var 3) (.cons (.var 1) .nil))))) .nil)
def d_matrix_times : DD := ⟨"matrix_times", "matrix_times", defArgs (top 20), defBody (top 20), defScope (top 20), [], ["matrix", "column", ".0", "line"], ["matrix", "column"], false, [], m_matrix_times⟩
def m_is_base : MSs := (.cons (.ret (.call 0 [(.inl 0), (.inl 1), (.inl 2)] (.cons (.var 0) (.cons (.k (.int (2))) (.cons (.k (.int (10))) .nil))))) .nil)
def d_is_base : DD := ⟨"is_base", "is_base", defArgs (top 25), defBody (top 25), defScope (top 25), [], ["value"], ["value"], false, [], m_is_base⟩
def m_need_numbers : MSs := (.cons (.ifS (.or_ (.not_ (.call 2 [(.inl 0), (.inl 1), (.inr .non)] (.cons (.var 0) (.cons (.k (.int (0))) .nil)))) (.bin .ne (.bi .len (.cons (.var 0) .nil)) (.var 1))) (.cons (.raise 0 (.var 0)) .nil) .nil) (.cons (.ret (.var 0)) .nil))
def d_need_numbers : DD := ⟨"need_numbers", "need_numbers", defArgs (top 26), defBody (top 26), defScope (top 26), [], ["values", "length"], ["values", "length"], false, [], m_need_numbers⟩
def m_columns_of : MSs := (.cons (.asg (.tup [2, 3]) (.tup (.cons (.bi .listV (.cons (.var 1) .nil)) (.cons (.lstR .nil) .nil)))) (.cons (.whileS (.bi .any_ (.cons (.comp false [6, 4] (.name 4) (.of (.var 2)) .none (.bin .gt (.var 4) (.k (.int (0))))) .nil)) (.cons (.asg (.name 5) (.k (.int (0)))) (.cons (.forS (.name 4) (.of (.var 2)) (.cons (.asg (.name 5) (.bin .add (.bin .mul (.var 5) (.var 0)) (.bin .mod (.bi .int_ (.cons (.var 4) .nil)) (.var 0)))) .nil)) (.cons (.ex (.app 3 (.var 5))) (.cons (.asg (.name 2) (.comp false [6, 4] (.name 4) (.of (.var 2)) .none (.bin .fdiv (.var 4) (.var 0)))) .nil))))) (.cons (.ret (.var 3)) .nil)))
def d_columns_of : DD := ⟨"columns_of", "columns_of", defArgs (top 27), defBody (top 27), defScope (top 27), [], ["base", "values", "left", "found", "one", "column", ".0"], ["base", "values"], false, ["found"], m_columns_of⟩
def m_has_form : MSs := (.cons (.ifS (.or_ (.not_ (.call 1 [(.inl 0), (.inl 1)] (.cons (.var 0) (.cons (.k (.int (5))) .nil)))) (.or_ (.not_ (.call 11 [(.inl 0)] (.cons (.bin .ix (.var 0) (.k (.int (0)))) .nil))) (.not_ (.call 0 [(.inl 0), (.inl 1), (.inl 2)] (.cons (.bin .ix (.var 0) (.k (.int (1)))) (.cons (.k (.int (0))) (.cons (.k (.int (6))) .nil))))))) (.cons (.ret (.k (.bl false))) .nil) .nil) (.cons (.ifS (.or_ (.not_ (.call 1 [(.inl 0), (.inr .non)] (.cons (.bin .ix (.var 0) (.k (.int (2)))) .nil))) (.not_ (.call 1 [(.inl 0), (.inl 1)] (.cons (.bin .ix (.var 0) (.k (.int (4)))) (.cons (.bi .len (.cons (.bin .ix (.var 0) (.k (.int (2)))) .nil)) .nil))))) (.cons (.ret (.k (.bl false))) .nil) .nil) (.cons (.ret (.call 1 [(.inl 0), (.inl 1)] (.cons (.bin .ix (.var 0) (.k (.int (3)))) (.cons (.call 3 [(.inl 0), (.inl 1)] (.cons (.bin .ix (.var 0) (.k (.int (0)))) (.cons (.bin .ix (.var 0) (.k (.int (1)))) .nil))) .nil)))) .nil)))
def d_has_form : DD := ⟨"has_form", "has_form", defArgs (top 31), defBody (top 31), defScope (top 31), [], ["value"], ["value"], false, [], m_has_form⟩
def m_is_matrix : MSs := (.cons (.ret (.and_ (.call 1 [(.inl 0), (.inl 1)] (.cons (.var 0) (.cons (.var 1) .nil))) (.bi .all_ (.cons (.comp false [2, 3] (.name 3) (.of (.var 0)) .none (.call 7 [(.inl 0), (.inl 1)] (.cons (.var 3) (.cons (.var 1) .nil)))) .nil)))) .nil)
def d_is_matrix : DD := ⟨"is_matrix", "is_matrix", defArgs (top 32), defBody (top 32), defScope (top 32), [], ["value", "dimension", ".0", "line"], ["value", "dimension"], false, [], m_is_matrix⟩
def m_counting_fault : MSs := (.cons (.ifS (.not_ (.call 14 [(.inl 0)] (.cons (.var 0) .nil))) (.cons (.ret (.tup (.cons (.k (.str (Str.ofString "form"))) .nil))) .nil) .nil) (.cons (.asg (.name 1) (.bi .len (.cons (.bin .ix (.var 0) (.k (.int (2)))) .nil))) (.cons (.ifS (.or_ (.bin .gt (.var 1) (.k (.int (40)))) (.bin .gt (.bin .mul (.bin .mul (.var 1) (.var 1)) (.bi .len (.cons (.bin .ix (.var 0) (.k (.int (3)))) .nil))) (.k (.int (20000))))) (.cons (.ret (.tup (.cons (.k (.str (Str.ofString "many"))) .nil))) .nil) .nil) (.cons (.ifS (.not_ (.call 7 [(.inl 0), (.inl 1)] (.cons (.bin .ix (.var 0) (.k (.int (2)))) (.cons (.var 1) .nil)))) (.cons (.ret (.tup (.cons (.k (.str (Str.ofString "first"))) .nil))) .nil) .nil) (.cons (.forS (.tup [2, 3]) (.enum (.bin .ix (.var 0) (.k (.int (3))))) (.cons (.ifS (.not_ (.call 15 [(.inl 0), (.inl 1)] (.cons (.var 3) (.cons (.var 1) .nil)))) (.cons (.ret (.tup (.cons (.var 2) .nil))) .nil) .nil) .nil)) (.cons (.ifS (.not_ (.call 7 [(.inl 0), (.inl 1)] (.cons (.bin .ix (.var 0) (.k (.int (4)))) (.cons (.var 1) .nil)))) (.cons (.ret (.tup (.cons (.k (.str (Str.ofString "last"))) .nil))) .nil) .nil) (.cons (.ifS (.bin .ne (.call 10 [(.inl 0), (.inl 1)] (.cons (.bin .ix (.bin .ix (.var 0) (.k (.int (3)))) (.k (.int (0)))) (.cons (.bin .ix (.var 0) (.k (.int (4)))) .nil))) (.bi .listV (.cons (.bin .ix (.var 0) (.k (.int (4)))) .nil))) (.cons (.ret (.tup (.cons (.k (.str (Str.ofString "zeros"))) .nil))) .nil) .nil) (.cons (.ret (.tup .nil)) .nil))))))))
def d_counting_fault : DD := ⟨"counting_fault", "counting_fault", defArgs (top 33), defBody (top 33), defScope (top 33), [], ["value", "dimension", "place", "matrix"], ["value"], false, [], m_counting_fault⟩
def m_need_counting : MSs := (.cons (.asg (.name 1) (.call 16 [(.inl 0)] (.cons (.var 0) .nil))) (.cons (.ifS (.bin .ne (.var 1) (.tup .nil)) (.cons (.raise 1 (.bin .ix (.var 1) (.k (.int (0))))) .nil) .nil) (.cons (.ret (.var 0)) .nil)))
def d_need_counting : DD := ⟨"need_counting", "need_counting", defArgs (top 34), defBody (top 34), defScope (top 34), [], ["counting", "fault"], ["counting"], false, [], m_need_counting⟩
def m_value_of : MSs := (.cons (.ex (.call 17 [(.inl 0)] (.cons (.var 0) .nil))) (.cons (.ex (.call 12 [(.inl 0), (.inl 1)] (.cons (.var 1) (.cons (.bin .ix (.var 0) (.k (.int (1)))) .nil)))) (.cons (.asg (.name 2) (.call 13 [(.inl 0), (.inl 1)] (.cons (.bin .ix (.var 0) (.k (.int (0)))) (.cons (.var 1) .nil)))) (.cons (.ifS (.bin .gt (.bin .mul (.bin .mul (.bi .len (.cons (.bin .ix (.var 0) (.k (.int (2)))) .nil)) (.bi .len (.cons (.bin .ix (.var 0) (.k (.int (2)))) .nil))) (.bi .len (.cons (.var 2) .nil))) (.k (.int (100000)))) (.cons (.raise 3 (.k (.int (100000)))) .nil) .nil) (.cons (.asg (.name 3) (.bin .ix (.var 0) (.k (.int (2))))) (.cons (.forS (.name 4) (.of (.var 2)) (.cons (.asg (.name 3) (.call 9 [(.inl 0), (.inl 1)] (.cons (.var 3) (.cons (.bin .ix (.bin .ix (.var 0) (.k (.int (3)))) (.var 4)) .nil)))) .nil)) (.cons (.ret (.call 8 [(.inl 0), (.inl 1)] (.cons (.var 3) (.cons (.bin .ix (.var 0) (.k (.int (4)))) .nil)))) .nil)))))))
def d_value_of : DD := ⟨"value_of", "value_of", defArgs (top 35), defBody (top 35), defScope (top 35), [], ["counting", "values", "columns", "row", "column"], ["counting", "values"], false, [], m_value_of⟩
def m__law_mixed : MSs := (.cons (.asg (.name 2) (.bin .add (.bin .add (.bin .mod (.bi .int_ (.cons (.bin .mul (.bin .mul (.var 0) (.bin .add (.k (.int (1))) (.bin .mul (.k (.int (2))) (.var 1)))) (.k (.int (48271)))) .nil)) (.k (.int (2147483647)))) (.bin .mul (.bin .mul (.k (.int (7919))) (.var 1)) (.var 1))) (.bin .mul (.k (.int (104729))) (.var 1)))) (.cons (.ret (.bin .fdiv (.bin .mod (.bi .int_ (.cons (.bin .mul (.var 2) (.k (.int (69621)))) .nil)) (.k (.int (2147483629)))) (.k (.int (7))))) .nil))
def d__law_mixed : DD := ⟨"_law_mixed", "_law_mixed", defArgs (top 37), defBody (top 37), defScope (top 37), [], ["cell", "n", "blend"], ["cell", "n"], false, [], m__law_mixed⟩
def m__law_folded : MSs := (.cons (.asg (.name 2) (.comp true [4, 1] (.name 1) (.range (.cons (.k (.int (64))) .nil)) .none (.bin .add (.k (.int (17))) (.var 1)))) (.cons (.forS (.tup [1, 3]) (.enum (.var 0)) (.cons (.setix (.var 2) (.bin .mod (.bi .int_ (.cons (.var 1) .nil)) (.k (.int (64)))) (.bin .mod (.bi .int_ (.cons (.bin .add (.bin .mul (.bin .ix (.var 2) (.bin .mod (.bi .int_ (.cons (.var 1) .nil)) (.k (.int (64))))) (.k (.int (48271)))) (.var 3)) .nil)) (.k (.int (2147483647))))) .nil)) (.cons (.forS (.name 1) (.range (.cons (.k (.int (1))) (.cons (.k (.int (64))) .nil))) (.cons (.setix (.var 2) (.var 1) (.bin .mod (.bi .int_ (.cons (.bin .add (.bin .ix (.var 2) (.var 1)) (.bin .mul (.bin .ix (.var 2) (.bin .sub (.var 1) (.k (.int (1))))) (.k (.int (16807))))) .nil)) (.k (.int (2147483647))))) .nil)) (.cons (.ret (.var 2)) .nil))))
def d__law_folded : DD := ⟨"_law_folded", "_law_folded", defArgs (top 38), defBody (top 38), defScope (top 38), [], ["script", "n", "found", "cell", ".0"], ["script"], false, ["found"], m__law_folded⟩
def m__law_draw : MSs := (.cons (.asg (.name 2) (.bin .ix (.var 0) (.k (.str (Str.ofString "spot"))))) (.cons (.setix (.var 0) (.k (.str (Str.ofString "spot"))) (.bin .add (.var 2) (.k (.int (1))))) (.cons (.ifS (.bin .ne (.bin .ix (.var 0) (.k (.str (Str.ofString "great")))) (.lst .nil)) (.cons (.asg (.name 3) (.bin .ix (.var 0) (.k (.str (Str.ofString "great"))))) (.cons (.asg (.name 4) (.bin .mod (.bi .int_ (.cons (.var 2) .nil)) (.bi .len (.cons (.var 3) .nil)))) (.cons (.asg (.name 5) (.bin .ix (.var 3) (.var 4))) (.cons (.ifS (.bin .gt (.var 5) (.k (.int (0)))) (.cons (.setix (.var 3) (.var 4) (.bin .fdiv (.var 5) (.var 1))) (.cons (.ret (.bin .mod (.bi .int_ (.cons (.var 5) .nil)) (.var 1))) .nil)) .nil) .nil)))) .nil) (.cons (.asg (.name 3) (.bin .ix (.var 0) (.k (.str (Str.ofString "cells"))))) (.cons (.ret (.bin .mod (.bi .int_ (.cons (.call 19 [(.inl 0), (.inl 1)] (.cons (.call 19 [(.inl 0), (.inl 1)] (.cons (.bin .add (.bin .ix (.var 3) (.bin .mod (.bi .int_ (.cons (.var 2) .nil)) (.k (.int (64))))) (.bin .mul (.k (.int (31))) (.bin .fdiv (.var 2) (.k (.int (64)))))) (.cons (.var 2) .nil))) (.cons (.bin .add (.var 2) (.k (.int (7)))) .nil))) .nil)) (.var 1))) .nil)))))
def d__law_draw : DD := ⟨"_law_draw", "_law_draw", defArgs (top 39), defBody (top 39), defScope (top 39), [], ["m", "limit", "n", "lot", "here", "cell"], ["m", "limit"], false, [], m__law_draw⟩
def m__law_begun : MSs := (.cons (.asg (.name 1) (.dctR [(.inr (Str.ofString "cells")), (.inr (Str.ofString "great")), (.inr (Str.ofString "spot"))] (.cons (.call 20 [(.inl 0)] (.cons (.var 0) .nil)) (.cons (.lst .nil) (.cons (.k (.int (0))) .nil))))) (.cons (.setix (.var 1) (.k (.str (Str.ofString "great"))) (.comp true [2, 3] (.name 3) (.of (.var 0)) .none (.ite (.bin .ge (.var 3) (.bin .pow (.k (.int (10))) (.k (.int (18))))) (.var 3) (.k (.int (0)))))) (.cons (.ret (.var 1)) .nil)))
def d__law_begun : DD := ⟨"_law_begun", "_law_begun", defArgs (top 40), defBody (top 40), defScope (top 40), [], ["script", "m", ".0", "cell"], ["script"], true, [], m__law_begun⟩
def m__law_of : MSs := (.cons (.ret (.bin .ix (.var 1) (.call 21 [(.inl 0), (.inl 1)] (.cons (.var 0) (.cons (.bi .len (.cons (.var 1) .nil)) .nil))))) .nil)
def d__law_of : DD := ⟨"_law_of", "_law_of", defArgs (top 41), defBody (top 41), defScope (top 41), [], ["m", "some"], ["m", "some"], false, [], m__law_of⟩
def m__law_like : MSs := (.cons (.ifS (.un .isN (.var 1)) (.cons (.ret (.un .isN (.var 0))) .nil) .nil) (.cons (.ifS (.bi (.isin ["bool"]) (.cons (.var 1) .nil)) (.cons (.ret (.and_ (.bi (.isin ["bool"]) (.cons (.var 0) .nil)) (.bin .eq (.var 0) (.var 1)))) .nil) .nil) (.cons (.ifS (.bi (.isin ["int"]) (.cons (.var 1) .nil)) (.cons (.ret (.and_ (.bi (.isin ["int"]) (.cons (.var 0) .nil)) (.and_ (.not_ (.bi (.isin ["bool"]) (.cons (.var 0) .nil))) (.bin .eq (.var 0) (.var 1))))) .nil) .nil) (.cons (.ifS (.bi (.isin ["str"]) (.cons (.var 1) .nil)) (.cons (.ret (.and_ (.bi (.isin ["str"]) (.cons (.var 0) .nil)) (.bin .eq (.var 0) (.var 1)))) .nil) .nil) (.cons (.ifS (.or_ (.and_ (.bi (.isin ["tuple"]) (.cons (.var 1) .nil)) (.not_ (.bi (.isin ["tuple"]) (.cons (.var 0) .nil)))) (.and_ (.bi (.isin ["list"]) (.cons (.var 1) .nil)) (.not_ (.bi (.isin ["list"]) (.cons (.var 0) .nil))))) (.cons (.ret (.k (.bl false))) .nil) .nil) (.cons (.ifS (.bin .ne (.bi .len (.cons (.var 0) .nil)) (.bi .len (.cons (.var 1) .nil))) (.cons (.ret (.k (.bl false))) .nil) .nil) (.cons (.forS (.name 2) (.range (.cons (.bi .len (.cons (.var 1) .nil)) .nil)) (.cons (.ifS (.not_ (.call 24 [(.inl 0), (.inl 1)] (.cons (.bin .ix (.var 0) (.var 2)) (.cons (.bin .ix (.var 1) (.var 2)) .nil)))) (.cons (.ret (.k (.bl false))) .nil) .nil) .nil)) (.cons (.ret (.k (.bl true))) .nil))))))))
def d__law_like : DD := ⟨"_law_like", "_law_like", defArgs (top 42), defBody (top 42), defScope (top 42), [], ["got", "due", "n"], ["got", "due"], false, [], m__law_like⟩
def m__law_power : MSs := (.cons (.asg (.name 2) (.k (.int (1)))) (.cons (.forS (.name 3) (.range (.cons (.var 1) .nil)) (.cons (.asg (.name 2) (.bin .mul (.var 2) (.var 0))) .nil)) (.cons (.ret (.var 2)) .nil)))
def d__law_power : DD := ⟨"_law_power", "_law_power", defArgs (top 43), defBody (top 43), defScope (top 43), [], ["base", "times", "found", "turn"], ["base", "times"], false, [], m__law_power⟩
def m__law_columns : MSs := (.cons (.asg (.tup [2, 3]) (.tup (.cons (.bi .listV (.cons (.var 1) .nil)) (.cons (.lstR .nil) .nil)))) (.cons (.whileS (.bin .ne (.comp false [6, 4] (.name 4) (.of (.var 2)) (.some (.bin .gt (.var 4) (.k (.int (0))))) (.k (.int (1)))) (.lst .nil)) (.cons (.asg (.name 5) (.k (.int (0)))) (.cons (.forS (.name 4) (.of (.var 2)) (.cons (.asg (.name 5) (.bin .add (.bin .mul (.var 5) (.var 0)) (.bin .mod (.bi .int_ (.cons (.var 4) .nil)) (.var 0)))) .nil)) (.cons (.ex (.app 3 (.var 5))) (.cons (.asg (.name 2) (.comp false [6, 4] (.name 4) (.of (.var 2)) .none (.bin .fdiv (.var 4) (.var 0)))) .nil))))) (.cons (.ret (.var 3)) .nil)))
def d__law_columns : DD := ⟨"_law_columns", "_law_columns", defArgs (top 44), defBody (top 44), defScope (top 44), [], ["base", "values", "left", "found", "one", "column", ".0"], ["base", "values"], false, ["found"], m__law_columns⟩
def m__law_gcd : MSs := (.cons (.whileS (.bin .ne (.var 1) (.k (.int (0)))) (.cons (.asg (.tup [0, 1]) (.tup (.cons (.var 1) (.cons (.bin .mod (.bi .int_ (.cons (.var 0) .nil)) (.var 1)) .nil)))) .nil)) (.cons (.ret (.bi .abs_ (.cons (.var 0) .nil))) .nil))
def d__law_gcd : DD := ⟨"_law_gcd", "_law_gcd", defArgs (top 45), defBody (top 45), defScope (top 45), [], ["one", "other"], ["one", "other"], false, [], m__law_gcd⟩
def m__law_ratio : MSs := (.cons (.asg (.name 2) (.call 27 [(.inl 0), (.inl 1)] (.cons (.var 0) (.cons (.var 1) .nil)))) (.cons (.ifS (.bin .lt (.var 1) (.k (.int (0)))) (.cons (.asg (.name 2) (.bin .sub (.k (.int (0))) (.var 2))) .nil) .nil) (.cons (.ret (.tup (.cons (.bin .fdiv (.var 0) (.var 2)) (.cons (.bin .fdiv (.var 1) (.var 2)) .nil)))) .nil)))
def d__law_ratio : DD := ⟨"_law_ratio", "_law_ratio", defArgs (top 46), defBody (top 46), defScope (top 46), [], ["upper", "under", "most"], ["upper", "under"], false, [], m__law_ratio⟩
def m__law_plus : MSs := (.cons (.ret (.call 28 [(.inl 0), (.inl 1)] (.cons (.bin .add (.bin .mul (.bin .ix (.var 0) (.k (.int (0)))) (.bin .ix (.var 1) (.k (.int (1))))) (.bin .mul (.bin .ix (.var 1) (.k (.int (0)))) (.bin .ix (.var 0) (.k (.int (1)))))) (.cons (.bin .mul (.bin .ix (.var 0) (.k (.int (1)))) (.bin .ix (.var 1) (.k (.int (1))))) .nil)))) .nil)
def d__law_plus : DD := ⟨"_law_plus", "_law_plus", defArgs (top 47), defBody (top 47), defScope (top 47), [], ["one", "other"], ["one", "other"], false, [], m__law_plus⟩
def m__law_mult : MSs := (.cons (.ret (.call 28 [(.inl 0), (.inl 1)] (.cons (.bin .mul (.bin .ix (.var 0) (.k (.int (0)))) (.bin .ix (.var 1) (.k (.int (0))))) (.cons (.bin .mul (.bin .ix (.var 0) (.k (.int (1)))) (.bin .ix (.var 1) (.k (.int (1))))) .nil)))) .nil)
def d__law_mult : DD := ⟨"_law_mult", "_law_mult", defArgs (top 48), defBody (top 48), defScope (top 48), [], ["one", "other"], ["one", "other"], false, [], m__law_mult⟩
def m__law_dot : MSs := (.cons (.asg (.name 2) (.tup (.cons (.k (.int (0))) (.cons (.k (.int (1))) .nil)))) (.cons (.forS (.tup [3, 4]) (.zip (.var 0) (.var 1)) (.cons (.ifS (.and_ (.bin .ne (.bin .ix (.var 3) (.k (.int (0)))) (.k (.int (0)))) (.bin .ne (.bin .ix (.var 4) (.k (.int (0)))) (.k (.int (0))))) (.cons (.asg (.name 2) (.call 29 [(.inl 0), (.inl 1)] (.cons (.var 2) (.cons (.call 30 [(.inl 0), (.inl 1)] (.cons (.var 3) (.cons (.var 4) .nil))) .nil)))) .nil) .nil) .nil)) (.cons (.ret (.var 2)) .nil)))
def d__law_dot : DD := ⟨"_law_dot", "_law_dot", defArgs (top 49), defBody (top 49), defScope (top 49), [], ["row", "other", "found", "one", "two"], ["row", "other"], false, [], m__law_dot⟩
def m__law_along : MSs := (.cons (.ret (.comp false [2, 3] (.name 3) (.range (.cons (.bi .len (.cons (.var 0) .nil)) .nil)) .none (.call 31 [(.inl 0), (.inl 1)] (.cons (.var 0) (.cons (.comp false [2, 4] (.name 4) (.of (.var 1)) .none (.bin .ix (.var 4) (.var 3))) .nil))))) .nil)
def d__law_along : DD := ⟨"_law_along", "_law_along", defArgs (top 50), defBody (top 50), defScope (top 50), [], ["row", "matrix", ".0", "place", "line"], ["row", "matrix"], false, [], m__law_along⟩
def m__law_worth : MSs := (.cons (.asg (.name 2) (.bin .ix (.var 0) (.k (.int (2))))) (.cons (.forS (.name 3) (.of (.call 26 [(.inl 0), (.inl 1)] (.cons (.bin .ix (.var 0) (.k (.int (0)))) (.cons (.var 1) .nil)))) (.cons (.asg (.name 2) (.call 32 [(.inl 0), (.inl 1)] (.cons (.var 2) (.cons (.bin .ix (.bin .ix (.var 0) (.k (.int (3)))) (.var 3)) .nil)))) .nil)) (.cons (.ret (.call 31 [(.inl 0), (.inl 1)] (.cons (.var 2) (.cons (.bin .ix (.var 0) (.k (.int (4)))) .nil)))) .nil)))
def d__law_worth : DD := ⟨"_law_worth", "_law_worth", defArgs (top 51), defBody (top 51), defScope (top 51), [], ["counting", "values", "row", "column"], ["counting", "values"], false, [], m__law_worth⟩
def m__law_fraction : MSs := (.cons (.asg (.name 1) (.call 21 [(.inl 0), (.inl 1)] (.cons (.var 0) (.cons (.k (.int (6))) .nil)))) (.cons (.ifS (.bin .lt (.var 1) (.k (.int (2)))) (.cons (.ret (.tup (.cons (.k (.int (0))) (.cons (.k (.int (1))) .nil)))) .nil) .nil) (.cons (.ifS (.bin .lt (.var 1) (.k (.int (5)))) (.cons (.ret (.tup (.cons (.bin .sub (.call 21 [(.inl 0), (.inl 1)] (.cons (.var 0) (.cons (.k (.int (5))) .nil))) (.k (.int (2)))) (.cons (.k (.int (1))) .nil)))) .nil) .nil) (.cons (.ret (.call 28 [(.inl 0), (.inl 1)] (.cons (.bin .sub (.call 21 [(.inl 0), (.inl 1)] (.cons (.var 0) (.cons (.k (.int (13))) .nil))) (.k (.int (6)))) (.cons (.bin .add (.k (.int (1))) (.call 21 [(.inl 0), (.inl 1)] (.cons (.var 0) (.cons (.k (.int (6))) .nil)))) .nil)))) .nil))))
def d__law_fraction : DD := ⟨"_law_fraction", "_law_fraction", defArgs (top 52), defBody (top 52), defScope (top 52), [], ["m", "pick"], ["m"], false, [], m__law_fraction⟩
def m__law_proofed : MSs := (.cons (.asg (.name 3) (.comp false [10, 2, 11] (.tup [2, 11]) (.enum (.var 1)) (.some (.bin .ne (.bin .ix (.var 11) (.k (.int (0)))) (.k (.int (0))))) (.var 2))) (.cons (.ifS (.bin .eq (.var 3) (.lst .nil)) (.cons (.ret (.bi .tuple_ (.cons (.comp false [10, 4] (.name 4) (.of (.var 0)) .none (.bi .tuple_ (.cons (.var 4) .nil))) .nil))) .nil) .nil) (.cons (.unp [(.name 5), (.name 6)] (.tup (.cons (.bin .ix (.var 3) (.k (.int (0)))) (.cons (.lstR .nil) .nil)))) (.cons (.forS (.tup [2, 4]) (.enum (.var 0)) (.cons (.asg (.name 7) (.comp true [10, 12, 11] (.tup [12, 11]) (.enum (.var 4)) .none (.ite (.bin .eq (.var 12) (.var 5)) (.tup (.cons (.k (.int (0))) (.cons (.k (.int (1))) .nil))) (.var 11)))) (.cons (.asg (.name 8) (.call 31 [(.inl 0), (.inl 1)] (.cons (.var 7) (.cons (.var 1) .nil)))) (.cons (.asg (.name 9) (.call 29 [(.inl 0), (.inl 1)] (.cons (.bin .ix (.var 1) (.var 2)) (.cons (.tup (.cons (.bin .sub (.k (.int (0))) (.bin .ix (.var 8) (.k (.int (0))))) (.cons (.bin .ix (.var 8) (.k (.int (1)))) .nil))) .nil)))) (.cons (.setix (.var 7) (.var 5) (.call 30 [(.inl 0), (.inl 1)] (.cons (.var 9) (.cons (.call 28 [(.inl 0), (.inl 1)] (.cons (.bin .ix (.bin .ix (.var 1) (.var 5)) (.k (.int (1)))) (.cons (.bin .ix (.bin .ix (.var 1) (.var 5)) (.k (.int (0)))) .nil))) .nil)))) (.cons (.ex (.app 6 (.bi .tuple_ (.cons (.var 7) .nil)))) .nil)))))) (.cons (.ret (.bi .tuple_ (.cons (.var 6) .nil))) .nil)))))
def d__law_proofed : DD := ⟨"_law_proofed", "_law_proofed", defArgs (top 53), defBody (top 53), defScope (top 53), [], ["matrix", "last", "place", "spots", "line", "spot", "found", "rest", "told", "need", ".0", "one", "n"], ["matrix", "last"], false, ["rest", "found"], m__law_proofed⟩
def m__law_counting : MSs := (.cons (.asg (.name 4) (.comp false [10, 11] (.name 11) (.range (.cons (.var 3) .nil)) .none (.call 34 [(.inl 0)] (.cons (.var 0) .nil)))) (.cons (.asg (.name 5) (.bi .tuple_ (.cons (.comp false [10, 11] (.name 11) (.range (.cons (.var 3) .nil)) .none (.call 34 [(.inl 0)] (.cons (.var 0) .nil))) .nil))) (.cons (.asg (.tup [6, 7]) (.tup (.cons (.call 21 [(.inl 0), (.inl 1)] (.cons (.var 0) (.cons (.k (.int (3))) .nil))) (.cons (.lstR .nil) .nil)))) (.cons (.forS (.name 8) (.range (.cons (.call 25 [(.inl 0), (.inl 1)] (.cons (.var 1) (.cons (.var 2) .nil))) .nil)) (.cons (.asg (.name 9) (.comp false [10, 12] (.name 12) (.range (.cons (.var 3) .nil)) .none (.comp false [10, 11] (.name 11) (.range (.cons (.var 3) .nil)) .none (.call 34 [(.inl 0)] (.cons (.var 0) .nil))))) (.cons (.ifS (.bin .eq (.var 6) (.k (.int (0)))) (.cons (.asg (.name 9) (.comp false [10, 12] (.name 12) (.of (.var 9)) .none (.comp false [10, 13] (.name 13) (.of (.var 12)) .none (.ite (.bin .eq (.call 21 [(.inl 0), (.inl 1)] (.cons (.var 0) (.cons (.k (.int (2))) .nil))) (.k (.int (0)))) (.var 13) (.tup (.cons (.k (.int (0))) (.cons (.k (.int (1))) .nil))))))) .nil) .nil) (.cons (.ex (.app 7 (.ite (.bin .eq (.var 8) (.k (.int (0)))) (.call 35 [(.inl 0), (.inl 1)] (.cons (.var 9) (.cons (.var 4) .nil))) (.bi .tuple_ (.cons (.comp false [10, 12] (.name 12) (.of (.var 9)) .none (.bi .tuple_ (.cons (.var 12) .nil))) .nil))))) .nil)))) (.cons (.ret (.tup (.cons (.var 1) (.cons (.var 2) (.cons (.var 5) (.cons (.bi .tuple_ (.cons (.var 7) .nil)) (.cons (.bi .tuple_ (.cons (.var 4) .nil)) .nil))))))) .nil)))))
def d__law_counting : DD := ⟨"_law_counting", "_law_counting", defArgs (top 54), defBody (top 54), defScope (top 54), [], ["m", "base", "tracks", "dimension", "last", "first", "thin", "matrices", "column", "matrix", ".0", "place", "line", "one"], ["m", "base", "tracks", "dimension"], false, ["matrices"], m__law_counting⟩
def m__law_whole : MSs := (.cons (.ret (.and_ (.bi (.isin ["int"]) (.cons (.var 0) .nil)) (.and_ (.not_ (.bi (.isin ["bool"]) (.cons (.var 0) .nil))) (.and_ (.bin .le (.var 1) (.var 0)) (.bin .le (.var 0) (.var 2)))))) .nil)
def d__law_whole : DD := ⟨"_law_whole", "_law_whole", defArgs (top 55), defBody (top 55), defScope (top 55), [], ["one", "least", "most"], ["one", "least", "most"], false, [], m__law_whole⟩
def m__law_is_fraction : MSs := (.cons (.ifS (.or_ (.not_ (.bi (.isin ["tuple"]) (.cons (.var 0) .nil))) (.bin .ne (.bi .len (.cons (.var 0) .nil)) (.k (.int (2))))) (.cons (.ret (.k (.bl false))) .nil) .nil) (.cons (.ifS (.or_ (.not_ (.call 37 [(.inl 0), (.inl 1), (.inl 2)] (.cons (.bin .ix (.var 0) (.k (.int (0)))) (.cons (.bin .sub (.k (.int (0))) (.bin .pow (.k (.int (10))) (.k (.int (40))))) (.cons (.bin .pow (.k (.int (10))) (.k (.int (40)))) .nil))))) (.not_ (.call 37 [(.inl 0), (.inl 1), (.inl 2)] (.cons (.bin .ix (.var 0) (.k (.int (1)))) (.cons (.k (.int (1))) (.cons (.bin .pow (.k (.int (10))) (.k (.int (40)))) .nil)))))) (.cons (.ret (.k (.bl false))) .nil) .nil) (.cons (.ret (.bin .eq (.call 27 [(.inl 0), (.inl 1)] (.cons (.bin .ix (.var 0) (.k (.int (0)))) (.cons (.bin .ix (.var 0) (.k (.int (1)))) .nil))) (.k (.int (1))))) .nil)))
def d__law_is_fraction : DD := ⟨"_law_is_fraction", "_law_is_fraction", defArgs (top 56), defBody (top 56), defScope (top 56), [], ["one"], ["one"], false, [], m__law_is_fraction⟩
def m__law_are_fractions : MSs := (.cons (.ifS (.or_ (.not_ (.bi (.isin ["tuple"]) (.cons (.var 0) .nil))) (.bin .ne (.bi .len (.cons (.var 0) .nil)) (.var 1))) (.cons (.ret (.k (.bl false))) .nil) .nil) (.cons (.ret (.bin .eq (.comp false [2, 3] (.name 3) (.of (.var 0)) (.some (.not_ (.call 38 [(.inl 0)] (.cons (.var 3) .nil)))) (.k (.int (1)))) (.lst .nil))) .nil))
def d__law_are_fractions : DD := ⟨"_law_are_fractions", "_law_are_fractions", defArgs (top 57), defBody (top 57), defScope (top 57), [], ["row", "length", ".0", "one"], ["row", "length"], false, [], m__law_are_fractions⟩
def m__law_formless : MSs := (.cons (.ifS (.or_ (.not_ (.bi (.isin ["tuple"]) (.cons (.var 0) .nil))) (.bin .ne (.bi .len (.cons (.var 0) .nil)) (.k (.int (5))))) (.cons (.ret (.k (.bl true))) .nil) .nil) (.cons (.ifS (.or_ (.not_ (.call 37 [(.inl 0), (.inl 1), (.inl 2)] (.cons (.bin .ix (.var 0) (.k (.int (0)))) (.cons (.k (.int (2))) (.cons (.k (.int (10))) .nil))))) (.not_ (.call 37 [(.inl 0), (.inl 1), (.inl 2)] (.cons (.bin .ix (.var 0) (.k (.int (1)))) (.cons (.k (.int (0))) (.cons (.k (.int (6))) .nil)))))) (.cons (.ret (.k (.bl true))) .nil) .nil) (.cons (.ifS (.or_ (.not_ (.bi (.isin ["tuple"]) (.cons (.bin .ix (.var 0) (.k (.int (2)))) .nil))) (.or_ (.not_ (.bi (.isin ["tuple"]) (.cons (.bin .ix (.var 0) (.k (.int (3)))) .nil))) (.not_ (.bi (.isin ["tuple"]) (.cons (.bin .ix (.var 0) (.k (.int (4)))) .nil))))) (.cons (.ret (.k (.bl true))) .nil) .nil) (.cons (.ret (.or_ (.bin .ne (.bi .len (.cons (.bin .ix (.var 0) (.k (.int (2)))) .nil)) (.bi .len (.cons (.bin .ix (.var 0) (.k (.int (4)))) .nil))) (.bin .ne (.bi .len (.cons (.bin .ix (.var 0) (.k (.int (3)))) .nil)) (.call 25 [(.inl 0), (.inl 1)] (.cons (.bin .ix (.var 0) (.k (.int (0)))) (.cons (.bin .ix (.var 0) (.k (.int (1)))) .nil)))))) .nil))))
def d__law_formless : DD := ⟨"_law_formless", "_law_formless", defArgs (top 58), defBody (top 58), defScope (top 58), [], ["value"], ["value"], false, [], m__law_formless⟩
def m__law_fault : MSs := (.cons (.ifS (.call 40 [(.inl 0)] (.cons (.var 0) .nil)) (.cons (.ret (.k (.str (Str.ofString "form")))) .nil) .nil) (.cons (.asg (.name 1) (.bi .len (.cons (.bin .ix (.var 0) (.k (.int (2)))) .nil))) (.cons (.ifS (.or_ (.bin .gt (.var 1) (.k (.int (40)))) (.bin .gt (.bin .mul (.bin .mul (.var 1) (.var 1)) (.bi .len (.cons (.bin .ix (.var 0) (.k (.int (3)))) .nil))) (.k (.int (20000))))) (.cons (.ret (.k (.str (Str.ofString "many")))) .nil) .nil) (.cons (.ifS (.not_ (.call 39 [(.inl 0), (.inl 1)] (.cons (.bin .ix (.var 0) (.k (.int (2)))) (.cons (.var 1) .nil)))) (.cons (.ret (.k (.str (Str.ofString "first")))) .nil) .nil) (.cons (.forS (.tup [2, 3]) (.enum (.bin .ix (.var 0) (.k (.int (3))))) (.cons (.ifS (.or_ (.not_ (.bi (.isin ["tuple"]) (.cons (.var 3) .nil))) (.bin .ne (.bi .len (.cons (.var 3) .nil)) (.var 1))) (.cons (.ret (.var 2)) .nil) .nil) (.cons (.ifS (.bin .ne (.comp false [5, 4] (.name 4) (.of (.var 3)) (.some (.not_ (.call 39 [(.inl 0), (.inl 1)] (.cons (.var 4) (.cons (.var 1) .nil))))) (.k (.int (1)))) (.lst .nil)) (.cons (.ret (.var 2)) .nil) .nil) .nil))) (.cons (.ifS (.not_ (.call 39 [(.inl 0), (.inl 1)] (.cons (.bin .ix (.var 0) (.k (.int (4)))) (.cons (.var 1) .nil)))) (.cons (.ret (.k (.str (Str.ofString "last")))) .nil) .nil) (.cons (.forS (.tup [2, 4]) (.enum (.bin .ix (.bin .ix (.var 0) (.k (.int (3)))) (.k (.int (0))))) (.cons (.ifS (.bin .ne (.call 31 [(.inl 0), (.inl 1)] (.cons (.var 4) (.cons (.bin .ix (.var 0) (.k (.int (4)))) .nil))) (.bin .ix (.bin .ix (.var 0) (.k (.int (4)))) (.var 2))) (.cons (.ret (.k (.str (Str.ofString "zeros")))) .nil) .nil) .nil)) (.cons (.ret (.k .non)) .nil))))))))
def d__law_fault : DD := ⟨"_law_fault", "_law_fault", defArgs (top 59), defBody (top 59), defScope (top 59), [], ["value", "many", "place", "matrix", "line", ".0"], ["value"], false, [], m__law_fault⟩
def m__law_odd : MSs := (.cons (.asg (.name 1) (.lst (.cons (.tup (.cons (.k (.int (2))) (.cons (.k (.int (4))) .nil))) (.cons (.tup (.cons (.k (.int (0))) (.cons (.k (.int (2))) .nil))) (.cons (.tup (.cons (.k (.int (1))) (.cons (.k (.int (0))) .nil))) (.cons (.tup (.cons (.k (.int (1))) (.cons (.un .neg (.k (.int (2)))) .nil))) (.cons (.tup (.cons (.k (.bl true)) (.cons (.k (.int (1))) .nil))) (.cons (.tup (.cons (.k (.int (1))) (.cons (.k (.bl true)) .nil))) (.cons (.k (.int (3))) (.cons (.lst (.cons (.k (.int (1))) (.cons (.k (.int (2))) .nil))) .nil)))))))))) (.cons (.ret (.call 23 [(.inl 0), (.inl 1)] (.cons (.var 0) (.cons (.bin .add (.var 1) (.lst (.cons (.tup (.cons (.k (.int (1))) .nil)) (.cons (.tup (.cons (.k (.int (1))) (.cons (.k (.int (2))) (.cons (.k (.int (3))) .nil)))) (.cons (.k .non) (.cons (.tup (.cons (.k .non) (.cons (.k (.int (1))) .nil))) (.cons (.tup (.cons (.un .neg (.k (.int (6)))) (.cons (.k (.int (3))) .nil))) (.cons (.tup (.cons (.tup (.cons (.k (.int (1))) (.cons (.k (.int (1))) .nil))) (.cons (.k (.int (1))) .nil))) .nil)))))))) .nil)))) .nil))
def d__law_odd : DD := ⟨"_law_odd", "_law_odd", defArgs (top 60), defBody (top 60), defScope (top 60), [], ["m", "odd"], ["m"], false, [], m__law_odd⟩
def m__law_put : MSs := (.cons (.ret (.bin .add (.bin .add (.bi .tuple_ (.cons (.slice (.var 0) .none (.some (.var 1))) .nil)) (.tup (.cons (.var 2) .nil))) (.bi .tuple_ (.cons (.slice (.var 0) (.some (.bin .add (.var 1) (.k (.int (1))))) .none) .nil)))) .nil)
def d__law_put : DD := ⟨"_law_put", "_law_put", defArgs (top 61), defBody (top 61), defScope (top 61), [], ["row", "place", "one"], ["row", "place", "one"], false, [], m__law_put⟩
def m__law_row_spoilt : MSs := (.cons (.asg (.name 2) (.call 21 [(.inl 0), (.inl 1)] (.cons (.var 0) (.cons (.k (.int (6))) .nil)))) (.cons (.ifS (.bin .eq (.var 2) (.k (.int (0)))) (.cons (.ret (.bi .listV (.cons (.var 1) .nil))) .nil) .nil) (.cons (.ifS (.bin .eq (.var 2) (.k (.int (1)))) (.cons (.ret (.bin .add (.var 1) (.tup (.cons (.tup (.cons (.k (.int (0))) (.cons (.k (.int (1))) .nil))) .nil)))) .nil) .nil) (.cons (.ifS (.or_ (.bin .eq (.var 1) (.tup .nil)) (.bin .eq (.var 2) (.k (.int (2))))) (.cons (.ret (.call 23 [(.inl 0), (.inl 1)] (.cons (.var 0) (.cons (.lst (.cons (.k .non) (.cons (.bin .add (.tup (.cons (.k .non) .nil)) (.var 1)) (.cons (.bin .add (.slice (.var 1) (.some (.k (.int (1)))) .none) (.tup (.cons (.k (.int (7))) (.cons (.k (.int (8))) .nil)))) .nil)))) .nil)))) .nil) .nil) (.cons (.asg (.name 3) (.call 21 [(.inl 0), (.inl 1)] (.cons (.var 0) (.cons (.bi .len (.cons (.var 1) .nil)) .nil)))) (.cons (.ret (.call 43 [(.inl 0), (.inl 1), (.inl 2)] (.cons (.var 1) (.cons (.var 3) (.cons (.ite (.bin .lt (.var 2) (.k (.int (5)))) (.call 42 [(.inl 0)] (.cons (.var 0) .nil)) (.call 34 [(.inl 0)] (.cons (.var 0) .nil))) .nil))))) .nil))))))
def d__law_row_spoilt : DD := ⟨"_law_row_spoilt", "_law_row_spoilt", defArgs (top 62), defBody (top 62), defScope (top 62), [], ["m", "row", "pick", "place"], ["m", "row"], false, [], m__law_row_spoilt⟩
def m__law_matrix_spoilt : MSs := (.cons (.asg (.name 2) (.call 21 [(.inl 0), (.inl 1)] (.cons (.var 0) (.cons (.k (.int (5))) .nil)))) (.cons (.ifS (.or_ (.bin .eq (.var 1) (.tup .nil)) (.bin .eq (.var 2) (.k (.int (0))))) (.cons (.ret (.call 23 [(.inl 0), (.inl 1)] (.cons (.var 0) (.cons (.lst (.cons (.k .non) (.cons (.bi .listV (.cons (.var 1) .nil)) (.cons (.bin .add (.var 1) (.tup (.cons (.tup .nil) .nil))) .nil)))) .nil)))) .nil) .nil) (.cons (.ifS (.bin .eq (.var 2) (.k (.int (1)))) (.cons (.ret (.slice (.var 1) (.some (.k (.int (1)))) .none)) .nil) .nil) (.cons (.asg (.name 3) (.call 21 [(.inl 0), (.inl 1)] (.cons (.var 0) (.cons (.bi .len (.cons (.var 1) .nil)) .nil)))) (.cons (.ret (.call 43 [(.inl 0), (.inl 1), (.inl 2)] (.cons (.var 1) (.cons (.var 3) (.cons (.call 44 [(.inl 0), (.inl 1)] (.cons (.var 0) (.cons (.bin .ix (.var 1) (.var 3)) .nil))) .nil))))) .nil)))))
def d__law_matrix_spoilt : DD := ⟨"_law_matrix_spoilt", "_law_matrix_spoilt", defArgs (top 63), defBody (top 63), defScope (top 63), [], ["m", "matrix", "pick", "place"], ["m", "matrix"], false, [], m__law_matrix_spoilt⟩
def m__law_spoilt : MSs := (.cons (.unp [(.name 2), (.name 3), (.name 4), (.name 5), (.name 6)] (.var 1)) (.cons (.asg (.name 7) (.call 21 [(.inl 0), (.inl 1)] (.cons (.var 0) (.cons (.k (.int (9))) .nil)))) (.cons (.ifS (.bin .eq (.var 7) (.k (.int (0)))) (.cons (.ret (.call 23 [(.inl 0), (.inl 1)] (.cons (.var 0) (.cons (.lst (.cons (.k .non) (.cons (.bi .listV (.cons (.var 1) .nil)) (.cons (.slice (.var 1) .none (.some (.k (.int (4))))) (.cons (.bin .add (.var 1) (.tup (.cons (.k (.int (0))) .nil))) (.cons (.tup .nil) (.cons (.k (.int (5))) .nil))))))) .nil)))) .nil) .nil) (.cons (.ifS (.bin .eq (.var 7) (.k (.int (1)))) (.cons (.ret (.tup (.cons (.call 23 [(.inl 0), (.inl 1)] (.cons (.var 0) (.cons (.lst (.cons (.k (.int (1))) (.cons (.k (.int (11))) (.cons (.k (.bl true)) (.cons (.k .non) (.cons (.bin .add (.var 2) (.k (.int (1)))) (.cons (.tup (.cons (.var 2) .nil)) .nil))))))) .nil))) (.cons (.var 3) (.cons (.var 4) (.cons (.var 5) (.cons (.var 6) .nil))))))) .nil) .nil) (.cons (.ifS (.bin .eq (.var 7) (.k (.int (2)))) (.cons (.ret (.tup (.cons (.var 2) (.cons (.call 23 [(.inl 0), (.inl 1)] (.cons (.var 0) (.cons (.lst (.cons (.un .neg (.k (.int (1)))) (.cons (.k (.int (7))) (.cons (.bin .eq (.var 3) (.k (.int (1)))) (.cons (.k .non) (.cons (.bin .add (.var 3) (.k (.int (1)))) .nil)))))) .nil))) (.cons (.var 4) (.cons (.var 5) (.cons (.var 6) .nil))))))) .nil) .nil) (.cons (.ifS (.bin .eq (.var 7) (.k (.int (3)))) (.cons (.ret (.tup (.cons (.var 2) (.cons (.var 3) (.cons (.call 44 [(.inl 0), (.inl 1)] (.cons (.var 0) (.cons (.var 4) .nil))) (.cons (.var 5) (.cons (.var 6) .nil))))))) .nil) .nil) (.cons (.ifS (.bin .eq (.var 7) (.k (.int (4)))) (.cons (.ret (.tup (.cons (.var 2) (.cons (.var 3) (.cons (.var 4) (.cons (.call 23 [(.inl 0), (.inl 1)] (.cons (.var 0) (.cons (.lst (.cons (.bi .listV (.cons (.var 5) .nil)) (.cons (.slice (.var 5) (.some (.k (.int (1)))) .none) (.cons (.bin .add (.var 5) (.tup (.cons (.tup .nil) .nil))) (.cons (.k .non) .nil))))) .nil))) (.cons (.var 6) .nil))))))) .nil) .nil) (.cons (.ifS (.bin .eq (.var 7) (.k (.int (5)))) (.cons (.ret (.tup (.cons (.var 2) (.cons (.var 3) (.cons (.var 4) (.cons (.var 5) (.cons (.call 44 [(.inl 0), (.inl 1)] (.cons (.var 0) (.cons (.var 6) .nil))) .nil))))))) .nil) .nil) (.cons (.asg (.name 8) (.ite (.bin .eq (.var 7) (.k (.int (6)))) (.k (.int (0))) (.call 21 [(.inl 0), (.inl 1)] (.cons (.var 0) (.cons (.bi .len (.cons (.var 5) .nil)) .nil))))) (.cons (.ret (.tup (.cons (.var 2) (.cons (.var 3) (.cons (.var 4) (.cons (.call 43 [(.inl 0), (.inl 1), (.inl 2)] (.cons (.var 5) (.cons (.var 8) (.cons (.call 45 [(.inl 0), (.inl 1)] (.cons (.var 0) (.cons (.bin .ix (.var 5) (.var 8)) .nil))) .nil)))) (.cons (.var 6) .nil))))))) .nil))))))))))
def d__law_spoilt : DD := ⟨"_law_spoilt", "_law_spoilt", defArgs (top 64), defBody (top 64), defScope (top 64), [], ["m", "counting", "base", "tracks", "first", "matrices", "last", "pick", "place"], ["m", "counting"], false, [], m__law_spoilt⟩
def m__law_judged : MSs := (.cons (.asg (.name 1) (.call 41 [(.inl 0)] (.cons (.var 0) .nil))) (.cons (.try_ (.cons (.asg (.name 2) (.lst (.cons (.k (.str (Str.ofString "fine"))) (.cons (.call 17 [(.inl 0)] (.cons (.var 0) .nil)) .nil)))) .nil) [(.mk 1 (some 3) (some 2) (.lst (.cons (.k (.str (Str.ofString "bad"))) (.cons .exarg .nil))))]) (.cons (.ifS (.and_ (.un .isN (.var 1)) (.not_ (.call 24 [(.inl 0), (.inl 1)] (.cons (.call 17 [(.inl 0)] (.cons (.var 0) .nil)) (.cons (.var 0) .nil))))) (.cons (.ret (.k (.bl false))) .nil) .nil) (.cons (.ret (.call 24 [(.inl 0), (.inl 1)] (.cons (.var 2) (.cons (.ite (.un .isN (.var 1)) (.lst (.cons (.k (.str (Str.ofString "fine"))) (.cons (.var 0) .nil))) (.lst (.cons (.k (.str (Str.ofString "bad"))) (.cons (.var 1) .nil)))) .nil)))) .nil))))
def d__law_judged : DD := ⟨"_law_judged", "_law_judged", defArgs (top 65), defBody (top 65), defScope (top 65), [], ["value", "due", "told", "e"], ["value"], false, [], m__law_judged⟩
def m__law_noughts : MSs := (.cons (.asg (.name 3) (.bin .mul (.tup (.cons (.tup (.cons (.k (.int (0))) (.cons (.k (.int (1))) .nil))) .nil)) (.var 2))) (.cons (.ret (.tup (.cons (.var 0) (.cons (.var 1) (.cons (.var 3) (.cons (.bin .mul (.tup (.cons (.bin .mul (.tup (.cons (.var 3) .nil)) (.var 2)) .nil)) (.call 25 [(.inl 0), (.inl 1)] (.cons (.var 0) (.cons (.var 1) .nil)))) (.cons (.var 3) .nil))))))) .nil))
def d__law_noughts : DD := ⟨"_law_noughts", "_law_noughts", defArgs (top 66), defBody (top 66), defScope (top 66), [], ["base", "tracks", "many", "row"], ["base", "tracks", "many"], false, [], m__law_noughts⟩
def m__law_heard : MSs := (.cons (.try_ (.cons (.asg (.name 2) (.lst (.cons (.k (.str (Str.ofString "fine"))) (.cons (.call 18 [(.inl 0), (.inl 1)] (.cons (.var 0) (.cons (.var 1) .nil))) .nil)))) .nil) [(.mk 0 (some 3) (some 2) (.lst (.cons (.k (.str (Str.ofString "bad"))) (.cons .exarg .nil)))), (.mk 3 (some 3) (some 2) (.lst (.cons (.k (.str (Str.ofString "many"))) (.cons .exarg .nil))))]) (.cons (.ret (.var 2)) .nil))
def d__law_heard : DD := ⟨"_law_heard", "_law_heard", defArgs (top 67), defBody (top 67), defScope (top 67), [], ["counting", "values", "told", "e"], ["counting", "values"], false, [], m__law_heard⟩
def m__law_valued : MSs := (.cons (.asg (.name 2) (.bin .ix (.var 1) (.k (.int (1))))) (.cons (.forS (.name 3) (.range (.cons (.k (.int (4))) .nil)) (.cons (.asg (.name 4) (.bi .tuple_ (.cons (.comp false [7, 8] (.name 8) (.range (.cons (.var 2) .nil)) .none (.call 21 [(.inl 0), (.inl 1)] (.cons (.var 0) (.cons (.call 23 [(.inl 0), (.inl 1)] (.cons (.var 0) (.cons (.lst (.cons (.k (.int (3))) (.cons (.k (.int (40))) (.cons (.k (.int (3000))) (.cons (.bin .pow (.k (.int (10))) (.k (.int (12)))) .nil))))) .nil))) .nil)))) .nil))) (.cons (.ifS (.not_ (.call 24 [(.inl 0), (.inl 1)] (.cons (.call 49 [(.inl 0), (.inl 1)] (.cons (.var 1) (.cons (.var 4) .nil))) (.cons (.lst (.cons (.k (.str (Str.ofString "fine"))) (.cons (.call 33 [(.inl 0), (.inl 1)] (.cons (.var 1) (.cons (.var 4) .nil))) .nil))) .nil)))) (.cons (.ret (.k (.bl false))) .nil) .nil) .nil))) (.cons (.ifS (.not_ (.call 24 [(.inl 0), (.inl 1)] (.cons (.call 18 [(.inl 1), (.inl 0)] (.cons (.var 4) (.cons (.var 1) .nil))) (.cons (.call 33 [(.inl 0), (.inl 1)] (.cons (.var 1) (.cons (.var 4) .nil))) .nil)))) (.cons (.ret (.k (.bl false))) .nil) .nil) (.cons (.asg (.name 5) (.call 23 [(.inl 0), (.inl 1)] (.cons (.var 0) (.cons (.lst (.cons (.bin .add (.var 4) (.tup (.cons (.k (.int (0))) .nil))) (.cons (.bi .listV (.cons (.var 4) .nil)) (.cons (.k .non) (.cons (.bin .add (.tup (.cons (.un .neg (.k (.int (1)))) .nil)) (.slice (.var 4) (.some (.k (.int (1)))) .none)) (.cons (.bin .add (.tup (.cons (.k (.bl true)) .nil)) (.slice (.var 4) (.some (.k (.int (1)))) .none)) (.cons (.k (.int (7))) .nil))))))) .nil)))) (.cons (.asg (.name 6) (.call 49 [(.inl 0), (.inl 1)] (.cons (.var 1) (.cons (.var 5) .nil)))) (.cons (.ret (.and_ (.bin .eq (.bin .ix (.var 6) (.k (.int (0)))) (.k (.str (Str.ofString "bad")))) (.bin .eq (.bin .ix (.var 6) (.k (.int (1)))) (.var 5)))) .nil))))))
def d__law_valued : DD := ⟨"_law_valued", "_law_valued", defArgs (top 68), defBody (top 68), defScope (top 68), [], ["m", "counting", "tracks", "turn", "values", "odd", "told", ".0", "track"], ["m", "counting"], false, [], m__law_valued⟩
def m__law_great : MSs := (.cons (.asg (.name 1) (.call 21 [(.inl 0), (.inl 1)] (.cons (.var 0) (.cons (.k (.int (3))) .nil)))) (.cons (.ifS (.bin .eq (.var 1) (.k (.int (0)))) (.cons (.ret (.and_ (.call 47 [(.inl 0)] (.cons (.call 48 [(.inl 0), (.inl 1), (.inl 2)] (.cons (.k (.int (10))) (.cons (.k (.int (2))) (.cons (.k (.int (14))) .nil)))) .nil)) (.call 47 [(.inl 0)] (.cons (.call 48 [(.inl 0), (.inl 1), (.inl 2)] (.cons (.k (.int (10))) (.cons (.k (.int (2))) (.cons (.k (.int (15))) .nil)))) .nil)))) .nil) .nil) (.cons (.ifS (.bin .eq (.var 1) (.k (.int (1)))) (.cons (.ret (.and_ (.call 47 [(.inl 0)] (.cons (.call 48 [(.inl 0), (.inl 1), (.inl 2)] (.cons (.k (.int (2))) (.cons (.k (.int (1))) (.cons (.k (.int (40))) .nil)))) .nil)) (.call 47 [(.inl 0)] (.cons (.call 48 [(.inl 0), (.inl 1), (.inl 2)] (.cons (.k (.int (2))) (.cons (.k (.int (1))) (.cons (.k (.int (41))) .nil)))) .nil)))) .nil) .nil) (.cons (.asg (.tup [2, 3]) (.tup (.cons (.call 48 [(.inl 0), (.inl 1), (.inl 2)] (.cons (.k (.int (2))) (.cons (.k (.int (1))) (.cons (.k (.int (40))) .nil)))) (.cons (.bin .pow (.k (.int (2))) (.k (.int (62)))) .nil)))) (.cons (.asg (.name 4) (.lst (.cons (.call 49 [(.inl 0), (.inl 1)] (.cons (.var 2) (.cons (.tup (.cons (.bin .sub (.bin .sub (.var 3) (.k (.int (1)))) (.call 21 [(.inl 0), (.inl 1)] (.cons (.var 0) (.cons (.k (.int (9))) .nil)))) .nil)) .nil))) (.cons (.call 49 [(.inl 0), (.inl 1)] (.cons (.var 2) (.cons (.tup (.cons (.bin .add (.var 3) (.call 21 [(.inl 0), (.inl 1)] (.cons (.var 0) (.cons (.k (.int (9))) .nil)))) .nil)) .nil))) .nil)))) (.cons (.ret (.call 24 [(.inl 0), (.inl 1)] (.cons (.var 4) (.cons (.lst (.cons (.lst (.cons (.k (.str (Str.ofString "fine"))) (.cons (.tup (.cons (.k (.int (0))) (.cons (.k (.int (1))) .nil))) .nil))) (.cons (.lst (.cons (.k (.str (Str.ofString "many"))) (.cons (.k (.int (100000))) .nil))) .nil))) .nil)))) .nil))))))
def d__law_great : DD := ⟨"_law_great", "_law_great", defArgs (top 69), defBody (top 69), defScope (top 69), [], ["m", "pick", "wide", "place", "told"], ["m"], false, [], m__law_great⟩
def m__law_fractions_right : MSs := (.cons (.asg (.name 1) (.ite (.bin .eq (.call 21 [(.inl 0), (.inl 1)] (.cons (.var 0) (.cons (.k (.int (2))) .nil))) (.k (.int (0)))) (.call 34 [(.inl 0)] (.cons (.var 0) .nil)) (.call 42 [(.inl 0)] (.cons (.var 0) .nil)))) (.cons (.try_ (.cons (.asg (.name 2) (.lst (.cons (.k (.str (Str.ofString "fine"))) (.cons (.call 6 [(.inl 0)] (.cons (.var 1) .nil)) .nil)))) .nil) [(.mk 2 (some 3) (some 2) (.lst (.cons (.k (.str (Str.ofString "bad"))) (.cons .exarg .nil))))]) (.cons (.ifS (.call 38 [(.inl 0)] (.cons (.var 1) .nil)) (.cons (.ret (.and_ (.call 24 [(.inl 0), (.inl 1)] (.cons (.var 2) (.cons (.lst (.cons (.k (.str (Str.ofString "fine"))) (.cons (.var 1) .nil))) .nil))) (.call 24 [(.inl 0), (.inl 1)] (.cons (.call 6 [(.inl 0)] (.cons (.var 1) .nil)) (.cons (.var 1) .nil))))) .nil) .nil) (.cons (.ret (.and_ (.bin .eq (.bin .ix (.var 2) (.k (.int (0)))) (.k (.str (Str.ofString "bad")))) (.bin .eq (.bin .ix (.var 2) (.k (.int (1)))) (.var 1)))) .nil))))
def d__law_fractions_right : DD := ⟨"_law_fractions_right", "_law_fractions_right", defArgs (top 70), defBody (top 70), defScope (top 70), [], ["m", "one", "told", "e"], ["m"], false, [], m__law_fractions_right⟩
def m_law : MSs := (.cons (.asg (.name 1) (.call 22 [(.inl 0)] (.cons (.var 0) .nil))) (.cons (.forS (.name 2) (.range (.cons (.k (.int (4))) .nil)) (.cons (.unp [(.name 3), (.name 4)] (.call 23 [(.inl 0), (.inl 1)] (.cons (.var 1) (.cons (.lst (.cons (.tup (.cons (.k (.int (2))) (.cons (.k (.int (1))) .nil))) (.cons (.tup (.cons (.k (.int (2))) (.cons (.k (.int (2))) .nil))) (.cons (.tup (.cons (.k (.int (3))) (.cons (.k (.int (1))) .nil))) (.cons (.tup (.cons (.k (.int (10))) (.cons (.k (.int (1))) .nil))) (.cons (.tup (.cons (.k (.int (5))) (.cons (.k (.int (0))) .nil))) (.cons (.tup (.cons (.bin .add (.k (.int (2))) (.call 21 [(.inl 0), (.inl 1)] (.cons (.var 1) (.cons (.k (.int (9))) .nil)))) (.cons (.k (.int (1))) .nil))) (.cons (.tup (.cons (.k (.int (3))) (.cons (.k (.int (2))) .nil))) (.cons (.tup (.cons (.k (.int (2))) (.cons (.k (.int (0))) .nil))) .nil))))))))) .nil)))) (.cons (.asg (.name 5) (.call 36 [(.inl 0), (.inl 1), (.inl 2), (.inl 3)] (.cons (.var 1) (.cons (.var 3) (.cons (.var 4) (.cons (.call 21 [(.inl 0), (.inl 1)] (.cons (.var 1) (.cons (.ite (.or_ (.bin .gt (.var 3) (.k (.int (3)))) (.bin .gt (.var 4) (.k (.int (1))))) (.k (.int (3))) (.k (.int (5)))) .nil))) .nil)))))) (.cons (.ifS (.or_ (.not_ (.call 47 [(.inl 0)] (.cons (.var 5) .nil))) (.not_ (.call 50 [(.inl 0), (.inl 1)] (.cons (.var 1) (.cons (.var 5) .nil))))) (.cons (.ret (.k (.bl false))) .nil) .nil) (.cons (.forS (.name 6) (.range (.cons (.k (.int (4))) .nil)) (.cons (.asg (.name 7) (.call 46 [(.inl 0), (.inl 1)] (.cons (.var 1) (.cons (.var 5) .nil)))) (.cons (.ifS (.not_ (.call 47 [(.inl 0)] (.cons (.var 7) .nil))) (.cons (.ret (.k (.bl false))) .nil) .nil) (.cons (.ifS (.and_ (.bi (.isin ["tuple"]) (.cons (.var 7) .nil)) (.and_ (.bin .eq (.bi .len (.cons (.var 7) .nil)) (.k (.int (5)))) (.bin .eq (.call 21 [(.inl 0), (.inl 1)] (.cons (.var 1) (.cons (.k (.int (2))) .nil))) (.k (.int (0)))))) (.cons (.asg (.name 8) (.call 41 [(.inl 0)] (.cons (.var 7) .nil))) (.cons (.asg (.name 9) (.call 23 [(.inl 0), (.inl 1)] (.cons (.var 1) (.cons (.lst (.cons (.k .non) (.cons (.tup .nil) (.cons (.bin .mul (.tup (.cons (.tup (.cons (.k (.int (1))) (.cons (.k (.int (1))) .nil))) .nil)) (.bi .len (.cons (.bin .ix (.var 5) (.k (.int (4)))) .nil))) .nil)))) .nil)))) (.cons (.asg (.name 10) (.tup (.cons (.bin .ix (.var 7) (.k (.int (0)))) (.cons (.bin .ix (.var 7) (.k (.int (1)))) (.cons (.bin .ix (.var 7) (.k (.int (2)))) (.cons (.bin .ix (.var 7) (.k (.int (3)))) (.cons (.var 9) .nil))))))) (.cons (.ifS (.and_ (.un .notN (.var 8)) (.not_ (.call 47 [(.inl 0)] (.cons (.var 10) .nil)))) (.cons (.ret (.k (.bl false))) .nil) .nil) .nil)))) .nil) .nil)))) (.cons (.ifS (.not_ (.call 52 [(.inl 0)] (.cons (.var 1) .nil))) (.cons (.ret (.k (.bl false))) .nil) .nil) .nil)))))) (.cons (.ret (.call 51 [(.inl 0)] (.cons (.var 1) .nil))) .nil)))
def d_law : DD := ⟨"law", "law", defArgs (top 71), defBody (top 71), defScope (top 71), [], ["script", "m", "turn", "base", "tracks", "counting", "spoil", "spoilt", "twice", "end", "both"], ["script"], false, [], m_law⟩
def defsL : List DD := [d_is_whole, d_is_row, d_are_wholes, d_power_of, d_ratio_of, d_is_ratio, d_need_fraction, d_are_ratios, d_sum_of_products, d_row_times, d_matrix_times, d_is_base, d_need_numbers, d_columns_of, d_has_form, d_is_matrix, d_counting_fault, d_need_counting, d_value_of, d__law_mixed, d__law_folded, d__law_draw, d__law_begun, d__law_of, d__law_like, d__law_power, d__law_columns, d__law_gcd, d__law_ratio, d__law_plus, d__law_mult, d__law_dot, d__law_along, d__law_worth, d__law_fraction, d__law_proofed, d__law_counting, d__law_whole, d__law_is_fraction, d__law_are_fractions, d__law_formless, d__law_fault, d__law_odd, d__law_put, d__law_row_spoilt, d__law_matrix_spoilt, d__law_spoilt, d__law_judged, d__law_noughts, d__law_heard, d__law_valued, d__law_great, d__law_fractions_right, d_law]
def namesL : List Str := (["is_whole", "is_row", "are_wholes", "power_of", "ratio_of", "is_ratio", "need_fraction", "are_ratios", "sum_of_products", "row_times", "matrix_times", "is_base", "need_numbers", "columns_of", "has_form", "is_matrix", "counting_fault", "need_counting", "value_of", "_law_mixed", "_law_folded", "_law_draw", "_law_begun", "_law_of", "_law_like"] : List Str) ++ (["_law_power", "_law_columns", "_law_gcd", "_law_ratio", "_law_plus", "_law_mult", "_law_dot", "_law_along", "_law_worth", "_law_fraction", "_law_proofed", "_law_counting", "_law_whole", "_law_is_fraction", "_law_are_fractions", "_law_formless", "_law_fault", "_law_odd", "_law_put", "_law_row_spoilt", "_law_matrix_spoilt", "_law_spoilt", "_law_judged", "_law_noughts", "_law_heard"] : List Str) ++ (["_law_valued", "_law_great", "_law_fractions_right", "law"] : List Str)
def excL : List Str := ["BadNumbers", "BadCounting", "BadFraction", "TooMany"]
def PRof (K : PySem.W.Frag) : PR where
  T := T0
  defs := defsL
  fa := fun f => He.fAd K ((namesL[f]?).getD "", none)
  fd := fun f => fdAt K (He.fAd K ((namesL[f]?).getD "", none))
  cl := fun c => He.ga K ((excL[c]?).getD "")
/-! ### the translations -/
theorem tr_is_whole : trSs (rc 40) 120 { T0 with N := d_is_whole.N, sc := d_is_whole.scope, fn := fun _ => true, mu := d_is_whole.mu } d_is_whole.body = some d_is_whole.m := by kernel_rfl
theorem sc_is_whole : FnScope d_is_whole.N d_is_whole.ps d_is_whole.scope := ⟨rfl, rfl, rfl, by decide +kernel, rfl, by decide +kernel, by decide +kernel⟩
theorem tr_is_row : trSs (rc 40) 120 { T0 with N := d_is_row.N, sc := d_is_row.scope, fn := fun _ => true, mu := d_is_row.mu } d_is_row.body = some d_is_row.m := by kernel_rfl
theorem sc_is_row : FnScope d_is_row.N d_is_row.ps d_is_row.scope := ⟨rfl, rfl, rfl, by decide +kernel, rfl, by decide +kernel, by decide +kernel⟩
theorem tr_are_wholes : trSs (rc 40) 120 { T0 with N := d_are_wholes.N, sc := d_are_wholes.scope, fn := fun _ => true, mu := d_are_wholes.mu } d_are_wholes.body = some d_are_wholes.m := by kernel_rfl
theorem sc_are_wholes : FnScope d_are_wholes.N d_are_wholes.ps d_are_wholes.scope := ⟨rfl, rfl, rfl, by decide +kernel, rfl, by decide +kernel, by decide +kernel⟩
theorem tr_power_of : trSs (rc 40) 120 { T0 with N := d_power_of.N, sc := d_power_of.scope, fn := fun _ => true, mu := d_power_of.mu } d_power_of.body = some d_power_of.m := by kernel_rfl
theorem sc_power_of : FnScope d_power_of.N d_power_of.ps d_power_of.scope := ⟨rfl, rfl, rfl, by decide +kernel, rfl, by decide +kernel, by decide +kernel⟩
theorem tr_ratio_of : trSs (rc 40) 120 { T0 with N := d_ratio_of.N, sc := d_ratio_of.scope, fn := fun _ => true, mu := d_ratio_of.mu } d_ratio_of.body = some d_ratio_of.m := by kernel_rfl
theorem sc_ratio_of : FnScope d_ratio_of.N d_ratio_of.ps d_ratio_of.scope := ⟨rfl, rfl, rfl, by decide +kernel, rfl, by decide +kernel, by decide +kernel⟩
theorem tr_is_ratio : trSs (rc 40) 120 { T0 with N := d_is_ratio.N, sc := d_is_ratio.scope, fn := fun _ => true, mu := d_is_ratio.mu } d_is_ratio.body = some d_is_ratio.m := by kernel_rfl
theorem sc_is_ratio : FnScope d_is_ratio.N d_is_ratio.ps d_is_ratio.scope := ⟨rfl, rfl, rfl, by decide +kernel, rfl, by decide +kernel, by decide +kernel⟩
theorem tr_need_fraction : trSs (rc 40) 120 { T0 with N := d_need_fraction.N, sc := d_need_fraction.scope, fn := fun _ => true, mu := d_need_fraction.mu } d_need_fraction.body = some d_need_fraction.m := by kernel_rfl
theorem sc_need_fraction : FnScope d_need_fraction.N d_need_fraction.ps d_need_fraction.scope := ⟨rfl, rfl, rfl, by decide +kernel, rfl, by decide +kernel, by decide +kernel⟩
theorem tr_are_ratios : trSs (rc 40) 120 { T0 with N := d_are_ratios.N, sc := d_are_ratios.scope, fn := fun _ => true, mu := d_are_ratios.mu } d_are_ratios.body = some d_are_ratios.m := by kernel_rfl
theorem sc_are_ratios : FnScope d_are_ratios.N d_are_ratios.ps d_are_ratios.scope := ⟨rfl, rfl, rfl, by decide +kernel, rfl, by decide +kernel, by decide +kernel⟩
theorem tr_sum_of_products : trSs (rc 40) 120 { T0 with N := d_sum_of_products.N, sc := d_sum_of_products.scope, fn := fun _ => true, mu := d_sum_of_products.mu } d_sum_of_products.body = some d_sum_of_products.m := by kernel_rfl
theorem sc_sum_of_products : FnScope d_sum_of_products.N d_sum_of_products.ps d_sum_of_products.scope := ⟨rfl, rfl, rfl, by decide +kernel, rfl, by decide +kernel, by decide +kernel⟩
theorem tr_row_times : trSs (rc 40) 120 { T0 with N := d_row_times.N, sc := d_row_times.scope, fn := fun _ => true, mu := d_row_times.mu } d_row_times.body = some d_row_times.m := by kernel_rfl
theorem sc_row_times : FnScope d_row_times.N d_row_times.ps d_row_times.scope := ⟨rfl, rfl, rfl, by decide +kernel, rfl, by decide +kernel, by decide +kernel⟩
theorem tr_matrix_times : trSs (rc 40) 120 { T0 with N := d_matrix_times.N, sc := d_matrix_times.scope, fn := fun _ => true, mu := d_matrix_times.mu } d_matrix_times.body = some d_matrix_times.m := by kernel_rfl
theorem sc_matrix_times : FnScope d_matrix_times.N d_matrix_times.ps d_matrix_times.scope := ⟨rfl, rfl, rfl, by decide +kernel, rfl, by decide +kernel, by decide +kernel⟩
theorem tr_is_base : trSs (rc 40) 120 { T0 with N := d_is_base.N, sc := d_is_base.scope, fn := fun _ => true, mu := d_is_base.mu } d_is_base.body = some d_is_base.m := by kernel_rfl
theorem sc_is_base : FnScope d_is_base.N d_is_base.ps d_is_base.scope := ⟨rfl, rfl, rfl, by decide +kernel, rfl, by decide +kernel, by decide +kernel⟩
theorem tr_need_numbers : trSs (rc 40) 120 { T0 with N := d_need_numbers.N, sc := d_need_numbers.scope, fn := fun _ => true, mu := d_need_numbers.mu } d_need_numbers.body = some d_need_numbers.m := by kernel_rfl
theorem sc_need_numbers : FnScope d_need_numbers.N d_need_numbers.ps d_need_numbers.scope := ⟨rfl, rfl, rfl, by decide +kernel, rfl, by decide +kernel, by decide +kernel⟩
theorem tr_columns_of : trSs (rc 40) 120 { T0 with N := d_columns_of.N, sc := d_columns_of.scope, fn := fun _ => true, mu := d_columns_of.mu } d_columns_of.body = some d_columns_of.m := by kernel_rfl
theorem sc_columns_of : FnScope d_columns_of.N d_columns_of.ps d_columns_of.scope := ⟨rfl, rfl, rfl, by decide +kernel, rfl, by decide +kernel, by decide +kernel⟩
theorem tr_has_form : trSs (rc 40) 120 { T0 with N := d_has_form.N, sc := d_has_form.scope, fn := fun _ => true, mu := d_has_form.mu } d_has_form.body = some d_has_form.m := by kernel_rfl
theorem sc_has_form : FnScope d_has_form.N d_has_form.ps d_has_form.scope := ⟨rfl, rfl, rfl, by decide +kernel, rfl, by decide +kernel, by decide +kernel⟩
theorem tr_is_matrix : trSs (rc 40) 120 { T0 with N := d_is_matrix.N, sc := d_is_matrix.scope, fn := fun _ => true, mu := d_is_matrix.mu } d_is_matrix.body = some d_is_matrix.m := by kernel_rfl
theorem sc_is_matrix : FnScope d_is_matrix.N d_is_matrix.ps d_is_matrix.scope := ⟨rfl, rfl, rfl, by decide +kernel, rfl, by decide +kernel, by decide +kernel⟩
theorem tr_counting_fault : trSs (rc 40) 120 { T0 with N := d_counting_fault.N, sc := d_counting_fault.scope, fn := fun _ => true, mu := d_counting_fault.mu } d_counting_fault.body = some d_counting_fault.m := by kernel_rfl
theorem sc_counting_fault : FnScope d_counting_fault.N d_counting_fault.ps d_counting_fault.scope := ⟨rfl, rfl, rfl, by decide +kernel, rfl, by decide +kernel, by decide +kernel⟩
theorem tr_need_counting : trSs (rc 40) 120 { T0 with N := d_need_counting.N, sc := d_need_counting.scope, fn := fun _ => true, mu := d_need_counting.mu } d_need_counting.body = some d_need_counting.m := by kernel_rfl
theorem sc_need_counting : FnScope d_need_counting.N d_need_counting.ps d_need_counting.scope := ⟨rfl, rfl, rfl, by decide +kernel, rfl, by decide +kernel, by decide +kernel⟩
theorem tr_value_of : trSs (rc 40) 120 { T0 with N := d_value_of.N, sc := d_value_of.scope, fn := fun _ => true, mu := d_value_of.mu } d_value_of.body = some d_value_of.m := by kernel_rfl
theorem sc_value_of : FnScope d_value_of.N d_value_of.ps d_value_of.scope := ⟨rfl, rfl, rfl, by decide +kernel, rfl, by decide +kernel, by decide +kernel⟩
theorem tr__law_mixed : trSs (rc 40) 120 { T0 with N := d__law_mixed.N, sc := d__law_mixed.scope, fn := fun _ => true, mu := d__law_mixed.mu } d__law_mixed.body = some d__law_mixed.m := by kernel_rfl
theorem sc__law_mixed : FnScope d__law_mixed.N d__law_mixed.ps d__law_mixed.scope := ⟨rfl, rfl, rfl, by decide +kernel, rfl, by decide +kernel, by decide +kernel⟩
theorem tr__law_folded : trSs (rc 40) 120 { T0 with N := d__law_folded.N, sc := d__law_folded.scope, fn := fun _ => true, mu := d__law_folded.mu } d__law_folded.body = some d__law_folded.m := by kernel_rfl
theorem sc__law_folded : FnScope d__law_folded.N d__law_folded.ps d__law_folded.scope := ⟨rfl, rfl, rfl, by decide +kernel, rfl, by decide +kernel, by decide +kernel⟩
theorem tr__law_draw : trSs (rc 40) 120 { T0 with N := d__law_draw.N, sc := d__law_draw.scope, fn := fun _ => true, mu := d__law_draw.mu } d__law_draw.body = some d__law_draw.m := by kernel_rfl
theorem sc__law_draw : FnScope d__law_draw.N d__law_draw.ps d__law_draw.scope := ⟨rfl, rfl, rfl, by decide +kernel, rfl, by decide +kernel, by decide +kernel⟩
theorem tr__law_begun : trSs (rc 40) 120 { T0 with N := d__law_begun.N, sc := d__law_begun.scope, fn := fun _ => true, mu := d__law_begun.mu } d__law_begun.body = some d__law_begun.m := by kernel_rfl
theorem sc__law_begun : FnScope d__law_begun.N d__law_begun.ps d__law_begun.scope := ⟨rfl, rfl, rfl, by decide +kernel, rfl, by decide +kernel, by decide +kernel⟩
theorem tr__law_of : trSs (rc 40) 120 { T0 with N := d__law_of.N, sc := d__law_of.scope, fn := fun _ => true, mu := d__law_of.mu } d__law_of.body = some d__law_of.m := by kernel_rfl
theorem sc__law_of : FnScope d__law_of.N d__law_of.ps d__law_of.scope := ⟨rfl, rfl, rfl, by decide +kernel, rfl, by decide +kernel, by decide +kernel⟩
theorem tr__law_like : trSs (rc 40) 120 { T0 with N := d__law_like.N, sc := d__law_like.scope, fn := fun _ => true, mu := d__law_like.mu } d__law_like.body = some d__law_like.m := by kernel_rfl
theorem sc__law_like : FnScope d__law_like.N d__law_like.ps d__law_like.scope := ⟨rfl, rfl, rfl, by decide +kernel, rfl, by decide +kernel, by decide +kernel⟩
theorem tr__law_power : trSs (rc 40) 120 { T0 with N := d__law_power.N, sc := d__law_power.scope, fn := fun _ => true, mu := d__law_power.mu } d__law_power.body = some d__law_power.m := by kernel_rfl
theorem sc__law_power : FnScope d__law_power.N d__law_power.ps d__law_power.scope := ⟨rfl, rfl, rfl, by decide +kernel, rfl, by decide +kernel, by decide +kernel⟩
theorem tr__law_columns : trSs (rc 40) 120 { T0 with N := d__law_columns.N, sc := d__law_columns.scope, fn := fun _ => true, mu := d__law_columns.mu } d__law_columns.body = some d__law_columns.m := by kernel_rfl
theorem sc__law_columns : FnScope d__law_columns.N d__law_columns.ps d__law_columns.scope := ⟨rfl, rfl, rfl, by decide +kernel, rfl, by decide +kernel, by decide +kernel⟩
theorem tr__law_gcd : trSs (rc 40) 120 { T0 with N := d__law_gcd.N, sc := d__law_gcd.scope, fn := fun _ => true, mu := d__law_gcd.mu } d__law_gcd.body = some d__law_gcd.m := by kernel_rfl
theorem sc__law_gcd : FnScope d__law_gcd.N d__law_gcd.ps d__law_gcd.scope := ⟨rfl, rfl, rfl, by decide +kernel, rfl, by decide +kernel, by decide +kernel⟩
theorem tr__law_ratio : trSs (rc 40) 120 { T0 with N := d__law_ratio.N, sc := d__law_ratio.scope, fn := fun _ => true, mu := d__law_ratio.mu } d__law_ratio.body = some d__law_ratio.m := by kernel_rfl
theorem sc__law_ratio : FnScope d__law_ratio.N d__law_ratio.ps d__law_ratio.scope := ⟨rfl, rfl, rfl, by decide +kernel, rfl, by decide +kernel, by decide +kernel⟩
theorem tr__law_plus : trSs (rc 40) 120 { T0 with N := d__law_plus.N, sc := d__law_plus.scope, fn := fun _ => true, mu := d__law_plus.mu } d__law_plus.body = some d__law_plus.m := by kernel_rfl
theorem sc__law_plus : FnScope d__law_plus.N d__law_plus.ps d__law_plus.scope := ⟨rfl, rfl, rfl, by decide +kernel, rfl, by decide +kernel, by decide +kernel⟩
theorem tr__law_mult : trSs (rc 40) 120 { T0 with N := d__law_mult.N, sc := d__law_mult.scope, fn := fun _ => true, mu := d__law_mult.mu } d__law_mult.body = some d__law_mult.m := by kernel_rfl
theorem sc__law_mult : FnScope d__law_mult.N d__law_mult.ps d__law_mult.scope := ⟨rfl, rfl, rfl, by decide +kernel, rfl, by decide +kernel, by decide +kernel⟩
theorem tr__law_dot : trSs (rc 40) 120 { T0 with N := d__law_dot.N, sc := d__law_dot.scope, fn := fun _ => true, mu := d__law_dot.mu } d__law_dot.body = some d__law_dot.m := by kernel_rfl
theorem sc__law_dot : FnScope d__law_dot.N d__law_dot.ps d__law_dot.scope := ⟨rfl, rfl, rfl, by decide +kernel, rfl, by decide +kernel, by decide +kernel⟩
theorem tr__law_along : trSs (rc 40) 120 { T0 with N := d__law_along.N, sc := d__law_along.scope, fn := fun _ => true, mu := d__law_along.mu } d__law_along.body = some d__law_along.m := by kernel_rfl
theorem sc__law_along : FnScope d__law_along.N d__law_along.ps d__law_along.scope := ⟨rfl, rfl, rfl, by decide +kernel, rfl, by decide +kernel, by decide +kernel⟩
theorem tr__law_worth : trSs (rc 40) 120 { T0 with N := d__law_worth.N, sc := d__law_worth.scope, fn := fun _ => true, mu := d__law_worth.mu } d__law_worth.body = some d__law_worth.m := by kernel_rfl
theorem sc__law_worth : FnScope d__law_worth.N d__law_worth.ps d__law_worth.scope := ⟨rfl, rfl, rfl, by decide +kernel, rfl, by decide +kernel, by decide +kernel⟩
theorem tr__law_fraction : trSs (rc 40) 120 { T0 with N := d__law_fraction.N, sc := d__law_fraction.scope, fn := fun _ => true, mu := d__law_fraction.mu } d__law_fraction.body = some d__law_fraction.m := by kernel_rfl
theorem sc__law_fraction : FnScope d__law_fraction.N d__law_fraction.ps d__law_fraction.scope := ⟨rfl, rfl, rfl, by decide +kernel, rfl, by decide +kernel, by decide +kernel⟩
theorem tr__law_proofed : trSs (rc 40) 120 { T0 with N := d__law_proofed.N, sc := d__law_proofed.scope, fn := fun _ => true, mu := d__law_proofed.mu } d__law_proofed.body = some d__law_proofed.m := by kernel_rfl
theorem sc__law_proofed : FnScope d__law_proofed.N d__law_proofed.ps d__law_proofed.scope := ⟨rfl, rfl, rfl, by decide +kernel, rfl, by decide +kernel, by decide +kernel⟩
theorem tr__law_counting : trSs (rc 40) 120 { T0 with N := d__law_counting.N, sc := d__law_counting.scope, fn := fun _ => true, mu := d__law_counting.mu } d__law_counting.body = some d__law_counting.m := by kernel_rfl
theorem sc__law_counting : FnScope d__law_counting.N d__law_counting.ps d__law_counting.scope := ⟨rfl, rfl, rfl, by decide +kernel, rfl, by decide +kernel, by decide +kernel⟩
theorem tr__law_whole : trSs (rc 40) 120 { T0 with N := d__law_whole.N, sc := d__law_whole.scope, fn := fun _ => true, mu := d__law_whole.mu } d__law_whole.body = some d__law_whole.m := by kernel_rfl
theorem sc__law_whole : FnScope d__law_whole.N d__law_whole.ps d__law_whole.scope := ⟨rfl, rfl, rfl, by decide +kernel, rfl, by decide +kernel, by decide +kernel⟩
theorem tr__law_is_fraction : trSs (rc 40) 120 { T0 with N := d__law_is_fraction.N, sc := d__law_is_fraction.scope, fn := fun _ => true, mu := d__law_is_fraction.mu } d__law_is_fraction.body = some d__law_is_fraction.m := by kernel_rfl
theorem sc__law_is_fraction : FnScope d__law_is_fraction.N d__law_is_fraction.ps d__law_is_fraction.scope := ⟨rfl, rfl, rfl, by decide +kernel, rfl, by decide +kernel, by decide +kernel⟩
theorem tr__law_are_fractions : trSs (rc 40) 120 { T0 with N := d__law_are_fractions.N, sc := d__law_are_fractions.scope, fn := fun _ => true, mu := d__law_are_fractions.mu } d__law_are_fractions.body = some d__law_are_fractions.m := by kernel_rfl
theorem sc__law_are_fractions : FnScope d__law_are_fractions.N d__law_are_fractions.ps d__law_are_fractions.scope := ⟨rfl, rfl, rfl, by decide +kernel, rfl, by decide +kernel, by decide +kernel⟩
theorem tr__law_formless : trSs (rc 40) 120 { T0 with N := d__law_formless.N, sc := d__law_formless.scope, fn := fun _ => true, mu := d__law_formless.mu } d__law_formless.body = some d__law_formless.m := by kernel_rfl
theorem sc__law_formless : FnScope d__law_formless.N d__law_formless.ps d__law_formless.scope := ⟨rfl, rfl, rfl, by decide +kernel, rfl, by decide +kernel, by decide +kernel⟩
theorem tr__law_fault : trSs (rc 40) 120 { T0 with N := d__law_fault.N, sc := d__law_fault.scope, fn := fun _ => true, mu := d__law_fault.mu } d__law_fault.body = some d__law_fault.m := by kernel_rfl
theorem sc__law_fault : FnScope d__law_fault.N d__law_fault.ps d__law_fault.scope := ⟨rfl, rfl, rfl, by decide +kernel, rfl, by decide +kernel, by decide +kernel⟩
theorem tr__law_odd : trSs (rc 40) 120 { T0 with N := d__law_odd.N, sc := d__law_odd.scope, fn := fun _ => true, mu := d__law_odd.mu } d__law_odd.body = some d__law_odd.m := by kernel_rfl
theorem sc__law_odd : FnScope d__law_odd.N d__law_odd.ps d__law_odd.scope := ⟨rfl, rfl, rfl, by decide +kernel, rfl, by decide +kernel, by decide +kernel⟩
theorem tr__law_put : trSs (rc 40) 120 { T0 with N := d__law_put.N, sc := d__law_put.scope, fn := fun _ => true, mu := d__law_put.mu } d__law_put.body = some d__law_put.m := by kernel_rfl
theorem sc__law_put : FnScope d__law_put.N d__law_put.ps d__law_put.scope := ⟨rfl, rfl, rfl, by decide +kernel, rfl, by decide +kernel, by decide +kernel⟩
theorem tr__law_row_spoilt : trSs (rc 40) 120 { T0 with N := d__law_row_spoilt.N, sc := d__law_row_spoilt.scope, fn := fun _ => true, mu := d__law_row_spoilt.mu } d__law_row_spoilt.body = some d__law_row_spoilt.m := by kernel_rfl
theorem sc__law_row_spoilt : FnScope d__law_row_spoilt.N d__law_row_spoilt.ps d__law_row_spoilt.scope := ⟨rfl, rfl, rfl, by decide +kernel, rfl, by decide +kernel, by decide +kernel⟩
theorem tr__law_matrix_spoilt : trSs (rc 40) 120 { T0 with N := d__law_matrix_spoilt.N, sc := d__law_matrix_spoilt.scope, fn := fun _ => true, mu := d__law_matrix_spoilt.mu } d__law_matrix_spoilt.body = some d__law_matrix_spoilt.m := by kernel_rfl
theorem sc__law_matrix_spoilt : FnScope d__law_matrix_spoilt.N d__law_matrix_spoilt.ps d__law_matrix_spoilt.scope := ⟨rfl, rfl, rfl, by decide +kernel, rfl, by decide +kernel, by decide +kernel⟩
theorem tr__law_spoilt : trSs (rc 40) 120 { T0 with N := d__law_spoilt.N, sc := d__law_spoilt.scope, fn := fun _ => true, mu := d__law_spoilt.mu } d__law_spoilt.body = some d__law_spoilt.m := by kernel_rfl
theorem sc__law_spoilt : FnScope d__law_spoilt.N d__law_spoilt.ps d__law_spoilt.scope := ⟨rfl, rfl, rfl, by decide +kernel, rfl, by decide +kernel, by decide +kernel⟩
theorem tr__law_judged : trSs (rc 40) 120 { T0 with N := d__law_judged.N, sc := d__law_judged.scope, fn := fun _ => true, mu := d__law_judged.mu } d__law_judged.body = some d__law_judged.m := by kernel_rfl
theorem sc__law_judged : FnScope d__law_judged.N d__law_judged.ps d__law_judged.scope := ⟨rfl, rfl, rfl, by decide +kernel, rfl, by decide +kernel, by decide +kernel⟩
theorem tr__law_noughts : trSs (rc 40) 120 { T0 with N := d__law_noughts.N, sc := d__law_noughts.scope, fn := fun _ => true, mu := d__law_noughts.mu } d__law_noughts.body = some d__law_noughts.m := by kernel_rfl
theorem sc__law_noughts : FnScope d__law_noughts.N d__law_noughts.ps d__law_noughts.scope := ⟨rfl, rfl, rfl, by decide +kernel, rfl, by decide +kernel, by decide +kernel⟩
theorem tr__law_heard : trSs (rc 40) 120 { T0 with N := d__law_heard.N, sc := d__law_heard.scope, fn := fun _ => true, mu := d__law_heard.mu } d__law_heard.body = some d__law_heard.m := by kernel_rfl
theorem sc__law_heard : FnScope d__law_heard.N d__law_heard.ps d__law_heard.scope := ⟨rfl, rfl, rfl, by decide +kernel, rfl, by decide +kernel, by decide +kernel⟩
theorem tr__law_valued : trSs (rc 40) 120 { T0 with N := d__law_valued.N, sc := d__law_valued.scope, fn := fun _ => true, mu := d__law_valued.mu } d__law_valued.body = some d__law_valued.m := by kernel_rfl
theorem sc__law_valued : FnScope d__law_valued.N d__law_valued.ps d__law_valued.scope := ⟨rfl, rfl, rfl, by decide +kernel, rfl, by decide +kernel, by decide +kernel⟩
theorem tr__law_great : trSs (rc 40) 120 { T0 with N := d__law_great.N, sc := d__law_great.scope, fn := fun _ => true, mu := d__law_great.mu } d__law_great.body = some d__law_great.m := by kernel_rfl
theorem sc__law_great : FnScope d__law_great.N d__law_great.ps d__law_great.scope := ⟨rfl, rfl, rfl, by decide +kernel, rfl, by decide +kernel, by decide +kernel⟩
theorem tr__law_fractions_right : trSs (rc 40) 120 { T0 with N := d__law_fractions_right.N, sc := d__law_fractions_right.scope, fn := fun _ => true, mu := d__law_fractions_right.mu } d__law_fractions_right.body = some d__law_fractions_right.m := by kernel_rfl
theorem sc__law_fractions_right : FnScope d__law_fractions_right.N d__law_fractions_right.ps d__law_fractions_right.scope := ⟨rfl, rfl, rfl, by decide +kernel, rfl, by decide +kernel, by decide +kernel⟩
theorem tr_law : trSs (rc 40) 120 { T0 with N := d_law.N, sc := d_law.scope, fn := fun _ => true, mu := d_law.mu } d_law.body = some d_law.m := by kernel_rfl
theorem sc_law : FnScope d_law.N d_law.ps d_law.scope := ⟨rfl, rfl, rfl, by decide +kernel, rfl, by decide +kernel, by decide +kernel⟩
end Dg
end

section
set_option Elab.async false
set_option linter.all false
set_option maxRecDepth 100000
set_option maxHeartbeats 0
namespace Dg
open PySem PySem.Spec L2
open PyProof.Rows hiding St
/-! ### the head -/
def exs : List ExD := [⟨"BadNumbers", "ValueError", "value", clsInit (top 3)⟩, ⟨"BadCounting", "ValueError", "place", clsInit (top 4)⟩, ⟨"BadFraction", "ValueError", "value", clsInit (top 5)⟩, ⟨"TooMany", "OverflowError", "most", clsInit (top 6)⟩]
def fnL : List He.DefD := [⟨("is_whole", none), "is_whole", "is_whole", defArgs (top 8), defBody (top 8), defScope (top 8), [.non], []⟩,
  ⟨("is_row", none), "is_row", "is_row", defArgs (top 9), defBody (top 9), defScope (top 9), [.non], []⟩,
  ⟨("are_wholes", none), "are_wholes", "are_wholes", defArgs (top 10), defBody (top 10), defScope (top 10), [.non], []⟩,
  ⟨("power_of", none), "power_of", "power_of", defArgs (top 11), defBody (top 11), defScope (top 11), [], []⟩,
  ⟨("ratio_of", none), "ratio_of", "ratio_of", defArgs (top 13), defBody (top 13), defScope (top 13), [], []⟩,
  ⟨("is_ratio", none), "is_ratio", "is_ratio", defArgs (top 14), defBody (top 14), defScope (top 14), [], []⟩,
  ⟨("need_fraction", none), "need_fraction", "need_fraction", defArgs (top 15), defBody (top 15), defScope (top 15), [], []⟩,
  ⟨("are_ratios", none), "are_ratios", "are_ratios", defArgs (top 16), defBody (top 16), defScope (top 16), [], []⟩,
  ⟨("sum_of_products", none), "sum_of_products", "sum_of_products", defArgs (top 18), defBody (top 18), defScope (top 18), [], []⟩,
  ⟨("row_times", none), "row_times", "row_times", defArgs (top 19), defBody (top 19), defScope (top 19), [], []⟩,
  ⟨("matrix_times", none), "matrix_times", "matrix_times", defArgs (top 20), defBody (top 20), defScope (top 20), [], []⟩,
  ⟨("is_base", none), "is_base", "is_base", defArgs (top 25), defBody (top 25), defScope (top 25), [], []⟩,
  ⟨("need_numbers", none), "need_numbers", "need_numbers", defArgs (top 26), defBody (top 26), defScope (top 26), [], []⟩,
  ⟨("columns_of", none), "columns_of", "columns_of", defArgs (top 27), defBody (top 27), defScope (top 27), [], []⟩,
  ⟨("has_form", none), "has_form", "has_form", defArgs (top 31), defBody (top 31), defScope (top 31), [], []⟩,
  ⟨("is_matrix", none), "is_matrix", "is_matrix", defArgs (top 32), defBody (top 32), defScope (top 32), [], []⟩,
  ⟨("counting_fault", none), "counting_fault", "counting_fault", defArgs (top 33), defBody (top 33), defScope (top 33), [], []⟩,
  ⟨("need_counting", none), "need_counting", "need_counting", defArgs (top 34), defBody (top 34), defScope (top 34), [], []⟩,
  ⟨("value_of", none), "value_of", "value_of", defArgs (top 35), defBody (top 35), defScope (top 35), [], []⟩,
  ⟨("_law_mixed", none), "_law_mixed", "_law_mixed", defArgs (top 37), defBody (top 37), defScope (top 37), [], []⟩,
  ⟨("_law_folded", none), "_law_folded", "_law_folded", defArgs (top 38), defBody (top 38), defScope (top 38), [], []⟩,
  ⟨("_law_draw", none), "_law_draw", "_law_draw", defArgs (top 39), defBody (top 39), defScope (top 39), [], []⟩,
  ⟨("_law_begun", none), "_law_begun", "_law_begun", defArgs (top 40), defBody (top 40), defScope (top 40), [], []⟩,
  ⟨("_law_of", none), "_law_of", "_law_of", defArgs (top 41), defBody (top 41), defScope (top 41), [], []⟩,
  ⟨("_law_like", none), "_law_like", "_law_like", defArgs (top 42), defBody (top 42), defScope (top 42), [], []⟩,
  ⟨("_law_power", none), "_law_power", "_law_power", defArgs (top 43), defBody (top 43), defScope (top 43), [], []⟩,
  ⟨("_law_columns", none), "_law_columns", "_law_columns", defArgs (top 44), defBody (top 44), defScope (top 44), [], []⟩,
  ⟨("_law_gcd", none), "_law_gcd", "_law_gcd", defArgs (top 45), defBody (top 45), defScope (top 45), [], []⟩,
  ⟨("_law_ratio", none), "_law_ratio", "_law_ratio", defArgs (top 46), defBody (top 46), defScope (top 46), [], []⟩,
  ⟨("_law_plus", none), "_law_plus", "_law_plus", defArgs (top 47), defBody (top 47), defScope (top 47), [], []⟩,
  ⟨("_law_mult", none), "_law_mult", "_law_mult", defArgs (top 48), defBody (top 48), defScope (top 48), [], []⟩,
  ⟨("_law_dot", none), "_law_dot", "_law_dot", defArgs (top 49), defBody (top 49), defScope (top 49), [], []⟩,
  ⟨("_law_along", none), "_law_along", "_law_along", defArgs (top 50), defBody (top 50), defScope (top 50), [], []⟩,
  ⟨("_law_worth", none), "_law_worth", "_law_worth", defArgs (top 51), defBody (top 51), defScope (top 51), [], []⟩,
  ⟨("_law_fraction", none), "_law_fraction", "_law_fraction", defArgs (top 52), defBody (top 52), defScope (top 52), [], []⟩,
  ⟨("_law_proofed", none), "_law_proofed", "_law_proofed", defArgs (top 53), defBody (top 53), defScope (top 53), [], []⟩,
  ⟨("_law_counting", none), "_law_counting", "_law_counting", defArgs (top 54), defBody (top 54), defScope (top 54), [], []⟩,
  ⟨("_law_whole", none), "_law_whole", "_law_whole", defArgs (top 55), defBody (top 55), defScope (top 55), [], []⟩,
  ⟨("_law_is_fraction", none), "_law_is_fraction", "_law_is_fraction", defArgs (top 56), defBody (top 56), defScope (top 56), [], []⟩,
  ⟨("_law_are_fractions", none), "_law_are_fractions", "_law_are_fractions", defArgs (top 57), defBody (top 57), defScope (top 57), [], []⟩,
  ⟨("_law_formless", none), "_law_formless", "_law_formless", defArgs (top 58), defBody (top 58), defScope (top 58), [], []⟩,
  ⟨("_law_fault", none), "_law_fault", "_law_fault", defArgs (top 59), defBody (top 59), defScope (top 59), [], []⟩,
  ⟨("_law_odd", none), "_law_odd", "_law_odd", defArgs (top 60), defBody (top 60), defScope (top 60), [], []⟩,
  ⟨("_law_put", none), "_law_put", "_law_put", defArgs (top 61), defBody (top 61), defScope (top 61), [], []⟩,
  ⟨("_law_row_spoilt", none), "_law_row_spoilt", "_law_row_spoilt", defArgs (top 62), defBody (top 62), defScope (top 62), [], []⟩,
  ⟨("_law_matrix_spoilt", none), "_law_matrix_spoilt", "_law_matrix_spoilt", defArgs (top 63), defBody (top 63), defScope (top 63), [], []⟩,
  ⟨("_law_spoilt", none), "_law_spoilt", "_law_spoilt", defArgs (top 64), defBody (top 64), defScope (top 64), [], []⟩,
  ⟨("_law_judged", none), "_law_judged", "_law_judged", defArgs (top 65), defBody (top 65), defScope (top 65), [], []⟩,
  ⟨("_law_noughts", none), "_law_noughts", "_law_noughts", defArgs (top 66), defBody (top 66), defScope (top 66), [], []⟩,
  ⟨("_law_heard", none), "_law_heard", "_law_heard", defArgs (top 67), defBody (top 67), defScope (top 67), [], []⟩,
  ⟨("_law_valued", none), "_law_valued", "_law_valued", defArgs (top 68), defBody (top 68), defScope (top 68), [], []⟩,
  ⟨("_law_great", none), "_law_great", "_law_great", defArgs (top 69), defBody (top 69), defScope (top 69), [], []⟩,
  ⟨("_law_fractions_right", none), "_law_fractions_right", "_law_fractions_right", defArgs (top 70), defBody (top 70), defScope (top 70), [], []⟩,
  ⟨("law", none), "law", "law", defArgs (top 71), defBody (top 71), defScope (top 71), [], []⟩]
def fa0 : List He.Fa := [.glo "is_whole", .glo "is_row", .glo "are_wholes", .glo "power_of", .glo "ratio_of", .glo "is_ratio", .glo "need_fraction", .glo "are_ratios", .glo "sum_of_products", .glo "row_times", .glo "matrix_times", .glo "is_base", .glo "need_numbers", .glo "columns_of", .glo "has_form", .glo "is_matrix", .glo "counting_fault", .glo "need_counting", .glo "value_of", .glo "_law_mixed", .glo "_law_folded", .glo "_law_draw", .glo "_law_begun", .glo "_law_of", .glo "_law_like", .glo "_law_power", .glo "_law_columns", .glo "_law_gcd", .glo "_law_ratio", .glo "_law_plus"]
def fa1 : List He.Fa := [.glo "_law_mult", .glo "_law_dot", .glo "_law_along", .glo "_law_worth", .glo "_law_fraction", .glo "_law_proofed", .glo "_law_counting", .glo "_law_whole", .glo "_law_is_fraction", .glo "_law_are_fractions", .glo "_law_formless", .glo "_law_fault", .glo "_law_odd", .glo "_law_put", .glo "_law_row_spoilt", .glo "_law_matrix_spoilt", .glo "_law_spoilt", .glo "_law_judged", .glo "_law_noughts", .glo "_law_heard", .glo "_law_valued", .glo "_law_great", .glo "_law_fractions_right", .glo "law", .glo "BadNumbers", .glo "BadCounting", .glo "BadFraction", .glo "TooMany", .free "len", .free "int"]
def fa2 : List He.Fa := [.free "str", .free "list", .free "tuple", .free "all", .free "any", .free "sum", .free "min", .free "max", .free "abs", .free "range", .free "enumerate", .free "zip", .free "isinstance", .free "bool", .free "dict", .free "super", .int "MOST_BASE" (10), .int "MOST_TRACKS" (6), .int "MOST_SIZE" (20000), .int "MOST_DIMENSION" (40), .int "MOST_WORK" (100000), .exm "BadNumbers" "BadNumbers" true, .exm "BadNumbers" "BadCounting" false, .exm "BadNumbers" "BadFraction" false, .exm "BadNumbers" "TooMany" false, .exm "BadCounting" "BadNumbers" false, .exm "BadCounting" "BadCounting" true, .exm "BadCounting" "BadFraction" false, .exm "BadCounting" "TooMany" false, .exm "BadFraction" "BadNumbers" false]
def fa3 : List He.Fa := [.exm "BadFraction" "BadCounting" false, .exm "BadFraction" "BadFraction" true, .exm "BadFraction" "TooMany" false, .exm "TooMany" "BadNumbers" false, .exm "TooMany" "BadCounting" false, .exm "TooMany" "BadFraction" false, .exm "TooMany" "TooMany" true]
def faL : List He.Fa := fa0 ++ fa1 ++ fa2 ++ fa3
def loose0 : List PySem.Str := ["SaidError", "BadNumbers", "BadCounting", "BadFraction", "TooMany", "is_whole", "is_row", "are_wholes", "power_of", "ratio_of", "is_ratio", "need_fraction", "are_ratios", "sum_of_products", "row_times", "matrix_times", "MOST_BASE", "MOST_TRACKS", "MOST_SIZE", "is_base", "need_numbers", "columns_of", "MOST_DIMENSION", "MOST_WORK", "has_form", "is_matrix", "counting_fault", "need_counting", "value_of"]
def loose1 : List PySem.Str := ["_law_mixed", "_law_folded", "_law_draw", "_law_begun", "_law_of", "_law_like", "_law_power", "_law_columns", "_law_gcd", "_law_ratio", "_law_plus", "_law_mult", "_law_dot", "_law_along", "_law_worth", "_law_fraction", "_law_proofed", "_law_counting", "_law_whole", "_law_is_fraction", "_law_are_fractions", "_law_formless", "_law_fault", "_law_odd", "_law_put", "_law_row_spoilt", "_law_matrix_spoilt", "_law_spoilt", "_law_judged", "_law_noughts"]
def loose2 : List PySem.Str := ["_law_heard", "_law_valued", "_law_great", "_law_fractions_right"]
def looseL : List PySem.Str := loose0 ++ loose1 ++ loose2
def tbs : List Tb := T0.tabs
abbrev RO : PySem.W.OpenRow := PySem.W.OpenLaw.row PySem.Challenge.rw_digitsay_k24_countings_judged_and_valued
abbrev hk : PySem.W.Hook := hookT 5 "/claim/cut.py" faL fnL exs tbs T0.bfs
def ob (s : PySem.W.SharedT) : AlT := obsTG 5 "/claim/cut.py" faL fnL exs tbs T0.bfs (HandSHeadRun.getT s)
theorem ob_eq (s : PySem.W.SharedT) : ob s = hk.obs s.abs := obsTG_eq (HandSHeadRun.getT_eq s)
theorem runH (w : World) : HandSHeadRun.RunEqI RO (PySem.W.view RO.prog [0, 71]) hk ob 4000 looseL w := by
  unfold HandSHeadRun.RunEqI; kernel_rfl
end Dg
end

section
set_option Elab.async false
set_option linter.all false
set_option maxRecDepth 100000
set_option maxHeartbeats 0
namespace Dg
open PySem PySem.Spec L2
open PyProof.Rows hiding St
def x0 : ExD := ⟨"BadNumbers", "ValueError", "value", clsInit (top 3)⟩
theorem ext0 : ExT x0 := ⟨.inl rfl, ⟨_, _, _, _, _, _, _, _, _, _, _, _, _, _, _, rfl, rfl, rfl, by decide, fun _ _ _ _ _ _ _ _ _ _ _ _ _ => rfl, rfl, rfl, rfl, by decide +kernel, rfl, rfl, rfl, rfl, rfl, rfl, rfl⟩⟩
def x1 : ExD := ⟨"BadCounting", "ValueError", "place", clsInit (top 4)⟩
theorem ext1 : ExT x1 := ⟨.inl rfl, ⟨_, _, _, _, _, _, _, _, _, _, _, _, _, _, _, rfl, rfl, rfl, by decide, fun _ _ _ _ _ _ _ _ _ _ _ _ _ => rfl, rfl, rfl, rfl, by decide +kernel, rfl, rfl, rfl, rfl, rfl, rfl, rfl⟩⟩
def x2 : ExD := ⟨"BadFraction", "ValueError", "value", clsInit (top 5)⟩
theorem ext2 : ExT x2 := ⟨.inl rfl, ⟨_, _, _, _, _, _, _, _, _, _, _, _, _, _, _, rfl, rfl, rfl, by decide, fun _ _ _ _ _ _ _ _ _ _ _ _ _ => rfl, rfl, rfl, rfl, by decide +kernel, rfl, rfl, rfl, rfl, rfl, rfl, rfl⟩⟩
def x3 : ExD := ⟨"TooMany", "OverflowError", "most", clsInit (top 6)⟩
theorem ext3 : ExT x3 := ⟨.inr (.inl rfl), ⟨_, _, _, _, _, _, _, _, _, _, _, _, _, _, _, rfl, rfl, rfl, by decide, fun _ _ _ _ _ _ _ _ _ _ _ _ _ => rfl, rfl, rfl, rfl, by decide +kernel, rfl, rfl, rfl, rfl, rfl, rfl, rfl⟩⟩
section
variable {w : World} {K : PySem.W.Frag} {h base : Heap} {mg : Str → Option Value}
abbrev Says (w : World) (K : PySem.W.Frag) : Prop := SaysT "/claim/cut.py" faL fnL exs tbs T0.bfs w K
abbrev PP : Program := PySem.Challenge.pw_digitsay_k24_countings_judged_and_valued
theorem fn_is_whole (c : Says w K) : FunD K d_is_whole.x d_is_whole.qual d_is_whole.params d_is_whole.body d_is_whole.scope d_is_whole.dvs [] ((PRof K).fa 0) ((PRof K).fd 0) := fdAt_ok (c.d.def_ 0 rfl)
theorem fn_is_row (c : Says w K) : FunD K d_is_row.x d_is_row.qual d_is_row.params d_is_row.body d_is_row.scope d_is_row.dvs [] ((PRof K).fa 1) ((PRof K).fd 1) := fdAt_ok (c.d.def_ 1 rfl)
theorem fn_are_wholes (c : Says w K) : FunD K d_are_wholes.x d_are_wholes.qual d_are_wholes.params d_are_wholes.body d_are_wholes.scope d_are_wholes.dvs [] ((PRof K).fa 2) ((PRof K).fd 2) := fdAt_ok (c.d.def_ 2 rfl)
theorem fn_power_of (c : Says w K) : FunD K d_power_of.x d_power_of.qual d_power_of.params d_power_of.body d_power_of.scope d_power_of.dvs [] ((PRof K).fa 3) ((PRof K).fd 3) := fdAt_ok (c.d.def_ 3 rfl)
theorem fn_ratio_of (c : Says w K) : FunD K d_ratio_of.x d_ratio_of.qual d_ratio_of.params d_ratio_of.body d_ratio_of.scope d_ratio_of.dvs [] ((PRof K).fa 4) ((PRof K).fd 4) := fdAt_ok (c.d.def_ 4 rfl)
theorem fn_is_ratio (c : Says w K) : FunD K d_is_ratio.x d_is_ratio.qual d_is_ratio.params d_is_ratio.body d_is_ratio.scope d_is_ratio.dvs [] ((PRof K).fa 5) ((PRof K).fd 5) := fdAt_ok (c.d.def_ 5 rfl)
theorem fn_need_fraction (c : Says w K) : FunD K d_need_fraction.x d_need_fraction.qual d_need_fraction.params d_need_fraction.body d_need_fraction.scope d_need_fraction.dvs [] ((PRof K).fa 6) ((PRof K).fd 6) := fdAt_ok (c.d.def_ 6 rfl)
theorem fn_are_ratios (c : Says w K) : FunD K d_are_ratios.x d_are_ratios.qual d_are_ratios.params d_are_ratios.body d_are_ratios.scope d_are_ratios.dvs [] ((PRof K).fa 7) ((PRof K).fd 7) := fdAt_ok (c.d.def_ 7 rfl)
theorem fn_sum_of_products (c : Says w K) : FunD K d_sum_of_products.x d_sum_of_products.qual d_sum_of_products.params d_sum_of_products.body d_sum_of_products.scope d_sum_of_products.dvs [] ((PRof K).fa 8) ((PRof K).fd 8) := fdAt_ok (c.d.def_ 8 rfl)
theorem fn_row_times (c : Says w K) : FunD K d_row_times.x d_row_times.qual d_row_times.params d_row_times.body d_row_times.scope d_row_times.dvs [] ((PRof K).fa 9) ((PRof K).fd 9) := fdAt_ok (c.d.def_ 9 rfl)
theorem fn_matrix_times (c : Says w K) : FunD K d_matrix_times.x d_matrix_times.qual d_matrix_times.params d_matrix_times.body d_matrix_times.scope d_matrix_times.dvs [] ((PRof K).fa 10) ((PRof K).fd 10) := fdAt_ok (c.d.def_ 10 rfl)
theorem fn_is_base (c : Says w K) : FunD K d_is_base.x d_is_base.qual d_is_base.params d_is_base.body d_is_base.scope d_is_base.dvs [] ((PRof K).fa 11) ((PRof K).fd 11) := fdAt_ok (c.d.def_ 11 rfl)
theorem fn_need_numbers (c : Says w K) : FunD K d_need_numbers.x d_need_numbers.qual d_need_numbers.params d_need_numbers.body d_need_numbers.scope d_need_numbers.dvs [] ((PRof K).fa 12) ((PRof K).fd 12) := fdAt_ok (c.d.def_ 12 rfl)
theorem fn_columns_of (c : Says w K) : FunD K d_columns_of.x d_columns_of.qual d_columns_of.params d_columns_of.body d_columns_of.scope d_columns_of.dvs [] ((PRof K).fa 13) ((PRof K).fd 13) := fdAt_ok (c.d.def_ 13 rfl)
theorem fn_has_form (c : Says w K) : FunD K d_has_form.x d_has_form.qual d_has_form.params d_has_form.body d_has_form.scope d_has_form.dvs [] ((PRof K).fa 14) ((PRof K).fd 14) := fdAt_ok (c.d.def_ 14 rfl)
theorem fn_is_matrix (c : Says w K) : FunD K d_is_matrix.x d_is_matrix.qual d_is_matrix.params d_is_matrix.body d_is_matrix.scope d_is_matrix.dvs [] ((PRof K).fa 15) ((PRof K).fd 15) := fdAt_ok (c.d.def_ 15 rfl)
theorem fn_counting_fault (c : Says w K) : FunD K d_counting_fault.x d_counting_fault.qual d_counting_fault.params d_counting_fault.body d_counting_fault.scope d_counting_fault.dvs [] ((PRof K).fa 16) ((PRof K).fd 16) := fdAt_ok (c.d.def_ 16 rfl)
theorem fn_need_counting (c : Says w K) : FunD K d_need_counting.x d_need_counting.qual d_need_counting.params d_need_counting.body d_need_counting.scope d_need_counting.dvs [] ((PRof K).fa 17) ((PRof K).fd 17) := fdAt_ok (c.d.def_ 17 rfl)
theorem fn_value_of (c : Says w K) : FunD K d_value_of.x d_value_of.qual d_value_of.params d_value_of.body d_value_of.scope d_value_of.dvs [] ((PRof K).fa 18) ((PRof K).fd 18) := fdAt_ok (c.d.def_ 18 rfl)
theorem fn__law_mixed (c : Says w K) : FunD K d__law_mixed.x d__law_mixed.qual d__law_mixed.params d__law_mixed.body d__law_mixed.scope d__law_mixed.dvs [] ((PRof K).fa 19) ((PRof K).fd 19) := fdAt_ok (c.d.def_ 19 rfl)
theorem fn__law_folded (c : Says w K) : FunD K d__law_folded.x d__law_folded.qual d__law_folded.params d__law_folded.body d__law_folded.scope d__law_folded.dvs [] ((PRof K).fa 20) ((PRof K).fd 20) := fdAt_ok (c.d.def_ 20 rfl)
theorem fn__law_draw (c : Says w K) : FunD K d__law_draw.x d__law_draw.qual d__law_draw.params d__law_draw.body d__law_draw.scope d__law_draw.dvs [] ((PRof K).fa 21) ((PRof K).fd 21) := fdAt_ok (c.d.def_ 21 rfl)
theorem fn__law_begun (c : Says w K) : FunD K d__law_begun.x d__law_begun.qual d__law_begun.params d__law_begun.body d__law_begun.scope d__law_begun.dvs [] ((PRof K).fa 22) ((PRof K).fd 22) := fdAt_ok (c.d.def_ 22 rfl)
theorem fn__law_of (c : Says w K) : FunD K d__law_of.x d__law_of.qual d__law_of.params d__law_of.body d__law_of.scope d__law_of.dvs [] ((PRof K).fa 23) ((PRof K).fd 23) := fdAt_ok (c.d.def_ 23 rfl)
theorem fn__law_like (c : Says w K) : FunD K d__law_like.x d__law_like.qual d__law_like.params d__law_like.body d__law_like.scope d__law_like.dvs [] ((PRof K).fa 24) ((PRof K).fd 24) := fdAt_ok (c.d.def_ 24 rfl)
theorem fn__law_power (c : Says w K) : FunD K d__law_power.x d__law_power.qual d__law_power.params d__law_power.body d__law_power.scope d__law_power.dvs [] ((PRof K).fa 25) ((PRof K).fd 25) := fdAt_ok (c.d.def_ 25 rfl)
theorem fn__law_columns (c : Says w K) : FunD K d__law_columns.x d__law_columns.qual d__law_columns.params d__law_columns.body d__law_columns.scope d__law_columns.dvs [] ((PRof K).fa 26) ((PRof K).fd 26) := fdAt_ok (c.d.def_ 26 rfl)
theorem fn__law_gcd (c : Says w K) : FunD K d__law_gcd.x d__law_gcd.qual d__law_gcd.params d__law_gcd.body d__law_gcd.scope d__law_gcd.dvs [] ((PRof K).fa 27) ((PRof K).fd 27) := fdAt_ok (c.d.def_ 27 rfl)
theorem fn__law_ratio (c : Says w K) : FunD K d__law_ratio.x d__law_ratio.qual d__law_ratio.params d__law_ratio.body d__law_ratio.scope d__law_ratio.dvs [] ((PRof K).fa 28) ((PRof K).fd 28) := fdAt_ok (c.d.def_ 28 rfl)
theorem fn__law_plus (c : Says w K) : FunD K d__law_plus.x d__law_plus.qual d__law_plus.params d__law_plus.body d__law_plus.scope d__law_plus.dvs [] ((PRof K).fa 29) ((PRof K).fd 29) := fdAt_ok (c.d.def_ 29 rfl)
theorem fn__law_mult (c : Says w K) : FunD K d__law_mult.x d__law_mult.qual d__law_mult.params d__law_mult.body d__law_mult.scope d__law_mult.dvs [] ((PRof K).fa 30) ((PRof K).fd 30) := fdAt_ok (c.d.def_ 30 rfl)
theorem fn__law_dot (c : Says w K) : FunD K d__law_dot.x d__law_dot.qual d__law_dot.params d__law_dot.body d__law_dot.scope d__law_dot.dvs [] ((PRof K).fa 31) ((PRof K).fd 31) := fdAt_ok (c.d.def_ 31 rfl)
theorem fn__law_along (c : Says w K) : FunD K d__law_along.x d__law_along.qual d__law_along.params d__law_along.body d__law_along.scope d__law_along.dvs [] ((PRof K).fa 32) ((PRof K).fd 32) := fdAt_ok (c.d.def_ 32 rfl)
theorem fn__law_worth (c : Says w K) : FunD K d__law_worth.x d__law_worth.qual d__law_worth.params d__law_worth.body d__law_worth.scope d__law_worth.dvs [] ((PRof K).fa 33) ((PRof K).fd 33) := fdAt_ok (c.d.def_ 33 rfl)
theorem fn__law_fraction (c : Says w K) : FunD K d__law_fraction.x d__law_fraction.qual d__law_fraction.params d__law_fraction.body d__law_fraction.scope d__law_fraction.dvs [] ((PRof K).fa 34) ((PRof K).fd 34) := fdAt_ok (c.d.def_ 34 rfl)
theorem fn__law_proofed (c : Says w K) : FunD K d__law_proofed.x d__law_proofed.qual d__law_proofed.params d__law_proofed.body d__law_proofed.scope d__law_proofed.dvs [] ((PRof K).fa 35) ((PRof K).fd 35) := fdAt_ok (c.d.def_ 35 rfl)
theorem fn__law_counting (c : Says w K) : FunD K d__law_counting.x d__law_counting.qual d__law_counting.params d__law_counting.body d__law_counting.scope d__law_counting.dvs [] ((PRof K).fa 36) ((PRof K).fd 36) := fdAt_ok (c.d.def_ 36 rfl)
theorem fn__law_whole (c : Says w K) : FunD K d__law_whole.x d__law_whole.qual d__law_whole.params d__law_whole.body d__law_whole.scope d__law_whole.dvs [] ((PRof K).fa 37) ((PRof K).fd 37) := fdAt_ok (c.d.def_ 37 rfl)
theorem fn__law_is_fraction (c : Says w K) : FunD K d__law_is_fraction.x d__law_is_fraction.qual d__law_is_fraction.params d__law_is_fraction.body d__law_is_fraction.scope d__law_is_fraction.dvs [] ((PRof K).fa 38) ((PRof K).fd 38) := fdAt_ok (c.d.def_ 38 rfl)
theorem fn__law_are_fractions (c : Says w K) : FunD K d__law_are_fractions.x d__law_are_fractions.qual d__law_are_fractions.params d__law_are_fractions.body d__law_are_fractions.scope d__law_are_fractions.dvs [] ((PRof K).fa 39) ((PRof K).fd 39) := fdAt_ok (c.d.def_ 39 rfl)
theorem fn__law_formless (c : Says w K) : FunD K d__law_formless.x d__law_formless.qual d__law_formless.params d__law_formless.body d__law_formless.scope d__law_formless.dvs [] ((PRof K).fa 40) ((PRof K).fd 40) := fdAt_ok (c.d.def_ 40 rfl)
theorem fn__law_fault (c : Says w K) : FunD K d__law_fault.x d__law_fault.qual d__law_fault.params d__law_fault.body d__law_fault.scope d__law_fault.dvs [] ((PRof K).fa 41) ((PRof K).fd 41) := fdAt_ok (c.d.def_ 41 rfl)
theorem fn__law_odd (c : Says w K) : FunD K d__law_odd.x d__law_odd.qual d__law_odd.params d__law_odd.body d__law_odd.scope d__law_odd.dvs [] ((PRof K).fa 42) ((PRof K).fd 42) := fdAt_ok (c.d.def_ 42 rfl)
theorem fn__law_put (c : Says w K) : FunD K d__law_put.x d__law_put.qual d__law_put.params d__law_put.body d__law_put.scope d__law_put.dvs [] ((PRof K).fa 43) ((PRof K).fd 43) := fdAt_ok (c.d.def_ 43 rfl)
theorem fn__law_row_spoilt (c : Says w K) : FunD K d__law_row_spoilt.x d__law_row_spoilt.qual d__law_row_spoilt.params d__law_row_spoilt.body d__law_row_spoilt.scope d__law_row_spoilt.dvs [] ((PRof K).fa 44) ((PRof K).fd 44) := fdAt_ok (c.d.def_ 44 rfl)
theorem fn__law_matrix_spoilt (c : Says w K) : FunD K d__law_matrix_spoilt.x d__law_matrix_spoilt.qual d__law_matrix_spoilt.params d__law_matrix_spoilt.body d__law_matrix_spoilt.scope d__law_matrix_spoilt.dvs [] ((PRof K).fa 45) ((PRof K).fd 45) := fdAt_ok (c.d.def_ 45 rfl)
theorem fn__law_spoilt (c : Says w K) : FunD K d__law_spoilt.x d__law_spoilt.qual d__law_spoilt.params d__law_spoilt.body d__law_spoilt.scope d__law_spoilt.dvs [] ((PRof K).fa 46) ((PRof K).fd 46) := fdAt_ok (c.d.def_ 46 rfl)
theorem fn__law_judged (c : Says w K) : FunD K d__law_judged.x d__law_judged.qual d__law_judged.params d__law_judged.body d__law_judged.scope d__law_judged.dvs [] ((PRof K).fa 47) ((PRof K).fd 47) := fdAt_ok (c.d.def_ 47 rfl)
theorem fn__law_noughts (c : Says w K) : FunD K d__law_noughts.x d__law_noughts.qual d__law_noughts.params d__law_noughts.body d__law_noughts.scope d__law_noughts.dvs [] ((PRof K).fa 48) ((PRof K).fd 48) := fdAt_ok (c.d.def_ 48 rfl)
theorem fn__law_heard (c : Says w K) : FunD K d__law_heard.x d__law_heard.qual d__law_heard.params d__law_heard.body d__law_heard.scope d__law_heard.dvs [] ((PRof K).fa 49) ((PRof K).fd 49) := fdAt_ok (c.d.def_ 49 rfl)
theorem fn__law_valued (c : Says w K) : FunD K d__law_valued.x d__law_valued.qual d__law_valued.params d__law_valued.body d__law_valued.scope d__law_valued.dvs [] ((PRof K).fa 50) ((PRof K).fd 50) := fdAt_ok (c.d.def_ 50 rfl)
theorem fn__law_great (c : Says w K) : FunD K d__law_great.x d__law_great.qual d__law_great.params d__law_great.body d__law_great.scope d__law_great.dvs [] ((PRof K).fa 51) ((PRof K).fd 51) := fdAt_ok (c.d.def_ 51 rfl)
theorem fn__law_fractions_right (c : Says w K) : FunD K d__law_fractions_right.x d__law_fractions_right.qual d__law_fractions_right.params d__law_fractions_right.body d__law_fractions_right.scope d__law_fractions_right.dvs [] ((PRof K).fa 52) ((PRof K).fd 52) := fdAt_ok (c.d.def_ 52 rfl)
theorem fn_law (c : Says w K) : FunD K d_law.x d_law.qual d_law.params d_law.body d_law.scope d_law.dvs [] ((PRof K).fa 53) ((PRof K).fd 53) := fdAt_ok (c.d.def_ 53 rfl)
theorem call0 (c : Says w K) : CallB K ((PRof K).fd 1) d_is_row.ps 1 [] (idPerm 1 ++ [.inr .non]) := callD (fn_is_row c) (n := 1) 0 (by simp [d_is_row]) rfl [.non] (fun _ => .cons .non (.nil)) fun _ _ _ _ _ _ _ us its h1 h2 => match us, its, h1, h2 with | [_], [_], _, _ => ⟨_, rfl, rfl⟩
theorem call1 (c : Says w K) : CallB K ((PRof K).fd 0) d_is_whole.ps 3 [] (idPerm 3) := callD (fn_is_whole c) (n := 3) 1 (by simp [d_is_whole]) rfl [] (fun _ => .nil) fun _ _ _ _ _ _ _ us its h1 h2 => match us, its, h1, h2 with | [_, _, _], [_], _, _ => ⟨_, rfl, rfl⟩
theorem call2 (c : Says w K) : CallB K ((PRof K).fd 1) d_is_row.ps 2 [] (idPerm 2) := callD (fn_is_row c) (n := 2) 1 (by simp [d_is_row]) rfl [] (fun _ => .nil) fun _ _ _ _ _ _ _ us its h1 h2 => match us, its, h1, h2 with | [_, _], [_], _, _ => ⟨_, rfl, rfl⟩
theorem call3 (c : Says w K) : CallB K ((PRof K).fd 0) d_is_whole.ps 2 [] (idPerm 2 ++ [.inr .non]) := callD (fn_is_whole c) (n := 2) 0 (by simp [d_is_whole]) rfl [.non] (fun _ => .cons .non (.nil)) fun _ _ _ _ _ _ _ us its h1 h2 => match us, its, h1, h2 with | [_, _], [_], _, _ => ⟨_, rfl, rfl⟩
theorem call4 (c : Says w K) : CallB K ((PRof K).fd 5) d_is_ratio.ps 1 [] (idPerm 1) := callA (fn_is_ratio c) (n := 1) (ks := []) rfl fun _ _ _ _ _ _ us ws h1 h2 => match us, ws, h1, h2 with | [_], [], _, _ => rfl
theorem call5 (c : Says w K) : CallB K ((PRof K).fd 4) d_ratio_of.ps 2 [] (idPerm 2) := callA (fn_ratio_of c) (n := 2) (ks := []) rfl fun _ _ _ _ _ _ us ws h1 h2 => match us, ws, h1, h2 with | [_, _], [], _, _ => rfl
theorem call6 (c : Says w K) : CallB K ((PRof K).fd 8) d_sum_of_products.ps 2 [] (idPerm 2) := callA (fn_sum_of_products c) (n := 2) (ks := []) rfl fun _ _ _ _ _ _ us ws h1 h2 => match us, ws, h1, h2 with | [_, _], [], _, _ => rfl
theorem call7 (c : Says w K) : CallB K ((PRof K).fd 2) d_are_wholes.ps 2 [] (idPerm 2 ++ [.inr .non]) := callD (fn_are_wholes c) (n := 2) 0 (by simp [d_are_wholes]) rfl [.non] (fun _ => .cons .non (.nil)) fun _ _ _ _ _ _ _ us its h1 h2 => match us, its, h1, h2 with | [_, _], [_], _, _ => ⟨_, rfl, rfl⟩
theorem call8 (c : Says w K) : CallB K ((PRof K).fd 3) d_power_of.ps 2 [] (idPerm 2) := callA (fn_power_of c) (n := 2) (ks := []) rfl fun _ _ _ _ _ _ us ws h1 h2 => match us, ws, h1, h2 with | [_, _], [], _, _ => rfl
theorem call9 (c : Says w K) : CallB K ((PRof K).fd 11) d_is_base.ps 1 [] (idPerm 1) := callA (fn_is_base c) (n := 1) (ks := []) rfl fun _ _ _ _ _ _ us ws h1 h2 => match us, ws, h1, h2 with | [_], [], _, _ => rfl
theorem call10 (c : Says w K) : CallB K ((PRof K).fd 7) d_are_ratios.ps 2 [] (idPerm 2) := callA (fn_are_ratios c) (n := 2) (ks := []) rfl fun _ _ _ _ _ _ us ws h1 h2 => match us, ws, h1, h2 with | [_, _], [], _, _ => rfl
theorem call11 (c : Says w K) : CallB K ((PRof K).fd 14) d_has_form.ps 1 [] (idPerm 1) := callA (fn_has_form c) (n := 1) (ks := []) rfl fun _ _ _ _ _ _ us ws h1 h2 => match us, ws, h1, h2 with | [_], [], _, _ => rfl
theorem call12 (c : Says w K) : CallB K ((PRof K).fd 10) d_matrix_times.ps 2 [] (idPerm 2) := callA (fn_matrix_times c) (n := 2) (ks := []) rfl fun _ _ _ _ _ _ us ws h1 h2 => match us, ws, h1, h2 with | [_, _], [], _, _ => rfl
theorem call13 (c : Says w K) : CallB K ((PRof K).fd 15) d_is_matrix.ps 2 [] (idPerm 2) := callA (fn_is_matrix c) (n := 2) (ks := []) rfl fun _ _ _ _ _ _ us ws h1 h2 => match us, ws, h1, h2 with | [_, _], [], _, _ => rfl
theorem call14 (c : Says w K) : CallB K ((PRof K).fd 16) d_counting_fault.ps 1 [] (idPerm 1) := callA (fn_counting_fault c) (n := 1) (ks := []) rfl fun _ _ _ _ _ _ us ws h1 h2 => match us, ws, h1, h2 with | [_], [], _, _ => rfl
theorem call15 (c : Says w K) : CallB K ((PRof K).fd 17) d_need_counting.ps 1 [] (idPerm 1) := callA (fn_need_counting c) (n := 1) (ks := []) rfl fun _ _ _ _ _ _ us ws h1 h2 => match us, ws, h1, h2 with | [_], [], _, _ => rfl
theorem call16 (c : Says w K) : CallB K ((PRof K).fd 12) d_need_numbers.ps 2 [] (idPerm 2) := callA (fn_need_numbers c) (n := 2) (ks := []) rfl fun _ _ _ _ _ _ us ws h1 h2 => match us, ws, h1, h2 with | [_, _], [], _, _ => rfl
theorem call17 (c : Says w K) : CallB K ((PRof K).fd 13) d_columns_of.ps 2 [] (idPerm 2) := callA (fn_columns_of c) (n := 2) (ks := []) rfl fun _ _ _ _ _ _ us ws h1 h2 => match us, ws, h1, h2 with | [_, _], [], _, _ => rfl
theorem call18 (c : Says w K) : CallB K ((PRof K).fd 9) d_row_times.ps 2 [] (idPerm 2) := callA (fn_row_times c) (n := 2) (ks := []) rfl fun _ _ _ _ _ _ us ws h1 h2 => match us, ws, h1, h2 with | [_, _], [], _, _ => rfl
theorem call19 (c : Says w K) : CallB K ((PRof K).fd 19) d__law_mixed.ps 2 [] (idPerm 2) := callA (fn__law_mixed c) (n := 2) (ks := []) rfl fun _ _ _ _ _ _ us ws h1 h2 => match us, ws, h1, h2 with | [_, _], [], _, _ => rfl
theorem call20 (c : Says w K) : CallB K ((PRof K).fd 20) d__law_folded.ps 1 [] (idPerm 1) := callA (fn__law_folded c) (n := 1) (ks := []) rfl fun _ _ _ _ _ _ us ws h1 h2 => match us, ws, h1, h2 with | [_], [], _, _ => rfl
theorem call21 (c : Says w K) : CallB K ((PRof K).fd 21) d__law_draw.ps 2 [] (idPerm 2) := callA (fn__law_draw c) (n := 2) (ks := []) rfl fun _ _ _ _ _ _ us ws h1 h2 => match us, ws, h1, h2 with | [_, _], [], _, _ => rfl
theorem call22 (c : Says w K) : CallB K ((PRof K).fd 24) d__law_like.ps 2 [] (idPerm 2) := callA (fn__law_like c) (n := 2) (ks := []) rfl fun _ _ _ _ _ _ us ws h1 h2 => match us, ws, h1, h2 with | [_, _], [], _, _ => rfl
theorem call23 (c : Says w K) : CallB K ((PRof K).fd 27) d__law_gcd.ps 2 [] (idPerm 2) := callA (fn__law_gcd c) (n := 2) (ks := []) rfl fun _ _ _ _ _ _ us ws h1 h2 => match us, ws, h1, h2 with | [_, _], [], _, _ => rfl
theorem call24 (c : Says w K) : CallB K ((PRof K).fd 28) d__law_ratio.ps 2 [] (idPerm 2) := callA (fn__law_ratio c) (n := 2) (ks := []) rfl fun _ _ _ _ _ _ us ws h1 h2 => match us, ws, h1, h2 with | [_, _], [], _, _ => rfl
theorem call25 (c : Says w K) : CallB K ((PRof K).fd 29) d__law_plus.ps 2 [] (idPerm 2) := callA (fn__law_plus c) (n := 2) (ks := []) rfl fun _ _ _ _ _ _ us ws h1 h2 => match us, ws, h1, h2 with | [_, _], [], _, _ => rfl
theorem call26 (c : Says w K) : CallB K ((PRof K).fd 30) d__law_mult.ps 2 [] (idPerm 2) := callA (fn__law_mult c) (n := 2) (ks := []) rfl fun _ _ _ _ _ _ us ws h1 h2 => match us, ws, h1, h2 with | [_, _], [], _, _ => rfl
theorem call27 (c : Says w K) : CallB K ((PRof K).fd 31) d__law_dot.ps 2 [] (idPerm 2) := callA (fn__law_dot c) (n := 2) (ks := []) rfl fun _ _ _ _ _ _ us ws h1 h2 => match us, ws, h1, h2 with | [_, _], [], _, _ => rfl
theorem call28 (c : Says w K) : CallB K ((PRof K).fd 26) d__law_columns.ps 2 [] (idPerm 2) := callA (fn__law_columns c) (n := 2) (ks := []) rfl fun _ _ _ _ _ _ us ws h1 h2 => match us, ws, h1, h2 with | [_, _], [], _, _ => rfl
theorem call29 (c : Says w K) : CallB K ((PRof K).fd 32) d__law_along.ps 2 [] (idPerm 2) := callA (fn__law_along c) (n := 2) (ks := []) rfl fun _ _ _ _ _ _ us ws h1 h2 => match us, ws, h1, h2 with | [_, _], [], _, _ => rfl
theorem call30 (c : Says w K) : CallB K ((PRof K).fd 34) d__law_fraction.ps 1 [] (idPerm 1) := callA (fn__law_fraction c) (n := 1) (ks := []) rfl fun _ _ _ _ _ _ us ws h1 h2 => match us, ws, h1, h2 with | [_], [], _, _ => rfl
theorem call31 (c : Says w K) : CallB K ((PRof K).fd 25) d__law_power.ps 2 [] (idPerm 2) := callA (fn__law_power c) (n := 2) (ks := []) rfl fun _ _ _ _ _ _ us ws h1 h2 => match us, ws, h1, h2 with | [_, _], [], _, _ => rfl
theorem call32 (c : Says w K) : CallB K ((PRof K).fd 35) d__law_proofed.ps 2 [] (idPerm 2) := callA (fn__law_proofed c) (n := 2) (ks := []) rfl fun _ _ _ _ _ _ us ws h1 h2 => match us, ws, h1, h2 with | [_, _], [], _, _ => rfl
theorem call33 (c : Says w K) : CallB K ((PRof K).fd 37) d__law_whole.ps 3 [] (idPerm 3) := callA (fn__law_whole c) (n := 3) (ks := []) rfl fun _ _ _ _ _ _ us ws h1 h2 => match us, ws, h1, h2 with | [_, _, _], [], _, _ => rfl
theorem call34 (c : Says w K) : CallB K ((PRof K).fd 38) d__law_is_fraction.ps 1 [] (idPerm 1) := callA (fn__law_is_fraction c) (n := 1) (ks := []) rfl fun _ _ _ _ _ _ us ws h1 h2 => match us, ws, h1, h2 with | [_], [], _, _ => rfl
theorem call35 (c : Says w K) : CallB K ((PRof K).fd 40) d__law_formless.ps 1 [] (idPerm 1) := callA (fn__law_formless c) (n := 1) (ks := []) rfl fun _ _ _ _ _ _ us ws h1 h2 => match us, ws, h1, h2 with | [_], [], _, _ => rfl
theorem call36 (c : Says w K) : CallB K ((PRof K).fd 39) d__law_are_fractions.ps 2 [] (idPerm 2) := callA (fn__law_are_fractions c) (n := 2) (ks := []) rfl fun _ _ _ _ _ _ us ws h1 h2 => match us, ws, h1, h2 with | [_, _], [], _, _ => rfl
theorem call37 (c : Says w K) : CallB K ((PRof K).fd 23) d__law_of.ps 2 [] (idPerm 2) := callA (fn__law_of c) (n := 2) (ks := []) rfl fun _ _ _ _ _ _ us ws h1 h2 => match us, ws, h1, h2 with | [_, _], [], _, _ => rfl
theorem call38 (c : Says w K) : CallB K ((PRof K).fd 43) d__law_put.ps 3 [] (idPerm 3) := callA (fn__law_put c) (n := 3) (ks := []) rfl fun _ _ _ _ _ _ us ws h1 h2 => match us, ws, h1, h2 with | [_, _, _], [], _, _ => rfl
theorem call39 (c : Says w K) : CallB K ((PRof K).fd 42) d__law_odd.ps 1 [] (idPerm 1) := callA (fn__law_odd c) (n := 1) (ks := []) rfl fun _ _ _ _ _ _ us ws h1 h2 => match us, ws, h1, h2 with | [_], [], _, _ => rfl
theorem call40 (c : Says w K) : CallB K ((PRof K).fd 44) d__law_row_spoilt.ps 2 [] (idPerm 2) := callA (fn__law_row_spoilt c) (n := 2) (ks := []) rfl fun _ _ _ _ _ _ us ws h1 h2 => match us, ws, h1, h2 with | [_, _], [], _, _ => rfl
theorem call41 (c : Says w K) : CallB K ((PRof K).fd 45) d__law_matrix_spoilt.ps 2 [] (idPerm 2) := callA (fn__law_matrix_spoilt c) (n := 2) (ks := []) rfl fun _ _ _ _ _ _ us ws h1 h2 => match us, ws, h1, h2 with | [_, _], [], _, _ => rfl
theorem call42 (c : Says w K) : CallB K ((PRof K).fd 41) d__law_fault.ps 1 [] (idPerm 1) := callA (fn__law_fault c) (n := 1) (ks := []) rfl fun _ _ _ _ _ _ us ws h1 h2 => match us, ws, h1, h2 with | [_], [], _, _ => rfl
theorem call43 (c : Says w K) : CallB K ((PRof K).fd 17) d_need_counting.ps 0 ["counting"] (idPerm 1) := callA (fn_need_counting c) (n := 0) (ks := ["counting"]) rfl fun _ _ _ _ _ _ us ws h1 h2 => match us, ws, h1, h2 with | [], [_], _, _ => rfl
theorem call44 (c : Says w K) : CallB K ((PRof K).fd 18) d_value_of.ps 2 [] (idPerm 2) := callA (fn_value_of c) (n := 2) (ks := []) rfl fun _ _ _ _ _ _ us ws h1 h2 => match us, ws, h1, h2 with | [_, _], [], _, _ => rfl
theorem call45 (c : Says w K) : CallB K ((PRof K).fd 49) d__law_heard.ps 2 [] (idPerm 2) := callA (fn__law_heard c) (n := 2) (ks := []) rfl fun _ _ _ _ _ _ us ws h1 h2 => match us, ws, h1, h2 with | [_, _], [], _, _ => rfl
theorem call46 (c : Says w K) : CallB K ((PRof K).fd 18) d_value_of.ps 0 ["values", "counting"] ((([1, 0] : List Nat).map Sum.inl)) := callS (fn_value_of c) (n := 0) (ks := ["values", "counting"]) [1, 0] (by decide) rfl fun _ _ _ _ _ _ us ws h1 h2 => match us, ws, h1, h2 with | [], [_, _], _, _ => rfl
theorem call47 (c : Says w K) : CallB K ((PRof K).fd 33) d__law_worth.ps 2 [] (idPerm 2) := callA (fn__law_worth c) (n := 2) (ks := []) rfl fun _ _ _ _ _ _ us ws h1 h2 => match us, ws, h1, h2 with | [_, _], [], _, _ => rfl
theorem call48 (c : Says w K) : CallB K ((PRof K).fd 48) d__law_noughts.ps 3 [] (idPerm 3) := callA (fn__law_noughts c) (n := 3) (ks := []) rfl fun _ _ _ _ _ _ us ws h1 h2 => match us, ws, h1, h2 with | [_, _, _], [], _, _ => rfl
theorem call49 (c : Says w K) : CallB K ((PRof K).fd 47) d__law_judged.ps 1 [] (idPerm 1) := callA (fn__law_judged c) (n := 1) (ks := []) rfl fun _ _ _ _ _ _ us ws h1 h2 => match us, ws, h1, h2 with | [_], [], _, _ => rfl
theorem call50 (c : Says w K) : CallB K ((PRof K).fd 6) d_need_fraction.ps 1 [] (idPerm 1) := callA (fn_need_fraction c) (n := 1) (ks := []) rfl fun _ _ _ _ _ _ us ws h1 h2 => match us, ws, h1, h2 with | [_], [], _, _ => rfl
theorem call51 (c : Says w K) : CallB K ((PRof K).fd 6) d_need_fraction.ps 0 ["fraction"] (idPerm 1) := callA (fn_need_fraction c) (n := 0) (ks := ["fraction"]) rfl fun _ _ _ _ _ _ us ws h1 h2 => match us, ws, h1, h2 with | [], [_], _, _ => rfl
theorem call52 (c : Says w K) : CallB K ((PRof K).fd 22) d__law_begun.ps 1 [] (idPerm 1) := callA (fn__law_begun c) (n := 1) (ks := []) rfl fun _ _ _ _ _ _ us ws h1 h2 => match us, ws, h1, h2 with | [_], [], _, _ => rfl
theorem call53 (c : Says w K) : CallB K ((PRof K).fd 51) d__law_great.ps 1 [] (idPerm 1) := callA (fn__law_great c) (n := 1) (ks := []) rfl fun _ _ _ _ _ _ us ws h1 h2 => match us, ws, h1, h2 with | [_], [], _, _ => rfl
theorem call54 (c : Says w K) : CallB K ((PRof K).fd 36) d__law_counting.ps 4 [] (idPerm 4) := callA (fn__law_counting c) (n := 4) (ks := []) rfl fun _ _ _ _ _ _ us ws h1 h2 => match us, ws, h1, h2 with | [_, _, _, _], [], _, _ => rfl
theorem call55 (c : Says w K) : CallB K ((PRof K).fd 46) d__law_spoilt.ps 2 [] (idPerm 2) := callA (fn__law_spoilt c) (n := 2) (ks := []) rfl fun _ _ _ _ _ _ us ws h1 h2 => match us, ws, h1, h2 with | [_, _], [], _, _ => rfl
theorem call56 (c : Says w K) : CallB K ((PRof K).fd 52) d__law_fractions_right.ps 1 [] (idPerm 1) := callA (fn__law_fractions_right c) (n := 1) (ks := []) rfl fun _ _ _ _ _ _ us ws h1 h2 => match us, ws, h1, h2 with | [_], [], _, _ => rfl
theorem call57 (c : Says w K) : CallB K ((PRof K).fd 50) d__law_valued.ps 2 [] (idPerm 2) := callA (fn__law_valued c) (n := 2) (ks := []) rfl fun _ _ _ _ _ _ us ws h1 h2 => match us, ws, h1, h2 with | [_, _], [], _, _ => rfl
theorem pfacts (X : K.In h) (G : h.Ns mainGlobals mg) (c : Says w K) : PFacts PP w K mg base (PRof K) where
  defs := fun f d hd => by
    have z : AllI (fun f d => FunD K d.x d.qual d.params d.body d.scope d.dvs [] ((PRof K).fa f) ((PRof K).fd f) ∧ FnScope d.N d.ps d.scope ∧ trSs (rc 40) 120 ((PRof K).tab d) d.body = some d.m) 0 defsL :=
      ⟨⟨fn_is_whole c, sc_is_whole, tr_is_whole⟩, ⟨fn_is_row c, sc_is_row, tr_is_row⟩, ⟨fn_are_wholes c, sc_are_wholes, tr_are_wholes⟩, ⟨fn_power_of c, sc_power_of, tr_power_of⟩, ⟨fn_ratio_of c, sc_ratio_of, tr_ratio_of⟩, ⟨fn_is_ratio c, sc_is_ratio, tr_is_ratio⟩, ⟨fn_need_fraction c, sc_need_fraction, tr_need_fraction⟩, ⟨fn_are_ratios c, sc_are_ratios, tr_are_ratios⟩, ⟨fn_sum_of_products c, sc_sum_of_products, tr_sum_of_products⟩, ⟨fn_row_times c, sc_row_times, tr_row_times⟩, ⟨fn_matrix_times c, sc_matrix_times, tr_matrix_times⟩, ⟨fn_is_base c, sc_is_base, tr_is_base⟩, ⟨fn_need_numbers c, sc_need_numbers, tr_need_numbers⟩, ⟨fn_columns_of c, sc_columns_of, tr_columns_of⟩, ⟨fn_has_form c, sc_has_form, tr_has_form⟩, ⟨fn_is_matrix c, sc_is_matrix, tr_is_matrix⟩, ⟨fn_counting_fault c, sc_counting_fault, tr_counting_fault⟩, ⟨fn_need_counting c, sc_need_counting, tr_need_counting⟩, ⟨fn_value_of c, sc_value_of, tr_value_of⟩, ⟨fn__law_mixed c, sc__law_mixed, tr__law_mixed⟩, ⟨fn__law_folded c, sc__law_folded, tr__law_folded⟩, ⟨fn__law_draw c, sc__law_draw, tr__law_draw⟩, ⟨fn__law_begun c, sc__law_begun, tr__law_begun⟩, ⟨fn__law_of c, sc__law_of, tr__law_of⟩, ⟨fn__law_like c, sc__law_like, tr__law_like⟩, ⟨fn__law_power c, sc__law_power, tr__law_power⟩, ⟨fn__law_columns c, sc__law_columns, tr__law_columns⟩, ⟨fn__law_gcd c, sc__law_gcd, tr__law_gcd⟩, ⟨fn__law_ratio c, sc__law_ratio, tr__law_ratio⟩, ⟨fn__law_plus c, sc__law_plus, tr__law_plus⟩, ⟨fn__law_mult c, sc__law_mult, tr__law_mult⟩, ⟨fn__law_dot c, sc__law_dot, tr__law_dot⟩, ⟨fn__law_along c, sc__law_along, tr__law_along⟩, ⟨fn__law_worth c, sc__law_worth, tr__law_worth⟩, ⟨fn__law_fraction c, sc__law_fraction, tr__law_fraction⟩, ⟨fn__law_proofed c, sc__law_proofed, tr__law_proofed⟩, ⟨fn__law_counting c, sc__law_counting, tr__law_counting⟩, ⟨fn__law_whole c, sc__law_whole, tr__law_whole⟩, ⟨fn__law_is_fraction c, sc__law_is_fraction, tr__law_is_fraction⟩, ⟨fn__law_are_fractions c, sc__law_are_fractions, tr__law_are_fractions⟩, ⟨fn__law_formless c, sc__law_formless, tr__law_formless⟩, ⟨fn__law_fault c, sc__law_fault, tr__law_fault⟩, ⟨fn__law_odd c, sc__law_odd, tr__law_odd⟩, ⟨fn__law_put c, sc__law_put, tr__law_put⟩, ⟨fn__law_row_spoilt c, sc__law_row_spoilt, tr__law_row_spoilt⟩, ⟨fn__law_matrix_spoilt c, sc__law_matrix_spoilt, tr__law_matrix_spoilt⟩, ⟨fn__law_spoilt c, sc__law_spoilt, tr__law_spoilt⟩, ⟨fn__law_judged c, sc__law_judged, tr__law_judged⟩, ⟨fn__law_noughts c, sc__law_noughts, tr__law_noughts⟩, ⟨fn__law_heard c, sc__law_heard, tr__law_heard⟩, ⟨fn__law_valued c, sc__law_valued, tr__law_valued⟩, ⟨fn__law_great c, sc__law_great, tr__law_great⟩, ⟨fn__law_fractions_right c, sc__law_fractions_right, tr__law_fractions_right⟩, ⟨fn_law c, sc_law, tr_law⟩, trivial⟩
    have y := allI_of z f d hd
    rw [Nat.zero_add] at y
    exact y
  calls := all_of (l := T0.calls) ⟨⟨d_is_row, rfl, He.glo_ok X G (c.d.fact 1 rfl), call0 c⟩, ⟨d_is_whole, rfl, He.glo_ok X G (c.d.fact 0 rfl), call1 c⟩, ⟨d_is_row, rfl, He.glo_ok X G (c.d.fact 1 rfl), call2 c⟩, ⟨d_is_whole, rfl, He.glo_ok X G (c.d.fact 0 rfl), call3 c⟩, ⟨d_is_ratio, rfl, He.glo_ok X G (c.d.fact 5 rfl), call4 c⟩, ⟨d_ratio_of, rfl, He.glo_ok X G (c.d.fact 4 rfl), call5 c⟩, ⟨d_sum_of_products, rfl, He.glo_ok X G (c.d.fact 8 rfl), call6 c⟩, ⟨d_are_wholes, rfl, He.glo_ok X G (c.d.fact 2 rfl), call7 c⟩, ⟨d_power_of, rfl, He.glo_ok X G (c.d.fact 3 rfl), call8 c⟩, ⟨d_is_base, rfl, He.glo_ok X G (c.d.fact 11 rfl), call9 c⟩, ⟨d_are_ratios, rfl, He.glo_ok X G (c.d.fact 7 rfl), call10 c⟩, ⟨d_has_form, rfl, He.glo_ok X G (c.d.fact 14 rfl), call11 c⟩, ⟨d_matrix_times, rfl, He.glo_ok X G (c.d.fact 10 rfl), call12 c⟩, ⟨d_is_matrix, rfl, He.glo_ok X G (c.d.fact 15 rfl), call13 c⟩, ⟨d_counting_fault, rfl, He.glo_ok X G (c.d.fact 16 rfl), call14 c⟩, ⟨d_need_counting, rfl, He.glo_ok X G (c.d.fact 17 rfl), call15 c⟩, ⟨d_need_numbers, rfl, He.glo_ok X G (c.d.fact 12 rfl), call16 c⟩, ⟨d_columns_of, rfl, He.glo_ok X G (c.d.fact 13 rfl), call17 c⟩, ⟨d_row_times, rfl, He.glo_ok X G (c.d.fact 9 rfl), call18 c⟩, ⟨d__law_mixed, rfl, He.glo_ok X G (c.d.fact 19 rfl), call19 c⟩, ⟨d__law_folded, rfl, He.glo_ok X G (c.d.fact 20 rfl), call20 c⟩, ⟨d__law_draw, rfl, He.glo_ok X G (c.d.fact 21 rfl), call21 c⟩, ⟨d__law_like, rfl, He.glo_ok X G (c.d.fact 24 rfl), call22 c⟩, ⟨d__law_gcd, rfl, He.glo_ok X G (c.d.fact 27 rfl), call23 c⟩, ⟨d__law_ratio, rfl, He.glo_ok X G (c.d.fact 28 rfl), call24 c⟩, ⟨d__law_plus, rfl, He.glo_ok X G (c.d.fact 29 rfl), call25 c⟩, ⟨d__law_mult, rfl, He.glo_ok X G (c.d.fact 30 rfl), call26 c⟩, ⟨d__law_dot, rfl, He.glo_ok X G (c.d.fact 31 rfl), call27 c⟩, ⟨d__law_columns, rfl, He.glo_ok X G (c.d.fact 26 rfl), call28 c⟩, ⟨d__law_along, rfl, He.glo_ok X G (c.d.fact 32 rfl), call29 c⟩, ⟨d__law_fraction, rfl, He.glo_ok X G (c.d.fact 34 rfl), call30 c⟩, ⟨d__law_power, rfl, He.glo_ok X G (c.d.fact 25 rfl), call31 c⟩, ⟨d__law_proofed, rfl, He.glo_ok X G (c.d.fact 35 rfl), call32 c⟩, ⟨d__law_whole, rfl, He.glo_ok X G (c.d.fact 37 rfl), call33 c⟩, ⟨d__law_is_fraction, rfl, He.glo_ok X G (c.d.fact 38 rfl), call34 c⟩, ⟨d__law_formless, rfl, He.glo_ok X G (c.d.fact 40 rfl), call35 c⟩, ⟨d__law_are_fractions, rfl, He.glo_ok X G (c.d.fact 39 rfl), call36 c⟩, ⟨d__law_of, rfl, He.glo_ok X G (c.d.fact 23 rfl), call37 c⟩, ⟨d__law_put, rfl, He.glo_ok X G (c.d.fact 43 rfl), call38 c⟩, ⟨d__law_odd, rfl, He.glo_ok X G (c.d.fact 42 rfl), call39 c⟩, ⟨d__law_row_spoilt, rfl, He.glo_ok X G (c.d.fact 44 rfl), call40 c⟩, ⟨d__law_matrix_spoilt, rfl, He.glo_ok X G (c.d.fact 45 rfl), call41 c⟩, ⟨d__law_fault, rfl, He.glo_ok X G (c.d.fact 41 rfl), call42 c⟩, ⟨d_need_counting, rfl, He.glo_ok X G (c.d.fact 17 rfl), call43 c⟩, ⟨d_value_of, rfl, He.glo_ok X G (c.d.fact 18 rfl), call44 c⟩, ⟨d__law_heard, rfl, He.glo_ok X G (c.d.fact 49 rfl), call45 c⟩, ⟨d_value_of, rfl, He.glo_ok X G (c.d.fact 18 rfl), call46 c⟩, ⟨d__law_worth, rfl, He.glo_ok X G (c.d.fact 33 rfl), call47 c⟩, ⟨d__law_noughts, rfl, He.glo_ok X G (c.d.fact 48 rfl), call48 c⟩, ⟨d__law_judged, rfl, He.glo_ok X G (c.d.fact 47 rfl), call49 c⟩, ⟨d_need_fraction, rfl, He.glo_ok X G (c.d.fact 6 rfl), call50 c⟩, ⟨d_need_fraction, rfl, He.glo_ok X G (c.d.fact 6 rfl), call51 c⟩, ⟨d__law_begun, rfl, He.glo_ok X G (c.d.fact 22 rfl), call52 c⟩, ⟨d__law_great, rfl, He.glo_ok X G (c.d.fact 51 rfl), call53 c⟩, ⟨d__law_counting, rfl, He.glo_ok X G (c.d.fact 36 rfl), call54 c⟩, ⟨d__law_spoilt, rfl, He.glo_ok X G (c.d.fact 46 rfl), call55 c⟩, ⟨d__law_fractions_right, rfl, He.glo_ok X G (c.d.fact 52 rfl), call56 c⟩, ⟨d__law_valued, rfl, He.glo_ok X G (c.d.fact 50 rfl), call57 c⟩, trivial⟩
  consts := lookup_all (l := T0.consts) (p := fun x p => ∃ u v, mg x = some u ∧ RelV v u ∧ ∀ w : Wd, w.K = K → Rep w v p) ⟨(let ⟨t, e⟩ := He.int_ok X G (c.d.fact 76 rfl); ⟨_, .int (10), e, ⟨t, rfl⟩, fun _ _ => .int _⟩), (let ⟨t, e⟩ := He.int_ok X G (c.d.fact 77 rfl); ⟨_, .int (6), e, ⟨t, rfl⟩, fun _ _ => .int _⟩), (let ⟨t, e⟩ := He.int_ok X G (c.d.fact 78 rfl); ⟨_, .int (20000), e, ⟨t, rfl⟩, fun _ _ => .int _⟩), (let ⟨t, e⟩ := He.int_ok X G (c.d.fact 79 rfl); ⟨_, .int (40), e, ⟨t, rfl⟩, fun _ _ => .int _⟩), (let ⟨t, e⟩ := He.int_ok X G (c.d.fact 80 rfl); ⟨_, .int (100000), e, ⟨t, rfl⟩, fun _ _ => .int _⟩), trivial⟩
  bl := all_of (l := T0.bl) ⟨He.free_ok X G (c.d.fact 58 rfl), He.free_ok X G (c.d.fact 59 rfl), He.free_ok X G (c.d.fact 60 rfl), He.free_ok X G (c.d.fact 61 rfl), He.free_ok X G (c.d.fact 62 rfl), He.free_ok X G (c.d.fact 63 rfl), He.free_ok X G (c.d.fact 64 rfl), He.free_ok X G (c.d.fact 65 rfl), He.free_ok X G (c.d.fact 66 rfl), He.free_ok X G (c.d.fact 67 rfl), He.free_ok X G (c.d.fact 68 rfl), He.free_ok X G (c.d.fact 69 rfl), He.free_ok X G (c.d.fact 70 rfl), He.free_ok X G (c.d.fact 71 rfl), He.free_ok X G (c.d.fact 72 rfl), He.free_ok X G (c.d.fact 73 rfl), He.free_ok X G (c.d.fact 74 rfl), trivial⟩
  tabs := lookup_all (l := T0.tabs) (p := fun x kvs => ∃ a, mg x = some (.ref a) ∧ DTab K w a kvs) trivial
  bfs := c.bf X G
  raise := lookup_all (l := T0.excs) (p := fun x ci => ∀ (k : Nat) (Y : Cx), Y.prog = PP → Y.w = w → Y.K = K → Y.mg = mg → Y.base = base → Room 1 Y.A → Y.calm = true → Raise1 Y ((PRof K).Z K k) x ci) ⟨(fun k Y h1 _ h3 h4 _ h6 _ => raise_sup (by rw [h1, h3]; exact (sup_of (P := PP) ext0 (by kernel_rfl) (c.ex 0 rfl).1 (c.ex 0 rfl).2).1) (by rw [h4]; exact He.glo_ok X G (c.d.fact 54 rfl)) (by rw [h4]; exact He.free_ok X G (c.d.fact 75 rfl)) h6),
    (fun k Y h1 _ h3 h4 _ h6 _ => raise_sup (by rw [h1, h3]; exact (sup_of (P := PP) ext1 (by kernel_rfl) (c.ex 1 rfl).1 (c.ex 1 rfl).2).1) (by rw [h4]; exact He.glo_ok X G (c.d.fact 55 rfl)) (by rw [h4]; exact He.free_ok X G (c.d.fact 75 rfl)) h6),
    (fun k Y h1 _ h3 h4 _ h6 _ => raise_sup (by rw [h1, h3]; exact (sup_of (P := PP) ext2 (by kernel_rfl) (c.ex 2 rfl).1 (c.ex 2 rfl).2).1) (by rw [h4]; exact He.glo_ok X G (c.d.fact 56 rfl)) (by rw [h4]; exact He.free_ok X G (c.d.fact 75 rfl)) h6),
    (fun k Y h1 _ h3 h4 _ h6 _ => raise_sup (by rw [h1, h3]; exact (sup_of (P := PP) ext3 (by kernel_rfl) (c.ex 3 rfl).1 (c.ex 3 rfl).2).1) (by rw [h4]; exact He.glo_ok X G (c.d.fact 57 rfl)) (by rw [h4]; exact He.free_ok X G (c.d.fact 75 rfl)) h6), trivial⟩
  xm := fun a b v e => lookup_all (l := T0.subs) (p := fun q v => PySem.W.exmOne K (.ref ((PRof K).cl q.1)) (.ref ((PRof K).cl q.2)) = some v) ⟨He.exm_ok (c.d.fact 81 rfl), He.exm_ok (c.d.fact 82 rfl), He.exm_ok (c.d.fact 83 rfl), He.exm_ok (c.d.fact 84 rfl), He.exm_ok (c.d.fact 85 rfl), He.exm_ok (c.d.fact 86 rfl), He.exm_ok (c.d.fact 87 rfl), He.exm_ok (c.d.fact 88 rfl), He.exm_ok (c.d.fact 89 rfl), He.exm_ok (c.d.fact 90 rfl), He.exm_ok (c.d.fact 91 rfl), He.exm_ok (c.d.fact 92 rfl), He.exm_ok (c.d.fact 93 rfl), He.exm_ok (c.d.fact 94 rfl), He.exm_ok (c.d.fact 95 rfl), He.exm_ok (c.d.fact 96 rfl), trivial⟩ (a, b) v e
  xcls := lookup_all (l := T0.excs) (p := fun x ci => mg x = some (.ref ((PRof K).cl ci))) ⟨He.glo_ok X G (c.d.fact 54 rfl), He.glo_ok X G (c.d.fact 55 rfl), He.glo_ok X G (c.d.fact 56 rfl), He.glo_ok X G (c.d.fact 57 rfl), trivial⟩
  xf := fun ci f hf => by
    have z : AllI (fun ci f => XfC K ((PRof K).cl ci) ∧ PySem.W.findIn K (.ref ((PRof K).cl ci)) f = some none) 0 T0.fds := ⟨(sup_of (P := PP) ext0 (by kernel_rfl) (c.ex 0 rfl).1 (c.ex 0 rfl).2).2, (sup_of (P := PP) ext1 (by kernel_rfl) (c.ex 1 rfl).1 (c.ex 1 rfl).2).2, (sup_of (P := PP) ext2 (by kernel_rfl) (c.ex 2 rfl).1 (c.ex 2 rfl).2).2, (sup_of (P := PP) ext3 (by kernel_rfl) (c.ex 3 rfl).1 (c.ex 3 rfl).2).2, trivial⟩
    have y := allI_of z ci f hf
    rw [Nat.zero_add] at y
    exact y
end
end Dg
end

section
set_option Elab.async false
set_option linter.all false
set_option maxRecDepth 100000
set_option maxHeartbeats 0
namespace Dg
open PySem PySem.Spec L2
open PyProof.Rows hiding St
/-- what is left of the law -/
def Plain : Prop := ∀ ns : List Int, ns.length ≤ 63 → (∀ z ∈ ns, Builtin.Int.intBits z ≤ 1048576) → ∃ S', Gp T0 defsL 20 53 [.scr (ns.map PV.int)] [] = .ok (.bl true) S'
end Dg
open PySem PySem.W PySem.Calls PyProof.Rows in
theorem Dg.holds_of (hpl : Dg.Plain) : PySem.Challenge.rw_digitsay_k24_countings_judged_and_valued.Holds := by
  w_on; o_law
  refine HandSHeadRun.head_imp (r := OpenLaw.row PySem.Challenge.rw_digitsay_k24_countings_judged_and_valued) (q := view (OpenLaw.row PySem.Challenge.rw_digitsay_k24_countings_judged_and_valued).prog [0, 71]) (H := Dg.hk) (ob := Dg.ob) (M := 4000) (loose := Dg.looseL) (d := HandSHeadRun.topDef (OpenLaw.row PySem.Challenge.rw_digitsay_k24_countings_judged_and_valued).prog 71) (kwd := []) Dg.ob_eq
    Dg.runH (by kernel_rfl) (by kernel_rfl) (by kernel_rfl) (by rfl) (by first | assumption | decide +kernel) (by decide +kernel) ⟨rfl, rfl, rfl, rfl, rfl, by decide +kernel⟩ ?hw ?hc
  case hw => w_witness2
  case hc =>
    refine Dg.walk_dg (l := PySem.Challenge.rw_digitsay_k24_countings_judged_and_valued) (n := 63) (k := 21) (x := "script") rfl (by decide) (by kernel_rfl) ⟨rfl, by decide, by decide⟩ ?F
    intro w mg fa h Y G hmg0
    obtain ⟨K, KX, c⟩ := Y
    have hmg : mg ("law" : PySem.Str) = some (.ref fa) := by
      have e : (HandSHeadRun.topDef (OpenLaw.row PySem.Challenge.rw_digitsay_k24_countings_judged_and_valued).prog 71).name = ("law" : PySem.Str) := by kernel_rfl
      rw [← e]
      exact hmg0
    have e := hmg.symm.trans (He.glo_ok KX G (c.d.fact 53 (f := .glo "law") rfl))
    cases e
    have b := L2.FunD.bindsA (ps := ["script"]) (Dg.fn_law c) fun _ _ _ _ _ _ us hl => match us, hl with | [_], _ => rfl
    refine ⟨K, (Dg.PRof K).fd 53, Dg.spI ((Dg.PRof K).Z K 20) ((Dg.PRof K).G 20 53) 1, KX, fun s v => b s [v] rfl, fun H a ns hl hb _ hS => Dg.law_sp hS (hpl ns hl hb), fun base kb G2 => ?_⟩
    exact Dg.levels (Dg.pfacts kb G2 c) 20 53 Dg.d_law rfl
end

section
set_option Elab.async false
set_option linter.all false
set_option maxRecDepth 100000
set_option maxHeartbeats 1000000
/-! PlA: evaluation as rewriting. -/
namespace Dg
open PySem L2

/-- a store without dangling references -/
def Wf (S : Store) : Prop := S.all (belowM S.length) = true
theorem frz_below {S : Store} {n d : Nat} : True := trivial
mutual
theorem frzG_below {n : Nat} {g : Nat → Option PV} : ∀ {x : PV}, below n x = true → frzG n g x = some x
  | .non, _ => rfl
  | .bl _, _ => rfl
  | .int _, _ => rfl
  | .str _, _ => rfl
  | .ty _, _ => rfl
  | .scr _, h => by simp [below] at h
  | .ref k, h => by
    have hk : k < n := by simpa [below] using h
    unfold frzG; rw [if_pos hk]
  | .tup xs, h => by
    unfold frzG; rw [frzGs_below (by simpa [below] using h)]; rfl
  | .lst xs, h => by
    unfold frzG; rw [frzGs_below (by simpa [below] using h)]; rfl
theorem frzGs_below {n : Nat} {g : Nat → Option PV} : ∀ {xs : List PV}, belows n xs = true → frzGs n g xs = some xs
  | [], _ => rfl
  | x :: xs, h => by
    unfold belows at h
    rw [Bool.and_eq_true] at h
    unfold frzGs; rw [frzG_below h.1, frzGs_below h.2]
end
/-- a def that leaves the store as it is -/
theorem evalD_ret {C : Cxt} {n : Nat} {b : MSs} {vs : List PV} {S : Store} {v : PV} (hS : Wf S) (h : evalSs C b (startP n vs) S = .ret v S) (hv : below S.length v = true) : evalD C false n b vs S = .ok v S := by
  unfold evalD
  rw [h]
  dsimp only
  rw [if_neg Bool.false_ne_true]
  unfold frz
  rw [frzG_below hv]
  dsimp only
  rw [List.take_length, if_pos (show S.all (belowM S.length) = true from hS)]
theorem evalD_exc {C : Cxt} {n : Nat} {b : MSs} {vs : List PV} {S : Store} {c : Nat} {a : PV} {r : PEnv} (hS : Wf S) (h : evalSs C b (startP n vs) S = .exc c a r S) (hv : below S.length a = true) : evalD C false n b vs S = .exc c a S := by
  unfold evalD
  rw [h]
  dsimp only
  rw [if_neg Bool.false_ne_true]
  unfold frz
  rw [frzG_below hv]
  dsimp only
  rw [List.take_length, if_pos (show S.all (belowM S.length) = true from hS)]
/-- a def that makes new objects: S ++ R behind it -/
theorem evalD_new {C : Cxt} {n : Nat} {b : MSs} {vs : List PV} {S S' R : Store} {v v' : PV} (hS : S'.all (belowM S.length) = true) (hl : S'.length = S.length) (h : evalSs C b (startP n vs) S = .ret v (S' ++ R)) (hv : frz (S' ++ R) S.length 8 v = some v') : evalD C false n b vs S = .ok v' S' := by
  unfold evalD
  rw [h]
  dsimp only
  rw [if_neg Bool.false_ne_true, hv]
  dsimp only
  have e : (S' ++ R).take S.length = S' := by rw [← hl, List.take_left']; rfl
  rw [e, if_pos hS]
theorem evalD_newx {C : Cxt} {n : Nat} {b : MSs} {vs : List PV} {S S' R : Store} {c : Nat} {a a' : PV} {r : PEnv} (hS : S'.all (belowM S.length) = true) (hl : S'.length = S.length) (h : evalSs C b (startP n vs) S = .exc c a r (S' ++ R)) (hv : frz (S' ++ R) S.length 8 a = some a') : evalD C false n b vs S = .exc c a' S' := by
  unfold evalD
  rw [h]
  dsimp only
  rw [if_neg Bool.false_ne_true, hv]
  dsimp only
  have e : (S' ++ R).take S.length = S' := by rw [← hl, List.take_left']; rfl
  rw [e, if_pos hS]
theorem Gp_succ {T : Tab} {defs : List DD} {k f : Nat} {vs : List PV} {S : Store} {d : DD} (h : defs[f]? = some d) : Gp T defs (k + 1) f vs S = evalD { G := Gp T defs k, sub := fun c c' => T.subs.lookup (c, c') } d.raw d.N.length d.m vs S := by
  show (match defs[f]? with
    | some d => evalD { G := Gp T defs k, sub := fun c c' => T.subs.lookup (c, c') } d.raw d.N.length d.m vs S
    | none => .bad) = _
  rw [h]
/-! ### equations -/
theorem evalT_var {C : Cxt} {i : Nat} {r : PEnv} {S : Store} : evalT C (.var i) r S = (evalE C (.var i) r S).bind truR := evalT_truth (by simp) (by simp) (by simp) (by simp)
theorem evalT_bi {C : Cxt} {o : BI} {es : MEs} {r : PEnv} {S : Store} : evalT C (.bi o es) r S = (evalE C (.bi o es) r S).bind truR := evalT_truth (by simp) (by simp) (by simp) (by simp)
theorem evalT_call {C : Cxt} {f : Nat} {p : List (Sum Nat PV)} {es : MEs} {r : PEnv} {S : Store} : evalT C (.call f p es) r S = (evalE C (.call f p es) r S).bind truR := evalT_truth (by simp) (by simp) (by simp) (by simp)
theorem evalT_chain {C : Cxt} {o p : O2} {a b c : ME} {r : PEnv} {S : Store} : evalT C (.chain o p a b c) r S = (evalE C (.chain o p a b c) r S).bind truR := evalT_truth (by simp) (by simp) (by simp) (by simp)
theorem evalT_k {C : Cxt} {c : PV} {r : PEnv} {S : Store} : evalT C (.k c) r S = (evalE C (.k c) r S).bind truR := evalT_truth (by simp) (by simp) (by simp) (by simp)
theorem truR_bl2 {b : Bool} {S : Store} : truR (.bl b) S = .ok b S := rfl
theorem truR_int {i : Int} {S : Store} : truR (.int i) S = .ok (i != 0) S := rfl
theorem truR_non {S : Store} : truR .non S = .ok false S := rfl
end Dg
end

section
set_option Elab.async false
set_option linter.all false
set_option maxRecDepth 100000
set_option maxHeartbeats 1000000
/-! PlB: evaluation as rewriting: simp lemmas; loops. -/
namespace Dg
open PySem L2
variable {C : Cxt} {r : PEnv} {S : Store}
@[simp] theorem eE_var {i : Nat} : evalE C (.var i) r S = match r[i]? with
    | some (some v) => .ok v S
    | _ => .bad := by rw [evalE] <;> rfl
@[simp] theorem eE_k {c : PV} : evalE C (.k c) r S = .ok c S := by rw [evalE]
@[simp] theorem eE_un {o : O1} {a : ME} : evalE C (.un o a) r S = (evalE C a r S).bind fun x S1 => op1 o x S1 := by rw [evalE]
@[simp] theorem eE_bin {o : O2} {a b : ME} : evalE C (.bin o a b) r S = (evalE C a r S).bind fun x S1 => (evalE C b r S1).bind fun y S2 => op2 o x y S2 := by rw [evalE]
@[simp] theorem eE_chain {o p : O2} {a b c : ME} : evalE C (.chain o p a b c) r S = (evalE C a r S).bind fun x S1 => (evalE C b r S1).bind fun y S2 => (op2 o x y S2).bind fun z S3 => match z with
    | .bl true => (evalE C c r S3).bind fun u S4 => op2 p y u S4
    | .bl false => .ok (.bl false) S3
    | _ => .bad := by rw [evalE] <;> rfl
@[simp] theorem eE_and {a b : ME} : evalE C (.and_ a b) r S = (evalE C a r S).bind fun x S1 => match x with
    | .bl true => evalE C b r S1
    | .bl false => .ok (.bl false) S1
    | _ => .bad := by rw [evalE] <;> rfl
@[simp] theorem eE_or {a b : ME} : evalE C (.or_ a b) r S = (evalE C a r S).bind fun x S1 => match x with
    | .bl true => .ok (.bl true) S1
    | .bl false => evalE C b r S1
    | _ => .bad := by rw [evalE] <;> rfl
@[simp] theorem eE_not {a : ME} : evalE C (.not_ a) r S = (evalE C a r S).bind fun x S1 => match x with
    | .bl b => .ok (.bl (!b)) S1
    | _ => .bad := by rw [evalE] <;> rfl
@[simp] theorem eE_ite {c a b : ME} : evalE C (.ite c a b) r S = (evalT C c r S).bind fun t S1 => if t = true then evalE C a r S1 else evalE C b r S1 := by rw [evalE]
@[simp] theorem eE_tup {es : MEs} : evalE C (.tup es) r S = (evalEs C es r S).bind fun vs S1 => if vs.length ≤ sizeLine then .ok (.tup vs) S1 else .bad := by rw [evalE]
@[simp] theorem eE_lst {es : MEs} : evalE C (.lst es) r S = (evalEs C es r S).bind fun vs S1 => if vs.length ≤ sizeLine then .ok (.lst vs) S1 else .bad := by rw [evalE]
@[simp] theorem eE_lstR {es : MEs} : evalE C (.lstR es) r S = (evalEs C es r S).bind fun vs S1 => if vs.length ≤ sizeLine then .ok (.ref S1.length) (S1 ++ [.lst vs]) else .bad := by rw [evalE]
@[simp] theorem eE_dctR {ks : List Key} {es : MEs} : evalE C (.dctR ks es) r S = (evalEs C es r S).bind fun vs S1 => if vs.length = ks.length ∧ vs.length ≤ 15 ∧ ks.Nodup then .ok (.ref S1.length) (S1 ++ [.dct (ks.zip vs)]) else .bad := by rw [evalE]
@[simp] theorem eE_call {f : Nat} {p : List (Sum Nat PV)} {es : MEs} : evalE C (.call f p es) r S = (evalEs C es r S).bind fun vs S1 => match permP p vs with
    | some as => C.G f as S1
    | none => .bad := by rw [evalE] <;> rfl
@[simp] theorem eE_bi {o : BI} {es : MEs} : evalE C (.bi o es) r S = (evalEs C es r S).bind fun vs S1 => opn o vs S1 := by rw [evalE]
@[simp] theorem eE_mt {o : BI} {a e : ME} : evalE C (.mt o a e) r S = (evalE C a r S).bind fun x S1 => match x with
    | .str z => (evalE C e r S1).bind fun y S2 => opn o [.str z, y] S2
    | _ => .bad := by rw [evalE] <;> rfl
theorem eE_app {i : Nat} {e : ME} : evalE C (.app i e) r S = match r[i]? with
    | some (some (.ref n)) => match S[n]? with
      | some (.lst _) => (evalE C e r S).bind fun x S1 => match S1[n]? with
        | some (.lst xs) => if xs.length < sizeLine then .ok .non (S1.set n (.lst (xs ++ [x]))) else .bad
        | _ => .bad
      | _ => .bad
    | _ => .bad := by rw [evalE] <;> rfl
theorem eE_extd {i : Nat} {e : ME} : evalE C (.extd i e) r S = match r[i]? with
    | some (some (.ref n)) => match S[n]? with
      | some (.lst _) => (evalE C e r S).bind fun x S1 => match x with
        | .lst ys => (match S1[n]? with
          | some (.lst xs) => if xs.length + ys.length ≤ sizeLine then .ok .non (S1.set n (.lst (xs ++ ys))) else .bad
          | _ => .bad)
        | _ => .bad
      | _ => .bad
    | _ => .bad := by rw [evalE] <;> rfl
@[simp] theorem eE_slice {a : ME} {lo hi : MEo} : evalE C (.slice a lo hi) r S = (evalE C a r S).bind fun x S1 => (evalO C lo r S1).bind fun l S2 => (evalO C hi r S2).bind fun h S3 => slP x l h S3 := by rw [evalE]
/-- the function of a comprehension's turn -/
noncomputable def turnF (C : Cxt) (own : List Nat) (t : TGT) (c : MEo) (e : ME) (r : PEnv) (x : PV) (S : Store) : Res (Option PV) := match bindT t x (wipeP r own) with
  | none => .bad
  | some r2 => ((evalC C c r2 S).bind fun b S3 => if b = true then (evalE C e r2 S3).bind fun y S4 => .ok (some y) S4 else .ok none S3).nox
theorem eE_comp {rf : Bool} {own : List Nat} {t : TGT} {it : IT} {c : MEo} {e : ME} : evalE C (.comp rf own t it c e) r S = (evalI C it r S).bind fun p S1 => if p.1.length < sizeLine then (compL (turnF C own t c e r) p.2 p.1 S1).bind fun ys S2 =>
    if rf = true then .ok (.ref S2.length) (S2 ++ [.lst ys]) else .ok (.lst ys) S2 else .bad := by
  rw [evalE] <;> rfl
@[simp] theorem eE_exarg : evalE C .exarg r S = match C.hx with
    | some (_, a) => .ok a S
    | none => .bad := by rw [evalE] <;> rfl
@[simp] theorem eT_and {a b : ME} : evalT C (.and_ a b) r S = (evalT C a r S).bind fun t S1 => if t = true then evalT C b r S1 else .ok false S1 := evalT_and
@[simp] theorem eT_or {a b : ME} : evalT C (.or_ a b) r S = (evalT C a r S).bind fun t S1 => if t = true then .ok true S1 else evalT C b r S1 := evalT_or
@[simp] theorem eT_not {a : ME} : evalT C (.not_ a) r S = (evalT C a r S).bind fun t S1 => .ok (!t) S1 := evalT_not
@[simp] theorem eT_ite {c a b : ME} : evalT C (.ite c a b) r S = (evalT C c r S).bind fun t S1 => if t = true then evalT C a r S1 else evalT C b r S1 := evalT_ite
@[simp] theorem eT_var {i : Nat} : evalT C (.var i) r S = (evalE C (.var i) r S).bind truR := evalT_var
@[simp] theorem eT_bi {o : BI} {es : MEs} : evalT C (.bi o es) r S = (evalE C (.bi o es) r S).bind truR := evalT_bi
@[simp] theorem eT_call {f : Nat} {p : List (Sum Nat PV)} {es : MEs} : evalT C (.call f p es) r S = (evalE C (.call f p es) r S).bind truR := evalT_call
@[simp] theorem eT_chain {o p : O2} {a b c : ME} : evalT C (.chain o p a b c) r S = (evalE C (.chain o p a b c) r S).bind truR := evalT_chain
@[simp] theorem eT_k {c : PV} : evalT C (.k c) r S = (evalE C (.k c) r S).bind truR := evalT_k
@[simp] theorem eT_bin {o : O2} {a b : ME} : evalT C (.bin o a b) r S = (evalE C (.bin o a b) r S).bind truR := evalT_bin
@[simp] theorem eT_un {o : O1} {a : ME} : evalT C (.un o a) r S = (evalE C (.un o a) r S).bind truR := evalT_un
@[simp] theorem tru_bl' {b : Bool} : truR (.bl b) S = .ok b S := rfl
@[simp] theorem tru_int' {i : Int} : truR (.int i) S = .ok (i != 0) S := rfl
@[simp] theorem tru_non' : truR .non S = .ok false S := rfl
@[simp] theorem eEs_nil : evalEs C .nil r S = .ok [] S := by rw [evalEs]
@[simp] theorem eEs_cons {e : ME} {es : MEs} : evalEs C (.cons e es) r S = (evalE C e r S).bind fun x S1 => (evalEs C es r S1).bind fun xs S2 => .ok (x :: xs) S2 := by rw [evalEs]
@[simp] theorem eO_none : evalO C .none r S = .ok none S := by rw [evalO]
@[simp] theorem eO_some {e : ME} : evalO C (.some e) r S = (evalE C e r S).bind fun x S1 => match x with
    | .int i => .ok (some i) S1
    | _ => .bad := by rw [evalO] <;> rfl
@[simp] theorem eC_none : evalC C .none r S = .ok true S := by rw [evalC]
@[simp] theorem eC_some {e : ME} : evalC C (.some e) r S = evalT C e r S := by rw [evalC]
@[simp] theorem eI_of {e : ME} : evalI C (.of e) r S = (evalE C e r S).bind fun x S1 => match x with
    | .str z => .ok (z.cps.toList.map (fun c => .str ⟨#[c]⟩), none) S1
    | .ref n => match S1[n]? with
      | some (.lst xs) => .ok (xs, some (n, xs)) S1
      | _ => .bad
    | x => match seqOf x S1 with
      | some xs => .ok (xs, none) S1
      | none => .bad := by rw [evalI] <;> rfl
theorem eI_range {es : MEs} : evalI C (.range es) r S = (evalEs C es r S).bind fun vs S1 => match rangeP vs with
    | some xs => .ok (xs, none) S1
    | none => .bad := by rw [evalI] <;> rfl
theorem eI_enum {e : ME} : evalI C (.enum e) r S = (evalE C e r S).bind fun x S1 => match x with
    | .ref n => match S1[n]? with
      | some (.lst xs) => .ok (enumP 0 xs, some (n, xs)) S1
      | _ => .bad
    | x => match seqOf x S1 with
      | some xs => .ok (enumP 0 xs, none) S1
      | none => .bad := by rw [evalI] <;> rfl
theorem eI_zip {a b : ME} : evalI C (.zip a b) r S = (evalE C a r S).bind fun x S1 => (evalE C b r S1).bind fun y S2 => match x, y with
    | .tup xs, .tup ys => .ok (zipP xs ys, none) S2
    | .lst xs, .lst ys => .ok (zipP xs ys, none) S2
    | .tup xs, .lst ys => .ok (zipP xs ys, none) S2
    | .lst xs, .tup ys => .ok (zipP xs ys, none) S2
    | .ref n, .lst ys => match S2[n]? with
      | some (.lst xs) => .ok (zipP xs ys, some (n, xs)) S2
      | _ => .bad
    | .ref n, .tup ys => match S2[n]? with
      | some (.lst xs) => .ok (zipP xs ys, some (n, xs)) S2
      | _ => .bad
    | _, _ => .bad := by rw [evalI] <;> rfl
@[simp] theorem eS_asg {t : TGT} {e : ME} : evalS C (.asg t e) r S = (evalE C e r S).to r fun v S1 => match bindT t v r with
    | some r2 => .nx r2 S1
    | none => .bad := by rw [evalS] <;> rfl
@[simp] theorem eS_setix {a i e : ME} : evalS C (.setix a i e) r S = (evalE C e r S).to r fun v S1 => (evalE C a r S1).to r fun o S2 => (evalE C i r S2).to r fun k S3 => match setP o k v S3 with
    | some S4 => .nx r S4
    | none => .bad := by rw [evalS] <;> rfl
@[simp] theorem eS_unp {ts : List MT} {e : ME} : evalS C (.unp ts e) r S = (evalE C e r S).to r fun v S1 => match v with
    | .tup xs => if xs.length = ts.length then evalGs C ts xs r S1 else .bad
    | _ => .bad := by rw [evalS] <;> rfl
@[simp] theorem eS_ex {e : ME} : evalS C (.ex e) r S = (evalE C e r S).to r fun _ S1 => .nx r S1 := by rw [evalS]
@[simp] theorem eS_ret {e : ME} : evalS C (.ret e) r S = (evalE C e r S).to r fun v S1 => .ret v S1 := by rw [evalS]
@[simp] theorem eS_if {c : ME} {a b : MSs} : evalS C (.ifS c a b) r S = (evalT C c r S).to r fun t S1 => if t = true then evalSs C a r S1 else evalSs C b r S1 := by rw [evalS]
theorem eS_for {t : TGT} {it : IT} {b : MSs} : evalS C (.forS t it b) r S = (evalI C it r S).to r fun p S1 => forL t (fun r2 S2 => evalSs C b r2 S2) p.2 p.1 r S1 := by rw [evalS]
theorem eS_while {c : ME} {b : MSs} : evalS C (.whileS c b) r S = whileR (fun r2 S2 => evalT C c r2 S2) (fun r2 S2 => evalSs C b r2 S2) r S := by rw [evalS]
@[simp] theorem eS_brk : evalS C .brk r S = .brk r S := by rw [evalS]
@[simp] theorem eS_cont : evalS C .cont r S = .ct r S := by rw [evalS]
@[simp] theorem eS_pass : evalS C .pass r S = .nx r S := by rw [evalS]
@[simp] theorem eS_raise {c : Nat} {e : ME} : evalS C (.raise c e) r S = (evalE C e r S).to r fun v S1 => .exc c v r S1 := by rw [evalS]
theorem eS_try {b : MSs} {hs : List MHd} : evalS C (.try_ b hs) r S = match evalSs C b r S with
    | .exc c a r2 S2 => handle C c a r2 S2 hs
    | x => x := by rw [evalS] <;> rfl
@[simp] theorem eSs_nil : evalSs C .nil r S = .nx r S := by rw [evalSs]
@[simp] theorem eSs_cons {s : MS} {t : MSs} : evalSs C (.cons s t) r S = (evalS C s r S).seq fun r2 S2 => evalSs C t r2 S2 := by rw [evalSs]
@[simp] theorem nox_bad {β : Type} : (Res.bad : Res β).nox = .bad := rfl
@[simp] theorem grd_none : Grd none S := trivial
/-! ### loops -/
theorem compL_none {f : PV → Store → Res (Option PV)} {h : PV → Option PV} {g : Option (Nat × List PV)} (hg : Grd g S) : ∀ {xs : List PV}, (∀ x ∈ xs, f x S = .ok (h x) S) → compL f g xs S = .ok (xs.filterMap h) S
  | [], _ => by unfold compL; rfl
  | x :: xs, hx => by
    unfold compL
    rw [hx x (List.mem_cons_self ..), Res.bind_ok, if_pos hg, compL_none hg fun y hy => hx y (List.mem_cons_of_mem _ hy), Res.bind_ok, List.filterMap_cons]
    cases h x <;> rfl
theorem compL_map {f : PV → Store → Res (Option PV)} {h : PV → PV} {g : Option (Nat × List PV)} (hg : Grd g S) {xs : List PV} (hx : ∀ x ∈ xs, f x S = .ok (some (h x)) S) : compL f g xs S = .ok (xs.map h) S := by
  rw [compL_none (h := fun x => some (h x)) hg hx, List.filterMap_eq_map']
/-- with the store changing: an invariant -/
theorem compL_inv {f : PV → Store → Res (Option PV)} (I : List PV → Store → Prop) : ∀ {xs acc : List PV} {S : Store}, I acc S → (∀ (acc : List PV) (S : Store) (x : PV), x ∈ xs → I acc S → ∃ y S1, f x S = .ok (some y) S1 ∧ I (acc ++ [y]) S1) →
    ∃ ys S', compL f none xs S = .ok ys S' ∧ ys.length = xs.length ∧ I (acc ++ ys) S'
  | [], acc, S, h0, _ => ⟨[], S, by unfold compL; rfl, rfl, by simpa using h0⟩
  | x :: xs, acc, S, h0, hs => by
    obtain ⟨y, S1, e1, h1⟩ := hs acc S x (List.mem_cons_self ..) h0
    obtain ⟨ys, S', e2, l2, h2⟩ := compL_inv I h1 fun a T z hz => hs a T z (List.mem_cons_of_mem _ hz)
    refine ⟨y :: ys, S', ?_, by simp [l2], by simpa using h2⟩
    unfold compL
    rw [e1, Res.bind_ok, if_pos (show Grd none S1 from trivial), e2]
    rfl
/-- a for: an invariant by what is done -/
theorem forL_inv {t : TGT} {f : PEnv → Store → SRes} {g : Option (Nat × List PV)} {xs : List PV} (I : List PV → PEnv → Store → Prop) (J : SRes → Prop)
    (hs : ∀ (done : List PV) (x : PV) (rest : List PV) (r : PEnv) (S : Store), xs = done ++ x :: rest → I done r S → ∃ r2, bindT t x r = some r2 ∧ ((∃ r3 S3, (f r2 S = .nx r3 S3 ∨ f r2 S = .ct r3 S3) ∧ Grd g S3 ∧ I (done ++ [x]) r3 S3) ∨ (∃ v S3, f r2 S = .ret v S3 ∧ J (.ret v S3)) ∨ ∃ c a r3 S3, f r2 S = .exc c a r3 S3 ∧ J (.exc c a r3 S3))) :
    ∀ {done rest : List PV} {r : PEnv} {S : Store}, xs = done ++ rest → I done r S → (∃ r' S', forL t f g rest r S = .nx r' S' ∧ I xs r' S') ∨ J (forL t f g rest r S)
  | done, [], r, S, e, h => .inl ⟨r, S, by unfold forL; rfl, by rw [e, List.append_nil]; exact h⟩
  | done, x :: rest, r, S, e, h => by
    obtain ⟨r2, hb, hh⟩ := hs done x rest r S e h
    rcases hh with ⟨r3, S3, e1, hg, h3⟩ | ⟨v, S3, e1, j⟩ | ⟨c, a, r3, S3, e1, j⟩
    · have ih := forL_inv I J hs (done := done ++ [x]) (rest := rest) (by simpa using e) h3
      have z : forL t f g (x :: rest) r S = forL t f g rest r3 S3 := by
        rw [forL, hb]
        dsimp only
        rcases e1 with e1 | e1 <;> rw [e1] <;> dsimp only <;> rw [if_pos hg]
      rw [z]
      exact ih
    · refine .inr ?_
      rw [forL, hb]
      dsimp only
      rw [e1]; exact j
    · refine .inr ?_
      rw [forL, hb]
      dsimp only
      rw [e1]; exact j
end Dg
end

section
set_option Elab.async false
set_option linter.all false
set_option maxRecDepth 100000
set_option maxHeartbeats 1000000
/-! M0: simp lemmas of operations. -/
namespace Dg
open PySem L2
variable {S : Store}
@[simp] theorem op_addI {i j : Int} : op2 .add (.int i) (.int j) S = .ok (.int (i + j)) S := rfl
@[simp] theorem op_subI {i j : Int} : op2 .sub (.int i) (.int j) S = .ok (.int (i - j)) S := rfl
@[simp] theorem op_ltI {i j : Int} : op2 .lt (.int i) (.int j) S = .ok (.bl (decide (i < j))) S := rfl
@[simp] theorem op_leI {i j : Int} : op2 .le (.int i) (.int j) S = .ok (.bl (decide (i ≤ j))) S := rfl
@[simp] theorem op_gtI {i j : Int} : op2 .gt (.int i) (.int j) S = .ok (.bl (decide (j < i))) S := rfl
@[simp] theorem op_geI {i j : Int} : op2 .ge (.int i) (.int j) S = .ok (.bl (decide (j ≤ i))) S := rfl
theorem op_mulI {i j : Int} (h : CMulP i j ∨ CMulW i j) : op2 .mul (.int i) (.int j) S = .ok (.int (i * j)) S := by
  show (if CMulP i j ∨ CMulW i j then (Res.ok (.int (i * j)) S : Res PV) else .bad) = _
  rw [if_pos h]
theorem op_mulS {i j : Int} (h : (-(2 ^ 64) < i ∧ i < 2 ^ 64) ∨ (-(2 ^ 64) < j ∧ j < 2 ^ 64)) : op2 .mul (.int i) (.int j) S = .ok (.int (i * j)) S := op_mulI (.inl h)
theorem op_modI {i j : Int} (h : 0 < j) : op2 .mod (.int i) (.int j) S = .ok (.int (i % j)) S := by
  show (if 0 < j then (Res.ok (.int (i % j)) S : Res PV) else if j < 0 then .ok (.int (i.fmod j)) S else .bad) = _
  rw [if_pos h]
theorem op_modN {i j : Int} (h : j < 0) : op2 .mod (.int i) (.int j) S = .ok (.int (i.fmod j)) S := by
  show (if 0 < j then (Res.ok (.int (i % j)) S : Res PV) else if j < 0 then .ok (.int (i.fmod j)) S else .bad) = _
  rw [if_neg (by omega), if_pos h]
theorem op_fdivN {i j : Int} (h : j < 0) (h2 : j.natAbs.log2 < 9000) : op2 .fdiv (.int i) (.int j) S = .ok (.int (i.fdiv j)) S := by
  show (if CDivW i j then (Res.ok (.int (i / j)) S : Res PV) else if j < 0 ∧ j.natAbs.log2 < 9000 then .ok (.int (i.fdiv j)) S else .bad) = _
  rw [if_neg (fun q => by have := q.1; omega), if_pos ⟨h, h2⟩]
theorem op_fdivI {i j : Int} (h : CDivW i j) : op2 .fdiv (.int i) (.int j) S = .ok (.int (i / j)) S := by
  show (if CDivW i j then (Res.ok (.int (i / j)) S : Res PV) else if j < 0 ∧ j.natAbs.log2 < 9000 then .ok (.int (i.fdiv j)) S else .bad) = _
  rw [if_pos h]
@[simp] theorem op_isN {x : PV} : op1 .isN x S = .ok (.bl (isNon x)) S := rfl
@[simp] theorem op_notN {x : PV} : op1 .notN x S = .ok (.bl (!isNon x)) S := rfl
@[simp] theorem isNon_non : isNon .non = true := rfl
@[simp] theorem isNon_int {i : Int} : isNon (.int i) = false := rfl
@[simp] theorem isNon_str {i : Str} : isNon (.str i) = false := rfl
@[simp] theorem isNon_bl {i : Bool} : isNon (.bl i) = false := rfl
@[simp] theorem isNon_tup {i : List PV} : isNon (.tup i) = false := rfl
@[simp] theorem isNon_lst {i : List PV} : isNon (.lst i) = false := rfl
@[simp] theorem op_eqI {i j : Int} : op2 .eq (.int i) (.int j) S = .ok (.bl (i == j)) S := rfl
@[simp] theorem op_neI {i j : Int} : op2 .ne (.int i) (.int j) S = .ok (.bl (!(i == j))) S := rfl
@[simp] theorem op_eqS {i j : Str} : op2 .eq (.str i) (.str j) S = .ok (.bl (i == j)) S := rfl
@[simp] theorem op_neS {i j : Str} : op2 .ne (.str i) (.str j) S = .ok (.bl (!(i == j))) S := rfl
@[simp] theorem op_eqB {i j : Bool} : op2 .eq (.bl i) (.bl j) S = .ok (.bl (i == j)) S := rfl
@[simp] theorem op_neB {i j : Bool} : op2 .ne (.bl i) (.bl j) S = .ok (.bl (!(i == j))) S := rfl
@[simp] theorem opn_len_tup {xs : List PV} : opn .len [.tup xs] S = .ok (.int xs.length) S := rfl
@[simp] theorem opn_len_lst {xs : List PV} : opn .len [.lst xs] S = .ok (.int xs.length) S := rfl
theorem opn_len_str {x : Str} (h : x.length ≤ sizeLine) : opn .len [.str x] S = .ok (.int x.length) S := by
  show (if x.length ≤ sizeLine then (Res.ok (.int x.length) S : Res PV) else .bad) = _
  rw [if_pos h]
@[simp] theorem opn_tup_lst {xs : List PV} : opn .tuple_ [.lst xs] S = .ok (.tup xs) S := rfl
@[simp] theorem opn_tup_tup {xs : List PV} : opn .tuple_ [.tup xs] S = .ok (.tup xs) S := rfl
@[simp] theorem opn_int_int {i : Int} : opn .int_ [.int i] S = .ok (.int i) S := rfl
@[simp] theorem opn_int_bl {b : Bool} : opn .int_ [.bl b] S = .ok (.int (if b then 1 else 0)) S := rfl
@[simp] theorem opn_isin_non {ts : List String} : opn (.isin ts) [.non] S = .ok (.bl (ts.any (subTy "NoneType"))) S := rfl
@[simp] theorem opn_isin_bl {ts : List String} {b : Bool} : opn (.isin ts) [.bl b] S = .ok (.bl (ts.any (subTy "bool"))) S := rfl
@[simp] theorem opn_isin_int {ts : List String} {b : Int} : opn (.isin ts) [.int b] S = .ok (.bl (ts.any (subTy "int"))) S := rfl
@[simp] theorem opn_isin_str {ts : List String} {b : Str} : opn (.isin ts) [.str b] S = .ok (.bl (ts.any (subTy "str"))) S := rfl
@[simp] theorem opn_isin_tup {ts : List String} {b : List PV} : opn (.isin ts) [.tup b] S = .ok (.bl (ts.any (subTy "tuple"))) S := rfl
@[simp] theorem opn_isin_lst {ts : List String} {b : List PV} : opn (.isin ts) [.lst b] S = .ok (.bl (ts.any (subTy "list"))) S := rfl
@[simp] theorem subTy_int_int : subTy "int" "int" = true := by decide
@[simp] theorem subTy_bool_int : subTy "bool" "int" = true := by decide
@[simp] theorem subTy_bool_bool : subTy "bool" "bool" = true := by decide
@[simp] theorem subTy_int_bool : subTy "int" "bool" = false := by decide
@[simp] theorem subTy_non {c : String} (h : c ≠ "NoneType" := by decide) : subTy "NoneType" c = false := by
  unfold subTy
  have : ("NoneType" == c) = false := by simpa using fun e => h e.symm
  rw [this]; rfl
@[simp] theorem subTy_str_str : subTy "str" "str" = true := by decide
@[simp] theorem subTy_str_int : subTy "str" "int" = false := by decide
@[simp] theorem subTy_str_bool : subTy "str" "bool" = false := by decide
@[simp] theorem subTy_str_tuple : subTy "str" "tuple" = false := by decide
@[simp] theorem subTy_str_list : subTy "str" "list" = false := by decide
@[simp] theorem subTy_int_str : subTy "int" "str" = false := by decide
@[simp] theorem subTy_int_tuple : subTy "int" "tuple" = false := by decide
@[simp] theorem subTy_int_list : subTy "int" "list" = false := by decide
@[simp] theorem subTy_bool_str : subTy "bool" "str" = false := by decide
@[simp] theorem subTy_bool_tuple : subTy "bool" "tuple" = false := by decide
@[simp] theorem subTy_bool_list : subTy "bool" "list" = false := by decide
@[simp] theorem subTy_tuple_tuple : subTy "tuple" "tuple" = true := by decide
@[simp] theorem subTy_tuple_str : subTy "tuple" "str" = false := by decide
@[simp] theorem subTy_tuple_int : subTy "tuple" "int" = false := by decide
@[simp] theorem subTy_tuple_bool : subTy "tuple" "bool" = false := by decide
@[simp] theorem subTy_tuple_list : subTy "tuple" "list" = false := by decide
@[simp] theorem subTy_list_tuple : subTy "list" "tuple" = false := by decide
@[simp] theorem subTy_list_str : subTy "list" "str" = false := by decide
@[simp] theorem subTy_list_int : subTy "list" "int" = false := by decide
@[simp] theorem subTy_list_bool : subTy "list" "bool" = false := by decide
@[simp] theorem subTy_list_list : subTy "list" "list" = true := by decide
theorem allOf_map {α β : Type} {f : PV → Option β} {g : α → PV} {h : α → β} (e : ∀ x, f (g x) = some (h x)) : ∀ {xs : List α}, allOf f (xs.map g) = some (xs.map h)
  | [] => rfl
  | x :: xs => by
    show (match f (g x), allOf f (xs.map g) with
      | some b, some bs => some (b :: bs)
      | _, _ => none) = _
    rw [e, allOf_map e]; rfl
theorem all_bl {bs : List Bool} : opn .all_ [.lst (bs.map PV.bl)] S = .ok (.bl (bs.all id)) S := by
  show (match (some (bs.map PV.bl)).bind (allOf isBl) with
    | some bs => okB (bs.all id) S
    | none => .bad) = _
  rw [Option.bind_some, allOf_map (f := isBl) (g := PV.bl) (h := id) (fun _ => rfl), List.map_id]
  rfl
theorem all_p {α : Type} {p : α → Bool} {xs : List α} : opn .all_ [.lst (xs.map fun x => PV.bl (p x))] S = .ok (.bl (xs.all p)) S := by
  have e : xs.map (fun x => PV.bl (p x)) = (xs.map p).map PV.bl := by rw [List.map_map]; rfl
  rw [e, all_bl]
  simp
theorem sum_int {bs : List Int} : opn .sum_ [.lst (bs.map PV.int)] S = .ok (.int bs.sum) S := by
  show (match (some (bs.map PV.int)).bind (allOf isIn) with
    | some bs => Res.ok (PV.int bs.sum) S
    | none => (.bad : Res PV)) = _
  rw [Option.bind_some, allOf_map (f := isIn) (g := PV.int) (h := id) (fun _ => rfl), List.map_id]
theorem join_str {a : Str} {bs : List Str} (h : (bs.map fun y => Str.length y).sum + bs.length * a.length ≤ 16777216) : opn .join [.str a, .lst (bs.map PV.str)] S = .ok (.str (Txt.join a bs)) S := by
  show (match (some (bs.map PV.str)).bind (allOf isSt) with
    | some ys => if (ys.map fun y => Str.length y).sum + ys.length * a.length ≤ 16777216 then Res.ok (PV.str (Txt.join a ys)) S else (.bad : Res PV)
    | none => (.bad : Res PV)) = _
  rw [Option.bind_some, allOf_map (f := isSt) (g := PV.str) (h := id) (fun _ => rfl), List.map_id]
  dsimp only
  rw [if_pos h]
/-- a comprehension over a list, a turn each by a rule -/
theorem comp_ok {C : Cxt} {own : List Nat} {t : TGT} {it : IT} {e : ME} {r : PEnv} {xs : List PV} {h : PV → PV} (hi : evalI C it r S = .ok (xs, none) S) (hl : xs.length < sizeLine) (hx : ∀ x ∈ xs, turnF C own t .none e r x S = .ok (some (h x)) S) : evalE C (.comp false own t it .none e) r S = .ok (.lst (xs.map h)) S := by
  rw [eE_comp, hi, Res.bind_ok]
  dsimp only
  rw [if_pos hl, compL_map grd_none hx, Res.bind_ok, if_neg Bool.false_ne_true]
theorem below_ints {n : Nat} {xs : List Int} : belows n (xs.map PV.int) = true := by
  induction xs with
  | nil => rfl
  | cons x xs ih => rw [List.map_cons, belows, ih]; rfl
/-- a loop, by what holds before turn k -/
theorem forL_idx {t : TGT} {f : PEnv → Store → SRes} {g : Option (Nat × List PV)} (I : Nat → PEnv → Store → Prop) (J : PV → Store → Prop) :
    ∀ {xs : List PV} {n : Nat} {r : PEnv} {S : Store}, (∀ (k : Nat) (h : k < xs.length) (r : PEnv) (S : Store), I (n + k) r S → ∃ r2, bindT t xs[k] r = some r2 ∧ ((∃ r3 S3, (f r2 S = .nx r3 S3 ∨ f r2 S = .ct r3 S3) ∧ Grd g S3 ∧ I (n + k + 1) r3 S3) ∨ ∃ v S3, f r2 S = .ret v S3 ∧ J v S3)) → I n r S →
      (∃ r' S', forL t f g xs r S = .nx r' S' ∧ I (n + xs.length) r' S') ∨ ∃ v S', forL t f g xs r S = .ret v S' ∧ J v S'
  | [], n, r, S, _, h => .inl ⟨r, S, by unfold forL; rfl, h⟩
  | x :: xs, n, r, S, hs, h => by
    obtain ⟨r2, hb, hh⟩ := hs 0 (by simp) r S h
    simp only [List.getElem_cons_zero] at hb
    rcases hh with ⟨r3, S3, e1, hg, h3⟩ | ⟨v, S3, e1, j⟩
    · have ih := forL_idx (g := g) (t := t) (f := f) (xs := xs) (n := n + 1) (r := r3) (S := S3) I J (fun k hk r S hi => by
        have z := hs (k + 1) (by simpa using hk) r S (by rw [show n + (k + 1) = n + 1 + k by omega]; exact hi)
        simp only [List.getElem_cons_succ] at z
        rw [show n + (k + 1) = n + 1 + k by omega] at z
        exact z) h3
      have z : forL t f g (x :: xs) r S = forL t f g xs r3 S3 := by
        rw [forL, hb]
        dsimp only
        rcases e1 with e1 | e1 <;> rw [e1] <;> dsimp only <;> rw [if_pos hg]
      rw [z, show n + (x :: xs).length = n + 1 + xs.length by simp; omega]
      exact ih
    · refine .inr ⟨v, S3, ?_, j⟩
      rw [forL, hb]
      dsimp only
      rw [e1]
theorem forL_k {t : TGT} {f : PEnv → Store → SRes} {g : Option (Nat × List PV)} (I : Nat → PEnv → Store → Prop) (J : PV → Store → Prop)
    {xs : List PV} {r : PEnv} {S : Store} (hs : ∀ (k : Nat) (h : k < xs.length) (r : PEnv) (S : Store), I k r S → ∃ r2, bindT t xs[k] r = some r2 ∧ ((∃ r3 S3, (f r2 S = .nx r3 S3 ∨ f r2 S = .ct r3 S3) ∧ Grd g S3 ∧ I (k + 1) r3 S3) ∨ ∃ v S3, f r2 S = .ret v S3 ∧ J v S3)) (h0 : I 0 r S) :
      (∃ r' S', forL t f g xs r S = .nx r' S' ∧ I xs.length r' S') ∨ ∃ v S', forL t f g xs r S = .ret v S' ∧ J v S' := by
  have z := forL_idx (t := t) (f := f) (g := g) I J (xs := xs) (n := 0) (r := r) (S := S) (fun k hk r S hi => by
    have y := hs k hk r S (by rw [Nat.zero_add] at hi; exact hi)
    rw [Nat.zero_add]; exact y) h0
  rw [Nat.zero_add] at z
  exact z
theorem p62 : (2 : Int) ^ 62 = 4611686018427387904 := by decide +kernel
theorem p64 : (2 : Int) ^ 64 = 18446744073709551616 := by decide +kernel
theorem rng1 {n : Nat} (hn : n < 4611686018427387904) : -(2 ^ 62) ≤ (n : Int) ∧ (n : Int) < 2 ^ 62 := by
  rw [p62]
  omega
theorem rangeP_nat {n : Nat} (hn : n < 4611686018427387904) : rangeP [.int n] = some ((List.range n).map fun (k : Nat) => .int (k : Int)) := by
  rw [rangeP, if_pos (rng1 hn)]
  simp only [Int.toNat_natCast, Int.zero_add]
theorem eI_rng {C : Cxt} {r : PEnv} {S : Store} {e : ME} {n : Nat} (h : evalE C e r S = .ok (.int n) S) (hn : n < 4611686018427387904) : evalI C (.range (.cons e .nil)) r S = .ok ((List.range n).map fun (k : Nat) => .int (k : Int), none) S := by
  rw [eI_range, eEs_cons, h, Res.bind_ok, eEs_nil, Res.bind_ok, Res.bind_ok]
  rw [rangeP_nat hn]
theorem pow_small {b t : Nat} (hb : b ≤ 10) (ht : t ≤ 6) : b ^ t ≤ 1000000 := 
   Nat.le_trans (Nat.pow_le_pow_left hb t) (Nat.pow_le_pow_right (n := 10) (by decide) ht)
theorem op_mulN {i j : Nat} {S : Store} (h : i < 18446744073709551616 ∨ j < 18446744073709551616) : op2 .mul (.int (i : Int)) (.int (j : Int)) S = .ok (.int ((i * j : Nat) : Int)) S := by
  rw [op_mulS (by rw [p64]; omega), Int.natCast_mul]
end Dg
end

section
set_option Elab.async false
set_option linter.all false
set_option maxRecDepth 100000
set_option maxHeartbeats 1000000
/-! PlD: deep equality of plain data. -/
namespace Dg
open PySem L2
variable {S : Store}
theorem toDs_map {α : Type} {g : α → PV} {d : α → PyData} (h : ∀ x, toD S (g x) = some (d x)) : ∀ {xs : List α}, toDs S (xs.map g) = some (xs.map d)
  | [] => by rw [List.map_nil, toDs]; rfl
  | x :: xs => by
    rw [List.map_cons, toDs, h, toDs_map h]; rfl
theorem canAll_map {α : Type} {d : α → PyData} (h : ∀ x, PyData.canLay0 (d x) = true) : ∀ {xs : List α}, PyData.canLayAll0 (xs.map d) = true
  | [] => by rw [List.map_nil, PyData.canLayAll0]
  | x :: xs => by rw [List.map_cons, PyData.canLayAll0, h, canAll_map h]; rfl
theorem depthAll_map {α : Type} {d : α → PyData} {n : Nat} (h : ∀ x, PyData.depth (d x) ≤ n) : ∀ {xs : List α}, PyData.depthAll (xs.map d) ≤ n
  | [] => by rw [List.map_nil, PyData.depthAll]; omega
  | x :: xs => by
    rw [List.map_cons, PyData.depthAll]
    have := h x
    have := depthAll_map (n := n) h (xs := xs)
    omega
def rowP (row : List Int) : PV := .tup (row.map PV.int)
def rowD (row : List Int) : PyData := .tuple (row.map PyData.int)
theorem toD_row {row : List Int} : toD S (rowP row) = some (rowD row) := by
  unfold rowP rowD
  rw [toD, toDs_map (d := PyData.int) (fun x => by rw [toD])]; rfl
theorem can_row {row : List Int} : PyData.canLay0 (rowD row) = true := by
  unfold rowD
  rw [PyData.canLay0, canAll_map (fun x => by rw [PyData.canLay0])]
theorem depth_row {row : List Int} : PyData.depth (rowD row) ≤ 1 := by
  unfold rowD
  rw [PyData.depth]
  have := depthAll_map (n := 0) (d := PyData.int) (xs := row) (fun x => by rw [PyData.depth]; omega)
  omega
theorem ne_nil_rows {rows : List (List Int)} : op2 .ne (.tup (rows.map rowP)) (.tup []) S = .ok (.bl (!rows.isEmpty)) S := by
  show eqD true (.tup (rows.map rowP)) (.tup []) S = _
  unfold eqD
  rw [if_neg (by simp [scalP])]
  have e1 : toD1 S (.tup (rows.map rowP)) = some (.tuple (rows.map rowD)) := by
    rw [toD1, toD, toDs_map (fun x => toD_row)]; rfl
    all_goals simp
  have e2 : toD1 S (.tup []) = some (.tuple []) := by
    rw [toD1, toD, toDs]; rfl
    all_goals simp
  rw [e1, e2]
  have s1 : SeqAt.shaped (.tuple (rows.map rowD)) = true := by
    unfold SeqAt.shaped
    rw [PyData.canLay0, canAll_map (fun x => can_row), PyData.depth]
    have := depthAll_map (n := 1) (d := rowD) (xs := rows) (fun x => depth_row)
    simp; omega
  have s2 : SeqAt.shaped (.tuple []) = true := by decide +kernel
  dsimp only
  rw [if_pos ⟨s1, s2⟩]
  unfold okB
  cases rows with
  | nil => simp [PyData.eqv, PyData.eqvAll]
  | cons a b => simp [PyData.eqv, PyData.eqvAll]
theorem ne_nil_one {x : PV} {d : PyData} (h : toD S x = some d) (hs : SeqAt.shaped (.tuple [d]) = true) : op2 .ne (.tup [x]) (.tup []) S = .ok (.bl true) S := by
  show eqD true (.tup [x]) (.tup []) S = _
  unfold eqD
  rw [if_neg (by simp [scalP])]
  have e1 : toD1 S (.tup [x]) = some (.tuple [d]) := by
    rw [toD1, toD, toDs, h, toDs]; rfl
    all_goals simp
  have e2 : toD1 S (.tup []) = some (.tuple []) := by
    rw [toD1, toD, toDs]; rfl
    all_goals simp
  rw [e1, e2]
  have s2 : SeqAt.shaped (.tuple []) = true := by decide +kernel
  dsimp only
  rw [if_pos ⟨hs, s2⟩]
  simp [okB, PyData.eqv, PyData.eqvAll]
@[simp] theorem ne_nil_nil : op2 .ne (.tup []) (.tup []) S = .ok (.bl false) S := by
  have := ne_nil_rows (S := S) (rows := [])
  simpa using this
@[simp] theorem ix4_0 {a b c d : PV} : op2 .ix (.tup [a, b, c, d]) (.int 0) S = .ok a S := rfl
@[simp] theorem ix4_1 {a b c d : PV} : op2 .ix (.tup [a, b, c, d]) (.int 1) S = .ok b S := rfl
@[simp] theorem ix4_2 {a b c d : PV} : op2 .ix (.tup [a, b, c, d]) (.int 2) S = .ok c S := rfl
@[simp] theorem ix4_3 {a b c d : PV} : op2 .ix (.tup [a, b, c, d]) (.int 3) S = .ok d S := rfl
theorem ix_tup {xs : List PV} {i : Nat} {x : PV} (h : xs[i]? = some x) : op2 .ix (.tup xs) (.int i) S = .ok x S := by
  show (match atI xs i with
    | some v => Res.ok v S
    | none => .bad) = _
  rw [atI_nat h]
theorem ix_lst {xs : List PV} {i : Nat} {x : PV} (h : xs[i]? = some x) : op2 .ix (.lst xs) (.int i) S = .ok x S := by
  show (match atI xs i with
    | some v => Res.ok v S
    | none => .bad) = _
  rw [atI_nat h]
theorem enumP_at : ∀ {xs : List PV} {n k : Nat} (h : k < (enumP n xs).length), (enumP n xs)[k] = .tup [.int ((n + k : Nat) : Int), xs.getD k .non]
  | [], _, _, h => by simp [enumP] at h
  | x :: xs, n, 0, h => by simp [enumP]
  | x :: xs, n, k + 1, h => by
    have z := enumP_at (xs := xs) (n := n + 1) (k := k) (by simpa [enumP] using h)
    simp [enumP] at z ⊢
    rw [z]
    simp; omega
theorem enumP_len : ∀ {xs : List PV} {n : Nat}, (enumP n xs).length = xs.length
  | [], _ => rfl
  | x :: xs, n => by simp [enumP, enumP_len]
theorem enumP_eq {xs : List PV} : enumP 0 xs = (List.range xs.length).map fun k => .tup [.int (k : Int), xs.getD k .non] := by
  apply List.ext_getElem
  · simp [enumP_len]
  · intro i h1 h2
    rw [enumP_at h1]
    simp
theorem compL_A {α : Type} {f : PV → Store → Res (Option PV)} {g : α → PV} {h : α → PV} : ∀ {as : List α}, (∀ a ∈ as, f (g a) S = .ok (some (h a)) S) → compL f none (as.map g) S = .ok (as.map h) S
  | [], _ => by rw [List.map_nil]; unfold compL; rfl
  | a :: as, hx => by
    rw [List.map_cons]
    unfold compL
    rw [hx a (List.mem_cons_self ..), Res.bind_ok, if_pos (show Grd none S from trivial), compL_A fun y hy => hx y (List.mem_cons_of_mem _ hy), Res.bind_ok]
    rfl
theorem comp_A {C : Cxt} {own : List Nat} {t : TGT} {it : IT} {e : ME} {r : PEnv} {α : Type} {as : List α} {g h : α → PV} (hi : evalI C it r S = .ok (as.map g, none) S) (hl : as.length < sizeLine) (hx : ∀ a ∈ as, turnF C own t .none e r (g a) S = .ok (some (h a)) S) : evalE C (.comp false own t it .none e) r S = .ok (.lst (as.map h)) S := by
  rw [eE_comp, hi, Res.bind_ok]
  dsimp only
  rw [if_pos (by simpa using hl), compL_A hx, Res.bind_ok, if_neg Bool.false_ne_true]
def enumL (xs : List PV) : List PV := (List.range xs.length).map fun (k : Nat) => .tup [.int (k : Int), xs.getD k .non]
theorem eI_enumT {C : Cxt} {r : PEnv} {e : ME} {xs : List PV} (h : evalE C e r S = .ok (.tup xs) S) : evalI C (.enum e) r S = .ok (enumL xs, none) S := by
  rw [eI_enum, h, Res.bind_ok]
  simp only [seqOf, enumP_eq, enumL]
theorem eI_ofT {C : Cxt} {r : PEnv} {e : ME} {xs : List PV} (h : evalE C e r S = .ok (.tup xs) S) : evalI C (.of e) r S = .ok (xs, none) S := by
  rw [eI_of, h, Res.bind_ok]
  simp only [seqOf]
theorem eI_ofL {C : Cxt} {r : PEnv} {e : ME} {xs : List PV} (h : evalE C e r S = .ok (.lst xs) S) : evalI C (.of e) r S = .ok (xs, none) S := by
  rw [eI_of, h, Res.bind_ok]
  simp only [seqOf]
end Dg
end

section
set_option Elab.async false
set_option linter.all false
set_option maxRecDepth 100000
set_option maxHeartbeats 1000000
/-! PlE: texts by their signs. -/
namespace Dg
open PySem L2
variable {St : Store}
abbrev tx (l : List Nat) : PV := .str (SX.S l)
theorem log2_small {n : Nat} (h : n < 18446744073709551616) : n.log2 < 1920 := by
  by_cases hz : n = 0
  · subst hz; decide +kernel
  · have := (Nat.log2_lt hz).mpr (show n < 2 ^ 64 from h)
    omega
theorem opn_str_nat {n : Nat} (h : n < 18446744073709551616) : opn .str_ [.int (n : Int)] St = .ok (tx (TL.numL n)) St := by
  show (if ((n : Nat) : Int).natAbs.log2 < 1920 then (Res.ok (.str (toString ((n : Nat) : Int))) St : Res PV) else .bad) = _
  rw [if_pos (by rw [Int.natAbs_natCast]; exact log2_small h)]
  rw [show (toString ((n : Nat) : Int) : Str) = SX.S (TL.numL n) from SX.num_S n]
theorem add_SS {a b : List Nat} (h : a.length + b.length ≤ 16777216) : op2 .add (tx a) (tx b) St = .ok (tx (a ++ b)) St := by
  show (if (SX.S a).length + (SX.S b).length ≤ sizeLine then (Res.ok (.str (SX.S a ++ SX.S b)) St : Res PV) else .bad) = _
  rw [SX.S_len, SX.S_len, if_pos (show _ ≤ sizeLine from h), SX.S_cat]
theorem add_LL {xs ys : List PV} (h : xs.length + ys.length ≤ 16777216) : op2 .add (.lst xs) (.lst ys) St = .ok (.lst (xs ++ ys)) St := by
  show (if xs.length + ys.length ≤ sizeLine then (Res.ok (.lst (xs ++ ys)) St : Res PV) else .bad) = _
  rw [if_pos (show _ ≤ sizeLine from h)]
theorem add_TT {xs ys : List PV} (h : xs.length + ys.length ≤ 16777216) : op2 .add (.tup xs) (.tup ys) St = .ok (.tup (xs ++ ys)) St := by
  show (if xs.length + ys.length ≤ sizeLine then (Res.ok (.tup (xs ++ ys)) St : Res PV) else .bad) = _
  rw [if_pos (show _ ≤ sizeLine from h)]
theorem len_SS {a : List Nat} (h : a.length ≤ 16777216) : opn .len [tx a] St = .ok (.int a.length) St := by
  rw [opn_len_str (by rw [SX.S_len]; exact h), SX.S_len]
theorem join_SS {a : List Nat} {ys : List (List Nat)} (h : (ys.map fun y => y.length).sum + ys.length * a.length ≤ 16777216) : opn .join [tx a, .lst (ys.map tx)] St = .ok (tx (TL.joinL a ys)) St := by
  have e : ys.map tx = (ys.map SX.S).map PV.str := by rw [List.map_map]; rfl
  rw [e, join_str, SX.join_S]
  rw [SX.S_len, List.length_map, show (ys.map SX.S).map (fun y => Str.length y) = ys.map fun y => y.length from SX.lens ys]
  exact h
theorem join_RS {a : List Nat} {n : Nat} {ys : List (List Nat)} (hn : St[n]? = some (.lst (ys.map tx))) (h : (ys.map fun y => y.length).sum + ys.length * a.length ≤ 16777216) : opn .join [tx a, .ref n] St = .ok (tx (TL.joinL a ys)) St := by
  have z := join_SS (St := St) h
  have e : lstOf (.ref n) St = lstOf (.lst (ys.map tx)) St := by
    show (match St[n]? with
      | some (.lst xs) => some xs
      | _ => none) = some (ys.map tx)
    rw [hn]
  rw [← z]
  show (match (lstOf (.ref n) St).bind (allOf isSt) with
    | some ys => if (ys.map fun y => Str.length y).sum + ys.length * (SX.S a).length ≤ 16777216 then Res.ok (PV.str (Txt.join (SX.S a) ys)) St else (.bad : Res PV)
    | none => (.bad : Res PV)) = _
  rw [e]
  rfl
theorem joinL_len {a : List Nat} : ∀ {ys : List (List Nat)}, (TL.joinL a ys).length ≤ (ys.map fun y => y.length).sum + ys.length * a.length
  | [] => by simp [TL.joinL]
  | [y] => by simp [TL.joinL]
  | y :: z :: r => by
    have ih := joinL_len (a := a) (ys := z :: r)
    show (y ++ (a ++ TL.joinL a (z :: r))).length ≤ _
    simp only [List.length_append, List.map_cons, List.sum_cons, List.length_cons] at ih ⊢
    have : (r.length + 1 + 1) * a.length = (r.length + 1) * a.length + a.length := by rw [Nat.succ_mul]
    omega
theorem split_SS {a b : List Nat} (hb : b ≠ []) (hk : b.all (· < 256) = true) (ha : a.length + 2 ≤ 16777216) : opn .splitV [tx a, tx b] St = .ok (.lst ((TL.spl b 0 [] a).map tx)) St := by
  have hb2 : ((SX.S b).length == 0) = false := by
    rw [SX.S_len]
    cases b with
    | nil => exact absurd rfl hb
    | cons _ _ => rfl
  show (if ((SX.S b).length == 0) = false ∧ (SX.S a).length + 2 ≤ sizeLine then (Res.ok (.lst ((Txt.split (SX.S a) (SX.S b)).map .str)) St : Res PV) else .bad) = _
  rw [if_pos ⟨hb2, by rw [SX.S_len]; exact ha⟩, SX.split_S hb hk, List.map_map]
  rfl
theorem sum_le {ys : List (List Nat)} {m : Nat} (h : ∀ y ∈ ys, y.length ≤ m) : (ys.map fun y => y.length).sum ≤ ys.length * m := by
  induction ys with
  | nil => simp
  | cons y ys ih =>
    have h1 := h y (List.mem_cons_self ..)
    have h2 := ih fun z hz => h z (List.mem_cons_of_mem _ hz)
    simp only [List.map_cons, List.sum_cons, List.length_cons]
    rw [Nat.succ_mul]
    omega
theorem get_end {S : Store} {x : MO} : (S ++ [x])[S.length]? = some x := by simp
theorem set_end {S : Store} {x y : MO} : (S ++ [x]).set S.length y = S ++ [y] := by simp
theorem zipP_map {α β : Type} {g : α → PV} {h : β → PV} : ∀ {xs : List α} {ys : List β}, zipP (xs.map g) (ys.map h) = (xs.zip ys).map fun p => .tup [g p.1, h p.2]
  | [], _ => by simp [zipP]
  | x :: xs, [] => by simp [zipP]
  | x :: xs, y :: ys => by simp [zipP, zipP_map]
end Dg
end

section
set_option Elab.async false
set_option linter.all false
set_option maxRecDepth 100000
set_option maxHeartbeats 1000000
/-! PlF: splitting, slices. -/
namespace Dg
open PySem L2
variable {St : Store}
def sp (c : Nat) (l : List Nat) : List (List Nat) := TL.spl [c] 0 [] l
theorem spl1_cons {c d : Nat} {acc r : List Nat} : TL.spl [c] 0 acc (d :: r) = if d = c then acc :: TL.spl [c] 0 [] r else TL.spl [c] 0 (acc ++ [d]) r := by
  by_cases h : d = c
  · subst h
    rw [if_pos rfl, TL.spl_hit (by simp [TL.pre])]
    rfl
  · rw [if_neg h, TL.spl_miss (by simp [TL.pre, h])]
theorem spl1_sum {c : Nat} : ∀ (l acc : List Nat), ((TL.spl [c] 0 acc l).map fun y => y.length).sum + (TL.spl [c] 0 acc l).length = acc.length + l.length + 1
  | [], acc => by rw [TL.spl_nil]; simp
  | d :: r, acc => by
    rw [spl1_cons]
    split
    · have ih := spl1_sum (c := c) r []
      simp only [List.map_cons, List.sum_cons, List.length_cons, List.length_nil] at ih ⊢
      omega
    · have ih := spl1_sum (c := c) r (acc ++ [d])
      simp only [List.length_append, List.length_cons, List.length_nil] at ih ⊢
      omega
theorem spl1_ne {c : Nat} : ∀ (l acc : List Nat), TL.spl [c] 0 acc l ≠ []
  | [], acc => by rw [TL.spl_nil]; simp
  | d :: r, acc => by
    rw [spl1_cons]
    split
    · simp
    · exact spl1_ne r _
theorem sp_cons (c : Nat) (l : List Nat) : ∃ p ps, sp c l = p :: ps := by
  cases h : sp c l with
  | nil => exact absurd h (spl1_ne l [])
  | cons p ps => exact ⟨p, ps, rfl⟩
theorem mem_sum {ys : List (List Nat)} {y : List Nat} (h : y ∈ ys) : y.length ≤ (ys.map fun y => y.length).sum := by
  induction ys with
  | nil => simp at h
  | cons z zs ih =>
    simp only [List.map_cons, List.sum_cons]
    rcases List.mem_cons.mp h with rfl | h
    · omega
    · have := ih h; omega
theorem sp_sum {c : Nat} {l : List Nat} : ((sp c l).map fun y => y.length).sum + (sp c l).length = l.length + 1 := by
  have := spl1_sum (c := c) l []
  simpa [sp] using this
theorem sp_part {c : Nat} {l y : List Nat} (h : y ∈ sp c l) : y.length ≤ l.length := by
  have h1 := mem_sum h
  have h2 := sp_sum (c := c) (l := l)
  have h3 : 0 < (sp c l).length := List.length_pos_iff.mpr (spl1_ne l [])
  omega
theorem sp_len {c : Nat} {l : List Nat} : (sp c l).length ≤ l.length + 1 := by
  have h2 := sp_sum (c := c) (l := l)
  omega
theorem split_sp {c : Nat} {l : List Nat} (hc : c < 256) (hl : l.length + 2 ≤ 16777216) : opn .splitV [tx l, tx [c]] St = .ok (.lst ((sp c l).map tx)) St :=
  split_SS (by simp) (by simp [hc]) hl
theorem slice1 {x : PV} {xs : List PV} : slP (.lst (x :: xs)) (some 1) none St = .ok (.lst xs) St := by
  show Res.ok (PV.lst (((x :: xs).drop (HT.sIx (x :: xs).length 0 (some 1))).take (HT.sIx (x :: xs).length (x :: xs).length none - HT.sIx (x :: xs).length 0 (some 1)))) St = _
  have e : HT.sIx (x :: xs).length 0 (some 1) = 1 := by
    have := HT.sIx_nat (x :: xs).length 0 1
    rw [show ((1 : Nat) : Int) = 1 from rfl] at this
    rw [this]
    simp
  rw [e, HT.sIx_none]
  simp
theorem ix0_lst {x : PV} {xs : List PV} : op2 .ix (.lst (x :: xs)) (.int 0) St = .ok x St := ix_lst (i := 0) rfl
theorem sp_join {c : Nat} {parts : List (List Nat)} (hne : parts ≠ []) (h : ∀ p ∈ parts, c ∉ p) : sp c (TL.joinL [c] parts) = parts := SX.spl_join hne h
theorem none_of_spl1 {c : Nat} : ∀ (l acc : List Nat), c ∉ acc → ∀ y ∈ TL.spl [c] 0 acc l, c ∉ y
  | [], acc, h, y, hy => by
    rw [TL.spl_nil] at hy
    rw [List.mem_singleton.mp hy]; exact h
  | d :: r, acc, h, y, hy => by
    rw [spl1_cons] at hy
    split at hy
    · rcases List.mem_cons.mp hy with rfl | hy
      · exact h
      · exact none_of_spl1 r [] (by simp) y hy
    · exact none_of_spl1 r (acc ++ [d]) (by simp; exact ⟨h, fun e => by omega⟩) y hy
theorem sp_free {c : Nat} {l y : List Nat} (h : y ∈ sp c l) : c ∉ y := none_of_spl1 l [] (by simp) y h
end Dg
end

section
set_option Elab.async false
set_option linter.all false
set_option maxRecDepth 100000
set_option maxHeartbeats 1000000
/-! RT: fractions in lowest terms as Lean's rationals. -/
namespace Dg
open PySem L2
def fr (q : Rat) : PV := .tup [.int q.num, .int (q.den : Int)]
/-- numerator and denominator at most 2 ^ m -/
def Sz (m : Nat) (q : Rat) : Prop := q.num.natAbs ≤ 2 ^ m ∧ q.den ≤ 2 ^ m
/-- a whole number of at most N over D -/
def Bd (D N : Nat) (q : Rat) : Prop := ∃ n : Int, q = Rat.divInt n D ∧ n.natAbs ≤ N
theorem den_pos (q : Rat) : (0 : Int) < q.den := by have := q.den_pos; omega
theorem num_pos_div {u d : Int} (h : 0 < d) : (Rat.divInt u d).num = u / (Int.gcd u d : Int) := by
  rw [Rat.num_divInt, Int.sign_eq_one_of_pos h, Int.one_mul, Int.gcd_comm]
theorem den_pos_div {u d : Int} (h : 0 < d) : ((Rat.divInt u d).den : Int) = d / (Int.gcd u d : Int) := by
  rw [Rat.den_divInt, if_neg (by omega), Int.gcd_comm, Int.natCast_ediv, Int.natAbs_of_nonneg (by omega)]
theorem gcd_pos {u d : Int} (h : d ≠ 0) : 0 < Int.gcd u d := Int.gcd_pos_of_ne_zero_right u h
theorem num_neg_div {u d : Int} (h : d < 0) : (Rat.divInt u d).num = u.fdiv (0 - (Int.gcd u d : Int)) := by
  have g : (0 : Int) < Int.gcd u d := by have := gcd_pos (u := u) (d := d) (by omega); omega
  obtain ⟨c, hc⟩ := Int.gcd_dvd_left u d
  rw [Rat.num_divInt, Int.sign_eq_neg_one_of_neg h, Int.gcd_comm d u]
  generalize (Int.gcd u d : Int) = k at *
  have e1 : -1 * u = -c * k := by grind
  have e2 : u = (0 - k) * (-c) := by grind
  rw [e1, Int.mul_ediv_cancel _ (by omega)]
  conv => rhs; rw [e2]
  rw [Int.mul_fdiv_cancel_left _ (by omega)]
theorem den_neg_div {u d : Int} (h : d < 0) : ((Rat.divInt u d).den : Int) = d.fdiv (0 - (Int.gcd u d : Int)) := by
  have g : (0 : Int) < Int.gcd u d := by have := gcd_pos (u := u) (d := d) (by omega); omega
  obtain ⟨c, hc⟩ := Int.gcd_dvd_right u d
  rw [Rat.den_divInt, if_neg (by omega), Int.gcd_comm d u, Int.natCast_ediv]
  generalize (Int.gcd u d : Int) = k at *
  have e1 : (d.natAbs : Int) = -c * k := by
    have : (d.natAbs : Int) = -d := by omega
    grind
  have e2 : d = (0 - k) * (-c) := by grind
  rw [e1, Int.mul_ediv_cancel _ (by omega)]
  conv => rhs; rw [e2]
  rw [Int.mul_fdiv_cancel_left _ (by omega)]
theorem fr_inj {a b : Rat} (h : fr a = fr b) : a = b := by
  unfold fr at h
  injection h with h
  injection h with h1 h2
  injection h1 with h1
  injection h2 with h2 _
  injection h2 with h2
  exact Rat.ext h1 (by omega)
/-! ### bounds -/
theorem Bd.mono {D N M : Nat} {q : Rat} (h : Bd D N q) (l : N ≤ M) : Bd D M q := by
  obtain ⟨n, e, b⟩ := h
  exact ⟨n, e, by omega⟩
theorem Bd.zero {D N : Nat} : Bd D N 0 := ⟨0, by rw [Rat.zero_divInt], by simp⟩
theorem Bd.add {D N M : Nat} {a b : Rat} (hD : 0 < D) (h : Bd D N a) (k : Bd D M b) : Bd D (N + M) (a + b) := by
  obtain ⟨n, rfl, b1⟩ := h
  obtain ⟨m, rfl, b2⟩ := k
  refine ⟨n + m, ?_, by omega⟩
  rw [Rat.divInt_add_divInt _ _ (by omega) (by omega), ← Int.add_mul, Rat.divInt_mul_right (by omega)]
theorem Bd.neg {D N : Nat} {a : Rat} (h : Bd D N a) : Bd D N (-a) := by
  obtain ⟨n, rfl, b1⟩ := h
  exact ⟨-n, by rw [Rat.neg_divInt], by omega⟩
theorem Bd.mul {D E N M : Nat} {a b : Rat} (h : Bd D N a) (k : Bd E M b) : Bd (D * E) (N * M) (a * b) := by
  obtain ⟨n, rfl, b1⟩ := h
  obtain ⟨m, rfl, b2⟩ := k
  refine ⟨n * m, ?_, by rw [Int.natAbs_mul]; exact Nat.mul_le_mul b1 b2⟩
  rw [Rat.divInt_mul_divInt, Int.natCast_mul]
theorem Bd.scale {D N : Nat} {a : Rat} (h : Bd D N a) {c : Nat} (hc : 0 < c) : Bd (D * c) (N * c) a := by
  obtain ⟨n, rfl, b1⟩ := h
  refine ⟨n * c, ?_, by rw [Int.natAbs_mul, Int.natAbs_natCast]; exact Nat.mul_le_mul_right c b1⟩
  rw [Int.natCast_mul, Rat.divInt_mul_right (by omega)]
theorem Bd.sz {D N m : Nat} {q : Rat} (hD : 0 < D) (h : Bd D N q) (h1 : D ≤ 2 ^ m) (h2 : N ≤ 2 ^ m) : Sz m q := by
  obtain ⟨n, rfl, b1⟩ := h
  have hd : (0 : Int) < D := by omega
  have g := gcd_pos (u := n) (d := D) (by omega)
  constructor
  · rw [num_pos_div hd]
    have := Int.natAbs_ediv_le_natAbs n (Int.gcd n D : Int)
    omega
  · have e := den_pos_div (u := n) hd
    have : (D : Int) / (Int.gcd n D : Int) ≤ D := Int.ediv_le_self _ (by omega)
    omega
theorem Bd.of {q : Rat} {m : Nat} (h : Sz m q) : ∃ n : Int, q = Rat.divInt n q.den ∧ n.natAbs ≤ 2 ^ m := ⟨q.num, (Rat.num_divInt_den q).symm, h.1⟩
theorem Sz.mono {m n : Nat} {q : Rat} (h : Sz m q) (l : m ≤ n) : Sz n q := ⟨Nat.le_trans h.1 (Nat.pow_le_pow_right (by omega) l), Nat.le_trans h.2 (Nat.pow_le_pow_right (by omega) l)⟩
theorem log2_of {n m : Nat} (h : n ≤ 2 ^ m) (l : m < 8999) : n.log2 < 9000 := by
  by_cases z : n = 0
  · subst z; decide
  · have : n < 2 ^ (m + 1) := by rw [Nat.pow_succ]; have := Nat.two_pow_pos m; omega
    have := (Nat.log2_lt z).mpr this
    omega
/-- both small enough to be multiplied -/
theorem wide_of {i j : Int} {m n : Nat} (h : i.natAbs ≤ 2 ^ m) (k : j.natAbs ≤ 2 ^ n) (l : m + n < 900000) : CMulW i j := by
  have lg : ∀ {n m : Nat}, n ≤ 2 ^ m → n.log2 ≤ m := fun {n m} h => by
    by_cases z : n = 0
    · subst z; simp [Nat.log2_zero]
    · have : n < 2 ^ (m + 1) := by rw [Nat.pow_succ]; have := Nat.two_pow_pos m; omega
      have := (Nat.log2_lt z).mpr this
      omega
  have := lg h
  have := lg k
  show i.natAbs.log2 + j.natAbs.log2 < 1000000
  omega
/-! ### sums of products -/
def dotP (ps : List (Rat × Rat)) : Rat := ps.foldl (fun a p => a + p.1 * p.2) 0
def dotQ (xs ys : List Rat) : Rat := dotP (xs.zip ys)
theorem dotP_take {ps : List (Rat × Rat)} {n : Nat} (h : n < ps.length) : dotP (ps.take (n + 1)) = dotP (ps.take n) + ps[n].1 * ps[n].2 := by
  unfold dotP
  rw [List.take_add_one, List.foldl_append, List.getElem?_eq_getElem h]
  rfl
theorem dotP_all {ps : List (Rat × Rat)} : dotP (ps.take ps.length) = dotP ps := by rw [List.take_length]
theorem dotP_zero : dotP [] = 0 := rfl
theorem dotP_cons {p : Rat × Rat} {ps : List (Rat × Rat)} : dotP (p :: ps) = p.1 * p.2 + dotP ps := by
  have key : ∀ (ps : List (Rat × Rat)) (a : Rat), ps.foldl (fun a p => a + p.1 * p.2) a = a + dotP ps := by
    intro ps
    induction ps with
    | nil => intro a; simp [dotP, Rat.add_zero]
    | cons p ps ih =>
      intro a
      unfold dotP
      rw [List.foldl_cons, List.foldl_cons, ih, ih, Rat.zero_add, Rat.add_assoc]
  unfold dotP
  rw [List.foldl_cons, key, Rat.zero_add]
  rfl
/-- bounds of a sum of products with one denominator -/
theorem dotQ_bd {D E N M : Nat} (hD : 0 < D) (hE : 0 < E) : ∀ {xs ys : List Rat}, (∀ x ∈ xs, Bd D N x) → (∀ y ∈ ys, Bd E M y) → Bd (D * E) (xs.length * (N * M)) (dotQ xs ys)
  | [], ys, _, _ => by unfold dotQ; simp only [List.zip_nil_left]; exact Bd.zero
  | x :: xs, [], _, _ => by unfold dotQ; simp only [List.zip_nil_right]; exact Bd.zero
  | x :: xs, y :: ys, h, k => by
    have ih := dotQ_bd hD hE (xs := xs) (ys := ys) (fun z hz => h z (List.mem_cons_of_mem _ hz)) (fun z hz => k z (List.mem_cons_of_mem _ hz))
    have := ((h x (List.mem_cons_self ..)).mul (k y (List.mem_cons_self ..))).add (Nat.mul_pos hD hE) ih
    unfold dotQ at this ⊢
    rw [List.zip_cons_cons, dotP_cons]
    refine this.mono ?_
    rw [List.length_cons, Nat.add_mul]; omega
/-- the program's way: over the product of the denominators -/
structure UU (s n : Nat) (q : Rat) (u d : Int) : Prop where
  pos : 0 < d
  eq : q = Rat.divInt u d
  un : u.natAbs ≤ n * 2 ^ (s * n)
  dn : d.natAbs ≤ 2 ^ (s * n)
theorem UU.zero {s : Nat} : UU s 0 0 0 1 := ⟨by decide, by rw [Rat.zero_divInt], by simp, by simp⟩
theorem UU.skip {s n : Nat} {q : Rat} {u d : Int} (h : UU s n q u d) : UU s (n + 1) q u d := by
  have : 2 ^ (s * n) ≤ 2 ^ (s * (n + 1)) := Nat.pow_le_pow_right (by omega) (by rw [Nat.mul_succ]; omega)
  exact ⟨h.pos, h.eq, Nat.le_trans h.un (Nat.mul_le_mul (by omega) this), Nat.le_trans h.dn this⟩
theorem UU.step {m r n : Nat} {q a b : Rat} {u d : Int} (h : UU (m + r) n q u d) (ha : Sz m a) (hb : Sz r b) : UU (m + r) (n + 1) (q + a * b) (u * (a.den * b.den : Int) + a.num * b.num * d) (d * (a.den * b.den : Int)) := by
  have da := den_pos a
  have db := den_pos b
  have dd : (0 : Int) < a.den * b.den := Int.mul_pos da db
  have e2 : 2 ^ ((m + r) * (n + 1)) = 2 ^ ((m + r) * n) * (2 ^ m * 2 ^ r) := by rw [Nat.mul_succ, Nat.pow_add, Nat.pow_add]
  have n1 : (a.den * b.den : Int).natAbs ≤ 2 ^ m * 2 ^ r := by rw [Int.natAbs_mul]; exact Nat.mul_le_mul (by simpa using ha.2) (by simpa using hb.2)
  have n2 : (a.num * b.num).natAbs ≤ 2 ^ m * 2 ^ r := by rw [Int.natAbs_mul]; exact Nat.mul_le_mul ha.1 hb.1
  refine ⟨Int.mul_pos h.pos dd, ?_, ?_, ?_⟩
  · have e : a * b = Rat.divInt (a.num * b.num) (a.den * b.den) := by
      conv => lhs; rw [← Rat.num_divInt_den a, ← Rat.num_divInt_den b]
      rw [Rat.divInt_mul_divInt]
    rw [h.eq, e, Rat.divInt_add_divInt _ _ (by have := h.pos; omega) (by omega)]
  · rw [e2, Nat.add_mul, Nat.one_mul]
    refine Nat.le_trans (Int.natAbs_add_le _ _) (Nat.add_le_add ?_ ?_)
    · rw [Int.natAbs_mul, ← Nat.mul_assoc]; exact Nat.mul_le_mul h.un n1
    · rw [Int.natAbs_mul, Nat.mul_comm]; exact Nat.mul_le_mul h.dn n2
  · rw [e2, Int.natAbs_mul]; exact Nat.mul_le_mul h.dn n1
/-- some numerator and denominator of each partial sum -/
theorem dotP_uu {m r : Nat} {ps : List (Rat × Rat)} (h : ∀ p ∈ ps, Sz m p.1 ∧ Sz r p.2) : ∀ n, n ≤ ps.length → ∃ u d, UU (m + r) n (dotP (ps.take n)) u d
  | 0, _ => ⟨0, 1, UU.zero⟩
  | n + 1, hn => by
    obtain ⟨u, d, i⟩ := dotP_uu h n (by omega)
    obtain ⟨h1, h2⟩ := h ps[n] (List.getElem_mem _)
    rw [dotP_take (by omega)]
    exact ⟨_, _, i.step h1 h2⟩
theorem UU.sz {s n : Nat} {q : Rat} {u d : Int} (h : UU s n q u d) : Sz (s * n + n) q := by
  have hd : (d.natAbs : Int) = d := by have := h.pos; omega
  have b : Bd d.natAbs (n * 2 ^ (s * n)) q := ⟨u, by rw [hd]; exact h.eq, h.un⟩
  have p : 2 ^ (s * n) ≤ 2 ^ (s * n + n) := Nat.pow_le_pow_right (by omega) (by omega)
  have p2 : n ≤ 2 ^ n := Nat.le_of_lt Nat.lt_two_pow_self
  refine b.sz (by have := h.pos; omega) (Nat.le_trans h.dn p) ?_
  rw [Nat.pow_add, Nat.mul_comm]
  exact Nat.mul_le_mul (Nat.le_refl _) p2
theorem dotP_sz {m r : Nat} {ps : List (Rat × Rat)} (h : ∀ p ∈ ps, Sz m p.1 ∧ Sz r p.2) {n : Nat} (hn : n ≤ ps.length) : Sz ((m + r) * n + n) (dotP (ps.take n)) := by
  obtain ⟨u, d, i⟩ := dotP_uu h n hn
  exact i.sz
end Dg
end

section
set_option Elab.async false
set_option linter.all false
set_option maxRecDepth 100000
set_option maxHeartbeats 1000000
namespace Dg
open PySem L2
noncomputable abbrev GG : Nat → Nat → List PV → Store → Res PV := Gp T0 defsL
noncomputable abbrev CC (k : Nat) : Cxt := { G := GG k, sub := fun c c' => T0.subs.lookup (c, c') }
@[simp] theorem CC_G {k : Nat} : (CC k).G = GG k := rfl
def isWh (v : PV) (l : Int) (m : PV) : Bool := match v with
  | .int i => decide (l ≤ i) && (match m with
    | .int m => decide (i ≤ m)
    | _ => true)
  | _ => false
def okW : PV → Prop
  | .non => True | .int _ => True | .bl _ => True | .tup _ => True | .lst _ => True | .str _ => True | _ => False
theorem is_whole_ok {k : Nat} {v m : PV} {l : Int} {S : Store} (hS : Wf S) (hv : okW v) (hm : m = .non ∨ ∃ i, m = .int i) : GG (k + 1) 0 [v, .int l, m] S = .ok (.bl (isWh v l m)) S := by
  rw [show GG (k + 1) 0 [v, .int l, m] S = _ from Gp_succ (d := d_is_whole) rfl]
  refine evalD_ret hS ?_ rfl
  show evalSs (CC k) m_is_whole [some v, some (.int l), some m] S = _
  unfold m_is_whole
  rcases hm with rfl | ⟨i, rfl⟩ <;> cases v <;> simp [okW] at hv ⊢ <;> simp [isWh]
  · split <;> simp_all
  · split <;> simp_all
    omega
def isRw (v m : PV) : Bool := match v with
  | .tup xs => (match m with
    | .int m => (xs.length : Int) == m
    | _ => true)
  | _ => false
theorem is_row_ok {k : Nat} {v m : PV} {S : Store} (hS : Wf S) (hv : okW v) (hm : m = .non ∨ ∃ i, m = .int i) : GG (k + 1) 1 [v, m] S = .ok (.bl (isRw v m)) S := by
  rw [show GG (k + 1) 1 [v, m] S = _ from Gp_succ (d := d_is_row) rfl]
  refine evalD_ret hS ?_ rfl
  show evalSs (CC k) m_is_row [some v, some m] S = _
  unfold m_is_row
  rcases hm with rfl | ⟨i, rfl⟩ <;> cases v <;> simp [okW] at hv ⊢ <;> simp [isRw]
theorem are_wholes_ok {k : Nat} {xs : List PV} {l m : Int} {S : Store} (hS : Wf S) (hv : ∀ x ∈ xs, okW x) (hl : xs.length < sizeLine) : GG (k + 2) 2 [.tup xs, .int l, .int m] S = .ok (.bl (xs.all fun x => isWh x l (.int m))) S := by
  rw [show GG (k + 2) 2 [.tup xs, .int l, .int m] S = _ from Gp_succ (k := k + 1) (d := d_are_wholes) rfl]
  refine evalD_ret hS ?_ rfl
  show evalSs (CC (k + 1)) m_are_wholes [some (.tup xs), some (.int l), some (.int m), none, none] S = _
  unfold m_are_wholes
  have hc := comp_ok (C := CC (k + 1)) (S := S) (own := [3, 4]) (t := .name 4) (it := .of (.var 0)) (e := (.call 0 [(.inl 0), (.inl 1), (.inl 2)] (.cons (.var 4) (.cons (.var 1) (.cons (.var 2) .nil))))) (r := [some (.tup xs), some (.int l), some (.int m), none, none]) (xs := xs) (h := fun x => .bl (isWh x l (.int m))) (by simp [seqOf]) hl (fun x hx => by
    unfold turnF
    simp [bindT, wipeP, permP, is_whole_ok hS (hv x hx) (.inr ⟨m, rfl⟩)])
  have hr := is_row_ok (k := k) (v := .tup xs) (m := .non) hS trivial (.inl rfl)
  simp [permP, hr, isRw, hc, all_p]
end Dg
end

section
set_option Elab.async false
set_option linter.all false
set_option maxRecDepth 100000
set_option maxHeartbeats 1000000
namespace Dg
open PySem L2
theorem pow_body {k : Nat} {b m : Nat} {y x : Option PV} {S : Store} (hb : b ≤ 10) : evalSs (CC k) ((.cons (.asg (.name 2) (.bin .mul (.var 2) (.var 0))) .nil)) [some (.int b), y, some (.int (m : Int)), x] S = .nx [some (.int b), y, some (.int ((m * b : Nat) : Int)), x] S := by
  have hm := op_mulN (S := S) (i := m) (j := b) (.inr (by omega))
  generalize ((m * b : Nat) : Int) = z at hm ⊢
  simp -implicitDefEqProofs [hm, bindT]
theorem power_of_ok {k : Nat} {b t : Nat} {S : Store} (hS : Wf S) (hb : b ≤ 10) (ht : t ≤ 6) : GG (k + 1) 3 [.int b, .int t] S = .ok (.int ((b ^ t : Nat) : Int)) S := by
  rw [show GG (k + 1) 3 [.int b, .int t] S = _ from Gp_succ (d := d_power_of) rfl]
  refine evalD_ret hS ?_ rfl
  show evalSs (CC k) m_power_of [some (.int b), some (.int t), none, none] S = _
  unfold m_power_of
  have hl := forL_k (t := .name 3) (g := none) (f := fun r2 S2 => evalSs (CC k) ((.cons (.asg (.name 2) (.bin .mul (.var 2) (.var 0))) .nil)) r2 S2) (xs := (List.range t).map fun (k : Nat) => .int (k : Int)) (r := [some (.int b), some (.int t), some (.int 1), none]) (S := S)
    (fun n r S' => S' = S ∧ ∃ x, r = [some (.int b), some (.int t), some (.int ((b ^ n : Nat) : Int)), x]) (fun _ _ => False)
    (fun n hn r S' hI => by
      obtain ⟨rfl, x, rfl⟩ := hI
      refine ⟨[some (.int b), some (.int t), some (.int ((b ^ n : Nat) : Int)), some (.int n)], by simp [bindT], .inl ⟨_, _, .inl (pow_body hb), trivial, rfl, some (.int n), by rw [Nat.pow_succ]⟩⟩) ⟨rfl, none, by simp⟩
  rcases hl with ⟨r', S', e, rfl, x, rfl⟩ | ⟨_, _, _, h⟩
  · have hr := eI_rng (C := CC k) (S := S') (r := [some (.int b), some (.int t), some (.int 1), none]) (e := .var 1) (n := t) (by simp) (by omega)
    rw [eSs_cons, eS_asg, eE_k, Res.to_ok]
    simp only [bindT, List.set, SRes.seq_nx]
    rw [eSs_cons, eS_for, hr, Res.to_ok, e]
    simp
  · exact h.elim
end Dg
end

section
set_option Elab.async false
set_option linter.all false
set_option maxRecDepth 100000
set_option maxHeartbeats 1000000
/-! MX: what M19.. need of M6..M14, for ports to other laws (not built for k04). -/
namespace Dg
open PySem L2
theorem below_map {n : Nat} {α : Type} {g : α → PV} (h : ∀ x, below n (g x) = true) : ∀ {xs : List α}, belows n (xs.map g) = true
  | [] => rfl
  | x :: xs => by rw [List.map_cons, belows, h, below_map h]; rfl
theorem ne_nilL {xs : List Int} {S : Store} : op2 .ne (.lst (xs.map PV.int)) (.lst []) S = .ok (.bl (!xs.isEmpty)) S := by
  show eqD true (.lst (xs.map PV.int)) (.lst []) S = _
  unfold eqD
  rw [if_neg (by simp [scalP])]
  have e1 : toD1 S (.lst (xs.map PV.int)) = some (.list (xs.map PyData.int)) := by
    rw [toD1, toD, toDs_map (d := PyData.int) (fun x => by rw [toD])]; rfl
    all_goals simp
  have e2 : toD1 S (.lst []) = some (.list []) := by
    rw [toD1, toD, toDs]; rfl
    all_goals simp
  rw [e1, e2]
  have s1 : SeqAt.shaped (.list (xs.map PyData.int)) = true := by
    unfold SeqAt.shaped
    rw [PyData.canLay0, canAll_map (fun x => by rw [PyData.canLay0]), PyData.depth]
    have := depthAll_map (n := 0) (d := PyData.int) (xs := xs) (fun x => by rw [PyData.depth]; omega)
    simp; omega
  have s2 : SeqAt.shaped (.list []) = true := by decide +kernel
  dsimp only
  rw [if_pos ⟨s1, s2⟩]
  unfold okB
  cases xs with
  | nil => simp [PyData.eqv, PyData.eqvAll]
  | cons a b => simp [PyData.eqv, PyData.eqvAll]
mutual
theorem below_mono {n m : Nat} (h : n ≤ m) : ∀ {x : PV}, below n x = true → below m x = true
  | .non, _ => rfl
  | .bl _, _ => rfl
  | .int _, _ => rfl
  | .str _, _ => rfl
  | .ty _, _ => rfl
  | .scr _, q => by simp [below] at q
  | .ref k, q => by
    have hk : k < n := by simpa [below] using q
    have : k < m := by omega
    simpa [below] using this
  | .tup xs, q => by
    rw [below] at q ⊢; exact belows_mono h q
  | .lst xs, q => by
    rw [below] at q ⊢; exact belows_mono h q
theorem belows_mono {n m : Nat} (h : n ≤ m) : ∀ {xs : List PV}, belows n xs = true → belows m xs = true
  | [], _ => rfl
  | x :: xs, q => by
    rw [belows, Bool.and_eq_true] at q ⊢
    exact ⟨below_mono h q.1, belows_mono h q.2⟩
end
theorem law_power_ok {k : Nat} {b t : Nat} {S : Store} (hS : Wf S) (hb : b ≤ 10) (ht : t ≤ 6) : GG (k + 1) 25 [.int b, .int t] S = .ok (.int ((b ^ t : Nat) : Int)) S := by
  have h := power_of_ok (k := k) (b := b) (t := t) hS hb ht
  rw [show GG (k + 1) 3 [.int b, .int t] S = _ from Gp_succ (d := d_power_of) rfl] at h
  rw [show GG (k + 1) 25 [.int b, .int t] S = _ from Gp_succ (d := d__law_power) rfl]
  exact h
theorem app_ok {C : Cxt} {i n : Nat} {e : ME} {r : PEnv} {T : Store} {xs : List PV} {x : PV} (hi : r[i]? = some (some (.ref n))) (h0 : T[n]? = some (.lst xs)) (he : evalE C e r T = .ok x T) (hl : xs.length < 16777216) : evalS C (.ex (.app i e)) r T = .nx r (T.set n (.lst (xs ++ [x]))) := by
  rw [eS_ex, eE_app, hi]
  dsimp only
  rw [h0]
  dsimp only
  rw [he, Res.bind_ok, h0]
  dsimp only
  rw [if_pos (show xs.length < sizeLine from hl), Res.to_ok]
theorem ix_ref {T : Store} {n i : Nat} {xs : List PV} {v : PV} (hT : T[n]? = some (.lst xs)) (h : xs[i]? = some v) : op2 .ix (.ref n) (.int (i : Int)) T = .ok v T := by
  show (match T[n]? with
    | some (.lst xs) => (match atI xs (i : Int) with
        | some v => Res.ok v T
        | none => (.bad : Res PV))
    | some (.dct kvs) => (match keyP (.int (i : Int)) with
      | some k => match lookK k kvs with
        | some v => Res.ok v T
        | none => (.bad : Res PV)
      | none => (.bad : Res PV))
    | _ => (.bad : Res PV)) = _
  rw [hT]
  dsimp only
  rw [atI_nat h]
theorem len_ref {T : Store} {n : Nat} {xs : List PV} (hT : T[n]? = some (.lst xs)) : opn .len [.ref n] T = .ok (.int xs.length) T := by
  show (match T[n]? with
    | some (.lst xs) => Res.ok (PV.int xs.length) T
    | some (.dct xs) => Res.ok (PV.int xs.length) T
    | _ => (.bad : Res PV)) = _
  rw [hT]
theorem tup_ref {T : Store} {n : Nat} {xs : List PV} (hT : T[n]? = some (.lst xs)) : opn .tuple_ [.ref n] T = .ok (.tup xs) T := by
  show (match (match T[n]? with
    | some (.lst xs) => some xs
    | _ => none) with
    | some xs => Res.ok (PV.tup xs) T
    | none => (.bad : Res PV)) = _
  rw [hT]
end Dg
end

section
set_option Elab.async false
set_option linter.all false
set_option maxRecDepth 100000
set_option maxHeartbeats 1000000
namespace Dg
open PySem L2
theorem op_mulR {i j : Int} {S : Store} (h : -18446744073709551616 < j ∧ j < 18446744073709551616) : op2 .mul (.int i) (.int j) S = .ok (.int (i * j)) S := op_mulS (.inr (by rw [p64]; exact h))
theorem op_mulL {i j : Int} {S : Store} (h : -18446744073709551616 < i ∧ i < 18446744073709551616) : op2 .mul (.int i) (.int j) S = .ok (.int (i * j)) S := op_mulS (.inl (by rw [p64]; exact h))
theorem log2_lt {n : Nat} (h : n < 18446744073709551616) : n.log2 < 9000 := by
  have := log2_small h; omega
theorem op_fdivS {i j : Int} {S : Store} (h0 : 0 < j) (h1 : j < 18446744073709551616) : op2 .fdiv (.int i) (.int j) S = .ok (.int (i / j)) S := op_fdivI ⟨h0, log2_lt (by omega)⟩
theorem mixed_ok {k : Nat} {c : Int} {n : Nat} {S : Store} (hS : Wf S) (hn : n < 1099511627776) : ∃ r : Nat, GG (k + 1) 19 [.int c, .int n] S = .ok (.int r) S := by
  rw [show GG (k + 1) 19 [.int c, .int n] S = _ from Gp_succ (d := d__law_mixed) rfl]
  have m1 := op_mulL (S := S) (i := 2) (j := n) (by omega)
  have m2 := op_mulR (S := S) (i := c) (j := 1 + 2 * n) (by omega)
  have m3 := op_mulR (S := S) (i := c * (1 + 2 * n)) (j := 48271) (by omega)
  have m4 := op_modI (S := S) (i := c * (1 + 2 * n) * 48271) (j := 2147483647) (by omega)
  have m5 := op_mulL (S := S) (i := 7919) (j := n) (by omega)
  have m6 := op_mulR (S := S) (i := 7919 * n) (j := n) (by omega)
  have m7 := op_mulL (S := S) (i := 104729) (j := n) (by omega)
  generalize hbl : c * (1 + 2 * (n : Int)) * 48271 % 2147483647 + 7919 * n * n + 104729 * n = bl
  have m8 := op_mulR (S := S) (i := bl) (j := 69621) (by omega)
  have m9 := op_modI (S := S) (i := bl * 69621) (j := 2147483629) (by omega)
  have m10 := op_fdivS (S := S) (i := bl * 69621 % 2147483629) (j := 7) (by omega) (by omega)
  have h0 : 0 ≤ bl * 69621 % 2147483629 := Int.emod_nonneg _ (by omega)
  have h1 : 0 ≤ bl * 69621 % 2147483629 / 7 := by omega
  obtain ⟨r, hr⟩ := Int.eq_ofNat_of_zero_le h1
  refine ⟨r, evalD_ret hS ?_ rfl⟩
  show evalSs (CC k) m__law_mixed [some (.int c), some (.int n), none] S = _
  unfold m__law_mixed
  rw [← hr]
  simp -implicitDefEqProofs [m1, m2, m3, m4, m5, m6, m7, m8, m9, m10, hbl, bindT]
end Dg
end

section
set_option Elab.async false
set_option linter.all false
set_option maxRecDepth 100000
set_option maxHeartbeats 1000000
namespace Dg
open PySem L2
def kC : Key := .inr (Str.ofString "cells")
def kG : Key := .inr (Str.ofString "great")
def kS : Key := .inr (Str.ofString "spot")
def dS (R : Store) (c g : List Int) (n : Nat) : Store := .dct [(kC, .lst (c.map PV.int)), (kG, .ref 1), (kS, .int (n : Int))] :: .lst (g.map PV.int) :: R
def Rok (R : Store) : Prop := R.all (belowM (R.length + 2)) = true
theorem kCG : (kC = kG) = False := eq_false (by decide +kernel)
theorem kCS : (kC = kS) = False := eq_false (by decide +kernel)
theorem kGS : (kG = kS) = False := eq_false (by decide +kernel)
theorem kGC : (kG = kC) = False := eq_false (by decide +kernel)
theorem kSC : (kS = kC) = False := eq_false (by decide +kernel)
theorem kSG : (kS = kG) = False := eq_false (by decide +kernel)
theorem ix_key {S : Store} {n : Nat} {kvs : List (Key × PV)} {s : Str} {v : PV} (h : S[n]? = some (.dct kvs)) (hk : lookK (.inr s) kvs = some v) : op2 .ix (.ref n) (.str s) S = .ok v S := by
  show (match S[n]? with
    | some (.lst xs) => (match (PV.str s) with
      | .int i => (match atI xs i with
        | some v => Res.ok v S
        | none => (.bad : Res PV))
      | _ => (.bad : Res PV))
    | some (.dct kvs) => (match keyP (.str s) with
      | some k => match lookK k kvs with
        | some v => Res.ok v S
        | none => (.bad : Res PV)
      | none => (.bad : Res PV))
    | _ => (.bad : Res PV)) = _
  rw [h]
  dsimp only [keyP]
  rw [hk]
theorem ix_cells {R : Store} {c g : List Int} {n : Nat} : op2 .ix (.ref 0) (.str (Str.ofString "cells")) (dS R c g n) = .ok (.lst (c.map PV.int)) (dS R c g n) := ix_key rfl (by show lookK kC _ = _; simp [lookK])
theorem ix_great {R : Store} {c g : List Int} {n : Nat} : op2 .ix (.ref 0) (.str (Str.ofString "great")) (dS R c g n) = .ok (.ref 1) (dS R c g n) := ix_key rfl (by show lookK kG _ = _; simp [lookK, kCG])
theorem ix_spot {R : Store} {c g : List Int} {n : Nat} : op2 .ix (.ref 0) (.str (Str.ofString "spot")) (dS R c g n) = .ok (.int n) (dS R c g n) := ix_key rfl (by show lookK kS _ = _; simp [lookK, kCS, kGS])
theorem set_spot {R : Store} {c g : List Int} {n m : Nat} : setP (.ref 0) (.str (Str.ofString "spot")) (.int (m : Int)) (dS R c g n) = some (dS R c g m) := by
  have e : putK kS (.int (m : Int)) [(kC, .lst (c.map PV.int)), (kG, .ref 1), (kS, .int (n : Int))] = [(kC, .lst (c.map PV.int)), (kG, .ref 1), (kS, .int (m : Int))] := by
    simp [putK, kCS, kGS]
  show (if (3 : Nat) < sizeLine then some ((dS R c g n).set 0 (.dct (putK kS (.int (m : Int)) [(kC, .lst (c.map PV.int)), (kG, .ref 1), (kS, .int (n : Int))]))) else none) = _
  rw [if_pos (by decide), e]
  rfl
theorem Wf_dS {R : Store} {c g : List Int} {n : Nat} (hR : Rok R) : Wf (dS R c g n) := by
  unfold Wf dS
  unfold Rok at hR
  have e : (MO.dct [(kC, .lst (c.map PV.int)), (kG, .ref 1), (kS, .int (n : Int))] :: MO.lst (g.map PV.int) :: R).length = R.length + 2 := rfl
  rw [e, List.all_cons, List.all_cons, hR]
  simp [belowM, below, below_ints]
end Dg
end

section
set_option Elab.async false
set_option linter.all false
set_option maxRecDepth 100000
set_option maxHeartbeats 1000000
namespace Dg
open PySem L2
theorem ne_nilR {xs : List Int} {n : Nat} {S : Store} (hn : S[n]? = some (.lst (xs.map PV.int))) : op2 .ne (.ref n) (.lst []) S = .ok (.bl (!xs.isEmpty)) S := by
  have h := ne_nilL (xs := xs) (S := S)
  have e1 : toD1 S (.lst (xs.map PV.int)) = some (.list (xs.map PyData.int)) := by
    rw [toD1, toD, toDs_map (d := PyData.int) (fun x => by rw [toD])]; rfl
    all_goals simp
  have e3 : toD1 S (.ref n) = some (.list (xs.map PyData.int)) := by
    show (match S[n]? with
      | some (.lst xs) => (toDs S xs).map PyData.list
      | _ => none) = _
    rw [hn]
    dsimp only
    rw [toDs_map (d := PyData.int) (fun x => by rw [toD])]; rfl
  rw [← h]
  show eqD true (.ref n) (.lst []) S = eqD true (.lst (xs.map PV.int)) (.lst []) S
  unfold eqD
  rw [if_neg (by simp [scalP]), if_neg (by simp [scalP]), e1, e3]
theorem set_great {R : Store} {c g : List Int} {n i : Nat} {x : Int} (h : i < g.length) : setP (.ref 1) (.int (i : Int)) (.int x) (dS R c g n) = some (dS R c (g.set i x) n) := by
  show (match ixN (g.map PV.int).length (i : Int) with
    | some j => some ((dS R c g n).set 1 (.lst ((g.map PV.int).set j (.int x))))
    | none => none) = _
  have e : ixN (g.map PV.int).length (i : Int) = some i := by
    unfold ixN
    rw [List.length_map, if_pos (by omega), if_pos (by omega), Int.toNat_natCast]
  rw [e]
  dsimp only
  rw [← List.map_set]
  rfl
def tailS : MSs := (.cons (.asg (.name 3) (.bin .ix (.var 0) (.k (.str (Str.ofString "cells"))))) (.cons (.ret (.bin .mod (.bi .int_ (.cons (.call 19 [(.inl 0), (.inl 1)] (.cons (.call 19 [(.inl 0), (.inl 1)] (.cons (.bin .add (.bin .ix (.var 3) (.bin .mod (.bi .int_ (.cons (.var 2) .nil)) (.k (.int (64))))) (.bin .mul (.k (.int (31))) (.bin .fdiv (.var 2) (.k (.int (64)))))) (.cons (.var 2) .nil))) (.cons (.bin .add (.var 2) (.k (.int (7)))) .nil))) .nil)) (.var 1))) .nil))
theorem draw_tail {k n N L : Nat} {R : Store} {c g : List Int} {v3 v4 v5 : Option PV} (hR : Rok R) (hc : c.length = 64) (hn : n < 1000000000) (hL : 1 ≤ L) : ∃ v : Nat, v < L ∧ evalSs (CC (k + 1)) tailS [some (.ref 0), some (.int L), some (.int n), v3, v4, v5] (dS R c g N) = .ret (.int v) (dS R c g N) := by
  have hW := Wf_dS (c := c) (g := g) (n := N) hR
  have e1 := ix_cells (R := R) (c := c) (g := g) (n := N)
  generalize dS R c g N = S at *
  have m1 := op_modI (S := S) (i := n) (j := 64) (by omega)
  have hm : n % 64 < c.length := by omega
  have m2 : op2 .ix (.lst (c.map PV.int)) (.int ((n : Int) % 64)) S = .ok (.int c[n % 64]) S := by
    have := ix_lst (S := S) (xs := c.map PV.int) (i := n % 64) (x := .int c[n % 64]) (by simp [hm])
    rw [Int.natCast_emod] at this
    exact this
  have m3 := op_fdivS (S := S) (i := n) (j := 64) (by omega) (by omega)
  have m4 := op_mulL (S := S) (i := 31) (j := (n : Int) / 64) (by omega)
  obtain ⟨r1, h1⟩ := mixed_ok (k := k) (c := c[n % 64] + 31 * ((n : Int) / 64)) (n := n) hW (by omega)
  obtain ⟨r2, h2⟩ := mixed_ok (k := k) (c := (r1 : Int)) (n := n + 7) hW (by omega)
  have m5 := op_modI (S := S) (i := r2) (j := L) (by omega)
  refine ⟨r2 % L, Nat.mod_lt _ (by omega), ?_⟩
  rw [Int.natCast_add] at h2
  have h2' : GG (k + 1) 19 [.int (r1 : Int), .int ((n : Int) + 7)] S = .ok (.int r2) S := h2
  rw [Int.natCast_emod]
  generalize c[n % 64] = cc at *
  unfold tailS
  simp -implicitDefEqProofs [e1, m1, m2, m3, m4, h1, h2', m5, permP, bindT]
end Dg
end

section
set_option Elab.async false
set_option linter.all false
set_option maxRecDepth 100000
set_option maxHeartbeats 1000000
namespace Dg
open PySem L2
theorem draw_ok {k n L : Nat} {R : Store} {c g : List Int} (hR : Rok R) (hc : c.length = 64) (hg : g.length ≤ 1000000) (hn : n < 1000000000) (hL : 1 ≤ L) (hL2 : L < 1000000000000000) : ∃ (v : Nat) (g' : List Int), v < L ∧ g'.length = g.length ∧ GG (k + 2) 21 [.ref 0, .int L] (dS R c g n) = .ok (.int v) (dS R c g' (n + 1)) := by
  have key : ∃ (v : Nat) (g' : List Int), v < L ∧ g'.length = g.length ∧ evalSs (CC (k + 1)) m__law_draw [some (.ref 0), some (.int L), none, none, none, none] (dS R c g n) = .ret (.int v) (dS R c g' (n + 1)) := by
    unfold m__law_draw
    have e1 := ix_spot (R := R) (c := c) (g := g) (n := n)
    have e2 := set_spot (R := R) (c := c) (g := g) (n := n) (m := n + 1)
    rw [Int.natCast_add] at e2
    have e2' : setP (.ref 0) (.str (Str.ofString "spot")) (.int ((n : Int) + 1)) (dS R c g n) = some (dS R c g (n + 1)) := e2
    have eA : evalS (CC (k + 1)) (.asg (.name 2) (.bin .ix (.var 0) (.k (.str (Str.ofString "spot"))))) [some (.ref 0), some (.int L), none, none, none, none] (dS R c g n) = .nx [some (.ref 0), some (.int L), some (.int n), none, none, none] (dS R c g n) := by
      generalize dS R c g n = S at *
      simp -implicitDefEqProofs [e1, bindT]
    have eB : evalS (CC (k + 1)) (.setix (.var 0) (.k (.str (Str.ofString "spot"))) (.bin .add (.var 2) (.k (.int (1))))) [some (.ref 0), some (.int L), some (.int n), none, none, none] (dS R c g n) = .nx [some (.ref 0), some (.int L), some (.int n), none, none, none] (dS R c g (n + 1)) := by
      generalize dS R c g (n + 1) = T at *
      generalize dS R c g n = S at *
      simp -implicitDefEqProofs [e2', bindT]
    rw [eSs_cons, eA, SRes.seq_nx, eSs_cons, eB, SRes.seq_nx]
    have e3 := ix_great (R := R) (c := c) (g := g) (n := n + 1)
    have hT : (dS R c g (n + 1))[1]? = some (.lst (g.map PV.int)) := rfl
    have e4 := ne_nilR hT
    have e5 := len_ref hT
    rw [List.length_map] at e5
    rw [eSs_cons]
    by_cases q : g = []
    · subst q
      have eC : ∀ A, evalS (CC (k + 1)) (.ifS (.bin .ne (.bin .ix (.var 0) (.k (.str (Str.ofString "great")))) (.lst .nil)) A .nil) [some (.ref 0), some (.int L), some (.int n), none, none, none] (dS R c [] (n + 1)) = .nx [some (.ref 0), some (.int L), some (.int n), none, none, none] (dS R c [] (n + 1)) := by
        intro A
        generalize dS R c [] (n + 1) = T at *
        simp -implicitDefEqProofs [e3, e4]
      rw [eC, SRes.seq_nx]
      obtain ⟨v, h1, h2⟩ := draw_tail (R := R) (k := k) (N := n + 1) (g := []) (v3 := none) (v4 := none) (v5 := none) hR hc hn hL
      exact ⟨v, [], h1, rfl, h2⟩
    · have hgl : 0 < g.length := List.length_pos_iff.mpr q
      have hi : n % g.length < g.length := Nat.mod_lt _ hgl
      have m1 := op_modI (S := dS R c g (n + 1)) (i := n) (j := g.length) (by omega)
      have m2 : op2 .ix (.ref 1) (.int ((n : Int) % (g.length : Int))) (dS R c g (n + 1)) = .ok (.int g[n % g.length]) (dS R c g (n + 1)) := by
        have := ix_ref (i := n % g.length) (v := .int g[n % g.length]) hT (by simp [hi])
        rw [Int.natCast_emod] at this
        exact this
      have hem : g.isEmpty = false := by cases g with
        | nil => exact absurd rfl q
        | cons _ _ => rfl
      rw [hem] at e4
      have m3 := op_fdivS (S := dS R c g (n + 1)) (i := g[n % g.length]) (j := L) (by omega) (by omega)
      have m4 := set_great (R := R) (c := c) (g := g) (n := n + 1) (i := n % g.length) (x := g[n % g.length] / L) hi
      rw [Int.natCast_emod] at m4
      have m5 := op_modI (S := dS R c (g.set (n % g.length) (g[n % g.length] / L)) (n + 1)) (i := g[n % g.length]) (j := L) (by omega)
      by_cases z : 0 < g[n % g.length]
      · have h0 : 0 ≤ g[n % g.length] % (L : Int) := Int.emod_nonneg _ (by omega)
        have h1 : g[n % g.length] % (L : Int) < L := Int.emod_lt_of_pos _ (by omega)
        obtain ⟨v, hv⟩ := Int.eq_ofNat_of_zero_le h0
        refine ⟨v, g.set (n % g.length) (g[n % g.length] / L), by omega, by simp, ?_⟩
        rw [← hv]
        clear eA eB e1 e2 e2' hT
        generalize dS R c (g.set (n % g.length) (g[n % g.length] / L)) (n + 1) = U at *
        generalize dS R c g (n + 1) = T at *
        generalize g[n % g.length] = cc at *
        simp -implicitDefEqProofs [e3, e4, e5, m1, m2, m3, m4, m5, z, bindT]
      · obtain ⟨v, h1, h2⟩ := draw_tail (R := R) (k := k) (N := n + 1) (g := g) (v3 := some (.ref 1)) (v4 := some (.int ((n : Int) % (g.length : Int)))) (v5 := some (.int g[n % g.length])) hR hc hn hL
        refine ⟨v, g, h1, rfl, ?_⟩
        rw [← h2]
        unfold tailS
        clear eA eB e1 e2 e2' hT h2
        generalize dS R c (g.set (n % g.length) (g[n % g.length] / L)) (n + 1) = U at *
        generalize dS R c g (n + 1) = T at *
        generalize g[n % g.length] = cc at *
        simp -implicitDefEqProofs [e3, e4, e5, m1, m2, z, bindT]
  obtain ⟨v, g', h1, h2, h3⟩ := key
  refine ⟨v, g', h1, h2, ?_⟩
  rw [show GG (k + 2) 21 [.ref 0, .int L] (dS R c g n) = _ from Gp_succ (k := k + 1) (d := d__law_draw) rfl]
  exact evalD_new (S' := dS R c g' (n + 1)) (R := []) (Wf_dS hR) rfl (by rw [List.append_nil]; exact h3) rfl
end Dg
end

section
set_option Elab.async false
set_option linter.all false
set_option maxRecDepth 100000
set_option maxHeartbeats 1000000
namespace Dg
open PySem L2
/-- a state of the draws: at most N draws so far -/
def Dst (N : Nat) (R S : Store) : Prop := Rok R ∧ ∃ (c g : List Int) (n : Nat), S = dS R c g n ∧ c.length = 64 ∧ g.length ≤ 1000000 ∧ n ≤ N
theorem Dst.wf {N : Nat} {R S : Store} (h : Dst N R S) : Wf S := by
  obtain ⟨hR, c, g, n, rfl, _⟩ := h
  exact Wf_dS hR
theorem Dst.len {N : Nat} {R S : Store} (h : Dst N R S) : S.length = R.length + 2 := by
  obtain ⟨hR, c, g, n, rfl, _⟩ := h
  rfl
theorem Dst.mono {N M : Nat} {R S : Store} (h : Dst N R S) (hm : N ≤ M) : Dst M R S := by
  obtain ⟨hR, c, g, n, rfl, h1, h2, h3⟩ := h
  exact ⟨hR, c, g, n, rfl, h1, h2, by omega⟩
theorem draw {k N L : Nat} {R S : Store} (h : Dst N R S) (hN : N < 1000000000) (hL : 1 ≤ L) (hL2 : L < 1000000000000000) : ∃ (v : Nat) (S' : Store), v < L ∧ Dst (N + 1) R S' ∧ GG (k + 2) 21 [.ref 0, .int L] S = .ok (.int v) S' := by
  obtain ⟨hR, c, g, n, rfl, h1, h2, h3⟩ := h
  obtain ⟨v, g', q1, q2, q3⟩ := draw_ok (k := k) (n := n) (L := L) hR h1 h2 (by omega) hL hL2
  exact ⟨v, dS R c g' (n + 1), q1, ⟨hR, c, g', n + 1, rfl, h1, by omega, by omega⟩, q3⟩
theorem law_of_ok {k N : Nat} {R S : Store} {xs : List PV} (h : Dst N R S) (hN : N < 1000000000) (hx : xs ≠ []) (hl : xs.length < 1000000) (hb : ∀ n, belows n xs = true) : ∃ (v : PV) (S' : Store), v ∈ xs ∧ Dst (N + 1) R S' ∧ GG (k + 3) 23 [.ref 0, .lst xs] S = .ok v S' := by
  have hxl : 0 < xs.length := List.length_pos_iff.mpr hx
  obtain ⟨v, S', q1, q2, q3⟩ := draw (k := k) (L := xs.length) h hN (by omega) (by omega)
  have hm := List.getElem_mem q1
  refine ⟨xs[v], S', hm, q2, ?_⟩
  rw [show GG (k + 3) 23 [.ref 0, .lst xs] S = _ from Gp_succ (k := k + 2) (d := d__law_of) rfl]
  have hbl : ∀ {ys : List PV} {n : Nat} {y : PV}, belows n ys = true → y ∈ ys → below n y = true := by
    intro ys n y hh hy
    induction ys with
    | nil => simp at hy
    | cons z zs ih =>
      rw [belows, Bool.and_eq_true] at hh
      rcases List.mem_cons.mp hy with rfl | hy
      · exact hh.1
      · exact ih hh.2 hy
  refine evalD_new (S' := S') (R := []) (v := xs[v]) ?_ (by rw [q2.len, h.len]) ?_ ?_
  · rw [h.len, ← q2.len]; exact q2.wf
  · show evalSs (CC (k + 2)) m__law_of [some (.ref 0), some (.lst xs)] S = _
    unfold m__law_of
    have e := ix_lst (S := S') (xs := xs) (i := v) (x := xs[v]) (by simp [q1])
    simp -implicitDefEqProofs [permP, q3, e]
  · unfold frz
    exact frzG_below (hbl (hb _) hm)
end Dg
end

section
set_option Elab.async false
set_option linter.all false
set_option maxRecDepth 100000
set_option maxHeartbeats 1000000
namespace Dg
open PySem L2
/-- values that _law_like finds like themselves -/
def Lk0 (v : PV) : Prop := v = .non ∨ (∃ b, v = .bl b) ∨ (∃ i, v = .int i) ∨ ∃ s, v = .str s
def Lk : Nat → PV → Prop
  | 0, v => Lk0 v
  | n + 1, v => Lk0 v ∨ ∃ xs, (v = .tup xs ∨ v = .lst xs) ∧ xs.length < 1000000 ∧ ∀ x ∈ xs, Lk n x
theorem Lk_zero {v : PV} : Lk 0 v = (v = .non ∨ (∃ b, v = .bl b) ∨ (∃ i, v = .int i) ∨ ∃ s, v = .str s) := by rw [Lk]; rfl
theorem Lk_succ {n : Nat} {v : PV} : Lk (n + 1) v = (Lk 0 v ∨ ∃ xs, (v = .tup xs ∨ v = .lst xs) ∧ xs.length < 1000000 ∧ ∀ x ∈ xs, Lk n x) := by rw [Lk, Lk]
theorem like_scal {k : Nat} {v : PV} {S : Store} (hS : Wf S) (h : Lk 0 v) : GG (k + 1) 24 [v, v] S = .ok (.bl true) S := by
  rw [show GG (k + 1) 24 [v, v] S = _ from Gp_succ (d := d__law_like) rfl]
  refine evalD_ret hS ?_ rfl
  show evalSs (CC k) m__law_like [some v, some v, none] S = _
  unfold m__law_like
  rw [Lk_zero] at h
  rcases h with rfl | ⟨b, rfl⟩ | ⟨i, rfl⟩ | ⟨s, rfl⟩ <;> simp -implicitDefEqProofs
abbrev likeBody : MSs := (.cons (.ifS (.not_ (.call 24 [(.inl 0), (.inl 1)] (.cons (.bin .ix (.var 0) (.var 2)) (.cons (.bin .ix (.var 1) (.var 2)) .nil)))) (.cons (.ret (.k (.bl false))) .nil) .nil) .nil)
theorem like_loop {k : Nat} {v : PV} {xs : List PV} {S : Store} (hv : ∀ (i : Nat) (h : i < xs.length), op2 .ix v (.int (i : Int)) S = .ok xs[i] S) (hx : ∀ x ∈ xs, GG k 24 [x, x] S = .ok (.bl true) S) :
    ∃ x, forL (.name 2) (fun r2 S2 => evalSs (CC k) likeBody r2 S2) none ((List.range xs.length).map fun (k : Nat) => .int (k : Int)) [some v, some v, none] S = .nx [some v, some v, x] S := by
  have hl := forL_k (t := .name 2) (g := none) (f := fun r2 S2 => evalSs (CC k) likeBody r2 S2) (xs := (List.range xs.length).map fun (k : Nat) => .int (k : Int)) (r := [some v, some v, none]) (S := S)
    (fun n r S' => S' = S ∧ ∃ x, r = [some v, some v, x]) (fun _ _ => False)
    (fun n hn r S' hI => by
      obtain ⟨rfl, x, rfl⟩ := hI
      have hn' : n < xs.length := by simpa using hn
      refine ⟨[some v, some v, some (.int (n : Int))], by simp [bindT], .inl ⟨_, _, .inl ?_, trivial, rfl, some (.int (n : Int)), rfl⟩⟩
      have h1 := hv n hn'
      have h2 := hx _ (List.getElem_mem hn')
      unfold likeBody
      generalize xs[n] = y at *
      simp -implicitDefEqProofs [h1, h2, permP]) ⟨rfl, none, rfl⟩
  rcases hl with ⟨r', S', e, rfl, x, rfl⟩ | ⟨_, _, _, h⟩
  · exact ⟨x, e⟩
  · exact h.elim
theorem like_seq {k : Nat} {v : PV} {xs : List PV} {S : Store} (hS : Wf S) (hv : v = .tup xs ∨ v = .lst xs) (hl : xs.length < 1000000) (hx : ∀ x ∈ xs, GG k 24 [x, x] S = .ok (.bl true) S) : GG (k + 1) 24 [v, v] S = .ok (.bl true) S := by
  rw [show GG (k + 1) 24 [v, v] S = _ from Gp_succ (d := d__law_like) rfl]
  refine evalD_ret hS ?_ rfl
  show evalSs (CC k) m__law_like [some v, some v, none] S = _
  unfold m__law_like
  have hi : ∀ (i : Nat) (h : i < xs.length), op2 .ix v (.int (i : Int)) S = .ok xs[i] S := fun i h => by
    rcases hv with rfl | rfl
    · exact ix_tup (by simp [h])
    · exact ix_lst (by simp [h])
  obtain ⟨x, hlp⟩ := like_loop hi hx
  have hlen : evalE (CC k) (.bi .len (.cons (.var 1) .nil)) [some v, some v, none] S = .ok (.int (xs.length : Int)) S := by
    rcases hv with rfl | rfl <;> simp
  have hr := eI_rng (C := CC k) (S := S) (r := [some v, some v, none]) hlen (by omega)
  have hf : evalS (CC k) (.forS (.name 2) (.range (.cons (.bi .len (.cons (.var 1) .nil)) .nil)) likeBody) [some v, some v, none] S = .nx [some v, some v, x] S := by
    rw [eS_for, hr, Res.to_ok]
    exact hlp
  unfold likeBody at hf
  rcases hv with rfl | rfl <;> simp -implicitDefEqProofs [hf]
theorem like_ok {n k : Nat} {v : PV} {S : Store} (hS : Wf S) (h : Lk n v) : GG (k + n + 1) 24 [v, v] S = .ok (.bl true) S := by
  induction n generalizing v with
  | zero => exact like_scal hS h
  | succ n ih =>
    rw [Lk_succ] at h
    rcases h with h | ⟨xs, hv, hl, hx⟩
    · exact like_scal hS h
    · exact like_seq (k := k + n + 1) hS hv hl fun x hm => ih (hx x hm)
theorem Lk_map {n : Nat} {α : Type} {g : α → PV} {xs : List α} (h : ∀ x ∈ xs, Lk n (g x)) : ∀ y ∈ xs.map g, Lk n y := by
  intro y hy
  obtain ⟨x, hx, rfl⟩ := List.mem_map.mp hy
  exact h x hx
theorem Lk_lift {n : Nat} {v : PV} (h : Lk 0 v) : Lk n v := by
  cases n
  · exact h
  · rw [Lk_succ]; exact .inl h
theorem Lk_int {n : Nat} {i : Int} : Lk n (.int i) := Lk_lift (by rw [Lk_zero]; exact .inr (.inr (.inl ⟨_, rfl⟩)))
theorem Lk_bl {n : Nat} {i : Bool} : Lk n (.bl i) := Lk_lift (by rw [Lk_zero]; exact .inr (.inl ⟨_, rfl⟩))
theorem Lk_str {n : Nat} {i : Str} : Lk n (.str i) := Lk_lift (by rw [Lk_zero]; exact .inr (.inr (.inr ⟨_, rfl⟩)))
theorem Lk_non {n : Nat} : Lk n .non := Lk_lift (by rw [Lk_zero]; exact .inl rfl)
theorem Lk_tup {n : Nat} {xs : List PV} (hl : xs.length < 1000000) (h : ∀ x ∈ xs, Lk n x) : Lk (n + 1) (.tup xs) := by rw [Lk_succ]; exact .inr ⟨xs, .inl rfl, hl, h⟩
theorem Lk_lst {n : Nat} {xs : List PV} (hl : xs.length < 1000000) (h : ∀ x ∈ xs, Lk n x) : Lk (n + 1) (.lst xs) := by rw [Lk_succ]; exact .inr ⟨xs, .inr rfl, hl, h⟩
end Dg
end

section
set_option Elab.async false
set_option linter.all false
set_option maxRecDepth 100000
set_option maxHeartbeats 1000000
namespace Dg
open PySem L2
theorem evalD_raw {C : Cxt} {n : Nat} {b : MSs} {vs : List PV} {S S' : Store} {v : PV} (h : evalSs C b (startP n vs) S = .ret v S') : evalD C true n b vs S = .ok v S' := by
  unfold evalD
  rw [h]
  rfl
theorem comp_R {C : Cxt} {own : List Nat} {t : TGT} {it : IT} {e : ME} {r : PEnv} {α : Type} {as : List α} {g h : α → PV} {S : Store} (hi : evalI C it r S = .ok (as.map g, none) S) (hl : as.length < sizeLine) (hx : ∀ a ∈ as, turnF C own t .none e r (g a) S = .ok (some (h a)) S) : evalE C (.comp true own t it .none e) r S = .ok (.ref S.length) (S ++ [.lst (as.map h)]) := by
  rw [eE_comp, hi, Res.bind_ok]
  dsimp only
  rw [if_pos (by simpa using hl), compL_A hx, Res.bind_ok, if_pos rfl]
theorem rangeP_two {i j : Nat} (hi : i < 4611686018427387904) (hj : j < 4611686018427387904) : rangeP [.int i, .int j] = some ((List.range (j - i)).map fun (k : Nat) => .int ((i + k : Nat) : Int)) := by
  rw [rangeP, if_pos ⟨(rng1 hi).1, (rng1 hi).2, rng1 hj⟩]
  rw [show ((j : Int) - (i : Int)).toNat = j - i by omega]
  simp
theorem ixN_nat {n i : Nat} (h : i < n) : ixN n (i : Int) = some i := by
  unfold ixN
  rw [if_pos (by omega), if_pos (by omega), Int.toNat_natCast]
theorem setP_lst {S : Store} {n i : Nat} {xs : List PV} {x : PV} (hS : S[n]? = some (.lst xs)) (h : i < xs.length) : setP (.ref n) (.int (i : Int)) x S = some (S.set n (.lst (xs.set i x))) := by
  show (match S[n]? with
    | some (.lst xs) => (match (PV.int (i : Int)) with
      | .int i => (match ixN xs.length i with
        | some j => some (S.set n (.lst (xs.set j x)))
        | none => none)
      | _ => none)
    | some (.dct kvs) => (match keyP (.int (i : Int)) with
      | some k => if kvs.length < sizeLine then some (S.set n (.dct (putK k x kvs))) else none
      | none => none)
    | _ => none) = _
  rw [hS]
  dsimp only
  rw [ixN_nat h]
abbrev cS (c : List Int) : Store := [.lst (c.map PV.int)]
theorem cS_ix {c : List Int} {i : Nat} (h : i < c.length) : op2 .ix (.ref 0) (.int (i : Int)) (cS c) = .ok (.int c[i]) (cS c) := ix_ref (xs := c.map PV.int) rfl (by simp [h])
theorem cS_set {c : List Int} {i : Nat} {x : Int} (h : i < c.length) : setP (.ref 0) (.int (i : Int)) (.int x) (cS c) = some (cS (c.set i x)) := by
  rw [setP_lst (xs := c.map PV.int) rfl (by simpa using h), ← List.map_set]
  rfl
theorem ofInt64 : (64 : Int) = ((64 : Nat) : Int) := rfl
abbrev fold1 : MSs := (.cons (.setix (.var 2) (.bin .mod (.bi .int_ (.cons (.var 1) .nil)) (.k (.int (64)))) (.bin .mod (.bi .int_ (.cons (.bin .add (.bin .mul (.bin .ix (.var 2) (.bin .mod (.bi .int_ (.cons (.var 1) .nil)) (.k (.int (64))))) (.k (.int (48271)))) (.var 3)) .nil)) (.k (.int (2147483647))))) .nil)
theorem fold1_ok {k n : Nat} {s : PV} {z : Int} {d : Option PV} {c : List Int} (hc : c.length = 64) : ∃ c' : List Int, c'.length = 64 ∧ evalSs (CC k) fold1 [some s, some (.int (n : Int)), some (.ref 0), some (.int z), d] (cS c) = .nx [some s, some (.int (n : Int)), some (.ref 0), some (.int z), d] (cS c') := by
  have hi : n % 64 < c.length := by omega
  have m0 := op_modI (S := cS c) (i := n) (j := 64) (by omega)
  have e1 := cS_ix hi
  rw [Int.natCast_emod] at e1
  have e1' : op2 .ix (.ref 0) (.int ((n : Int) % 64)) (cS c) = .ok (.int c[n % 64]) (cS c) := e1
  have m1 := op_mulR (S := cS c) (i := c[n % 64]) (j := 48271) (by omega)
  have m2 := op_modI (S := cS c) (i := c[n % 64] * 48271 + z) (j := 2147483647) (by omega)
  have e2 := cS_set (x := (c[n % 64] * 48271 + z) % 2147483647) hi
  rw [Int.natCast_emod] at e2
  have e2' : setP (.ref 0) (.int ((n : Int) % 64)) (.int ((c[n % 64] * 48271 + z) % 2147483647)) (cS c) = some (cS (c.set (n % 64) ((c[n % 64] * 48271 + z) % 2147483647))) := e2
  refine ⟨c.set (n % 64) ((c[n % 64] * 48271 + z) % 2147483647), by simp [hc], ?_⟩
  clear e1 e2
  unfold fold1
  generalize cS (c.set (n % 64) ((c[n % 64] * 48271 + z) % 2147483647)) = T at *
  generalize cS c = U at *
  generalize c[n % 64] = y at *
  simp -implicitDefEqProofs [m0, e1', m1, m2, e2']
abbrev fold2 : MSs := (.cons (.setix (.var 2) (.var 1) (.bin .mod (.bi .int_ (.cons (.bin .add (.bin .ix (.var 2) (.var 1)) (.bin .mul (.bin .ix (.var 2) (.bin .sub (.var 1) (.k (.int (1))))) (.k (.int (16807))))) .nil)) (.k (.int (2147483647))))) .nil)
theorem fold2_ok {k n : Nat} {s : PV} {b d : Option PV} {c : List Int} (hc : c.length = 64) (hn : n + 1 < 64) : ∃ c' : List Int, c'.length = 64 ∧ evalSs (CC k) fold2 [some s, some (.int ((n + 1 : Nat) : Int)), some (.ref 0), b, d] (cS c) = .nx [some s, some (.int ((n + 1 : Nat) : Int)), some (.ref 0), b, d] (cS c') := by
  have e1 := cS_ix (c := c) (i := n + 1) (by omega)
  have e3 := cS_ix (c := c) (i := n) (by omega)
  have m1 := op_mulR (S := cS c) (i := c[n]) (j := 16807) (by omega)
  have m2 := op_modI (S := cS c) (i := c[n + 1] + c[n] * 16807) (j := 2147483647) (by omega)
  have e2 := cS_set (c := c) (i := n + 1) (x := (c[n + 1] + c[n] * 16807) % 2147483647) (by omega)
  refine ⟨c.set (n + 1) ((c[n + 1] + c[n] * 16807) % 2147483647), by simp [hc], ?_⟩
  unfold fold2
  generalize cS (c.set (n + 1) ((c[n + 1] + c[n] * 16807) % 2147483647)) = T at *
  generalize cS c = U at *
  generalize c[n] = y at *
  generalize c[n + 1] = w at *
  have hs : (((n + 1 : Nat) : Int) - 1) = (n : Int) := by omega
  generalize ((n + 1 : Nat) : Int) = N at *
  simp -implicitDefEqProofs [hs, e1, e3, m1, m2, e2]
theorem folded_ok {k : Nat} {ns : List Int} (hl : ns.length ≤ 1000) : ∃ c : List Int, c.length = 64 ∧ GG (k + 1) 20 [.scr (ns.map PV.int)] [] = .ok (.lst (c.map PV.int)) [] := by
  have key : ∃ c : List Int, c.length = 64 ∧ evalSs (CC k) m__law_folded [some (.scr (ns.map PV.int)), none, none, none, none] [] = .ret (.ref 0) (cS c) := by
    unfold m__law_folded
    have hr := eI_rng (C := CC k) (S := []) (r := [some (.scr (ns.map PV.int)), none, none, none, none]) (e := .k (.int 64)) (n := 64) (by simp) (by omega)
    have hc := comp_R (C := CC k) (S := []) (own := [4, 1]) (t := .name 1) (e := (.bin .add (.k (.int (17))) (.var 1))) (r := [some (.scr (ns.map PV.int)), none, none, none, none]) (as := List.range 64) (g := fun (k : Nat) => .int (k : Int)) (h := fun (k : Nat) => .int (17 + (k : Int))) hr (by decide) (fun a _ => by
      unfold turnF
      simp [bindT, wipeP])
    have hc0 : (List.range 64).map (fun (k : Nat) => PV.int (17 + (k : Int))) = ((List.range 64).map fun (k : Nat) => (17 + (k : Int))).map PV.int := by rw [List.map_map]; rfl
    rw [hc0] at hc
    obtain ⟨c0, hc1⟩ : ∃ c0, c0 = (List.range 64).map fun (k : Nat) => (17 + (k : Int)) := ⟨_, rfl⟩
    have hc2 : c0.length = 64 := by rw [hc1]; simp
    rw [← hc1] at hc
    rw [eSs_cons, eS_asg, hc]
    simp only [Res.to_ok, bindT, List.set, SRes.seq_nx, List.length_nil, List.nil_append]
    -- first loop
    have l1 := forL_k (t := .tup [1, 3]) (g := none) (f := fun r2 S2 => evalSs (CC k) fold1 r2 S2) (xs := enumL (ns.map PV.int)) (r := [some (.scr (ns.map PV.int)), none, some (.ref 0), none, none]) (S := cS c0)
      (fun n r S' => ∃ c a b, c.length = 64 ∧ S' = cS c ∧ r = [some (.scr (ns.map PV.int)), a, some (.ref 0), b, none]) (fun _ _ => False)
      (fun n hn r S' hI => by
        obtain ⟨c, a, b, hcl, rfl, rfl⟩ := hI
        have hn' : n < ns.length := by simpa [enumL] using hn
        obtain ⟨c', q1, q2⟩ := fold1_ok (k := k) (n := n) (s := .scr (ns.map PV.int)) (z := ns[n]) (d := none) hcl
        refine ⟨[some (.scr (ns.map PV.int)), some (.int (n : Int)), some (.ref 0), some (.int ns[n]), none], by simp [bindT, hn', enumL], .inl ⟨_, _, .inl q2, trivial, c', _, _, q1, rfl, rfl⟩⟩) ⟨c0, none, none, hc2, rfl, rfl⟩
    rcases l1 with ⟨r', S', e, c1, a, b, q1, rfl, rfl⟩ | ⟨_, _, _, h⟩
    · have he : evalI (CC k) (.enum (.var 0)) [some (.scr (ns.map PV.int)), none, some (.ref 0), none, none] (cS c0) = .ok (enumL (ns.map PV.int), none) (cS c0) := by
        rw [eI_enum, eE_var]
        show Res.ok (enumP 0 (ns.map PV.int), none) (cS c0) = _
        rw [enumP_eq]; rfl
      rw [eSs_cons, eS_for, he, Res.to_ok, e, SRes.seq_nx]
      -- second loop
      have l2 := forL_k (t := .name 1) (g := none) (f := fun r2 S2 => evalSs (CC k) fold2 r2 S2) (xs := (List.range (64 - 1)).map fun (k : Nat) => .int ((1 + k : Nat) : Int)) (r := [some (.scr (ns.map PV.int)), a, some (.ref 0), b, none]) (S := cS c1)
        (fun n r S' => ∃ c a, c.length = 64 ∧ S' = cS c ∧ r = [some (.scr (ns.map PV.int)), a, some (.ref 0), b, none]) (fun _ _ => False)
        (fun n hn r S' hI => by
          obtain ⟨c, a, hcl, rfl, rfl⟩ := hI
          have hn' : n < 63 := by simpa using hn
          obtain ⟨c', q1, q2⟩ := fold2_ok (k := k) (n := n) (s := .scr (ns.map PV.int)) (b := b) (d := none) hcl (by omega)
          refine ⟨[some (.scr (ns.map PV.int)), some (.int ((n + 1 : Nat) : Int)), some (.ref 0), b, none], by simp [bindT, Nat.add_comm, Int.add_comm], .inl ⟨_, _, .inl q2, trivial, c', _, q1, rfl, rfl⟩⟩) ⟨c1, a, q1, rfl, rfl⟩
      rcases l2 with ⟨r', S', e, c2, a2, q2, rfl, rfl⟩ | ⟨_, _, _, h⟩
      · have he2 : evalI (CC k) (.range (.cons (.k (.int (1))) (.cons (.k (.int (64))) .nil))) [some (.scr (ns.map PV.int)), a, some (.ref 0), b, none] (cS c1) = .ok ((List.range (64 - 1)).map fun (k : Nat) => .int ((1 + k : Nat) : Int), none) (cS c1) := by
          rw [eI_range]
          simp only [eEs_cons, eEs_nil, eE_k, Res.bind_ok]
          rw [show rangeP [.int 1, .int 64] = _ from rangeP_two (i := 1) (j := 64) (by omega) (by omega)]
        refine ⟨c2, q2, ?_⟩
        rw [eSs_cons, eS_for, he2, Res.to_ok]
        dsimp only
        rw [e, SRes.seq_nx]
        simp
      · exact h.elim
    · exact h.elim
  obtain ⟨c, h1, h2⟩ := key
  refine ⟨c, h1, ?_⟩
  rw [show GG (k + 1) 20 [.scr (ns.map PV.int)] [] = _ from Gp_succ (d := d__law_folded) rfl]
  exact evalD_new (S := []) (S' := []) (R := cS c) (v := .ref 0) rfl rfl h2 (by
    show gz (cS c) 0 8 0 = _
    unfold gz
    show ((frzGs 0 (gz (cS c) 0 7) (c.map PV.int)).map PV.lst) = _
    rw [frzGs_below below_ints]; rfl)
theorem begun_ok {k : Nat} {ns : List Int} (hl : ns.length ≤ 1000) : ∃ S, Dst 0 [] S ∧ GG (k + 2) 22 [.scr (ns.map PV.int)] [] = .ok (.ref 0) S := by
  obtain ⟨c, hc, hf⟩ := folded_ok (k := k) hl
  refine ⟨dS [] c (ns.map fun z => if 1000000000000000000 ≤ z then z else 0) 0, ⟨rfl, c, _, 0, rfl, hc, by simp; omega, Nat.le_refl _⟩, ?_⟩
  rw [show GG (k + 2) 22 [.scr (ns.map PV.int)] [] = _ from Gp_succ (k := k + 1) (d := d__law_begun) rfl]
  refine evalD_raw ?_
  show evalSs (CC (k + 1)) m__law_begun [some (.scr (ns.map PV.int)), none, none, none] [] = _
  unfold m__law_begun
  have hk : [kC, kG, kS].Nodup := by
    simp [kCG, kCS, kGS]
  obtain ⟨D0, hD0⟩ : ∃ D0 : Store, D0 = [.dct [(kC, .lst (c.map PV.int)), (kG, .lst []), (kS, .int 0)]] := ⟨_, rfl⟩
  have e1 : evalE (CC (k + 1)) (.dctR [(.inr (Str.ofString "cells")), (.inr (Str.ofString "great")), (.inr (Str.ofString "spot"))] (.cons (.call 20 [(.inl 0)] (.cons (.var 0) .nil)) (.cons (.lst .nil) (.cons (.k (.int (0))) .nil)))) [some (.scr (ns.map PV.int)), none, none, none] [] = .ok (.ref 0) D0 := by
    rw [eE_dctR]
    simp -implicitDefEqProofs only [eEs_cons, eE_call, eE_var, List.getElem?_cons_zero, eEs_nil, Res.bind_ok, permP, hf, eE_lst, eE_k, CC_G, List.length_nil]
    rw [if_pos (by decide), Res.bind_ok, Res.bind_ok, Res.bind_ok, if_pos ⟨rfl, by simp, hk⟩, hD0]
    rfl
  have hp : op2 .pow (.int 10) (.int 18) D0 = .ok (.int 1000000000000000000) D0 := by
    show okI (CPow 10 18) _ _ = _
    unfold okI
    rw [if_pos (by decide +kernel)]
    rfl
  have e2 := comp_R (C := CC (k + 1)) (S := D0) (own := [2, 3]) (t := .name 3) (it := .of (.var 0)) (e := (.ite (.bin .ge (.var 3) (.bin .pow (.k (.int (10))) (.k (.int (18))))) (.var 3) (.k (.int (0))))) (r := [some (.scr (ns.map PV.int)), some (.ref 0), none, none]) (as := ns) (g := PV.int) (h := fun z => .int (if 1000000000000000000 ≤ z then z else 0)) (by simp [seqOf]) (by
      have : sizeLine = 16777216 := rfl
      omega) (fun a _ => by
    unfold turnF
    simp -implicitDefEqProofs [bindT, wipeP, hp]
    split <;> simp_all)
  have e3 : setP (.ref 0) (.str (Str.ofString "great")) (.ref D0.length) (D0 ++ [.lst (ns.map fun z => .int (if 1000000000000000000 ≤ z then z else 0))]) = some (dS [] c (ns.map fun z => if 1000000000000000000 ≤ z then z else 0) 0) := by
    rw [hD0]
    have e : putK kG (.ref 1) [(kC, .lst (c.map PV.int)), (kG, .lst []), (kS, .int 0)] = [(kC, .lst (c.map PV.int)), (kG, .ref 1), (kS, .int 0)] := by
      simp [putK, kCG, kSG, kCS]
    show (if (3 : Nat) < sizeLine then some (([.dct [(kC, .lst (c.map PV.int)), (kG, .lst []), (kS, .int 0)]] ++ [.lst (ns.map fun z => .int (if 1000000000000000000 ≤ z then z else 0))] : Store).set 0 (.dct (putK kG (.ref 1) [(kC, .lst (c.map PV.int)), (kG, .lst []), (kS, .int 0)]))) else none) = _
    rw [if_pos (by decide), e]
    show some [_, _] = some [_, _]
    rw [List.map_map]
    rfl
  rw [eSs_cons, eS_asg, e1]
  simp only [Res.to_ok, bindT, List.set, SRes.seq_nx]
  rw [eSs_cons, eS_setix, e2, Res.to_ok]
  simp -implicitDefEqProofs only [eE_var, eE_k, List.getElem?_cons_succ, List.getElem?_cons_zero, Res.to_ok]
  rw [e3]
  simp
end Dg
end

section
set_option Elab.async false
set_option linter.all false
set_option maxRecDepth 100000
set_option maxHeartbeats 1000000
namespace Dg
open PySem L2
theorem Dst.app {N : Nat} {R S : Store} {x : MO} (h : Dst N R S) (hx : Rok (R ++ [x])) : Dst N (R ++ [x]) (S ++ [x]) := by
  obtain ⟨hR, c, g, n, rfl, h1⟩ := h
  exact ⟨hx, c, g, n, rfl, h1⟩
theorem Dst.unapp {N : Nat} {S : Store} {x : MO} (h : Dst N [x] S) : ∃ S', S = S' ++ [x] ∧ Dst N [] S' := by
  obtain ⟨hR, c, g, n, rfl, h1⟩ := h
  exact ⟨dS [] c g n, rfl, rfl, c, g, n, rfl, h1⟩
theorem Dst.get {N : Nat} {S : Store} {x : MO} (h : Dst N [x] S) : S[2]? = some x := by
  obtain ⟨hR, c, g, n, rfl, h1⟩ := h
  rfl
theorem Dst.set {N : Nat} {S : Store} {x y : MO} (h : Dst N [x] S) (hy : Rok [y]) : Dst N [y] (S.set 2 y) := by
  obtain ⟨hR, c, g, n, rfl, h1⟩ := h
  exact ⟨hy, c, g, n, rfl, h1⟩
theorem belows_app {n : Nat} {ys : List PV} : ∀ {xs : List PV}, belows n (xs ++ ys) = (belows n xs && belows n ys)
  | [] => rfl
  | x :: xs => by
    show (below n x && belows n (xs ++ ys)) = ((below n x && belows n xs) && belows n ys)
    rw [belows_app, Bool.and_assoc]
theorem rok_lst {xs : List PV} (h : belows 0 xs = true) : Rok [.lst xs] := by
  unfold Rok
  have := belows_mono (m := 3) (Nat.zero_le _) h
  show (belows 3 xs && true) = true
  rw [this]; rfl
/-- a comprehension of draws -/
theorem compL_draws {α : Type} {f : PV → Store → Res (Option PV)} {g : α → PV} {P : α → Prop} {R : Store} : ∀ {xs : List PV} {M : Nat} {S : Store}, Dst M R S → M + xs.length ≤ 900000000 → (∀ x ∈ xs, ∀ M' S', Dst M' R S' → M' < 900000000 → ∃ z S'', P z ∧ Dst (M' + 1) R S'' ∧ f x S' = .ok (some (g z)) S'') →
    ∃ (zs : List α) (S' : Store), zs.length = xs.length ∧ (∀ z ∈ zs, P z) ∧ Dst (M + xs.length) R S' ∧ compL f none xs S = .ok (zs.map g) S'
  | [], M, S, h, _, _ => ⟨[], S, rfl, by simp, h, by unfold compL; rfl⟩
  | x :: xs, M, S, h, hM, hx => by
    rw [List.length_cons] at hM
    obtain ⟨z, S1, hz, h1, e1⟩ := hx x (List.mem_cons_self ..) M S h (by omega)
    obtain ⟨zs, S2, hl, hP, h2, e2⟩ := compL_draws (xs := xs) h1 (by omega) fun y hy => hx y (List.mem_cons_of_mem _ hy)
    refine ⟨z :: zs, S2, by simp [hl], ?_, ?_, ?_⟩
    · intro y hy
      rcases List.mem_cons.mp hy with rfl | hy
      · exact hz
      · exact hP y hy
    · rw [List.length_cons, show M + (xs.length + 1) = M + 1 + xs.length by omega]; exact h2
    · unfold compL
      rw [e1, Res.bind_ok, if_pos (show Grd none S1 from trivial), e2, Res.bind_ok]
      rfl
theorem comp_draws {α : Type} {C : Cxt} {own : List Nat} {t : TGT} {itt : IT} {e : ME} {r : PEnv} {g : α → PV} {P : α → Prop} {R S : Store} {xs : List PV} {M : Nat} (hi : evalI C itt r S = .ok (xs, none) S) (hl : xs.length < 16777216) (h : Dst M R S) (hM : M + xs.length ≤ 900000000) (hx : ∀ x ∈ xs, ∀ M' S', Dst M' R S' → M' < 900000000 → ∃ z S'', P z ∧ Dst (M' + 1) R S'' ∧ turnF C own t .none e r x S' = .ok (some (g z)) S'') :
    ∃ (zs : List α) (S' : Store), zs.length = xs.length ∧ (∀ z ∈ zs, P z) ∧ Dst (M + xs.length) R S' ∧ evalE C (.comp false own t itt .none e) r S = .ok (.lst (zs.map g)) S' := by
  obtain ⟨zs, S', h1, h2, h3, h4⟩ := compL_draws h hM hx
  refine ⟨zs, S', h1, h2, h3, ?_⟩
  rw [eE_comp, hi, Res.bind_ok]
  dsimp only
  rw [if_pos (show xs.length < sizeLine from hl), h4, Res.bind_ok, if_neg Bool.false_ne_true]
theorem app_ok2 {C : Cxt} {i n : Nat} {e : ME} {r : PEnv} {T T1 : Store} {xs : List PV} {x : PV} (hi : r[i]? = some (some (.ref n))) (h0 : T[n]? = some (.lst xs)) (he : evalE C e r T = .ok x T1) (h1 : T1[n]? = some (.lst xs)) (hl : xs.length < 16777216) : evalS C (.ex (.app i e)) r T = .nx r (T1.set n (.lst (xs ++ [x]))) := by
  rw [eS_ex, eE_app, hi]
  dsimp only
  rw [h0]
  dsimp only
  rw [he, Res.bind_ok, h1]
  dsimp only
  rw [if_pos (show xs.length < sizeLine from hl), Res.to_ok]
abbrev rEnv (b t n c th : Nat) (v7 v8 : Option PV) : PEnv := [some (.ref 0), some (.int (b : Int)), some (.int (t : Int)), some (.int (n : Int)), some (.int (c : Int)), some (.int (th : Int)), some (.ref 2), v7, v8, none, none, none]
abbrev nearE : ME := (.comp false [9, 10] (.name 10) (.range (.cons (.k (.int (2))) .nil)) .none (.call 21 [(.inl 0), (.inl 1)] (.cons (.var 0) (.cons (.var 3) .nil))))
abbrev row1E : ME := (.comp false [9, 11] (.name 11) (.range (.cons (.var 4) .nil)) .none (.bin .ix (.var 8) (.call 21 [(.inl 0), (.inl 1)] (.cons (.var 0) (.cons (.k (.int (2))) .nil)))))
abbrev row2E : ME := (.comp false [9, 11] (.name 11) (.range (.cons (.var 4) .nil)) .none (.call 21 [(.inl 0), (.inl 1)] (.cons (.var 0) (.cons (.var 3) .nil))))
abbrev stateBody : MSs := (.cons (.ifS (.bin .eq (.var 5) (.k (.int (0)))) (.cons (.asg (.name 8) nearE) (.cons (.ex (.app 6 row1E)) .nil)) (.cons (.ex (.app 6 row2E)) .nil)) .nil)
abbrev inN (n : Nat) (z : Int) : Prop := 0 ≤ z ∧ z < n
theorem rng_len {m : Nat} : ((List.range m).map fun (k : Nat) => PV.int (k : Int)).length = m := by simp
end Dg
end

section
set_option Elab.async false
set_option linter.all false
set_option maxRecDepth 100000
set_option maxHeartbeats 1000000
/-! A1: ratios. -/
namespace Dg
open PySem L2
variable {S : Store}
theorem opn_gcd {a b : Int} : opn .gcd [.int a, .int b] S = .ok (.int (Int.gcd a b : Int)) S := rfl
theorem fr_ix0 {q : Rat} : op2 .ix (fr q) (.int 0) S = .ok (.int q.num) S := rfl
theorem fr_ix1 {q : Rat} : op2 .ix (fr q) (.int 1) S = .ok (.int (q.den : Int)) S := rfl
theorem below_fr {n : Nat} {q : Rat} : below n (fr q) = true := by
  unfold fr
  simp [below, belows]
theorem gcd_le {u d : Int} (h : d ≠ 0) : Int.gcd u d ≤ d.natAbs := Nat.le_of_dvd (by omega) (Int.natAbs_dvd_natAbs.mpr (Int.gcd_dvd_right u d) |> fun x => by simpa using x)
theorem fdiv_gcd {u d z : Int} {m : Nat} (h : 0 < d) (hm : d.natAbs ≤ 2 ^ m) (l : m < 8999) : op2 .fdiv (.int z) (.int (Int.gcd u d : Int)) S = .ok (.int (z / (Int.gcd u d : Int))) S := by
  have g := gcd_pos (u := u) (d := d) (by omega)
  have := gcd_le (u := u) (d := d) (by omega)
  exact op_fdivI ⟨by omega, by rw [Int.natAbs_natCast]; exact log2_of (Nat.le_trans this hm) l⟩
theorem ratio_of_ok {k m : Nat} {u d : Int} (hS : Wf S) (hd : 0 < d) (hm : d.natAbs ≤ 2 ^ m) (l : m < 8999) : GG (k + 1) 4 [.int u, .int d] S = .ok (fr (Rat.divInt u d)) S := by
  rw [show GG (k + 1) 4 [.int u, .int d] S = _ from Gp_succ (d := d_ratio_of) rfl]
  refine evalD_ret hS ?_ below_fr
  show evalSs (CC k) m_ratio_of [some (.int u), some (.int d), none] S = _
  unfold m_ratio_of
  have e1 := opn_gcd (S := S) (a := u) (b := d)
  have e2 := fdiv_gcd (S := S) (z := u) (u := u) hd hm l
  have e3 := fdiv_gcd (S := S) (z := d) (u := u) hd hm l
  have e4 : decide (d < 0) = false := by simp; omega
  unfold fr
  rw [num_pos_div hd, den_pos_div hd]
  generalize (Int.gcd u d : Int) = g at *
  generalize u / g = a at *
  generalize d / g = b at *
  simp -implicitDefEqProofs [e1, e2, e3, e4, bindT, sizeLine]
abbrev gcdBody : MSs := (.cons (.asg (.tup [0, 1]) (.tup (.cons (.var 1) (.cons (.bin .mod (.bi .int_ (.cons (.var 0) .nil)) (.var 1)) .nil)))) .nil)
theorem mod_any {i j : Int} (h : j ≠ 0) : op2 .mod (.int i) (.int j) S = .ok (.int (i.fmod j)) S := by
  rcases Int.lt_or_gt_of_ne h with l | l
  · exact op_modN l
  · rw [op_modI l, Int.fmod_eq_emod_of_nonneg i (by omega)]
theorem fmod_lt {a b : Int} (h : b ≠ 0) : (a.fmod b).natAbs < b.natAbs := by
  rw [Int.fmod_eq_emod]
  have h1 := Int.emod_nonneg a h
  have h2 := Int.emod_lt a h
  split
  · omega
  · rename_i q
    have : a % b ≠ 0 := fun z => q (.inr (Int.dvd_of_emod_eq_zero z))
    omega
theorem gcd_step {a b : Int} : Int.gcd b (a.fmod b) = Int.gcd a b := by
  rw [Int.fmod_def, Int.gcd_sub_mul_left_right, Int.gcd_comm]
theorem gcd_loop {C : Cxt} : ∀ (n : Nat) (a b : Int), b.natAbs < n → ∃ g : Int, g.natAbs = Int.gcd a b ∧ whileN (fun r2 S2 => evalT C (.bin .ne (.var 1) (.k (.int (0)))) r2 S2) (fun r2 S2 => evalSs C gcdBody r2 S2) n [some (.int a), some (.int b)] S = .nx [some (.int g), some (.int 0)] S
  | 0, _, _, h => absurd h (by omega)
  | n + 1, a, b, h => by
    unfold whileN
    by_cases z : b = 0
    · subst z
      exact ⟨a, by simp, by simp [Res.to]⟩
    · obtain ⟨g, g1, g2⟩ := gcd_loop n b (a.fmod b) (by have := fmod_lt (a := a) z; omega)
      refine ⟨g, by rw [g1, gcd_step], ?_⟩
      have e1 : evalT C (.bin .ne (.var 1) (.k (.int (0)))) [some (.int a), some (.int b)] S = .ok true S := by simp [z]
      have e2 : evalSs C gcdBody [some (.int a), some (.int b)] S = .nx [some (.int b), some (.int (a.fmod b))] S := by
        have e3 := mod_any (S := S) (i := a) z
        generalize a.fmod b = c at *
        simp -implicitDefEqProofs [e3, bindT, sizeLine]
      rw [e1, Res.to_ok, if_pos rfl, e2]
      exact g2
theorem law_gcd_ok {k : Nat} {a b : Int} (hS : Wf S) : GG (k + 1) 27 [.int a, .int b] S = .ok (.int (Int.gcd a b : Int)) S := by
  rw [show GG (k + 1) 27 [.int a, .int b] S = _ from Gp_succ (d := d__law_gcd) rfl]
  refine evalD_ret hS ?_ rfl
  show evalSs (CC k) m__law_gcd [some (.int a), some (.int b)] S = _
  unfold m__law_gcd
  obtain ⟨g, g1, g2⟩ := gcd_loop (S := S) (C := CC k) (b.natAbs + 1) a b (by omega)
  rw [eSs_cons, eS_while, whileR_eq g2 (by simp), SRes.seq_nx]
  have e : opn .abs_ [.int g] S = .ok (.int (Int.gcd a b : Int)) S := by
    show Res.ok (PV.int (if g < 0 then -g else g)) S = _
    have : (if g < 0 then -g else g) = (Int.gcd a b : Int) := by split <;> omega
    rw [this]
  simp [e]
theorem law_ratio_ok {k m : Nat} {u d : Int} (hS : Wf S) (hd : d ≠ 0) (hm : d.natAbs ≤ 2 ^ m) (l : m < 8999) : GG (k + 2) 28 [.int u, .int d] S = .ok (fr (Rat.divInt u d)) S := by
  rw [show GG (k + 2) 28 [.int u, .int d] S = _ from Gp_succ (k := k + 1) (d := d__law_ratio) rfl]
  refine evalD_ret hS ?_ below_fr
  show evalSs (CC (k + 1)) m__law_ratio [some (.int u), some (.int d), none] S = _
  unfold m__law_ratio
  have e1 := law_gcd_ok (k := k) (a := u) (b := d) hS
  have hg := gcd_pos (u := u) hd
  unfold fr
  rcases Int.lt_or_gt_of_ne hd with q | q
  · have lg : (0 - (Int.gcd u d : Int)).natAbs.log2 < 9000 := by
      have h1 : (0 - (Int.gcd u d : Int)).natAbs = Int.gcd u d := by omega
      have := gcd_le (u := u) hd
      rw [h1]; exact log2_of (Nat.le_trans this hm) l
    have e2 := op_fdivN (S := S) (i := u) (j := 0 - (Int.gcd u d : Int)) (by omega) lg
    have e3 := op_fdivN (S := S) (i := d) (j := 0 - (Int.gcd u d : Int)) (by omega) lg
    rw [num_neg_div q, den_neg_div q]
    rw [Int.zero_sub] at e2 e3 ⊢
    clear lg hg
    generalize (Int.gcd u d : Int) = g at *
    generalize u.fdiv (-g) = a at *
    generalize d.fdiv (-g) = b at *
    simp -implicitDefEqProofs [e1, q, permP, bindT, e2, e3, sizeLine]
  · have e2 := fdiv_gcd (S := S) (z := u) (u := u) q hm l
    have e3 := fdiv_gcd (S := S) (z := d) (u := u) q hm l
    have e4 : decide (d < 0) = false := by simp; omega
    rw [num_pos_div q, den_pos_div q]
    generalize (Int.gcd u d : Int) = g at *
    generalize u / g = a at *
    generalize d / g = b at *
    simp -implicitDefEqProofs [e1, e2, e3, e4, bindT, sizeLine, permP]
theorem sum_div {a b : Rat} : a + b = Rat.divInt (a.num * b.den + b.num * a.den) (a.den * b.den) := by
  conv => lhs; rw [← Rat.num_divInt_den a, ← Rat.num_divInt_den b]
  have := den_pos a
  have := den_pos b
  rw [Rat.divInt_add_divInt _ _ (by omega) (by omega)]
theorem mul_div {a b : Rat} : a * b = Rat.divInt (a.num * b.num) (a.den * b.den) := by
  conv => lhs; rw [← Rat.num_divInt_den a, ← Rat.num_divInt_den b]
  rw [Rat.divInt_mul_divInt]
theorem mulQ {i j : Int} {m n : Nat} (h : i.natAbs ≤ 2 ^ m) (k : j.natAbs ≤ 2 ^ n) (l : m + n < 900000) : op2 .mul (.int i) (.int j) S = .ok (.int (i * j)) S := op_mulI (.inr (wide_of h k l))
theorem Sz.n {m : Nat} {q : Rat} (h : Sz m q) : q.num.natAbs ≤ 2 ^ m := h.1
theorem Sz.d {m : Nat} {q : Rat} (h : Sz m q) : (q.den : Int).natAbs ≤ 2 ^ m := by rw [Int.natAbs_natCast]; exact h.2
theorem dens_ok {m n : Nat} {a b : Rat} (ha : Sz m a) (hb : Sz n b) : (a.den * b.den : Int) ≠ 0 ∧ (a.den * b.den : Int).natAbs ≤ 2 ^ (m + n) := by
  have := den_pos a
  have := den_pos b
  have : (0 : Int) < a.den * b.den := Int.mul_pos (den_pos a) (den_pos b)
  refine ⟨by omega, ?_⟩
  rw [Int.natAbs_mul, Nat.pow_add]
  exact Nat.mul_le_mul ha.d hb.d
theorem law_plus_ok {k m n : Nat} {a b : Rat} (hS : Wf S) (ha : Sz m a) (hb : Sz n b) (l : m + n < 8999) : GG (k + 3) 29 [fr a, fr b] S = .ok (fr (a + b)) S := by
  rw [show GG (k + 3) 29 [fr a, fr b] S = _ from Gp_succ (k := k + 2) (d := d__law_plus) rfl]
  refine evalD_ret hS ?_ below_fr
  show evalSs (CC (k + 2)) m__law_plus [some (fr a), some (fr b)] S = _
  unfold m__law_plus
  obtain ⟨h1, h2⟩ := dens_ok ha hb
  have e := law_ratio_ok (k := k) (u := a.num * b.den + b.num * a.den) hS h1 h2 l
  rw [← sum_div] at e
  have m1 := mulQ (S := S) ha.n hb.d (by omega)
  have m2 := mulQ (S := S) hb.n ha.d (by omega)
  have m3 := mulQ (S := S) ha.d hb.d (by omega)
  have i1 := fr_ix0 (S := S) (q := a)
  have i2 := fr_ix1 (S := S) (q := a)
  have i3 := fr_ix0 (S := S) (q := b)
  have i4 := fr_ix1 (S := S) (q := b)
  generalize fr (a + b) = c at *
  generalize fr a = x at *
  generalize fr b = y at *
  generalize a.num * (b.den : Int) = z1 at *
  generalize b.num * (a.den : Int) = z2 at *
  generalize (a.den : Int) * (b.den : Int) = z3 at *
  simp -implicitDefEqProofs [i1, i2, i3, i4, m1, m2, m3, e, permP]
theorem law_mult_ok {k m n : Nat} {a b : Rat} (hS : Wf S) (ha : Sz m a) (hb : Sz n b) (l : m + n < 8999) : GG (k + 3) 30 [fr a, fr b] S = .ok (fr (a * b)) S := by
  rw [show GG (k + 3) 30 [fr a, fr b] S = _ from Gp_succ (k := k + 2) (d := d__law_mult) rfl]
  refine evalD_ret hS ?_ below_fr
  show evalSs (CC (k + 2)) m__law_mult [some (fr a), some (fr b)] S = _
  unfold m__law_mult
  obtain ⟨h1, h2⟩ := dens_ok ha hb
  have e := law_ratio_ok (k := k) (u := a.num * b.num) hS h1 h2 l
  rw [← mul_div] at e
  have m1 := mulQ (S := S) ha.n hb.n (by omega)
  have m3 := mulQ (S := S) ha.d hb.d (by omega)
  have i1 := fr_ix0 (S := S) (q := a)
  have i2 := fr_ix1 (S := S) (q := a)
  have i3 := fr_ix0 (S := S) (q := b)
  have i4 := fr_ix1 (S := S) (q := b)
  generalize fr (a * b) = c at *
  generalize fr a = x at *
  generalize fr b = y at *
  generalize a.num * b.num = z1 at *
  generalize (a.den : Int) * (b.den : Int) = z3 at *
  simp -implicitDefEqProofs [i1, i2, i3, i4, m1, m3, e, permP]
end Dg
end

section
set_option Elab.async false
set_option linter.all false
set_option maxRecDepth 100000
set_option maxHeartbeats 1000000
/-! A2: sums of products. -/
namespace Dg
open PySem L2
variable {S : Store}
def rowV (t : Bool) (xs : List Rat) : PV := if t then .tup (xs.map fr) else .lst (xs.map fr)
def prP (p : Rat × Rat) : PV := .tup [fr p.1, fr p.2]
theorem zip_fr {C : Cxt} {a b : ME} {r : PEnv} {t1 t2 : Bool} {xs ys : List Rat} (ha : evalE C a r S = .ok (rowV t1 xs) S) (hb : evalE C b r S = .ok (rowV t2 ys) S) : evalI C (.zip a b) r S = .ok ((xs.zip ys).map prP, none) S := by
  rw [eI_zip, ha, Res.bind_ok, hb, Res.bind_ok]
  cases t1 <;> cases t2 <;> (simp [rowV, zipP_map] <;> exact fun _ _ _ => rfl)
theorem zero_of {a : Rat} (h : a.num = 0) : a = 0 := Rat.num_eq_zero.mp h
theorem Sz.mul {m n : Nat} {a b : Rat} (ha : Sz m a) (hb : Sz n b) : Sz (m + n) (a * b) := by
  obtain ⟨u, e1, b1⟩ := Bd.of ha
  obtain ⟨v, e2, b2⟩ := Bd.of hb
  have x : Bd a.den (2 ^ m) a := ⟨u, e1, b1⟩
  have y : Bd b.den (2 ^ n) b := ⟨v, e2, b2⟩
  refine (x.mul y).sz (Nat.mul_pos a.den_pos b.den_pos) ?_ ?_
  · rw [Nat.pow_add]; exact Nat.mul_le_mul ha.2 hb.2
  · rw [Nat.pow_add]; exact Nat.le_refl _
abbrev dotB : MSs := (.cons (.ifS (.and_ (.bin .ne (.bin .ix (.var 3) (.k (.int (0)))) (.k (.int (0)))) (.bin .ne (.bin .ix (.var 4) (.k (.int (0)))) (.k (.int (0))))) (.cons (.asg (.name 2) (.call 29 [(.inl 0), (.inl 1)] (.cons (.var 2) (.cons (.call 30 [(.inl 0), (.inl 1)] (.cons (.var 3) (.cons (.var 4) .nil))) .nil)))) .nil) .nil) .nil)
theorem dot_body {k m n s : Nat} {R O : Option PV} {q a b : Rat} (hS : Wf S) (hq : Sz s q) (ha : Sz m a) (hb : Sz n b) (l : s + (m + n) < 8999) :
    evalSs (CC (k + 3)) dotB [R, O, some (fr q), some (fr a), some (fr b)] S = .nx [R, O, some (fr (q + a * b)), some (fr a), some (fr b)] S := by
  have i1 := fr_ix0 (S := S) (q := a)
  have i3 := fr_ix0 (S := S) (q := b)
  have e1 := law_mult_ok (k := k) hS ha hb (by omega)
  have e2 := law_plus_ok (k := k) hS hq (ha.mul hb) l
  by_cases z : a.num = 0
  · have e : q + a * b = q := by rw [zero_of z, Rat.zero_mul, Rat.add_zero]
    rw [e]
    generalize fr q = x at *
    generalize fr a = y at *
    generalize fr b = w at *
    simp -implicitDefEqProofs [i1, z]
  · by_cases z2 : b.num = 0
    · have e : q + a * b = q := by rw [zero_of z2, Rat.mul_zero, Rat.add_zero]
      rw [e]
      generalize fr q = x at *
      generalize fr a = y at *
      generalize fr b = w at *
      simp -implicitDefEqProofs [i1, i3, z, z2]
    · generalize fr (q + a * b) = v at *
      generalize fr (a * b) = u at *
      generalize fr q = x at *
      generalize fr a = y at *
      generalize fr b = w at *
      simp -implicitDefEqProofs [i1, i3, z, z2, e1, e2, permP, bindT]
theorem len_mono {s n N : Nat} (h : n ≤ N) : s * n + n ≤ s * N + N := Nat.add_le_add (Nat.mul_le_mul_left s h) h
/-- both rows small -/
structure RowsOk (m n : Nat) (xs ys : List Rat) : Prop where
  sz : ∀ p ∈ xs.zip ys, Sz m p.1 ∧ Sz n p.2
  lt : (m + n) * (xs.zip ys).length + (xs.zip ys).length + (m + n) < 8999
theorem law_dot_gen {k m n : Nat} {x y : PV} {xs ys : List Rat} (hS : Wf S) (hz : ∀ (C : Cxt) (r : PEnv), r[0]? = some (some x) → r[1]? = some (some y) → ∃ g, Grd g S ∧ evalI C (.zip (.var 0) (.var 1)) r S = .ok ((xs.zip ys).map prP, g) S) (h : RowsOk m n xs ys) : GG (k + 4) 31 [x, y] S = .ok (fr (dotQ xs ys)) S := by
  rw [show GG (k + 4) 31 [x, y] S = _ from Gp_succ (k := k + 3) (d := d__law_dot) rfl]
  refine evalD_ret hS ?_ below_fr
  show evalSs (CC (k + 3)) m__law_dot [some x, some y, none, none, none] S = _
  unfold m__law_dot
  have hz0 : fr 0 = .tup [.int 0, .int 1] := rfl
  obtain ⟨g, hg, ez⟩ := hz (CC (k + 3)) [some x, some y, some (fr 0), none, none] rfl rfl
  have hl := forL_k (t := .tup [3, 4]) (g := g) (f := fun r2 S2 => evalSs (CC (k + 3)) dotB r2 S2) (xs := (xs.zip ys).map prP) (r := [some x, some y, some (fr 0), none, none]) (S := S)
    (fun n r S' => S' = S ∧ ∃ v3 v4, r = [some x, some y, some (fr (dotP ((xs.zip ys).take n))), v3, v4]) (fun _ _ => False)
    (fun i hi r S' hI => by
      obtain ⟨rfl, v3, v4, rfl⟩ := hI
      have hi' : i < (xs.zip ys).length := by simpa using hi
      obtain ⟨h1, h2⟩ := h.sz _ (List.getElem_mem hi')
      have sq := dotP_sz h.sz (n := i) (by omega)
      have lm := len_mono (s := m + n) (Nat.le_of_lt hi')
      have hb := dot_body (k := k) (R := some x) (O := some y) hS sq h1 h2 (by have := h.lt; omega)
      refine ⟨[some x, some y, some (fr (dotP ((xs.zip ys).take i))), some (fr (xs.zip ys)[i].1), some (fr (xs.zip ys)[i].2)], by rw [List.getElem_map]; rfl, .inl ⟨_, _, .inl hb, hg, rfl, _, _, by rw [dotP_take hi']⟩⟩) ⟨rfl, none, none, rfl⟩
  rcases hl with ⟨r', S', e, rfl, v3, v4, rfl⟩ | ⟨_, _, _, h⟩
  · have e0 : evalS (CC (k + 3)) (.asg (.name 2) (.tup (.cons (.k (.int (0))) (.cons (.k (.int (1))) .nil)))) [some x, some y, none, none, none] S' = .nx [some x, some y, some (fr 0), none, none] S' := by
      rw [hz0]
      simp [bindT, sizeLine]
    rw [eSs_cons, e0, SRes.seq_nx]
    rw [eSs_cons, eS_for, ez, Res.to_ok]
    dsimp only
    rw [e, SRes.seq_nx, List.length_map, List.take_length]
    unfold dotQ
    generalize fr (dotP (xs.zip ys)) = a at *
    simp
  · exact h.elim
theorem law_dot_ok {k m n : Nat} {t1 t2 : Bool} {xs ys : List Rat} (hS : Wf S) (h : RowsOk m n xs ys) : GG (k + 4) 31 [rowV t1 xs, rowV t2 ys] S = .ok (fr (dotQ xs ys)) S :=
  law_dot_gen hS (fun C r h1 h2 => ⟨none, trivial, zip_fr (t1 := t1) (t2 := t2) (by simp [h1]) (by simp [h2])⟩) h
theorem law_dot_ref {k m n i : Nat} {xs ys : List Rat} (hS : Wf S) (hi : S[i]? = some (.lst (xs.map fr))) (h : RowsOk m n xs ys) : GG (k + 4) 31 [.ref i, rowV false ys] S = .ok (fr (dotQ xs ys)) S :=
  law_dot_gen hS (fun C r h1 h2 => ⟨some (i, xs.map fr), hi, by
    rw [eI_zip, eE_var, h1]
    dsimp only
    rw [Res.bind_ok, eE_var, h2]
    dsimp only
    rw [Res.bind_ok]
    show (match S[i]? with
      | some (.lst xs) => Res.ok (zipP xs (ys.map fr), some (i, xs)) S
      | _ => (.bad : Res (List PV × Option (Nat × List PV)))) = _
    rw [hi]
    dsimp only
    rw [zipP_map]
    rfl⟩) h
abbrev sumB : MSs := (.cons (.ifS (.and_ (.bin .ne (.bin .ix (.var 4) (.k (.int (0)))) (.k (.int (0)))) (.bin .ne (.bin .ix (.var 5) (.k (.int (0)))) (.k (.int (0))))) (.cons (.asg (.name 6) (.bin .mul (.bin .ix (.var 4) (.k (.int (1)))) (.bin .ix (.var 5) (.k (.int (1)))))) (.cons (.asg (.tup [2, 3]) (.tup (.cons (.bin .add (.bin .mul (.var 2) (.var 6)) (.bin .mul (.bin .mul (.bin .ix (.var 4) (.k (.int (0)))) (.bin .ix (.var 5) (.k (.int (0))))) (.var 3))) (.cons (.bin .mul (.var 3) (.var 6)) .nil)))) .nil)) .nil) .nil)
theorem UU.u {s n : Nat} {q : Rat} {u d : Int} (h : UU s n q u d) : u.natAbs ≤ 2 ^ (s * n + n) := by
  refine Nat.le_trans h.un ?_
  rw [Nat.pow_add, Nat.mul_comm]
  exact Nat.mul_le_mul (Nat.le_refl _) (Nat.le_of_lt Nat.lt_two_pow_self)
theorem sum_body {C : Cxt} {m n i : Nat} {R O v6 : Option PV} {q a b : Rat} {u d : Int} (hu : UU (m + n) i q u d) (ha : Sz m a) (hb : Sz n b) (l : (m + n) * i + i + (m + n) < 8999) :
    ∃ u' d' v, UU (m + n) (i + 1) (q + a * b) u' d' ∧ evalSs C sumB [R, O, some (.int u), some (.int d), some (fr a), some (fr b), v6] S = .nx [R, O, some (.int u'), some (.int d'), some (fr a), some (fr b), v] S := by
  have i1 := fr_ix0 (S := S) (q := a)
  have i3 := fr_ix0 (S := S) (q := b)
  have i2 := fr_ix1 (S := S) (q := a)
  have i4 := fr_ix1 (S := S) (q := b)
  by_cases z : a.num = 0
  · have e : q + a * b = q := by rw [zero_of z, Rat.zero_mul, Rat.add_zero]
    refine ⟨u, d, v6, by rw [e]; exact hu.skip, ?_⟩
    generalize fr a = y at *
    generalize fr b = w at *
    simp -implicitDefEqProofs [i1, z]
  · by_cases z2 : b.num = 0
    · have e : q + a * b = q := by rw [zero_of z2, Rat.mul_zero, Rat.add_zero]
      refine ⟨u, d, v6, by rw [e]; exact hu.skip, ?_⟩
      generalize fr a = y at *
      generalize fr b = w at *
      simp -implicitDefEqProofs [i1, i3, z, z2]
    · have st := hu.step ha hb
      refine ⟨_, _, some (.int (a.den * b.den : Int)), st, ?_⟩
      obtain ⟨d1, d2⟩ := dens_ok ha hb
      have m1 := mulQ (S := S) ha.d hb.d (by omega)
      have m2 := mulQ (S := S) hu.u d2 (by omega)
      have m3 := mulQ (S := S) ha.n hb.n (by omega)
      have n3 : (a.num * b.num).natAbs ≤ 2 ^ (m + n) := by
        rw [Int.natAbs_mul, Nat.pow_add]; exact Nat.mul_le_mul ha.n hb.n
      have m4 := mulQ (S := S) n3 hu.dn (by omega)
      have m5 := mulQ (S := S) hu.dn d2 (by omega)
      clear st
      generalize fr a = y at *
      generalize fr b = w at *
      generalize (a.den : Int) * (b.den : Int) = z3 at *
      generalize a.num * b.num = z4 at *
      generalize u * z3 = z5 at *
      generalize z4 * d = z6 at *
      generalize d * z3 = z7 at *
      simp -implicitDefEqProofs [i1, i2, i3, i4, z, z2, m1, m2, m3, m4, m5, bindT, sizeLine]
theorem sum_ok {k m n : Nat} {t1 t2 : Bool} {xs ys : List Rat} (hS : Wf S) (h : RowsOk m n xs ys) : GG (k + 2) 8 [rowV t1 xs, rowV t2 ys] S = .ok (fr (dotQ xs ys)) S := by
  rw [show GG (k + 2) 8 [rowV t1 xs, rowV t2 ys] S = _ from Gp_succ (k := k + 1) (d := d_sum_of_products) rfl]
  refine evalD_ret hS ?_ below_fr
  show evalSs (CC (k + 1)) m_sum_of_products [some (rowV t1 xs), some (rowV t2 ys), none, none, none, none, none] S = _
  unfold m_sum_of_products
  have hl := forL_k (t := .tup [4, 5]) (g := none) (f := fun r2 S2 => evalSs (CC (k + 1)) sumB r2 S2) (xs := (xs.zip ys).map prP) (r := [some (rowV t1 xs), some (rowV t2 ys), some (.int 0), some (.int 1), none, none, none]) (S := S)
    (fun i r S' => S' = S ∧ ∃ u d v4 v5 v6, UU (m + n) i (dotP ((xs.zip ys).take i)) u d ∧ r = [some (rowV t1 xs), some (rowV t2 ys), some (.int u), some (.int d), v4, v5, v6]) (fun _ _ => False)
    (fun i hi r S' hI => by
      obtain ⟨rfl, u, d, v4, v5, v6, hu, rfl⟩ := hI
      have hi' : i < (xs.zip ys).length := by simpa using hi
      obtain ⟨h1, h2⟩ := h.sz _ (List.getElem_mem hi')
      have lm := len_mono (s := m + n) (Nat.le_of_lt hi')
      obtain ⟨u', d', v, hu', hb⟩ := sum_body (S := S') (C := CC (k + 1)) (R := some (rowV t1 xs)) (O := some (rowV t2 ys)) (v6 := v6) hu h1 h2 (by have := h.lt; omega)
      refine ⟨[some (rowV t1 xs), some (rowV t2 ys), some (.int u), some (.int d), some (fr (xs.zip ys)[i].1), some (fr (xs.zip ys)[i].2), v6], by rw [List.getElem_map]; rfl, .inl ⟨_, _, .inl hb, trivial, rfl, _, _, _, _, _, by rw [dotP_take hi']; exact hu', rfl⟩⟩) ⟨rfl, 0, 1, none, none, none, UU.zero, rfl⟩
  rcases hl with ⟨r', S', e, rfl, u, d, v4, v5, v6, hu, rfl⟩ | ⟨_, _, _, h⟩
  · have e0 : evalS (CC (k + 1)) (.unp [(.name 2), (.name 3)] (.tup (.cons (.k (.int (0))) (.cons (.k (.int (1))) .nil)))) [some (rowV t1 xs), some (rowV t2 ys), none, none, none, none, none] S' = .nx [some (rowV t1 xs), some (rowV t2 ys), some (.int 0), some (.int 1), none, none, none] S' := by
      generalize rowV t1 xs = a at *
      generalize rowV t2 ys = b at *
      simp [bindT, sizeLine, evalGs]
    rw [eSs_cons, e0, SRes.seq_nx]
    rw [eSs_cons, eS_for, zip_fr (t1 := t1) (t2 := t2) (xs := xs) (ys := ys) (by simp) (by simp), Res.to_ok]
    dsimp only
    rw [e, SRes.seq_nx]
    rw [List.length_map, List.take_length] at hu
    have hr := ratio_of_ok (k := k) (u := u) hS hu.pos hu.dn (by have := h.lt; omega)
    rw [← hu.eq] at hr
    unfold dotQ
    generalize fr (dotP (xs.zip ys)) = a at *
    simp [hr, permP]
  · exact h.elim
end Dg
end

section
set_option Elab.async false
set_option linter.all false
set_option maxRecDepth 100000
set_option maxHeartbeats 1000000
/-! A3: rows times matrices. -/
namespace Dg
open PySem L2
variable {S : Store}
theorem belows_fr {n : Nat} {xs : List Rat} : belows n (xs.map fr) = true := below_map fun q => below_fr
theorem below_rowV {n : Nat} {t : Bool} {xs : List Rat} : below n (rowV t xs) = true := by
  cases t
  · show below n (.lst (xs.map fr)) = true
    rw [below, belows_fr]
  · show below n (.tup (xs.map fr)) = true
    rw [below, belows_fr]
def linesV (t : Bool) (M : List (List Rat)) : List PV := M.map (rowV t)
def matV (M : List (List Rat)) : PV := .tup (M.map (rowV true))
theorem belows_lines {n : Nat} {t : Bool} {M : List (List Rat)} : belows n (M.map (rowV t)) = true := below_map fun q => below_rowV
theorem below_matV {n : Nat} {M : List (List Rat)} : below n (matV M) = true := by
  unfold matV
  rw [below, belows_lines]
theorem belowM_mono {n m : Nat} (h : n ≤ m) {o : MO} (q : belowM n o = true) : belowM m o = true := by
  cases o with
  | lst xs => exact belows_mono h q
  | dct kvs => unfold belowM at q ⊢; rw [List.all_eq_true] at q ⊢; exact fun p hp => below_mono h (q p hp)
  | dctT kvs => unfold belowM at q ⊢; rw [List.all_eq_true] at q ⊢; exact fun p hp => below_mono h (q p hp)
theorem Wf_app {S R : Store} (hS : Wf S) (hR : R.all (belowM (S ++ R).length) = true) : Wf (S ++ R) := by
  unfold Wf at hS ⊢
  rw [List.all_append, Bool.and_eq_true]
  refine ⟨?_, hR⟩
  rw [List.all_eq_true] at hS ⊢
  exact fun o ho => belowM_mono (by simp) (hS o ho)
theorem Wf_lst {S : Store} {xs : List PV} (hS : Wf S) (h : belows (S.length + 1) xs = true) : Wf (S ++ [.lst xs]) := Wf_app hS (by
  rw [List.length_append]
  show (belows (S.length + 1) xs && true) = true
  rw [h]; rfl)
/-- a list made here and told -/
theorem frz_new {xs : List PV} {R : Store} (h : belows S.length xs = true) : frz (S ++ .lst xs :: R) S.length 8 (.ref S.length) = some (.lst xs) := by
  unfold frz frzG
  rw [if_neg (Nat.lt_irrefl _)]
  unfold gz
  have e : (S ++ MO.lst xs :: R)[S.length]? = some (.lst xs) := by simp
  rw [e]
  dsimp only
  rw [frzGs_below h]
  rfl
theorem RowsOk.of {m n d : Nat} {xs ys : List Rat} (hx : ∀ x ∈ xs, Sz m x) (hy : ∀ y ∈ ys, Sz n y) (hl : xs.length ≤ d) (h : (m + n) * d + d + (m + n) < 8999) : RowsOk m n xs ys := by
  refine ⟨fun p hp => ⟨hx _ (List.of_mem_zip hp).1, hy _ (List.of_mem_zip hp).2⟩, ?_⟩
  have : (xs.zip ys).length ≤ d := by rw [List.length_zip]; omega
  have := len_mono (s := m + n) this
  omega
def colQ (M : List (List Rat)) (p : Nat) : List Rat := M.map fun line => line.getD p 0
def timesQ (xs : List Rat) (M : List (List Rat)) : List Rat := (List.range xs.length).map fun p => dotQ xs (colQ M p)
structure MatOk (d n : Nat) (M : List (List Rat)) : Prop where
  rows : M.length = d
  row : ∀ line ∈ M, line.length = d ∧ ∀ q ∈ line, Sz n q
theorem MatOk.col {d n p : Nat} {M : List (List Rat)} (h : MatOk d n M) (hp : p < d) : ∀ y ∈ colQ M p, Sz n y := by
  intro y hy
  obtain ⟨line, hl, rfl⟩ := List.mem_map.mp hy
  obtain ⟨h1, h2⟩ := h.row line hl
  have : p < line.length := by omega
  have e : line.getD p 0 = line[p] := by simp [this]
  rw [e]
  exact h2 _ (List.getElem_mem _)
theorem ix_row {t : Bool} {xs : List Rat} {p : Nat} (hp : p < xs.length) : op2 .ix (rowV t xs) (.int (p : Int)) S = .ok (fr (xs.getD p 0)) S := by
  have e : xs.getD p 0 = xs[p] := by simp [hp]
  rw [e]
  cases t
  · exact ix_lst (by simp [hp])
  · exact ix_tup (by simp [hp])
theorem len_row {t : Bool} {xs : List Rat} : opn .len [rowV t xs] S = .ok (.int xs.length) S := by
  cases t
  · show opn .len [.lst (xs.map fr)] S = _
    rw [opn_len_lst, List.length_map]
  · show opn .len [.tup (xs.map fr)] S = _
    rw [opn_len_tup, List.length_map]
theorem col_comp {C : Cxt} {a b : Nat} {p d n : Nat} {M : List (List Rat)} {e : ME} {r : PEnv} {own : List Nat} (hM : MatOk d n M) (hp : p < d) (hd : d ≤ 1000) (hm : evalE C e r S = .ok (matV M) S)
    (hx : ∀ line : List Rat, p < line.length → turnF C own (.name a) .none (.bin .ix (.var a) (.var b)) r (rowV true line) S = .ok (some (fr (line.getD p 0))) S) :
    evalE C (.comp false own (.name a) (.of e) .none (.bin .ix (.var a) (.var b))) r S = .ok (rowV false (colQ M p)) S := by
  have hc := comp_A (C := C) (S := S) (own := own) (t := .name a) (it := .of e) (e := .bin .ix (.var a) (.var b)) (r := r) (as := M) (g := rowV true) (h := fun line => fr (line.getD p 0)) (eI_ofT hm) (by
    have := hM.rows
    have : sizeLine = 16777216 := rfl
    omega) (fun line hl => hx line (by have := (hM.row line hl).1; omega))
  rw [hc]
  unfold rowV colQ
  simp
abbrev rtBody : MSs := (.cons (.ex (.app 2 (.call 8 [(.inl 0), (.inl 1)] (.cons (.var 0) (.cons (.comp false [4, 5] (.name 5) (.of (.var 1)) .none (.bin .ix (.var 5) (.var 3))) .nil))))) .nil)
theorem set_new {xs ys : List PV} {R : Store} : (S ++ MO.lst xs :: R).set S.length (.lst ys) = S ++ .lst ys :: R := by
  rw [List.set_append_right _ _ (Nat.le_refl _), Nat.sub_self, List.set_cons_zero]
theorem row_times_ok {k m n d : Nat} {t : Bool} {xs : List Rat} {M : List (List Rat)} (hS : Wf S) (hl : xs.length = d) (hx : ∀ x ∈ xs, Sz m x) (hM : MatOk d n M) (hd : d ≤ 1000) (h : (m + n) * d + d + (m + n) < 8999) :
    GG (k + 3) 9 [rowV t xs, matV M] S = .ok (rowV false (timesQ xs M)) S := by
  rw [show GG (k + 3) 9 [rowV t xs, matV M] S = _ from Gp_succ (k := k + 2) (d := d_row_times) rfl]
  have key : evalSs (CC (k + 2)) m_row_times [some (rowV t xs), some (matV M), none, none, none, none] S = .ret (.ref S.length) (S ++ [.lst ((timesQ xs M).map fr)]) := by
    unfold m_row_times
    have e0 : evalS (CC (k + 2)) (.asg (.name 2) (.lstR .nil)) [some (rowV t xs), some (matV M), none, none, none, none] S = .nx [some (rowV t xs), some (matV M), some (.ref S.length), none, none, none] (S ++ [.lst []]) := by
      generalize rowV t xs = a at *
      generalize matV M = b at *
      simp [bindT, sizeLine]
    rw [eSs_cons, e0, SRes.seq_nx]
    have hlp := forL_k (t := .name 3) (g := none) (f := fun r2 S2 => evalSs (CC (k + 2)) rtBody r2 S2) (xs := (List.range d).map fun (k : Nat) => .int (k : Int)) (r := [some (rowV t xs), some (matV M), some (.ref S.length), none, none, none]) (S := S ++ [.lst []])
      (fun i r S' => S' = S ++ [.lst (((List.range i).map fun p => dotQ xs (colQ M p)).map fr)] ∧ ∃ v3, r = [some (rowV t xs), some (matV M), some (.ref S.length), v3, none, none]) (fun _ _ => False)
      (fun i hi r S' hI => by
        obtain ⟨rfl, v3, rfl⟩ := hI
        have hi' : i < d := by simpa using hi
        have hW : Wf (S ++ [.lst (((List.range i).map fun p => dotQ xs (colQ M p)).map fr)]) := Wf_lst hS belows_fr
        have hs := sum_ok (k := k) (t1 := t) (t2 := false) hW (RowsOk.of (ys := colQ M i) hx (hM.col hi') (Nat.le_of_eq hl) h)
        have hc := col_comp (S := S ++ [.lst (((List.range i).map fun p => dotQ xs (colQ M p)).map fr)]) (C := CC (k + 2)) (a := 5) (b := 3) (own := [4, 5]) (e := .var 1) (r := [some (rowV t xs), some (matV M), some (.ref S.length), some (.int (i : Int)), none, none]) hM hi' hd (by simp) (fun line hl2 => by
          have hx := ix_row (S := S ++ [.lst (((List.range i).map fun p => dotQ xs (colQ M p)).map fr)]) (t := true) hl2
          generalize S ++ [.lst (((List.range i).map fun p => dotQ xs (colQ M p)).map fr)] = W at *
          generalize rowV true line = ln at *
          unfold turnF
          simp [bindT, wipeP, hx])
        have ha := app_ok (C := CC (k + 2)) (i := 2) (n := S.length) (e := .call 8 [(.inl 0), (.inl 1)] (.cons (.var 0) (.cons (.comp false [4, 5] (.name 5) (.of (.var 1)) .none (.bin .ix (.var 5) (.var 3))) .nil))) (r := [some (rowV t xs), some (matV M), some (.ref S.length), some (.int (i : Int)), none, none]) (T := S ++ [.lst (((List.range i).map fun p => dotQ xs (colQ M p)).map fr)]) (xs := ((List.range i).map fun p => dotQ xs (colQ M p)).map fr) (x := fr (dotQ xs (colQ M i))) rfl (by simp) (by
          generalize S ++ [.lst (((List.range i).map fun p => dotQ xs (colQ M p)).map fr)] = W at *
          generalize fr (dotQ xs (colQ M i)) = z at *
          generalize rowV t xs = a at *
          generalize rowV false (colQ M i) = cc at *
          generalize matV M = b at *
          simp -implicitDefEqProofs [hc, hs, permP]) (by simp; omega)
        refine ⟨[some (rowV t xs), some (matV M), some (.ref S.length), some (.int (i : Int)), none, none], by simp [bindT], .inl ⟨_, _, .inl (by rw [eSs_cons, ha, SRes.seq_nx, eSs_nil]), trivial, ?_, some (.int (i : Int)), rfl⟩⟩
        rw [set_new, List.range_succ, List.map_append, List.map_append]
        rfl) ⟨rfl, none, rfl⟩
    rcases hlp with ⟨r', S', e, rfl, v3, rfl⟩ | ⟨_, _, _, h⟩
    · have hr := eI_rng (C := CC (k + 2)) (S := S ++ [.lst []]) (r := [some (rowV t xs), some (matV M), some (.ref S.length), none, none, none]) (e := .bi .len (.cons (.var 0) .nil)) (n := d) (by
        have := len_row (S := S ++ [.lst []]) (t := t) (xs := xs)
        rw [hl] at this
        generalize rowV t xs = a at *
        generalize matV M = b at *
        simp [this]) (by omega)
      rw [eSs_cons, eS_for, hr, Res.to_ok]
      dsimp only
      rw [e, SRes.seq_nx]
      have e1 : ((List.range d).map fun (k : Nat) => PV.int (k : Int)).length = d := by simp
      rw [e1]
      unfold timesQ
      rw [hl]
      simp
    · exact h.elim
  exact evalD_new (S' := S) (R := [.lst ((timesQ xs M).map fr)]) hS rfl key (frz_new belows_fr)
theorem along_ok {k m n d : Nat} {t : Bool} {xs : List Rat} {M : List (List Rat)} (hS : Wf S) (hl : xs.length = d) (hx : ∀ x ∈ xs, Sz m x) (hM : MatOk d n M) (hd : d ≤ 1000) (h : (m + n) * d + d + (m + n) < 8999) :
    GG (k + 5) 32 [rowV t xs, matV M] S = .ok (rowV false (timesQ xs M)) S := by
  rw [show GG (k + 5) 32 [rowV t xs, matV M] S = _ from Gp_succ (k := k + 4) (d := d__law_along) rfl]
  refine evalD_ret hS ?_ below_rowV
  show evalSs (CC (k + 4)) m__law_along [some (rowV t xs), some (matV M), none, none, none] S = _
  unfold m__law_along
  have hr := eI_rng (C := CC (k + 4)) (S := S) (r := [some (rowV t xs), some (matV M), none, none, none]) (e := .bi .len (.cons (.var 0) .nil)) (n := d) (by
    have := len_row (S := S) (t := t) (xs := xs)
    rw [hl] at this
    generalize rowV t xs = a at *
    generalize matV M = b at *
    simp [this]) (by omega)
  have hc := comp_A (C := CC (k + 4)) (S := S) (own := [2, 3]) (t := .name 3) (e := .call 31 [(.inl 0), (.inl 1)] (.cons (.var 0) (.cons (.comp false [2, 4] (.name 4) (.of (.var 1)) .none (.bin .ix (.var 4) (.var 3))) .nil))) (as := List.range d) (g := fun (k : Nat) => .int (k : Int)) (h := fun p => fr (dotQ xs (colQ M p))) hr (by
    have : sizeLine = 16777216 := rfl
    rw [List.length_range]; omega) (fun i hi => by
    have hi' : i < d := List.mem_range.mp hi
    have hs := law_dot_ok (k := k) (t1 := t) (t2 := false) hS (RowsOk.of (ys := colQ M i) hx (hM.col hi') (Nat.le_of_eq hl) h)
    have hc := col_comp (S := S) (C := CC (k + 4)) (a := 4) (b := 3) (own := [2, 4]) (e := .var 1) (r := [some (rowV t xs), some (matV M), none, some (.int (i : Int)), none]) hM hi' hd (by simp) (fun line hl2 => by
      have hx := ix_row (S := S) (t := true) hl2
      generalize rowV true line = ln at *
      unfold turnF
      simp [bindT, wipeP, hx])
    unfold turnF
    generalize fr (dotQ xs (colQ M i)) = z at *
    generalize rowV t xs = a at *
    generalize rowV false (colQ M i) = cc at *
    generalize matV M = b at *
    simp -implicitDefEqProofs [bindT, wipeP, hc, hs, permP])
  have e : rowV false (timesQ xs M) = .lst ((List.range d).map fun p => fr (dotQ xs (colQ M p))) := by
    unfold rowV timesQ
    rw [hl]
    simp
  rw [e]
  generalize PV.lst ((List.range d).map fun p => fr (dotQ xs (colQ M p))) = z at *
  simp -implicitDefEqProofs [hc]
theorem matrix_times_ok {k m n d : Nat} {t : Bool} {ys : List Rat} {M : List (List Rat)} (hS : Wf S) (hx : ∀ x ∈ ys, Sz m x) (hM : MatOk d n M) (hd : d ≤ 1000) (h : (n + m) * d + d + (n + m) < 8999) :
    GG (k + 3) 10 [matV M, rowV t ys] S = .ok (rowV false (M.map fun line => dotQ line ys)) S := by
  rw [show GG (k + 3) 10 [matV M, rowV t ys] S = _ from Gp_succ (k := k + 2) (d := d_matrix_times) rfl]
  refine evalD_ret hS ?_ below_rowV
  show evalSs (CC (k + 2)) m_matrix_times [some (matV M), some (rowV t ys), none, none] S = _
  unfold m_matrix_times
  have hc := comp_A (C := CC (k + 2)) (S := S) (own := [2, 3]) (t := .name 3) (it := .of (.var 0)) (r := [some (matV M), some (rowV t ys), none, none]) (e := .call 8 [(.inl 0), (.inl 1)] (.cons (.var 3) (.cons (.var 1) .nil))) (as := M) (g := rowV true) (h := fun line => fr (dotQ line ys)) (eI_ofT (xs := M.map (rowV true)) (by simp; rfl)) (by
    have : sizeLine = 16777216 := rfl
    have := hM.rows
    omega) (fun line hl => by
    obtain ⟨h1, h2⟩ := hM.row line hl
    have hs := sum_ok (k := k) (t1 := true) (t2 := t) hS (RowsOk.of (ys := ys) h2 hx (Nat.le_of_eq h1) h)
    unfold turnF
    generalize fr (dotQ line ys) = z at *
    generalize rowV t ys = a at *
    generalize rowV true line = cc at *
    generalize matV M = b at *
    simp -implicitDefEqProofs [bindT, wipeP, hs, permP])
  have e : rowV false (M.map fun line => dotQ line ys) = .lst (M.map fun line => fr (dotQ line ys)) := by
    unfold rowV
    simp
  rw [e]
  generalize PV.lst (M.map fun line => fr (dotQ line ys)) = z at *
  simp -implicitDefEqProofs [hc]
end Dg
end

section
set_option Elab.async false
set_option linter.all false
set_option maxRecDepth 100000
set_option maxHeartbeats 1000000
/-! A4: the columns of numbers. -/
namespace Dg
open PySem L2
variable {S : Store}
theorem compL_F {α : Type} {f : PV → Store → Res (Option PV)} {g : α → PV} {h : α → PV} {p : α → Bool} {S : Store} : ∀ {as : List α}, (∀ a ∈ as, f (g a) S = .ok (if p a = true then some (h a) else none) S) → compL f none (as.map g) S = .ok ((as.filter p).map h) S
  | [], _ => by rw [List.map_nil]; unfold compL; rfl
  | a :: as, hx => by
    rw [List.map_cons]
    unfold compL
    rw [hx a (List.mem_cons_self ..), Res.bind_ok, if_pos (show Grd none S from trivial), compL_F fun y hy => hx y (List.mem_cons_of_mem _ hy), Res.bind_ok]
    cases q : p a <;> simp [q]
theorem comp_F {C : Cxt} {own : List Nat} {t : TGT} {it : IT} {e : ME} {cn : MEo} {r : PEnv} {α : Type} {as : List α} {g h : α → PV} {p : α → Bool} {S : Store} (hi : evalI C it r S = .ok (as.map g, none) S) (hl : as.length < sizeLine) (hx : ∀ a ∈ as, turnF C own t cn e r (g a) S = .ok (if p a = true then some (h a) else none) S) : evalE C (.comp false own t it cn e) r S = .ok (.lst ((as.filter p).map h)) S := by
  rw [eE_comp, hi, Res.bind_ok]
  dsimp only
  rw [if_pos (by simpa using hl), compL_F hx, Res.bind_ok, if_neg Bool.false_ne_true]
theorem ne_ones {α : Type} {xs : List α} {S : Store} : op2 .ne (.lst (xs.map fun _ => PV.int 1)) (.lst []) S = .ok (.bl (!xs.isEmpty)) S := by
  have := ne_nilL (xs := xs.map fun _ => (1 : Int)) (S := S)
  rw [List.map_map] at this
  have e : (xs.map fun _ => (1 : Int)).isEmpty = xs.isEmpty := by cases xs <;> rfl
  rw [e] at this
  exact this
theorem any_bl : ∀ {bs : List Bool}, opn .any_ [.lst (bs.map PV.bl)] S = .ok (.bl (bs.any id)) S := by
  intro bs
  have e : allOf isBl (bs.map PV.bl) = some bs := by
    induction bs with
    | nil => rfl
    | cons b bs ih => rw [List.map_cons]; unfold allOf; rw [ih]; rfl
  show (match (some (bs.map PV.bl)).bind (allOf isBl) with
    | some bs => okB (bs.any id) S
    | none => (.bad : Res PV)) = _
  rw [Option.bind_some, e]
  rfl
theorem any_p {α : Type} {p : α → Bool} {xs : List α} : opn .any_ [.lst (xs.map fun x => PV.bl (p x))] S = .ok (.bl (xs.any p)) S := by
  have e : xs.map (fun x => PV.bl (p x)) = (xs.map p).map PV.bl := by rw [List.map_map]; rfl
  rw [e, any_bl]
  simp
theorem any_filter {α : Type} {p : α → Bool} : ∀ {xs : List α}, xs.any p = !(xs.filter p).isEmpty
  | [] => rfl
  | x :: xs => by
    rw [List.any_cons, List.filter_cons]
    cases q : p x
    · rw [if_neg Bool.false_ne_true, Bool.false_or]; exact any_filter
    · rfl
def nI (n : Nat) : PV := .int (n : Int)
def colN (b : Nat) (vs : List Nat) : Nat := vs.foldl (fun c v => c * b + v % b) 0
def colsN (b : Nat) : Nat → List Nat → List Nat
  | 0, _ => []
  | n + 1, vs => if vs.any (fun v => decide (0 < v)) = true then colN b vs :: colsN b n (vs.map (· / b)) else []
theorem colN_take {b : Nat} {vs : List Nat} {i : Nat} (h : i < vs.length) : colN b (vs.take (i + 1)) = colN b (vs.take i) * b + vs[i] % b := by
  unfold colN
  rw [List.take_add_one, List.foldl_append, List.getElem?_eq_getElem h]
  rfl
theorem colN_lt {b : Nat} (hb : 0 < b) (vs : List Nat) : colN b vs < b ^ vs.length := by
  have key : ∀ i, i ≤ vs.length → colN b (vs.take i) < b ^ i := by
    intro i
    induction i with
    | zero => intro _; simp [colN]
    | succ i ih =>
      intro h
      rw [colN_take (by omega), Nat.pow_succ]
      have h1 := ih (by omega)
      have h2 : vs[i] % b < b := Nat.mod_lt _ hb
      have h3 : (colN b (vs.take i) + 1) * b ≤ b ^ i * b := Nat.mul_le_mul_right b h1
      rw [Nat.add_mul] at h3
      omega
  have := key vs.length (Nat.le_refl _)
  rwa [List.take_length] at this
theorem colsN_mem {b : Nat} (hb : 0 < b) : ∀ {n : Nat} {vs : List Nat} {c : Nat}, c ∈ colsN b n vs → c < b ^ vs.length
  | 0, _, _, h => by simp [colsN] at h
  | n + 1, vs, c, h => by
    unfold colsN at h
    split at h
    · rcases List.mem_cons.mp h with rfl | h
      · exact colN_lt hb vs
      · have := colsN_mem hb h
        rwa [List.length_map] at this
    · simp at h
theorem colsN_len {b : Nat} : ∀ {n : Nat} {vs : List Nat}, (colsN b n vs).length ≤ n
  | 0, _ => Nat.le_refl _
  | n + 1, vs => by
    unfold colsN
    split
    · have := colsN_len (b := b) (n := n) (vs := vs.map (· / b))
      rw [List.length_cons]; omega
    · simp
/-- further turns change nothing -/
theorem colsN_more {b : Nat} (hb : 0 < b) : ∀ {n m : Nat} {vs : List Nat}, (∀ v ∈ vs, v < b ^ n) → n ≤ m → colsN b m vs = colsN b n vs
  | 0, 0, vs, h, _ => rfl
  | 0, m + 1, vs, h, _ => by
    have e : vs.any (fun v => decide (0 < v)) = false := by
      rw [List.any_eq_false]
      intro v hv
      have := h v hv
      simp at this ⊢; exact this
    unfold colsN
    rw [e]; rfl
  | n + 1, m + 1, vs, h, l => by
    have ih := colsN_more hb (n := n) (m := m) (vs := vs.map (· / b)) (fun v hv => by
      obtain ⟨u, hu, rfl⟩ := List.mem_map.mp hv
      have := h u hu
      rw [Nat.pow_succ] at this
      exact Nat.div_lt_of_lt_mul (by rwa [Nat.mul_comm])) (by omega)
    conv => lhs; unfold colsN
    conv => rhs; unfold colsN
    rw [ih]
abbrev colB : MSs := (.cons (.asg (.name 5) (.bin .add (.bin .mul (.var 5) (.var 0)) (.bin .mod (.bi .int_ (.cons (.var 4) .nil)) (.var 0)))) .nil)
abbrev colsB : MSs := (.cons (.asg (.name 5) (.k (.int (0)))) (.cons (.forS (.name 4) (.of (.var 2)) colB) (.cons (.ex (.app 3 (.var 5))) (.cons (.asg (.name 2) (.comp false [6, 4] (.name 4) (.of (.var 2)) .none (.bin .fdiv (.var 4) (.var 0)))) .nil))))
theorem col_body {C : Cxt} {b c v : Nat} {V L F v6 : Option PV} (hb : 0 < b) (hb2 : b ≤ 10) : evalSs C colB [some (nI b), V, L, F, some (nI v), some (nI c), v6] S = .nx [some (nI b), V, L, F, some (nI v), some (nI (c * b + v % b)), v6] S := by
  have m1 := op_mulR (S := S) (i := c) (j := b) (by omega)
  have m2 := op_modI (S := S) (i := v) (j := b) (by omega)
  unfold nI
  rw [Int.natCast_add, Int.natCast_mul, Int.natCast_emod]
  generalize (c : Int) * (b : Int) = z at *
  generalize (v : Int) % (b : Int) = y at *
  simp -implicitDefEqProofs [m1, m2, bindT]
theorem cols_body {C : Cxt} {b : Nat} {V v4 v5 v6 : Option PV} {vs done : List Nat} (hb : 0 < b) (hb2 : b ≤ 10) (hl : vs.length ≤ 1000) (hd : done.length ≤ 1000) :
    ∃ x4 x5, evalSs C colsB [some (nI b), V, some (.lst (vs.map nI)), some (.ref S.length), v4, v5, v6] (S ++ [.lst (done.map nI)]) = .nx [some (nI b), V, some (.lst ((vs.map (· / b)).map nI)), some (.ref S.length), x4, x5, v6] (S ++ [.lst ((done ++ [colN b vs]).map nI)]) := by
  generalize hW : S ++ [MO.lst (done.map nI)] = W
  have h0 : W[S.length]? = some (.lst (done.map nI)) := by rw [← hW]; simp
  have hs : W.set S.length (.lst (done.map nI ++ [nI (colN b vs)])) = S ++ [.lst ((done ++ [colN b vs]).map nI)] := by
    rw [← hW, set_new, List.map_append]; rfl
  have hlp := forL_k (t := .name 4) (g := none) (f := fun r2 S2 => evalSs C colB r2 S2) (xs := vs.map nI) (r := [some (nI b), V, some (.lst (vs.map nI)), some (.ref S.length), v4, some (nI 0), v6]) (S := W)
    (fun i r S' => S' = W ∧ ∃ v4, r = [some (nI b), V, some (.lst (vs.map nI)), some (.ref S.length), v4, some (nI (colN b (vs.take i))), v6]) (fun _ _ => False)
    (fun i hi r S' hI => by
      obtain ⟨rfl, v4, rfl⟩ := hI
      have hi' : i < vs.length := by simpa using hi
      refine ⟨[some (nI b), V, some (.lst (vs.map nI)), some (.ref S.length), some (nI vs[i]), some (nI (colN b (vs.take i))), v6], by simp [bindT], .inl ⟨_, _, .inl (col_body hb hb2), trivial, rfl, _, by rw [colN_take hi']⟩⟩) ⟨rfl, v4, rfl⟩
  rcases hlp with ⟨r', S', e, rfl, v4', rfl⟩ | ⟨_, _, _, h⟩
  · rw [List.length_map, List.take_length] at e
    have e0 : evalS C (.asg (.name 5) (.k (.int (0)))) [some (nI b), V, some (.lst (vs.map nI)), some (.ref S.length), v4, v5, v6] S' = .nx [some (nI b), V, some (.lst (vs.map nI)), some (.ref S.length), v4, some (nI 0), v6] S' := by
      simp [bindT, nI]
    have e1 : evalI C (.of (.var 2)) [some (nI b), V, some (.lst (vs.map nI)), some (.ref S.length), v4, some (nI 0), v6] S' = .ok (vs.map nI, none) S' := eI_ofL (by simp)
    have ha := app_ok (C := C) (i := 3) (n := S.length) (e := .var 5) (r := [some (nI b), V, some (.lst (vs.map nI)), some (.ref S.length), v4', some (nI (colN b vs)), v6]) (T := S') (xs := done.map nI) (x := nI (colN b vs)) rfl h0 (by simp) (by simp; omega)
    rw [hs] at ha
    have hc := comp_A (C := C) (S := S ++ [.lst ((done ++ [colN b vs]).map nI)]) (own := [6, 4]) (t := .name 4) (it := .of (.var 2)) (r := [some (nI b), V, some (.lst (vs.map nI)), some (.ref S.length), v4', some (nI (colN b vs)), v6]) (e := .bin .fdiv (.var 4) (.var 0)) (as := vs) (g := nI) (h := fun v => nI (v / b)) (eI_ofL (by simp)) (by
      have : sizeLine = 16777216 := rfl
      omega) (fun v hv => by
      generalize S ++ [.lst ((done ++ [colN b vs]).map nI)] = Z at *
      have m := op_fdivS (S := Z) (i := v) (j := b) (by omega) (by omega)
      unfold turnF nI
      rw [Int.natCast_ediv]
      generalize (v : Int) / (b : Int) = y at *
      simp [bindT, wipeP, m])
    refine ⟨v4', some (nI (colN b vs)), ?_⟩
    rw [eSs_cons, e0, SRes.seq_nx, eSs_cons, eS_for, e1, Res.to_ok]
    dsimp only
    rw [e, SRes.seq_nx, eSs_cons, ha, SRes.seq_nx]
    have ex : ((vs.map (· / b)).map nI) = vs.map fun v => nI (v / b) := by rw [List.map_map]; rfl
    rw [ex]
    generalize S ++ [.lst ((done ++ [colN b vs]).map nI)] = Z at *
    generalize PV.lst (vs.map fun v => nI (v / b)) = y at *
    simp -implicitDefEqProofs [hc, bindT]
  · exact h.elim
/-- the loop, by any condition that asks whether some number is left -/
theorem cols_loop {C : Cxt} {b : Nat} {V : Option PV} {cnd : PEnv → Store → Res Bool} (hb : 0 < b) (hb2 : b ≤ 10)
    (hc : ∀ (vs : List Nat) (v4 v5 v6 F : Option PV) (T : Store), vs.length ≤ 1000 → cnd [some (nI b), V, some (.lst (vs.map nI)), F, v4, v5, v6] T = .ok (vs.any fun v => decide (0 < v)) T) :
    ∀ (n : Nat) (vs done : List Nat) (v4 v5 v6 : Option PV), (∀ v ∈ vs, v < b ^ n) → vs.length ≤ 1000 → done.length + n ≤ 1000 →
      ∃ L x4 x5, whileN cnd (fun r2 S2 => evalSs C colsB r2 S2) (n + 1) [some (nI b), V, some (.lst (vs.map nI)), some (.ref S.length), v4, v5, v6] (S ++ [.lst (done.map nI)]) = .nx [some (nI b), V, L, some (.ref S.length), x4, x5, v6] (S ++ [.lst ((done ++ colsN b n vs).map nI)])
  | 0, vs, done, v4, v5, v6, h, hl, hd => by
    have e : vs.any (fun v => decide (0 < v)) = false := by
      rw [List.any_eq_false]
      intro v hv
      have := h v hv
      simp at this ⊢; exact this
    refine ⟨some (.lst (vs.map nI)), v4, v5, ?_⟩
    unfold whileN
    rw [hc _ _ _ _ _ _ hl, Res.to_ok, e, if_neg Bool.false_ne_true]
    simp [colsN]
  | n + 1, vs, done, v4, v5, v6, h, hl, hd => by
    unfold whileN
    rw [hc _ _ _ _ _ _ hl, Res.to_ok]
    by_cases e : vs.any (fun v => decide (0 < v)) = true
    · obtain ⟨x4, x5, hb1⟩ := cols_body (C := C) (S := S) (V := V) (v4 := v4) (v5 := v5) (v6 := v6) (vs := vs) (done := done) hb hb2 hl (by omega)
      obtain ⟨L, y4, y5, ih⟩ := cols_loop (C := C) (V := V) hb hb2 hc n (vs.map (· / b)) (done ++ [colN b vs]) x4 x5 v6 (fun v hv => by
        obtain ⟨u, hu, rfl⟩ := List.mem_map.mp hv
        have := h u hu
        rw [Nat.pow_succ] at this
        exact Nat.div_lt_of_lt_mul (by rwa [Nat.mul_comm])) (by simpa using hl) (by simp; omega)
      refine ⟨L, y4, y5, ?_⟩
      rw [if_pos e, hb1]
      have e2 : colsN b (n + 1) vs = colN b vs :: colsN b n (vs.map (· / b)) := by
        conv => lhs; unfold colsN
        rw [if_pos e]
      rw [e2, List.append_cons done (colN b vs) (colsN b n (vs.map (· / b)))]
      dsimp only
      exact ih
    · refine ⟨some (.lst (vs.map nI)), v4, v5, ?_⟩
      rw [if_neg e]
      have e2 : colsN b (n + 1) vs = [] := by
        unfold colsN
        rw [if_neg e]
      rw [e2, List.append_nil]
theorem belows_nI {n : Nat} {xs : List Nat} : belows n (xs.map nI) = true := below_map fun q => rfl
theorem columns_ok {k b n : Nat} {vs : List Nat} (hS : Wf S) (hb : 0 < b) (hb2 : b ≤ 10) (hv : ∀ v ∈ vs, v < b ^ n) (hl : vs.length ≤ 1000) (hn : n ≤ 1000) : GG (k + 1) 13 [nI b, .tup (vs.map nI)] S = .ok (.lst ((colsN b n vs).map nI)) S := by
  rw [show GG (k + 1) 13 [nI b, .tup (vs.map nI)] S = _ from Gp_succ (d := d_columns_of) rfl]
  have key : evalSs (CC k) m_columns_of [some (nI b), some (.tup (vs.map nI)), none, none, none, none, none] S = .ret (.ref S.length) (S ++ [.lst ((colsN b n vs).map nI)]) := by
    unfold m_columns_of
    have e0 : evalS (CC k) (.asg (.tup [2, 3]) (.tup (.cons (.bi .listV (.cons (.var 1) .nil)) (.cons (.lstR .nil) .nil)))) [some (nI b), some (.tup (vs.map nI)), none, none, none, none, none] S = .nx [some (nI b), some (.tup (vs.map nI)), some (.lst (vs.map nI)), some (.ref S.length), none, none, none] (S ++ [.lst []]) := by
      generalize vs.map nI = xs at *
      generalize nI b = B at *
      simp [bindT, sizeLine, opn, seqOf]
    obtain ⟨L, x4, x5, hw⟩ := cols_loop (S := S) (C := CC k) (V := some (.tup (vs.map nI))) (cnd := fun r2 S2 => evalT (CC k) (.bi .any_ (.cons (.comp false [6, 4] (.name 4) (.of (.var 2)) .none (.bin .gt (.var 4) (.k (.int (0))))) .nil)) r2 S2) hb hb2 (fun us v4 v5 v6 F T hl => by
      have hc := comp_A (C := CC k) (S := T) (own := [6, 4]) (t := .name 4) (it := .of (.var 2)) (r := [some (nI b), some (.tup (vs.map nI)), some (.lst (us.map nI)), F, v4, v5, v6]) (e := .bin .gt (.var 4) (.k (.int (0)))) (as := us) (g := nI) (h := fun v => .bl (decide (0 < v))) (eI_ofL (by simp)) (by
        have : sizeLine = 16777216 := rfl
        omega) (fun v hv => by
        unfold turnF nI
        have e : decide ((0 : Int) < (v : Int)) = decide (0 < v) := by simp
        simp [bindT, wipeP])
      have ha := any_p (S := T) (p := fun v => decide (0 < v)) (xs := us)
      generalize (us.map fun v => PV.bl (decide (0 < v))) = ys at *
      simp -implicitDefEqProofs [hc, ha]) n vs [] none none none hv hl (by simpa using hn)
    rw [List.map_nil, List.nil_append] at hw
    rw [eSs_cons, e0, SRes.seq_nx, eSs_cons, eS_while, whileR_eq hw (by simp), SRes.seq_nx]
    simp
  exact evalD_new (S' := S) (R := [.lst ((colsN b n vs).map nI)]) hS rfl key (frz_new belows_nI)
theorem law_columns_ok {k b n : Nat} {vs : List Nat} (hS : Wf S) (hb : 0 < b) (hb2 : b ≤ 10) (hv : ∀ v ∈ vs, v < b ^ n) (hl : vs.length ≤ 1000) (hn : n ≤ 1000) : GG (k + 1) 26 [nI b, .tup (vs.map nI)] S = .ok (.lst ((colsN b n vs).map nI)) S := by
  rw [show GG (k + 1) 26 [nI b, .tup (vs.map nI)] S = _ from Gp_succ (d := d__law_columns) rfl]
  have key : evalSs (CC k) m__law_columns [some (nI b), some (.tup (vs.map nI)), none, none, none, none, none] S = .ret (.ref S.length) (S ++ [.lst ((colsN b n vs).map nI)]) := by
    unfold m__law_columns
    have e0 : evalS (CC k) (.asg (.tup [2, 3]) (.tup (.cons (.bi .listV (.cons (.var 1) .nil)) (.cons (.lstR .nil) .nil)))) [some (nI b), some (.tup (vs.map nI)), none, none, none, none, none] S = .nx [some (nI b), some (.tup (vs.map nI)), some (.lst (vs.map nI)), some (.ref S.length), none, none, none] (S ++ [.lst []]) := by
      generalize vs.map nI = xs at *
      generalize nI b = B at *
      simp [bindT, sizeLine, opn, seqOf]
    obtain ⟨L, x4, x5, hw⟩ := cols_loop (S := S) (C := CC k) (V := some (.tup (vs.map nI))) (cnd := fun r2 S2 => evalT (CC k) (.bin .ne (.comp false [6, 4] (.name 4) (.of (.var 2)) (.some (.bin .gt (.var 4) (.k (.int (0))))) (.k (.int (1)))) (.lst .nil)) r2 S2) hb hb2 (fun us v4 v5 v6 F T hl => by
      have hc := comp_F (C := CC k) (S := T) (own := [6, 4]) (t := .name 4) (it := .of (.var 2)) (cn := .some (.bin .gt (.var 4) (.k (.int (0))))) (r := [some (nI b), some (.tup (vs.map nI)), some (.lst (us.map nI)), F, v4, v5, v6]) (e := .k (.int (1))) (as := us) (g := nI) (p := fun v => decide (0 < v)) (h := fun v => .int 1) (eI_ofL (by simp)) (by
        have : sizeLine = 16777216 := rfl
        omega) (fun v hv => by
        unfold turnF nI
        by_cases q : 0 < v
        · simp [bindT, wipeP, q]
        · simp [bindT, wipeP, q])
      have ha := ne_ones (S := T) (xs := us.filter fun v => decide (0 < v))
      have e := any_filter (xs := us) (p := fun v => decide (0 < v))
      rw [e]
      generalize ((us.filter fun v => decide (0 < v)).map fun x => PV.int 1) = ys at *
      simp -implicitDefEqProofs [hc, ha, sizeLine]) n vs [] none none none hv hl (by simpa using hn)
    rw [List.map_nil, List.nil_append] at hw
    rw [eSs_cons, e0, SRes.seq_nx, eSs_cons, eS_while, whileR_eq hw (by simp), SRes.seq_nx]
    simp
  exact evalD_new (S' := S) (R := [.lst ((colsN b n vs).map nI)]) hS rfl key (frz_new belows_nI)
end Dg
end

section
set_option Elab.async false
set_option linter.all false
set_option maxRecDepth 100000
set_option maxHeartbeats 1000000
/-! A5: a counting's value along columns. -/
namespace Dg
open PySem L2
variable {S : Store}
abbrev Mat := List (List Rat)
def matsV (ms : List Mat) : PV := .tup (ms.map matV)
def cntV (b t : Nat) (f : List Rat) (ms : List Mat) (l : List Rat) : PV := .tup [nI b, nI t, rowV true f, matsV ms, rowV true l]
theorem below_mats {n : Nat} {ms : List Mat} : below n (matsV ms) = true := by
  unfold matsV
  rw [below, below_map fun q => below_matV]
theorem below_cnt {n b t : Nat} {f l : List Rat} {ms : List Mat} : below n (cntV b t f ms l) = true := by
  unfold cntV
  simp [below, belows, below_rowV, below_mats, nI]
theorem ix5_0 {a b c d e : PV} : op2 .ix (.tup [a, b, c, d, e]) (.int 0) S = .ok a S := rfl
theorem ix5_1 {a b c d e : PV} : op2 .ix (.tup [a, b, c, d, e]) (.int 1) S = .ok b S := rfl
theorem ix5_2 {a b c d e : PV} : op2 .ix (.tup [a, b, c, d, e]) (.int 2) S = .ok c S := rfl
theorem ix5_3 {a b c d e : PV} : op2 .ix (.tup [a, b, c, d, e]) (.int 3) S = .ok d S := rfl
theorem ix5_4 {a b c d e : PV} : op2 .ix (.tup [a, b, c, d, e]) (.int 4) S = .ok e S := rfl
theorem ix_mats {ms : List Mat} {c : Nat} (h : c < ms.length) : op2 .ix (matsV ms) (nI c) S = .ok (matV (ms.getD c [])) S := by
  have e : ms.getD c [] = ms[c] := by simp [h]
  rw [e]
  exact ix_tup (by simp [h])
/-- a counting's numbers, of one denominator -/
structure CntOk (d D N : Nat) (f : List Rat) (ms : List Mat) (l : List Rat) : Prop where
  D0 : 0 < D
  fl : f.length = d
  ll : l.length = d
  f : ∀ x ∈ f, Bd D N x
  l : ∀ x ∈ l, Bd D N x
  ms : ∀ M ∈ ms, M.length = d ∧ ∀ line ∈ M, line.length = d ∧ ∀ q ∈ line, Bd D N q
def rowAt (f : List Rat) (ms : List Mat) (cs : List Nat) : List Rat := cs.foldl (fun row c => timesQ row (ms.getD c [])) f
def worthQ (f : List Rat) (ms : List Mat) (l : List Rat) (cs : List Nat) : Rat := dotQ (rowAt f ms cs) l
theorem rowAt_take {f : List Rat} {ms : List Mat} {cs : List Nat} {i : Nat} (h : i < cs.length) : rowAt f ms (cs.take (i + 1)) = timesQ (rowAt f ms (cs.take i)) (ms.getD cs[i] []) := by
  unfold rowAt
  rw [List.take_add_one, List.foldl_append, List.getElem?_eq_getElem h]
  rfl
theorem rowAt_bd {d D N : Nat} {f l : List Rat} {ms : List Mat} {cs : List Nat} (h : CntOk d D N f ms l) (hc : ∀ c ∈ cs, c < ms.length) : ∀ j, j ≤ cs.length → (rowAt f ms (cs.take j)).length = d ∧ ∀ x ∈ rowAt f ms (cs.take j), Bd (D ^ (j + 1)) (d ^ j * N ^ (j + 1)) x
  | 0, _ => by
    refine ⟨h.fl, fun x hx => ?_⟩
    have := h.f x hx
    simpa using this
  | j + 1, hj => by
    obtain ⟨h1, h2⟩ := rowAt_bd h hc j (by omega)
    rw [rowAt_take (by omega)]
    have hm : cs[j] < ms.length := hc _ (List.getElem_mem _)
    have e : ms.getD cs[j] [] = ms[cs[j]] := by simp [hm]
    obtain ⟨m1, m2⟩ := h.ms _ (List.getElem_mem hm)
    rw [e]
    refine ⟨by unfold timesQ; simp [h1], fun x hx => ?_⟩
    unfold timesQ at hx
    obtain ⟨p, hp, rfl⟩ := List.mem_map.mp hx
    have hp' : p < d := by rw [h1] at hp; exact List.mem_range.mp hp
    have := dotQ_bd (xs := rowAt f ms (cs.take j)) (ys := colQ ms[cs[j]] p) (Nat.pow_pos h.D0) h.D0 h2 (M := N) (fun y hy => by
      obtain ⟨line, hl, rfl⟩ := List.mem_map.mp hy
      obtain ⟨l1, l2⟩ := m2 line hl
      have e : line.getD p 0 = line[p]'(by omega) := by simp [l1, hp']
      rw [e]
      exact l2 _ (List.getElem_mem _))
    rw [h1] at this
    have e1 : D ^ (j + 1) * D = D ^ (j + 1 + 1) := (Nat.pow_succ ..).symm
    have e2 : d * (d ^ j * N ^ (j + 1) * N) = d ^ (j + 1) * N ^ (j + 1 + 1) := by
      rw [Nat.pow_succ d j, Nat.pow_succ N (j + 1)]
      ac_rfl
    rwa [e1, e2] at this
/-- what makes each step small enough -/
structure Rm (d D N m n L : Nat) : Prop where
  hd : d ≤ 1000
  hD : ∀ j, j ≤ L → D ^ (j + 1) ≤ 2 ^ m
  hN : ∀ j, j ≤ L → d ^ j * N ^ (j + 1) ≤ 2 ^ m
  D1 : D ≤ 2 ^ n
  N1 : N ≤ 2 ^ n
  lt : (m + n) * d + d + (m + n) < 8999
theorem rowAt_sz {d D N m n : Nat} {f l : List Rat} {ms : List Mat} {cs : List Nat} (h : CntOk d D N f ms l) (R : Rm d D N m n cs.length) (hc : ∀ c ∈ cs, c < ms.length) {j : Nat} (hj : j ≤ cs.length) : (rowAt f ms (cs.take j)).length = d ∧ ∀ x ∈ rowAt f ms (cs.take j), Sz m x := by
  obtain ⟨h1, h2⟩ := rowAt_bd h hc j hj
  exact ⟨h1, fun x hx => (h2 x hx).sz (Nat.pow_pos h.D0) (R.hD j hj) (R.hN j hj)⟩
theorem mat_sz {d D N m n L : Nat} {f l : List Rat} {ms : List Mat} (h : CntOk d D N f ms l) (R : Rm d D N m n L) {c : Nat} (hc : c < ms.length) : MatOk d n (ms.getD c []) := by
  have e : ms.getD c [] = ms[c] := by simp [hc]
  rw [e]
  obtain ⟨m1, m2⟩ := h.ms _ (List.getElem_mem hc)
  exact ⟨m1, fun line hl => ⟨(m2 line hl).1, fun q hq => ((m2 line hl).2 q hq).sz h.D0 R.D1 R.N1⟩⟩
abbrev worthB : MSs := (.cons (.asg (.name 2) (.call 32 [(.inl 0), (.inl 1)] (.cons (.var 2) (.cons (.bin .ix (.bin .ix (.var 0) (.k (.int (3)))) (.var 3)) .nil)))) .nil)
theorem worth_ok {k d D N m n b t q : Nat} {f l : List Rat} {ms : List Mat} {vs : List Nat} (hS : Wf S) (h : CntOk d D N f ms l) (hb : 0 < b) (hb2 : b ≤ 10) (hv : ∀ v ∈ vs, v < b ^ q) (hl : vs.length ≤ 1000) (hq : q ≤ 1000) (hc : ∀ c ∈ colsN b q vs, c < ms.length) (R : Rm d D N m n (colsN b q vs).length) :
    GG (k + 6) 33 [cntV b t f ms l, .tup (vs.map nI)] S = .ok (fr (worthQ f ms l (colsN b q vs))) S := by
  rw [show GG (k + 6) 33 [cntV b t f ms l, .tup (vs.map nI)] S = _ from Gp_succ (k := k + 5) (d := d__law_worth) rfl]
  refine evalD_ret hS ?_ below_fr
  show evalSs (CC (k + 5)) m__law_worth [some (cntV b t f ms l), some (.tup (vs.map nI)), none, none] S = _
  unfold m__law_worth
  have hcs := law_columns_ok (k := k + 4) hS hb hb2 hv hl hq
  have hsl : (colsN b q vs).length ≤ 1000 := Nat.le_trans colsN_len hq
  generalize colsN b q vs = cs at *
  have i0 : op2 .ix (cntV b t f ms l) (.int 0) S = .ok (nI b) S := rfl
  have i2 : op2 .ix (cntV b t f ms l) (.int 2) S = .ok (rowV true f) S := rfl
  have i3 : op2 .ix (cntV b t f ms l) (.int 3) S = .ok (matsV ms) S := rfl
  have i4 : op2 .ix (cntV b t f ms l) (.int 4) S = .ok (rowV true l) S := rfl
  generalize cntV b t f ms l = C at *
  generalize PV.tup (vs.map nI) = V at *
  have hlp := forL_k (t := .name 3) (g := none) (f := fun r2 S2 => evalSs (CC (k + 5)) worthB r2 S2) (xs := cs.map nI) (r := [some C, some V, some (rowV true f), none]) (S := S)
    (fun i r S' => S' = S ∧ ∃ t v3, r = [some C, some V, some (rowV t (rowAt f ms (cs.take i))), v3]) (fun _ _ => False)
    (fun i hi r S' hI => by
      obtain ⟨rfl, t, v3, rfl⟩ := hI
      have hi' : i < cs.length := by simpa using hi
      obtain ⟨r1, r2⟩ := rowAt_sz h R hc (Nat.le_of_lt hi')
      have hm : cs[i] < ms.length := hc _ (List.getElem_mem _)
      have ha := along_ok (k := k) (t := t) hS r1 r2 (mat_sz h R hm) R.hd R.lt
      have i5 := ix_mats (S := S') hm
      refine ⟨[some C, some V, some (rowV t (rowAt f ms (cs.take i))), some (nI cs[i])], by simp [bindT], .inl ⟨[some C, some V, some (rowV false (rowAt f ms (cs.take (i + 1)))), some (nI cs[i])], S', .inl ?_, trivial, rfl, false, _, rfl⟩⟩
      rw [rowAt_take hi']
      generalize rowV false (timesQ (rowAt f ms (cs.take i)) (ms.getD cs[i] [])) = z at *
      generalize rowV t (rowAt f ms (cs.take i)) = y at *
      generalize matV (ms.getD cs[i] []) = x at *
      generalize nI cs[i] = w at *
      generalize matsV ms = u at *
      simp -implicitDefEqProofs [bindT, i3, i5, ha, permP]) ⟨rfl, true, none, rfl⟩
  rcases hlp with ⟨r', S', e, rfl, tt, v3, rfl⟩ | ⟨_, _, _, h⟩
  · rw [List.length_map, List.take_length] at e
    obtain ⟨r1, r2⟩ := rowAt_sz h R hc (Nat.le_refl _)
    rw [List.take_length] at r1 r2
    have hd := law_dot_ok (k := k + 1) (t1 := tt) (t2 := true) hS (RowsOk.of (ys := l) r2 (fun y hy => (h.l y hy).sz h.D0 R.D1 R.N1) (Nat.le_of_eq r1) R.lt)
    have ei : evalI (CC (k + 5)) (.of (.call 26 [(.inl 0), (.inl 1)] (.cons (.bin .ix (.var 0) (.k (.int (0)))) (.cons (.var 1) .nil)))) [some C, some V, some (rowV true f), none] S' = .ok (cs.map nI, none) S' := eI_ofL (by
      generalize cs.map nI = cz at *
      generalize rowV true f = z at *
      simp -implicitDefEqProofs [i0, hcs, permP])
    have e0 : evalS (CC (k + 5)) (.asg (.name 2) (.bin .ix (.var 0) (.k (.int (2))))) [some C, some V, none, none] S' = .nx [some C, some V, some (rowV true f), none] S' := by
      generalize rowV true f = z at *
      simp -implicitDefEqProofs [i2, bindT]
    rw [eSs_cons, e0, SRes.seq_nx, eSs_cons, eS_for, ei, Res.to_ok]
    dsimp only
    rw [e, SRes.seq_nx]
    unfold worthQ
    generalize fr (dotQ (rowAt f ms cs) l) = z at *
    generalize rowV tt (rowAt f ms cs) = y at *
    generalize rowV true l = x at *
    simp -implicitDefEqProofs [i4, hd, permP]
  · exact h.elim
abbrev valB : MSs := (.cons (.asg (.name 3) (.call 9 [(.inl 0), (.inl 1)] (.cons (.var 3) (.cons (.bin .ix (.bin .ix (.var 0) (.k (.int (3)))) (.var 4)) .nil)))) .nil)
abbrev valEnd : MSs := (.cons (.asg (.name 3) (.bin .ix (.var 0) (.k (.int (2))))) (.cons (.forS (.name 4) (.of (.var 2)) valB) (.cons (.ret (.call 8 [(.inl 0), (.inl 1)] (.cons (.var 3) (.cons (.bin .ix (.var 0) (.k (.int (4)))) .nil)))) .nil)))
/-- the end of value_of -/
theorem val_end {k d D N m n b t : Nat} {V : PV} {f l : List Rat} {ms : List Mat} {cs : List Nat} (hS : Wf S) (h : CntOk d D N f ms l) (hc : ∀ c ∈ cs, c < ms.length) (R : Rm d D N m n cs.length) (hsl : cs.length ≤ 1000) :
    evalSs (CC (k + 3)) valEnd [some (cntV b t f ms l), some V, some (.lst (cs.map nI)), none, none] S = .ret (fr (worthQ f ms l cs)) S := by
  have i2 : op2 .ix (cntV b t f ms l) (.int 2) S = .ok (rowV true f) S := rfl
  have i3 : op2 .ix (cntV b t f ms l) (.int 3) S = .ok (matsV ms) S := rfl
  have i4 : op2 .ix (cntV b t f ms l) (.int 4) S = .ok (rowV true l) S := rfl
  generalize cntV b t f ms l = C at *
  have hlp := forL_k (t := .name 4) (g := none) (f := fun r2 S2 => evalSs (CC (k + 3)) valB r2 S2) (xs := cs.map nI) (r := [some C, some V, some (.lst (cs.map nI)), some (rowV true f), none]) (S := S)
    (fun i r S' => S' = S ∧ ∃ t v3, r = [some C, some V, some (.lst (cs.map nI)), some (rowV t (rowAt f ms (cs.take i))), v3]) (fun _ _ => False)
    (fun i hi r S' hI => by
      obtain ⟨rfl, t, v3, rfl⟩ := hI
      have hi' : i < cs.length := by simpa using hi
      obtain ⟨r1, r2⟩ := rowAt_sz h R hc (Nat.le_of_lt hi')
      have hm : cs[i] < ms.length := hc _ (List.getElem_mem _)
      have ha := row_times_ok (k := k) (t := t) hS r1 r2 (mat_sz h R hm) R.hd R.lt
      have i5 := ix_mats (S := S') hm
      refine ⟨[some C, some V, some (.lst (cs.map nI)), some (rowV t (rowAt f ms (cs.take i))), some (nI cs[i])], by simp [bindT], .inl ⟨[some C, some V, some (.lst (cs.map nI)), some (rowV false (rowAt f ms (cs.take (i + 1)))), some (nI cs[i])], S', .inl ?_, trivial, rfl, false, _, rfl⟩⟩
      rw [rowAt_take hi']
      generalize rowV false (timesQ (rowAt f ms (cs.take i)) (ms.getD cs[i] [])) = z at *
      generalize rowV t (rowAt f ms (cs.take i)) = y at *
      generalize matV (ms.getD cs[i] []) = x at *
      generalize nI cs[i] = w at *
      generalize matsV ms = u at *
      generalize PV.lst (cs.map nI) = cz at *
      simp -implicitDefEqProofs [bindT, i3, i5, ha, permP]) ⟨rfl, true, none, rfl⟩
  rcases hlp with ⟨r', S', e, rfl, tt, v3, rfl⟩ | ⟨_, _, _, h⟩
  · rw [List.length_map, List.take_length] at e
    obtain ⟨r1, r2⟩ := rowAt_sz h R hc (Nat.le_refl _)
    rw [List.take_length] at r1 r2
    have hd := sum_ok (k := k + 1) (t1 := tt) (t2 := true) hS (RowsOk.of (ys := l) r2 (fun y hy => (h.l y hy).sz h.D0 R.D1 R.N1) (Nat.le_of_eq r1) R.lt)
    have ei : evalI (CC (k + 3)) (.of (.var 2)) [some C, some V, some (.lst (cs.map nI)), some (rowV true f), none] S' = .ok (cs.map nI, none) S' := eI_ofL (by simp)
    have e0 : evalS (CC (k + 3)) (.asg (.name 3) (.bin .ix (.var 0) (.k (.int (2))))) [some C, some V, some (.lst (cs.map nI)), none, none] S' = .nx [some C, some V, some (.lst (cs.map nI)), some (rowV true f), none] S' := by
      generalize rowV true f = z at *
      generalize PV.lst (cs.map nI) = cz at *
      simp -implicitDefEqProofs [i2, bindT]
    rw [eSs_cons, e0, SRes.seq_nx, eSs_cons, eS_for, ei, Res.to_ok]
    dsimp only
    rw [e, SRes.seq_nx]
    unfold worthQ
    generalize PV.lst (cs.map nI) = cz at *
    generalize fr (dotQ (rowAt f ms cs) l) = z at *
    generalize rowV tt (rowAt f ms cs) = y at *
    generalize rowV true l = x at *
    simp -implicitDefEqProofs [i4, hd, permP]
  · exact h.elim
end Dg
end

section
set_option Elab.async false
set_option linter.all false
set_option maxRecDepth 100000
set_option maxHeartbeats 1000000
/-! A6: small values; when values are equal. -/
namespace Dg
open PySem L2
variable {S : Store}
def Sc (v : PV) : Prop := v = .non ∨ (∃ b, v = .bl b) ∨ ∃ i : Int, v = .int i ∧ i.natAbs ≤ 2 ^ 40
def Sm : Nat → PV → Prop
  | 0, v => Sc v
  | n + 1, v => Sc v ∨ ∃ xs, (v = .tup xs ∨ v = .lst xs) ∧ xs.length ≤ 1000 ∧ ∀ x ∈ xs, Sm n x
theorem Sm_succ {n : Nat} {v : PV} : Sm (n + 1) v = (Sc v ∨ ∃ xs, (v = .tup xs ∨ v = .lst xs) ∧ xs.length ≤ 1000 ∧ ∀ x ∈ xs, Sm n x) := by rw [Sm]
theorem Sm_of {n : Nat} {v : PV} (h : Sc v) : Sm n v := by
  cases n
  · exact h
  · rw [Sm_succ]; exact .inl h
theorem Sm_mono : ∀ {n m : Nat} {v : PV}, Sm n v → n ≤ m → Sm m v
  | 0, m, v, h, _ => Sm_of h
  | n + 1, 0, v, h, l => absurd l (by omega)
  | n + 1, m + 1, v, h, l => by
    rw [Sm_succ] at h ⊢
    rcases h with h | ⟨xs, e, hl, hx⟩
    · exact .inl h
    · exact .inr ⟨xs, e, hl, fun x q => Sm_mono (hx x q) (by omega)⟩
theorem Sm_non {n : Nat} : Sm n .non := Sm_of (.inl rfl)
theorem Sm_bl {n : Nat} {b : Bool} : Sm n (.bl b) := Sm_of (.inr (.inl ⟨_, rfl⟩))
theorem Sm_int {n : Nat} {i : Int} (h : i.natAbs ≤ 2 ^ 40) : Sm n (.int i) := Sm_of (.inr (.inr ⟨_, rfl, h⟩))
theorem Sm_tup {n : Nat} {xs : List PV} (hl : xs.length ≤ 1000) (h : ∀ x ∈ xs, Sm n x) : Sm (n + 1) (.tup xs) := by rw [Sm_succ]; exact .inr ⟨xs, .inl rfl, hl, h⟩
theorem Sm_lst {n : Nat} {xs : List PV} (hl : xs.length ≤ 1000) (h : ∀ x ∈ xs, Sm n x) : Sm (n + 1) (.lst xs) := by rw [Sm_succ]; exact .inr ⟨xs, .inr rfl, hl, h⟩
theorem Sm_map {n : Nat} {α : Type} {g : α → PV} {xs : List α} (h : ∀ x ∈ xs, Sm n (g x)) : ∀ y ∈ xs.map g, Sm n y := by
  intro y hy
  obtain ⟨x, hx, rfl⟩ := List.mem_map.mp hy
  exact h x hx
/-- what a tuple's items are -/
theorem Sm.items {n : Nat} {xs : List PV} (h : Sm (n + 1) (.tup xs)) : xs.length ≤ 1000 ∧ ∀ x ∈ xs, Sm n x := by
  rw [Sm_succ] at h
  rcases h with h | ⟨ys, e, hl, hx⟩
  · rcases h with h | ⟨_, h⟩ | ⟨_, h, _⟩ <;> cases h
  · rcases e with e | e <;> cases e
    exact ⟨hl, hx⟩
theorem Sm.itemsL {n : Nat} {xs : List PV} (h : Sm (n + 1) (.lst xs)) : xs.length ≤ 1000 ∧ ∀ x ∈ xs, Sm n x := by
  rw [Sm_succ] at h
  rcases h with h | ⟨ys, e, hl, hx⟩
  · rcases h with h | ⟨_, h⟩ | ⟨_, h, _⟩ <;> cases h
  · rcases e with e | e <;> cases e
    exact ⟨hl, hx⟩
theorem Sm.int {n : Nat} {i : Int} (h : Sm n (.int i)) : i.natAbs ≤ 2 ^ 40 := by
  have key : Sc (.int i) := by
    cases n
    · exact h
    · rw [Sm_succ] at h
      rcases h with h | ⟨ys, e, hl, hx⟩
      · exact h
      · rcases e with e | e <;> cases e
  rcases key with h | ⟨_, h⟩ | ⟨_, h, b⟩
  · cases h
  · cases h
  · cases h; exact b
/-- a value's kinds -/
theorem Sm.kinds {n : Nat} {v : PV} (h : Sm n v) : v = .non ∨ (∃ b, v = .bl b) ∨ (∃ i, v = .int i) ∨ (∃ xs, v = .tup xs) ∨ ∃ xs, v = .lst xs := by
  have sc : ∀ {v}, Sc v → v = .non ∨ (∃ b, v = .bl b) ∨ (∃ i, v = .int i) ∨ (∃ xs, v = .tup xs) ∨ ∃ xs, v = .lst xs := fun h => by
    rcases h with h | ⟨b, h⟩ | ⟨i, h, _⟩
    · exact .inl h
    · exact .inr (.inl ⟨b, h⟩)
    · exact .inr (.inr (.inl ⟨i, h⟩))
  cases n
  · exact sc h
  · rw [Sm_succ] at h
    rcases h with h | ⟨xs, e | e, _⟩
    · exact sc h
    · exact .inr (.inr (.inr (.inl ⟨xs, e⟩)))
    · exact .inr (.inr (.inr (.inr ⟨xs, e⟩)))
theorem Sm.ok {n : Nat} {v : PV} (h : Sm n v) : okW v := by
  rcases h.kinds with rfl | ⟨_, rfl⟩ | ⟨_, rfl⟩ | ⟨_, rfl⟩ | ⟨_, rfl⟩ <;> trivial
theorem belows_of {n : Nat} : ∀ {xs : List PV}, (∀ x ∈ xs, below n x = true) → belows n xs = true
  | [], _ => rfl
  | x :: xs, h => by rw [belows, h x (List.mem_cons_self ..), belows_of fun y hy => h y (List.mem_cons_of_mem _ hy)]; rfl
theorem Sm.below : ∀ {n m : Nat} {v : PV}, Sm n v → below m v = true
  | 0, m, v, h => by rcases h with rfl | ⟨_, rfl⟩ | ⟨_, rfl, _⟩ <;> rfl
  | n + 1, m, v, h => by
    rw [Sm_succ] at h
    rcases h with h | ⟨xs, e, hl, hx⟩
    · rcases h with rfl | ⟨_, rfl⟩ | ⟨_, rfl, _⟩ <;> rfl
    · rcases e with rfl | rfl <;> (rw [Dg.below]; exact belows_of fun x q => Sm.below (hx x q))
theorem Sm.lk : ∀ {n : Nat} {v : PV}, Sm n v → Lk n v
  | 0, v, h => by
    rw [Lk_zero]
    rcases h with h | h | ⟨i, h, _⟩
    · exact .inl h
    · exact .inr (.inl h)
    · exact .inr (.inr (.inl ⟨i, h⟩))
  | n + 1, v, h => by
    rw [Sm_succ] at h
    rcases h with h | ⟨xs, e, hl, hx⟩
    · refine Lk_lift ?_
      rw [Lk_zero]
      rcases h with h | h | ⟨i, h, _⟩
      · exact .inl h
      · exact .inr (.inl h)
      · exact .inr (.inr (.inl ⟨i, h⟩))
    · rw [Lk_succ]
      exact .inr ⟨xs, e, by omega, fun x q => Sm.lk (hx x q)⟩
/-- .. as data -/
def DOk (S : Store) (n : Nat) (v : PV) : Prop := ∃ d, toD S v = some d ∧ d.canLay0 = true ∧ d.depth ≤ n
theorem DOks {n : Nat} : ∀ {xs : List PV}, (∀ x ∈ xs, DOk S n x) → ∃ ds, toDs S xs = some ds ∧ PyData.canLayAll0 ds = true ∧ PyData.depthAll ds ≤ n
  | [], _ => ⟨[], by rw [toDs], rfl, by rw [PyData.depthAll]; omega⟩
  | x :: xs, h => by
    obtain ⟨d, h1, h2, h3⟩ := h x (List.mem_cons_self ..)
    obtain ⟨ds, k1, k2, k3⟩ := DOks (xs := xs) fun y hy => h y (List.mem_cons_of_mem _ hy)
    refine ⟨d :: ds, by rw [toDs, h1, k1], by rw [PyData.canLayAll0, h2, k2]; rfl, by rw [PyData.depthAll]; omega⟩
theorem Sc.d {n : Nat} {v : PV} (h : Sc v) : DOk S n v := by
  rcases h with rfl | ⟨_, rfl⟩ | ⟨_, rfl, _⟩
  · exact ⟨.none, by rw [toD], rfl, by rw [PyData.depth] <;> simp⟩
  · exact ⟨.bool _, by rw [toD], rfl, by rw [PyData.depth] <;> simp⟩
  · exact ⟨.int _, by rw [toD], rfl, by rw [PyData.depth] <;> simp⟩
theorem Sm.d : ∀ {n : Nat} {v : PV}, Sm n v → DOk S n v
  | 0, v, h => Sc.d h
  | n + 1, v, h => by
    rw [Sm_succ] at h
    rcases h with h | ⟨xs, e, hl, hx⟩
    · exact h.d
    · obtain ⟨ds, k1, k2, k3⟩ := DOks (S := S) (n := n) fun x q => Sm.d (hx x q)
      rcases e with rfl | rfl
      · exact ⟨.tuple ds, by rw [toD, k1]; rfl, by rw [PyData.canLay0]; exact k2, by rw [PyData.depth]; omega⟩
      · exact ⟨.list ds, by rw [toD, k1]; rfl, by rw [PyData.canLay0]; exact k2, by rw [PyData.depth]; omega⟩
theorem toD1_of {v : PV} {d : PyData} (h : toD S v = some d) : toD1 S v = some d := by
  cases v <;> first | exact h | (rw [toD] at h; cases h)
theorem shaped_of {d : PyData} {n : Nat} (h1 : d.canLay0 = true) (h2 : d.depth ≤ n) (h3 : n ≤ 64) : SeqAt.shaped d = true := by
  unfold SeqAt.shaped
  rw [h1]
  simp; omega
theorem eqD_of {neg : Bool} {x y : PV} {d e : PyData} (hs : scalP x y = false) (h1 : toD S x = some d) (h2 : toD S y = some e) (s1 : SeqAt.shaped d = true) (s2 : SeqAt.shaped e = true) : eqD neg x y S = .ok (.bl (if neg = true then !PyData.eqv d e else PyData.eqv d e)) S := by
  unfold eqD
  rw [if_neg (by rw [hs]; exact Bool.false_ne_true), toD1_of h1, toD1_of h2]
  dsimp only
  rw [if_pos ⟨s1, s2⟩]
  rfl
theorem eq_refl_ok {n : Nat} {v : PV} (h : Sm n v) (hn : n ≤ 64) : op2 .eq v v S = .ok (.bl true) S := by
  show eqD false v v S = _
  obtain ⟨d, h1, h2, h3⟩ := h.d (S := S)
  by_cases s : scalP v v = true
  · have e : decP v v = true := by
      rcases h.kinds with rfl | ⟨_, rfl⟩ | ⟨_, rfl⟩ | ⟨_, rfl⟩ | ⟨_, rfl⟩
      · rfl
      · simp [decP]
      · simp [decP]
      · exact absurd s (by simp [scalP])
      · exact absurd s (by simp [scalP])
    unfold eqD
    rw [if_pos s, if_neg Bool.false_ne_true, e]
    rfl
  · have sh := shaped_of h2 h3 hn
    rw [eqD_of (by simpa using s) h1 h1 sh sh, if_neg Bool.false_ne_true, SeqAt.eqv_refl d h2]
theorem ne_nil_any {n : Nat} {x : PV} (h : Sm n x) (hn : n ≤ 60) : op2 .ne (.tup [x]) (.tup []) S = .ok (.bl true) S := by
  obtain ⟨d, h1, h2, h3⟩ := h.d (S := S)
  exact ne_nil_one h1 (shaped_of (n := n + 1) (by rw [PyData.canLay0, PyData.canLayAll0, h2]; rfl) (by rw [PyData.depth, PyData.depthAll, PyData.depthAll]; omega) (by omega))
/-! ### fractions -/
def frD (q : Rat) : PyData := .tuple [.int q.num, .int q.den]
theorem toD_fr {q : Rat} : toD S (fr q) = some (frD q) := by
  unfold fr frD
  rw [toD, toDs, toD, toDs, toD, toDs]
  rfl
theorem eqv_fr {a b : Rat} : PyData.eqv (frD a) (frD b) = (a == b) := by
  unfold frD
  rw [PyData.eqv, PyData.eqvAll, PyData.eqvAll, PyData.eqvAll, PyData.eqv, PyData.eqv]
  rw [Bool.eq_iff_iff]
  simp only [Bool.and_eq_true, beq_iff_eq, and_true]
  constructor
  · rintro ⟨h1, h2⟩
    exact Rat.ext h1 (by omega)
  · rintro rfl
    exact ⟨rfl, rfl⟩
theorem can_fr {q : Rat} : (frD q).canLay0 = true := rfl
theorem dep_fr {q : Rat} : (frD q).depth ≤ 1 := by
  unfold frD
  rw [PyData.depth, PyData.depthAll, PyData.depthAll, PyData.depthAll, PyData.depth, PyData.depth] <;> simp
theorem ne_fr {a b : Rat} : op2 .ne (fr a) (fr b) S = .ok (.bl (!(a == b))) S := by
  show eqD true (fr a) (fr b) S = _
  rw [eqD_of rfl toD_fr toD_fr (shaped_of can_fr dep_fr (by omega)) (shaped_of can_fr dep_fr (by omega)), if_pos rfl, eqv_fr]
theorem eqvAll_frs : ∀ {xs ys : List Rat}, PyData.eqvAll (xs.map frD) (ys.map frD) = (xs == ys)
  | [], [] => rfl
  | [], _ :: _ => rfl
  | _ :: _, [] => rfl
  | x :: xs, y :: ys => by
    rw [List.map_cons, List.map_cons, PyData.eqvAll, eqv_fr, eqvAll_frs]
    rfl
theorem ne_frs {xs ys : List Rat} : op2 .ne (rowV false xs) (rowV false ys) S = .ok (.bl (!(xs == ys))) S := by
  show eqD true (.lst (xs.map fr)) (.lst (ys.map fr)) S = _
  have t : ∀ {zs : List Rat}, toD S (.lst (zs.map fr)) = some (.list (zs.map frD)) := by
    intro zs
    rw [toD, toDs_map (d := frD) fun q => toD_fr]
    rfl
  have s : ∀ {zs : List Rat}, SeqAt.shaped (.list (zs.map frD)) = true := by
    intro zs
    refine shaped_of (n := 2) ?_ ?_ (by omega)
    · rw [PyData.canLay0]; exact canAll_map fun q => can_fr
    · rw [PyData.depth]
      have := depthAll_map (n := 1) (d := frD) (xs := zs) fun q => dep_fr
      omega
  rw [eqD_of rfl t t s s, if_pos rfl, PyData.eqv, eqvAll_frs]
end Dg
end

section
set_option Elab.async false
set_option linter.all false
set_option maxRecDepth 100000
set_option maxHeartbeats 1000000
/-! A7: fractions and rows of fractions judged. -/
namespace Dg
open PySem L2
variable {S : Store}
def isFrB : PV → Bool
  | .tup [.int n, .int d] => decide (1 ≤ d) && (Int.gcd n d == 1)
  | _ => false
theorem isFrB_fr {q : Rat} : isFrB (fr q) = true := by
  have := den_pos q
  have r := q.reduced
  unfold isFrB fr
  have e : Int.gcd q.num q.den = 1 := by
    unfold Int.gcd
    rw [Int.natAbs_natCast]; exact r
  simp only [e]
  simp; omega
theorem isFrB_of {v : PV} (h : isFrB v = true) : ∃ q, v = fr q := by
  unfold isFrB at h
  split at h
  · rename_i n d
    simp only [Bool.and_eq_true, decide_eq_true_eq, beq_iff_eq] at h
    obtain ⟨h1, h2⟩ := h
    refine ⟨⟨n, d.toNat, by omega, ?_⟩, ?_⟩
    · have e : d.natAbs = d.toNat := by omega
      unfold Int.gcd at h2
      rw [e] at h2
      exact h2
    · unfold fr
      have : ((d.toNat : Nat) : Int) = d := by omega
      rw [this]
  · cases h
theorem Sm.fr {n : Nat} {q : Rat} (h : Sm (n + 1) (fr q)) : Sz 40 q := by
  obtain ⟨_, hx⟩ := Sm.items (xs := [.int q.num, .int (q.den : Int)]) h
  have h1 := (hx (.int q.num) (by simp)).int
  have h2 := (hx (.int (q.den : Int)) (by simp)).int
  rw [Int.natAbs_natCast] at h2
  exact ⟨h1, h2⟩
theorem Sm_fr {n : Nat} {q : Rat} (h : Sz 40 q) : Sm (n + 1) (Dg.fr q) := by
  refine Sm_tup (by simp) fun x hx => ?_
  simp only [List.mem_cons, List.not_mem_nil, or_false] at hx
  rcases hx with rfl | rfl
  · exact Sm_int h.1
  · exact Sm_int (by rw [Int.natAbs_natCast]; exact h.2)
theorem ix2_0 {a b : PV} : op2 .ix (.tup [a, b]) (.int 0) S = .ok a S := rfl
theorem ix2_1 {a b : PV} : op2 .ix (.tup [a, b]) (.int 1) S = .ok b S := rfl
theorem is_ratio_ok {k n : Nat} {v : PV} (hS : Wf S) (h : Sm n v) : GG (k + 2) 5 [v] S = .ok (.bl (isFrB v)) S := by
  rw [show GG (k + 2) 5 [v] S = _ from Gp_succ (k := k + 1) (d := d_is_ratio) rfl]
  refine evalD_ret hS ?_ rfl
  show evalSs (CC (k + 1)) m_is_ratio [some v] S = _
  unfold m_is_ratio
  have hr := is_row_ok (k := k) (v := v) (m := .int 2) hS h.ok (.inr ⟨2, rfl⟩)
  have no : isRw v (.int 2) = false → isFrB v = false → evalSs (CC (k + 1)) m_is_ratio [some v] S = .ret (.bl (isFrB v)) S := fun h1 h2 => by
    unfold m_is_ratio
    rw [h1] at hr
    rw [h2]
    simp [hr, permP]
  by_cases q : ∃ x y, v = .tup [x, y]
  · obtain ⟨x, y, rfl⟩ := q
    obtain ⟨m, rfl⟩ : ∃ m, n = m + 1 := by
      cases n with
      | zero => rcases h with h | ⟨_, h⟩ | ⟨_, h, _⟩ <;> cases h
      | succ m => exact ⟨m, rfl⟩
    obtain ⟨_, hx⟩ := h.items
    have sx := hx x (by simp)
    have sy := hx y (by simp)
    have hw := is_whole_ok (k := k) (v := y) (m := .non) (l := 1) hS sy.ok (.inl rfl)
    have e : isRw (.tup [x, y]) (.int 2) = true := rfl
    rw [e] at hr
    rcases sy.kinds with rfl | ⟨_, rfl⟩ | ⟨d, rfl⟩ | ⟨_, rfl⟩ | ⟨_, rfl⟩
    · simp [hr, hw, permP, ix2_0, ix2_1, isWh, isFrB]
    · simp [hr, hw, permP, ix2_0, ix2_1, isWh, isFrB]
    · rcases sx.kinds with rfl | ⟨_, rfl⟩ | ⟨i, rfl⟩ | ⟨_, rfl⟩ | ⟨_, rfl⟩
      · by_cases z : 1 ≤ d <;> simp [hr, hw, permP, ix2_0, ix2_1, isWh, isFrB, z]
      · by_cases z : 1 ≤ d <;> simp [hr, hw, permP, ix2_0, ix2_1, isWh, isFrB, z]
      · have eg := opn_gcd (S := S) (a := i) (b := d)
        have e2 : ((Int.gcd i d : Int) == 1) = (Int.gcd i d == 1) := by
          rw [Bool.eq_iff_iff]; simp; omega
        by_cases z : 1 ≤ d
        · simp only [isFrB]
          rw [← e2]
          generalize (Int.gcd i d : Int) = g at *
          simp [hr, hw, permP, ix2_0, ix2_1, isWh, z, eg]
        · simp [hr, hw, permP, ix2_0, ix2_1, isWh, isFrB, z]
      · by_cases z : 1 ≤ d <;> simp [hr, hw, permP, ix2_0, ix2_1, isWh, isFrB, z]
      · by_cases z : 1 ≤ d <;> simp [hr, hw, permP, ix2_0, ix2_1, isWh, isFrB, z]
    · simp [hr, hw, permP, ix2_0, ix2_1, isWh, isFrB]
    · simp [hr, hw, permP, ix2_0, ix2_1, isWh, isFrB]
  · refine no ?_ ?_
    · cases v with
      | tup xs =>
        unfold isRw
        rcases xs with _ | ⟨x, _ | ⟨y, _ | ⟨z, r⟩⟩⟩
        · rfl
        · rfl
        · exact absurd ⟨x, y, rfl⟩ q
        · simp; omega
      | _ => rfl
    · unfold isFrB
      split
      · exact absurd ⟨_, _, rfl⟩ q
      · rfl
theorem law_whole_ok {k : Nat} {v : PV} {l m : Int} (hS : Wf S) (hv : okW v) : GG (k + 1) 37 [v, .int l, .int m] S = .ok (.bl (isWh v l (.int m))) S := by
  rw [show GG (k + 1) 37 [v, .int l, .int m] S = _ from Gp_succ (d := d__law_whole) rfl]
  refine evalD_ret hS ?_ rfl
  show evalSs (CC k) m__law_whole [some v, some (.int l), some (.int m)] S = _
  unfold m__law_whole
  cases v <;> simp [okW] at hv ⊢ <;> simp [isWh]
  · split <;> simp_all
    omega
theorem pow_ten : op2 .pow (.int 10) (.int 40) S = .ok (.int (10 ^ 40)) S := by
  show (okI (CPow 10 40) ((10 : Int) ^ (40 : Int).toNat) S : Res PV) = _
  unfold okI
  rw [if_pos (by unfold CPow; decide +kernel)]
  rfl
theorem big_ten : (2 : Int) ^ 40 ≤ 10 ^ 40 := by decide +kernel
theorem nat40 {i : Int} (h : i.natAbs ≤ 2 ^ 40) : -(10 : Int) ^ 40 ≤ i ∧ i ≤ 10 ^ 40 := by
  have h2 : (i.natAbs : Int) ≤ 2 ^ 40 := by exact_mod_cast h
  have := big_ten
  omega
theorem isWh_tight {v : PV} {n : Nat} (h : Sm n v) : isWh v 1 (.int (10 ^ 40)) = isWh v 1 .non ∧ (isWh v (0 - 10 ^ 40) (.int (10 ^ 40)) = match v with
    | .int _ => true
    | _ => false) := by
  cases v with
  | int i =>
    have := nat40 h.int
    unfold isWh
    constructor
    · have : decide (i ≤ 10 ^ 40) = true := by simpa using this.2
      simp only [this]
    · have h1 : decide (i ≤ 10 ^ 40) = true := by simpa using this.2
      have h2 : decide ((0 : Int) - 10 ^ 40 ≤ i) = true := by
        rw [Int.zero_sub]; simpa using this.1
      simp only [h1, h2]; rfl
  | _ => exact ⟨rfl, rfl⟩
theorem is_fraction_ok {k n : Nat} {v : PV} (hS : Wf S) (h : Sm n v) : GG (k + 2) 38 [v] S = .ok (.bl (isFrB v)) S := by
  rw [show GG (k + 2) 38 [v] S = _ from Gp_succ (k := k + 1) (d := d__law_is_fraction) rfl]
  refine evalD_ret hS ?_ rfl
  show evalSs (CC (k + 1)) m__law_is_fraction [some v] S = _
  unfold m__law_is_fraction
  have hp := pow_ten (S := S)
  by_cases q : ∃ x y, v = .tup [x, y]
  · obtain ⟨x, y, rfl⟩ := q
    obtain ⟨m, rfl⟩ : ∃ m, n = m + 1 := by
      cases n with
      | zero => rcases h with h | ⟨_, h⟩ | ⟨_, h, _⟩ <;> cases h
      | succ m => exact ⟨m, rfl⟩
    obtain ⟨_, hx⟩ := h.items
    have sx := hx x (by simp)
    have sy := hx y (by simp)
    have hw := law_whole_ok (k := k) (v := y) (m := 10 ^ 40) (l := 1) hS sy.ok
    have hu := law_whole_ok (k := k) (v := x) (m := 10 ^ 40) (l := 0 - 10 ^ 40) hS sx.ok
    rw [(isWh_tight sy).1] at hw
    rw [(isWh_tight sx).2, Int.zero_sub] at hu
    generalize (10 : Int) ^ 40 = T at *
    rcases sx.kinds with rfl | ⟨_, rfl⟩ | ⟨i, rfl⟩ | ⟨_, rfl⟩ | ⟨_, rfl⟩
    · simp [hp, hu, permP, ix2_0, ix2_1, isFrB]
    · simp [hp, hu, permP, ix2_0, ix2_1, isFrB]
    · rcases sy.kinds with rfl | ⟨_, rfl⟩ | ⟨d, rfl⟩ | ⟨_, rfl⟩ | ⟨_, rfl⟩
      · simp [hp, hw, hu, permP, ix2_0, ix2_1, isWh, isFrB]
      · simp [hp, hw, hu, permP, ix2_0, ix2_1, isWh, isFrB]
      · have eg := law_gcd_ok (k := k) (a := i) (b := d) hS
        have e2 : ((Int.gcd i d : Int) == 1) = (Int.gcd i d == 1) := by
          rw [Bool.eq_iff_iff]; simp; omega
        by_cases z : 1 ≤ d
        · simp only [isFrB]
          rw [← e2]
          generalize (Int.gcd i d : Int) = g at *
          simp [hp, hu, hw, permP, ix2_0, ix2_1, isWh, z, eg]
        · simp [hp, hu, hw, permP, ix2_0, ix2_1, isWh, isFrB, z]
      · simp [hp, hw, hu, permP, ix2_0, ix2_1, isWh, isFrB]
      · simp [hp, hw, hu, permP, ix2_0, ix2_1, isWh, isFrB]
    · simp [hp, hu, permP, ix2_0, ix2_1, isFrB]
    · simp [hp, hu, permP, ix2_0, ix2_1, isFrB]
  · have e : isFrB v = false := by
      unfold isFrB
      split
      · exact absurd ⟨_, _, rfl⟩ q
      · rfl
    rw [e]
    rcases h.kinds with rfl | ⟨_, rfl⟩ | ⟨i, rfl⟩ | ⟨xs, rfl⟩ | ⟨_, rfl⟩
    · simp
    · simp
    · simp
    · have hl : ((xs.length : Int) == 2) = false := by
        rcases xs with _ | ⟨x, _ | ⟨y, _ | ⟨z, r⟩⟩⟩
        · rfl
        · rfl
        · exact absurd ⟨x, y, rfl⟩ q
        · simp; omega
      simp [hl]
    · simp
/-! ### rows -/
def areFrB (v : PV) (d : Nat) : Bool := match v with
  | .tup xs => ((xs.length : Int) == (d : Int)) && xs.all isFrB
  | _ => false
theorem areFrB_of {v : PV} {d : Nat} (h : areFrB v d = true) : ∃ qs : List Rat, v = rowV true qs ∧ qs.length = d := by
  unfold areFrB at h
  split at h
  · rename_i xs
    simp only [Bool.and_eq_true, List.all_eq_true, beq_iff_eq] at h
    obtain ⟨h1, h2⟩ := h
    have key : ∀ xs : List PV, (∀ x ∈ xs, isFrB x = true) → ∃ qs : List Rat, xs = qs.map fr := by
      intro xs
      induction xs with
      | nil => intro _; exact ⟨[], rfl⟩
      | cons x xs ih =>
        intro hx
        obtain ⟨q, rfl⟩ := isFrB_of (hx x (List.mem_cons_self ..))
        obtain ⟨qs, rfl⟩ := ih fun y hy => hx y (List.mem_cons_of_mem _ hy)
        exact ⟨q :: qs, rfl⟩
    obtain ⟨qs, rfl⟩ := key xs h2
    refine ⟨qs, rfl, ?_⟩
    rw [List.length_map] at h1
    omega
  · cases h
theorem areFrB_row {qs : List Rat} : areFrB (rowV true qs) qs.length = true := by
  show (((qs.map fr).length : Int) == (qs.length : Int) && (qs.map fr).all isFrB) = true
  rw [List.length_map]
  simp only [beq_self_eq_true, Bool.true_and, List.all_eq_true]
  intro x hx
  obtain ⟨q, _, rfl⟩ := List.mem_map.mp hx
  exact isFrB_fr
theorem are_ratios_ok {k n d : Nat} {v : PV} (hS : Wf S) (h : Sm (n + 1) v) : GG (k + 3) 7 [v, .int (d : Int)] S = .ok (.bl (areFrB v d)) S := by
  rw [show GG (k + 3) 7 [v, .int (d : Int)] S = _ from Gp_succ (k := k + 2) (d := d_are_ratios) rfl]
  refine evalD_ret hS ?_ rfl
  show evalSs (CC (k + 2)) m_are_ratios [some v, some (.int (d : Int)), none, none] S = _
  unfold m_are_ratios
  have hr := is_row_ok (k := k + 1) (v := v) (m := .int (d : Int)) hS h.ok (.inr ⟨_, rfl⟩)
  rcases h.kinds with rfl | ⟨_, rfl⟩ | ⟨i, rfl⟩ | ⟨xs, rfl⟩ | ⟨_, rfl⟩
  · simp [hr, permP, isRw, areFrB]
  · simp [hr, permP, isRw, areFrB]
  · simp [hr, permP, isRw, areFrB]
  · obtain ⟨hl, hx⟩ := h.items
    have hc := comp_A (C := CC (k + 2)) (S := S) (own := [2, 3]) (t := .name 3) (it := .of (.var 0)) (r := [some (.tup xs), some (.int (d : Int)), none, none]) (e := .call 5 [(.inl 0)] (.cons (.var 3) .nil)) (as := xs) (g := id) (h := fun x => .bl (isFrB x)) (eI_ofT (by simp)) (by
      have : sizeLine = 16777216 := rfl
      omega) (fun x q => by
      have := is_ratio_ok (k := k) hS (hx x q)
      unfold turnF
      simp [bindT, wipeP, this, permP])
    have ha := all_p (S := S) (p := isFrB) (xs := xs)
    have hr' : GG (k + 1 + 1) 1 [.tup xs, .int (d : Int)] S = .ok (.bl ((xs.length : Int) == (d : Int))) S := hr
    cases q : ((xs.length : Int) == (d : Int)) with
    | false =>
      rw [q] at hr'
      simp [hr', permP, areFrB, q]
    | true =>
      rw [q] at hr'
      simp only [areFrB, q, Bool.true_and]
      generalize (xs.map fun x => PV.bl (isFrB x)) = ys at *
      simp -implicitDefEqProofs [hr', permP, hc, ha]
  · simp [hr, permP, isRw, areFrB]
theorem eq_nilL {xs : List Int} {S : Store} : op2 .eq (.lst (xs.map PV.int)) (.lst []) S = .ok (.bl xs.isEmpty) S := by
  show eqD false (.lst (xs.map PV.int)) (.lst []) S = _
  have e1 : toD S (.lst (xs.map PV.int)) = some (.list (xs.map PyData.int)) := by
    rw [toD, toDs_map (d := PyData.int) (fun x => by rw [toD])]; rfl
  have e2 : toD S (.lst []) = some (.list []) := by
    rw [toD, toDs]; rfl
  have s1 : SeqAt.shaped (.list (xs.map PyData.int)) = true := by
    refine shaped_of (n := 1) ?_ ?_ (by omega)
    · rw [PyData.canLay0]; exact canAll_map fun q => rfl
    · rw [PyData.depth]
      have := depthAll_map (n := 0) (d := PyData.int) (xs := xs) fun q => by rw [PyData.depth] <;> simp
      omega
  rw [eqD_of rfl e1 e2 s1 (by decide +kernel), if_neg Bool.false_ne_true]
  cases xs with
  | nil => rfl
  | cons a b => rfl
theorem eq_ones {α : Type} {xs : List α} {S : Store} : op2 .eq (.lst (xs.map fun _ => PV.int 1)) (.lst []) S = .ok (.bl xs.isEmpty) S := by
  have := eq_nilL (xs := xs.map fun _ => (1 : Int)) (S := S)
  rw [List.map_map] at this
  have e : (xs.map fun _ => (1 : Int)).isEmpty = xs.isEmpty := by cases xs <;> rfl
  rw [e] at this
  exact this
theorem filter_all {α : Type} {p : α → Bool} : ∀ {xs : List α}, (xs.filter fun x => !p x).isEmpty = xs.all p
  | [] => rfl
  | x :: xs => by
    rw [List.all_cons, List.filter_cons]
    cases q : p x
    · rfl
    · rw [Bool.true_and]; exact filter_all
theorem are_fractions_ok {k n d : Nat} {v : PV} (hS : Wf S) (h : Sm (n + 1) v) : GG (k + 3) 39 [v, .int (d : Int)] S = .ok (.bl (areFrB v d)) S := by
  rw [show GG (k + 3) 39 [v, .int (d : Int)] S = _ from Gp_succ (k := k + 2) (d := d__law_are_fractions) rfl]
  refine evalD_ret hS ?_ rfl
  show evalSs (CC (k + 2)) m__law_are_fractions [some v, some (.int (d : Int)), none, none] S = _
  unfold m__law_are_fractions
  rcases h.kinds with rfl | ⟨_, rfl⟩ | ⟨i, rfl⟩ | ⟨xs, rfl⟩ | ⟨_, rfl⟩
  · simp [areFrB]
  · simp [areFrB]
  · simp [areFrB]
  · obtain ⟨hl, hx⟩ := h.items
    have hc := comp_F (C := CC (k + 2)) (S := S) (own := [2, 3]) (t := .name 3) (it := .of (.var 0)) (cn := .some (.not_ (.call 38 [(.inl 0)] (.cons (.var 3) .nil)))) (r := [some (.tup xs), some (.int (d : Int)), none, none]) (e := .k (.int (1))) (as := xs) (g := id) (p := fun x => !isFrB x) (h := fun x => .int 1) (by rw [List.map_id]; exact eI_ofT (by simp)) (by
      have : sizeLine = 16777216 := rfl
      omega) (fun x q => by
      have := is_fraction_ok (k := k) hS (hx x q)
      unfold turnF
      cases z : isFrB x <;> simp [bindT, wipeP, this, permP, z])
    have ha := eq_ones (S := S) (xs := xs.filter fun x => !isFrB x)
    rw [filter_all] at ha
    cases q : ((xs.length : Int) == (d : Int)) with
    | false => simp [areFrB, q]
    | true =>
      simp only [areFrB, q, Bool.true_and]
      generalize ((xs.filter fun x => !isFrB x).map fun x => PV.int 1) = ys at *
      simp -implicitDefEqProofs [q, permP, hc, ha, sizeLine]
  · simp [areFrB]
def matB (v : PV) (d : Nat) : Bool := match v with
  | .tup xs => ((xs.length : Int) == (d : Int)) && xs.all fun l => areFrB l d
  | _ => false
theorem matB_of {v : PV} {d : Nat} (h : matB v d = true) : ∃ M : Mat, v = matV M ∧ M.length = d ∧ ∀ line ∈ M, line.length = d := by
  unfold matB at h
  split at h
  · rename_i xs
    simp only [Bool.and_eq_true, List.all_eq_true, beq_iff_eq] at h
    obtain ⟨h1, h2⟩ := h
    have key : ∀ xs : List PV, (∀ x ∈ xs, areFrB x d = true) → ∃ M : Mat, xs = M.map (rowV true) ∧ ∀ line ∈ M, line.length = d := by
      intro xs
      induction xs with
      | nil => intro _; exact ⟨[], rfl, by simp⟩
      | cons x xs ih =>
        intro hx
        obtain ⟨q, rfl, hq⟩ := areFrB_of (hx x (List.mem_cons_self ..))
        obtain ⟨qs, rfl, hqs⟩ := ih fun y hy => hx y (List.mem_cons_of_mem _ hy)
        refine ⟨q :: qs, rfl, fun line hl => ?_⟩
        rcases List.mem_cons.mp hl with rfl | hl
        · exact hq
        · exact hqs line hl
    obtain ⟨M, rfl, hM⟩ := key xs h2
    refine ⟨M, rfl, ?_, hM⟩
    rw [List.length_map] at h1
    omega
  · cases h
theorem matB_mat {M : Mat} {d : Nat} (h1 : M.length = d) (h2 : ∀ line ∈ M, line.length = d) : matB (matV M) d = true := by
  show (((M.map (rowV true)).length : Int) == (d : Int) && (M.map (rowV true)).all fun l => areFrB l d) = true
  rw [List.length_map, h1]
  simp only [beq_self_eq_true, Bool.true_and, List.all_eq_true]
  intro x hx
  obtain ⟨q, hq, rfl⟩ := List.mem_map.mp hx
  have := areFrB_row (qs := q)
  rwa [h2 q hq] at this
theorem is_matrix_ok {k n d : Nat} {v : PV} (hS : Wf S) (h : Sm (n + 2) v) : GG (k + 4) 15 [v, .int (d : Int)] S = .ok (.bl (matB v d)) S := by
  rw [show GG (k + 4) 15 [v, .int (d : Int)] S = _ from Gp_succ (k := k + 3) (d := d_is_matrix) rfl]
  refine evalD_ret hS ?_ rfl
  show evalSs (CC (k + 3)) m_is_matrix [some v, some (.int (d : Int)), none, none] S = _
  unfold m_is_matrix
  have hr := is_row_ok (k := k + 2) (v := v) (m := .int (d : Int)) hS h.ok (.inr ⟨_, rfl⟩)
  rcases h.kinds with rfl | ⟨_, rfl⟩ | ⟨i, rfl⟩ | ⟨xs, rfl⟩ | ⟨_, rfl⟩
  · simp [hr, permP, isRw, matB]
  · simp [hr, permP, isRw, matB]
  · simp [hr, permP, isRw, matB]
  · obtain ⟨hl, hx⟩ := h.items
    have hc := comp_A (C := CC (k + 3)) (S := S) (own := [2, 3]) (t := .name 3) (it := .of (.var 0)) (r := [some (.tup xs), some (.int (d : Int)), none, none]) (e := .call 7 [(.inl 0), (.inl 1)] (.cons (.var 3) (.cons (.var 1) .nil))) (as := xs) (g := id) (h := fun x => .bl (areFrB x d)) (eI_ofT (by simp)) (by
      have : sizeLine = 16777216 := rfl
      omega) (fun x q => by
      have := are_ratios_ok (k := k) (d := d) hS (hx x q)
      unfold turnF
      simp [bindT, wipeP, this, permP])
    have ha := all_p (S := S) (p := fun x => areFrB x d) (xs := xs)
    have hr' : GG (k + 2 + 1) 1 [.tup xs, .int (d : Int)] S = .ok (.bl ((xs.length : Int) == (d : Int))) S := hr
    cases q : ((xs.length : Int) == (d : Int)) with
    | false =>
      rw [q] at hr'
      simp [hr', permP, matB, q]
    | true =>
      rw [q] at hr'
      simp only [matB, q, Bool.true_and]
      generalize (xs.map fun x => PV.bl (areFrB x d)) = ys at *
      simp -implicitDefEqProofs [hr', permP, hc, ha]
  · simp [hr, permP, isRw, matB]
end Dg
end

section
set_option Elab.async false
set_option linter.all false
set_option maxRecDepth 100000
set_option maxHeartbeats 1000000
/-! A8: the form of a counting. -/
namespace Dg
open PySem L2
variable {S : Store}
theorem isWh_iff {v : PV} {l m : Int} : isWh v l (.int m) = true ↔ ∃ i, v = .int i ∧ l ≤ i ∧ i ≤ m := by
  cases v <;> simp [isWh]
def isT : PV → Bool
  | .tup _ => true
  | _ => false
theorem isT_iff {v : PV} : isT v = true ↔ ∃ xs, v = .tup xs := by cases v <;> simp [isT]
theorem cast_beq {a b : Nat} : ((a : Int) == (b : Int)) = (a == b) := by
  rw [Bool.eq_iff_iff]; simp; omega
theorem isin_tup {v : PV} (h : okW v) : opn (.isin ["tuple"]) [v] S = .ok (.bl (isT v)) S := by
  cases v <;> first | (simp [isT]; done) | exact h.elim
theorem isRw_non {v : PV} : isRw v .non = isT v := by cases v <;> rfl
theorem isRw_int {v : PV} {n : Int} : isRw v (.int n) = true ↔ ∃ xs, v = .tup xs ∧ (xs.length : Int) = n := by
  cases v <;> simp [isRw]
def itemsP : PV → List PV
  | .tup xs => xs
  | _ => []
def pwP (b t : PV) : Nat := match b, t with
  | .int i, .int j => i.toNat ^ j.toNat
  | _, _ => 0
/-- the form of a five -/
def form5 (b t f ms l : PV) : Bool := isWh b 2 (.int 10) && isWh t 0 (.int 6) && (isT f && isT ms && isT l) && (((itemsP f).length == (itemsP l).length) && ((itemsP ms).length == pwP b t))
def formB (v : PV) : Bool := match v with
  | .tup [b, t, f, ms, l] => form5 b t f ms l
  | _ => false
theorem formB_of {v : PV} (h : formB v = true) : ∃ (b t : Nat) (fs mm ll : List PV), v = .tup [nI b, nI t, .tup fs, .tup mm, .tup ll] ∧ 2 ≤ b ∧ b ≤ 10 ∧ t ≤ 6 ∧ fs.length = ll.length ∧ mm.length = b ^ t := by
  unfold formB at h
  split at h
  · rename_i b t f ms l
    unfold form5 at h
    simp only [Bool.and_eq_true] at h
    obtain ⟨⟨⟨h1, h2⟩, ⟨h3, h4⟩, h5⟩, h6, h7⟩ := h
    obtain ⟨b, rfl, b1, b2⟩ := isWh_iff.mp h1
    obtain ⟨t, rfl, t1, t2⟩ := isWh_iff.mp h2
    obtain ⟨fs, rfl⟩ := isT_iff.mp h3
    obtain ⟨mm, rfl⟩ := isT_iff.mp h4
    obtain ⟨ll, rfl⟩ := isT_iff.mp h5
    obtain ⟨b, rfl⟩ := Int.eq_ofNat_of_zero_le (show 0 ≤ b by omega)
    obtain ⟨t, rfl⟩ := Int.eq_ofNat_of_zero_le t1
    exact ⟨b, t, fs, mm, ll, rfl, by omega, by omega, by omega, by simpa [itemsP] using h6, by simpa [itemsP, pwP] using h7⟩
  · cases h
theorem five_or (v : PV) : (∃ b t f ms l, v = .tup [b, t, f, ms, l]) ∨ (formB v = false ∧ isRw v (.int 5) = false) := by
  cases v with
  | tup xs =>
    rcases xs with _ | ⟨a, _ | ⟨b, _ | ⟨c, _ | ⟨d, _ | ⟨e, _ | ⟨f, r⟩⟩⟩⟩⟩⟩
    · exact .inr ⟨rfl, rfl⟩
    · exact .inr ⟨rfl, rfl⟩
    · exact .inr ⟨rfl, rfl⟩
    · exact .inr ⟨rfl, rfl⟩
    · exact .inr ⟨rfl, rfl⟩
    · exact .inl ⟨a, b, c, d, e, rfl⟩
    · refine .inr ⟨rfl, ?_⟩
      unfold isRw
      simp; omega
  | _ => exact .inr ⟨rfl, rfl⟩
theorem is_base_ok {k : Nat} {v : PV} (hS : Wf S) (hv : okW v) : GG (k + 2) 11 [v] S = .ok (.bl (isWh v 2 (.int 10))) S := by
  rw [show GG (k + 2) 11 [v] S = _ from Gp_succ (k := k + 1) (d := d_is_base) rfl]
  refine evalD_ret hS ?_ rfl
  show evalSs (CC (k + 1)) m_is_base [some v] S = _
  unfold m_is_base
  have h := is_whole_ok (k := k) (v := v) (l := 2) (m := .int 10) hS hv (.inr ⟨10, rfl⟩)
  simp [permP, h]
theorem has_form_ok {k n : Nat} {v : PV} (hS : Wf S) (h : Sm (n + 1) v) : GG (k + 3) 14 [v] S = .ok (.bl (formB v)) S := by
  rw [show GG (k + 3) 14 [v] S = _ from Gp_succ (k := k + 2) (d := d_has_form) rfl]
  refine evalD_ret hS ?_ rfl
  show evalSs (CC (k + 2)) m_has_form [some v] S = _
  unfold m_has_form
  have hr := is_row_ok (k := k + 1) (v := v) (m := .int 5) hS h.ok (.inr ⟨5, rfl⟩)
  rcases five_or v with ⟨b, t, f, ms, l, rfl⟩ | ⟨h1, h2⟩
  · obtain ⟨_, hx⟩ := h.items
    have ob := (hx b (by simp)).ok
    have ot := (hx t (by simp)).ok
    have of' := (hx f (by simp)).ok
    have om := (hx ms (by simp)).ok
    have ol := (hx l (by simp)).ok
    have e : isRw (.tup [b, t, f, ms, l]) (.int 5) = true := rfl
    rw [e] at hr
    have hb := is_base_ok (k := k) hS ob
    have ht := is_whole_ok (k := k + 1) (v := t) (l := 0) (m := .int 6) hS ot (.inr ⟨6, rfl⟩)
    have hf := is_row_ok (k := k + 1) (v := f) (m := .non) hS of' (.inl rfl)
    rw [isRw_non] at hf
    have i0 := ix5_0 (S := S) (a := b) (b := t) (c := f) (d := ms) (e := l)
    have i1 := ix5_1 (S := S) (a := b) (b := t) (c := f) (d := ms) (e := l)
    have i2 := ix5_2 (S := S) (a := b) (b := t) (c := f) (d := ms) (e := l)
    have i3 := ix5_3 (S := S) (a := b) (b := t) (c := f) (d := ms) (e := l)
    have i4 := ix5_4 (S := S) (a := b) (b := t) (c := f) (d := ms) (e := l)
    have ev : formB (.tup [b, t, f, ms, l]) = form5 b t f ms l := rfl
    rw [ev]
    generalize PV.tup [b, t, f, ms, l] = V at *
    unfold form5
    by_cases qb : isWh b 2 (.int 10) = true
    · by_cases qt : isWh t 0 (.int 6) = true
      · by_cases qf : isT f = true
        · obtain ⟨fs, rfl⟩ := isT_iff.mp qf
          have hl := is_row_ok (k := k + 1) (v := l) (m := .int (fs.length : Int)) hS ol (.inr ⟨_, rfl⟩)
          by_cases ql : isRw l (.int (fs.length : Int)) = true
          · obtain ⟨ll, rfl, hll⟩ := isRw_int.mp ql
            obtain ⟨b', rfl, b1, b2⟩ := isWh_iff.mp qb
            obtain ⟨t', rfl, t1, t2⟩ := isWh_iff.mp qt
            obtain ⟨b', rfl⟩ := Int.eq_ofNat_of_zero_le (show 0 ≤ b' by omega)
            obtain ⟨t', rfl⟩ := Int.eq_ofNat_of_zero_le t1
            have hp := power_of_ok (k := k + 1) (b := b') (t := t') hS (by omega) (by omega)
            have hm := is_row_ok (k := k + 1) (v := ms) (m := .int ((b' ^ t' : Nat) : Int)) hS om (.inr ⟨_, rfl⟩)
            have em : isRw ms (.int ((b' ^ t' : Nat) : Int)) = (isT ms && ((itemsP ms).length == pwP (.int b') (.int t'))) := by
              cases ms <;> first | rfl | skip
              rename_i xs
              rw [Bool.eq_iff_iff]
              simp only [isRw, isT, itemsP, pwP, Bool.true_and, beq_iff_eq, Int.toNat_natCast]
              omega
            have e5 : ((itemsP (.tup fs)).length == (itemsP (.tup ll)).length) = true := by
              simp only [itemsP, beq_iff_eq]; omega
            rw [qb, qt, e5, show isT (.tup fs) = true from rfl, show isT (.tup ll) = true from rfl]
            simp only [Bool.true_and, Bool.and_true]
            rw [em] at hm
            generalize ((b' ^ t' : Nat) : Int) = pw at *
            generalize (isT ms && ((itemsP ms).length == pwP (.int b') (.int t'))) = res at *
            rw [qb] at hb
            rw [qt] at ht
            rw [ql] at hl
            rw [show isT (.tup fs) = true from rfl] at hf
            simp [hr, hb, ht, hf, hl, hm, hp, i0, i1, i2, i3, i4, permP]
          · have ql' : isRw l (.int (fs.length : Int)) = false := by simpa using ql
            rw [ql'] at hl
            have e5 : (isT l && ((itemsP (.tup fs)).length == (itemsP l).length)) = false := by
              cases l <;> first | rfl | skip
              rename_i xs
              simp only [isRw] at ql'
              simp only [isT, itemsP, Bool.true_and]
              rw [Bool.eq_false_iff] at ql' ⊢
              simp only [beq_iff_eq, ne_eq] at ql' ⊢
              omega
            have e6 : (isWh b 2 (.int 10) && isWh t 0 (.int 6) && (isT (.tup fs) && isT ms && isT l) && (((itemsP (.tup fs)).length == (itemsP l).length) && ((itemsP ms).length == pwP b t))) = false := by
              cases hl : isT l
              · simp
              · rw [hl, Bool.true_and] at e5
                rw [e5]; simp
            rw [e6]
            rw [qb] at hb
            rw [qt] at ht
            rw [show isT (.tup fs) = true from rfl] at hf
            simp [hr, hb, ht, hf, hl, i0, i1, i2, i3, i4, permP]
        · have qf' : isT f = false := by simpa using qf
          rw [qf'] at hf
          rw [qb] at hb
          rw [qt] at ht
          rw [qf']
          simp [hr, hb, ht, hf, i0, i1, i2, i3, i4, permP]
      · have qt' : isWh t 0 (.int 6) = false := by simpa using qt
        rw [qb] at hb
        rw [qt'] at ht
        rw [qt']
        simp [hr, hb, ht, i0, i1, permP]
    · have qb' : isWh b 2 (.int 10) = false := by simpa using qb
      rw [qb'] at hb
      rw [qb']
      simp [hr, hb, i0, permP]
  · rw [h2] at hr
    rw [h1]
    simp [hr, permP]
theorem formless_ok {k n : Nat} {v : PV} (hS : Wf S) (h : Sm (n + 1) v) : GG (k + 3) 40 [v] S = .ok (.bl (!formB v)) S := by
  rw [show GG (k + 3) 40 [v] S = _ from Gp_succ (k := k + 2) (d := d__law_formless) rfl]
  refine evalD_ret hS ?_ rfl
  show evalSs (CC (k + 2)) m__law_formless [some v] S = _
  unfold m__law_formless
  have hr := isin_tup (S := S) h.ok
  rcases five_or v with ⟨b, t, f, ms, l, rfl⟩ | ⟨h1, h2⟩
  · obtain ⟨_, hx⟩ := h.items
    have ob := (hx b (by simp)).ok
    have ot := (hx t (by simp)).ok
    have of' := (hx f (by simp)).ok
    have om := (hx ms (by simp)).ok
    have ol := (hx l (by simp)).ok
    have hb := law_whole_ok (k := k + 1) (v := b) (l := 2) (m := 10) hS ob
    have ht := law_whole_ok (k := k + 1) (v := t) (l := 0) (m := 6) hS ot
    have hf := isin_tup (S := S) of'
    have hm := isin_tup (S := S) om
    have hl := isin_tup (S := S) ol
    have i0 := ix5_0 (S := S) (a := b) (b := t) (c := f) (d := ms) (e := l)
    have i1 := ix5_1 (S := S) (a := b) (b := t) (c := f) (d := ms) (e := l)
    have i2 := ix5_2 (S := S) (a := b) (b := t) (c := f) (d := ms) (e := l)
    have i3 := ix5_3 (S := S) (a := b) (b := t) (c := f) (d := ms) (e := l)
    have i4 := ix5_4 (S := S) (a := b) (b := t) (c := f) (d := ms) (e := l)
    have len5 : opn .len [.tup [b, t, f, ms, l]] S = .ok (.int 5) S := rfl
    have ev : formB (.tup [b, t, f, ms, l]) = form5 b t f ms l := rfl
    rw [show isT (.tup [b, t, f, ms, l]) = true from rfl] at hr
    rw [ev]
    generalize PV.tup [b, t, f, ms, l] = V at *
    unfold form5
    by_cases qb : isWh b 2 (.int 10) = true
    · by_cases qt : isWh t 0 (.int 6) = true
      · by_cases q3 : (isT f && isT ms && isT l) = true
        · have q3' := q3
          simp only [Bool.and_eq_true] at q3
          obtain ⟨⟨qf, qm⟩, ql⟩ := q3
          obtain ⟨fs, rfl⟩ := isT_iff.mp qf
          obtain ⟨mm, rfl⟩ := isT_iff.mp qm
          obtain ⟨ll, rfl⟩ := isT_iff.mp ql
          obtain ⟨b', rfl, b1, b2⟩ := isWh_iff.mp qb
          obtain ⟨t', rfl, t1, t2⟩ := isWh_iff.mp qt
          obtain ⟨b', rfl⟩ := Int.eq_ofNat_of_zero_le (show 0 ≤ b' by omega)
          obtain ⟨t', rfl⟩ := Int.eq_ofNat_of_zero_le t1
          have hp := law_power_ok (k := k + 1) (b := b') (t := t') hS (by omega) (by omega)
          have epw : pwP (.int (b' : Int)) (.int (t' : Int)) = b' ^ t' := by simp [pwP]
          rw [qb, qt, q3', epw]
          simp only [Bool.true_and, itemsP]
          generalize b' ^ t' = pw at *
          rw [qb] at hb
          rw [qt] at ht
          cases z1 : (fs.length == ll.length) <;> cases z2 : (mm.length == pw) <;> simp [hr, len5, hb, ht, hp, i0, i1, i2, i3, i4, permP, cast_beq, z1, z2]
        · have q3' : (isT f && isT ms && isT l) = false := by simpa using q3
          rw [q3']
          rw [qb] at hb
          rw [qt] at ht
          cases x1 : isT f <;> cases x2 : isT ms <;> cases x3 : isT l <;> first | (exact absurd (show (true && true && true) = false by rw [x1, x2, x3] at q3'; exact q3') (by decide)) | (rw [x1] at hf; rw [x2] at hm; rw [x3] at hl; simp [hr, len5, hb, ht, hf, hm, hl, i0, i1, i2, i3, i4, permP])
      · have qt' : isWh t 0 (.int 6) = false := by simpa using qt
        rw [qb] at hb
        rw [qt'] at ht
        rw [qt']
        simp [hr, len5, hb, ht, i0, i1, permP]
    · have qb' : isWh b 2 (.int 10) = false := by simpa using qb
      rw [qb'] at hb
      rw [qb']
      simp [hr, len5, hb, i0, permP]
  · rw [h1]
    rcases h.kinds with rfl | ⟨_, rfl⟩ | ⟨i, rfl⟩ | ⟨xs, rfl⟩ | ⟨_, rfl⟩
    · simp
    · simp
    · simp
    · have : ((xs.length : Int) == 5) = false := h2
      simp [this]
    · simp
end Dg
end

section
set_option Elab.async false
set_option linter.all false
set_option maxRecDepth 100000
set_option maxHeartbeats 1000000
/-! A9: the first fault of what is to be a counting. -/
namespace Dg
open PySem L2
variable {S : Store}
def toQ : PV → Rat
  | .tup [.int n, .int d] => Rat.divInt n d
  | _ => 0
theorem toQ_fr {q : Rat} : toQ (fr q) = q := Rat.num_divInt_den q
def rowQ (v : PV) : List Rat := (itemsP v).map toQ
theorem rowQ_row {qs : List Rat} : rowQ (rowV true qs) = qs := by
  show (qs.map fr).map toQ = qs
  rw [List.map_map]
  have : (toQ ∘ fr) = id := funext fun q => toQ_fr
  rw [this, List.map_id]
def sForm : PV := .str (Str.ofString "form")
def sMany : PV := .str (Str.ofString "many")
def sFirst : PV := .str (Str.ofString "first")
def sLast : PV := .str (Str.ofString "last")
def sZeros : PV := .str (Str.ofString "zeros")
def bigB (d m : Nat) : Bool := decide ((40 : Int) < d) || decide ((20000 : Int) < (d : Int) * d * m)
def zeroB (M : PV) (l : List Rat) : Bool := ((itemsP M).map fun line => dotQ (rowQ line) l) == l
def faultT (fs mm ll : List PV) : Option PV :=
  if bigB fs.length mm.length = true then some sMany
  else if areFrB (.tup fs) fs.length = false then some sFirst
  else match mm.findIdx? (fun M => !matB M fs.length) with
    | some i => some (nI i)
    | none => if areFrB (.tup ll) fs.length = false then some sLast
      else if zeroB (mm.headD .non) (rowQ (.tup ll)) = true then none else some sZeros
def faultV (v : PV) : Option PV := if formB v = false then some sForm else match v with
  | .tup [_, _, .tup fs, .tup mm, .tup ll] => faultT fs mm ll
  | _ => some sForm
theorem find_loop {C : Cxt} {t : TGT} {body : MSs} {p : PV → Bool} {R : PV → PEnv → Prop} {res : Nat → PV} {mm : List PV} {r : PEnv} (h0 : R .non r)
    (hs : ∀ (i : Nat) (hi : i < mm.length) (z : PV) (r : PEnv), R z r → ∃ r2, bindT t (.tup [nI i, mm[i]]) r = some r2 ∧ ((p mm[i] = false ∧ ∃ r3, evalSs C body r2 S = .nx r3 S ∧ R z r3) ∨ (p mm[i] = true ∧ evalSs C body r2 S = .ret (res i) S))) :
    (mm.findIdx? p = none ∧ ∃ r', forL t (fun r2 S2 => evalSs C body r2 S2) none (enumL mm) r S = .nx r' S ∧ R .non r') ∨ (∃ i, mm.findIdx? p = some i ∧ i < mm.length ∧ forL t (fun r2 S2 => evalSs C body r2 S2) none (enumL mm) r S = .ret (res i) S) := by
  have hl := forL_k (t := t) (g := none) (f := fun r2 S2 => evalSs C body r2 S2) (xs := enumL mm) (r := r) (S := S)
    (fun n r S' => S' = S ∧ (∀ i < n, ∀ x, mm[i]? = some x → p x = false) ∧ R .non r) (fun v S' => S' = S ∧ ∃ i, mm.findIdx? p = some i ∧ i < mm.length ∧ v = res i)
    (fun n hn r S' hI => by
      obtain ⟨rfl, hd, hR⟩ := hI
      have hn' : n < mm.length := by simpa [enumL] using hn
      obtain ⟨r2, e1, e2⟩ := hs n hn' _ r hR
      have ee : (enumL mm)[n] = .tup [nI n, mm[n]] := by simp [enumL, nI, hn']
      refine ⟨r2, by rw [ee]; exact e1, ?_⟩
      rcases e2 with ⟨q, r3, e3, h3⟩ | ⟨q, e3⟩
      · refine .inl ⟨_, _, .inl e3, trivial, rfl, ?_, h3⟩
        intro i hi x hx
        rcases Nat.lt_succ_iff_lt_or_eq.mp hi with h | rfl
        · exact hd i h x hx
        · rw [List.getElem?_eq_getElem hn'] at hx; cases hx; exact q
      · refine .inr ⟨_, _, e3, rfl, n, ?_, hn', rfl⟩
        rw [List.findIdx?_eq_some_iff_getElem]
        refine ⟨hn', q, fun j hj => ?_⟩
        have := hd j hj mm[j] (by simp)
        rw [this]; exact Bool.false_ne_true) ⟨rfl, fun i hi => absurd hi (by omega), h0⟩
  rcases hl with ⟨r', S', e, rfl, hd, hR⟩ | ⟨v, S', e, rfl, i, h1, h2, rfl⟩
  · refine .inl ⟨?_, r', e, hR⟩
    rw [List.findIdx?_eq_none_iff]
    intro x hx
    obtain ⟨i, hi, rfl⟩ := List.getElem_of_mem hx
    exact hd i (by simpa [enumL] using hi) _ (by simp [hi])
  · exact .inr ⟨i, h1, h2, e⟩
abbrev fltB : MSs := (.cons (.ifS (.not_ (.call 15 [(.inl 0), (.inl 1)] (.cons (.var 3) (.cons (.var 1) .nil)))) (.cons (.ret (.tup (.cons (.var 2) .nil))) .nil) .nil) .nil)
theorem mul3 {d m : Nat} (hd : d ≤ 1000) (hm : m ≤ 1000) : op2 .mul (.int (d : Int)) (.int (d : Int)) S = .ok (.int ((d : Int) * d)) S ∧ op2 .mul (.int ((d : Int) * d)) (.int (m : Int)) S = .ok (.int ((d : Int) * d * m)) S :=
  ⟨op_mulR (by omega), op_mulR (by omega)⟩
/-- the rows and their places of a value in form -/
theorem pos_pow {b t : Nat} (hb : 2 ≤ b) : 0 < b ^ t := Nat.pow_pos (by omega)
theorem matQ_of {M : Mat} {l : List Rat} : zeroB (matV M) l = ((M.map fun line => dotQ line l) == l) := by
  unfold zeroB matV itemsP
  dsimp only
  rw [List.map_map]
  have : ((fun line => dotQ (rowQ line) l) ∘ rowV true) = fun line => dotQ line l := funext fun line => by
    show dotQ (rowQ (rowV true line)) l = dotQ line l
    rw [rowQ_row]
  rw [this]
/-- what the zeros' asking needs -/
theorem zeros_ready {n d : Nat} {fs mm ll : List PV} (hm : ∀ x ∈ mm, Sm (n + 3) x) (hl : ∀ x ∈ ll, Sm (n + 3) x) (h0 : 0 < mm.length) (hf : mm.findIdx? (fun M => !matB M d) = none) (hll : areFrB (.tup ll) d = true) :
    ∃ (M : Mat) (l : List Rat) (rest : List PV), mm = matV M :: rest ∧ PV.tup ll = rowV true l ∧ l.length = d ∧ M.length = d ∧ (∀ line ∈ M, line.length = d ∧ ∀ q ∈ line, Sz 40 q) ∧ ∀ q ∈ l, Sz 40 q := by
  obtain ⟨l, e1, e2⟩ := areFrB_of hll
  cases mm with
  | nil => simp at h0
  | cons m rest =>
    rw [List.findIdx?_eq_none_iff] at hf
    have := hf m (List.mem_cons_self ..)
    obtain ⟨M, rfl, m1, m2⟩ := matB_of (v := m) (d := d) (by simpa using this)
    refine ⟨M, l, rest, rfl, e1, e2, m1, fun line hline => ⟨m2 line hline, fun q hq => ?_⟩, fun q hq => ?_⟩
    · obtain ⟨_, h1⟩ := (hm _ (List.mem_cons_self ..)).items
      obtain ⟨_, h2⟩ := Sm.items (h1 (rowV true line) (List.mem_map_of_mem hline))
      exact Sm.fr (h2 (fr q) (List.mem_map_of_mem hq))
    · have e3 : ll = l.map fr := by
        have : PV.tup ll = PV.tup (l.map fr) := e1
        injection this
      exact Sm.fr (hl (fr q) (by rw [e3]; exact List.mem_map_of_mem hq))
theorem fault_ok {k n : Nat} {v : PV} (hS : Wf S) (h : Sm (n + 5) v) : GG (k + 6) 16 [v] S = .ok (.tup (faultV v).toList) S := by
  rw [show GG (k + 6) 16 [v] S = _ from Gp_succ (k := k + 5) (d := d_counting_fault) rfl]
  have bel : ∀ x, faultV v = some x → below S.length x = true := fun x hx => by
    unfold faultV faultT at hx
    split at hx
    · cases hx; rfl
    · split at hx
      · split at hx
        · cases hx; rfl
        · split at hx
          · cases hx; rfl
          · split at hx
            · cases hx; rfl
            · split at hx
              · cases hx; rfl
              · split at hx
                · cases hx
                · cases hx; rfl
      · cases hx; rfl
  refine evalD_ret hS ?_ (by
    rw [below]
    cases q : faultV v with
    | none => rfl
    | some x => show (below S.length x && true) = true; rw [bel x q]; rfl)
  clear bel
  show evalSs (CC (k + 5)) m_counting_fault [some v, none, none, none] S = _
  unfold m_counting_fault
  have hfo := has_form_ok (k := k + 2) (n := n + 4) hS h
  by_cases q : formB v = true
  · obtain ⟨b, t, fs, mm, ll, rfl, b1, b2, t1, e1, e2⟩ := formB_of q
    rw [q] at hfo
    have ev : faultV (.tup [nI b, nI t, .tup fs, .tup mm, .tup ll]) = faultT fs mm ll := by
      unfold faultV
      rw [if_neg (by rw [q]; exact Bool.noConfusion)]
    rw [ev]
    obtain ⟨_, hx⟩ := h.items
    have sf := hx (.tup fs) (by simp)
    have sm := hx (.tup mm) (by simp)
    have sl := hx (.tup ll) (by simp)
    obtain ⟨lf, _⟩ := sf.items
    obtain ⟨lm, hm⟩ := sm.items
    obtain ⟨lll, hll⟩ := sl.items
    have i2 := ix5_2 (S := S) (a := nI b) (b := nI t) (c := .tup fs) (d := .tup mm) (e := .tup ll)
    have i3 := ix5_3 (S := S) (a := nI b) (b := nI t) (c := .tup fs) (d := .tup mm) (e := .tup ll)
    have i4 := ix5_4 (S := S) (a := nI b) (b := nI t) (c := .tup fs) (d := .tup mm) (e := .tup ll)
    clear ev q hx h
    generalize PV.tup [nI b, nI t, .tup fs, .tup mm, .tup ll] = V at *
    have hfr := are_ratios_ok (k := k + 2) (d := fs.length) hS sf
    have hlr := are_ratios_ok (k := k + 2) (d := fs.length) hS sl
    obtain ⟨p1, p2⟩ := mul3 (S := S) lf lm
    have h0 : 0 < mm.length := by rw [e2]; exact pos_pow b1
    have l1 : opn .len [.tup fs] S = .ok (.int (fs.length : Int)) S := opn_len_tup
    have l2 : opn .len [.tup mm] S = .ok (.int (mm.length : Int)) S := opn_len_tup
    have hlp := find_loop (S := S) (C := CC (k + 5)) (t := .tup [2, 3]) (body := fltB) (p := fun M => !matB M fs.length) (R := fun _ r => ∃ a b, r = [some V, some (.int (fs.length : Int)), a, b]) (res := fun i => .tup [nI i]) (mm := mm) (r := [some V, some (.int (fs.length : Int)), none, none]) ⟨none, none, rfl⟩ (fun i hi z r hr => by
      obtain ⟨a, b, rfl⟩ := hr
      have hM := is_matrix_ok (k := k + 1) (d := fs.length) hS (hm mm[i] (List.getElem_mem _))
      refine ⟨[some V, some (.int (fs.length : Int)), some (nI i), some mm[i]], by simp [bindT], ?_⟩
      cases z : matB mm[i] fs.length
      · rw [z] at hM
        refine .inr ⟨rfl, ?_⟩
        simp [hM, permP, sizeLine]
      · rw [z] at hM
        refine .inl ⟨rfl, [some V, some (.int (fs.length : Int)), some (nI i), some mm[i]], ?_, _, _, rfl⟩
        simp [hM, permP])
    unfold faultT
    have st1 : evalS (CC (k + 5)) (.asg (.name 1) (.bi .len (.cons (.bin .ix (.var 0) (.k (.int (2)))) .nil))) [some V, none, none, none] S = .nx [some V, some (.int (fs.length : Int)), none, none] S := by
      simp [i2, l1, bindT]
    have st0 : ∀ A, evalS (CC (k + 5)) (.ifS (.not_ (.call 14 [(.inl 0)] (.cons (.var 0) .nil))) A .nil) [some V, none, none, none] S = .nx [some V, none, none, none] S := by
      intro A
      simp [hfo, permP]
    rw [eSs_cons, st0, SRes.seq_nx, eSs_cons, st1, SRes.seq_nx, eSs_cons]
    have st2 : evalT (CC (k + 5)) (.or_ (.bin .gt (.var 1) (.k (.int (40)))) (.bin .gt (.bin .mul (.bin .mul (.var 1) (.var 1)) (.bi .len (.cons (.bin .ix (.var 0) (.k (.int (3)))) .nil))) (.k (.int (20000))))) [some V, some (.int (fs.length : Int)), none, none] S = .ok (bigB fs.length mm.length) S := by
      unfold bigB
      generalize (fs.length : Int) = d at *
      generalize (mm.length : Int) = m at *
      generalize d * d = dd at *
      generalize dd * m = ddm at *
      cases z : decide (40 < d) <;> simp -implicitDefEqProofs [i3, l2, p1, p2, z]
    rw [eS_if, st2, Res.to_ok]
    by_cases qb : bigB fs.length mm.length = true
    · rw [if_pos qb, if_pos qb]
      simp [sMany, sizeLine]
    · rw [if_neg qb, if_neg qb, eSs_nil, SRes.seq_nx, eSs_cons]
      by_cases qf : areFrB (.tup fs) fs.length = false
      · rw [if_pos qf]
        rw [qf] at hfr
        simp [hfr, i2, permP, sFirst, sizeLine]
      · rw [if_neg qf]
        have qf' : areFrB (.tup fs) fs.length = true := by simpa using qf
        rw [qf'] at hfr
        have st3 : ∀ A, evalS (CC (k + 5)) (.ifS (.not_ (.call 7 [(.inl 0), (.inl 1)] (.cons (.bin .ix (.var 0) (.k (.int (2)))) (.cons (.var 1) .nil)))) A .nil) [some V, some (.int (fs.length : Int)), none, none] S = .nx [some V, some (.int (fs.length : Int)), none, none] S := by
          intro A
          simp [hfr, i2, permP]
        have ei : evalI (CC (k + 5)) (.enum (.bin .ix (.var 0) (.k (.int (3))))) [some V, some (.int (fs.length : Int)), none, none] S = .ok (enumL mm, none) S := eI_enumT (by simp [i3])
        rw [st3, SRes.seq_nx, eSs_cons, eS_for, ei, Res.to_ok]
        dsimp only
        rcases hlp with ⟨f1, r', f2, a, b, rfl⟩ | ⟨i, f1, f2, f3⟩
        · rw [f1, f2, SRes.seq_nx, eSs_cons]
          dsimp only
          by_cases ql : areFrB (.tup ll) fs.length = false
          · rw [if_pos ql]
            rw [ql] at hlr
            simp [hlr, i4, permP, sLast, sizeLine]
          · rw [if_neg ql]
            have ql' : areFrB (.tup ll) fs.length = true := by simpa using ql
            rw [ql'] at hlr
            obtain ⟨M, l, rest, rfl, z2, z3, z4, z5, z6⟩ := zeros_ready (n := n) (fs := fs) hm hll h0 f1 ql'
            have z7 : rowQ (.tup ll) = l := by rw [z2, rowQ_row]
            rw [z7]
            have hd40 : fs.length ≤ 40 := by
              have : bigB fs.length (matV M :: rest).length = false := by simpa using qb
              unfold bigB at this
              simp only [Bool.or_eq_false_iff, decide_eq_false_iff_not] at this
              omega
            have hmt := matrix_times_ok (k := k + 2) (t := true) (ys := l) (M := M) (d := fs.length) (m := 40) (n := 40) hS z6 ⟨z4, z5⟩ (by omega) (by omega)
            rw [← z2] at hmt
            have i0 : op2 .ix (.tup (matV M :: rest)) (.int 0) S = .ok (matV M) S := ix_tup (i := 0) rfl
            have hlv : opn .listV [.tup ll] S = .ok (rowV false l) S := by
              rw [z2]; rfl
            have hne := ne_frs (S := S) (xs := M.map fun line => dotQ line l) (ys := l)
            have hz : zeroB (((matV M :: rest) : List PV).headD .non) l = ((M.map fun line => dotQ line l) == l) := matQ_of
            rw [hz]
            generalize ((M.map fun line => dotQ line l) == l) = B at *
            generalize rowV false (M.map fun line => dotQ line l) = x1 at *
            generalize rowV false l = x2 at *
            generalize matV M = x3 at *
            cases B
            · simp -implicitDefEqProofs [hlr, i4, i3, i0, hlv, hmt, hne, permP, sZeros, sizeLine]
            · simp -implicitDefEqProofs [hlr, i4, i3, i0, hlv, hmt, hne, permP, sizeLine]
        · rw [f1, f3]
          rfl
  · have q' : formB v = false := by simpa using q
    have ev : faultV v = some sForm := by
      unfold faultV
      rw [if_pos q']
    rw [ev]
    rw [q'] at hfo
    simp [hfo, permP, sForm, sizeLine]
abbrev lfB : MSs := (.cons (.ifS (.or_ (.not_ (.bi (.isin ["tuple"]) (.cons (.var 3) .nil))) (.bin .ne (.bi .len (.cons (.var 3) .nil)) (.var 1))) (.cons (.ret (.var 2)) .nil) .nil) (.cons (.ifS (.bin .ne (.comp false [5, 4] (.name 4) (.of (.var 3)) (.some (.not_ (.call 39 [(.inl 0), (.inl 1)] (.cons (.var 4) (.cons (.var 1) .nil))))) (.k (.int (1)))) (.lst .nil)) (.cons (.ret (.var 2)) .nil) .nil) .nil))
theorem lf_body {k n d : Nat} {V P : PV} {v4 v5 : Option PV} {M : PV} (hS : Wf S) (h : Sm (n + 2) M) : evalSs (CC (k + 3)) lfB [some V, some (.int (d : Int)), some P, some M, v4, v5] S = if matB M d = true then .nx [some V, some (.int (d : Int)), some P, some M, v4, v5] S else .ret P S := by
  rcases h.kinds with rfl | ⟨_, rfl⟩ | ⟨i, rfl⟩ | ⟨xs, rfl⟩ | ⟨_, rfl⟩
  · simp [matB]
  · simp [matB]
  · simp [matB]
  · obtain ⟨hl, hx⟩ := h.items
    have hc := comp_F (C := CC (k + 3)) (S := S) (own := [5, 4]) (t := .name 4) (it := .of (.var 3)) (cn := .some (.not_ (.call 39 [(.inl 0), (.inl 1)] (.cons (.var 4) (.cons (.var 1) .nil))))) (r := [some V, some (.int (d : Int)), some P, some (.tup xs), v4, v5]) (e := .k (.int (1))) (as := xs) (g := id) (p := fun x => !areFrB x d) (h := fun x => .int 1) (by rw [List.map_id]; exact eI_ofT (by simp)) (by
      have : sizeLine = 16777216 := rfl
      omega) (fun x q => by
      have := are_fractions_ok (k := k) (d := d) hS (hx x q)
      unfold turnF
      cases z : areFrB x d <;> simp [bindT, wipeP, this, permP, z])
    have ha := ne_ones (S := S) (xs := xs.filter fun x => !areFrB x d)
    rw [filter_all] at ha
    have em : matB (.tup xs) d = (((xs.length : Int) == (d : Int)) && xs.all fun l => areFrB l d) := rfl
    rw [em]
    generalize ((xs.filter fun x => !areFrB x d).map fun x => PV.int 1) = ys at *
    cases q : ((xs.length : Int) == (d : Int))
    · simp [q]
    · generalize (xs.all fun x => areFrB x d) = B at *
      cases B
      · simp -implicitDefEqProofs [q, permP, hc, ha, sizeLine]
      · simp -implicitDefEqProofs [q, permP, hc, ha, sizeLine]
  · simp [matB]
abbrev lzB : MSs := (.cons (.ifS (.bin .ne (.call 31 [(.inl 0), (.inl 1)] (.cons (.var 4) (.cons (.bin .ix (.var 0) (.k (.int (4)))) .nil))) (.bin .ix (.bin .ix (.var 0) (.k (.int (4)))) (.var 2))) (.cons (.ret (.k (.str (Str.ofString "zeros")))) .nil) .nil) .nil)
theorem map_eq_of {f : List Rat → Rat} {M : Mat} {l : List Rat} (hl : M.length = l.length) : ((M.map f) == l) = true ↔ ∀ (i : Nat) (h : i < M.length), f M[i] = l[i]'(by omega) := by
  rw [beq_iff_eq]
  constructor
  · intro e i h
    have : (M.map f)[i]'(by simpa using h) = l[i]'(by omega) := by simp only [e]
    simpa using this
  · intro e
    apply List.ext_getElem
    · simpa using hl
    · intro i h1 h2
      rw [List.getElem_map]
      exact e i (by simpa using h1)
theorem law_fault_ok {k n : Nat} {v : PV} (hS : Wf S) (h : Sm (n + 5) v) : GG (k + 6) 41 [v] S = .ok ((faultV v).getD .non) S := by
  rw [show GG (k + 6) 41 [v] S = _ from Gp_succ (k := k + 5) (d := d__law_fault) rfl]
  have bel : below S.length ((faultV v).getD .non) = true := by
    unfold faultV faultT
    split
    · rfl
    · split
      · split
        · rfl
        · split
          · rfl
          · split
            · rfl
            · split
              · rfl
              · split
                · rfl
                · rfl
      · rfl
  refine evalD_ret hS ?_ bel
  clear bel
  show evalSs (CC (k + 5)) m__law_fault [some v, none, none, none, none, none] S = _
  unfold m__law_fault
  have hfo := formless_ok (k := k + 2) (n := n + 4) hS h
  by_cases q : formB v = true
  · obtain ⟨b, t, fs, mm, ll, rfl, b1, b2, t1, e1, e2⟩ := formB_of q
    rw [q] at hfo
    have ev : faultV (.tup [nI b, nI t, .tup fs, .tup mm, .tup ll]) = faultT fs mm ll := by
      unfold faultV
      rw [if_neg (by rw [q]; exact Bool.noConfusion)]
    rw [ev]
    obtain ⟨_, hx⟩ := h.items
    have sf := hx (.tup fs) (by simp)
    have sm := hx (.tup mm) (by simp)
    have sl := hx (.tup ll) (by simp)
    obtain ⟨lf, _⟩ := sf.items
    obtain ⟨lm, hm⟩ := sm.items
    obtain ⟨lll, hll⟩ := sl.items
    have i2 := ix5_2 (S := S) (a := nI b) (b := nI t) (c := .tup fs) (d := .tup mm) (e := .tup ll)
    have i3 := ix5_3 (S := S) (a := nI b) (b := nI t) (c := .tup fs) (d := .tup mm) (e := .tup ll)
    have i4 := ix5_4 (S := S) (a := nI b) (b := nI t) (c := .tup fs) (d := .tup mm) (e := .tup ll)
    clear ev q hx h
    generalize PV.tup [nI b, nI t, .tup fs, .tup mm, .tup ll] = V at *
    have hfr := are_fractions_ok (k := k + 2) (d := fs.length) hS sf
    have hlr := are_fractions_ok (k := k + 2) (d := fs.length) hS sl
    obtain ⟨p1, p2⟩ := mul3 (S := S) lf lm
    have h0 : 0 < mm.length := by rw [e2]; exact pos_pow b1
    have l1 : opn .len [.tup fs] S = .ok (.int (fs.length : Int)) S := opn_len_tup
    have l2 : opn .len [.tup mm] S = .ok (.int (mm.length : Int)) S := opn_len_tup
    have hlp := find_loop (S := S) (C := CC (k + 5)) (t := .tup [2, 3]) (body := lfB) (p := fun M => !matB M fs.length) (R := fun _ r => ∃ a b, r = [some V, some (.int (fs.length : Int)), a, b, none, none]) (res := fun i => nI i) (mm := mm) (r := [some V, some (.int (fs.length : Int)), none, none, none, none]) ⟨none, none, rfl⟩ (fun i hi z r hr => by
      obtain ⟨a, b, rfl⟩ := hr
      have hM := lf_body (k := k + 2) (d := fs.length) (V := V) (P := nI i) (v4 := none) (v5 := none) hS (hm mm[i] (List.getElem_mem _))
      refine ⟨[some V, some (.int (fs.length : Int)), some (nI i), some mm[i], none, none], by simp [bindT], ?_⟩
      cases z : matB mm[i] fs.length
      · rw [z, if_neg Bool.false_ne_true] at hM
        exact .inr ⟨rfl, hM⟩
      · rw [z, if_pos rfl] at hM
        exact .inl ⟨rfl, _, hM, _, _, rfl⟩)
    unfold faultT
    have st1 : evalS (CC (k + 5)) (.asg (.name 1) (.bi .len (.cons (.bin .ix (.var 0) (.k (.int (2)))) .nil))) [some V, none, none, none, none, none] S = .nx [some V, some (.int (fs.length : Int)), none, none, none, none] S := by
      simp [i2, l1, bindT]
    have st0 : ∀ A, evalS (CC (k + 5)) (.ifS (.call 40 [(.inl 0)] (.cons (.var 0) .nil)) A .nil) [some V, none, none, none, none, none] S = .nx [some V, none, none, none, none, none] S := by
      intro A
      simp [hfo, permP]
    rw [eSs_cons, st0, SRes.seq_nx, eSs_cons, st1, SRes.seq_nx, eSs_cons]
    have st2 : evalT (CC (k + 5)) (.or_ (.bin .gt (.var 1) (.k (.int (40)))) (.bin .gt (.bin .mul (.bin .mul (.var 1) (.var 1)) (.bi .len (.cons (.bin .ix (.var 0) (.k (.int (3)))) .nil))) (.k (.int (20000))))) [some V, some (.int (fs.length : Int)), none, none, none, none] S = .ok (bigB fs.length mm.length) S := by
      unfold bigB
      generalize (fs.length : Int) = d at *
      generalize (mm.length : Int) = m at *
      generalize d * d = dd at *
      generalize dd * m = ddm at *
      cases z : decide (40 < d) <;> simp -implicitDefEqProofs [i3, l2, p1, p2, z]
    rw [eS_if, st2, Res.to_ok]
    by_cases qb : bigB fs.length mm.length = true
    · rw [if_pos qb, if_pos qb]
      simp [sMany]
    · rw [if_neg qb, if_neg qb, eSs_nil, SRes.seq_nx, eSs_cons]
      by_cases qf : areFrB (.tup fs) fs.length = false
      · rw [if_pos qf]
        rw [qf] at hfr
        simp [hfr, i2, permP, sFirst]
      · rw [if_neg qf]
        have qf' : areFrB (.tup fs) fs.length = true := by simpa using qf
        rw [qf'] at hfr
        have st3 : ∀ A, evalS (CC (k + 5)) (.ifS (.not_ (.call 39 [(.inl 0), (.inl 1)] (.cons (.bin .ix (.var 0) (.k (.int (2)))) (.cons (.var 1) .nil)))) A .nil) [some V, some (.int (fs.length : Int)), none, none, none, none] S = .nx [some V, some (.int (fs.length : Int)), none, none, none, none] S := by
          intro A
          simp [hfr, i2, permP]
        have ei : evalI (CC (k + 5)) (.enum (.bin .ix (.var 0) (.k (.int (3))))) [some V, some (.int (fs.length : Int)), none, none, none, none] S = .ok (enumL mm, none) S := eI_enumT (by simp [i3])
        rw [st3, SRes.seq_nx, eSs_cons, eS_for, ei, Res.to_ok]
        dsimp only
        rcases hlp with ⟨f1, r', f2, a, b, rfl⟩ | ⟨i, f1, f2, f3⟩
        · rw [f1, f2, SRes.seq_nx, eSs_cons]
          dsimp only
          by_cases ql : areFrB (.tup ll) fs.length = false
          · rw [if_pos ql]
            rw [ql] at hlr
            simp [hlr, i4, permP, sLast]
          · rw [if_neg ql]
            have ql' : areFrB (.tup ll) fs.length = true := by simpa using ql
            rw [ql'] at hlr
            obtain ⟨M, l, rest, rfl, z2, z3, z4, z5, z6⟩ := zeros_ready (n := n) (fs := fs) hm hll h0 f1 ql'
            have z7 : rowQ (.tup ll) = l := by rw [z2, rowQ_row]
            rw [z7]
            have hd40 : fs.length ≤ 40 := by
              have : bigB fs.length (matV M :: rest).length = false := by simpa using qb
              unfold bigB at this
              simp only [Bool.or_eq_false_iff, decide_eq_false_iff_not] at this
              omega
            have i0 : op2 .ix (.tup (matV M :: rest)) (.int 0) S = .ok (matV M) S := ix_tup (i := 0) rfl
            have hz : zeroB (((matV M :: rest) : List PV).headD .non) l = ((M.map fun line => dotQ line l) == l) := matQ_of
            rw [hz]
            have st4 : ∀ A, evalS (CC (k + 5)) (.ifS (.not_ (.call 39 [(.inl 0), (.inl 1)] (.cons (.bin .ix (.var 0) (.k (.int (4)))) (.cons (.var 1) .nil)))) A .nil) [some V, some (.int (fs.length : Int)), a, b, none, none] S = .nx [some V, some (.int (fs.length : Int)), a, b, none, none] S := by
              intro A
              simp [hlr, i4, permP]
            rw [st4, SRes.seq_nx, eSs_cons, eS_for]
            have ei2 : evalI (CC (k + 5)) (.enum (.bin .ix (.bin .ix (.var 0) (.k (.int (3)))) (.k (.int (0))))) [some V, some (.int (fs.length : Int)), a, b, none, none] S = .ok (enumL (M.map (rowV true)), none) S := eI_enumT (by
              have : PV.tup (M.map (rowV true)) = matV M := rfl
              rw [this]
              generalize matV M = mv at *
              simp -implicitDefEqProofs [i3, i0])
            rw [ei2, Res.to_ok]
            dsimp only
            have hl2 := forL_k (t := .tup [2, 4]) (g := none) (f := fun r2 S2 => evalSs (CC (k + 5)) lzB r2 S2) (xs := enumL (M.map (rowV true))) (r := [some V, some (.int (fs.length : Int)), a, b, none, none]) (S := S)
              (fun n r S' => S' = S ∧ (∀ (i : Nat) (h : i < M.length), i < n → dotQ M[i] l = l[i]'(by omega)) ∧ ∃ a c, r = [some V, some (.int (fs.length : Int)), a, b, c, none]) (fun v S' => S' = S ∧ v = sZeros ∧ ¬ ∀ (i : Nat) (h : i < M.length), dotQ M[i] l = l[i]'(by omega))
              (fun i hi r S' hI => by
                obtain ⟨rfl, hd, a, c, rfl⟩ := hI
                have hi' : i < M.length := by simpa [enumL] using hi
                have ee : (enumL (M.map (rowV true)))[i] = .tup [nI i, rowV true M[i]] := by simp [enumL, nI, hi']
                obtain ⟨y1, y2⟩ := z5 M[i] (List.getElem_mem _)
                have hdt := law_dot_ok (k := k + 1) (t1 := true) (t2 := true) hS (RowsOk.of (d := 40) y2 z6 (by omega) (by omega))
                rw [← z2] at hdt
                have ixl := ix_row (S := S') (t := true) (xs := l) (p := i) (by omega)
                rw [← z2] at ixl
                have el : l.getD i 0 = l[i]'(by omega) := by simp [show i < l.length by omega]
                rw [el] at ixl
                have hne := ne_fr (S := S') (a := dotQ M[i] l) (b := l[i]'(by omega))
                refine ⟨[some V, some (.int (fs.length : Int)), some (nI i), b, some (rowV true M[i]), none], by rw [ee]; rfl, ?_⟩
                by_cases w : dotQ M[i] l = l[i]'(by omega)
                · refine .inl ⟨[some V, some (.int (fs.length : Int)), some (nI i), b, some (rowV true M[i]), none], S', .inl ?_, trivial, rfl, ?_, _, _, rfl⟩
                  · have : (dotQ M[i] l == l[i]'(by omega)) = true := by simpa using w
                    rw [this] at hne
                    generalize rowV true M[i] = x1 at *
                    generalize fr (dotQ M[i] l) = x2 at *
                    generalize fr (l[i]'(by omega)) = x3 at *
                    unfold nI
                    simp -implicitDefEqProofs [i4, hdt, ixl, hne, permP]
                  · intro j hj hj2
                    rcases Nat.lt_succ_iff_lt_or_eq.mp hj2 with h | rfl
                    · exact hd j hj h
                    · exact w
                · refine .inr ⟨_, _, ?_, rfl, rfl, fun all => w (all i hi')⟩
                  have : (dotQ M[i] l == l[i]'(by omega)) = false := by simpa using w
                  rw [this] at hne
                  generalize rowV true M[i] = x1 at *
                  generalize fr (dotQ M[i] l) = x2 at *
                  generalize fr (l[i]'(by omega)) = x3 at *
                  unfold nI sZeros
                  simp -implicitDefEqProofs [i4, hdt, ixl, hne, permP]) ⟨rfl, fun i h h2 => absurd h2 (by omega), _, _, rfl⟩
            have eq := map_eq_of (f := fun line => dotQ line l) (M := M) (l := l) (by omega)
            rcases hl2 with ⟨r', S', e, rfl, hd, a', c', rfl⟩ | ⟨v, S', e, rfl, rfl, hn⟩
            · have : (M.map (fun line => dotQ line l) == l) = true := eq.mpr fun i h => hd i h (by simpa [enumL] using h)
              rw [e, if_pos this]
              simp
            · have : ¬ (M.map (fun line => dotQ line l) == l) = true := fun z => hn (eq.mp z)
              rw [e, if_neg this]
              rfl
        · rw [f1, f3]
          rfl
  · have q' : formB v = false := by simpa using q
    have ev : faultV v = some sForm := by
      unfold faultV
      rw [if_pos q']
    rw [ev]
    rw [q'] at hfo
    simp [hfo, permP, sForm]
end Dg
end

section
set_option Elab.async false
set_option linter.all false
set_option maxRecDepth 100000
set_option maxHeartbeats 1000000
/-! A10: countings judged. -/
namespace Dg
open PySem L2
variable {S : Store}
theorem sub00 : T0.subs.lookup (0, 0) = some true := by decide +kernel
theorem sub11 : T0.subs.lookup (1, 1) = some true := by decide +kernel
theorem sub22 : T0.subs.lookup (2, 2) = some true := by decide +kernel
theorem sub30 : T0.subs.lookup (3, 0) = some false := by decide +kernel
theorem sub33 : T0.subs.lookup (3, 3) = some true := by decide +kernel
/-- a fault's place -/
def Pl (x : PV) : Prop := x = sForm ∨ x = sMany ∨ x = sFirst ∨ x = sLast ∨ x = sZeros ∨ ∃ i : Nat, x = nI i
theorem Pl.lk {n : Nat} {x : PV} (h : Pl x) : Lk n x := by
  rcases h with rfl | rfl | rfl | rfl | rfl | ⟨i, rfl⟩
  · exact Lk_str
  · exact Lk_str
  · exact Lk_str
  · exact Lk_str
  · exact Lk_str
  · exact Lk_int
theorem Pl.below {n : Nat} {x : PV} (h : Pl x) : below n x = true := by
  rcases h with rfl | rfl | rfl | rfl | rfl | ⟨i, rfl⟩ <;> rfl
theorem Pl.non {x : PV} (h : Pl x) : isNon x = false := by
  rcases h with rfl | rfl | rfl | rfl | rfl | ⟨i, rfl⟩ <;> rfl
theorem Pl.ne {x : PV} (h : Pl x) : op2 .ne (.tup [x]) (.tup []) S = .ok (.bl true) S := by
  rcases h with rfl | rfl | rfl | rfl | rfl | ⟨i, rfl⟩
  · exact ne_nil_one (d := .str (Str.ofString "form")) (by unfold sForm; rw [toD]) (by decide +kernel)
  · exact ne_nil_one (d := .str (Str.ofString "many")) (by unfold sMany; rw [toD]) (by decide +kernel)
  · exact ne_nil_one (d := .str (Str.ofString "first")) (by unfold sFirst; rw [toD]) (by decide +kernel)
  · exact ne_nil_one (d := .str (Str.ofString "last")) (by unfold sLast; rw [toD]) (by decide +kernel)
  · exact ne_nil_one (d := .str (Str.ofString "zeros")) (by unfold sZeros; rw [toD]) (by decide +kernel)
  · exact ne_nil_one (d := .int i) (by unfold nI; rw [toD]) (shaped_of (n := 1) rfl (by simp [PyData.depth, PyData.depthAll]) (by omega))
theorem fault_pl {v x : PV} (h : faultV v = some x) : Pl x := by
  unfold faultV faultT at h
  split at h
  · cases h; exact .inl rfl
  · split at h
    · split at h
      · cases h; exact .inr (.inl rfl)
      · split at h
        · cases h; exact .inr (.inr (.inl rfl))
        · split at h
          · cases h; exact .inr (.inr (.inr (.inr (.inr ⟨_, rfl⟩))))
          · split at h
            · cases h; exact .inr (.inr (.inr (.inl rfl)))
            · split at h
              · cases h
              · cases h; exact .inr (.inr (.inr (.inr (.inl rfl))))
    · cases h; exact .inl rfl
theorem need_counting_ok {k n : Nat} {v : PV} (hS : Wf S) (h : Sm (n + 5) v) (hf : faultV v = none) : GG (k + 7) 17 [v] S = .ok v S := by
  rw [show GG (k + 7) 17 [v] S = _ from Gp_succ (k := k + 6) (d := d_need_counting) rfl]
  refine evalD_ret hS ?_ h.below
  show evalSs (CC (k + 6)) m_need_counting [some v, none] S = _
  unfold m_need_counting
  have e := fault_ok (k := k) hS h
  rw [hf] at e
  have e' : GG (k + 6) 16 [v] S = .ok (.tup []) S := e
  simp [e', permP, bindT, sizeLine]
theorem need_counting_exc {k n : Nat} {v x : PV} (hS : Wf S) (h : Sm (n + 5) v) (hf : faultV v = some x) : GG (k + 7) 17 [v] S = .exc 1 x S := by
  rw [show GG (k + 7) 17 [v] S = _ from Gp_succ (k := k + 6) (d := d_need_counting) rfl]
  refine evalD_exc (r := [some v, some (.tup [x])]) hS ?_ (fault_pl hf).below
  show evalSs (CC (k + 6)) m_need_counting [some v, none] S = _
  unfold m_need_counting
  have e := fault_ok (k := k) hS h
  rw [hf] at e
  have e' : GG (k + 6) 16 [v] S = .ok (.tup [x]) S := e
  have i0 : op2 .ix (.tup [x]) (.int 0) S = .ok x S := rfl
  simp [e', permP, bindT, sizeLine, (fault_pl hf).ne, i0]
theorem Lk_two {n : Nat} {s : Str} {x : PV} (h : Lk n x) : Lk (n + 1) (.lst [.str s, x]) := Lk_lst (by simp) fun y hy => by
  simp only [List.mem_cons, List.not_mem_nil, or_false] at hy
  rcases hy with rfl | rfl
  · exact Lk_str
  · exact h
theorem judged_ok {k : Nat} {v : PV} (hS : Wf S) (h : Sm 7 v) : GG (k + 11) 47 [v] S = .ok (.bl true) S := by
  rw [show GG (k + 11) 47 [v] S = _ from Gp_succ (k := k + 10) (d := d__law_judged) rfl]
  refine evalD_ret hS ?_ rfl
  show evalSs (CC (k + 10)) m__law_judged [some v, none, none, none] S = _
  unfold m__law_judged
  have e := law_fault_ok (k := k + 4) (n := 2) hS h
  have hs := sub11
  cases hf : faultV v with
  | none =>
    rw [hf] at e
    have e' : GG (k + 10) 41 [v] S = .ok .non S := e
    have nc := need_counting_ok (k := k + 3) (n := 2) hS h hf
    have l1 := like_ok (k := k + 2) (n := 7) hS h.lk
    have l2 := like_ok (k := k + 1) (n := 8) (v := .lst [.str (Str.ofString "fine"), v]) hS (Lk_two h.lk)
    generalize Str.ofString "fine" = s_fine at *
    generalize Str.ofString "bad" = s_bad at *
    simp -implicitDefEqProofs [eS_try, e', nc, l1, l2, permP, bindT, sizeLine]
  | some x =>
    rw [hf] at e
    have px := fault_pl hf
    have e' : GG (k + 10) 41 [v] S = .ok x S := e
    have nc := need_counting_exc (k := k + 3) (n := 2) hS h hf
    have l2 := like_ok (k := k + 1) (n := 8) (v := .lst [.str (Str.ofString "bad"), x]) hS (Lk_two px.lk)
    have nn := px.non
    generalize Str.ofString "fine" = s_fine at *
    generalize Str.ofString "bad" = s_bad at *
    simp -implicitDefEqProofs [eS_try, e', nc, l2, permP, bindT, handle, hs, nn, sizeLine]
end Dg
end

section
set_option Elab.async false
set_option linter.all false
set_option maxRecDepth 100000
set_option maxHeartbeats 1000000
/-! A11: the value of a counting, as the program tells it. -/
namespace Dg
open PySem L2
variable {S : Store}
/-- a counting -/
structure CV (b t d : Nat) (f : List Rat) (ms : List Mat) (l : List Rat) : Prop where
  b2 : 2 ≤ b
  b10 : b ≤ 10
  t6 : t ≤ 6
  fl : f.length = d
  ll : l.length = d
  ml : ms.length = b ^ t
  d40 : d ≤ 40
  sz : d * d * b ^ t ≤ 20000
  mo : ∀ M ∈ ms, M.length = d ∧ ∀ line ∈ M, line.length = d
  zero : (ms.headD []).map (fun line => dotQ line l) = l
theorem head_mats {ms : List Mat} : (ms.map matV).headD .non = matV (ms.headD []) ∨ ms = [] := by
  cases ms with
  | nil => exact .inr rfl
  | cons M ms => exact .inl rfl
theorem CV.ne {b t d : Nat} {f l : List Rat} {ms : List Mat} (h : CV b t d f ms l) : ms ≠ [] := by
  intro e
  have := h.ml
  have := Nat.pow_pos (n := t) (show 0 < b by have := h.b2; omega)
  rw [e] at *
  simp at *; omega
theorem CV.form {b t d : Nat} {f l : List Rat} {ms : List Mat} (h : CV b t d f ms l) : formB (cntV b t f ms l) = true := by
  show form5 (nI b) (nI t) (rowV true f) (matsV ms) (rowV true l) = true
  unfold form5
  have h1 : isWh (nI b) 2 (.int 10) = true := isWh_iff.mpr ⟨b, rfl, by have := h.b2; omega, by have := h.b10; omega⟩
  have h2 : isWh (nI t) 0 (.int 6) = true := isWh_iff.mpr ⟨t, rfl, by omega, by have := h.t6; omega⟩
  have h3 : (itemsP (rowV true f)).length = d := by
    show (f.map fr).length = d
    rw [List.length_map, h.fl]
  have h4 : (itemsP (rowV true l)).length = d := by
    show (l.map fr).length = d
    rw [List.length_map, h.ll]
  have h5 : (itemsP (matsV ms)).length = b ^ t := by
    show (ms.map matV).length = b ^ t
    rw [List.length_map, h.ml]
  have h6 : pwP (nI b) (nI t) = b ^ t := by simp [pwP, nI]
  rw [h1, h2, h3, h4, h5, h6]
  simp [isT, rowV, matsV]
theorem CV.none {b t d : Nat} {f l : List Rat} {ms : List Mat} (h : CV b t d f ms l) : faultV (cntV b t f ms l) = none := by
  unfold faultV
  rw [h.form, if_neg Bool.noConfusion]
  show faultT (f.map fr) (ms.map matV) (l.map fr) = _
  unfold faultT
  have e1 : (f.map fr).length = d := by rw [List.length_map, h.fl]
  have e2 : (ms.map matV).length = b ^ t := by rw [List.length_map, h.ml]
  rw [e1, e2]
  have hb : bigB d (b ^ t) = false := by
    unfold bigB
    have := h.d40
    have h2 : ((d : Int) * d * ((b ^ t : Nat) : Int)) ≤ 20000 := by
      have := h.sz
      have e : ((d : Int) * d * ((b ^ t : Nat) : Int)) = ((d * d * b ^ t : Nat) : Int) := by rw [Int.natCast_mul, Int.natCast_mul]
      rw [e]; omega
    simp only [Bool.or_eq_false_iff, decide_eq_false_iff_not]
    omega
  have hf : areFrB (.tup (f.map fr)) d = true := by
    have := areFrB_row (qs := f)
    rw [h.fl] at this
    exact this
  have hl : areFrB (.tup (l.map fr)) d = true := by
    have := areFrB_row (qs := l)
    rw [h.ll] at this
    exact this
  have hm : (ms.map matV).findIdx? (fun M => !matB M d) = Option.none := by
    rw [List.findIdx?_eq_none_iff]
    intro x hx
    obtain ⟨M, hM, rfl⟩ := List.mem_map.mp hx
    obtain ⟨m1, m2⟩ := h.mo M hM
    rw [matB_mat m1 m2]; rfl
  rw [hb, if_neg Bool.false_ne_true, hf, if_neg (by simp), hm]
  dsimp only
  rw [hl, if_neg (by simp)]
  have hz : zeroB ((ms.map matV).headD .non) (rowQ (.tup (l.map fr))) = true := by
    rw [show rowQ (.tup (l.map fr)) = l from rowQ_row]
    rcases head_mats (ms := ms) with e | e
    · rw [e, matQ_of, h.zero]; simp
    · exact absurd e h.ne
  rw [hz, if_pos rfl]
theorem Sm_rowV {n : Nat} {qs : List Rat} (hl : qs.length ≤ 1000) (h : ∀ q ∈ qs, Sz 40 q) {t : Bool} : Sm (n + 2) (rowV t qs) := by
  cases t
  · exact Sm_lst (by simpa using hl) (Sm_map fun q hq => Sm_fr (h q hq))
  · exact Sm_tup (by simpa using hl) (Sm_map fun q hq => Sm_fr (h q hq))
theorem Sm_matV {n : Nat} {M : Mat} (hl : M.length ≤ 1000) (h : ∀ line ∈ M, line.length ≤ 1000 ∧ ∀ q ∈ line, Sz 40 q) : Sm (n + 3) (matV M) :=
  Sm_tup (by simpa using hl) (Sm_map fun line hline => Sm_rowV (h line hline).1 (h line hline).2)
theorem Sm_nI {n m : Nat} (h : m ≤ 2 ^ 40) : Sm n (nI m) := Sm_int (by rw [Int.natAbs_natCast]; exact h)
theorem Sm_cnt {n b t : Nat} {f l : List Rat} {ms : List Mat} (hb : b ≤ 1000) (ht : t ≤ 1000) (hf : f.length ≤ 1000 ∧ ∀ q ∈ f, Sz 40 q) (hl : l.length ≤ 1000 ∧ ∀ q ∈ l, Sz 40 q) (hm : ms.length ≤ 1000 ∧ ∀ M ∈ ms, M.length ≤ 1000 ∧ ∀ line ∈ M, line.length ≤ 1000 ∧ ∀ q ∈ line, Sz 40 q) : Sm (n + 5) (cntV b t f ms l) := by
  refine Sm_tup (by simp) fun x hx => ?_
  simp only [List.mem_cons, List.not_mem_nil, or_false] at hx
  have p : (1000 : Nat) ≤ 2 ^ 40 := by decide +kernel
  rcases hx with rfl | rfl | rfl | rfl | rfl
  · exact Sm_nI (by omega)
  · exact Sm_nI (by omega)
  · exact Sm_mono (Sm_rowV (n := 0) hf.1 hf.2) (by omega)
  · exact Sm_tup (by simpa using hm.1) (Sm_map fun M hM => Sm_matV (hm.2 M hM).1 (hm.2 M hM).2)
  · exact Sm_mono (Sm_rowV (n := 0) hl.1 hl.2) (by omega)
/-! ### numbers -/
def wholeB (v : PV) : Bool := match v with
  | .tup xs => xs.all fun x => isWh x 0 .non
  | _ => false
theorem are_wholes_non {k n : Nat} {v : PV} (hS : Wf S) (h : Sm (n + 1) v) : GG (k + 2) 2 [v, .int 0, .non] S = .ok (.bl (wholeB v)) S := by
  rw [show GG (k + 2) 2 [v, .int 0, .non] S = _ from Gp_succ (k := k + 1) (d := d_are_wholes) rfl]
  refine evalD_ret hS ?_ rfl
  show evalSs (CC (k + 1)) m_are_wholes [some v, some (.int 0), some .non, none, none] S = _
  unfold m_are_wholes
  have hr := is_row_ok (k := k) (v := v) (m := .non) hS h.ok (.inl rfl)
  rw [isRw_non] at hr
  rcases h.kinds with rfl | ⟨_, rfl⟩ | ⟨i, rfl⟩ | ⟨xs, rfl⟩ | ⟨_, rfl⟩
  · simp [permP, hr, isT, wholeB]
  · simp [permP, hr, isT, wholeB]
  · simp [permP, hr, isT, wholeB]
  · obtain ⟨hl, hx⟩ := h.items
    have hc := comp_ok (C := CC (k + 1)) (S := S) (own := [3, 4]) (t := .name 4) (it := .of (.var 0)) (e := (.call 0 [(.inl 0), (.inl 1), (.inl 2)] (.cons (.var 4) (.cons (.var 1) (.cons (.var 2) .nil))))) (r := [some (.tup xs), some (.int 0), some .non, none, none]) (xs := xs) (h := fun x => .bl (isWh x 0 .non)) (by simp [seqOf]) (by
      have : sizeLine = 16777216 := rfl
      omega) (fun x hx' => by
      unfold turnF
      simp [bindT, wipeP, permP, is_whole_ok hS (hx x hx').ok (.inl rfl)])
    have ha := all_p (S := S) (p := fun x => isWh x 0 .non) (xs := xs)
    simp only [wholeB]
    generalize (xs.map fun x => PV.bl (isWh x 0 .non)) = ys at *
    simp -implicitDefEqProofs [permP, hr, isT, hc, ha]
  · simp [permP, hr, isT, wholeB]
theorem wholeB_nI {vs : List Nat} : wholeB (.tup (vs.map nI)) = true := by
  unfold wholeB
  dsimp only
  rw [List.all_eq_true]
  intro x hx
  obtain ⟨v, _, rfl⟩ := List.mem_map.mp hx
  unfold isWh nI
  simp
theorem need_numbers_ok {k : Nat} {vs : List Nat} (hS : Wf S) (hl : vs.length ≤ 1000) (hv : ∀ v ∈ vs, v ≤ 2 ^ 40) : GG (k + 3) 12 [.tup (vs.map nI), nI vs.length] S = .ok (.tup (vs.map nI)) S := by
  rw [show GG (k + 3) 12 [.tup (vs.map nI), nI vs.length] S = _ from Gp_succ (k := k + 2) (d := d_need_numbers) rfl]
  have sm : Sm 1 (.tup (vs.map nI)) := Sm_tup (by simpa using hl) (Sm_map fun v q => Sm_nI (hv v q))
  refine evalD_ret hS ?_ sm.below
  show evalSs (CC (k + 2)) m_need_numbers [some (.tup (vs.map nI)), some (nI vs.length)] S = _
  unfold m_need_numbers
  have h1 := are_wholes_non (k := k) hS sm
  rw [wholeB_nI] at h1
  have h2 : opn .len [.tup (vs.map nI)] S = .ok (nI vs.length) S := by rw [opn_len_tup, List.length_map]; rfl
  have h3 : op2 .ne (nI vs.length) (nI vs.length) S = .ok (.bl false) S := by unfold nI; rw [op_neI]; simp
  generalize PV.tup (vs.map nI) = V at *
  generalize nI vs.length = n at *
  simp -implicitDefEqProofs [permP, h1, h2, h3]
/-- what is no such row of numbers -/
def badNums (v : PV) (t : Nat) : Prop := wholeB v = false ∨ ∃ xs, v = .tup xs ∧ xs.length ≠ t
theorem need_numbers_exc {k n t : Nat} {v : PV} (hS : Wf S) (h : Sm (n + 1) v) (hb : badNums v t) : GG (k + 3) 12 [v, nI t] S = .exc 0 v S := by
  rw [show GG (k + 3) 12 [v, nI t] S = _ from Gp_succ (k := k + 2) (d := d_need_numbers) rfl]
  refine evalD_exc (r := [some v, some (nI t)]) hS ?_ h.below
  show evalSs (CC (k + 2)) m_need_numbers [some v, some (nI t)] S = _
  unfold m_need_numbers
  have h1 := are_wholes_non (k := k) hS h
  cases q : wholeB v
  · rw [q] at h1
    simp [permP, h1]
  · rcases hb with hb | ⟨xs, rfl, hx⟩
    · rw [q] at hb; cases hb
    · rw [q] at h1
      have h3 : op2 .ne (.int (xs.length : Int)) (nI t) S = .ok (.bl true) S := by
        unfold nI
        rw [op_neI]
        have : ((xs.length : Int) == (t : Int)) = false := by rw [cast_beq]; simpa using hx
        rw [this]; rfl
      generalize nI t = T at *
      simp -implicitDefEqProofs [permP, h1, h3]
/-! ### the value -/
theorem value_pre {k n b t d : Nat} {V : PV} {f l : List Rat} {ms : List Mat} (hS : Wf S) (h : CV b t d f ms l) (sm : Sm (n + 5) (cntV b t f ms l)) : GG (k + 7) 17 [cntV b t f ms l] S = .ok (cntV b t f ms l) S := need_counting_ok hS sm h.none
theorem mulD {d c : Nat} (hd : d ≤ 1000) (hc : c ≤ 1000) : op2 .mul (nI d) (nI d) S = .ok (.int ((d : Int) * d)) S ∧ op2 .mul (.int ((d : Int) * d)) (nI c) S = .ok (.int ((d : Int) * d * c)) S :=
  ⟨op_mulR (by omega), op_mulR (by omega)⟩
theorem value_ok {k n d D N m p b t q : Nat} {f l : List Rat} {ms : List Mat} {vs : List Nat} (hS : Wf S) (h : CV b t d f ms l) (sm : Sm (n + 5) (cntV b t f ms l)) (hc : CntOk d D N f ms l) (ht : vs.length = t) (hv : ∀ v ∈ vs, v ≤ 2 ^ 40 ∨ True) (hv2 : ∀ v ∈ vs, v < b ^ q) (hn : GG (k + 7) 12 [.tup (vs.map nI), nI t] S = .ok (.tup (vs.map nI)) S) (hq : q ≤ 1000)
    (R : Rm d D N m p (colsN b q vs).length) (hw : d * d * (colsN b q vs).length ≤ 100000) : GG (k + 8) 18 [cntV b t f ms l, .tup (vs.map nI)] S = .ok (fr (worthQ f ms l (colsN b q vs))) S := by
  rw [show GG (k + 8) 18 [cntV b t f ms l, .tup (vs.map nI)] S = _ from Gp_succ (k := k + 7) (d := d_value_of) rfl]
  refine evalD_ret hS ?_ below_fr
  show evalSs (CC (k + 7)) m_value_of [some (cntV b t f ms l), some (.tup (vs.map nI)), none, none, none] S = _
  unfold m_value_of
  have hb0 : 0 < b := by have := h.b2; omega
  have hnc := need_counting_ok (k := k) hS sm h.none
  have hcs := columns_ok (k := k + 6) hS hb0 h.b10 hv2 (by rw [ht]; have := h.t6; omega) hq
  have hlt : ∀ c ∈ colsN b q vs, c < ms.length := fun c hc => by
    have := colsN_mem hb0 hc
    rw [ht, ← h.ml] at this
    exact this
  have hcl : (colsN b q vs).length ≤ 1000 := Nat.le_trans colsN_len hq
  have hend := val_end (k := k + 4) (b := b) (t := t) (V := .tup (vs.map nI)) hS hc hlt R hcl
  generalize colsN b q vs = cs at *
  have i0 : op2 .ix (cntV b t f ms l) (.int 0) S = .ok (nI b) S := rfl
  have i1 : op2 .ix (cntV b t f ms l) (.int 1) S = .ok (nI t) S := rfl
  have i2 : op2 .ix (cntV b t f ms l) (.int 2) S = .ok (rowV true f) S := rfl
  have l1 : opn .len [rowV true f] S = .ok (nI d) S := by rw [len_row, h.fl]; rfl
  have l2 : opn .len [.lst (cs.map nI)] S = .ok (nI cs.length) S := by rw [opn_len_lst, List.length_map]; rfl
  obtain ⟨p1, p2⟩ := mulD (S := S) (d := d) (c := cs.length) (by have := h.d40; omega) hcl
  have p3 : decide ((100000 : Int) < (d : Int) * d * cs.length) = false := by
    have e : ((d : Int) * d * (cs.length : Int)) = ((d * d * cs.length : Nat) : Int) := by rw [Int.natCast_mul, Int.natCast_mul]
    rw [e]
    simp; omega
  generalize cntV b t f ms l = C at *
  generalize PV.tup (vs.map nI) = V at *
  generalize (d : Int) * d * cs.length = y1 at *
  generalize (d : Int) * d = y2 at *
  generalize PV.lst (cs.map nI) = y3 at *
  generalize nI d = y4 at *
  generalize nI cs.length = y5 at *
  generalize nI b = y6 at *
  generalize nI t = y7 at *
  have st : ∀ A, evalSs (CC (k + 7)) (.cons (.ex (.call 17 [(.inl 0)] (.cons (.var 0) .nil))) (.cons (.ex (.call 12 [(.inl 0), (.inl 1)] (.cons (.var 1) (.cons (.bin .ix (.var 0) (.k (.int (1)))) .nil)))) (.cons (.asg (.name 2) (.call 13 [(.inl 0), (.inl 1)] (.cons (.bin .ix (.var 0) (.k (.int (0)))) (.cons (.var 1) .nil)))) (.cons (.ifS (.bin .gt (.bin .mul (.bin .mul (.bi .len (.cons (.bin .ix (.var 0) (.k (.int (2)))) .nil)) (.bi .len (.cons (.bin .ix (.var 0) (.k (.int (2)))) .nil))) (.bi .len (.cons (.var 2) .nil))) (.k (.int (100000)))) (.cons (.raise 3 (.k (.int (100000)))) .nil) .nil) A)))) [some C, some V, none, none, none] S = evalSs (CC (k + 7)) A [some C, some V, some y3, none, none] S := by
    intro A
    generalize rowV true f = y8 at *
    simp -implicitDefEqProofs [hnc, hn, hcs, i0, i1, i2, l1, l2, p1, p2, p3, permP, bindT]
  rw [st]
  exact hend
theorem value_many {k n d b t q : Nat} {f l : List Rat} {ms : List Mat} {vs : List Nat} (hS : Wf S) (h : CV b t d f ms l) (sm : Sm (n + 5) (cntV b t f ms l)) (ht : vs.length = t) (hv2 : ∀ v ∈ vs, v < b ^ q) (hn : GG (k + 7) 12 [.tup (vs.map nI), nI t] S = .ok (.tup (vs.map nI)) S) (hq : q ≤ 1000)
    (hw : 100000 < d * d * (colsN b q vs).length) : GG (k + 8) 18 [cntV b t f ms l, .tup (vs.map nI)] S = .exc 3 (.int 100000) S := by
  rw [show GG (k + 8) 18 [cntV b t f ms l, .tup (vs.map nI)] S = _ from Gp_succ (k := k + 7) (d := d_value_of) rfl]
  refine evalD_exc (r := [some (cntV b t f ms l), some (.tup (vs.map nI)), some (.lst ((colsN b q vs).map nI)), none, none]) hS ?_ rfl
  show evalSs (CC (k + 7)) m_value_of [some (cntV b t f ms l), some (.tup (vs.map nI)), none, none, none] S = _
  unfold m_value_of
  have hb0 : 0 < b := by have := h.b2; omega
  have hnc := need_counting_ok (k := k) hS sm h.none
  have hcs := columns_ok (k := k + 6) hS hb0 h.b10 hv2 (by rw [ht]; have := h.t6; omega) hq
  have hcl : (colsN b q vs).length ≤ 1000 := Nat.le_trans colsN_len hq
  generalize colsN b q vs = cs at *
  have i0 : op2 .ix (cntV b t f ms l) (.int 0) S = .ok (nI b) S := rfl
  have i1 : op2 .ix (cntV b t f ms l) (.int 1) S = .ok (nI t) S := rfl
  have i2 : op2 .ix (cntV b t f ms l) (.int 2) S = .ok (rowV true f) S := rfl
  have l1 : opn .len [rowV true f] S = .ok (nI d) S := by rw [len_row, h.fl]; rfl
  have l2 : opn .len [.lst (cs.map nI)] S = .ok (nI cs.length) S := by rw [opn_len_lst, List.length_map]; rfl
  obtain ⟨p1, p2⟩ := mulD (S := S) (d := d) (c := cs.length) (by have := h.d40; omega) hcl
  have p3 : decide ((100000 : Int) < (d : Int) * d * cs.length) = true := by
    have e : ((d : Int) * d * (cs.length : Int)) = ((d * d * cs.length : Nat) : Int) := by rw [Int.natCast_mul, Int.natCast_mul]
    rw [e]
    simp; omega
  generalize cntV b t f ms l = C at *
  generalize PV.tup (vs.map nI) = V at *
  generalize (d : Int) * d * cs.length = y1 at *
  generalize (d : Int) * d = y2 at *
  generalize PV.lst (cs.map nI) = y3 at *
  generalize nI d = y4 at *
  generalize nI cs.length = y5 at *
  generalize nI b = y6 at *
  generalize nI t = y7 at *
  generalize rowV true f = y8 at *
  simp -implicitDefEqProofs [hnc, hn, hcs, i0, i1, i2, l1, l2, p1, p2, p3, permP, bindT]
theorem value_bad {k n d b t : Nat} {v : PV} {f l : List Rat} {ms : List Mat} (hS : Wf S) (h : CV b t d f ms l) (sm : Sm (n + 5) (cntV b t f ms l)) (sv : Sm (n + 1) v) (hb : badNums v t) : GG (k + 8) 18 [cntV b t f ms l, v] S = .exc 0 v S := by
  rw [show GG (k + 8) 18 [cntV b t f ms l, v] S = _ from Gp_succ (k := k + 7) (d := d_value_of) rfl]
  refine evalD_exc (r := [some (cntV b t f ms l), some v, none, none, none]) hS ?_ sv.below
  show evalSs (CC (k + 7)) m_value_of [some (cntV b t f ms l), some v, none, none, none] S = _
  unfold m_value_of
  have hnc := need_counting_ok (k := k) hS sm h.none
  have hnn := need_numbers_exc (k := k + 4) hS sv hb
  have i1 : op2 .ix (cntV b t f ms l) (.int 1) S = .ok (nI t) S := rfl
  generalize cntV b t f ms l = C at *
  generalize nI t = y7 at *
  simp -implicitDefEqProofs [hnc, hnn, i1, permP]
theorem heard_fine {k : Nat} {C V x : PV} (hS : Wf S) (hx : below S.length x = true) (h : GG k 18 [C, V] S = .ok x S) : GG (k + 1) 49 [C, V] S = .ok (.lst [.str (Str.ofString "fine"), x]) S := by
  rw [show GG (k + 1) 49 [C, V] S = _ from Gp_succ (d := d__law_heard) rfl]
  refine evalD_ret hS ?_ (by simp [below, belows, hx])
  show evalSs (CC k) m__law_heard [some C, some V, none, none] S = _
  unfold m__law_heard
  generalize Str.ofString "fine" = s_fine at *
  simp -implicitDefEqProofs [eS_try, permP, h, bindT, sizeLine]
theorem heard_bad {k : Nat} {C V x : PV} (hS : Wf S) (hx : below S.length x = true) (h : GG k 18 [C, V] S = .exc 0 x S) : GG (k + 1) 49 [C, V] S = .ok (.lst [.str (Str.ofString "bad"), x]) S := by
  rw [show GG (k + 1) 49 [C, V] S = _ from Gp_succ (d := d__law_heard) rfl]
  refine evalD_ret hS ?_ (by simp [below, belows, hx])
  show evalSs (CC k) m__law_heard [some C, some V, none, none] S = _
  unfold m__law_heard
  generalize Str.ofString "fine" = s_fine at *
  generalize Str.ofString "bad" = s_bad at *
  simp -implicitDefEqProofs [eS_try, permP, h, bindT, handle, sub00, sizeLine]
theorem heard_many {k : Nat} {C V x : PV} (hS : Wf S) (hx : below S.length x = true) (h : GG k 18 [C, V] S = .exc 3 x S) : GG (k + 1) 49 [C, V] S = .ok (.lst [.str (Str.ofString "many"), x]) S := by
  rw [show GG (k + 1) 49 [C, V] S = _ from Gp_succ (d := d__law_heard) rfl]
  refine evalD_ret hS ?_ (by simp [below, belows, hx])
  show evalSs (CC k) m__law_heard [some C, some V, none, none] S = _
  unfold m__law_heard
  generalize Str.ofString "fine" = s_fine at *
  generalize Str.ofString "bad" = s_bad at *
  generalize Str.ofString "many" = s_many at *
  simp -implicitDefEqProofs [eS_try, permP, h, bindT, handle, sub30, sub33, sizeLine]
end Dg
end

section
set_option Elab.async false
set_option linter.all false
set_option maxRecDepth 100000
set_option maxHeartbeats 1000000
/-! A12: drawn fractions. -/
namespace Dg
open PySem L2
theorem evalD_dst {C : Cxt} {n N M : Nat} {b : MSs} {vs : List PV} {R S S' : Store} {v : PV} (h : Dst N R S) (h' : Dst M R S') (e : evalSs C b (startP n vs) S = .ret v S') (hv : below S.length v = true) : evalD C false n b vs S = .ok v S' := by
  refine evalD_new (S' := S') (R := []) ?_ (by rw [h'.len, h.len]) (by rw [List.append_nil]; exact e) (by rw [List.append_nil]; unfold frz; exact frzG_below hv)
  have := h'.wf
  unfold Wf at this
  rw [h.len, ← h'.len]; exact this
/-- a drawn fraction -/
structure Dr (q : Rat) : Prop where
  bd : Bd 60 360 q
  inv : Bd 60 360 q⁻¹
theorem bd60 {a c : Int} (h : a.natAbs ≤ 6) (h1 : 1 ≤ c) (h2 : c ≤ 6) : Bd 60 360 (Rat.divInt a c) := by
  have : c = 1 ∨ c = 2 ∨ c = 3 ∨ c = 4 ∨ c = 5 ∨ c = 6 := by omega
  rcases this with rfl | rfl | rfl | rfl | rfl | rfl
  · exact ⟨a * 60, (Rat.divInt_mul_right (d := 1) (a := 60) (by decide)).symm, by omega⟩
  · exact ⟨a * 30, (Rat.divInt_mul_right (d := 2) (a := 30) (by decide)).symm, by omega⟩
  · exact ⟨a * 20, (Rat.divInt_mul_right (d := 3) (a := 20) (by decide)).symm, by omega⟩
  · exact ⟨a * 15, (Rat.divInt_mul_right (d := 4) (a := 15) (by decide)).symm, by omega⟩
  · exact ⟨a * 12, (Rat.divInt_mul_right (d := 5) (a := 12) (by decide)).symm, by omega⟩
  · exact ⟨a * 10, (Rat.divInt_mul_right (d := 6) (a := 10) (by decide)).symm, by omega⟩
theorem Dr.of {n d : Int} (h : n.natAbs ≤ 6) (h1 : 1 ≤ d) (h2 : d ≤ 6) : Dr (Rat.divInt n d) := by
  refine ⟨bd60 h h1 h2, ?_⟩
  rw [Rat.inv_divInt]
  rcases Int.lt_trichotomy n 0 with q | rfl | q
  · rw [← Rat.neg_divInt_neg]
    exact bd60 (by omega) (by omega) (by omega)
  · rw [Rat.divInt_zero]; exact Bd.zero
  · exact bd60 (by omega) (by omega) (by omega)
theorem Dr.sz {q : Rat} (h : Dr q) : Sz 40 q := h.bd.sz (by decide) (by decide +kernel) (by decide +kernel)
theorem Dr.zero : Dr 0 := by
  have := Dr.of (n := 0) (d := 1) (by decide) (by decide) (by decide)
  rwa [Rat.zero_divInt] at this
theorem fr_int {i : Int} : fr (Rat.divInt i 1) = .tup [.int i, .int 1] := by
  unfold fr
  rw [num_pos_div (by decide), den_pos_div (by decide)]
  simp
theorem fr_zero : fr 0 = .tup [.int 0, .int 1] := rfl
theorem fraction_ok {k N : Nat} {R S : Store} (h : Dst N R S) (hN : N ≤ 900000000) : ∃ (q : Rat) (S' : Store), Dr q ∧ Dst (N + 3) R S' ∧ GG (k + 3) 34 [.ref 0] S = .ok (fr q) S' := by
  rw [show GG (k + 3) 34 [.ref 0] S = _ from Gp_succ (k := k + 2) (d := d__law_fraction) rfl]
  obtain ⟨v, S1, v1, h1, e1⟩ := draw (k := k) (L := 6) h (by omega) (by omega) (by omega)
  have e1' : GG (k + 2) 21 [.ref 0, .int 6] S = .ok (.int v) S1 := e1
  have key : ∃ (q : Rat) (S' : Store), Dr q ∧ Dst (N + 3) R S' ∧ evalSs (CC (k + 2)) m__law_fraction [some (.ref 0), none] S = .ret (fr q) S' := by
    unfold m__law_fraction
    by_cases z : v < 2
    · refine ⟨0, S1, Dr.zero, h1.mono (by omega), ?_⟩
      have z' : decide ((v : Int) < 2) = true := by simp; omega
      rw [fr_zero]
      generalize (v : Int) = w at *
      simp -implicitDefEqProofs [e1', permP, bindT, z', sizeLine]
    · by_cases z2 : v < 5
      · obtain ⟨u, S2, u1, h2, e2⟩ := draw (k := k) (L := 5) h1 (by omega) (by omega) (by omega)
        have e2' : GG (k + 2) 21 [.ref 0, .int 5] S1 = .ok (.int u) S2 := e2
        refine ⟨Rat.divInt ((u : Int) - 2) 1, S2, Dr.of (by omega) (by decide) (by decide), h2.mono (by omega), ?_⟩
        have z' : decide ((v : Int) < 2) = false := by simp; omega
        have z3 : decide ((v : Int) < 5) = true := by simp; omega
        rw [fr_int]
        generalize (v : Int) = w at *
        simp -implicitDefEqProofs [e1', e2', permP, bindT, z', z3, sizeLine]
      · obtain ⟨u, S2, u1, h2, e2⟩ := draw (k := k) (L := 13) h1 (by omega) (by omega) (by omega)
        obtain ⟨x, S3, x1, h3, e3⟩ := draw (k := k) (L := 6) h2 (by omega) (by omega) (by omega)
        have e2' : GG (k + 2) 21 [.ref 0, .int 13] S1 = .ok (.int u) S2 := e2
        have e3' : GG (k + 2) 21 [.ref 0, .int 6] S2 = .ok (.int x) S3 := e3
        refine ⟨Rat.divInt ((u : Int) - 6) (1 + (x : Int)), S3, Dr.of (by omega) (by omega) (by omega), h3.mono (by omega), ?_⟩
        have er := law_ratio_ok (k := k) (m := 3) (u := (u : Int) - 6) (d := 1 + (x : Int)) h3.wf (by omega) (by omega) (by omega)
        have z' : decide ((v : Int) < 2) = false := by simp; omega
        have z3 : decide ((v : Int) < 5) = false := by simp; omega
        generalize fr (Rat.divInt ((u : Int) - 6) (1 + (x : Int))) = y at *
        generalize (v : Int) = w at *
        simp -implicitDefEqProofs [e1', e2', e3', er, permP, bindT, z', z3]
  obtain ⟨q, S', d, h', e⟩ := key
  exact ⟨q, S', d, h', evalD_dst h h' e below_fr⟩
/-- a comprehension of draws, each of some cost -/
theorem compL_cost {α : Type} {f : PV → Store → Res (Option PV)} {g : α → PV} {P : α → Prop} {R : Store} {c : Nat} : ∀ {xs : List PV} {M : Nat} {S : Store}, Dst M R S → M + c * xs.length ≤ 800000000 → (∀ x ∈ xs, ∀ M' S', Dst M' R S' → M' + c ≤ 800000000 → ∃ z S'', P z ∧ Dst (M' + c) R S'' ∧ f x S' = .ok (some (g z)) S'') →
    ∃ (zs : List α) (S' : Store), zs.length = xs.length ∧ (∀ z ∈ zs, P z) ∧ Dst (M + c * xs.length) R S' ∧ compL f none xs S = .ok (zs.map g) S'
  | [], M, S, h, _, _ => ⟨[], S, rfl, by simp, h, by unfold compL; rfl⟩
  | x :: xs, M, S, h, hM, hx => by
    rw [List.length_cons, Nat.mul_succ] at hM
    obtain ⟨z, S1, hz, h1, e1⟩ := hx x (List.mem_cons_self ..) M S h (by omega)
    obtain ⟨zs, S2, hl, hP, h2, e2⟩ := compL_cost (c := c) (xs := xs) h1 (by omega) fun y hy => hx y (List.mem_cons_of_mem _ hy)
    refine ⟨z :: zs, S2, by simp [hl], ?_, ?_, ?_⟩
    · intro y hy
      rcases List.mem_cons.mp hy with rfl | hy
      · exact hz
      · exact hP y hy
    · rw [List.length_cons, Nat.mul_succ, show M + (c * xs.length + c) = M + c + c * xs.length by omega]; exact h2
    · unfold compL
      rw [e1, Res.bind_ok, if_pos (show Grd none S1 from trivial), e2, Res.bind_ok]
      rfl
theorem comp_cost {α : Type} {C : Cxt} {own : List Nat} {t : TGT} {itt : IT} {e : ME} {r : PEnv} {g : α → PV} {P : α → Prop} {R S S0 : Store} {xs : List PV} {M c : Nat} (hi : evalI C itt r S0 = .ok (xs, none) S) (hl : xs.length < 16777216) (h : Dst M R S) (hM : M + c * xs.length ≤ 800000000) (hx : ∀ x ∈ xs, ∀ M' S', Dst M' R S' → M' + c ≤ 800000000 → ∃ z S'', P z ∧ Dst (M' + c) R S'' ∧ turnF C own t .none e r x S' = .ok (some (g z)) S'') :
    ∃ (zs : List α) (S' : Store), zs.length = xs.length ∧ (∀ z ∈ zs, P z) ∧ Dst (M + c * xs.length) R S' ∧ evalE C (.comp false own t itt .none e) r S0 = .ok (.lst (zs.map g)) S' := by
  obtain ⟨zs, S', h1, h2, h3, h4⟩ := compL_cost h hM hx
  refine ⟨zs, S', h1, h2, h3, ?_⟩
  rw [eE_comp, hi, Res.bind_ok]
  dsimp only
  rw [if_pos (show xs.length < sizeLine from hl), h4, Res.bind_ok, if_neg Bool.false_ne_true]
end Dg
end

section
set_option Elab.async false
set_option linter.all false
set_option maxRecDepth 100000
set_option maxHeartbeats 1000000
/-! A13: a matrix mended so that it leaves a column as it is. -/
namespace Dg
open PySem L2
variable {S : Store}
theorem dotQ_cons {x y : Rat} {xs ys : List Rat} : dotQ (x :: xs) (y :: ys) = x * y + dotQ xs ys := by
  unfold dotQ
  rw [List.zip_cons_cons, dotP_cons]
theorem dotQ_set {x : Rat} : ∀ {xs ys : List Rat} {i : Nat} (h : i < xs.length) (h2 : i < ys.length), dotQ (xs.set i x) ys = dotQ (xs.set i 0) ys + x * ys[i]
  | [], _, _, h, _ => absurd h (by simp)
  | _ :: _, [], _, _, h => absurd h (by simp)
  | a :: xs, b :: ys, 0, _, _ => by
    rw [List.set_cons_zero, List.set_cons_zero, dotQ_cons, dotQ_cons, Rat.zero_mul, Rat.zero_add, Rat.add_comm]
    rfl
  | a :: xs, b :: ys, i + 1, h, h2 => by
    rw [List.set_cons_succ, List.set_cons_succ, dotQ_cons, dotQ_cons, dotQ_set (by simpa using h) (by simpa using h2), Rat.add_assoc]
    rfl
def lineP (l : List Rat) (spot place : Nat) (line : List Rat) : List Rat := line.set spot ((l.getD place 0 + -(dotQ (line.set spot 0) l)) * (l.getD spot 0)⁻¹)
theorem lineP_dot {l line : List Rat} {spot place : Nat} (h1 : spot < line.length) (h2 : spot < l.length) (hz : l.getD spot 0 ≠ 0) : dotQ (lineP l spot place line) l = l.getD place 0 := by
  unfold lineP
  rw [dotQ_set h1 h2]
  have e : l[spot] = l.getD spot 0 := by simp [h2]
  rw [e, Rat.mul_assoc, Rat.inv_mul_cancel _ hz, Rat.mul_one, Rat.add_comm, Rat.add_assoc, Rat.neg_add_cancel, Rat.add_zero]
theorem getD_dr {l : List Rat} (h : ∀ q ∈ l, Dr q) (i : Nat) : Dr (l.getD i 0) := by
  by_cases q : i < l.length
  · have e : l.getD i 0 = l[i] := by simp [q]
    rw [e]; exact h _ (List.getElem_mem _)
  · have e : l.getD i 0 = 0 := by simp [List.getD, List.getElem?_eq_none (Nat.le_of_not_lt q)]
    rw [e]; exact Dr.zero
theorem mem_set_of {α : Type} {xs : List α} {i : Nat} {x y : α} (h : y ∈ xs.set i x) : y = x ∨ y ∈ xs := by
  rcases List.mem_or_eq_of_mem_set h with h | h
  · exact .inr h
  · exact .inl h
/-- what is taken off a line -/
theorem told_bd {l line : List Rat} {spot d : Nat} (hd : d ≤ 4) (hl : line.length = d) (h1 : ∀ q ∈ line, Bd 60 360 q) (h2 : ∀ q ∈ l, Dr q) : Bd 3600 518400 (dotQ (line.set spot 0) l) := by
  have := dotQ_bd (D := 60) (E := 60) (N := 360) (M := 360) (by decide) (by decide) (xs := line.set spot 0) (ys := l) (fun x hx => by
    rcases mem_set_of hx with rfl | hx
    · exact Bd.zero
    · exact h1 x hx) (fun y hy => (h2 y hy).bd)
  rw [List.length_set, hl] at this
  exact this.mono (by omega)
theorem need_bd {l line : List Rat} {spot place d : Nat} (hd : d ≤ 4) (hl : line.length = d) (h1 : ∀ q ∈ line, Bd 60 360 q) (h2 : ∀ q ∈ l, Dr q) : Bd 3600 540000 (l.getD place 0 + -(dotQ (line.set spot 0) l)) := by
  have a := (getD_dr h2 place).bd.scale (c := 60) (by decide)
  have b := (told_bd (spot := spot) hd hl h1 h2).neg
  exact (Bd.add (by decide) a b).mono (by decide)
theorem big_bd {q : Rat} (h : Bd 60 360 q) : Bd 216000 194400000 q := (h.scale (c := 3600) (by decide)).mono (by decide)
theorem lineP_bd {l line : List Rat} {spot place d : Nat} (hd : d ≤ 4) (hl : line.length = d) (h1 : ∀ q ∈ line, Bd 60 360 q) (h2 : ∀ q ∈ l, Dr q) : ∀ q ∈ lineP l spot place line, Bd 216000 194400000 q := by
  intro q hq
  rcases mem_set_of hq with rfl | hq
  · exact (need_bd hd hl h1 h2).mul (getD_dr h2 spot).inv
  · exact big_bd (h1 q hq)
/-! ### the walk -/
theorem eI_enumR {C : Cxt} {r : PEnv} {e : ME} {xs : List PV} (h : evalE C e r S = .ok (.lst xs) S) : evalI C (.enum e) r S = .ok (enumL xs, none) S := by
  rw [eI_enum, h, Res.bind_ok]
  show Res.ok (enumP 0 xs, none) S = _
  rw [enumP_eq]
  rfl
def junk (rs : List (List Rat)) : Store := rs.map fun r => MO.lst (r.map fr)
theorem Wf_junk {M : Mat} {rs : List (List Rat)} (hS : Wf S) : Wf (S ++ MO.lst (M.map (rowV true)) :: junk rs) := by
  refine Wf_app hS ?_
  rw [List.all_cons, Bool.and_eq_true]
  refine ⟨belows_lines, ?_⟩
  rw [List.all_eq_true]
  intro o ho
  obtain ⟨r, _, rfl⟩ := List.mem_map.mp ho
  exact belows_fr
theorem Wf_junk2 {M : Mat} {rs : List (List Rat)} {r : List Rat} (hS : Wf S) : Wf ((S ++ MO.lst (M.map (rowV true)) :: junk rs) ++ [MO.lst (r.map fr)]) := Wf_lst (Wf_junk hS) belows_fr
theorem junk_end {M : Mat} {rs : List (List Rat)} {r : List Rat} : (S ++ MO.lst (M.map (rowV true)) :: junk rs) ++ [MO.lst (r.map fr)] = S ++ MO.lst (M.map (rowV true)) :: junk (rs ++ [r]) := by
  unfold junk
  rw [List.map_append, List.append_assoc]
  rfl
theorem neg_fr {q : Rat} : PV.tup [.int (-q.num), .int (q.den : Int)] = fr (-q) := rfl
abbrev prB : MSs := (.cons (.asg (.name 7) (.comp true [10, 12, 11] (.tup [12, 11]) (.enum (.var 4)) .none (.ite (.bin .eq (.var 12) (.var 5)) (.tup (.cons (.k (.int (0))) (.cons (.k (.int (1))) .nil))) (.var 11)))) (.cons (.asg (.name 8) (.call 31 [(.inl 0), (.inl 1)] (.cons (.var 7) (.cons (.var 1) .nil)))) (.cons (.asg (.name 9) (.call 29 [(.inl 0), (.inl 1)] (.cons (.bin .ix (.var 1) (.var 2)) (.cons (.tup (.cons (.bin .sub (.k (.int (0))) (.bin .ix (.var 8) (.k (.int (0))))) (.cons (.bin .ix (.var 8) (.k (.int (1)))) .nil))) .nil)))) (.cons (.setix (.var 7) (.var 5) (.call 30 [(.inl 0), (.inl 1)] (.cons (.var 9) (.cons (.call 28 [(.inl 0), (.inl 1)] (.cons (.bin .ix (.bin .ix (.var 1) (.var 5)) (.k (.int (1)))) (.cons (.bin .ix (.bin .ix (.var 1) (.var 5)) (.k (.int (0)))) .nil))) .nil)))) (.cons (.ex (.app 6 (.bi .tuple_ (.cons (.var 7) .nil)))) .nil)))))
theorem pr_body {k d spot place : Nat} {l line : List Rat} {M V3 : PV} {r7 r8 r9 : Option PV} {done : Mat} {rs : List (List Rat)} (hS : Wf S) (hd : d ≤ 4) (hl : line.length = d) (hll : l.length = d) (h1 : ∀ q ∈ line, Bd 60 360 q) (h2 : ∀ q ∈ l, Dr q) (hs : spot < d) (hp : place < d) (hz : l.getD spot 0 ≠ 0) (hdn : done.length ≤ 1000) :
    ∃ x7 x8 x9 rs', evalSs (CC (k + 4)) prB [some M, some (rowV false l), some (nI place), some V3, some (rowV false line), some (nI spot), some (.ref S.length), r7, r8, r9, none, none, none] (S ++ MO.lst (done.map (rowV true)) :: junk rs) = .nx [some M, some (rowV false l), some (nI place), some V3, some (rowV false line), some (nI spot), some (.ref S.length), x7, x8, x9, none, none, none] (S ++ MO.lst ((done ++ [lineP l spot place line]).map (rowV true)) :: junk rs') := by
  generalize hT : S ++ MO.lst (done.map (rowV true)) :: junk rs = T
  have hWT : Wf T := by rw [← hT]; exact Wf_junk hS
  let z := line.set spot 0
  have sz0 : ∀ q ∈ z, Sz 40 q := fun q hq => by
    rcases mem_set_of hq with rfl | hq
    · exact Dr.zero.sz
    · exact (h1 q hq).sz (by decide) (by decide +kernel) (by decide +kernel)
  have szl : ∀ q ∈ l, Sz 40 q := fun q hq => (h2 q hq).sz
  have hWT2 : Wf (T ++ [MO.lst (z.map fr)]) := Wf_lst hWT belows_fr
  -- the rest
  have s1 : evalS (CC (k + 4)) (.asg (.name 7) (.comp true [10, 12, 11] (.tup [12, 11]) (.enum (.var 4)) .none (.ite (.bin .eq (.var 12) (.var 5)) (.tup (.cons (.k (.int (0))) (.cons (.k (.int (1))) .nil))) (.var 11)))) [some M, some (rowV false l), some (nI place), some V3, some (rowV false line), some (nI spot), some (.ref S.length), r7, r8, r9, none, none, none] T = .nx [some M, some (rowV false l), some (nI place), some V3, some (rowV false line), some (nI spot), some (.ref S.length), some (.ref T.length), r8, r9, none, none, none] (T ++ [.lst (z.map fr)]) := by
    have hc := comp_R (C := CC (k + 4)) (S := T) (own := [10, 12, 11]) (t := .tup [12, 11]) (it := .enum (.var 4)) (e := .ite (.bin .eq (.var 12) (.var 5)) (.tup (.cons (.k (.int (0))) (.cons (.k (.int (1))) .nil))) (.var 11)) (r := [some M, some (rowV false l), some (nI place), some V3, some (rowV false line), some (nI spot), some (.ref S.length), r7, r8, r9, none, none, none]) (as := List.range line.length) (g := fun (k : Nat) => .tup [.int (k : Int), (line.map fr).getD k .non]) (h := fun i => fr (z.getD i 0)) (by
      have := eI_enumR (S := T) (C := CC (k + 4)) (e := .var 4) (r := [some M, some (rowV false l), some (nI place), some V3, some (rowV false line), some (nI spot), some (.ref S.length), r7, r8, r9, none, none, none]) (xs := line.map fr) (by simp; rfl)
      rw [this]
      unfold enumL
      rw [List.length_map]) (by
      have : sizeLine = 16777216 := rfl
      rw [List.length_range]; omega) (fun i hi => by
      have hi' : i < line.length := List.mem_range.mp hi
      have e1 : (line.map fr).getD i .non = fr line[i] := by simp [hi']
      rw [e1]
      unfold turnF
      by_cases q : i = spot
      · subst q
        have e2 : z.getD i 0 = 0 := by
          show (line.set i 0).getD i 0 = 0
          simp [hi']
        rw [e2, fr_zero]
        unfold nI
        generalize fr line[i] = w at *
        simp [bindT, wipeP, sizeLine]
      · have e2 : z.getD i 0 = line[i] := by
          show (line.set spot 0).getD i 0 = line[i]
          simp [List.getElem?_set, Ne.symm q, hi']
        have e3 : ((i : Int) == (spot : Int)) = false := by rw [cast_beq]; simpa using q
        rw [e2]
        unfold nI
        generalize fr line[i] = w at *
        simp [bindT, wipeP, e3])
    have e : (List.range line.length).map (fun i => fr (z.getD i 0)) = z.map fr := by
      apply List.ext_getElem
      · simp [z]
      · intro i a b
        have : i < z.length := by simpa using b
        simp [this]
    rw [e] at hc
    generalize z.map fr = zz at *
    generalize nI spot = y1 at *
    generalize nI place = y2 at *
    generalize rowV false l = y3 at *
    generalize rowV false line = y4 at *
    simp -implicitDefEqProofs [hc, bindT]
  have g1 : (T ++ [MO.lst (z.map fr)])[T.length]? = some (.lst (z.map fr)) := get_end
  have hzl : z.length = d := by show (line.set spot 0).length = d; rw [List.length_set, hl]
  have e2 := law_dot_ref (k := k) (i := T.length) (xs := z) (ys := l) hWT2 g1 (RowsOk.of sz0 szl (d := 40) (by omega) (by omega))
  have tb := told_bd (spot := spot) hd hl h1 h2
  have ts : Sz 40 (-(dotQ z l)) := tb.neg.sz (by decide) (by decide +kernel) (by decide +kernel)
  have i1 := ix_row (S := T ++ [MO.lst (z.map fr)]) (t := false) (xs := l) (p := place) (by omega)
  have i2 := ix_row (S := T ++ [MO.lst (z.map fr)]) (t := false) (xs := l) (p := spot) (by omega)
  have e3 := law_plus_ok (k := k + 1) hWT2 (getD_dr h2 place).sz ts (by omega)
  have nb := need_bd (spot := spot) (place := place) hd hl h1 h2
  have ns : Sz 40 (l.getD place 0 + -(dotQ z l)) := nb.sz (by decide) (by decide +kernel) (by decide +kernel)
  have hzn : (l.getD spot 0).num ≠ 0 := fun q => hz (zero_of q)
  have e4 := law_ratio_ok (k := k + 2) (m := 40) (u := ((l.getD spot 0).den : Int)) (d := (l.getD spot 0).num) hWT2 hzn (getD_dr h2 spot).sz.1 (by omega)
  rw [← Rat.inv_def] at e4
  have is' : Sz 40 (l.getD spot 0)⁻¹ := (getD_dr h2 spot).inv.sz (by decide) (by decide +kernel) (by decide +kernel)
  have e5 := law_mult_ok (k := k + 1) hWT2 ns is' (by omega)
  have i3 := fr_ix0 (S := T ++ [MO.lst (z.map fr)]) (q := dotQ z l)
  have i4 := fr_ix1 (S := T ++ [MO.lst (z.map fr)]) (q := dotQ z l)
  have i5 := fr_ix0 (S := T ++ [MO.lst (z.map fr)]) (q := l.getD spot 0)
  have i6 := fr_ix1 (S := T ++ [MO.lst (z.map fr)]) (q := l.getD spot 0)
  have st := setP_lst (i := spot) (x := fr ((l.getD place 0 + -(dotQ z l)) * (l.getD spot 0)⁻¹)) g1 (by rw [List.length_map]; omega)
  have es : (z.map fr).set spot (fr ((l.getD place 0 + -(dotQ z l)) * (l.getD spot 0)⁻¹)) = (lineP l spot place line).map fr := by
    rw [← List.map_set]
    show ((line.set spot 0).set spot _).map fr = _
    rw [List.set_set]
    rfl
  rw [es, set_end] at st
  have s234 : ∀ A, evalSs (CC (k + 4)) (.cons (.asg (.name 8) (.call 31 [(.inl 0), (.inl 1)] (.cons (.var 7) (.cons (.var 1) .nil)))) (.cons (.asg (.name 9) (.call 29 [(.inl 0), (.inl 1)] (.cons (.bin .ix (.var 1) (.var 2)) (.cons (.tup (.cons (.bin .sub (.k (.int (0))) (.bin .ix (.var 8) (.k (.int (0))))) (.cons (.bin .ix (.var 8) (.k (.int (1)))) .nil))) .nil)))) (.cons (.setix (.var 7) (.var 5) (.call 30 [(.inl 0), (.inl 1)] (.cons (.var 9) (.cons (.call 28 [(.inl 0), (.inl 1)] (.cons (.bin .ix (.bin .ix (.var 1) (.var 5)) (.k (.int (1)))) (.cons (.bin .ix (.bin .ix (.var 1) (.var 5)) (.k (.int (0)))) .nil))) .nil)))) A))) [some M, some (rowV false l), some (nI place), some V3, some (rowV false line), some (nI spot), some (.ref S.length), some (.ref T.length), r8, r9, none, none, none] (T ++ [.lst (z.map fr)]) = evalSs (CC (k + 4)) A [some M, some (rowV false l), some (nI place), some V3, some (rowV false line), some (nI spot), some (.ref S.length), some (.ref T.length), some (fr (dotQ z l)), some (fr (l.getD place 0 + -(dotQ z l))), none, none, none] (T ++ [.lst ((lineP l spot place line).map fr)]) := by
    intro A
    have ng : PV.tup [.int (-(dotQ z l).num), .int ((dotQ z l).den : Int)] = fr (-(dotQ z l)) := neg_fr
    clear s1 es ns is' ts nb tb hWT2 g1 hzl sz0 hzn
    generalize T ++ [MO.lst ((lineP l spot place line).map fr)] = T2 at *
    generalize T ++ [MO.lst (z.map fr)] = T1 at *
    generalize fr ((l.getD place 0 + -(dotQ z l)) * (l.getD spot 0)⁻¹) = q1 at *
    generalize fr (l.getD place 0 + -(dotQ z l)) = q2 at *
    generalize fr (l.getD spot 0)⁻¹ = q3 at *
    generalize fr (l.getD place 0) = q4 at *
    generalize fr (-(dotQ z l)) = q5 at *
    generalize (dotQ z l).num = n1 at *
    generalize (dotQ z l).den = n2 at *
    generalize fr (dotQ z l) = q6 at *
    generalize (l.getD spot 0).num = n3 at *
    generalize (l.getD spot 0).den = n4 at *
    generalize fr (l.getD spot 0) = q7 at *
    generalize rowV false l = y3 at *
    generalize rowV false line = y4 at *
    unfold nI
    simp -implicitDefEqProofs [e2, e3, e4, e5, i1, i2, i3, i4, i5, i6, st, ng, permP, bindT, sizeLine]
  have gF : (T ++ [MO.lst ((lineP l spot place line).map fr)])[S.length]? = some (.lst (done.map (rowV true))) := by
    rw [← hT]; simp
  have gE : (T ++ [MO.lst ((lineP l spot place line).map fr)])[T.length]? = some (.lst ((lineP l spot place line).map fr)) := get_end
  have et := tup_ref gE
  have ha := app_ok (C := CC (k + 4)) (i := 6) (n := S.length) (e := .bi .tuple_ (.cons (.var 7) .nil)) (r := [some M, some (rowV false l), some (nI place), some V3, some (rowV false line), some (nI spot), some (.ref S.length), some (.ref T.length), some (fr (dotQ z l)), some (fr (l.getD place 0 + -(dotQ z l))), none, none, none]) (x := rowV true (lineP l spot place line)) rfl gF (by
    have er : rowV true (lineP l spot place line) = .tup ((lineP l spot place line).map fr) := rfl
    rw [er]
    generalize T ++ [MO.lst ((lineP l spot place line).map fr)] = T2 at *
    generalize (lineP l spot place line).map fr = ll at *
    simp -implicitDefEqProofs [et]) (by simp; omega)
  have hfin : (T ++ [MO.lst ((lineP l spot place line).map fr)]).set S.length (.lst (done.map (rowV true) ++ [rowV true (lineP l spot place line)])) = S ++ MO.lst ((done ++ [lineP l spot place line]).map (rowV true)) :: junk (rs ++ [lineP l spot place line]) := by
    rw [← hT, junk_end, set_new, List.map_append]
    rfl
  rw [hfin] at ha
  refine ⟨some (.ref T.length), some (fr (dotQ z l)), some (fr (l.getD place 0 + -(dotQ z l))), rs ++ [lineP l spot place line], ?_⟩
  rw [eSs_cons, s1, SRes.seq_nx, s234, eSs_cons, ha, SRes.seq_nx, eSs_nil]
end Dg
end

section
set_option Elab.async false
set_option linter.all false
set_option maxRecDepth 100000
set_option maxHeartbeats 1000000
/-! A14: the whole mending. -/
namespace Dg
open PySem L2
variable {S : Store}
theorem dotQ_zero : ∀ {xs ys : List Rat}, (∀ y ∈ ys, y = 0) → dotQ xs ys = 0
  | [], ys, _ => by unfold dotQ; simp only [List.zip_nil_left]; rfl
  | x :: xs, [], _ => by unfold dotQ; simp only [List.zip_nil_right]; rfl
  | x :: xs, y :: ys, h => by
    rw [dotQ_cons, h y (List.mem_cons_self ..), dotQ_zero fun z hz => h z (List.mem_cons_of_mem _ hz), Rat.mul_zero, Rat.zero_add]
def proofedQ (l : List Rat) (spot : Nat) (M : Mat) (n : Nat) : List (List Rat) := (List.range n).map fun p => lineP l spot p (M.getD p [])
theorem proofedQ_get {l : List Rat} {spot n i : Nat} {M : Mat} (h : i < n) (h2 : i < (proofedQ l spot M n).length) : (proofedQ l spot M n)[i] = lineP l spot i (M.getD i []) := by
  have e : (proofedQ l spot M n)[i]? = some (lineP l spot i (M.getD i [])) := by
    unfold proofedQ
    simp [h]
  rw [List.getElem?_eq_getElem h2] at e
  exact Option.some.inj e
theorem nI_ints {xs : List Nat} : xs.map nI = (xs.map fun (n : Nat) => (n : Int)).map PV.int := by rw [List.map_map]; rfl
theorem law_proofed_ok {k d : Nat} {M : Mat} {l : List Rat} (hS : Wf S) (hd : d ≤ 4) (hM : M.length = d) (hMl : ∀ line ∈ M, line.length = d ∧ ∀ q ∈ line, Bd 60 360 q) (hl : l.length = d) (h2 : ∀ q ∈ l, Dr q) :
    ∃ M' : Mat, M'.length = d ∧ (∀ line ∈ M', line.length = d ∧ ∀ q ∈ line, Bd 216000 194400000 q) ∧ M'.map (fun line => dotQ line l) = l ∧ GG (k + 5) 35 [.lst (M.map (rowV false)), rowV false l] S = .ok (matV M') S := by
  rw [show GG (k + 5) 35 [.lst (M.map (rowV false)), rowV false l] S = _ from Gp_succ (k := k + 4) (d := d__law_proofed) rfl]
  let p : Nat → Bool := fun i => !(l.getD i 0 == 0)
  have sp : evalS (CC (k + 4)) (.asg (.name 3) (.comp false [10, 2, 11] (.tup [2, 11]) (.enum (.var 1)) (.some (.bin .ne (.bin .ix (.var 11) (.k (.int (0)))) (.k (.int (0))))) (.var 2))) [some (.lst (M.map (rowV false))), some (rowV false l), none, none, none, none, none, none, none, none, none, none, none] S = .nx [some (.lst (M.map (rowV false))), some (rowV false l), none, some (.lst (((List.range l.length).filter p).map nI)), none, none, none, none, none, none, none, none, none] S := by
    have hc := comp_F (C := CC (k + 4)) (S := S) (own := [10, 2, 11]) (t := .tup [2, 11]) (it := .enum (.var 1)) (cn := .some (.bin .ne (.bin .ix (.var 11) (.k (.int (0)))) (.k (.int (0))))) (e := .var 2) (r := [some (.lst (M.map (rowV false))), some (rowV false l), none, none, none, none, none, none, none, none, none, none, none]) (as := List.range l.length) (g := fun (k : Nat) => .tup [.int (k : Int), (l.map fr).getD k .non]) (h := nI) (p := p) (by
      have := eI_enumR (S := S) (C := CC (k + 4)) (e := .var 1) (r := [some (.lst (M.map (rowV false))), some (rowV false l), none, none, none, none, none, none, none, none, none, none, none]) (xs := l.map fr) (by simp; rfl)
      rw [this]
      unfold enumL
      rw [List.length_map]) (by
      have : sizeLine = 16777216 := rfl
      rw [List.length_range]; omega) (fun i hi => by
      have hi' : i < l.length := List.mem_range.mp hi
      have e1 : (l.map fr).getD i .non = fr l[i] := by simp [hi']
      have e2 : l.getD i 0 = l[i] := by simp [hi']
      have i0 := fr_ix0 (S := S) (q := l[i])
      have e3 : (!(l[i].num == 0)) = p i := by
        show _ = !(l.getD i 0 == 0)
        rw [e2, Bool.eq_iff_iff]
        simp [Rat.num_eq_zero]
      rw [e1]
      generalize p i = b at *
      generalize l[i].num = nn at *
      generalize fr l[i] = w at *
      generalize rowV false l = y3 at *
      unfold turnF nI
      cases b
      · have z : (nn == 0) = true := by simpa using e3
        simp [bindT, wipeP, i0, z]
      · have z : (nn == 0) = false := by simpa using e3
        simp [bindT, wipeP, i0, z])
    generalize ((List.range l.length).filter p).map nI = w at *
    generalize rowV false l = y3 at *
    simp -implicitDefEqProofs [hc, bindT]
  have qe := eq_nilL (xs := ((List.range l.length).filter p).map fun (n : Nat) => (n : Int)) (S := S)
  rw [← nI_ints] at qe
  by_cases z : (List.range l.length).filter p = []
  · -- all nought
    have hz : ∀ y ∈ l, y = 0 := by
      intro y hy
      obtain ⟨i, hi, rfl⟩ := List.getElem_of_mem hy
      have : i ∉ (List.range l.length).filter p := by rw [z]; simp
      rw [List.mem_filter] at this
      have h3 : ¬ p i = true := fun q => this ⟨List.mem_range.mpr hi, q⟩
      have h4 : p i = !(l.getD i 0 == 0) := rfl
      have e2 : l.getD i 0 = l[i] := by simp [hi]
      rw [h4, e2] at h3
      simpa using h3
    refine ⟨M, hM, fun line hline => ⟨(hMl line hline).1, fun q hq => big_bd ((hMl line hline).2 q hq)⟩, ?_, ?_⟩
    · apply List.ext_getElem
      · rw [List.length_map]; omega
      · intro i a b
        rw [List.getElem_map, dotQ_zero hz, hz _ (List.getElem_mem b)]
    · refine evalD_ret hS ?_ below_matV
      show evalSs (CC (k + 4)) m__law_proofed [some (.lst (M.map (rowV false))), some (rowV false l), none, none, none, none, none, none, none, none, none, none, none] S = _
      unfold m__law_proofed
      rw [eSs_cons, sp, SRes.seq_nx]
      rw [z] at qe ⊢
      have qe' : op2 .eq (.lst ([].map nI)) (.lst []) S = .ok (.bl true) S := qe
      have hc := comp_A (C := CC (k + 4)) (S := S) (own := [10, 4]) (t := .name 4) (it := .of (.var 0)) (e := .bi .tuple_ (.cons (.var 4) .nil)) (r := [some (.lst (M.map (rowV false))), some (rowV false l), none, some (.lst ([].map nI)), none, none, none, none, none, none, none, none, none]) (as := M) (g := rowV false) (h := rowV true) (eI_ofL (by simp)) (by
        have : sizeLine = 16777216 := rfl
        omega) (fun line _ => by
        have et : opn .tuple_ [rowV false line] S = .ok (rowV true line) S := rfl
        generalize rowV false l = y3 at *
        generalize rowV false line = y4 at *
        generalize rowV true line = y5 at *
        unfold turnF
        simp [bindT, wipeP, et])
      unfold matV
      generalize rowV false l = y3 at *
      generalize PV.lst ([].map nI) = y6 at *
      simp -implicitDefEqProofs [hc, qe', sizeLine]
  · obtain ⟨spot, rest, hsr⟩ : ∃ s r, (List.range l.length).filter p = s :: r := by
      cases q : (List.range l.length).filter p with
      | nil => exact absurd q z
      | cons s r => exact ⟨s, r, rfl⟩
    have hmem : spot ∈ (List.range l.length).filter p := by rw [hsr]; simp
    rw [List.mem_filter] at hmem
    have hs : spot < d := by have := List.mem_range.mp hmem.1; omega
    have hnz : l.getD spot 0 ≠ 0 := by
      have h4 : p spot = !(l.getD spot 0 == 0) := rfl
      have h5 := hmem.2
      rw [h4] at h5
      simpa using h5
    have hlp : ∀ i, i < d → (M.getD i []).length = d ∧ ∀ q ∈ M.getD i [], Bd 60 360 q := fun i hi => by
      have e : M.getD i [] = M[i]'(by omega) := by simp [hM, hi]
      rw [e]
      exact hMl _ (List.getElem_mem _)
    refine ⟨proofedQ l spot M d, by unfold proofedQ; simp, fun line hline => ?_, ?_, ?_⟩
    · unfold proofedQ at hline
      obtain ⟨i, hi, rfl⟩ := List.mem_map.mp hline
      obtain ⟨a, b⟩ := hlp i (List.mem_range.mp hi)
      exact ⟨by unfold lineP; rw [List.length_set, a], lineP_bd hd a b h2⟩
    · apply List.ext_getElem
      · unfold proofedQ; simp [hl]
      · intro i a b
        have hi : i < d := by omega
        obtain ⟨c, _⟩ := hlp i hi
        have := lineP_dot (l := l) (line := M.getD i []) (spot := spot) (place := i) (by omega) (by omega) hnz
        have e2 : l.getD i 0 = l[i] := by simp [b]
        have hi2 : i < (proofedQ l spot M d).length := by unfold proofedQ; simp [hi]
        have e3 := proofedQ_get (l := l) (spot := spot) (M := M) hi hi2
        rw [List.getElem_map, e3, this, e2]
    · have key : ∃ rs, evalSs (CC (k + 4)) m__law_proofed [some (.lst (M.map (rowV false))), some (rowV false l), none, none, none, none, none, none, none, none, none, none, none] S = .ret (matV (proofedQ l spot M d)) (S ++ MO.lst ((proofedQ l spot M d).map (rowV true)) :: junk rs) := by
        unfold m__law_proofed
        rw [eSs_cons, sp, SRes.seq_nx]
        rw [hsr] at qe ⊢
        have qe' : op2 .eq (.lst ((spot :: rest).map nI)) (.lst []) S = .ok (.bl false) S := qe
        have ix0 : op2 .ix (.lst ((spot :: rest).map nI)) (.int 0) S = .ok (nI spot) S := ix0_lst
        generalize hM0 : PV.lst (M.map (rowV false)) = M0
        generalize PV.lst ((spot :: rest).map nI) = V3 at *
        have st1 : ∀ A, evalS (CC (k + 4)) (.ifS (.bin .eq (.var 3) (.lst .nil)) A .nil) [some M0, some (rowV false l), none, some V3, none, none, none, none, none, none, none, none, none] S = .nx [some M0, some (rowV false l), none, some V3, none, none, none, none, none, none, none, none, none] S := by
          intro A
          generalize rowV false l = y3 at *
          simp -implicitDefEqProofs [qe', sizeLine]
        have st2 : evalS (CC (k + 4)) (.unp [(.name 5), (.name 6)] (.tup (.cons (.bin .ix (.var 3) (.k (.int (0)))) (.cons (.lstR .nil) .nil)))) [some M0, some (rowV false l), none, some V3, none, none, none, none, none, none, none, none, none] S = .nx [some M0, some (rowV false l), none, some V3, none, some (nI spot), some (.ref S.length), none, none, none, none, none, none] (S ++ [.lst []]) := by
          generalize rowV false l = y3 at *
          generalize nI spot = y4 at *
          simp -implicitDefEqProofs [ix0, sizeLine, evalGs]
        rw [eSs_cons, st1, SRes.seq_nx, eSs_cons, st2, SRes.seq_nx]
        have hlp2 := forL_k (t := .tup [2, 4]) (g := none) (f := fun r2 S2 => evalSs (CC (k + 4)) prB r2 S2) (xs := enumL (M.map (rowV false))) (r := [some M0, some (rowV false l), none, some V3, none, some (nI spot), some (.ref S.length), none, none, none, none, none, none]) (S := S ++ [.lst []])
          (fun i r S' => (∃ rs, S' = S ++ MO.lst ((proofedQ l spot M i).map (rowV true)) :: junk rs) ∧ ∃ v2 v4 v7 v8 v9, r = [some M0, some (rowV false l), v2, some V3, v4, some (nI spot), some (.ref S.length), v7, v8, v9, none, none, none]) (fun _ _ => False)
          (fun i hi r S' hI => by
            obtain ⟨⟨rs, rfl⟩, v2, v4, v7, v8, v9, rfl⟩ := hI
            have hi' : i < d := by
              have : i < M.length := by simpa [enumL] using hi
              omega
            obtain ⟨c1, c2⟩ := hlp i hi'
            have ee : (enumL (M.map (rowV false)))[i] = .tup [nI i, rowV false (M.getD i [])] := by simp [enumL, nI, hM, hi']
            obtain ⟨x7, x8, x9, rs', hb⟩ := pr_body (k := k) (M := M0) (V3 := V3) (r7 := v7) (r8 := v8) (r9 := v9) (done := proofedQ l spot M i) (rs := rs) (place := i) hS hd c1 hl c2 h2 hs hi' hnz (by unfold proofedQ; simp; omega)
            have en : proofedQ l spot M i ++ [lineP l spot i (M.getD i [])] = proofedQ l spot M (i + 1) := by
              unfold proofedQ
              rw [List.range_succ, List.map_append]
              rfl
            rw [en] at hb
            refine ⟨[some M0, some (rowV false l), some (nI i), some V3, some (rowV false (M.getD i [])), some (nI spot), some (.ref S.length), v7, v8, v9, none, none, none], by rw [ee]; rfl, .inl ⟨_, _, .inl hb, trivial, ⟨rs', rfl⟩, _, _, _, _, _, rfl⟩⟩) ⟨⟨[], rfl⟩, none, none, none, none, none, rfl⟩
        rcases hlp2 with ⟨r', S', e, ⟨rs, rfl⟩, v2, v4, v7, v8, v9, rfl⟩ | ⟨_, _, _, h⟩
        · have el : (enumL (M.map (rowV false))).length = d := by simp [enumL, hM]
          rw [el] at e
          refine ⟨rs, ?_⟩
          have ei : evalI (CC (k + 4)) (.enum (.var 0)) [some M0, some (rowV false l), none, some V3, none, some (nI spot), some (.ref S.length), none, none, none, none, none, none] (S ++ [.lst []]) = .ok (enumL (M.map (rowV false)), none) (S ++ [.lst []]) := eI_enumR (by
            rw [hM0]
            simp)
          rw [eSs_cons, eS_for, ei, Res.to_ok]
          dsimp only
          rw [e, SRes.seq_nx]
          have et := tup_ref (T := S ++ MO.lst ((proofedQ l spot M d).map (rowV true)) :: junk rs) (n := S.length) (xs := (proofedQ l spot M d).map (rowV true)) (by simp)
          unfold matV
          generalize S ++ MO.lst ((proofedQ l spot M d).map (rowV true)) :: junk rs = T at *
          generalize (proofedQ l spot M d).map (rowV true) = w at *
          generalize rowV false l = y3 at *
          generalize nI spot = y4 at *
          simp -implicitDefEqProofs [et]
        · exact h.elim
      obtain ⟨rs, key⟩ := key
      exact evalD_new (S' := S) (R := MO.lst ((proofedQ l spot M d).map (rowV true)) :: junk rs) hS rfl key (frzG_below below_matV)
end Dg
end

section
set_option Elab.async false
set_option linter.all false
set_option maxRecDepth 100000
set_option maxHeartbeats 1000000
/-! A15: a drawn counting. -/
namespace Dg
open PySem L2
/-- a drawn row, a drawn matrix -/
structure RowD (d : Nat) (zs : List Rat) : Prop where
  len : zs.length = d
  dr : ∀ q ∈ zs, Dr q
theorem rngI {C : Cxt} {r : PEnv} {S : Store} {i d : Nat} (hr : r[i]? = some (some (.int (d : Int)))) (hd : d ≤ 1000) : evalI C (.range (.cons (.var i) .nil)) r S = .ok ((List.range d).map fun (k : Nat) => .int (k : Int), none) S := by
  have h : evalI C (.range (.cons (.var i) .nil)) r S = _ := eI_rng (C := C) (S := S) (r := r) (e := .var i) (n := d) (by rw [eE_var, hr]) (by omega)
  exact h
theorem fractions_comp {k N d b c v : Nat} {r : PEnv} {R S : Store} (h : Dst N R S) (hN : N + 3 * d ≤ 800000000) (hd : d ≤ 1000) (hr : r[v]? = some (some (.int (d : Int))))
    (ht : ∀ (i : Nat) (q : Rat) (S1 S2 : Store), GG (k + 3) 34 [.ref 0] S1 = .ok (fr q) S2 → turnF (CC (k + 3)) [b, c] (.name c) .none (.call 34 [(.inl 0)] (.cons (.var 0) .nil)) r (.int (i : Int)) S1 = .ok (some (fr q)) S2) :
    ∃ (zs : List Rat) (S' : Store), RowD d zs ∧ Dst (N + 3 * d) R S' ∧ evalE (CC (k + 3)) (.comp false [b, c] (.name c) (.range (.cons (.var v) .nil)) .none (.call 34 [(.inl 0)] (.cons (.var 0) .nil))) r S = .ok (rowV false zs) S' := by
  obtain ⟨zs, S', h1, h2, h3, h4⟩ := comp_cost (α := Rat) (C := CC (k + 3)) (own := [b, c]) (t := .name c) (e := .call 34 [(.inl 0)] (.cons (.var 0) .nil)) (r := r) (g := fr) (P := Dr) (c := 3) (rngI (C := CC (k + 3)) (S := S) hr hd) (by simp; omega) h (by simp; omega) (fun x hx M' S' hD hM => by
    obtain ⟨i, _, rfl⟩ := List.mem_map.mp hx
    obtain ⟨q, S2, d1, d2, d3⟩ := fraction_ok (k := k) hD (by omega)
    exact ⟨q, S2, d1, d2, ht i q S' S2 d3⟩)
  simp only [List.length_map, List.length_range] at h1 h3
  exact ⟨zs, S', ⟨h1, h2⟩, h3, h4⟩
abbrev mxE : ME := .comp false [10, 12] (.name 12) (.range (.cons (.var 3) .nil)) .none (.comp false [10, 11] (.name 11) (.range (.cons (.var 3) .nil)) .none (.call 34 [(.inl 0)] (.cons (.var 0) .nil)))
theorem matrix_comp {k N d : Nat} {a b : PV} {v4 v5 v6 v7 v8 v9 v10 v11 v12 v13 : Option PV} {R S : Store} (h : Dst N R S) (hN : N + 3 * d * d ≤ 700000000) (hd : d ≤ 4) :
    ∃ (M : Mat) (S' : Store), M.length = d ∧ (∀ line ∈ M, RowD d line) ∧ Dst (N + 3 * d * d) R S' ∧ evalE (CC (k + 3)) mxE [some (.ref 0), some a, some b, some (.int (d : Int)), v4, v5, v6, v7, v8, v9, v10, v11, v12, v13] S = .ok (.lst (M.map (rowV false))) S' := by
  obtain ⟨M, S', h1, h2, h3, h4⟩ := comp_cost (α := List Rat) (C := CC (k + 3)) (own := [10, 12]) (t := .name 12) (e := .comp false [10, 11] (.name 11) (.range (.cons (.var 3) .nil)) .none (.call 34 [(.inl 0)] (.cons (.var 0) .nil))) (r := [some (.ref 0), some a, some b, some (.int (d : Int)), v4, v5, v6, v7, v8, v9, v10, v11, v12, v13]) (g := rowV false) (P := RowD d) (c := 3 * d) (rngI (C := CC (k + 3)) (S := S) (i := 3) (d := d) rfl (by omega)) (by simp; omega) h (by simp; omega) (fun x hx M' S' hD hM => by
    obtain ⟨i, _, rfl⟩ := List.mem_map.mp hx
    obtain ⟨zs, S2, d1, d2, d3⟩ := fractions_comp (k := k) (v := 3) (b := 10) (c := 11) (d := d) (r := [some (.ref 0), some a, some b, some (.int (d : Int)), v4, v5, v6, v7, v8, v9, none, v11, some (.int (i : Int)), v13]) hD (by omega) (by omega) rfl (fun j q S1 S2 e => by
      unfold turnF
      generalize fr q = w at *
      simp -implicitDefEqProofs [bindT, wipeP, e, permP])
    refine ⟨zs, S2, d1, d2, ?_⟩
    unfold turnF
    generalize rowV false zs = w at *
    simp -implicitDefEqProofs [bindT, wipeP, d3])
  simp only [List.length_map, List.length_range] at h1 h3
  exact ⟨M, S', h1, h2, h3, h4⟩
abbrev thE : ME := .comp false [10, 12] (.name 12) (.of (.var 9)) .none (.comp false [10, 13] (.name 13) (.of (.var 12)) .none (.ite (.bin .eq (.call 21 [(.inl 0), (.inl 1)] (.cons (.var 0) (.cons (.k (.int (2))) .nil))) (.k (.int (0)))) (.var 13) (.tup (.cons (.k (.int (0))) (.cons (.k (.int (1))) .nil)))))
theorem thin_comp {k N d : Nat} {M : Mat} {a b c : PV} {v4 v5 v6 v7 v8 v10 v11 v12 v13 : Option PV} {R S : Store} (h : Dst N R S) (hN : N + d * d ≤ 700000000) (hd : d ≤ 4) (hM : M.length = d) (hMl : ∀ line ∈ M, RowD d line) :
    ∃ (M' : Mat) (S' : Store), M'.length = d ∧ (∀ line ∈ M', RowD d line) ∧ Dst (N + d * d) R S' ∧ evalE (CC (k + 2)) thE [some (.ref 0), some a, some b, some c, v4, v5, v6, v7, v8, some (.lst (M.map (rowV false))), v10, v11, v12, v13] S = .ok (.lst (M'.map (rowV false))) S' := by
  obtain ⟨M', S', h1, h2, h3, h4⟩ := comp_cost (α := List Rat) (C := CC (k + 2)) (own := [10, 12]) (t := .name 12) (itt := .of (.var 9)) (xs := M.map (rowV false)) (S0 := S) (e := .comp false [10, 13] (.name 13) (.of (.var 12)) .none (.ite (.bin .eq (.call 21 [(.inl 0), (.inl 1)] (.cons (.var 0) (.cons (.k (.int (2))) .nil))) (.k (.int (0)))) (.var 13) (.tup (.cons (.k (.int (0))) (.cons (.k (.int (1))) .nil))))) (r := [some (.ref 0), some a, some b, some c, v4, v5, v6, v7, v8, some (.lst (M.map (rowV false))), v10, v11, v12, v13]) (g := rowV false) (P := RowD d) (c := d) (eI_ofL (by simp)) (by simp; omega) h (by simp [hM]; omega) (fun x hx M1 S' hD hM1 => by
    obtain ⟨line, hline, rfl⟩ := List.mem_map.mp hx
    have hr := hMl line hline
    obtain ⟨zs, S2, d1, d2, d3, d4⟩ := comp_cost (α := Rat) (C := CC (k + 2)) (own := [10, 13]) (t := .name 13) (itt := .of (.var 12)) (xs := line.map fr) (S0 := S') (e := .ite (.bin .eq (.call 21 [(.inl 0), (.inl 1)] (.cons (.var 0) (.cons (.k (.int (2))) .nil))) (.k (.int (0)))) (.var 13) (.tup (.cons (.k (.int (0))) (.cons (.k (.int (1))) .nil)))) (r := [some (.ref 0), some a, some b, some c, v4, v5, v6, v7, v8, some (.lst (M.map (rowV false))), none, v11, some (rowV false line), v13]) (g := fr) (P := Dr) (c := 1) (eI_ofL (by simp; rfl)) (by have := hr.len; simp; omega) hD (by have := hr.len; simp; omega) (fun y hy M2 S3 hD3 hM3 => by
      obtain ⟨q, hq, rfl⟩ := List.mem_map.mp hy
      obtain ⟨v, S4, v1, h4, e4⟩ := draw (k := k) (L := 2) hD3 (by omega) (by omega) (by omega)
      have e4' : GG (k + 2) 21 [.ref 0, .int 2] S3 = .ok (.int v) S4 := e4
      by_cases z : v = 0
      · refine ⟨q, S4, hr.dr q hq, h4, ?_⟩
        subst z
        unfold turnF
        generalize fr q = w at *
        generalize rowV false line = w2 at *
        generalize PV.lst (M.map (rowV false)) = w3 at *
        simp -implicitDefEqProofs [bindT, wipeP, e4', permP]
      · refine ⟨0, S4, Dr.zero, h4, ?_⟩
        have z2 : ((v : Int) == 0) = false := by simp; omega
        rw [fr_zero]
        unfold turnF
        generalize fr q = w at *
        generalize rowV false line = w2 at *
        generalize PV.lst (M.map (rowV false)) = w3 at *
        generalize (v : Int) = vi at *
        simp -implicitDefEqProofs [bindT, wipeP, e4', permP, z2, sizeLine])
    simp only [List.length_map] at d1 d3
    refine ⟨zs, S2, ⟨by rw [d1, hr.len], d2⟩, by have := hr.len; rw [this] at d3; rw [Nat.one_mul] at d3; exact d3, ?_⟩
    have er : rowV false zs = .lst (zs.map fr) := rfl
    rw [er]
    unfold turnF
    generalize rowV false line = w2 at *
    generalize PV.lst (zs.map fr) = w at *
    generalize PV.lst (M.map (rowV false)) = w3 at *
    simp -implicitDefEqProofs [bindT, wipeP, d4])
  simp only [List.length_map] at h1 h3
  rw [hM] at h1 h3
  exact ⟨M', S', h1, h2, h3, h4⟩
abbrev cntB : MSs := (.cons (.asg (.name 9) mxE) (.cons (.ifS (.bin .eq (.var 6) (.k (.int (0)))) (.cons (.asg (.name 9) thE) .nil) .nil) (.cons (.ex (.app 7 (.ite (.bin .eq (.var 8) (.k (.int (0)))) (.call 35 [(.inl 0), (.inl 1)] (.cons (.var 9) (.cons (.var 4) .nil))) (.bi .tuple_ (.cons (.comp false [10, 12] (.name 12) (.of (.var 9)) .none (.bi .tuple_ (.cons (.var 12) .nil))) .nil))))) .nil)))
/-- a matrix of a drawn counting -/
structure MatG (d : Nat) (M : Mat) : Prop where
  len : M.length = d
  row : ∀ line ∈ M, line.length = d ∧ ∀ q ∈ line, Bd 216000 194400000 q
theorem cnt_body {k N d i th : Nat} {a b V5 : PV} {l : List Rat} {done : List Mat} {v9 : Option PV} {S : Store} (h : Dst N [.lst (done.map matV)] S) (hN : N + 100 ≤ 700000000) (hd : d ≤ 4) (hl : RowD d l) (hdn : done.length ≤ 100) :
    ∃ (M : Mat) (S' : Store) (x9 : Option PV), MatG d M ∧ (i = 0 → M.map (fun line => dotQ line l) = l) ∧ Dst (N + 100) [.lst ((done ++ [M]).map matV)] S' ∧ evalSs (CC (k + 5)) cntB [some (.ref 0), some a, some b, some (.int (d : Int)), some (rowV false l), some V5, some (.int (th : Int)), some (.ref 2), some (.int (i : Int)), v9, none, none, none, none] S = .nx [some (.ref 0), some a, some b, some (.int (d : Int)), some (rowV false l), some V5, some (.int (th : Int)), some (.ref 2), some (.int (i : Int)), x9, none, none, none, none] S' := by
  have hdd : 3 * d * d ≤ 48 := by
    have : d * d ≤ 4 * 4 := Nat.mul_le_mul hd hd
    rw [Nat.mul_assoc]; omega
  have hdd2 : d * d ≤ 16 := Nat.mul_le_mul hd hd
  obtain ⟨M1, S1, m1, m2, h1, e1⟩ := matrix_comp (k := k + 2) (d := d) (a := a) (b := b) (v4 := some (rowV false l)) (v5 := some V5) (v6 := some (.int (th : Int))) (v7 := some (.ref 2)) (v8 := some (.int (i : Int))) (v9 := v9) (v10 := none) (v11 := none) (v12 := none) (v13 := none) h (by omega) hd
  have st1 : evalS (CC (k + 5)) (.asg (.name 9) mxE) [some (.ref 0), some a, some b, some (.int (d : Int)), some (rowV false l), some V5, some (.int (th : Int)), some (.ref 2), some (.int (i : Int)), v9, none, none, none, none] S = .nx [some (.ref 0), some a, some b, some (.int (d : Int)), some (rowV false l), some V5, some (.int (th : Int)), some (.ref 2), some (.int (i : Int)), some (.lst (M1.map (rowV false))), none, none, none, none] S1 := by
    rw [eS_asg, e1, Res.to_ok]
    rfl
  have st2 : ∃ (M2 : Mat) (S2 : Store), M2.length = d ∧ (∀ line ∈ M2, RowD d line) ∧ Dst (N + 70) [.lst (done.map matV)] S2 ∧ evalS (CC (k + 5)) (.ifS (.bin .eq (.var 6) (.k (.int (0)))) (.cons (.asg (.name 9) thE) .nil) .nil) [some (.ref 0), some a, some b, some (.int (d : Int)), some (rowV false l), some V5, some (.int (th : Int)), some (.ref 2), some (.int (i : Int)), some (.lst (M1.map (rowV false))), none, none, none, none] S1 = .nx [some (.ref 0), some a, some b, some (.int (d : Int)), some (rowV false l), some V5, some (.int (th : Int)), some (.ref 2), some (.int (i : Int)), some (.lst (M2.map (rowV false))), none, none, none, none] S2 := by
    by_cases z : th = 0
    · obtain ⟨M2, S2, m3, m4, h2, e2⟩ := thin_comp (k := k + 3) (M := M1) (d := d) (a := a) (b := b) (c := .int (d : Int)) (v4 := some (rowV false l)) (v5 := some V5) (v6 := some (.int (th : Int))) (v7 := some (.ref 2)) (v8 := some (.int (i : Int))) (v10 := none) (v11 := none) (v12 := none) (v13 := none) h1 (by omega) hd m1 m2
      refine ⟨M2, S2, m3, m4, h2.mono (by omega), ?_⟩
      have z2 : ((th : Int) == 0) = true := by simp [z]
      have st : evalS (CC (k + 5)) (.asg (.name 9) thE) [some (.ref 0), some a, some b, some (.int (d : Int)), some (rowV false l), some V5, some (.int (th : Int)), some (.ref 2), some (.int (i : Int)), some (.lst (M1.map (rowV false))), none, none, none, none] S1 = .nx [some (.ref 0), some a, some b, some (.int (d : Int)), some (rowV false l), some V5, some (.int (th : Int)), some (.ref 2), some (.int (i : Int)), some (.lst (M2.map (rowV false))), none, none, none, none] S2 := by
        rw [eS_asg, e2, Res.to_ok]
        rfl
      generalize rowV false l = w1 at *
      generalize PV.lst (M1.map (rowV false)) = w2 at *
      generalize PV.lst (M2.map (rowV false)) = w3 at *
      generalize (th : Int) = t at *
      rw [eS_if]
      have et : evalT (CC (k + 5)) (.bin .eq (.var 6) (.k (.int (0)))) [some (.ref 0), some a, some b, some (.int (d : Int)), some w1, some V5, some (.int t), some (.ref 2), some (.int (i : Int)), some w2, none, none, none, none] S1 = .ok true S1 := by simp [z2]
      rw [et, Res.to_ok, if_pos rfl, eSs_cons, st, SRes.seq_nx, eSs_nil]
    · refine ⟨M1, S1, m1, m2, h1.mono (by omega), ?_⟩
      have z2 : ((th : Int) == 0) = false := by simp; omega
      generalize rowV false l = w1 at *
      generalize PV.lst (M1.map (rowV false)) = w2 at *
      generalize (th : Int) = t at *
      simp -implicitDefEqProofs [z2]
  obtain ⟨M2, S2, m3, m4, h2, e2⟩ := st2
  have st3 : ∃ M : Mat, MatG d M ∧ (i = 0 → M.map (fun line => dotQ line l) = l) ∧ evalE (CC (k + 5)) (.ite (.bin .eq (.var 8) (.k (.int (0)))) (.call 35 [(.inl 0), (.inl 1)] (.cons (.var 9) (.cons (.var 4) .nil))) (.bi .tuple_ (.cons (.comp false [10, 12] (.name 12) (.of (.var 9)) .none (.bi .tuple_ (.cons (.var 12) .nil))) .nil))) [some (.ref 0), some a, some b, some (.int (d : Int)), some (rowV false l), some V5, some (.int (th : Int)), some (.ref 2), some (.int (i : Int)), some (.lst (M2.map (rowV false))), none, none, none, none] S2 = .ok (matV M) S2 := by
    by_cases z : i = 0
    · obtain ⟨M, p1, p2, p3, p4⟩ := law_proofed_ok (k := k) (M := M2) (l := l) h2.wf hd m3 (fun line hline => ⟨(m4 line hline).len, fun q hq => ((m4 line hline).dr q hq).bd⟩) hl.len hl.dr
      refine ⟨M, ⟨p1, p2⟩, fun _ => p3, ?_⟩
      have z2 : ((i : Int) == 0) = true := by simp [z]
      generalize rowV false l = w1 at *
      generalize PV.lst (M2.map (rowV false)) = w2 at *
      generalize matV M = w3 at *
      generalize (i : Int) = t at *
      simp -implicitDefEqProofs [z2, p4, permP]
    · refine ⟨M2, ⟨m3, fun line hline => ⟨(m4 line hline).len, fun q hq => big_bd ((m4 line hline).dr q hq).bd⟩⟩, fun q => absurd q z, ?_⟩
      have z2 : ((i : Int) == 0) = false := by simp; omega
      have hc := comp_A (C := CC (k + 5)) (S := S2) (own := [10, 12]) (t := .name 12) (it := .of (.var 9)) (e := .bi .tuple_ (.cons (.var 12) .nil)) (r := [some (.ref 0), some a, some b, some (.int (d : Int)), some (rowV false l), some V5, some (.int (th : Int)), some (.ref 2), some (.int (i : Int)), some (.lst (M2.map (rowV false))), none, none, none, none]) (as := M2) (g := rowV false) (h := rowV true) (eI_ofL (by simp)) (by
        have : sizeLine = 16777216 := rfl
        omega) (fun line _ => by
        have et : opn .tuple_ [rowV false line] S2 = .ok (rowV true line) S2 := rfl
        generalize rowV false l = y3 at *
        generalize rowV false line = y4 at *
        generalize rowV true line = y5 at *
        generalize PV.lst (M2.map (rowV false)) = w2 at *
        unfold turnF
        simp [bindT, wipeP, et])
      unfold matV
      generalize rowV false l = w1 at *
      generalize PV.lst (M2.map (rowV false)) = w2 at *
      generalize (i : Int) = t at *
      simp -implicitDefEqProofs [z2, hc, permP]
  obtain ⟨M, g1, g2, e3⟩ := st3
  have ha := app_ok (C := CC (k + 5)) (i := 7) (n := 2) (r := [some (.ref 0), some a, some b, some (.int (d : Int)), some (rowV false l), some V5, some (.int (th : Int)), some (.ref 2), some (.int (i : Int)), some (.lst (M2.map (rowV false))), none, none, none, none]) (T := S2) (xs := done.map matV) (x := matV M) rfl h2.get e3 (by simp; omega)
  have hset : Dst (N + 100) [.lst ((done ++ [M]).map matV)] (S2.set 2 (.lst (done.map matV ++ [matV M]))) := by
    have := h2.set (y := .lst ((done ++ [M]).map matV)) (rok_lst (below_map fun q => below_matV))
    rw [List.map_append] at this ⊢
    exact this.mono (by omega)
  refine ⟨M, _, some (.lst (M2.map (rowV false))), g1, g2, hset, ?_⟩
  rw [eSs_cons, st1, SRes.seq_nx, eSs_cons, e2, SRes.seq_nx, eSs_cons, ha, SRes.seq_nx, eSs_nil]
end Dg
end

section
set_option Elab.async false
set_option linter.all false
set_option maxRecDepth 100000
set_option maxHeartbeats 1000000
/-! A16: a drawn counting is one. -/
namespace Dg
open PySem L2
theorem mg_head {d : Nat} {l : List Rat} {done : List Mat} {M : Mat} (h : ∀ X rest, done = X :: rest → X.map (fun line => dotQ line l) = l) (h2 : done.length = 0 → M.map (fun line => dotQ line l) = l) : ∀ X rest, done ++ [M] = X :: rest → X.map (fun line => dotQ line l) = l := by
  intro X rest e
  cases done with
  | nil =>
    cases e
    exact h2 rfl
  | cons Y r =>
    cases e
    exact h _ r rfl
theorem law_counting_ok {k N b t d : Nat} {S : Store} (h : Dst N [] S) (hN : N + 10000 ≤ 600000000) (hb : 2 ≤ b) (hb2 : b ≤ 10) (ht : t ≤ 6) (hc : b ^ t ≤ 10) (hd : d ≤ 4) :
    ∃ (f : List Rat) (ms : List Mat) (l : List Rat) (S' : Store), CV b t d f ms l ∧ CntOk d 216000 194400000 f ms l ∧ Dst (N + 2000) [] S' ∧ GG (k + 6) 36 [.ref 0, nI b, nI t, .int (d : Int)] S = .ok (cntV b t f ms l) S' := by
  obtain ⟨l, S1, l1, h1, e1⟩ := fractions_comp (k := k + 2) (v := 3) (b := 10) (c := 11) (d := d) (r := [some (.ref 0), some (nI b), some (nI t), some (.int (d : Int)), none, none, none, none, none, none, none, none, none, none]) h (by omega) (by omega) rfl (fun j q S1 S2 e => by
    unfold turnF
    generalize fr q = w at *
    simp -implicitDefEqProofs [bindT, wipeP, e, permP])
  obtain ⟨f, S2, f1, h2, e2⟩ := fractions_comp (k := k + 2) (v := 3) (b := 10) (c := 11) (d := d) (r := [some (.ref 0), some (nI b), some (nI t), some (.int (d : Int)), some (rowV false l), none, none, none, none, none, none, none, none, none]) h1 (by omega) (by omega) rfl (fun j q S1 S2 e => by
    unfold turnF
    generalize fr q = w at *
    generalize rowV false l = w2 at *
    simp -implicitDefEqProofs [bindT, wipeP, e, permP])
  obtain ⟨th, S3, th1, h3, e3⟩ := draw (k := k + 3) (L := 3) h2 (by omega) (by omega) (by omega)
  have e3' : GG (k + 5) 21 [.ref 0, .int 3] S2 = .ok (.int th) S3 := e3
  have hlen3 : S3.length = 2 := h3.len
  have h4 : Dst (N + 3 * d + 3 * d + 1) [.lst (([] : List Mat).map matV)] (S3 ++ [.lst (([] : List Mat).map matV)]) := Dst.app (R := []) h3 (rok_lst rfl)
  let V5 : PV := rowV true f
  have st1 : evalS (CC (k + 5)) (.asg (.name 4) (.comp false [10, 11] (.name 11) (.range (.cons (.var 3) .nil)) .none (.call 34 [(.inl 0)] (.cons (.var 0) .nil)))) [some (.ref 0), some (nI b), some (nI t), some (.int (d : Int)), none, none, none, none, none, none, none, none, none, none] S = .nx [some (.ref 0), some (nI b), some (nI t), some (.int (d : Int)), some (rowV false l), none, none, none, none, none, none, none, none, none] S1 := by
    rw [eS_asg, e1, Res.to_ok]
    rfl
  have st2 : evalS (CC (k + 5)) (.asg (.name 5) (.bi .tuple_ (.cons (.comp false [10, 11] (.name 11) (.range (.cons (.var 3) .nil)) .none (.call 34 [(.inl 0)] (.cons (.var 0) .nil))) .nil))) [some (.ref 0), some (nI b), some (nI t), some (.int (d : Int)), some (rowV false l), none, none, none, none, none, none, none, none, none] S1 = .nx [some (.ref 0), some (nI b), some (nI t), some (.int (d : Int)), some (rowV false l), some V5, none, none, none, none, none, none, none, none] S2 := by
    rw [eS_asg, eE_bi, eEs_cons, e2, Res.bind_ok, eEs_nil, Res.bind_ok, Res.bind_ok]
    rfl
  have st3 : evalS (CC (k + 5)) (.asg (.tup [6, 7]) (.tup (.cons (.call 21 [(.inl 0), (.inl 1)] (.cons (.var 0) (.cons (.k (.int (3))) .nil))) (.cons (.lstR .nil) .nil)))) [some (.ref 0), some (nI b), some (nI t), some (.int (d : Int)), some (rowV false l), some V5, none, none, none, none, none, none, none, none] S2 = .nx [some (.ref 0), some (nI b), some (nI t), some (.int (d : Int)), some (rowV false l), some V5, some (.int (th : Int)), some (.ref 2), none, none, none, none, none, none] (S3 ++ [.lst (([] : List Mat).map matV)]) := by
    generalize rowV false l = w1 at *
    generalize V5 = w2 at *
    generalize (th : Int) = ti at *
    rw [← hlen3]
    simp -implicitDefEqProofs [bindT, sizeLine, e3', permP]
  have hlp := forL_k (t := .name 8) (g := none) (f := fun r2 S2 => evalSs (CC (k + 5)) cntB r2 S2) (xs := (List.range (b ^ t)).map fun (k : Nat) => .int (k : Int)) (r := [some (.ref 0), some (nI b), some (nI t), some (.int (d : Int)), some (rowV false l), some V5, some (.int (th : Int)), some (.ref 2), none, none, none, none, none, none]) (S := S3 ++ [.lst (([] : List Mat).map matV)])
    (fun i r S' => (∃ done : List Mat, done.length = i ∧ (∀ M ∈ done, MatG d M) ∧ (∀ X rest, done = X :: rest → X.map (fun line => dotQ line l) = l) ∧ Dst (N + 3 * d + 3 * d + 1 + 100 * i) [.lst (done.map matV)] S') ∧ ∃ v8 v9, r = [some (.ref 0), some (nI b), some (nI t), some (.int (d : Int)), some (rowV false l), some V5, some (.int (th : Int)), some (.ref 2), v8, v9, none, none, none, none]) (fun _ _ => False)
    (fun i hi r S' hI => by
      obtain ⟨⟨done, d1, d2, d3, d4⟩, v8, v9, rfl⟩ := hI
      have hi' : i < b ^ t := by simpa using hi
      obtain ⟨M, S5, x9, g1, g2, g3, g4⟩ := cnt_body (k := k) (i := i) (th := th) (a := nI b) (b := nI t) (V5 := V5) (v9 := v9) d4 (by omega) hd l1 (by omega)
      refine ⟨[some (.ref 0), some (nI b), some (nI t), some (.int (d : Int)), some (rowV false l), some V5, some (.int (th : Int)), some (.ref 2), some (.int (i : Int)), v9, none, none, none, none], by simp [bindT], .inl ⟨_, _, .inl g4, trivial, ⟨done ++ [M], by simp [d1], ?_, mg_head (d := d) d3 (fun q => g2 (by omega)), ?_⟩, _, _, rfl⟩⟩
      · intro X hX
        rcases List.mem_append.mp hX with hX | hX
        · exact d2 X hX
        · rw [List.mem_singleton.mp hX]; exact g1
      · rw [show N + 3 * d + 3 * d + 1 + 100 * (i + 1) = N + 3 * d + 3 * d + 1 + 100 * i + 100 by omega]; exact g3) ⟨⟨[], rfl, by simp, by simp, h4⟩, none, none, rfl⟩
  rcases hlp with ⟨r', S6, e, ⟨done, d1, d2, d3, d4⟩, v8, v9, rfl⟩ | ⟨_, _, _, h⟩
  · have el : ((List.range (b ^ t)).map fun (k : Nat) => PV.int (k : Int)).length = b ^ t := by simp
    rw [el] at d1 d4
    have hp := law_power_ok (k := k + 4) (b := b) (t := t) h4.wf hb2 ht
    have ei : evalI (CC (k + 5)) (.range (.cons (.call 25 [(.inl 0), (.inl 1)] (.cons (.var 1) (.cons (.var 2) .nil))) .nil)) [some (.ref 0), some (nI b), some (nI t), some (.int (d : Int)), some (rowV false l), some V5, some (.int (th : Int)), some (.ref 2), none, none, none, none, none, none] (S3 ++ [.lst (([] : List Mat).map matV)]) = .ok ((List.range (b ^ t)).map fun (k : Nat) => .int (k : Int), none) (S3 ++ [.lst (([] : List Mat).map matV)]) := by
      refine eI_rng ?_ (by omega)
      generalize S3 ++ [.lst (([] : List Mat).map matV)] = T at *
      generalize rowV false l = w1 at *
      generalize V5 = w2 at *
      unfold nI
      generalize ((b ^ t : Nat) : Int) = pw at *
      simp -implicitDefEqProofs [hp, permP]
    obtain ⟨S7, rfl, h7⟩ := Dst.unapp d4
    have et := tup_ref (T := S7 ++ [.lst (done.map matV)]) (n := 2) (xs := done.map matV) d4.get
    have key : evalSs (CC (k + 5)) m__law_counting [some (.ref 0), some (nI b), some (nI t), some (.int (d : Int)), none, none, none, none, none, none, none, none, none, none] S = .ret (cntV b t f done l) (S7 ++ [.lst (done.map matV)]) := by
      unfold m__law_counting
      rw [eSs_cons, st1, SRes.seq_nx, eSs_cons, st2, SRes.seq_nx, eSs_cons, st3, SRes.seq_nx, eSs_cons, eS_for, ei, Res.to_ok]
      dsimp only
      rw [e, SRes.seq_nx]
      have et2 : ∀ T, opn .tuple_ [rowV false l] T = .ok (rowV true l) T := fun T => rfl
      have ev : cntV b t f done l = .tup [nI b, nI t, V5, .tup (done.map matV), rowV true l] := rfl
      rw [ev]
      generalize S7 ++ [MO.lst (done.map matV)] = T at *
      generalize rowV false l = w1 at *
      generalize rowV true l = w3 at *
      generalize V5 = w2 at *
      generalize done.map matV = w4 at *
      generalize nI b = w5 at *
      generalize nI t = w6 at *
      simp -implicitDefEqProofs [et, et2, sizeLine]
    have hpos : 0 < b ^ t := Nat.pow_pos (by omega)
    refine ⟨f, done, l, S7, ⟨hb, hb2, ht, f1.len, l1.len, d1, by omega, ?_, fun M hM => ⟨(d2 M hM).len, fun line hl => ((d2 M hM).row line hl).1⟩, ?_⟩, ⟨by decide, f1.len, l1.len, fun x hx => big_bd (f1.dr x hx).bd, fun x hx => big_bd (l1.dr x hx).bd, fun M hM => ⟨(d2 M hM).len, (d2 M hM).row⟩⟩, h7.mono (by omega), ?_⟩
    · have : d * d ≤ 4 * 4 := Nat.mul_le_mul hd hd
      have : d * d * b ^ t ≤ 16 * 10 := Nat.mul_le_mul (by omega) hc
      omega
    · cases done with
      | nil => simp at d1; omega
      | cons X rest => exact d3 X rest rfl
    · rw [show GG (k + 6) 36 [.ref 0, nI b, nI t, .int (d : Int)] S = _ from Gp_succ (k := k + 5) (d := d__law_counting) rfl]
      refine evalD_new (S' := S7) (R := [.lst (done.map matV)]) ?_ (by rw [h7.len, h.len]) key (frzG_below below_cnt)
      have := h7.wf
      unfold Wf at this
      rw [h.len, ← h7.len]; exact this
  · exact h.elim
end Dg
end

section
set_option Elab.async false
set_option linter.all false
set_option maxRecDepth 100000
set_option maxHeartbeats 1000000
/-! A17: odd things, rows and matrices spoilt. -/
namespace Dg
open PySem L2
variable {S : Store}
theorem slP_lo {xs : List PV} {k : Nat} : slP (.tup xs) (some (k : Int)) none S = .ok (.tup (xs.drop k)) S := by
  show Res.ok (PV.tup ((xs.drop (HT.sIx xs.length 0 (some (k : Int)))).take (HT.sIx xs.length xs.length none - HT.sIx xs.length 0 (some (k : Int))))) S = _
  rw [HT.sIx_nat, HT.sIx_none]
  by_cases h : k ≤ xs.length
  · rw [Nat.min_eq_left h, List.take_of_length_le (by rw [List.length_drop]; omega)]
  · rw [Nat.min_eq_right (by omega), List.drop_length, List.drop_of_length_le (by omega), List.take_nil]
theorem slP_hi {xs : List PV} {k : Nat} : slP (.tup xs) none (some (k : Int)) S = .ok (.tup (xs.take k)) S := by
  show Res.ok (PV.tup ((xs.drop (HT.sIx xs.length 0 none)).take (HT.sIx xs.length xs.length (some (k : Int)) - HT.sIx xs.length 0 none))) S = _
  rw [HT.sIx_nat, HT.sIx_none, List.drop_zero, Nat.sub_zero]
  by_cases h : k ≤ xs.length
  · rw [Nat.min_eq_left h]
  · rw [Nat.min_eq_right (by omega), List.take_length, List.take_of_length_le (by omega)]
theorem belows_sub {n : Nat} {xs ys : List PV} (h : belows n ys = true) (hs : ∀ x ∈ xs, x ∈ ys) : belows n xs = true := by
  have hb : ∀ {ys : List PV} {y : PV}, belows n ys = true → y ∈ ys → below n y = true := by
    intro ys y hh hy
    induction ys with
    | nil => simp at hy
    | cons z zs ih =>
      rw [belows, Bool.and_eq_true] at hh
      rcases List.mem_cons.mp hy with rfl | hy
      · exact hh.1
      · exact ih hh.2 hy
  exact belows_of fun x hx => hb h (hs x hx)
def putL (xs : List PV) (i : Nat) (one : PV) : List PV := xs.take i ++ [one] ++ xs.drop (i + 1)
theorem putL_mem {xs : List PV} {i : Nat} {one x : PV} (h : x ∈ putL xs i one) : x = one ∨ x ∈ xs := by
  unfold putL at h
  simp only [List.mem_append, List.mem_singleton] at h
  rcases h with (h | h) | h
  · exact .inr (List.mem_of_mem_take h)
  · exact .inl h
  · exact .inr (List.mem_of_mem_drop h)
theorem putL_len {xs : List PV} {i : Nat} {one : PV} (h : i < xs.length) : (putL xs i one).length = xs.length := by
  unfold putL
  simp; omega
theorem Sm_put {n i : Nat} {xs : List PV} {one : PV} (hi : i < xs.length) (hl : xs.length ≤ 1000) (hx : ∀ x ∈ xs, Sm n x) (h1 : Sm n one) : Sm (n + 1) (.tup (putL xs i one)) :=
  Sm_tup (by rw [putL_len hi]; exact hl) fun x h => by
    rcases putL_mem h with rfl | h
    · exact h1
    · exact hx x h
theorem law_put_ok {k n i : Nat} {xs : List PV} {one : PV} (hS : Wf S) (hi : i < xs.length) (hl : xs.length ≤ 1000) (hx : ∀ x ∈ xs, Sm n x) (h1 : Sm n one) : GG (k + 1) 43 [.tup xs, nI i, one] S = .ok (.tup (putL xs i one)) S := by
  rw [show GG (k + 1) 43 [.tup xs, nI i, one] S = _ from Gp_succ (d := d__law_put) rfl]
  refine evalD_ret hS ?_ (Sm_put hi hl hx h1).below
  show evalSs (CC k) m__law_put [some (.tup xs), some (nI i), some one] S = _
  unfold m__law_put
  have s1 := slP_hi (S := S) (xs := xs) (k := i)
  have s2 := slP_lo (S := S) (xs := xs) (k := i + 1)
  rw [Int.natCast_add] at s2
  have s2' : slP (.tup xs) (some ((i : Int) + 1)) none S = .ok (.tup (xs.drop (i + 1))) S := s2
  have a1 := add_TT (St := S) (xs := xs.take i) (ys := [one]) (by simp; omega)
  have a2 := add_TT (St := S) (xs := xs.take i ++ [one]) (ys := xs.drop (i + 1)) (by simp; omega)
  unfold nI putL
  simp -implicitDefEqProofs [s1, s2', a1, a2, sizeLine]
/-! ### odd things -/
def ODa : List PV := [.tup [.int 2, .int 4], .tup [.int 0, .int 2], .tup [.int 1, .int 0], .tup [.int 1, .int (-2)], .tup [.bl true, .int 1], .tup [.int 1, .bl true], .int 3, .lst [.int 1, .int 2]]
def ODb : List PV := [.tup [.int 1], .tup [.int 1, .int 2, .int 3], .non, .tup [.non, .int 1], .tup [.int (-6), .int 3], .tup [.tup [.int 1, .int 1], .int 1]]
theorem Sm_small {n : Nat} {i : Int} (h : i.natAbs ≤ 100000) : Sm n (.int i) := Sm_int (by
  have : (100000 : Nat) ≤ 2 ^ 40 := by decide +kernel
  omega)
theorem Sm_od {v : PV} (h : v ∈ ODa ++ ODb) : Sm 2 v := by
  unfold ODa ODb at h
  simp only [List.cons_append, List.nil_append, List.mem_cons, List.not_mem_nil, or_false] at h
  have two : ∀ {a b : PV}, Sm 0 a → Sm 0 b → Sm 2 (.tup [a, b]) := fun ha hb => Sm_tup (by simp) fun x hx => by
    simp only [List.mem_cons, List.not_mem_nil, or_false] at hx
    rcases hx with rfl | rfl
    · exact Sm_mono ha (by omega)
    · exact Sm_mono hb (by omega)
  rcases h with rfl | rfl | rfl | rfl | rfl | rfl | rfl | rfl | rfl | rfl | rfl | rfl | rfl | rfl
  · exact two (Sm_small (by decide)) (Sm_small (by decide))
  · exact two (Sm_small (by decide)) (Sm_small (by decide))
  · exact two (Sm_small (by decide)) (Sm_small (by decide))
  · exact two (Sm_small (by decide)) (Sm_small (by decide))
  · exact two Sm_bl (Sm_small (by decide))
  · exact two (Sm_small (by decide)) Sm_bl
  · exact Sm_small (by decide)
  · refine Sm_lst (by simp) fun x hx => ?_
    simp only [List.mem_cons, List.not_mem_nil, or_false] at hx
    rcases hx with rfl | rfl <;> exact Sm_small (by decide)
  · refine Sm_tup (by simp) fun x hx => ?_
    simp only [List.mem_cons, List.not_mem_nil, or_false] at hx
    subst hx; exact Sm_small (by decide)
  · refine Sm_tup (by simp) fun x hx => ?_
    simp only [List.mem_cons, List.not_mem_nil, or_false] at hx
    rcases hx with rfl | rfl | rfl <;> exact Sm_small (by decide)
  · exact Sm_non
  · exact two Sm_non (Sm_small (by decide))
  · exact two (Sm_small (by decide)) (Sm_small (by decide))
  · refine Sm_tup (by simp) fun x hx => ?_
    simp only [List.mem_cons, List.not_mem_nil, or_false] at hx
    rcases hx with rfl | rfl
    · refine Sm_tup (by simp) fun x hx => ?_
      simp only [List.mem_cons, List.not_mem_nil, or_false] at hx
      rcases hx with rfl | rfl <;> exact Sm_small (by decide)
    · exact Sm_small (by decide)
theorem law_odd_ok {k N : Nat} {R S : Store} (h : Dst N R S) (hN : N ≤ 900000000) : ∃ (v : PV) (S' : Store), v ∈ ODa ++ ODb ∧ Dst (N + 1) R S' ∧ GG (k + 4) 42 [.ref 0] S = .ok v S' := by
  obtain ⟨v, S', h1, h2, h3⟩ := law_of_ok (k := k) (xs := ODa ++ ODb) h (by omega) (by simp [ODa]) (by simp [ODa, ODb]) (fun n => by simp [ODa, ODb, belows, below])
  refine ⟨v, S', h1, h2, ?_⟩
  rw [show GG (k + 4) 42 [.ref 0] S = _ from Gp_succ (k := k + 3) (d := d__law_odd) rfl]
  refine evalD_dst h h2 ?_ (Sm_od h1).below
  show evalSs (CC (k + 3)) m__law_odd [some (.ref 0), none] S = _
  unfold m__law_odd
  have ha := add_LL (St := S) (xs := ODa) (ys := ODb) (by simp [ODa, ODb])
  have st : ∀ A, evalSs (CC (k + 3)) (.cons (.asg (.name 1) (.lst (.cons (.tup (.cons (.k (.int (2))) (.cons (.k (.int (4))) .nil))) (.cons (.tup (.cons (.k (.int (0))) (.cons (.k (.int (2))) .nil))) (.cons (.tup (.cons (.k (.int (1))) (.cons (.k (.int (0))) .nil))) (.cons (.tup (.cons (.k (.int (1))) (.cons (.un .neg (.k (.int (2)))) .nil))) (.cons (.tup (.cons (.k (.bl true)) (.cons (.k (.int (1))) .nil))) (.cons (.tup (.cons (.k (.int (1))) (.cons (.k (.bl true)) .nil))) (.cons (.k (.int (3))) (.cons (.lst (.cons (.k (.int (1))) (.cons (.k (.int (2))) .nil))) .nil)))))))))) A) [some (.ref 0), none] S = evalSs (CC (k + 3)) A [some (.ref 0), some (.lst ODa)] S := by
    intro A
    simp -implicitDefEqProofs [bindT, sizeLine, op1, ODa]
  rw [st]
  have e2 : evalE (CC (k + 3)) (.lst (.cons (.tup (.cons (.k (.int (1))) .nil)) (.cons (.tup (.cons (.k (.int (1))) (.cons (.k (.int (2))) (.cons (.k (.int (3))) .nil)))) (.cons (.k .non) (.cons (.tup (.cons (.k .non) (.cons (.k (.int (1))) .nil))) (.cons (.tup (.cons (.un .neg (.k (.int (6)))) (.cons (.k (.int (3))) .nil))) (.cons (.tup (.cons (.tup (.cons (.k (.int (1))) (.cons (.k (.int (1))) .nil))) (.cons (.k (.int (1))) .nil))) .nil))))))) [some (.ref 0), some (.lst ODa)] S = .ok (.lst ODb) S := by
    simp -implicitDefEqProofs [sizeLine, op1, ODb]
  generalize ODa ++ ODb = od at *
  generalize ODa = oa at *
  generalize ODb = ob at *
  rw [eSs_cons, eS_ret, eE_call, eEs_cons]
  simp -implicitDefEqProofs only [eE_var, List.getElem?_cons_zero, List.getElem?_cons_succ, Res.bind_ok, eEs_cons, eE_bin, e2, ha, eEs_nil, permP]
  simp -implicitDefEqProofs [h3, permP]
end Dg
end

section
set_option Elab.async false
set_option linter.all false
set_option maxRecDepth 100000
set_option maxHeartbeats 1000000
/-! A18: rows and matrices spoilt. -/
namespace Dg
open PySem L2
variable {S : Store}
theorem law_of_sm {k N n : Nat} {R S : Store} {xs : List PV} (h : Dst N R S) (hN : N ≤ 900000000) (hx : xs ≠ []) (hl : xs.length < 1000000) (hs : ∀ x ∈ xs, Sm n x) : ∃ (v : PV) (S' : Store), v ∈ xs ∧ Sm n v ∧ Dst (N + 1) R S' ∧ GG (k + 3) 23 [.ref 0, .lst xs] S = .ok v S' := by
  obtain ⟨v, S', h1, h2, h3⟩ := law_of_ok (k := k) (xs := xs) h (by omega) hx hl (fun m => belows_of fun x q => (hs x q).below)
  exact ⟨v, S', h1, hs v h1, h2, h3⟩
theorem eq_nil_tup {n : Nat} {xs : List PV} (h : ∀ x ∈ xs, Sm n x) (hn : n ≤ 60) : op2 .eq (.tup xs) (.tup []) S = .ok (.bl xs.isEmpty) S := by
  show eqD false (.tup xs) (.tup []) S = _
  have e2 : toD S (.tup []) = some (.tuple []) := by
    rw [toD, toDs]; rfl
  cases xs with
  | nil =>
    rw [eqD_of rfl e2 e2 (by decide +kernel) (by decide +kernel), if_neg Bool.false_ne_true]
    rfl
  | cons x xs =>
    obtain ⟨d, h1, h2, h3⟩ := (h x (List.mem_cons_self ..)).d (S := S)
    obtain ⟨ds, k1, k2, k3⟩ := DOks (S := S) (n := n) (xs := xs) fun y q => (h y (List.mem_cons_of_mem _ q)).d
    have e1 : toD S (.tup (x :: xs)) = some (.tuple (d :: ds)) := by
      rw [toD, toDs, h1, k1]; rfl
    have s1 : SeqAt.shaped (.tuple (d :: ds)) = true := by
      refine shaped_of (n := n + 1) ?_ ?_ (by omega)
      · rw [PyData.canLay0, PyData.canLayAll0, h2, k2]; rfl
      · rw [PyData.depth, PyData.depthAll]; omega
    rw [eqD_of rfl e1 e2 s1 (by decide +kernel), if_neg Bool.false_ne_true]
    rfl
theorem mem3 {n : Nat} {a b c : PV} (ha : Sm n a) (hb : Sm n b) (hc : Sm n c) : ∀ x ∈ [a, b, c], Sm n x := fun x hx => by
  simp only [List.mem_cons, List.not_mem_nil, or_false] at hx
  rcases hx with rfl | rfl | rfl
  · exact ha
  · exact hb
  · exact hc
theorem Sm_fr0 {n : Nat} : Sm (n + 1) (.tup [.int 0, .int 1]) := Sm_fr (q := 0) Dr.zero.sz
theorem row_spoilt_ok {k N : Nat} {R S : Store} {xs : List PV} (h : Dst N R S) (hN : N ≤ 800000000) (hl : xs.length ≤ 900) (hx : ∀ x ∈ xs, Sm 3 x) : ∃ (v : PV) (S' : Store), Sm 4 v ∧ Dst (N + 10) R S' ∧ GG (k + 5) 44 [.ref 0, .tup xs] S = .ok v S' := by
  obtain ⟨v, S1, v1, h1, e1⟩ := draw (k := k + 2) (L := 6) h (by omega) (by omega) (by omega)
  have e1' : GG (k + 4) 21 [.ref 0, .int 6] S = .ok (.int v) S1 := e1
  have key : ∃ (z : PV) (S' : Store), Sm 4 z ∧ Dst (N + 10) R S' ∧ evalSs (CC (k + 4)) m__law_row_spoilt [some (.ref 0), some (.tup xs), none, none] S = .ret z S' := by
    unfold m__law_row_spoilt
    by_cases z0 : v = 0
    · subst z0
      refine ⟨.lst xs, S1, Sm_lst (by omega) hx, h1.mono (by omega), ?_⟩
      simp -implicitDefEqProofs [e1', permP, bindT, opn, seqOf]
    · have y0 : ((v : Int) == 0) = false := by simp; omega
      by_cases z1 : v = 1
      · subst z1
        have a1 := add_TT (St := S1) (xs := xs) (ys := [.tup [.int 0, .int 1]]) (by simp; omega)
        refine ⟨.tup (xs ++ [.tup [.int 0, .int 1]]), S1, Sm_tup (by simp; omega) (fun x q => ?_), h1.mono (by omega), ?_⟩
        · rcases List.mem_append.mp q with q | q
          · exact hx x q
          · rw [List.mem_singleton.mp q]; exact Sm_fr0
        · simp -implicitDefEqProofs [e1', permP, bindT, a1, sizeLine]
      · have y1 : ((v : Int) == 1) = false := by simp; omega
        have en := eq_nil_tup (S := S1) hx (by omega)
        by_cases z2 : xs = [] ∨ v = 2
        · have a1 := add_TT (St := S1) (xs := [.non]) (ys := xs) (by simp; omega)
          have a2 := add_TT (St := S1) (xs := xs.drop 1) (ys := [.int 7, .int 8]) (by simp; omega)
          have sl : slP (.tup xs) (some 1) none S1 = .ok (.tup (xs.drop 1)) S1 := slP_lo (k := 1)
          obtain ⟨w, S2, _, w2, h2, e2⟩ := law_of_sm (k := k + 1) (n := 4) (xs := [.non, .tup ([.non] ++ xs), .tup (xs.drop 1 ++ [.int 7, .int 8])]) h1 (by omega) (by simp) (by simp) (mem3 Sm_non (Sm_tup (by simp; omega) fun x q => by
            rcases List.mem_append.mp q with q | q
            · rw [List.mem_singleton.mp q]; exact Sm_non
            · exact hx x q) (Sm_tup (by simp; omega) fun x q => by
            rcases List.mem_append.mp q with q | q
            · exact hx x (List.mem_of_mem_drop q)
            · simp only [List.mem_cons, List.not_mem_nil, or_false] at q
              rcases q with rfl | rfl <;> exact Sm_small (by decide)))
          refine ⟨w, S2, w2, h2.mono (by omega), ?_⟩
          have hor : xs.isEmpty = true ∨ ((v : Int) == 2) = true := by
            rcases z2 with q | q
            · left; subst q; rfl
            · right; subst q; rfl
          generalize xs.isEmpty = B at *
          generalize PV.tup ([PV.non] ++ xs) = p1 at *
          generalize PV.tup (xs.drop 1 ++ [PV.int 7, PV.int 8]) = p2 at *
          generalize PV.tup (xs.drop 1) = p3 at *
          generalize PV.tup xs = p4 at *
          generalize (v : Int) = vi at *
          cases B
          · have hc := hor.resolve_left Bool.false_ne_true
            simp -implicitDefEqProofs [e1', permP, bindT, en, hc, y0, y1, e2, a1, a2, sl, sizeLine]
          · simp -implicitDefEqProofs [e1', permP, bindT, en, y0, y1, e2, a1, a2, sl, sizeLine]
        · have z2' : xs ≠ [] ∧ v ≠ 2 := ⟨fun q => z2 (.inl q), fun q => z2 (.inr q)⟩
          have hxl : 0 < xs.length := List.length_pos_iff.mpr z2'.1
          have y2 : ((v : Int) == 2) = false := by simp; omega
          have ee : xs.isEmpty = false := by
            cases q : xs with
            | nil => exact absurd q z2'.1
            | cons => rfl
          rw [ee] at en
          obtain ⟨i, S2, i1, h2, e2⟩ := draw (k := k + 2) (L := xs.length) h1 (by omega) (by omega) (by omega)
          have e2' : GG (k + 4) 21 [.ref 0, .int (xs.length : Int)] S1 = .ok (.int i) S2 := e2
          by_cases z5 : v < 5
          · obtain ⟨o, S3, o1, h3, e3⟩ := law_odd_ok (k := k) h2 (by omega)
            have so : Sm 3 o := Sm_mono (Sm_od o1) (by omega)
            have e4 := law_put_ok (k := k + 3) h3.wf i1 (by omega) hx so
            have e4' : GG (k + 4) 43 [.tup xs, .int (i : Int), o] S3 = .ok (.tup (putL xs i o)) S3 := e4
            refine ⟨.tup (putL xs i o), S3, Sm_put i1 (by omega) hx so, h3.mono (by omega), ?_⟩
            have y5 : decide ((v : Int) < 5) = true := by simp; omega
            have hlen : opn .len [.tup xs] S1 = .ok (.int (xs.length : Int)) S1 := opn_len_tup
            generalize PV.tup (putL xs i o) = p1 at *
            generalize PV.tup xs = p4 at *
            generalize (v : Int) = vi at *
            generalize (i : Int) = ii at *
            generalize (xs.length : Int) = ll at *
            simp -implicitDefEqProofs [e1', permP, bindT, en, y0, y1, y2, y5, e2', e3, e4', hlen, sizeLine]
          · obtain ⟨q, S3, q1, h3, e3⟩ := fraction_ok (k := k + 1) h2 (by omega)
            have e3' : GG (k + 4) 34 [.ref 0] S2 = .ok (fr q) S3 := e3
            have so : Sm 3 (fr q) := Sm_fr q1.sz
            have e4 := law_put_ok (k := k + 3) h3.wf i1 (by omega) hx so
            have e4' : GG (k + 4) 43 [.tup xs, .int (i : Int), fr q] S3 = .ok (.tup (putL xs i (fr q))) S3 := e4
            refine ⟨.tup (putL xs i (fr q)), S3, Sm_put i1 (by omega) hx so, h3.mono (by omega), ?_⟩
            have y5 : decide ((v : Int) < 5) = false := by simp; omega
            have hlen : opn .len [.tup xs] S1 = .ok (.int (xs.length : Int)) S1 := opn_len_tup
            generalize PV.tup (putL xs i (fr q)) = p1 at *
            generalize fr q = p2 at *
            generalize PV.tup xs = p4 at *
            generalize (v : Int) = vi at *
            generalize (i : Int) = ii at *
            generalize (xs.length : Int) = ll at *
            simp -implicitDefEqProofs [e1', permP, bindT, en, y0, y1, y2, y5, e2', e3', e4', hlen, sizeLine]
  obtain ⟨z, S', h2, h3, h4⟩ := key
  refine ⟨z, S', h2, h3, ?_⟩
  rw [show GG (k + 5) 44 [.ref 0, .tup xs] S = _ from Gp_succ (k := k + 4) (d := d__law_row_spoilt) rfl]
  exact evalD_dst h h3 h4 h2.below
theorem matrix_spoilt_ok {k N : Nat} {R S : Store} {xs : List PV} (h : Dst N R S) (hN : N ≤ 700000000) (hl : xs.length ≤ 900) (hx : ∀ x ∈ xs, ∃ ys, x = .tup ys ∧ ys.length ≤ 900 ∧ ∀ y ∈ ys, Sm 3 y) : ∃ (v : PV) (S' : Store), Sm 5 v ∧ Dst (N + 20) R S' ∧ GG (k + 6) 45 [.ref 0, .tup xs] S = .ok v S' := by
  have hx4 : ∀ x ∈ xs, Sm 4 x := fun x q => by
    obtain ⟨ys, rfl, a, b⟩ := hx x q
    exact Sm_tup (by omega) b
  obtain ⟨v, S1, v1, h1, e1⟩ := draw (k := k + 3) (L := 5) h (by omega) (by omega) (by omega)
  have e1' : GG (k + 5) 21 [.ref 0, .int 5] S = .ok (.int v) S1 := e1
  have en := eq_nil_tup (S := S1) hx4 (by omega)
  have key : ∃ (z : PV) (S' : Store), Sm 5 z ∧ Dst (N + 20) R S' ∧ evalSs (CC (k + 5)) m__law_matrix_spoilt [some (.ref 0), some (.tup xs), none, none] S = .ret z S' := by
    unfold m__law_matrix_spoilt
    by_cases z0 : xs = [] ∨ v = 0
    · have a1 := add_TT (St := S1) (xs := xs) (ys := [.tup []]) (by simp; omega)
      obtain ⟨w, S2, _, w2, h2, e2⟩ := law_of_sm (k := k + 2) (n := 5) (xs := [.non, .lst xs, .tup (xs ++ [.tup []])]) h1 (by omega) (by simp) (by simp) (mem3 Sm_non (Sm_lst (by omega) hx4) (Sm_tup (by simp; omega) fun x q => by
        rcases List.mem_append.mp q with q | q
        · exact hx4 x q
        · rw [List.mem_singleton.mp q]; exact Sm_tup (by simp) (by simp)))
      refine ⟨w, S2, w2, h2.mono (by omega), ?_⟩
      have hor : xs.isEmpty = true ∨ ((v : Int) == 0) = true := by
        rcases z0 with q | q
        · left; subst q; rfl
        · right; subst q; rfl
      generalize xs.isEmpty = B at *
      have lv : opn .listV [.tup xs] S1 = .ok (.lst xs) S1 := rfl
      generalize PV.tup (xs ++ [PV.tup []]) = p1 at *
      generalize PV.lst xs = p2 at *
      generalize PV.tup xs = p4 at *
      generalize (v : Int) = vi at *
      cases B
      · have hc := hor.resolve_left Bool.false_ne_true
        simp -implicitDefEqProofs [e1', permP, bindT, en, hc, e2, a1, lv, sizeLine]
      · simp -implicitDefEqProofs [e1', permP, bindT, en, e2, a1, lv, sizeLine]
    · have z0' : xs ≠ [] ∧ v ≠ 0 := ⟨fun q => z0 (.inl q), fun q => z0 (.inr q)⟩
      have y0 : ((v : Int) == 0) = false := by simp; omega
      have hxl : 0 < xs.length := List.length_pos_iff.mpr z0'.1
      have ee : xs.isEmpty = false := by
        cases q : xs with
        | nil => exact absurd q z0'.1
        | cons => rfl
      rw [ee] at en
      by_cases z1 : v = 1
      · have y1 : ((v : Int) == 1) = true := by simp; omega
        have sl : slP (.tup xs) (some 1) none S1 = .ok (.tup (xs.drop 1)) S1 := slP_lo (k := 1)
        refine ⟨.tup (xs.drop 1), S1, Sm_tup (by simp; omega) fun x q => hx4 x (List.mem_of_mem_drop q), h1.mono (by omega), ?_⟩
        generalize PV.tup (xs.drop 1) = p1 at *
        generalize PV.tup xs = p4 at *
        generalize (v : Int) = vi at *
        simp -implicitDefEqProofs [e1', permP, bindT, en, y0, y1, sl, sizeLine]
      · have y1 : ((v : Int) == 1) = false := by simp; omega
        obtain ⟨i, S2, i1, h2, e2⟩ := draw (k := k + 3) (L := xs.length) h1 (by omega) (by omega) (by omega)
        have e2' : GG (k + 5) 21 [.ref 0, .int (xs.length : Int)] S1 = .ok (.int i) S2 := e2
        obtain ⟨ys, hy, y1l, y2⟩ := hx xs[i] (List.getElem_mem i1)
        obtain ⟨w, S3, w1, h3, e3⟩ := row_spoilt_ok (k := k) (xs := ys) h2 (by omega) y1l y2
        rw [← hy] at e3
        have ei : op2 .ix (.tup xs) (.int (i : Int)) S2 = .ok xs[i] S2 := ix_tup (by simp [i1])
        have e4 := law_put_ok (k := k + 4) h3.wf i1 (by omega) hx4 w1
        have e4' : GG (k + 5) 43 [.tup xs, .int (i : Int), w] S3 = .ok (.tup (putL xs i w)) S3 := e4
        refine ⟨.tup (putL xs i w), S3, Sm_put i1 (by omega) hx4 w1, h3.mono (by omega), ?_⟩
        have hlen : opn .len [.tup xs] S1 = .ok (.int (xs.length : Int)) S1 := opn_len_tup
        generalize PV.tup (putL xs i w) = p1 at *
        generalize xs[i] = p2 at *
        generalize PV.tup xs = p4 at *
        generalize (v : Int) = vi at *
        generalize (i : Int) = ii at *
        generalize (xs.length : Int) = ll at *
        simp -implicitDefEqProofs [e1', permP, bindT, en, y0, y1, e2', e3, e4', ei, hlen, sizeLine]
  obtain ⟨z, S', h2, h3, h4⟩ := key
  refine ⟨z, S', h2, h3, ?_⟩
  rw [show GG (k + 6) 45 [.ref 0, .tup xs] S = _ from Gp_succ (k := k + 5) (d := d__law_matrix_spoilt) rfl]
  exact evalD_dst h h3 h4 h2.below
end Dg
end

section
set_option Elab.async false
set_option linter.all false
set_option maxRecDepth 100000
set_option maxHeartbeats 1000000
/-! A19: a counting with one thing changed. -/
namespace Dg
open PySem L2
theorem Sm_five {n : Nat} {a b c d e : PV} (ha : Sm n a) (hb : Sm n b) (hc : Sm n c) (hd : Sm n d) (he : Sm n e) : Sm (n + 1) (.tup [a, b, c, d, e]) := Sm_tup (by simp) fun x hx => by
  simp only [List.mem_cons, List.not_mem_nil, or_false] at hx
  rcases hx with rfl | rfl | rfl | rfl | rfl
  · exact ha
  · exact hb
  · exact hc
  · exact hd
  · exact he
theorem Sm_app {n : Nat} {xs ys : List PV} (hx : ∀ x ∈ xs, Sm n x) (hy : ∀ x ∈ ys, Sm n x) : ∀ x ∈ xs ++ ys, Sm n x := fun x q => by
  rcases List.mem_append.mp q with q | q
  · exact hx x q
  · exact hy x q
theorem Sm_one {n : Nat} {y : PV} (hy : Sm n y) : ∀ x ∈ [y], Sm n x := fun x q => by rw [List.mem_singleton.mp q]; exact hy
theorem Sm_cons {n : Nat} {y : PV} {ys : List PV} (hy : Sm n y) (h : ∀ x ∈ ys, Sm n x) : ∀ x ∈ y :: ys, Sm n x := fun x q => by
  rcases List.mem_cons.mp q with rfl | q
  · exact hy
  · exact h x q
theorem Sm_nil {n : Nat} : ∀ x ∈ ([] : List PV), Sm n x := by simp
theorem Sm_lift {n : Nat} {xs : List PV} (m : Nat) (h : ∀ x ∈ xs, Sm n x) (l : n ≤ m) : ∀ x ∈ xs, Sm m x := fun x q => Sm_mono (h x q) l
theorem spoilt_ok {k N : Nat} {b t : Nat} {fs mm ll : List PV} {S : Store} {R : Store} (h : Dst N R S) (hN : N ≤ 600000000) (hb : b ≤ 1000) (ht : t ≤ 1000) (hf : fs.length ≤ 900 ∧ ∀ x ∈ fs, Sm 3 x) (hl : ll.length ≤ 900 ∧ ∀ x ∈ ll, Sm 3 x) (hm0 : 0 < mm.length) (hm : mm.length ≤ 900 ∧ ∀ x ∈ mm, ∃ ls, x = .tup ls ∧ ls.length ≤ 900 ∧ ∀ y ∈ ls, ∃ ys, y = .tup ys ∧ ys.length ≤ 900 ∧ ∀ z ∈ ys, Sm 3 z) :
    ∃ (v : PV) (S' : Store), Sm 7 v ∧ Dst (N + 40) R S' ∧ GG (k + 7) 46 [.ref 0, .tup [nI b, nI t, .tup fs, .tup mm, .tup ll]] S = .ok v S' := by
  obtain ⟨v, S1, v1, h1, e1⟩ := draw (k := k + 4) (L := 9) h (by omega) (by omega) (by omega)
  have e1' : GG (k + 6) 21 [.ref 0, .int 9] S = .ok (.int v) S1 := e1
  have p40 : (100000 : Nat) ≤ 2 ^ 40 := by decide +kernel
  have sB : ∀ {n}, Sm n (nI b) := fun {n} => Sm_nI (by omega)
  have sT : ∀ {n}, Sm n (nI t) := fun {n} => Sm_nI (by omega)
  have sF : Sm 6 (.tup fs) := Sm_mono (Sm_tup (by omega) hf.2) (by omega)
  have sL : Sm 6 (.tup ll) := Sm_mono (Sm_tup (by omega) hl.2) (by omega)
  have sM5 : ∀ x ∈ mm, Sm 5 x := fun x q => by
    obtain ⟨ls, rfl, a1, a2⟩ := hm.2 x q
    refine Sm_tup (by omega) fun y hy => ?_
    obtain ⟨ys, rfl, b1, b2⟩ := a2 y hy
    exact Sm_tup (by omega) b2
  have sM : Sm 6 (.tup mm) := Sm_tup (by omega) sM5
  have key : ∃ (z : PV) (S' : Store), Sm 7 z ∧ Dst (N + 40) R S' ∧ evalSs (CC (k + 6)) m__law_spoilt [some (.ref 0), some (.tup [nI b, nI t, .tup fs, .tup mm, .tup ll]), none, none, none, none, none, none, none] S = .ret z S' := by
    unfold m__law_spoilt
    have st0 : evalS (CC (k + 6)) (.unp [(.name 2), (.name 3), (.name 4), (.name 5), (.name 6)] (.var 1)) [some (.ref 0), some (.tup [nI b, nI t, .tup fs, .tup mm, .tup ll]), none, none, none, none, none, none, none] S = .nx [some (.ref 0), some (.tup [nI b, nI t, .tup fs, .tup mm, .tup ll]), some (nI b), some (nI t), some (.tup fs), some (.tup mm), some (.tup ll), none, none] S := by
      generalize nI b = B at *
      generalize nI t = T at *
      simp [evalGs]
    rw [eSs_cons, st0, SRes.seq_nx]
    have hv : v = 0 ∨ v = 1 ∨ v = 2 ∨ v = 3 ∨ v = 4 ∨ v = 5 ∨ v = 6 ∨ (v ≠ 0 ∧ v ≠ 1 ∧ v ≠ 2 ∧ v ≠ 3 ∧ v ≠ 4 ∧ v ≠ 5 ∧ v ≠ 6) := by omega
    rcases hv with rfl | rfl | rfl | rfl | rfl | rfl | rfl | hv
    · obtain ⟨w, S2, _, w2, h2, e2⟩ := law_of_sm (k := k + 3) (n := 7) (xs := [.non, .lst [nI b, nI t, .tup fs, .tup mm, .tup ll], .tup [nI b, nI t, .tup fs, .tup mm], .tup ([nI b, nI t, .tup fs, .tup mm, .tup ll] ++ [.int 0]), .tup [], .int 5]) h1 (by omega) (by simp) (by simp) (Sm_cons Sm_non (Sm_cons (Sm_lst (by simp) (Sm_cons sB (Sm_cons sT (Sm_cons sF (Sm_cons sM (Sm_one sL)))))) (Sm_cons (Sm_tup (by simp) (Sm_cons sB (Sm_cons sT (Sm_cons sF (Sm_one sM))))) (Sm_cons (Sm_tup (by simp) (Sm_app (Sm_cons sB (Sm_cons sT (Sm_cons sF (Sm_cons sM (Sm_one sL))))) (Sm_one (Sm_small (by decide))))) (Sm_cons (Sm_tup (by simp) Sm_nil) (Sm_one (Sm_small (by decide))))))))
      refine ⟨w, S2, w2, h2.mono (by omega), ?_⟩
      have a1 := add_TT (St := S1) (xs := [nI b, nI t, .tup fs, .tup mm, .tup ll]) (ys := [.int 0]) (by simp)
      have sl : slP (.tup [nI b, nI t, .tup fs, .tup mm, .tup ll]) none (some 4) S1 = .ok (.tup [nI b, nI t, .tup fs, .tup mm]) S1 := slP_hi (k := 4)
      have lv : opn .listV [.tup [nI b, nI t, .tup fs, .tup mm, .tup ll]] S1 = .ok (.lst [nI b, nI t, .tup fs, .tup mm, .tup ll]) S1 := rfl
      generalize PV.tup ([nI b, nI t, .tup fs, .tup mm, .tup ll] ++ [.int 0]) = q1 at *
      generalize PV.tup [nI b, nI t, .tup fs, .tup mm, .tup ll] = q2 at *
      generalize PV.lst [nI b, nI t, .tup fs, .tup mm, .tup ll] = q3 at *
      generalize PV.tup [nI b, nI t, .tup fs, .tup mm] = q4 at *
      generalize nI b = B at *
      generalize nI t = T at *
      simp -implicitDefEqProofs [e1', permP, bindT, e2, a1, sl, lv, sizeLine]
    · obtain ⟨w, S2, _, w2, h2, e2⟩ := law_of_sm (k := k + 3) (n := 6) (xs := [.int 1, .int 11, .bl true, .non, .int ((b : Int) + 1), .tup [nI b]]) h1 (by omega) (by simp) (by simp) (Sm_cons (Sm_small (by decide)) (Sm_cons (Sm_small (by decide)) (Sm_cons Sm_bl (Sm_cons Sm_non (Sm_cons (Sm_small (by omega)) (Sm_one (Sm_tup (by simp) (Sm_one sB))))))))
      refine ⟨.tup [w, nI t, .tup fs, .tup mm, .tup ll], S2, Sm_five w2 sT sF sM sL, h2.mono (by omega), ?_⟩
      unfold nI at *
      simp -implicitDefEqProofs [e1', permP, bindT, e2, sizeLine]
    · obtain ⟨w, S2, _, w2, h2, e2⟩ := law_of_sm (k := k + 3) (n := 6) (xs := [.int (-1), .int 7, .bl ((t : Int) == 1), .non, .int ((t : Int) + 1)]) h1 (by omega) (by simp) (by simp) (Sm_cons (Sm_small (by decide)) (Sm_cons (Sm_small (by decide)) (Sm_cons Sm_bl (Sm_cons Sm_non (Sm_one (Sm_small (by omega)))))))
      refine ⟨.tup [nI b, w, .tup fs, .tup mm, .tup ll], S2, Sm_five sB w2 sF sM sL, h2.mono (by omega), ?_⟩
      unfold nI at *
      simp -implicitDefEqProofs [e1', permP, bindT, e2, op1, sizeLine]
    · obtain ⟨w, S2, w2, h2, e2⟩ := row_spoilt_ok (k := k + 1) (xs := fs) h1 (by omega) hf.1 hf.2
      refine ⟨.tup [nI b, nI t, w, .tup mm, .tup ll], S2, Sm_five sB sT (Sm_mono w2 (by omega)) sM sL, h2.mono (by omega), ?_⟩
      generalize nI b = B at *
      generalize nI t = T at *
      simp -implicitDefEqProofs [e1', permP, bindT, e2, sizeLine]
    · have a1 := add_TT (St := S1) (xs := mm) (ys := [.tup []]) (by simp; omega)
      have sl : slP (.tup mm) (some 1) none S1 = .ok (.tup (mm.drop 1)) S1 := slP_lo (k := 1)
      have lv : opn .listV [.tup mm] S1 = .ok (.lst mm) S1 := rfl
      obtain ⟨w, S2, _, w2, h2, e2⟩ := law_of_sm (k := k + 3) (n := 6) (xs := [.lst mm, .tup (mm.drop 1), .tup (mm ++ [.tup []]), .non]) h1 (by omega) (by simp) (by simp) (Sm_cons (Sm_lst (by omega) sM5) (Sm_cons (Sm_tup (by simp; omega) fun x q => sM5 x (List.mem_of_mem_drop q)) (Sm_cons (Sm_tup (by simp; omega) (Sm_app sM5 (Sm_one (Sm_tup (by simp) Sm_nil)))) (Sm_one Sm_non))))
      refine ⟨.tup [nI b, nI t, .tup fs, w, .tup ll], S2, Sm_five sB sT sF w2 sL, h2.mono (by omega), ?_⟩
      generalize PV.tup (mm ++ [PV.tup []]) = q1 at *
      generalize PV.tup (mm.drop 1) = q2 at *
      generalize PV.lst mm = q3 at *
      generalize PV.tup mm = q4 at *
      generalize nI b = B at *
      generalize nI t = T at *
      simp -implicitDefEqProofs [e1', permP, bindT, e2, a1, sl, lv, sizeLine]
    · obtain ⟨w, S2, w2, h2, e2⟩ := row_spoilt_ok (k := k + 1) (xs := ll) h1 (by omega) hl.1 hl.2
      refine ⟨.tup [nI b, nI t, .tup fs, .tup mm, w], S2, Sm_five sB sT sF sM (Sm_mono w2 (by omega)), h2.mono (by omega), ?_⟩
      generalize nI b = B at *
      generalize nI t = T at *
      simp -implicitDefEqProofs [e1', permP, bindT, e2, sizeLine]
    · have ei : op2 .ix (.tup mm) (.int 0) S1 = .ok mm[0] S1 := ix_tup (i := 0) (by simp [hm0])
      obtain ⟨ls, hy, y1l, y2⟩ := hm.2 mm[0] (List.getElem_mem hm0)
      obtain ⟨w, S3, w1, h3, e3⟩ := matrix_spoilt_ok (k := k) (xs := ls) h1 (by omega) y1l y2
      rw [← hy] at e3
      have e4 := law_put_ok (k := k + 5) h3.wf hm0 (by omega) sM5 w1
      have e4' : GG (k + 6) 43 [.tup mm, .int 0, w] S3 = .ok (.tup (putL mm 0 w)) S3 := e4
      refine ⟨.tup [nI b, nI t, .tup fs, .tup (putL mm 0 w), .tup ll], S3, Sm_five sB sT sF (Sm_put hm0 (by omega) sM5 w1) sL, h3.mono (by omega), ?_⟩
      generalize PV.tup (putL mm 0 w) = q1 at *
      generalize mm[0] = q2 at *
      generalize PV.tup mm = q4 at *
      generalize nI b = B at *
      generalize nI t = T at *
      simp -implicitDefEqProofs [e1', permP, bindT, e3, e4', ei, sizeLine]
    · obtain ⟨n0, n1, n2, n3, n4, n5, n6⟩ := hv
      have y0 : ((v : Int) == 0) = false := by simp; omega
      have y1 : ((v : Int) == 1) = false := by simp; omega
      have y2 : ((v : Int) == 2) = false := by simp; omega
      have y3 : ((v : Int) == 3) = false := by simp; omega
      have y4 : ((v : Int) == 4) = false := by simp; omega
      have y5 : ((v : Int) == 5) = false := by simp; omega
      have y6 : ((v : Int) == 6) = false := by simp; omega
      obtain ⟨i, S2, i1, h2, e2⟩ := draw (k := k + 4) (L := mm.length) h1 (by omega) (by omega) (by omega)
      have e2' : GG (k + 6) 21 [.ref 0, .int (mm.length : Int)] S1 = .ok (.int i) S2 := e2
      have ei : op2 .ix (.tup mm) (.int (i : Int)) S2 = .ok mm[i] S2 := ix_tup (by simp [i1])
      obtain ⟨ls, hy, y1l, y2l⟩ := hm.2 mm[i] (List.getElem_mem i1)
      obtain ⟨w, S3, w1, h3, e3⟩ := matrix_spoilt_ok (k := k) (xs := ls) h2 (by omega) y1l y2l
      rw [← hy] at e3
      have e4 := law_put_ok (k := k + 5) h3.wf i1 (by omega) sM5 w1
      have e4' : GG (k + 6) 43 [.tup mm, .int (i : Int), w] S3 = .ok (.tup (putL mm i w)) S3 := e4
      have hlen : opn .len [.tup mm] S1 = .ok (.int (mm.length : Int)) S1 := opn_len_tup
      refine ⟨.tup [nI b, nI t, .tup fs, .tup (putL mm i w), .tup ll], S3, Sm_five sB sT sF (Sm_put i1 (by omega) sM5 w1) sL, h3.mono (by omega), ?_⟩
      generalize PV.tup (putL mm i w) = q1 at *
      generalize mm[i] = q2 at *
      generalize PV.tup mm = q4 at *
      generalize nI b = B at *
      generalize nI t = T at *
      generalize (v : Int) = vi at *
      generalize (i : Int) = ii at *
      generalize (mm.length : Int) = ml at *
      simp -implicitDefEqProofs [e1', permP, bindT, y0, y1, y2, y3, y4, y5, y6, e2', e3, e4', ei, hlen, sizeLine]
  obtain ⟨z, S', h2, h3, h4⟩ := key
  refine ⟨z, S', h2, h3, ?_⟩
  rw [show GG (k + 7) 46 [.ref 0, .tup [nI b, nI t, .tup fs, .tup mm, .tup ll]] S = _ from Gp_succ (k := k + 6) (d := d__law_spoilt) rfl]
  exact evalD_dst h h3 h4 h2.below
end Dg
end

section
set_option Elab.async false
set_option linter.all false
set_option maxRecDepth 100000
set_option maxHeartbeats 1000000
/-! A20: a counting's values. -/
namespace Dg
open PySem L2
/-- a drawn counting -/
structure GC (b t d : Nat) (f : List Rat) (ms : List Mat) (l : List Rat) : Prop where
  cv : CV b t d f ms l
  ok : CntOk d 216000 194400000 f ms l
  d4 : d ≤ 4
theorem bd_sz {q : Rat} (h : Bd 216000 194400000 q) : Sz 40 q := h.sz (by decide) (by decide +kernel) (by decide +kernel)
theorem GC.sm {n b t d : Nat} {f l : List Rat} {ms : List Mat} (h : GC b t d f ms l) (hm : ms.length ≤ 1000) : Sm (n + 5) (cntV b t f ms l) := by
  have d4 := h.d4
  refine Sm_cnt (by have := h.cv.b10; omega) (by have := h.cv.t6; omega) ⟨by rw [h.cv.fl]; omega, fun q hq => bd_sz (h.ok.f q hq)⟩ ⟨by rw [h.cv.ll]; omega, fun q hq => bd_sz (h.ok.l q hq)⟩ ⟨hm, fun M hM => ?_⟩
  obtain ⟨m1, m2⟩ := h.ok.ms M hM
  exact ⟨by omega, fun line hl => ⟨by have := (m2 line hl).1; omega, fun q hq => bd_sz ((m2 line hl).2 q hq)⟩⟩
theorem GC.room {b t d L : Nat} {f l : List Rat} {ms : List Mat} (h : GC b t d f ms l) (hL : L ≤ 40) : Rm d 216000 194400000 1230 40 L := by
  have d4 := h.d4
  refine ⟨by omega, fun j hj => ?_, fun j hj => ?_, by decide +kernel, by decide +kernel, by omega⟩
  · have h1 : 216000 ^ (j + 1) ≤ (2 ^ 18) ^ (j + 1) := Nat.pow_le_pow_left (by decide) _
    rw [← Nat.pow_mul] at h1
    exact Nat.le_trans h1 (Nat.pow_le_pow_right (by decide) (by omega))
  · have h1 : 194400000 ^ (j + 1) ≤ (2 ^ 28) ^ (j + 1) := Nat.pow_le_pow_left (by decide) _
    have h2 : d ^ j ≤ (2 ^ 2) ^ j := Nat.pow_le_pow_left d4 _
    rw [← Nat.pow_mul] at h1 h2
    have h3 := Nat.mul_le_mul h2 h1
    rw [← Nat.pow_add] at h3
    exact Nat.le_trans h3 (Nat.pow_le_pow_right (by decide) (by omega))
/-- numbers to be asked at -/
structure Nums (t : Nat) (vs : List Nat) : Prop where
  len : vs.length = t
  lt : ∀ v ∈ vs, v < 1000000000000
theorem p40 : 1000000000000 ≤ 2 ^ 40 := by decide +kernel
theorem Nums.b40 {b t : Nat} {vs : List Nat} (h : Nums t vs) (hb : 2 ≤ b) : ∀ v ∈ vs, v < b ^ 40 := fun v hv => by
  have h1 := h.lt v hv
  have h2 : 2 ^ 40 ≤ b ^ 40 := Nat.pow_le_pow_left hb 40
  have := p40
  omega
theorem GC.value {k b t d : Nat} {f l : List Rat} {ms : List Mat} {vs : List Nat} {S : Store} (hS : Wf S) (h : GC b t d f ms l) (hm : ms.length ≤ 1000) (hv : Nums t vs) : GG (k + 8) 18 [cntV b t f ms l, .tup (vs.map nI)] S = .ok (fr (worthQ f ms l (colsN b 40 vs))) S := by
  have hn := need_numbers_ok (k := k + 4) (vs := vs) hS (by rw [hv.len]; have := h.cv.t6; omega) (fun v q => by have := hv.lt v q; have := p40; omega)
  rw [hv.len] at hn
  have hcl : (colsN b 40 vs).length ≤ 40 := colsN_len
  refine value_ok (k := k) (n := 0) hS h.cv (h.sm hm) h.ok hv.len (fun _ _ => .inr trivial) (hv.b40 h.cv.b2) hn (by omega) (h.room hcl) ?_
  have : d * d ≤ 4 * 4 := Nat.mul_le_mul h.d4 h.d4
  have := Nat.mul_le_mul (show d * d ≤ 16 by omega) hcl
  omega
theorem GC.worth {k b t d : Nat} {f l : List Rat} {ms : List Mat} {vs : List Nat} {S : Store} (hS : Wf S) (h : GC b t d f ms l) (hv : Nums t vs) : GG (k + 6) 33 [cntV b t f ms l, .tup (vs.map nI)] S = .ok (fr (worthQ f ms l (colsN b 40 vs))) S := by
  have hb0 : 0 < b := by have := h.cv.b2; omega
  refine worth_ok (k := k) hS h.ok hb0 h.cv.b10 (hv.b40 h.cv.b2) (by rw [hv.len]; have := h.cv.t6; omega) (by omega) (fun c hc => ?_) (h.room colsN_len)
  have := colsN_mem hb0 hc
  rw [hv.len, ← h.cv.ml] at this
  exact this
theorem Lk_fr {n : Nat} {q : Rat} : Lk (n + 1) (fr q) := Lk_tup (by simp) fun x hx => by
  simp only [List.mem_cons, List.not_mem_nil, or_false] at hx
  rcases hx with rfl | rfl <;> exact Lk_int
theorem bads {t : Nat} {vs : List Nat} {w : PV} (h : Nums t vs) (hw : w ∈ [PV.tup (vs.map nI ++ [.int 0]), .lst (vs.map nI), .non, .tup ([.int (-1)] ++ (vs.map nI).drop 1), .tup ([.bl true] ++ (vs.map nI).drop 1), .int 7]) : badNums w t := by
  simp only [List.mem_cons, List.not_mem_nil, or_false] at hw
  rcases hw with rfl | rfl | rfl | rfl | rfl | rfl
  · exact .inr ⟨_, rfl, by simp [h.len]⟩
  · exact .inl rfl
  · exact .inl rfl
  · exact .inl (by simp [wholeB, isWh])
  · exact .inl (by simp [wholeB, isWh])
  · exact .inl rfl
theorem nums_sm {t n : Nat} {vs : List Nat} (h : Nums t vs) : ∀ x ∈ vs.map nI, Sm n x := Sm_map fun v hv => Sm_nI (by have := h.lt v hv; have := p40; omega)
theorem pow12 {S : Store} : op2 .pow (.int 10) (.int 12) S = .ok (.int 1000000000000) S := by
  show (okI (CPow 10 12) ((10 : Int) ^ (12 : Int).toNat) S : Res PV) = _
  unfold okI
  rw [if_pos (by unfold CPow; decide +kernel)]
  rfl
abbrev valsE : ME := .comp false [7, 8] (.name 8) (.range (.cons (.var 2) .nil)) .none (.call 21 [(.inl 0), (.inl 1)] (.cons (.var 0) (.cons (.call 23 [(.inl 0), (.inl 1)] (.cons (.var 0) (.cons (.lst (.cons (.k (.int (3))) (.cons (.k (.int (40))) (.cons (.k (.int (3000))) (.cons (.bin .pow (.k (.int (10))) (.k (.int (12)))) .nil))))) .nil))) .nil)))
theorem vals_comp {k N t : Nat} {C : PV} {v3 v4 v5 v6 v7 v8 : Option PV} {R S : Store} (h : Dst N R S) (hN : N + 2 * t ≤ 800000000) (ht : t ≤ 6) :
    ∃ (vs : List Nat) (S' : Store), Nums t vs ∧ Dst (N + 2 * t) R S' ∧ evalE (CC (k + 3)) valsE [some (.ref 0), some C, some (nI t), v3, v4, v5, v6, v7, v8] S = .ok (.lst (vs.map nI)) S' := by
  obtain ⟨vs, S', h1, h2, h3, h4⟩ := comp_cost (α := Nat) (C := CC (k + 3)) (own := [7, 8]) (t := .name 8) (e := .call 21 [(.inl 0), (.inl 1)] (.cons (.var 0) (.cons (.call 23 [(.inl 0), (.inl 1)] (.cons (.var 0) (.cons (.lst (.cons (.k (.int (3))) (.cons (.k (.int (40))) (.cons (.k (.int (3000))) (.cons (.bin .pow (.k (.int (10))) (.k (.int (12)))) .nil))))) .nil))) .nil))) (r := [some (.ref 0), some C, some (nI t), v3, v4, v5, v6, v7, v8]) (g := nI) (P := fun v => v < 1000000000000) (c := 2) (rngI (C := CC (k + 3)) (S := S) (i := 2) (d := t) rfl (by omega)) (by simp; omega) h (by simp; omega) (fun x hx M' S' hD hM => by
    obtain ⟨w, S2, w1, h2, e2⟩ := law_of_ok (k := k) (xs := [.int 3, .int 40, .int 3000, .int 1000000000000]) hD (by omega) (by simp) (by simp) (fun n => rfl)
    have hL : ∃ L : Nat, w = .int (L : Int) ∧ 1 ≤ L ∧ L ≤ 1000000000000 := by
      simp only [List.mem_cons, List.not_mem_nil, or_false] at w1
      rcases w1 with rfl | rfl | rfl | rfl
      · exact ⟨3, rfl, by omega, by omega⟩
      · exact ⟨40, rfl, by omega, by omega⟩
      · exact ⟨3000, rfl, by omega, by omega⟩
      · exact ⟨1000000000000, rfl, by omega, by omega⟩
    obtain ⟨L, rfl, L1, L2⟩ := hL
    obtain ⟨v, S3, v1, h3, e3⟩ := draw (k := k + 1) (L := L) h2 (by omega) L1 (by omega)
    have e3' : GG (k + 3) 21 [.ref 0, .int (L : Int)] S2 = .ok (.int v) S3 := e3
    have hp := pow12 (S := S')
    refine ⟨v, S3, by omega, h3, ?_⟩
    unfold turnF
    generalize (L : Int) = ll at *
    generalize nI t = T at *
    unfold nI
    simp -implicitDefEqProofs [bindT, wipeP, e2, e3', hp, permP, sizeLine])
  simp only [List.length_map, List.length_range] at h1 h3
  exact ⟨vs, S', ⟨h1, h2⟩, h3, h4⟩
abbrev valuedB : MSs := (.cons (.asg (.name 4) (.bi .tuple_ (.cons valsE .nil))) (.cons (.ifS (.not_ (.call 24 [(.inl 0), (.inl 1)] (.cons (.call 49 [(.inl 0), (.inl 1)] (.cons (.var 1) (.cons (.var 4) .nil))) (.cons (.lst (.cons (.k (.str (Str.ofString "fine"))) (.cons (.call 33 [(.inl 0), (.inl 1)] (.cons (.var 1) (.cons (.var 4) .nil))) .nil))) .nil)))) (.cons (.ret (.k (.bl false))) .nil) .nil) .nil))
theorem valued_body {k N b t d : Nat} {f l : List Rat} {ms : List Mat} {v3 v4 : Option PV} {R S : Store} (h : Dst N R S) (hN : N + 2 * t ≤ 800000000) (g : GC b t d f ms l) (hm : ms.length ≤ 1000) :
    ∃ (vs : List Nat) (S' : Store), Nums t vs ∧ Dst (N + 20) R S' ∧ evalSs (CC (k + 9)) valuedB [some (.ref 0), some (cntV b t f ms l), some (nI t), v3, v4, none, none, none, none] S = .nx [some (.ref 0), some (cntV b t f ms l), some (nI t), v3, some (.tup (vs.map nI)), none, none, none, none] S' := by
  have ht := g.cv.t6
  obtain ⟨vs, S1, n1, h1, e1⟩ := vals_comp (k := k + 6) (C := cntV b t f ms l) (v3 := v3) (v4 := v4) (v5 := none) (v6 := none) (v7 := none) (v8 := none) h hN ht
  have hv := g.value (k := k) h1.wf hm n1
  have hw := g.worth (k := k + 3) h1.wf n1
  have hh := heard_fine (k := k + 8) h1.wf below_fr hv
  have hk := like_ok (n := 2) (k := k + 6) (v := .lst [.str (Str.ofString "fine"), fr (worthQ f ms l (colsN b 40 vs))]) h1.wf (Lk_two Lk_fr)
  refine ⟨vs, S1, n1, h1.mono (by omega), ?_⟩
  have st1 : evalS (CC (k + 9)) (.asg (.name 4) (.bi .tuple_ (.cons valsE .nil))) [some (.ref 0), some (cntV b t f ms l), some (nI t), v3, v4, none, none, none, none] S = .nx [some (.ref 0), some (cntV b t f ms l), some (nI t), v3, some (.tup (vs.map nI)), none, none, none, none] S1 := by
    rw [eS_asg, eE_bi, eEs_cons, e1, Res.bind_ok, eEs_nil, Res.bind_ok, Res.bind_ok, opn_tup_lst, Res.to_ok]
    rfl
  rw [eSs_cons, st1, SRes.seq_nx]
  generalize fr (worthQ f ms l (colsN b 40 vs)) = q at *
  generalize cntV b t f ms l = C at *
  generalize PV.tup (vs.map nI) = V at *
  generalize nI t = T at *
  generalize Str.ofString "fine" = s_fine at *
  simp -implicitDefEqProofs [hh, hw, hk, permP, sizeLine]
theorem valued_ok {k N b t d : Nat} {f l : List Rat} {ms : List Mat} {R S : Store} (h : Dst N R S) (hN : N ≤ 600000000) (g : GC b t d f ms l) (hm : ms.length ≤ 1000) :
    ∃ (S' : Store), Dst (N + 200) R S' ∧ GG (k + 10) 50 [.ref 0, cntV b t f ms l] S = .ok (.bl true) S' := by
  have ht := g.cv.t6
  have key : ∃ S', Dst (N + 200) R S' ∧ evalSs (CC (k + 9)) m__law_valued [some (.ref 0), some (cntV b t f ms l), none, none, none, none, none, none, none] S = .ret (.bl true) S' := by
    unfold m__law_valued
    have i1 : op2 .ix (cntV b t f ms l) (.int 1) S = .ok (nI t) S := rfl
    have st0 : evalS (CC (k + 9)) (.asg (.name 2) (.bin .ix (.var 1) (.k (.int (1))))) [some (.ref 0), some (cntV b t f ms l), none, none, none, none, none, none, none] S = .nx [some (.ref 0), some (cntV b t f ms l), some (nI t), none, none, none, none, none, none] S := by
      generalize cntV b t f ms l = C at *
      generalize nI t = T at *
      simp -implicitDefEqProofs [i1, bindT]
    have hlp := forL_k (t := .name 3) (g := none) (f := fun r2 S2 => evalSs (CC (k + 9)) valuedB r2 S2) (xs := (List.range 4).map fun (k : Nat) => .int (k : Int)) (r := [some (.ref 0), some (cntV b t f ms l), some (nI t), none, none, none, none, none, none]) (S := S)
      (fun i r S' => Dst (N + 20 * i) R S' ∧ ∃ v3 v4, r = [some (.ref 0), some (cntV b t f ms l), some (nI t), v3, v4, none, none, none, none] ∧ (0 < i → ∃ vs, Nums t vs ∧ v4 = some (.tup (vs.map nI)))) (fun _ _ => False)
      (fun i hi r S' hI => by
        obtain ⟨hD, v3, v4, rfl, _⟩ := hI
        have hi' : i < 4 := by simpa using hi
        obtain ⟨vs, S2, n1, h2, e2⟩ := valued_body (k := k) (v3 := some (.int (i : Int))) (v4 := v4) hD (by omega) g hm
        exact ⟨[some (.ref 0), some (cntV b t f ms l), some (nI t), some (.int (i : Int)), v4, none, none, none, none], by simp [bindT], .inl ⟨_, _, .inl e2, trivial, h2, _, _, rfl, fun _ => ⟨vs, n1, rfl⟩⟩⟩) ⟨h, none, none, rfl, fun q => absurd q (by omega)⟩
    rcases hlp with ⟨r', S1, e, h1, v3, v4, rfl, hv⟩ | ⟨_, _, _, h⟩
    · obtain ⟨vs, n1, rfl⟩ := hv (by simp)
      have h1' : Dst (N + 80) R S1 := h1
      have ei : evalI (CC (k + 9)) (.range (.cons (.k (.int (4))) .nil)) [some (.ref 0), some (cntV b t f ms l), some (nI t), none, none, none, none, none, none] S = .ok ((List.range 4).map fun (k : Nat) => .int (k : Int), none) S := eI_rng (n := 4) (by simp) (by omega)
      have hva := g.value (k := k + 1) h1.wf hm n1
      have hwo := g.worth (k := k + 3) h1.wf n1
      have hk := like_ok (n := 1) (k := k + 7) (v := fr (worthQ f ms l (colsN b 40 vs))) h1.wf Lk_fr
      have sl : slP (.tup (vs.map nI)) (some 1) none S1 = .ok (.tup ((vs.map nI).drop 1)) S1 := slP_lo (k := 1)
      have hvl : (vs.map nI).length ≤ 6 := by rw [List.length_map, n1.len]; omega
      have a1 := add_TT (St := S1) (xs := vs.map nI) (ys := [.int 0]) (by simp at hvl ⊢; omega)
      have a2 := add_TT (St := S1) (xs := [.int (-1)]) (ys := (vs.map nI).drop 1) (by simp at hvl ⊢; omega)
      have a3 := add_TT (St := S1) (xs := [.bl true]) (ys := (vs.map nI).drop 1) (by simp at hvl ⊢; omega)
      have lv : opn .listV [.tup (vs.map nI)] S1 = .ok (.lst (vs.map nI)) S1 := rfl
      obtain ⟨w, S2, w1, w2, h2, e2⟩ := law_of_sm (k := k + 6) (n := 2) (xs := [.tup (vs.map nI ++ [.int 0]), .lst (vs.map nI), .non, .tup ([.int (-1)] ++ (vs.map nI).drop 1), .tup ([.bl true] ++ (vs.map nI).drop 1), .int 7]) h1 (by simp; omega) (by simp) (by simp) (Sm_cons (Sm_tup (by simp at hvl ⊢; omega) (Sm_app (nums_sm n1) (Sm_one (Sm_small (by decide))))) (Sm_cons (Sm_lst (by omega) (nums_sm n1)) (Sm_cons Sm_non (Sm_cons (Sm_tup (by simp at hvl ⊢; omega) (Sm_app (Sm_one (Sm_small (by decide))) (fun x q => nums_sm n1 x (List.mem_of_mem_drop q)))) (Sm_cons (Sm_tup (by simp at hvl ⊢; omega) (Sm_app (Sm_one Sm_bl) (fun x q => nums_sm n1 x (List.mem_of_mem_drop q)))) (Sm_one (Sm_small (by decide))))))))
      have hb := bads n1 w1
      have hbad := heard_bad (k := k + 8) h2.wf w2.below (value_bad (k := k) (n := 1) h2.wf g.cv (g.sm (n := 1) hm) w2 hb)
      have j0 : ∀ s, op2 .ix (.lst [.str s, w]) (.int 0) S2 = .ok (.str s) S2 := fun s => rfl
      have j1 : ∀ s, op2 .ix (.lst [.str s, w]) (.int 1) S2 = .ok w S2 := fun s => rfl
      have er := eq_refl_ok (S := S2) w2 (by omega)
      refine ⟨S2, h2.mono (by simp <;> omega), ?_⟩
      rw [eSs_cons, st0, SRes.seq_nx, eSs_cons, eS_for, ei, Res.to_ok]
      dsimp only
      rw [e, SRes.seq_nx]
      clear e st0 ei i1 hv h1 hb g
      generalize fr (worthQ f ms l (colsN b 40 vs)) = q at *
      generalize cntV b t f ms l = C at *
      generalize PV.tup (vs.map nI ++ [.int 0]) = q1 at *
      generalize PV.tup ([.int (-1)] ++ (vs.map nI).drop 1) = q2 at *
      generalize PV.tup ([.bl true] ++ (vs.map nI).drop 1) = q3 at *
      generalize PV.tup ((vs.map nI).drop 1) = q4 at *
      generalize PV.lst (vs.map nI) = q5 at *
      generalize PV.tup (vs.map nI) = V at *
      generalize nI t = T at *
      generalize Str.ofString "bad" = s_bad at *
      simp -implicitDefEqProofs [hva, hwo, hk, sl, a1, a2, a3, lv, e2, hbad, j0, j1, er, permP, bindT, sizeLine, op1]
    · exact h.elim
  obtain ⟨S', h1, e⟩ := key
  refine ⟨S', h1, ?_⟩
  rw [show GG (k + 10) 50 [.ref 0, cntV b t f ms l] S = _ from Gp_succ (k := k + 9) (d := d__law_valued) rfl]
  exact evalD_dst h h1 e rfl
end Dg
end

section
set_option Elab.async false
set_option linter.all false
set_option maxRecDepth 100000
set_option maxHeartbeats 1000000
/-! A21: countings of nought; fractions judged. -/
namespace Dg
open PySem L2
variable {S : Store}
def zerosR (n : Nat) : List Rat := List.replicate n 0
def noughtM (n c : Nat) : List Mat := List.replicate c (List.replicate n (zerosR n))
theorem mul_rep {x : PV} {n : Nat} (h : 2 ≤ n) (h2 : n ≤ 1000) : op2 .mul (.tup [x]) (.int (n : Int)) S = .ok (.tup (List.replicate n x)) S := by
  show (if [x] ≠ [] ∧ 2 ≤ (n : Int) ∧ (([x] : List PV).length : Int) * (n : Int) ≤ 10000000 then Res.ok (PV.tup (List.replicate (n : Int).toNat [x]).flatten) S else if [x] ≠ [] ∧ (n : Int) = 1 then .ok (.tup [x]) S else if [x] ≠ [] ∧ (n : Int) = 0 then .ok (.tup []) S else .bad) = _
  rw [if_pos ⟨by simp, by omega, by simp; omega⟩, Int.toNat_natCast, List.flatten_replicate_singleton]
theorem mul_rep1 {x : PV} : op2 .mul (.tup [x]) (.int 1) S = .ok (.tup [x]) S := by
  show (if [x] ≠ [] ∧ 2 ≤ (1 : Int) ∧ (([x] : List PV).length : Int) * (1 : Int) ≤ 10000000 then Res.ok (PV.tup (List.replicate (1 : Int).toNat [x]).flatten) S else if [x] ≠ [] ∧ (1 : Int) = 1 then .ok (.tup [x]) S else if [x] ≠ [] ∧ (1 : Int) = 0 then .ok (.tup []) S else .bad) = _
  rw [if_neg (by simp), if_pos ⟨by simp, rfl⟩]
theorem mul_rep0 {x : PV} : op2 .mul (.tup [x]) (.int 0) S = .ok (.tup []) S := by
  show (if [x] ≠ [] ∧ 2 ≤ (0 : Int) ∧ (([x] : List PV).length : Int) * (0 : Int) ≤ 10000000 then Res.ok (PV.tup (List.replicate (0 : Int).toNat [x]).flatten) S else if [x] ≠ [] ∧ (0 : Int) = 1 then .ok (.tup [x]) S else if [x] ≠ [] ∧ (0 : Int) = 0 then .ok (.tup []) S else .bad) = _
  rw [if_neg (by simp), if_neg (by simp), if_pos ⟨by simp, rfl⟩]
theorem row_rep {n : Nat} : rowV true (zerosR n) = .tup (List.replicate n (fr 0)) := by
  unfold rowV zerosR
  rw [List.map_replicate]
  rfl
theorem mat_rep {n : Nat} : matV (List.replicate n (zerosR n)) = .tup (List.replicate n (rowV true (zerosR n))) := by
  unfold matV
  rw [List.map_replicate]
theorem mats_rep {n c : Nat} : matsV (noughtM n c) = .tup (List.replicate c (matV (List.replicate n (zerosR n)))) := by
  unfold matsV noughtM
  rw [List.map_replicate]
theorem noughts_ok {k b t n : Nat} (hS : Wf S) (hb : b ≤ 10) (ht : t ≤ 6) (hn : 2 ≤ n) (hn2 : n ≤ 1000) (hc : 2 ≤ b ^ t) (hc2 : b ^ t ≤ 1000) : GG (k + 2) 48 [.int (b : Int), .int (t : Int), .int (n : Int)] S = .ok (cntV b t (zerosR n) (noughtM n (b ^ t)) (zerosR n)) S := by
  rw [show GG (k + 2) 48 [.int (b : Int), .int (t : Int), .int (n : Int)] S = _ from Gp_succ (k := k + 1) (d := d__law_noughts) rfl]
  refine evalD_ret hS ?_ below_cnt
  show evalSs (CC (k + 1)) m__law_noughts [some (.int (b : Int)), some (.int (t : Int)), some (.int (n : Int)), none] S = _
  unfold m__law_noughts
  have hp := law_power_ok (k := k) (b := b) (t := t) hS hb ht
  have m1 := mul_rep (S := S) (x := fr 0) hn hn2
  rw [← row_rep, fr_zero] at m1
  have m2 := mul_rep (S := S) (x := rowV true (zerosR n)) hn hn2
  rw [← mat_rep] at m2
  have m3 := mul_rep (S := S) (x := matV (List.replicate n (zerosR n))) hc hc2
  rw [← mats_rep] at m3
  have ev : cntV b t (zerosR n) (noughtM n (b ^ t)) (zerosR n) = .tup [.int (b : Int), .int (t : Int), rowV true (zerosR n), matsV (noughtM n (b ^ t)), rowV true (zerosR n)] := rfl
  rw [ev]
  generalize matsV (noughtM n (b ^ t)) = q1 at *
  generalize rowV true (zerosR n) = q2 at *
  generalize matV (List.replicate n (zerosR n)) = q3 at *
  generalize ((b ^ t : Nat) : Int) = q4 at *
  generalize (n : Int) = ni at *
  generalize (b : Int) = bi at *
  generalize (t : Int) = ti at *
  simp -implicitDefEqProofs [m1, m2, m3, hp, permP, bindT, sizeLine]
theorem zeros_mem {n : Nat} {q : Rat} (h : q ∈ zerosR n) : q = 0 := (List.mem_replicate.mp h).2
theorem nought_sm {b t n c : Nat} (hb : b ≤ 1000) (ht : t ≤ 1000) (hn : n ≤ 1000) (hc : c ≤ 1000) {m : Nat} : Sm (m + 5) (cntV b t (zerosR n) (noughtM n c) (zerosR n)) := by
  have hz : ∀ q ∈ zerosR n, Sz 40 q := fun q hq => by rw [zeros_mem hq]; exact Dr.zero.sz
  have hl : (zerosR n).length ≤ 1000 := by unfold zerosR; simpa using hn
  refine Sm_cnt hb ht ⟨hl, hz⟩ ⟨hl, hz⟩ ⟨by unfold noughtM; simpa using hc, fun M hM => ?_⟩
  have e := (List.mem_replicate.mp hM).2
  subst e
  refine ⟨by simpa using hn, fun line hline => ?_⟩
  have e := (List.mem_replicate.mp hline).2
  subst e
  exact ⟨hl, hz⟩
theorem nought_judged {k b t n : Nat} (hS : Wf S) (hb : b ≤ 10) (ht : t ≤ 6) (hn2 : n ≤ 1000) (hc2 : b ^ t ≤ 1000) : GG (k + 11) 47 [cntV b t (zerosR n) (noughtM n (b ^ t)) (zerosR n)] S = .ok (.bl true) S :=
  judged_ok hS (nought_sm (m := 2) (by omega) (by omega) hn2 hc2)
/-! ### the wide one -/
theorem wide_cv : CV 2 1 40 (zerosR 40) (noughtM 40 2) (zerosR 40) where
  b2 := by decide
  b10 := by decide
  t6 := by decide
  fl := by simp [zerosR]
  ll := by simp [zerosR]
  ml := by simp [noughtM]
  d40 := by decide
  sz := by decide
  mo := fun M hM => by
    have e := (List.mem_replicate.mp hM).2
    subst e
    refine ⟨by simp, fun line hline => ?_⟩
    have e := (List.mem_replicate.mp hline).2
    subst e
    simp [zerosR]
  zero := by
    have e : (noughtM 40 2).headD [] = List.replicate 40 (zerosR 40) := rfl
    rw [e, List.map_replicate, dotQ_zero fun y hy => zeros_mem hy]
    rfl
theorem wide_cn : CntOk 40 1 0 (zerosR 40) (noughtM 40 2) (zerosR 40) where
  D0 := by decide
  fl := by simp [zerosR]
  ll := by simp [zerosR]
  f := fun x hx => by rw [zeros_mem hx]; exact Bd.zero
  l := fun x hx => by rw [zeros_mem hx]; exact Bd.zero
  ms := fun M hM => by
    have e := (List.mem_replicate.mp hM).2
    subst e
    refine ⟨by simp, fun line hline => ?_⟩
    have e := (List.mem_replicate.mp hline).2
    subst e
    exact ⟨by simp [zerosR], fun q hq => by rw [zeros_mem hq]; exact Bd.zero⟩
theorem wide_rm {L : Nat} : Rm 40 1 0 0 0 L := ⟨by decide, fun j _ => by simp, fun j _ => by simp, by decide, by decide, by decide⟩
theorem need_numbers_nat {k : Nat} {vs : List Nat} (hS : Wf S) (hl : vs.length ≤ 1000) : GG (k + 3) 12 [.tup (vs.map nI), nI vs.length] S = .ok (.tup (vs.map nI)) S := by
  rw [show GG (k + 3) 12 [.tup (vs.map nI), nI vs.length] S = _ from Gp_succ (k := k + 2) (d := d_need_numbers) rfl]
  refine evalD_ret hS ?_ (by rw [below, belows_nI])
  show evalSs (CC (k + 2)) m_need_numbers [some (.tup (vs.map nI)), some (nI vs.length)] S = _
  unfold m_need_numbers
  have h1 : GG (k + 2) 2 [.tup (vs.map nI), .int 0, .non] S = .ok (.bl true) S := by
    rw [show GG (k + 2) 2 [.tup (vs.map nI), .int 0, .non] S = _ from Gp_succ (k := k + 1) (d := d_are_wholes) rfl]
    refine evalD_ret hS ?_ rfl
    show evalSs (CC (k + 1)) m_are_wholes [some (.tup (vs.map nI)), some (.int 0), some .non, none, none] S = _
    unfold m_are_wholes
    have hr := is_row_ok (k := k) (v := .tup (vs.map nI)) (m := .non) hS trivial (.inl rfl)
    rw [isRw_non] at hr
    have hc := comp_A (C := CC (k + 1)) (S := S) (own := [3, 4]) (t := .name 4) (it := .of (.var 0)) (e := (.call 0 [(.inl 0), (.inl 1), (.inl 2)] (.cons (.var 4) (.cons (.var 1) (.cons (.var 2) .nil))))) (r := [some (.tup (vs.map nI)), some (.int 0), some .non, none, none]) (as := vs) (g := nI) (h := fun _ => .bl true) (eI_ofT (by simp)) (by
      have : sizeLine = 16777216 := rfl
      omega) (fun v hv => by
      have hw := is_whole_ok (k := k) (v := nI v) (l := 0) (m := .non) hS trivial (.inl rfl)
      have e : isWh (nI v) 0 .non = true := by simp [isWh, nI]
      rw [e] at hw
      generalize nI v = w at *
      unfold turnF
      simp [bindT, wipeP, permP, hw])
    have ha := all_p (S := S) (p := fun (_ : Nat) => true) (xs := vs)
    have et : vs.all (fun _ => true) = true := by simp
    rw [et] at ha
    have hr' : GG (k + 1) 1 [.tup (vs.map nI), .non] S = .ok (.bl true) S := hr
    generalize PV.tup (vs.map nI) = V at *
    generalize (vs.map fun _ => PV.bl true) = ys at *
    simp -implicitDefEqProofs [permP, hr', hc, ha]
  have h2 : opn .len [.tup (vs.map nI)] S = .ok (nI vs.length) S := by rw [opn_len_tup, List.length_map]; rfl
  have h3 : op2 .ne (nI vs.length) (nI vs.length) S = .ok (.bl false) S := by unfold nI; rw [op_neI]; simp
  generalize PV.tup (vs.map nI) = V at *
  generalize nI vs.length = n at *
  simp -implicitDefEqProofs [permP, h1, h2, h3]
theorem cols_exact {b : Nat} (hb : 0 < b) : ∀ {n v : Nat}, b ^ n ≤ v → (colsN b (n + 1) [v]).length = n + 1
  | 0, v, h => by
    have : 0 < v := by simp at h; omega
    unfold colsN
    rw [if_pos (by simpa using this)]
    simp [colsN]
  | n + 1, v, h => by
    have hp : 0 < b ^ (n + 1) := Nat.pow_pos hb
    have hv : 0 < v := by omega
    have hd : b ^ n ≤ v / b := by
      rw [Nat.pow_succ] at h
      exact (Nat.le_div_iff_mul_le hb).mpr h
    have ih := cols_exact hb hd
    conv => lhs; unfold colsN
    rw [if_pos (by simpa using hv), List.length_cons, List.map_cons, List.map_nil, ih]
theorem worth_zero {f : List Rat} {ms : List Mat} {n : Nat} {cs : List Nat} : worthQ f ms (zerosR n) cs = 0 := dotQ_zero fun y hy => zeros_mem hy
theorem wide_fine {k v : Nat} (hS : Wf S) (hv : v < 4611686018427387904) : GG (k + 9) 49 [cntV 2 1 (zerosR 40) (noughtM 40 2) (zerosR 40), .tup [nI v]] S = .ok (.lst [.str (Str.ofString "fine"), .tup [.int 0, .int 1]]) S := by
  have hn := need_numbers_nat (k := k + 4) (vs := [v]) hS (by simp)
  have hcl : (colsN 2 62 [v]).length ≤ 62 := colsN_len
  have h62 : (2 : Nat) ^ 62 = 4611686018427387904 := by decide +kernel
  have hq : ∀ u ∈ [v], u < 2 ^ 62 := fun u hu => by rw [List.mem_singleton.mp hu, h62]; exact hv
  have hval := value_ok (k := k) (n := 0) (q := 62) (vs := [v]) hS wide_cv (nought_sm (by omega) (by omega) (by omega) (by omega)) wide_cn rfl (fun _ _ => .inr trivial) hq hn (by omega) wide_rm (by omega)
  rw [worth_zero, fr_zero] at hval
  exact heard_fine (k := k + 8) hS rfl hval
theorem wide_many {k v : Nat} (hS : Wf S) (hv : 4611686018427387904 ≤ v) (hv2 : v < 9223372036854775808) : GG (k + 9) 49 [cntV 2 1 (zerosR 40) (noughtM 40 2) (zerosR 40), .tup [nI v]] S = .ok (.lst [.str (Str.ofString "many"), .int 100000]) S := by
  have hn := need_numbers_nat (k := k + 4) (vs := [v]) hS (by simp)
  have h62 : (2 : Nat) ^ 62 = 4611686018427387904 := by decide +kernel
  have h63 : (2 : Nat) ^ 63 = 9223372036854775808 := by decide +kernel
  have hcl : (colsN 2 63 [v]).length = 63 := cols_exact (b := 2) (n := 62) (by decide) (by rw [h62]; exact hv)
  have hq : ∀ u ∈ [v], u < 2 ^ 63 := fun u hu => by rw [List.mem_singleton.mp hu, h63]; exact hv2
  have hval := value_many (k := k) (n := 0) (q := 63) (vs := [v]) hS wide_cv (nought_sm (by omega) (by omega) (by omega) (by omega)) rfl hq hn (by omega) (by rw [hcl]; decide)
  exact heard_many (k := k + 8) hS rfl hval
/-! ### fractions judged -/
theorem need_fraction_ok {k n : Nat} {v : PV} (hS : Wf S) (h : Sm n v) (hf : isFrB v = true) : GG (k + 3) 6 [v] S = .ok v S := by
  rw [show GG (k + 3) 6 [v] S = _ from Gp_succ (k := k + 2) (d := d_need_fraction) rfl]
  refine evalD_ret hS ?_ h.below
  show evalSs (CC (k + 2)) m_need_fraction [some v] S = _
  unfold m_need_fraction
  have e := is_ratio_ok (k := k) hS h
  rw [hf] at e
  simp [e, permP]
theorem need_fraction_exc {k n : Nat} {v : PV} (hS : Wf S) (h : Sm n v) (hf : isFrB v = false) : GG (k + 3) 6 [v] S = .exc 2 v S := by
  rw [show GG (k + 3) 6 [v] S = _ from Gp_succ (k := k + 2) (d := d_need_fraction) rfl]
  refine evalD_exc (r := [some v]) hS ?_ h.below
  show evalSs (CC (k + 2)) m_need_fraction [some v] S = _
  unfold m_need_fraction
  have e := is_ratio_ok (k := k) hS h
  rw [hf] at e
  simp [e, permP]
theorem fractions_right_ok {k N : Nat} {R S : Store} (h : Dst N R S) (hN : N ≤ 600000000) : ∃ S', Dst (N + 20) R S' ∧ GG (k + 10) 52 [.ref 0] S = .ok (.bl true) S' := by
  obtain ⟨v, S1, v1, h1, e1⟩ := draw (k := k + 7) (L := 2) h (by omega) (by omega) (by omega)
  have e1' : GG (k + 9) 21 [.ref 0, .int 2] S = .ok (.int v) S1 := e1
  have st : ∃ (x : PV) (S2 : Store), Sm 2 x ∧ Dst (N + 20) R S2 ∧ evalS (CC (k + 9)) (.asg (.name 1) (.ite (.bin .eq (.call 21 [(.inl 0), (.inl 1)] (.cons (.var 0) (.cons (.k (.int (2))) .nil))) (.k (.int (0)))) (.call 34 [(.inl 0)] (.cons (.var 0) .nil)) (.call 42 [(.inl 0)] (.cons (.var 0) .nil)))) [some (.ref 0), none, none, none] S = .nx [some (.ref 0), some x, none, none] S2 := by
    by_cases z : v = 0
    · obtain ⟨q, S2, q1, h2, e2⟩ := fraction_ok (k := k + 6) h1 (by omega)
      have e2' : GG (k + 9) 34 [.ref 0] S1 = .ok (fr q) S2 := e2
      refine ⟨fr q, S2, Sm_fr q1.sz, h2.mono (by omega), ?_⟩
      have z2 : ((v : Int) == 0) = true := by simp [z]
      generalize (v : Int) = vi at *
      generalize fr q = w at *
      simp -implicitDefEqProofs [e1', e2', z2, permP, bindT]
    · obtain ⟨o, S2, o1, h2, e2⟩ := law_odd_ok (k := k + 5) h1 (by omega)
      have e2' : GG (k + 9) 42 [.ref 0] S1 = .ok o S2 := e2
      refine ⟨o, S2, Sm_od o1, h2.mono (by omega), ?_⟩
      have z2 : ((v : Int) == 0) = false := by simp; omega
      generalize (v : Int) = vi at *
      simp -implicitDefEqProofs [e1', e2', z2, permP, bindT]
  obtain ⟨x, S2, sx, h2, st1⟩ := st
  refine ⟨S2, h2, ?_⟩
  rw [show GG (k + 10) 52 [.ref 0] S = _ from Gp_succ (k := k + 9) (d := d__law_fractions_right) rfl]
  refine evalD_dst h h2 ?_ rfl
  show evalSs (CC (k + 9)) m__law_fractions_right [some (.ref 0), none, none, none] S = _
  unfold m__law_fractions_right
  rw [eSs_cons, st1, SRes.seq_nx]
  have ef := is_fraction_ok (k := k + 7) h2.wf sx
  have l1 := like_ok (n := 2) (k := k + 6) (v := x) h2.wf sx.lk
  have hs := sub22
  by_cases q : isFrB x = true
  · rw [q] at ef
    have nf := need_fraction_ok (k := k + 6) h2.wf sx q
    have l2 := like_ok (n := 3) (k := k + 5) (v := .lst [.str (Str.ofString "fine"), x]) h2.wf (Lk_two sx.lk)
    generalize Str.ofString "fine" = s_fine at *
    generalize Str.ofString "bad" = s_bad at *
    simp -implicitDefEqProofs [eS_try, ef, nf, l1, l2, permP, bindT, sizeLine]
  · have q' : isFrB x = false := by simpa using q
    rw [q'] at ef
    have nf := need_fraction_exc (k := k + 6) h2.wf sx q'
    have er := eq_refl_ok (S := S2) sx (by omega)
    have j0 : ∀ s, op2 .ix (.lst [.str s, x]) (.int 0) S2 = .ok (.str s) S2 := fun s => rfl
    have j1 : ∀ s, op2 .ix (.lst [.str s, x]) (.int 1) S2 = .ok x S2 := fun s => rfl
    generalize Str.ofString "fine" = s_fine at *
    generalize Str.ofString "bad" = s_bad at *
    simp -implicitDefEqProofs [eS_try, ef, nf, er, j0, j1, permP, bindT, handle, hs, sizeLine]
end Dg
end

section
set_option Elab.async false
set_option linter.all false
set_option maxRecDepth 100000
set_option maxHeartbeats 1000000
/-! A22: the bounds; a turn of the law. -/
namespace Dg
open PySem L2
theorem pow62 {S : Store} : op2 .pow (.int 2) (.int 62) S = .ok (.int 4611686018427387904) S := by
  show (okI (CPow 2 62) ((2 : Int) ^ (62 : Int).toNat) S : Res PV) = _
  unfold okI
  rw [if_pos (by unfold CPow; decide +kernel)]
  rfl
theorem great_ok {k N : Nat} {R S : Store} (h : Dst N R S) (hN : N ≤ 600000000) : ∃ S', Dst (N + 20) R S' ∧ GG (k + 12) 51 [.ref 0] S = .ok (.bl true) S' := by
  obtain ⟨v, S1, v1, h1, e1⟩ := draw (k := k + 9) (L := 3) h (by omega) (by omega) (by omega)
  have e1' : GG (k + 11) 21 [.ref 0, .int 3] S = .ok (.int v) S1 := e1
  have key : ∃ S', Dst (N + 20) R S' ∧ evalSs (CC (k + 11)) m__law_great [some (.ref 0), none, none, none, none] S = .ret (.bl true) S' := by
    unfold m__law_great
    have n1 := noughts_ok (k := k + 9) (b := 10) (t := 2) (n := 14) h1.wf (by omega) (by omega) (by omega) (by omega) (by decide) (by decide)
    have n2 := noughts_ok (k := k + 9) (b := 10) (t := 2) (n := 15) h1.wf (by omega) (by omega) (by omega) (by omega) (by decide) (by decide)
    have n3 := noughts_ok (k := k + 9) (b := 2) (t := 1) (n := 40) h1.wf (by omega) (by omega) (by omega) (by omega) (by decide) (by decide)
    have n4 := noughts_ok (k := k + 9) (b := 2) (t := 1) (n := 41) h1.wf (by omega) (by omega) (by omega) (by omega) (by decide) (by decide)
    have j1 := nought_judged (k := k) (b := 10) (t := 2) (n := 14) h1.wf (by omega) (by omega) (by omega) (by decide)
    have j2 := nought_judged (k := k) (b := 10) (t := 2) (n := 15) h1.wf (by omega) (by omega) (by omega) (by decide)
    have j3 := nought_judged (k := k) (b := 2) (t := 1) (n := 40) h1.wf (by omega) (by omega) (by omega) (by decide)
    have j4 := nought_judged (k := k) (b := 2) (t := 1) (n := 41) h1.wf (by omega) (by omega) (by omega) (by decide)
    have n1' : GG (k + 11) 48 [.int 10, .int 2, .int 14] S1 = .ok (cntV 10 2 (zerosR 14) (noughtM 14 (10 ^ 2)) (zerosR 14)) S1 := n1
    have n2' : GG (k + 11) 48 [.int 10, .int 2, .int 15] S1 = .ok (cntV 10 2 (zerosR 15) (noughtM 15 (10 ^ 2)) (zerosR 15)) S1 := n2
    have n3' : GG (k + 11) 48 [.int 2, .int 1, .int 40] S1 = .ok (cntV 2 1 (zerosR 40) (noughtM 40 (2 ^ 1)) (zerosR 40)) S1 := n3
    have n4' : GG (k + 11) 48 [.int 2, .int 1, .int 41] S1 = .ok (cntV 2 1 (zerosR 41) (noughtM 41 (2 ^ 1)) (zerosR 41)) S1 := n4
    clear n1 n2 n3 n4
    by_cases z0 : v = 0
    · refine ⟨S1, h1.mono (by omega), ?_⟩
      have y0 : ((v : Int) == 0) = true := by simp [z0]
      clear n3' n4' j3 j4
      generalize cntV 10 2 (zerosR 14) (noughtM 14 (10 ^ 2)) (zerosR 14) = c1 at *
      generalize cntV 10 2 (zerosR 15) (noughtM 15 (10 ^ 2)) (zerosR 15) = c2 at *
      generalize (v : Int) = vi at *
      simp -implicitDefEqProofs [e1', y0, n1', n2', j1, j2, permP, bindT]
    · have y0 : ((v : Int) == 0) = false := by simp; omega
      by_cases z1 : v = 1
      · refine ⟨S1, h1.mono (by omega), ?_⟩
        have y1 : ((v : Int) == 1) = true := by simp [z1]
        clear n1' n2' j1 j2
        generalize cntV 2 1 (zerosR 40) (noughtM 40 (2 ^ 1)) (zerosR 40) = c1 at *
        generalize cntV 2 1 (zerosR 41) (noughtM 41 (2 ^ 1)) (zerosR 41) = c2 at *
        generalize (v : Int) = vi at *
        simp -implicitDefEqProofs [e1', y0, y1, n3', n4', j3, j4, permP, bindT]
      · have y1 : ((v : Int) == 1) = false := by simp; omega
        clear n1' n2' j1 j2 n4' j4 j3
        obtain ⟨u, S2, u1, h2, e2⟩ := draw (k := k + 9) (L := 9) h1 (by omega) (by omega) (by omega)
        have e2' : GG (k + 11) 21 [.ref 0, .int 9] S1 = .ok (.int u) S2 := e2
        obtain ⟨w, S3, w1, h3, e3⟩ := draw (k := k + 9) (L := 9) h2 (by omega) (by omega) (by omega)
        have e3' : GG (k + 11) 21 [.ref 0, .int 9] S2 = .ok (.int w) S3 := e3
        have f1 := wide_fine (k := k + 2) (v := 4611686018427387903 - u) h2.wf (by omega)
        have f2 := wide_many (k := k + 2) (v := 4611686018427387904 + w) h3.wf (by omega) (by omega)
        have c1 : (4611686018427387904 : Int) - 1 - (u : Int) = ((4611686018427387903 - u : Nat) : Int) := by omega
        have c2 : (4611686018427387904 : Int) + (w : Int) = ((4611686018427387904 + w : Nat) : Int) := by omega
        have hp := pow62 (S := S1)
        have l1 := like_ok (n := 3) (k := k + 7) (v := .lst [.lst [.str (Str.ofString "fine"), .tup [.int 0, .int 1]], .lst [.str (Str.ofString "many"), .int 100000]]) h3.wf (Lk_lst (by simp) fun x hx => by
          simp only [List.mem_cons, List.not_mem_nil, or_false] at hx
          rcases hx with rfl | rfl
          · refine Lk_two (Lk_tup (by simp) fun x hx => ?_)
            simp only [List.mem_cons, List.not_mem_nil, or_false] at hx
            rcases hx with rfl | rfl <;> exact Lk_int
          · exact Lk_two (Lk_int))
        refine ⟨S3, h3.mono (by omega), ?_⟩
        have n3'' : GG (k + 11) 48 [.int 2, .int 1, .int 40] S1 = .ok (cntV 2 1 (zerosR 40) (noughtM 40 2) (zerosR 40)) S1 := n3'
        clear n3'
        unfold nI at f1 f2
        rw [← c1] at f1
        rw [← c2] at f2
        generalize cntV 2 1 (zerosR 40) (noughtM 40 2) (zerosR 40) = cc at *
        generalize hP : (4611686018427387904 : Int) = P at *
        generalize hu : (u : Int) = ui at *
        generalize hw : (w : Int) = wi at *
        generalize (v : Int) = vi at *
        generalize Str.ofString "fine" = s_fine at *
        generalize Str.ofString "many" = s_many at *
        clear c1 c2 hP hu hw
        generalize hx : P - 1 - ui = x1 at *
        generalize hy : P + wi = x2 at *
        simp -implicitDefEqProofs [e1', y0, y1, n3'', e2', e3', f1, f2, hp, l1, hx, hy, permP, bindT, sizeLine]
  obtain ⟨S', hd, e⟩ := key
  refine ⟨S', hd, ?_⟩
  rw [show GG (k + 12) 51 [.ref 0] S = _ from Gp_succ (k := k + 11) (d := d__law_great) rfl]
  exact evalD_dst h hd e rfl
end Dg
end

section
set_option Elab.async false
set_option linter.all false
set_option maxRecDepth 100000
set_option maxHeartbeats 1000000
/-! A23: a turn of the law. -/
namespace Dg
open PySem L2
abbrev spB : MSs := (.cons (.asg (.name 7) (.call 46 [(.inl 0), (.inl 1)] (.cons (.var 1) (.cons (.var 5) .nil)))) (.cons (.ifS (.not_ (.call 47 [(.inl 0)] (.cons (.var 7) .nil))) (.cons (.ret (.k (.bl false))) .nil) .nil) (.cons (.ifS (.and_ (.bi (.isin ["tuple"]) (.cons (.var 7) .nil)) (.and_ (.bin .eq (.bi .len (.cons (.var 7) .nil)) (.k (.int (5)))) (.bin .eq (.call 21 [(.inl 0), (.inl 1)] (.cons (.var 1) (.cons (.k (.int (2))) .nil))) (.k (.int (0)))))) (.cons (.asg (.name 8) (.call 41 [(.inl 0)] (.cons (.var 7) .nil))) (.cons (.asg (.name 9) (.call 23 [(.inl 0), (.inl 1)] (.cons (.var 1) (.cons (.lst (.cons (.k .non) (.cons (.tup .nil) (.cons (.bin .mul (.tup (.cons (.tup (.cons (.k (.int (1))) (.cons (.k (.int (1))) .nil))) .nil)) (.bi .len (.cons (.bin .ix (.var 5) (.k (.int (4)))) .nil))) .nil)))) .nil)))) (.cons (.asg (.name 10) (.tup (.cons (.bin .ix (.var 7) (.k (.int (0)))) (.cons (.bin .ix (.var 7) (.k (.int (1)))) (.cons (.bin .ix (.var 7) (.k (.int (2)))) (.cons (.bin .ix (.var 7) (.k (.int (3)))) (.cons (.var 9) .nil))))))) (.cons (.ifS (.and_ (.un .notN (.var 8)) (.not_ (.call 47 [(.inl 0)] (.cons (.var 10) .nil)))) (.cons (.ret (.k (.bl false))) .nil) .nil) .nil)))) .nil) .nil)))
abbrev kindL : ME := (.lst (.cons (.tup (.cons (.k (.int (2))) (.cons (.k (.int (1))) .nil))) (.cons (.tup (.cons (.k (.int (2))) (.cons (.k (.int (2))) .nil))) (.cons (.tup (.cons (.k (.int (3))) (.cons (.k (.int (1))) .nil))) (.cons (.tup (.cons (.k (.int (10))) (.cons (.k (.int (1))) .nil))) (.cons (.tup (.cons (.k (.int (5))) (.cons (.k (.int (0))) .nil))) (.cons (.tup (.cons (.bin .add (.k (.int (2))) (.call 21 [(.inl 0), (.inl 1)] (.cons (.var 1) (.cons (.k (.int (9))) .nil)))) (.cons (.k (.int (1))) .nil))) (.cons (.tup (.cons (.k (.int (3))) (.cons (.k (.int (2))) .nil))) (.cons (.tup (.cons (.k (.int (2))) (.cons (.k (.int (0))) .nil))) .nil)))))))))
abbrev turnB : MSs := (.cons (.unp [(.name 3), (.name 4)] (.call 23 [(.inl 0), (.inl 1)] (.cons (.var 1) (.cons kindL .nil)))) (.cons (.asg (.name 5) (.call 36 [(.inl 0), (.inl 1), (.inl 2), (.inl 3)] (.cons (.var 1) (.cons (.var 3) (.cons (.var 4) (.cons (.call 21 [(.inl 0), (.inl 1)] (.cons (.var 1) (.cons (.ite (.or_ (.bin .gt (.var 3) (.k (.int (3)))) (.bin .gt (.var 4) (.k (.int (1))))) (.k (.int (3))) (.k (.int (5)))) .nil))) .nil)))))) (.cons (.ifS (.or_ (.not_ (.call 47 [(.inl 0)] (.cons (.var 5) .nil))) (.not_ (.call 50 [(.inl 0), (.inl 1)] (.cons (.var 1) (.cons (.var 5) .nil))))) (.cons (.ret (.k (.bl false))) .nil) .nil) (.cons (.forS (.name 6) (.range (.cons (.k (.int (4))) .nil)) spB) (.cons (.ifS (.not_ (.call 52 [(.inl 0)] (.cons (.var 1) .nil))) (.cons (.ret (.k (.bl false))) .nil) .nil) .nil)))))
theorem mul_repD {S : Store} {x : PV} {n : Nat} (h2 : n ≤ 1000) : op2 .mul (.tup [x]) (.int (n : Int)) S = .ok (.tup (List.replicate n x)) S := by
  rcases n with _ | _ | n
  · exact mul_rep0
  · exact mul_rep1
  · exact mul_rep (by omega) h2
theorem notN_any {v : PV} {S : Store} : op1 .notN v S = .ok (.bl (!isNon v)) S := rfl
theorem sp_body {k N b t d : Nat} {f l : List Rat} {ms : List Mat} {s : PV} {v2 v3 v4 v6 v7 v8 v9 v10 : Option PV} {S : Store} (h : Dst N [] S) (hN : N ≤ 500000000) (g : GC b t d f ms l) (hm : ms.length ≤ 900) :
    ∃ (x7 x8 x9 x10 : Option PV) (S' : Store), Dst (N + 100) [] S' ∧ evalSs (CC (k + 12)) spB [some s, some (.ref 0), v2, v3, v4, some (cntV b t f ms l), v6, v7, v8, v9, v10] S = .nx [some s, some (.ref 0), v2, v3, v4, some (cntV b t f ms l), v6, x7, x8, x9, x10] S' := by
  have d4 := g.d4
  have hm0 : 0 < ms.length := by rw [g.cv.ml]; exact Nat.pow_pos (by have := g.cv.b2; omega)
  obtain ⟨v, S1, sv, h1, e1⟩ := spoilt_ok (k := k + 5) (b := b) (t := t) (fs := f.map fr) (mm := ms.map matV) (ll := l.map fr) h (by omega) (by have := g.cv.b10; omega) (by have := g.cv.t6; omega) ⟨by rw [List.length_map, g.cv.fl]; omega, Sm_map fun q hq => Sm_fr (bd_sz (g.ok.f q hq))⟩ ⟨by rw [List.length_map, g.cv.ll]; omega, Sm_map fun q hq => Sm_fr (bd_sz (g.ok.l q hq))⟩ (by rw [List.length_map]; exact hm0) ⟨by rw [List.length_map]; exact hm, fun x hx => by
    obtain ⟨M, hM, rfl⟩ := List.mem_map.mp hx
    obtain ⟨m1, m2⟩ := g.ok.ms M hM
    refine ⟨M.map (rowV true), rfl, by rw [List.length_map, m1]; omega, fun y hy => ?_⟩
    obtain ⟨line, hl, rfl⟩ := List.mem_map.mp hy
    obtain ⟨l1, l2⟩ := m2 line hl
    exact ⟨line.map fr, rfl, by rw [List.length_map, l1]; omega, Sm_map fun q hq => Sm_fr (bd_sz (l2 q hq))⟩⟩
  have e1' : GG (k + 12) 46 [.ref 0, cntV b t f ms l] S = .ok v S1 := e1
  have j1 := judged_ok (k := k + 1) h1.wf sv
  have it := isin_tup (S := S1) sv.ok
  have st7 : evalS (CC (k + 12)) (.asg (.name 7) (.call 46 [(.inl 0), (.inl 1)] (.cons (.var 1) (.cons (.var 5) .nil)))) [some s, some (.ref 0), v2, v3, v4, some (cntV b t f ms l), v6, v7, v8, v9, v10] S = .nx [some s, some (.ref 0), v2, v3, v4, some (cntV b t f ms l), v6, some v, v8, v9, v10] S1 := by
    generalize cntV b t f ms l = C at *
    simp -implicitDefEqProofs [e1', permP, bindT]
  have i4 : ∀ T, op2 .ix (cntV b t f ms l) (.int 4) T = .ok (rowV true l) T := fun T => rfl
  have ll : ∀ T, opn .len [rowV true l] T = .ok (.int (d : Int)) T := fun T => by rw [len_row, g.cv.ll]
  by_cases q : ∃ a b c e z, v = .tup [a, b, c, e, z]
  · obtain ⟨xa, xb, xc, xd, xe, rfl⟩ := q
    obtain ⟨_, hx⟩ := sv.items
    have sa := hx xa (by simp)
    have sb := hx xb (by simp)
    have sc := hx xc (by simp)
    have sd := hx xd (by simp)
    obtain ⟨u, S2, u1, h2, e2⟩ := draw (k := k + 10) (L := 2) h1 (by omega) (by omega) (by omega)
    have e2' : GG (k + 12) 21 [.ref 0, .int 2] S1 = .ok (.int u) S2 := e2
    have l5 : opn .len [.tup [xa, xb, xc, xd, xe]] S1 = .ok (.int 5) S1 := rfl
    rw [show isT (.tup [xa, xb, xc, xd, xe]) = true from rfl] at it
    by_cases z : u = 0
    · have y0 : ((u : Int) == 0) = true := by simp [z]
      have ef := law_fault_ok (k := k + 6) (n := 2) h2.wf sv
      generalize (faultV (.tup [xa, xb, xc, xd, xe])).getD .non = w8 at *
      have mr := mul_repD (S := S2) (x := .tup [.int 1, .int 1]) (n := d) (by omega)
      obtain ⟨w, S3, _, w2, h3, e3⟩ := law_of_sm (k := k + 9) (n := 6) (xs := [.non, .tup [], .tup (List.replicate d (.tup [.int 1, .int 1]))]) h2 (by omega) (by simp) (by simp) (mem3 Sm_non (Sm_tup (by simp) Sm_nil) (Sm_tup (by simp; omega) fun x hx => by
        rw [(List.mem_replicate.mp hx).2]
        exact Sm_tup (by simp) (Sm_cons (Sm_small (by decide)) (Sm_one (Sm_small (by decide))))))
      have sb10 : Sm 7 (.tup [xa, xb, xc, xd, w]) := Sm_five sa sb sc sd w2
      have j2 := judged_ok (k := k + 1) h3.wf sb10
      have k0 := fun T => ix5_0 (S := T) (a := xa) (b := xb) (c := xc) (d := xd) (e := xe)
      have k1 := fun T => ix5_1 (S := T) (a := xa) (b := xb) (c := xc) (d := xd) (e := xe)
      have k2 := fun T => ix5_2 (S := T) (a := xa) (b := xb) (c := xc) (d := xd) (e := xe)
      have k3 := fun T => ix5_3 (S := T) (a := xa) (b := xb) (c := xc) (d := xd) (e := xe)
      refine ⟨some (.tup [xa, xb, xc, xd, xe]), some w8, some w, some (.tup [xa, xb, xc, xd, w]), S3, h3.mono (by omega), ?_⟩
      rw [eSs_cons, st7, SRes.seq_nx]
      generalize PV.tup (List.replicate d (.tup [.int 1, .int 1])) = q1 at *
      generalize hq3 : PV.tup [xa, xb, xc, xd, w] = q3 at *
      generalize PV.tup [xa, xb, xc, xd, xe] = q2 at *
      generalize cntV b t f ms l = C at *
      generalize rowV true l = L at *
      generalize (u : Int) = ui at *
      generalize (d : Int) = di at *
      have nn := notN_any (v := w8) (S := S3)
      generalize isNon w8 = nb at *
      cases nb
      · simp -implicitDefEqProofs [j1, it, l5, e2', y0, ef, mr, e3, i4, ll, k0, k1, k2, k3, hq3, j2, nn, permP, bindT, sizeLine]
      · simp -implicitDefEqProofs [j1, it, l5, e2', y0, ef, mr, e3, i4, ll, k0, k1, k2, k3, hq3, j2, nn, permP, bindT, sizeLine]
    · have y0 : ((u : Int) == 0) = false := by simp; omega
      refine ⟨some (.tup [xa, xb, xc, xd, xe]), v8, v9, v10, S2, h2.mono (by omega), ?_⟩
      rw [eSs_cons, st7, SRes.seq_nx]
      generalize PV.tup [xa, xb, xc, xd, xe] = q2 at *
      generalize cntV b t f ms l = C at *
      generalize (u : Int) = ui at *
      simp -implicitDefEqProofs [j1, it, l5, e2', y0, permP]
  · refine ⟨some v, v8, v9, v10, S1, h1.mono (by omega), ?_⟩
    rw [eSs_cons, st7, SRes.seq_nx]
    cases w : isT v
    · rw [w] at it
      generalize cntV b t f ms l = C at *
      simp -implicitDefEqProofs [j1, it, permP]
    · rw [w] at it
      obtain ⟨xs, rfl⟩ := isT_iff.mp w
      have l5 : opn .len [.tup xs] S1 = .ok (.int (xs.length : Int)) S1 := opn_len_tup
      have n5 : ((xs.length : Int) == 5) = false := by
        rcases xs with _ | ⟨x1, _ | ⟨x2, _ | ⟨x3, _ | ⟨x4, _ | ⟨x5, _ | ⟨x6, r⟩⟩⟩⟩⟩⟩
        · rfl
        · rfl
        · rfl
        · rfl
        · rfl
        · exact absurd ⟨x1, x2, x3, x4, x5, rfl⟩ q
        · simp; omega
      generalize (xs.length : Int) = li at *
      generalize PV.tup xs = q2 at *
      generalize cntV b t f ms l = C at *
      simp -implicitDefEqProofs [j1, it, l5, n5, permP]
end Dg
end

section
set_option Elab.async false
set_option linter.all false
set_option maxRecDepth 100000
set_option maxHeartbeats 1000000
/-! A24: the law. -/
namespace Dg
open PySem L2
theorem kind_ok {k N : Nat} {S : Store} {v0 v2 v3 v4 v5 v6 v7 v8 v9 v10 : Option PV} (h : Dst N [] S) (hN : N ≤ 500000000) :
    ∃ (b t : Nat) (S' : Store), 2 ≤ b ∧ b ≤ 10 ∧ t ≤ 6 ∧ b ^ t ≤ 10 ∧ Dst (N + 2) [] S' ∧ evalE (CC (k + 12)) (.call 23 [(.inl 0), (.inl 1)] (.cons (.var 1) (.cons kindL .nil))) [v0, some (.ref 0), v2, v3, v4, v5, v6, v7, v8, v9, v10] S = .ok (.tup [nI b, nI t]) S' := by
  obtain ⟨u, S1, u1, h1, e1⟩ := draw (k := k + 10) (L := 9) h (by omega) (by omega) (by omega)
  have e1' : GG (k + 12) 21 [.ref 0, .int 9] S = .ok (.int u) S1 := e1
  obtain ⟨w, S2, w1, h2, e2⟩ := law_of_ok (k := k + 9) (xs := [.tup [.int 2, .int 1], .tup [.int 2, .int 2], .tup [.int 3, .int 1], .tup [.int 10, .int 1], .tup [.int 5, .int 0], .tup [.int (2 + (u : Int)), .int 1], .tup [.int 3, .int 2], .tup [.int 2, .int 0]]) h1 (by omega) (by simp) (by simp) (fun n => rfl)
  have hw : ∃ b t : Nat, w = .tup [nI b, nI t] ∧ 2 ≤ b ∧ b ≤ 10 ∧ t ≤ 6 ∧ b ^ t ≤ 10 := by
    simp only [List.mem_cons, List.not_mem_nil, or_false] at w1
    rcases w1 with rfl | rfl | rfl | rfl | rfl | rfl | rfl | rfl
    · exact ⟨2, 1, rfl, by decide, by decide, by decide, by decide⟩
    · exact ⟨2, 2, rfl, by decide, by decide, by decide, by decide⟩
    · exact ⟨3, 1, rfl, by decide, by decide, by decide, by decide⟩
    · exact ⟨10, 1, rfl, by decide, by decide, by decide, by decide⟩
    · exact ⟨5, 0, rfl, by decide, by decide, by decide, by decide⟩
    · refine ⟨2 + u, 1, ?_, by omega, by omega, by decide, by simp; omega⟩
      unfold nI
      rw [Int.natCast_add]
      rfl
    · exact ⟨3, 2, rfl, by decide, by decide, by decide, by decide⟩
    · exact ⟨2, 0, rfl, by decide, by decide, by decide, by decide⟩
  obtain ⟨b, t, rfl, b1, b2, t1, bt⟩ := hw
  refine ⟨b, t, S2, b1, b2, t1, bt, h2, ?_⟩
  have ek : evalE (CC (k + 12)) kindL [v0, some (.ref 0), v2, v3, v4, v5, v6, v7, v8, v9, v10] S = .ok (.lst [.tup [.int 2, .int 1], .tup [.int 2, .int 2], .tup [.int 3, .int 1], .tup [.int 10, .int 1], .tup [.int 5, .int 0], .tup [.int (2 + (u : Int)), .int 1], .tup [.int 3, .int 2], .tup [.int 2, .int 0]]) S1 := by
    generalize (u : Int) = ui at *
    simp -implicitDefEqProofs [e1', permP, sizeLine]
  generalize PV.lst [.tup [.int 2, .int 1], .tup [.int 2, .int 2], .tup [.int 3, .int 1], .tup [.int 10, .int 1], .tup [.int 5, .int 0], .tup [.int (2 + (u : Int)), .int 1], .tup [.int 3, .int 2], .tup [.int 2, .int 0]] = q at *
  generalize kindL = kl at *
  generalize PV.tup [nI b, nI t] = z at *
  have e2' : GG (k + 12) 23 [.ref 0, q] S1 = .ok z S2 := e2
  simp -implicitDefEqProofs [ek, e2', permP]
theorem turn_body {k N : Nat} {s : PV} {v2 v3 v4 v5 v6 v7 v8 v9 v10 : Option PV} {S : Store} (h : Dst N [] S) (hN : N ≤ 100000000) :
    ∃ (x3 x4 x5 x6 x7 x8 x9 x10 : Option PV) (S' : Store), Dst (N + 5000) [] S' ∧ evalSs (CC (k + 12)) turnB [some s, some (.ref 0), v2, v3, v4, v5, v6, v7, v8, v9, v10] S = .nx [some s, some (.ref 0), v2, x3, x4, x5, x6, x7, x8, x9, x10] S' := by
  obtain ⟨b, t, S1, b1, b2, t1, bt, h1, e1⟩ := kind_ok (k := k) (v0 := some s) (v2 := v2) (v3 := v3) (v4 := v4) (v5 := v5) (v6 := v6) (v7 := v7) (v8 := v8) (v9 := v9) (v10 := v10) h (by omega)
  have st1 : evalS (CC (k + 12)) (.unp [(.name 3), (.name 4)] (.call 23 [(.inl 0), (.inl 1)] (.cons (.var 1) (.cons kindL .nil)))) [some s, some (.ref 0), v2, v3, v4, v5, v6, v7, v8, v9, v10] S = .nx [some s, some (.ref 0), v2, some (nI b), some (nI t), v5, v6, v7, v8, v9, v10] S1 := by
    rw [eS_unp, e1, Res.to_ok]
    generalize nI b = B at *
    generalize nI t = T at *
    simp [evalGs]
  -- the dimension
  have hL : ∃ L : Nat, (L = 3 ∨ L = 5) ∧ evalE (CC (k + 12)) (.ite (.or_ (.bin .gt (.var 3) (.k (.int (3)))) (.bin .gt (.var 4) (.k (.int (1))))) (.k (.int (3))) (.k (.int (5)))) [some s, some (.ref 0), v2, some (nI b), some (nI t), v5, v6, v7, v8, v9, v10] S1 = .ok (.int (L : Int)) S1 := by
    unfold nI
    generalize (b : Int) = bi at *
    generalize (t : Int) = ti at *
    cases x : decide ((3 : Int) < bi)
    · cases y : decide ((1 : Int) < ti)
      · exact ⟨5, .inr rfl, by simp -implicitDefEqProofs [x, y]⟩
      · exact ⟨3, .inl rfl, by simp -implicitDefEqProofs [x, y]⟩
    · exact ⟨3, .inl rfl, by simp -implicitDefEqProofs [x]⟩
  obtain ⟨L, hL1, eL⟩ := hL
  obtain ⟨d, S2, d1, h2, e2⟩ := draw (k := k + 10) (L := L) h1 (by omega) (by omega) (by omega)
  have e2' : GG (k + 12) 21 [.ref 0, .int (L : Int)] S1 = .ok (.int d) S2 := e2
  obtain ⟨f, ms, l, S3, cv, cn, h3, e3⟩ := law_counting_ok (k := k + 6) h2 (by omega) b1 b2 t1 bt (show d ≤ 4 by omega)
  have e3' : GG (k + 12) 36 [.ref 0, nI b, nI t, .int (d : Int)] S2 = .ok (cntV b t f ms l) S3 := e3
  have g : GC b t d f ms l := ⟨cv, cn, by omega⟩
  have hml : ms.length ≤ 900 := by rw [cv.ml]; omega
  have st2 : evalS (CC (k + 12)) (.asg (.name 5) (.call 36 [(.inl 0), (.inl 1), (.inl 2), (.inl 3)] (.cons (.var 1) (.cons (.var 3) (.cons (.var 4) (.cons (.call 21 [(.inl 0), (.inl 1)] (.cons (.var 1) (.cons (.ite (.or_ (.bin .gt (.var 3) (.k (.int (3)))) (.bin .gt (.var 4) (.k (.int (1))))) (.k (.int (3))) (.k (.int (5)))) .nil))) .nil)))))) [some s, some (.ref 0), v2, some (nI b), some (nI t), v5, v6, v7, v8, v9, v10] S1 = .nx [some s, some (.ref 0), v2, some (nI b), some (nI t), some (cntV b t f ms l), v6, v7, v8, v9, v10] S3 := by
    generalize (ME.ite (.or_ (.bin .gt (.var 3) (.k (.int (3)))) (.bin .gt (.var 4) (.k (.int (1))))) (.k (.int (3))) (.k (.int (5)))) = le at *
    generalize cntV b t f ms l = C at *
    generalize nI b = B at *
    generalize nI t = T at *
    generalize (L : Int) = Li at *
    generalize (d : Int) = di at *
    simp -implicitDefEqProofs [eL, e2', e3', permP, bindT]
  have j1 := judged_ok (k := k + 1) h3.wf (g.sm (n := 2) (by omega))
  obtain ⟨S4, h4, e4⟩ := valued_ok (k := k + 2) h3 (by omega) g (by omega)
  have e4' : GG (k + 12) 50 [.ref 0, cntV b t f ms l] S3 = .ok (.bl true) S4 := e4
  have st3 : ∀ A, evalS (CC (k + 12)) (.ifS (.or_ (.not_ (.call 47 [(.inl 0)] (.cons (.var 5) .nil))) (.not_ (.call 50 [(.inl 0), (.inl 1)] (.cons (.var 1) (.cons (.var 5) .nil))))) A .nil) [some s, some (.ref 0), v2, some (nI b), some (nI t), some (cntV b t f ms l), v6, v7, v8, v9, v10] S3 = .nx [some s, some (.ref 0), v2, some (nI b), some (nI t), some (cntV b t f ms l), v6, v7, v8, v9, v10] S4 := by
    intro A
    generalize cntV b t f ms l = C at *
    generalize nI b = B at *
    generalize nI t = T at *
    simp -implicitDefEqProofs [j1, e4', permP]
  have hlp := forL_k (t := .name 6) (g := none) (f := fun r2 S2 => evalSs (CC (k + 12)) spB r2 S2) (xs := (List.range 4).map fun (k : Nat) => .int (k : Int)) (r := [some s, some (.ref 0), v2, some (nI b), some (nI t), some (cntV b t f ms l), v6, v7, v8, v9, v10]) (S := S4)
    (fun i r S' => Dst (N + 2300 + 100 * i) [] S' ∧ ∃ v6 v7 v8 v9 v10, r = [some s, some (.ref 0), v2, some (nI b), some (nI t), some (cntV b t f ms l), v6, v7, v8, v9, v10]) (fun _ _ => False)
    (fun i hi r S' hI => by
      obtain ⟨hD, v6, v7, v8, v9, v10, rfl⟩ := hI
      have hi' : i < 4 := by simpa using hi
      obtain ⟨x7, x8, x9, x10, S5, h5, e5⟩ := sp_body (k := k) (s := s) (v2 := v2) (v3 := some (nI b)) (v4 := some (nI t)) (v6 := some (.int (i : Int))) (v7 := v7) (v8 := v8) (v9 := v9) (v10 := v10) hD (by omega) g hml
      exact ⟨[some s, some (.ref 0), v2, some (nI b), some (nI t), some (cntV b t f ms l), some (.int (i : Int)), v7, v8, v9, v10], by simp [bindT], .inl ⟨_, _, .inl e5, trivial, h5.mono (by omega), _, _, _, _, _, rfl⟩⟩) ⟨h4.mono (by omega), v6, v7, v8, v9, v10, rfl⟩
  rcases hlp with ⟨r', S5, e5, h5, y6, y7, y8, y9, y10, rfl⟩ | ⟨_, _, _, hf⟩
  · have h5' : Dst (N + 2700) [] S5 := h5.mono (by simp <;> omega)
    obtain ⟨S6, h6, e6⟩ := fractions_right_ok (k := k + 2) h5' (by omega)
    have e6' : GG (k + 12) 52 [.ref 0] S5 = .ok (.bl true) S6 := e6
    have ei : evalI (CC (k + 12)) (.range (.cons (.k (.int (4))) .nil)) [some s, some (.ref 0), v2, some (nI b), some (nI t), some (cntV b t f ms l), v6, v7, v8, v9, v10] S4 = .ok ((List.range 4).map fun (k : Nat) => .int (k : Int), none) S4 := eI_rng (n := 4) (by simp) (by omega)
    refine ⟨some (nI b), some (nI t), some (cntV b t f ms l), y6, y7, y8, y9, y10, S6, h6.mono (by omega), ?_⟩
    unfold turnB
    rw [eSs_cons, st1, SRes.seq_nx, eSs_cons, st2, SRes.seq_nx, eSs_cons, st3, SRes.seq_nx, eSs_cons, eS_for, ei, Res.to_ok]
    dsimp only
    rw [e5, SRes.seq_nx]
    generalize cntV b t f ms l = C at *
    generalize nI b = B at *
    generalize nI t = T at *
    simp -implicitDefEqProofs [e6', permP]
  · exact hf.elim
abbrev lEnv (s : PV) (v2 v3 v4 v5 v6 v7 v8 v9 v10 : Option PV) : PEnv := [some s, some (.ref 0), v2, v3, v4, v5, v6, v7, v8, v9, v10]
theorem law_ok {ns : List Int} (hl : ns.length ≤ 63) : ∃ S', GG 20 53 [.scr (ns.map PV.int)] [] = .ok (.bl true) S' := by
  have key : ∃ S', evalSs (CC 19) m_law [some (.scr (ns.map PV.int)), none, none, none, none, none, none, none, none, none, none] [] = .ret (.bl true) S' := by
    obtain ⟨S0, h0, e0⟩ := begun_ok (k := 17) (ns := ns) (by omega)
    have e0' : GG 19 22 [.scr (ns.map PV.int)] [] = .ok (.ref 0) S0 := e0
    generalize PV.scr (ns.map PV.int) = s at *
    have s1 : evalS (CC 19) (.asg (.name 1) (.call 22 [(.inl 0)] (.cons (.var 0) .nil))) [some s, none, none, none, none, none, none, none, none, none, none] [] = .nx [some s, some (.ref 0), none, none, none, none, none, none, none, none, none] S0 := by
      simp -implicitDefEqProofs [permP, e0', bindT]
    have hlp := forL_k (t := .name 2) (g := none) (f := fun r2 S2 => evalSs (CC 19) turnB r2 S2) (xs := (List.range 4).map fun (k : Nat) => .int (k : Int)) (r := [some s, some (.ref 0), none, none, none, none, none, none, none, none, none]) (S := S0)
      (fun i r S' => Dst (0 + i * 5000) [] S' ∧ ∃ (v2 v3 v4 v5 v6 v7 v8 v9 v10 : Option PV), r = [some s, some (.ref 0), v2, v3, v4, v5, v6, v7, v8, v9, v10]) (fun _ _ => False)
      (fun i hi r S' hI => by
        obtain ⟨a1, v2, v3, v4, v5, v6, v7, v8, v9, v10, rfl⟩ := hI
        have hi' : i < 4 := by simpa using hi
        obtain ⟨x3, x4, x5, x6, x7, x8, x9, x10, S5, c1, c2⟩ := turn_body (k := 7) (s := s) (v2 := some (.int (i : Int))) (v3 := v3) (v4 := v4) (v5 := v5) (v6 := v6) (v7 := v7) (v8 := v8) (v9 := v9) (v10 := v10) a1 (by omega)
        exact ⟨[some s, some (.ref 0), some (.int (i : Int)), v3, v4, v5, v6, v7, v8, v9, v10], by simp [bindT], .inl ⟨_, _, .inl c2, trivial, c1.mono (by omega), _, _, _, _, _, _, _, _, _, rfl⟩⟩) ⟨h0, none, none, none, none, none, none, none, none, none, rfl⟩
    rcases hlp with ⟨r', S', e, a1, v2, v3, v4, v5, v6, v7, v8, v9, v10, rfl⟩ | ⟨_, _, _, hf⟩
    · have hr := eI_rng (C := CC 19) (S := S0) (r := [some s, some (.ref 0), none, none, none, none, none, none, none, none, none]) (e := .k (.int 4)) (n := 4) (by simp) (by omega)
      rw [rng_len] at a1
      obtain ⟨S2, h2, e2⟩ := great_ok (k := 7) a1 (by omega)
      have e2' : GG 19 51 [.ref 0] S' = .ok (.bl true) S2 := e2
      refine ⟨S2, ?_⟩
      show evalSs (CC 19) (.cons (.asg (.name 1) (.call 22 [(.inl 0)] (.cons (.var 0) .nil))) (.cons (.forS (.name 2) (.range (.cons (.k (.int (4))) .nil)) turnB) (.cons (.ret (.call 51 [(.inl 0)] (.cons (.var 1) .nil))) .nil))) _ _ = _
      rw [eSs_cons, s1, SRes.seq_nx, eSs_cons, eS_for, hr, Res.to_ok]
      dsimp only
      rw [e, SRes.seq_nx]
      simp -implicitDefEqProofs [e2', permP]
    · exact hf.elim
  obtain ⟨S', h⟩ := key
  refine ⟨[], ?_⟩
  rw [show GG 20 53 [.scr (ns.map PV.int)] [] = _ from Gp_succ (k := 19) (d := d_law) rfl]
  exact evalD_new (S' := []) (R := S') rfl rfl h rfl
end Dg
end

section
set_option Elab.async false
set_option linter.all false
set_option maxRecDepth 100000
set_option maxHeartbeats 0
namespace Dg
theorem plain : Plain := fun ns hl _ => law_ok hl
end Dg
theorem PySem.Challenge.cw_digitsay_k24_countings_judged_and_valued_holds : PySem.Challenge.rw_digitsay_k24_countings_judged_and_valued.Holds := by
  exact Dg.holds_of Dg.plain
end
