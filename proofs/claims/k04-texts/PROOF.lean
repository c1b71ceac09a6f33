import PyProof.Rows.All
import Wide.All
import OpenK.AllK
import Wide.FinOn
import HandS.ForMost
import HandS.ForExc
import HandS.Wide
import HandS.TupAny
import HandS.TupMul
import HandS.IsInst
import HandS.Deep
import HandS.Walk
import HandS.Zip
import KE.GoesEnum
import HandS.Style
import HandS.Small
import HandS.Defaults
import HandS.CallSlots
import HandS.ExcField
import HandS.TryMany
import HandS.Base
import HandS.Call
import HandS.Exc
import HandS.ExcInit
import KE.KExcSuper
import KE.KStateDown
import HandS.Ends
import HandS.EndBits
import HandS.Words
import HandS.WordsExc
import HandS.Head0
import HandS.Head1
import HandS.Head2
import HandS.HeadEnd
import HandS.HeadHook1
import HandS.HeadHook2
import HandS.Codes
import PySem.Challenge.RW_digitsay_k04_texts_of_readers
section
set_option Elab.async false
set_option linter.all false
set_option maxRecDepth 100000
set_option maxHeartbeats 2000000
/-! DgA: plain values, stores, worlds, what stands for what. -/
namespace Dg
open PySem L2

/-- plain values: immutable data whole; ref n: the n-th mutable object of the store -/
inductive PV where
  | non | bl (b : Bool) | int (i : Int) | str (x : Str) | tup (xs : List PV) | lst (xs : List PV) | ref (n : Nat) | ty (n : String) | scr (xs : List PV)
  deriving Inhabited
/-- mutable objects: a list, a dict with int and text keys -/
inductive MO where
  | lst (xs : List PV) | dct (kvs : List (Key × PV)) | dctT (kvs : List (List Key × PV))
  deriving Inhabited
abbrev Store := List MO
abbrev PEnv := List (Option PV)

/-- where one stands: phi: addresses that no immutable value may lie at; al: where the store's objects lie -/
structure Wd where
  K : PySem.W.Frag
  phi : Addr → Prop
  al : List Addr
  H : Hp

def RLs (w : Wd) (a : Addr) (vs : List V) : Prop :=
  (Rd w.H a (.lst vs) ∧ ¬ w.phi a) ∨
    ∃ (o : Obj) (its : Array Value) (n : Nat), w.K.lookup a = some o ∧ o.cls = .type "list" ∧ o.dict = none ∧ o.data = .seq its n ∧ its.size ≤ sizeLine ∧ Vals vs its.toList
def RTs (w : Wd) (a : Addr) (vs : List V) : Prop :=
  (Rd w.H a (.tup vs) ∧ ¬ w.phi a) ∨
    ∃ (o : Obj) (its : Array Value) (n : Nat), w.K.lookup a = some o ∧ o.cls = .type "tuple" ∧ o.data = .seq its n ∧ its.size ≤ sizeLine ∧ Vals vs its.toList
theorem RLs.sq {w : Wd} {a : Addr} {vs : List V} (h : RLs w a vs) : SqL w.K w.H a vs := by
  rcases h with ⟨h, _⟩ | h
  · exact .inl h
  · exact .inr h
theorem RTs.sq {w : Wd} {a : Addr} {vs : List V} (h : RTs w a vs) : SqT w.K w.H a vs := by
  rcases h with ⟨h, _⟩ | h
  · exact .inl h
  · exact .inr h

mutual
inductive Rep (w : Wd) : V → PV → Prop where
  | non : Rep w .non .non
  | bl (b : Bool) : Rep w (.bl b) (.bl b)
  | int (i : Int) : Rep w (.int i) (.int i)
  | str (x : Str) : Rep w (.str x) (.str x)
  | ty (n : String) : Rep w (.ty n) (.ty n)
  | tup {a : Addr} {vs : List V} {xs : List PV} : RTs w a vs → Reps w vs xs → Rep w (.ref a) (.tup xs)
  | lst {a : Addr} {vs : List V} {xs : List PV} : Rd w.H a (.lst vs) ∧ ¬ w.phi a → Reps w vs xs → Rep w (.ref a) (.lst xs)
  | scr {a : Addr} {vs : List V} {xs : List PV} : RLs w a vs → Reps w vs xs → Rep w (.ref a) (.scr xs)
  | ref {a : Addr} {n : Nat} : w.al[n]? = some a → Rep w (.ref a) (.ref n)
inductive Reps (w : Wd) : List V → List PV → Prop where
  | nil : Reps w [] []
  | cons {v : V} {x : PV} {vs : List V} {xs : List PV} : Rep w v x → Reps w vs xs → Reps w (v :: vs) (x :: xs)
end

/-- a later world -/
structure Ext (w u : Wd) : Prop where
  k : u.K = w.K
  al : ∃ b, u.al = w.al ++ b ∧ ∀ a ∈ b, ¬ w.phi a ∧ w.H a = none
  phi : ∀ a, w.phi a → u.phi a
  keep : ∀ (a : Addr) (o : HO), w.H a = some o → ¬ w.phi a → u.H a = some o
  new : ∀ a, u.phi a → ¬ w.phi a → w.H a = none
  hid : ∀ a, w.phi a → a ∉ w.al → u.H a = w.H a
/-- what a value's reading needs -/
structure RM (w u : Wd) : Prop where
  k : u.K = w.K
  al : ∀ (n : Nat) (a : Addr), w.al[n]? = some a → u.al[n]? = some a
  keep : ∀ (a : Addr) (o : HO), w.H a = some o → ¬ w.phi a → u.H a = some o ∧ ¬ u.phi a
theorem Ext.refl (w : Wd) : Ext w w := ⟨rfl, ⟨[], by simp, fun a h => absurd h (by simp)⟩, fun _ h => h, fun _ _ h _ => h, fun _ h n => absurd h n, fun _ _ _ => rfl⟩
theorem Ext.phi_back {w u : Wd} (e : Ext w u) {a : Addr} {o : HO} (h : w.H a = some o) (n : ¬ w.phi a) : ¬ u.phi a := fun q => by
  have z := e.new a q n
  rw [h] at z; cases z
theorem Ext.trans {w u t : Wd} (e : Ext w u) (f : Ext u t) : Ext w t := by
  obtain ⟨b, hb, nb⟩ := e.al
  obtain ⟨c, hc, nc⟩ := f.al
  have none_back : ∀ a, ¬ w.phi a → u.H a = none → w.H a = none := fun a n h => by
    cases q : w.H a with
    | none => rfl
    | some o => rw [e.keep a o q n] at h; cases h
  refine ⟨f.k.trans e.k, ⟨b ++ c, by rw [hc, hb, List.append_assoc], fun a ha => ?_⟩, fun a h => f.phi a (e.phi a h), fun a o h n => f.keep a o (e.keep a o h n) (e.phi_back h n), fun a h n => ?_, fun a h n => ?_⟩
  · rcases List.mem_append.mp ha with h | h
    · exact nb a h
    · obtain ⟨n1, n2⟩ := nc a h
      have n3 : ¬ w.phi a := fun q => n1 (e.phi a q)
      exact ⟨n3, none_back a n3 n2⟩
  · by_cases q : u.phi a
    · exact e.new a q n
    · exact none_back a n (f.new a h q)
  · rw [f.hid a (e.phi a h) (by rw [hb]; intro z; rcases List.mem_append.mp z with z | z; exact n z; exact (nb a z).1 h), e.hid a h n]
theorem Ext.ref {w u : Wd} (e : Ext w u) {n : Nat} {a : Addr} (h : w.al[n]? = some a) : u.al[n]? = some a := by
  obtain ⟨b, hb, _⟩ := e.al
  rw [hb, List.getElem?_append_left (List.getElem?_eq_some_iff.mp h).1]
  exact h
theorem Ext.rm {w u : Wd} (e : Ext w u) : RM w u := ⟨e.k, fun _ _ h => e.ref h, fun a o h n => ⟨e.keep a o h n, e.phi_back h n⟩⟩
theorem RLs.monoR {w u : Wd} (e : RM w u) {a : Addr} {vs : List V} (h : RLs w a vs) : RLs u a vs := by
  rcases h with ⟨h | ⟨o, h⟩, n⟩ | h
  · exact .inl ⟨.inl (e.keep _ _ h n).1, (e.keep _ _ h n).2⟩
  · exact .inl ⟨.inr ⟨o, (e.keep _ _ h n).1⟩, (e.keep _ _ h n).2⟩
  · exact .inr (by rw [e.k]; exact h)
theorem rd_monoR {w u : Wd} (e : RM w u) {a : Addr} {vs : List V} (h : Rd w.H a (.lst vs) ∧ ¬ w.phi a) : Rd u.H a (.lst vs) ∧ ¬ u.phi a := by
  rcases h with ⟨h | ⟨o, h⟩, n⟩
  · exact ⟨.inl (e.keep _ _ h n).1, (e.keep _ _ h n).2⟩
  · exact ⟨.inr ⟨o, (e.keep _ _ h n).1⟩, (e.keep _ _ h n).2⟩
theorem RTs.monoR {w u : Wd} (e : RM w u) {a : Addr} {vs : List V} (h : RTs w a vs) : RTs u a vs := by
  rcases h with ⟨h | ⟨o, h⟩, n⟩ | h
  · exact .inl ⟨.inl (e.keep _ _ h n).1, (e.keep _ _ h n).2⟩
  · exact .inl ⟨.inr ⟨o, (e.keep _ _ h n).1⟩, (e.keep _ _ h n).2⟩
  · exact .inr (by rw [e.k]; exact h)
mutual
theorem Rep.monoR {w u : Wd} (e : RM w u) : ∀ {v : V} {x : PV}, Rep w v x → Rep u v x
  | _, _, .non => .non
  | _, _, .bl b => .bl b
  | _, _, .int i => .int i
  | _, _, .str x => .str x
  | _, _, .ty n => .ty n
  | _, _, .tup h r => .tup (h.monoR e) (Reps.monoR e r)
  | _, _, .lst h r => .lst (rd_monoR e h) (Reps.monoR e r)
  | _, _, .scr h r => .scr (h.monoR e) (Reps.monoR e r)
  | _, _, .ref h => .ref (e.al _ _ h)
theorem Reps.monoR {w u : Wd} (e : RM w u) : ∀ {vs : List V} {xs : List PV}, Reps w vs xs → Reps u vs xs
  | _, _, .nil => .nil
  | _, _, .cons h r => .cons (Rep.monoR e h) (Reps.monoR e r)
end
theorem Rep.mono {w u : Wd} (e : Ext w u) {v : V} {x : PV} (h : Rep w v x) : Rep u v x := h.monoR e.rm
theorem Reps.mono {w u : Wd} (e : Ext w u) {vs : List V} {xs : List PV} (h : Reps w vs xs) : Reps u vs xs := h.monoR e.rm
theorem rd_mono {w u : Wd} (e : Ext w u) {a : Addr} {vs : List V} (h : Rd w.H a (.lst vs) ∧ ¬ w.phi a) : Rd u.H a (.lst vs) ∧ ¬ u.phi a := rd_monoR e.rm h
theorem RTs.mono {w u : Wd} (e : Ext w u) {a : Addr} {vs : List V} (h : RTs w a vs) : RTs u a vs := h.monoR e.rm
theorem RLs.mono {w u : Wd} (e : Ext w u) {a : Addr} {vs : List V} (h : RLs w a vs) : RLs u a vs := h.monoR e.rm
theorem Reps.length {w : Wd} : ∀ {vs : List V} {xs : List PV}, Reps w vs xs → vs.length = xs.length
  | _, _, .nil => rfl
  | _, _, .cons _ r => congrArg Nat.succ (Reps.length r)
theorem Reps.get {w : Wd} : ∀ {vs : List V} {xs : List PV} {i : Nat} {x : PV}, Reps w vs xs → xs[i]? = some x → ∃ v, vs[i]? = some v ∧ Rep w v x
  | _, _, _, _, .nil, h => by simp at h
  | _, _, 0, _, .cons h _, e => by simp at e; subst e; exact ⟨_, rfl, h⟩
  | _, _, i + 1, x, .cons _ r, e => by
    obtain ⟨v, h1, h2⟩ := Reps.get (i := i) (x := x) r (by simpa using e)
    exact ⟨v, by simpa using h1, h2⟩
theorem Reps.getV {w : Wd} : ∀ {vs : List V} {xs : List PV} {i : Nat} {v : V}, Reps w vs xs → vs[i]? = some v → ∃ x, xs[i]? = some x ∧ Rep w v x
  | _, _, _, _, .nil, h => by simp at h
  | _, _, 0, _, .cons h _, e => by simp at e; subst e; exact ⟨_, rfl, h⟩
  | _, _, i + 1, v, .cons _ r, e => by
    obtain ⟨x, h1, h2⟩ := Reps.getV (i := i) (v := v) r (by simpa using e)
    exact ⟨x, by simpa using h1, h2⟩
theorem Reps.append {w : Wd} : ∀ {vs us : List V} {xs ys : List PV}, Reps w vs xs → Reps w us ys → Reps w (vs ++ us) (xs ++ ys)
  | _, _, _, _, .nil, s => s
  | _, _, _, _, .cons h r, s => .cons h (Reps.append r s)
theorem Reps.set {w : Wd} {v : V} {x : PV} (r : Rep w v x) : ∀ {vs : List V} {xs : List PV} (i : Nat), Reps w vs xs → Reps w (vs.set i v) (xs.set i x)
  | _, _, _, .nil => .nil
  | _, _, 0, .cons _ t => .cons r t
  | _, _, i + 1, .cons q t => .cons q (Reps.set r i t)
theorem Reps.take {w : Wd} : ∀ {vs : List V} {xs : List PV} (n : Nat), Reps w vs xs → Reps w (vs.take n) (xs.take n)
  | _, _, 0, _ => .nil
  | _, _, _ + 1, .nil => .nil
  | _, _, n + 1, .cons h r => .cons h (Reps.take n r)
theorem Reps.drop {w : Wd} : ∀ {vs : List V} {xs : List PV} (n : Nat), Reps w vs xs → Reps w (vs.drop n) (xs.drop n)
  | _, _, 0, r => r
  | _, _, _ + 1, .nil => .nil
  | _, _, n + 1, .cons _ r => Reps.drop n r
theorem Reps.reverse {w : Wd} : ∀ {vs : List V} {xs : List PV}, Reps w vs xs → Reps w vs.reverse xs.reverse
  | _, _, .nil => .nil
  | _, _, .cons h r => by rw [List.reverse_cons, List.reverse_cons]; exact (Reps.reverse r).append (.cons h .nil)
theorem Reps.snoc {w : Wd} {v : V} {x : PV} {vs : List V} {xs : List PV} (r : Reps w vs xs) (h : Rep w v x) : Reps w (vs ++ [v]) (xs ++ [x]) := r.append (.cons h .nil)

/-- a dict's pairs -/
inductive RepK {κ : Type} (w : Wd) : List (κ × V) → List (κ × PV) → Prop where
  | nil : RepK w [] []
  | cons {k : κ} {v : V} {x : PV} {vs : List (κ × V)} {xs : List (κ × PV)} : Rep w v x → RepK w vs xs → RepK w ((k, v) :: vs) ((k, x) :: xs)
theorem RepK.monoR {κ : Type} {w u : Wd} (e : RM w u) : ∀ {vs : List (κ × V)} {xs : List (κ × PV)}, RepK w vs xs → RepK u vs xs
  | _, _, .nil => .nil
  | _, _, .cons h r => .cons (h.monoR e) (RepK.monoR e r)
theorem RepK.mono {κ : Type} {w u : Wd} (e : Ext w u) {vs : List (κ × V)} {xs : List (κ × PV)} (h : RepK w vs xs) : RepK u vs xs := h.monoR e.rm
theorem RepK.length {κ : Type} {w : Wd} : ∀ {vs : List (κ × V)} {xs : List (κ × PV)}, RepK w vs xs → vs.length = xs.length
  | _, _, .nil => rfl
  | _, _, .cons _ r => congrArg Nat.succ (RepK.length r)

/-- what stands at a store object's address -/
def MRep (w : Wd) (a : Addr) : MO → Prop
  | .lst xs => ∃ vs, w.H a = some (.lst vs) ∧ Reps w vs xs
  | .dct kvs => ∃ ws, w.H a = some (.dK ws) ∧ RepK w ws kvs
  | .dctT kvs => ∃ ws, w.H a = some (.dT ws) ∧ RepK w ws kvs
structure HRel (w : Wd) (S : Store) : Prop where
  len : w.al.length = S.length
  nd : w.al.Nodup
  phi : ∀ a ∈ w.al, w.phi a
  dom : ∀ a, w.phi a → ∃ o, w.H a = some o
  objs : ∀ (n : Nat) (a : Addr) (o : MO), w.al[n]? = some a → S[n]? = some o → MRep w a o
theorem MRep.monoR {w u : Wd} (e : RM w u) {a : Addr} {o : MO} (h : MRep w a o) (hk : u.H a = w.H a) : MRep u a o := by
  cases o with
  | lst xs => obtain ⟨vs, h1, h2⟩ := h; exact ⟨vs, hk.trans h1, h2.monoR e⟩
  | dct xs => obtain ⟨vs, h1, h2⟩ := h; exact ⟨vs, hk.trans h1, h2.monoR e⟩
  | dctT xs => obtain ⟨vs, h1, h2⟩ := h; exact ⟨vs, hk.trans h1, h2.monoR e⟩
theorem MRep.mono {w u : Wd} (e : Ext w u) {a : Addr} {o : MO} (h : MRep w a o) (hk : u.H a = w.H a) : MRep u a o := h.monoR e.rm hk
theorem HRel.at_ {w : Wd} {S : Store} (h : HRel w S) {n : Nat} {o : MO} (e : S[n]? = some o) : ∃ a, w.al[n]? = some a ∧ MRep w a o := by
  have hn : n < w.al.length := by rw [h.len]; exact (List.getElem?_eq_some_iff.mp e).1
  exact ⟨w.al[n], List.getElem?_eq_getElem hn, h.objs n _ o (List.getElem?_eq_getElem hn) e⟩
theorem MRep.there {w : Wd} {a : Addr} {o : MO} (h : MRep w a o) : ∃ u, w.H a = some u := by
  cases o with
  | lst xs => obtain ⟨vs, h1, _⟩ := h; exact ⟨_, h1⟩
  | dct xs => obtain ⟨vs, h1, _⟩ := h; exact ⟨_, h1⟩
  | dctT xs => obtain ⟨vs, h1, _⟩ := h; exact ⟨_, h1⟩
theorem HRel.there {w : Wd} {S : Store} (h : HRel w S) {a : Addr} (ha : a ∈ w.al) : ∃ u, w.H a = some u := by
  obtain ⟨n, hn, e⟩ := List.getElem_of_mem ha
  have h1 : w.al[n]? = some a := by rw [List.getElem?_eq_getElem hn, e]
  have h2 : n < S.length := by rw [← h.len]; exact hn
  exact (h.objs n a S[n] h1 (List.getElem?_eq_getElem h2)).there
/-- objects laid that nobody of the store tracks -/
theorem HRel.grow {w : Wd} {S : Store} (h : HRel w S) {H' : Hp} (k : ∀ a o, w.H a = some o → H' a = some o) : HRel { w with H := H' } S ∧ Ext w { w with H := H' } := by
  have e : Ext w { w with H := H' } := ⟨rfl, ⟨[], by simp, fun a h => absurd h (by simp)⟩, fun _ h => h, fun a o h _ => k a o h, fun _ h n => absurd h n, fun a q _ => by
    obtain ⟨o, ho⟩ := h.dom a q
    show H' a = _
    rw [ho, k a o ho]⟩
  refine ⟨⟨h.len, h.nd, h.phi, fun a q => (h.dom a q).imp fun o q => k a o q, fun n a o h1 h2 => ?_⟩, e⟩
  have m := h.objs n a o h1 h2
  obtain ⟨u, hu⟩ := m.there
  exact m.mono e (show H' a = w.H a by rw [hu]; exact k a u hu)
theorem HRel.laid {w : Wd} {S : Store} (h : HRel w S) {p : Addr} {o : HO} (hp : w.H p = none) : HRel { w with H := upd w.H p o } S ∧ Ext w { w with H := upd w.H p o } :=
  h.grow fun a u q => by rw [upd_ne (ne_of_none q hp)]; exact q
theorem HRel.notAl {w : Wd} {S : Store} (h : HRel w S) {p : Addr} (hp : w.H p = none) : p ∉ w.al := fun hm => by
  obtain ⟨u, hu⟩ := h.there hm
  rw [hp] at hu; cases hu
theorem HRel.notPhi {w : Wd} {S : Store} (h : HRel w S) {p : Addr} (hp : w.H p = none) : ¬ w.phi p := fun hm => by
  obtain ⟨u, hu⟩ := h.dom p hm
  rw [hp] at hu; cases hu
/-- a new tuple, a new list that stays as it is -/
theorem HRel.newT {w : Wd} {S : Store} (h : HRel w S) {p : Addr} {vs : List V} {xs : List PV} (hp : w.H p = none) (r : Reps w vs xs) :
    HRel { w with H := upd w.H p (.tup vs) } S ∧ Ext w { w with H := upd w.H p (.tup vs) } ∧ Rep { w with H := upd w.H p (.tup vs) } (.ref p) (.tup xs) := by
  obtain ⟨h1, e1⟩ := h.laid (o := .tup vs) hp
  exact ⟨h1, e1, .tup (.inl ⟨.inl upd_same, h.notPhi hp⟩) (r.mono e1)⟩
theorem HRel.newL {w : Wd} {S : Store} (h : HRel w S) {p : Addr} {vs : List V} {xs : List PV} (hp : w.H p = none) (r : Reps w vs xs) :
    HRel { w with H := upd w.H p (.lst vs) } S ∧ Ext w { w with H := upd w.H p (.lst vs) } ∧ Rep { w with H := upd w.H p (.lst vs) } (.ref p) (.lst xs) := by
  obtain ⟨h1, e1⟩ := h.laid (o := .lst vs) hp
  exact ⟨h1, e1, .lst ⟨.inl upd_same, h.notPhi hp⟩ (r.mono e1)⟩
/-- a new object of the store -/
def Wd.add (w : Wd) (p : Addr) (o : HO) : Wd := { w with phi := fun a => w.phi a ∨ a = p, al := w.al ++ [p], H := upd w.H p o }
theorem Ext.add {w : Wd} {S : Store} (h : HRel w S) {p : Addr} {o : HO} (hp : w.H p = none) : Ext w (w.add p o) := by
  refine ⟨rfl, ⟨[p], rfl, fun a ha => ?_⟩, fun a q => .inl q, fun a u q _ => ?_, fun a q n => ?_, fun a q _ => ?_⟩
  · have e : a = p := by simpa using ha
    rw [e]; exact ⟨h.notPhi hp, hp⟩
  · show upd w.H p o a = some u
    rw [upd_ne (ne_of_none q hp)]; exact q
  · rcases q with q | q
    · exact absurd q n
    · rw [q]; exact hp
  · obtain ⟨z, hz⟩ := h.dom a q
    show upd w.H p o a = _
    rw [upd_ne (ne_of_none hz hp)]
theorem HRel.add {w : Wd} {S : Store} (h : HRel w S) {p : Addr} {o : HO} {m : MO} (hp : w.H p = none) (hm : MRep (w.add p o) p m) :
    HRel (w.add p o) (S ++ [m]) ∧ Rep (w.add p o) (.ref p) (.ref S.length) := by
  have e := Ext.add (o := o) h hp
  refine ⟨⟨?_, ?_, fun a ha => ?_, fun a q => ?_, fun n a u h1 h2 => ?_⟩, .ref ?_⟩
  · show (w.al ++ [p]).length = (S ++ [m]).length
    rw [List.length_append, List.length_append, h.len]; rfl
  · show (w.al ++ [p]).Nodup
    refine List.nodup_append.mpr ⟨h.nd, by simp, fun a ha b hb q => ?_⟩
    have e2 : b = p := by simpa using hb
    subst e2; subst q
    exact h.notAl hp ha
  · rcases List.mem_append.mp (show a ∈ w.al ++ [p] from ha) with q | q
    · exact .inl (h.phi a q)
    · exact .inr (by simpa using q)
  · rcases q with q | q
    · obtain ⟨u, hu⟩ := h.dom a q
      exact ⟨u, by show upd w.H p o a = _; rw [upd_ne (ne_of_none hu hp)]; exact hu⟩
    · exact ⟨o, by rw [q]; exact upd_same⟩
  · have h1' : (w.al ++ [p])[n]? = some a := h1
    by_cases hn : n < w.al.length
    · rw [List.getElem?_append_left hn] at h1'
      rw [List.getElem?_append_left (by rw [← h.len]; exact hn)] at h2
      have mm := h.objs n a u h1' h2
      obtain ⟨z, hz⟩ := mm.there
      exact mm.mono e (by show upd w.H p o a = _; rw [upd_ne (ne_of_none hz hp)])
    · have hl : n < (w.al ++ [p]).length := (List.getElem?_eq_some_iff.mp h1').1
      have hn2 : n = w.al.length := by rw [List.length_append] at hl; simp at hl; omega
      subst hn2
      rw [List.getElem?_append_right (Nat.le_refl _)] at h1'
      rw [h.len, List.getElem?_append_right (Nat.le_refl _)] at h2
      simp at h1' h2
      subst h1'; subst h2
      exact hm
  · show (w.al ++ [p])[S.length]? = some p
    rw [← h.len, List.getElem?_append_right (Nat.le_refl _)]; simp
theorem HRel.addL {w : Wd} {S : Store} (h : HRel w S) {p : Addr} {vs : List V} {xs : List PV} (hp : w.H p = none) (r : Reps w vs xs) :
    HRel (w.add p (.lst vs)) (S ++ [.lst xs]) ∧ Ext w (w.add p (.lst vs)) ∧ Rep (w.add p (.lst vs)) (.ref p) (.ref S.length) := by
  have e := Ext.add (o := .lst vs) h hp
  obtain ⟨h1, h2⟩ := h.add (o := .lst vs) (m := .lst xs) hp ⟨vs, upd_same, r.mono e⟩
  exact ⟨h1, e, h2⟩
/-- an object of the store is written -/
theorem HRel.write {w : Wd} {S : Store} (h : HRel w S) {n : Nat} {a : Addr} {o : HO} {m : MO} (ha : w.al[n]? = some a) (hm : ∀ u : Wd, Ext w u → u.H a = some o → MRep u a m) :
    HRel { w with H := upd w.H a o } (S.set n m) ∧ Ext w { w with H := upd w.H a o } := by
  have hphi : w.phi a := h.phi a (List.mem_of_getElem? ha)
  have e : Ext w { w with H := upd w.H a o } := ⟨rfl, ⟨[], by simp, fun b z => absurd z (by simp)⟩, fun _ z => z, fun b u q nb => by
    show upd w.H a o b = some u
    rw [upd_ne (fun z => nb (by rw [z]; exact hphi))]; exact q, fun b z nb => absurd z nb, fun b _ nb => by
    show upd w.H a o b = _
    rw [upd_ne (fun z => nb (by rw [z]; exact List.mem_of_getElem? ha))]⟩
  refine ⟨⟨?_, h.nd, h.phi, fun b q => ?_, fun k b u h1 h2 => ?_⟩, e⟩
  · rw [List.length_set]; exact h.len
  · by_cases hb : b = a
    · exact ⟨o, by rw [hb]; exact upd_same⟩
    · obtain ⟨z, hz⟩ := h.dom b q
      exact ⟨z, by show upd w.H a o b = _; rw [upd_ne hb]; exact hz⟩
  · by_cases hk : n = k
    · subst hk
      have hb : a = b := by have z : w.al[n]? = some b := h1; rw [ha] at z; exact Option.some.inj z
      subst hb
      have hl : n < S.length := by rw [← h.len]; exact (List.getElem?_eq_some_iff.mp ha).1
      rw [List.getElem?_set_self hl] at h2
      cases h2
      exact hm _ e upd_same
    · rw [List.getElem?_set_ne hk] at h2
      have hb : b ≠ a := fun z => hk (by
        subst z
        have h1' : w.al[k]? = some b := h1
        exact (List.getElem?_inj (List.getElem?_eq_some_iff.mp ha).1 h.nd).mp (ha.trans h1'.symm))
      have mm := h.objs k b u h1 h2
      exact mm.mono e (by show upd w.H a o b = _; rw [upd_ne hb])
end Dg
end

section
set_option Elab.async false
set_option linter.all false
set_option maxRecDepth 100000
set_option maxHeartbeats 2000000
/-! DgB: a small language over plain values, and what it evaluates to. -/
namespace Dg
open PySem L2

inductive Res (β : Type) where
  | ok (b : β) (S : Store) | exc (c : Nat) (a : PV) (S : Store) | bad
def Res.bind {β γ : Type} (r : Res β) (f : β → Store → Res γ) : Res γ := match r with
  | .ok b S => f b S
  | .exc c a S => .exc c a S
  | .bad => .bad
@[simp] theorem Res.bind_ok {β γ : Type} {b : β} {S : Store} {f : β → Store → Res γ} : (Res.ok b S).bind f = f b S := rfl
@[simp] theorem Res.bind_exc {β γ : Type} {c : Nat} {a : PV} {S : Store} {f : β → Store → Res γ} : (Res.exc c a S : Res β).bind f = .exc c a S := rfl
/-- a comprehension's block lets no exception out -/
def Res.nox {β : Type} (r : Res β) : Res β := match r with
  | .ok b S => .ok b S
  | _ => .bad
@[simp] theorem Res.nox_ok {β : Type} {b : β} {S : Store} : (Res.ok b S).nox = .ok b S := rfl
@[simp] theorem Res.bind_bad {β γ : Type} {f : β → Store → Res γ} : (Res.bad : Res β).bind f = .bad := rfl

/-! ### operations on values -/
inductive O2 where
  | add | sub | mul | fdiv | mod | pow | eq | ne | lt | le | gt | ge | inn | nin | ix | mulW | fdivW
inductive O1 where
  | neg | isN | notN
/-- built-in functions and methods by values (v: a new list stays as it is; r: it is an object of the store) -/
inductive BI where
  | len | int_ | str_ | listV | listR | tuple_ | isin (ts : List String) | all_ | any_ | min1 | min2 | max2 | sum_ | abs_ | join | splitV | splitR | ord_ | lower_

/-- the items of a list or tuple -/
def seqOf (x : PV) (S : Store) : Option (List PV) := match x with
  | .lst xs => some xs
  | .tup xs => some xs
  | .scr xs => some xs
  | .ref n => match S[n]? with
    | some (.lst xs) => some xs
    | _ => none
  | _ => none
def lstOf (x : PV) (S : Store) : Option (List PV) := match x with
  | .lst xs => some xs
  | .ref n => match S[n]? with
    | some (.lst xs) => some xs
    | _ => none
  | _ => none
/-! data for == -/
mutual
def toD (S : Store) : PV → Option PyData
  | .non => some .none
  | .bl b => some (.bool b)
  | .int i => some (.int i)
  | .str x => some (.str x)
  | .tup xs => (toDs S xs).map .tuple
  | .lst xs => (toDs S xs).map .list
  | .ref _ => none
  | .ty _ => none
  | .scr _ => none
def toDs (S : Store) : List PV → Option (List PyData)
  | [] => some []
  | x :: xs => match toD S x, toDs S xs with
    | some d, some ds => some (d :: ds)
    | _, _ => none
end
/-- .. a list of the store at the top -/
def toD1 (S : Store) (x : PV) : Option PyData := match x with
  | .ref n => match S[n]? with
    | some (.lst xs) => (toDs S xs).map .list
    | _ => none
  | x => toD S x
def okI (b : Prop) [Decidable b] (i : Int) (S : Store) : Res PV := if b then .ok (.int i) S else .bad
def okB (b : Bool) (S : Store) : Res PV := .ok (.bl b) S
def cmpI (p : Int → Int → Bool) (x y : PV) (S : Store) : Res PV := match x, y with
  | .int i, .int j => okB (p i j) S
  | _, _ => .bad
/-- the scalars that == tells apart as data does -/
def scalP : PV → PV → Bool
  | .non, .non => true | .non, .int _ => true | .int _, .non => true | .non, .bl _ => true | .bl _, .non => true | .non, .str _ => true | .str _, .non => true
  | .int _, .int _ => true | .bl _, .bl _ => true | .str _, .str _ => true
  | .int _, .str _ => true | .str _, .int _ => true | .bl _, .str _ => true | .str _, .bl _ => true
  | _, _ => false
def decP : PV → PV → Bool
  | .non, .non => true
  | .int i, .int j => i == j
  | .bl i, .bl j => i == j
  | .str i, .str j => i == j
  | _, _ => false
def eqD (neg : Bool) (x y : PV) (S : Store) : Res PV := if scalP x y = true then okB (if neg then !decP x y else decP x y) S else match toD1 S x, toD1 S y with
  | some d, some e => if SeqAt.shaped d = true ∧ SeqAt.shaped e = true then okB (if neg then !PyData.eqv d e else PyData.eqv d e) S else .bad
  | _, _ => .bad
def flatP : PV → Bool
  | .non => true | .bl _ => true | .int _ => true | .str _ => true | _ => false
def eqP : PV → PV → Bool
  | .non, .non => true
  | .bl a, .bl b => a == b
  | .bl a, .int j => (if a then 1 else 0) == j
  | .int i, .bl b => i == (if b then 1 else 0)
  | .int i, .int j => i == j
  | .str x, .str y => x == y
  | _, _ => false
/-- a dict's key -/
def keyP : PV → Option Key
  | .int i => some (.inl i)
  | .str x => some (.inr x)
  | _ => none
def lookK {κ : Type} [DecidableEq κ] (k : κ) : List (κ × PV) → Option PV
  | [] => none
  | (k', v) :: r => if k' = k then some v else lookK k r
def putK {κ : Type} [DecidableEq κ] (k : κ) (v : PV) (kvs : List (κ × PV)) : List (κ × PV) :=
  if (kvs.any fun kv => decide (kv.1 = k)) = true then kvs.map (fun kv => if kv.1 = k then (kv.1, v) else kv) else kvs ++ [(k, v)]
/-- x in a list of data of any depth -/
def deepP (neg : Bool) (x : PV) (xs : List PV) (S : Store) : Res PV := match toD S x, toDs S xs with
  | some d, some ds => if SeqAt.shaped d = true ∧ SeqAt.shaped (.list ds) = true then okB (if neg then !ds.any (fun z => PyData.eqv z d) else ds.any (fun z => PyData.eqv z d)) S else .bad
  | _, _ => .bad
def inP (neg : Bool) (x y : PV) (S : Store) : Res PV := match y with
  | .str z => match x with
    | .str c => if c.cps.size = 1 then okB (if neg then !decide (c.cps.toList.getD 0 0 ∈ z.cps.toList) else decide (c.cps.toList.getD 0 0 ∈ z.cps.toList)) S else .bad
    | _ => .bad
  | .ref n => match S[n]? with
    | some (.dct kvs) => match keyP x with
      | some k => okB (if neg then !(lookK k kvs).isSome else (lookK k kvs).isSome) S
      | none => .bad
    | some (.lst xs) => if flatP x && xs.all flatP then okB (if neg then !xs.any (eqP · x) else xs.any (eqP · x)) S else deepP neg x xs S
    | _ => .bad
  | .lst xs => if flatP x && xs.all flatP then okB (if neg then !xs.any (eqP · x) else xs.any (eqP · x)) S else deepP neg x xs S
  | .tup xs => if flatP x && xs.all flatP then okB (if neg then !xs.any (eqP · x) else xs.any (eqP · x)) S else .bad
  | _ => .bad
def ixP (x y : PV) (S : Store) : Res PV := match x, y with
  | .str z, .int i => if z.length ≤ sizeLine then match atI z.cps.toList i with
    | some c => .ok (.str ⟨#[c]⟩) S
    | none => .bad else .bad
  | .lst xs, .int i => match atI xs i with
    | some v => .ok v S
    | none => .bad
  | .tup xs, .int i => match atI xs i with
    | some v => .ok v S
    | none => .bad
  | .ref n, k => match S[n]? with
    | some (.lst xs) => match k with
      | .int i => match atI xs i with
        | some v => .ok v S
        | none => .bad
      | _ => .bad
    | some (.dct kvs) => match keyP k with
      | some k => match lookK k kvs with
        | some v => .ok v S
        | none => .bad
      | none => .bad
    | _ => .bad
  | _, _ => .bad
def CMulP (i j : Int) : Prop := (-(2 ^ 64) < i ∧ i < 2 ^ 64) ∨ (-(2 ^ 64) < j ∧ j < 2 ^ 64)
instance (i j : Int) : Decidable (CMulP i j) := by unfold CMulP; exact inferInstance
instance (i j : Int) : Decidable (CMulW i j) := by unfold CMulW; exact inferInstance
instance (i j : Int) : Decidable (CDivW i j) := by unfold CDivW; exact inferInstance
instance (i j : Int) : Decidable (CPow i j) := by unfold CPow; exact inferInstance
def addP (x y : PV) (S : Store) : Res PV := match x, y with
  | .int i, .int j => .ok (.int (i + j)) S
  | .str a, .str b => if a.length + b.length ≤ sizeLine then .ok (.str (a ++ b)) S else .bad
  | .tup xs, .tup ys => if xs.length + ys.length ≤ sizeLine then .ok (.tup (xs ++ ys)) S else .bad
  | x, y => match lstOf x S, lstOf y S with
    | some xs, some ys => if xs.length + ys.length ≤ sizeLine then .ok (.lst (xs ++ ys)) S else .bad
    | _, _ => .bad
def mulP (x y : PV) (S : Store) : Res PV := match x, y with
  | .int i, .int j => okI (CMulP i j ∨ CMulW i j) (i * j) S
  | .tup xs, .int k => if xs ≠ [] ∧ 2 ≤ k ∧ (xs.length : Int) * k ≤ 10000000 then .ok (.tup (List.replicate k.toNat xs).flatten) S else .bad
  | .str a, .int k => if a.length = 1 ∧ 2 ≤ k ∧ k ≤ 100000 then .ok (.str ⟨(List.replicate k.toNat a.cps.toList).flatten.toArray⟩) S else .bad
  | _, _ => .bad
def op2 (o : O2) (x y : PV) (S : Store) : Res PV := match o with
  | .add => addP x y S
  | .sub => match x, y with
    | .int i, .int j => .ok (.int (i - j)) S
    | _, _ => .bad
  | .mul => mulP x y S
  | .mulW => match x, y with
    | .int i, .int j => okI (CMulW i j) (i * j) S
    | _, _ => .bad
  | .fdiv => match x, y with
    | .int i, .int j => okI (CDivW i j) (i / j) S
    | _, _ => .bad
  | .fdivW => match x, y with
    | .int i, .int j => okI (CDivW i j) (i / j) S
    | _, _ => .bad
  | .mod => match x, y with
    | .int i, .int j => okI (0 < j) (i % j) S
    | _, _ => .bad
  | .pow => match x, y with
    | .int i, .int j => okI (CPow i j) (i ^ j.toNat) S
    | _, _ => .bad
  | .eq => eqD false x y S
  | .ne => eqD true x y S
  | .lt => cmpI (fun i j => decide (i < j)) x y S
  | .le => cmpI (fun i j => decide (i ≤ j)) x y S
  | .gt => cmpI (fun i j => decide (j < i)) x y S
  | .ge => cmpI (fun i j => decide (j ≤ i)) x y S
  | .inn => inP false x y S
  | .nin => inP true x y S
  | .ix => ixP x y S
def isNon : PV → Bool
  | .non => true
  | _ => false
def op1 (o : O1) (x : PV) (S : Store) : Res PV := match o with
  | .neg => match x with
    | .int i => .ok (.int (-i)) S
    | _ => .bad
  | .isN => okB (isNon x) S
  | .notN => okB (!isNon x) S
def tyP (S : Store) : PV → Option String
  | .non => some "NoneType"
  | .bl _ => some "bool"
  | .int _ => some "int"
  | .str _ => some "str"
  | .tup _ => some "tuple"
  | .lst _ => some "list"
  | .ref n => match S[n]? with
    | some (.lst _) => some "list"
    | some (.dct _) => some "dict"
    | some (.dctT _) => some "dict"
    | none => none
  | .ty _ => none
  | .scr _ => none
def subTy (t c : String) : Bool := t == c || (t == "bool" && c == "int")
def isBl : PV → Option Bool
  | .bl b => some b
  | _ => none
def isIn : PV → Option Int
  | .int i => some i
  | _ => none
def isSt : PV → Option Str
  | .str x => some x
  | _ => none
/-- all of a list's items, of one kind -/
def allOf {β : Type} (f : PV → Option β) : List PV → Option (List β)
  | [] => some []
  | x :: xs => match f x, allOf f xs with
    | some b, some bs => some (b :: bs)
    | _, _ => none
def minL : Int → List Int → Int
  | m, [] => m
  | m, x :: xs => minL (if x < m then x else m) xs
def opn (o : BI) (vs : List PV) (S : Store) : Res PV := match o, vs with
  | .len, [.str x] => if x.length ≤ sizeLine then .ok (.int x.length) S else .bad
  | .len, [.ref n] => match S[n]? with
    | some (.lst xs) => .ok (.int xs.length) S
    | some (.dct xs) => .ok (.int xs.length) S
    | _ => .bad
  | .len, [x] => match seqOf x S with
    | some xs => .ok (.int xs.length) S
    | none => .bad
  | .int_, [.int i] => .ok (.int i) S
  | .int_, [.bl b] => .ok (.int (if b then 1 else 0)) S
  | .int_, [.str x] => if x.length ≤ 640 then match PySem.intText? x with
    | some n => .ok (.int n) S
    | none => .bad else .bad
  | .str_, [.int i] => if i.natAbs.log2 < 1920 then .ok (.str (toString i)) S else .bad
  | .listV, [x] => match seqOf x S with
    | some xs => .ok (.lst xs) S
    | none => .bad
  | .listR, [x] => match seqOf x S with
    | some xs => .ok (.ref S.length) (S ++ [.lst xs])
    | none => .bad
  | .tuple_, [x] => match seqOf x S with
    | some xs => .ok (.tup xs) S
    | none => .bad
  | .isin ts, [x] => match tyP S x with
    | some t => okB (ts.any (subTy t)) S
    | none => .bad
  | .all_, [x] => match (lstOf x S).bind (allOf isBl) with
    | some bs => okB (bs.all id) S
    | none => .bad
  | .any_, [x] => match (lstOf x S).bind (allOf isBl) with
    | some bs => okB (bs.any id) S
    | none => .bad
  | .sum_, [x] => match (lstOf x S).bind (allOf isIn) with
    | some is => .ok (.int is.sum) S
    | none => .bad
  | .min1, [x] => match (lstOf x S).bind (allOf isIn) with
    | some (i :: is) => .ok (.int (minL i is)) S
    | _ => .bad
  | .min2, [.int i, .int j] => .ok (.int (if j < i then j else i)) S
  | .max2, [.int i, .int j] => .ok (.int (if j > i then j else i)) S
  | .abs_, [.int i] => .ok (.int (if i < 0 then -i else i)) S
  | .join, [.str a, x] => match (lstOf x S).bind (allOf isSt) with
    | some ys => if (ys.map (·.length)).sum + ys.length * a.length ≤ 16777216 then .ok (.str (Txt.join a ys)) S else .bad
    | none => .bad
  | .splitV, [.str a, .str b] => if (b.length == 0) = false ∧ a.length + 2 ≤ sizeLine then .ok (.lst ((Txt.split a b).map .str)) S else .bad
  | .splitR, [.str a, .str b] => if (b.length == 0) = false ∧ a.length + 2 ≤ sizeLine then .ok (.ref S.length) (S ++ [.lst ((Txt.split a b).map .str)]) else .bad
  | _, _ => .bad
def slP (x : PV) (lo hi : Option Int) (S : Store) : Res PV := match x with
  | .str z => if z.length ≤ sizeLine then .ok (.str (cutS z lo hi)) S else .bad
  | .tup xs => .ok (.tup ((xs.drop (HT.sIx xs.length 0 lo)).take (HT.sIx xs.length xs.length hi - HT.sIx xs.length 0 lo))) S
  | x => match lstOf x S with
    | some xs => .ok (.lst ((xs.drop (HT.sIx xs.length 0 lo)).take (HT.sIx xs.length xs.length hi - HT.sIx xs.length 0 lo))) S
    | none => .bad
/-- truth -/
def truP (x : PV) (S : Store) : Option Bool := match x with
  | .non => some false
  | .bl b => some b
  | .int i => some (i != 0)
  | .str z => if z.length ≤ sizeLine then some ((z.length : Int) != 0) else none
  | .tup xs => some (!xs.isEmpty)
  | .lst xs => some (!xs.isEmpty)
  | .ref n => match S[n]? with
    | some (.lst xs) => some (!xs.isEmpty)
    | _ => none
  | .ty _ => none
  | .scr xs => some (!xs.isEmpty)

/-! ### the language -/
inductive TGT where
  | name (i : Nat) | tup (is : List Nat)
  deriving Repr
mutual
inductive ME where
  | var (i : Nat)
  | k (c : PV)
  | un (o : O1) (a : ME)
  | bin (o : O2) (a b : ME)
  | chain (o p : O2) (a b c : ME)
  | and_ (a b : ME) | or_ (a b : ME) | not_ (a : ME) | ite (c a b : ME)
  | tup (es : MEs) | lst (es : MEs) | lstR (es : MEs) | dctR (ks : List Key) (es : MEs)
  | call (f : Nat) (perm : List (Sum Nat PV)) (es : MEs)
  | bi (o : BI) (es : MEs)
  | mt (o : BI) (a e : ME)
  | app (i : Nat) (e : ME)
  | slice (a : ME) (lo hi : MEo)
  | comp (r : Bool) (own : List Nat) (t : TGT) (it : IT) (c : MEo) (e : ME)
  | exarg
inductive MEs where
  | nil | cons (e : ME) (es : MEs)
inductive MEo where
  | none | some (e : ME)
inductive IT where
  | of (e : ME) | range (es : MEs) | enum (e : ME) | zip (a b : ME)
end
/-- a target: a name, a place of a list or dict -/
inductive MT where
  | name (i : Nat) | sub (a i : ME)
/-- except c as nm: t = e | return e -/
inductive MHd where
  | mk (c : Nat) (nm : Option Nat) (t : Option Nat) (e : ME)
mutual
inductive MS where
  | asg (t : TGT) (e : ME)
  | setix (a i e : ME)
  | unp (ts : List MT) (e : ME)
  | ex (e : ME)
  | ret (e : ME)
  | ifS (c : ME) (a b : MSs)
  | forS (t : TGT) (it : IT) (b : MSs)
  | whileS (c : ME) (b : MSs)
  | brk | cont | pass
  | raise (c : Nat) (e : ME)
  | try_ (b : MSs) (hs : List MHd)
inductive MSs where
  | nil | cons (s : MS) (r : MSs)
end

/-- what a context says: what calls give; the exception at hand -/
structure Cxt where
  G : Nat → List PV → Store → Res PV
  sub : Nat → Nat → Option Bool := fun _ _ => none
  hx : Option (Nat × PV) := none
def bindT (t : TGT) (v : PV) (r : PEnv) : Option PEnv := match t with
  | .name i => some (r.set i (some v))
  | .tup is => match v with
    | .tup xs => if xs.length = is.length then some ((is.zip xs).foldl (fun r p => r.set p.1 (some p.2)) r) else none
    | _ => none
def wipeP (r : PEnv) : List Nat → PEnv
  | [] => r
  | v :: vs => (wipeP r vs).set v none
/-- a list that is walked stays as it is -/
def Grd : Option (Nat × List PV) → Store → Prop
  | none, _ => True
  | some (n, xs), S => S[n]? = some (.lst xs)
open Classical in
noncomputable def compL (f : PV → Store → Res (Option PV)) (g : Option (Nat × List PV)) : List PV → Store → Res (List PV)
  | [], S => .ok [] S
  | x :: xs, S => (f x S).bind fun o S1 => if Grd g S1 then (compL f g xs S1).bind fun ys S2 => .ok (match o with
    | some y => y :: ys
    | none => ys) S2 else .bad
def rangeP : List PV → Option (List PV)
  | [.int j] => if -(2 ^ 62) ≤ j ∧ j < 2 ^ 62 then some ((List.range j.toNat).map fun (k : Nat) => .int (0 + (k : Int))) else none
  | [.int i, .int j] => if -(2 ^ 62) ≤ i ∧ i < 2 ^ 62 ∧ -(2 ^ 62) ≤ j ∧ j < 2 ^ 62 then some ((List.range (j - i).toNat).map fun (k : Nat) => .int (i + (k : Int))) else none
  | _ => none
def enumP (k : Nat) : List PV → List PV
  | [] => []
  | x :: xs => .tup [.int k, x] :: enumP (k + 1) xs
def zipP : List PV → List PV → List PV
  | x :: xs, y :: ys => .tup [x, y] :: zipP xs ys
  | _, _ => []
/-- the arguments of a def in order -/
def permP (p : List (Sum Nat PV)) (vs : List PV) : Option (List PV) := match p with
  | [] => some []
  | .inl i :: p => match vs[i]?, permP p vs with
    | some v, some r => some (v :: r)
    | _, _ => none
  | .inr d :: p => match permP p vs with
    | some r => some (d :: r)
    | _ => none
mutual
noncomputable def evalE (C : Cxt) : ME → PEnv → Store → Res PV
  | .var i, r, S => match r[i]? with
    | some (some v) => .ok v S
    | _ => .bad
  | .k c, _, S => .ok c S
  | .un o a, r, S => (evalE C a r S).bind fun x S1 => op1 o x S1
  | .bin o a b, r, S => (evalE C a r S).bind fun x S1 => (evalE C b r S1).bind fun y S2 => op2 o x y S2
  | .chain o p a b c, r, S => (evalE C a r S).bind fun x S1 => (evalE C b r S1).bind fun y S2 => (op2 o x y S2).bind fun z S3 => match z with
    | .bl true => (evalE C c r S3).bind fun u S4 => op2 p y u S4
    | .bl false => .ok (.bl false) S3
    | _ => .bad
  | .and_ a b, r, S => (evalE C a r S).bind fun x S1 => match x with
    | .bl true => evalE C b r S1
    | .bl false => .ok (.bl false) S1
    | _ => .bad
  | .or_ a b, r, S => (evalE C a r S).bind fun x S1 => match x with
    | .bl true => .ok (.bl true) S1
    | .bl false => evalE C b r S1
    | _ => .bad
  | .not_ a, r, S => (evalE C a r S).bind fun x S1 => match x with
    | .bl b => .ok (.bl (!b)) S1
    | _ => .bad
  | .ite c a b, r, S => (evalT C c r S).bind fun t S1 => if t = true then evalE C a r S1 else evalE C b r S1
  | .tup es, r, S => (evalEs C es r S).bind fun vs S1 => if vs.length ≤ sizeLine then .ok (.tup vs) S1 else .bad
  | .lst es, r, S => (evalEs C es r S).bind fun vs S1 => if vs.length ≤ sizeLine then .ok (.lst vs) S1 else .bad
  | .lstR es, r, S => (evalEs C es r S).bind fun vs S1 => if vs.length ≤ sizeLine then .ok (.ref S1.length) (S1 ++ [.lst vs]) else .bad
  | .dctR ks es, r, S => (evalEs C es r S).bind fun vs S1 => if vs.length = ks.length ∧ vs.length ≤ 15 ∧ ks.Nodup then .ok (.ref S1.length) (S1 ++ [.dct (ks.zip vs)]) else .bad
  | .call f p es, r, S => (evalEs C es r S).bind fun vs S1 => match permP p vs with
    | some as => C.G f as S1
    | none => .bad
  | .bi o es, r, S => (evalEs C es r S).bind fun vs S1 => opn o vs S1
  | .mt o a e, r, S => (evalE C a r S).bind fun x S1 => match x with
    | .str z => (evalE C e r S1).bind fun y S2 => opn o [.str z, y] S2
    | _ => .bad
  | .app i e, r, S => match r[i]? with
    | some (some (.ref n)) => match S[n]? with
      | some (.lst _) => (evalE C e r S).bind fun x S1 => match S1[n]? with
        | some (.lst xs) => if xs.length < sizeLine then .ok .non (S1.set n (.lst (xs ++ [x]))) else .bad
        | _ => .bad
      | _ => .bad
    | _ => .bad
  | .slice a lo hi, r, S => (evalE C a r S).bind fun x S1 => (evalO C lo r S1).bind fun l S2 => (evalO C hi r S2).bind fun h S3 => slP x l h S3
  | .comp rf own t it c e, r, S => (evalI C it r S).bind fun p S1 => if p.1.length < sizeLine then (compL (fun x S2 => match bindT t x (wipeP r own) with
      | none => .bad
      | some r2 => ((evalC C c r2 S2).bind fun b S3 => if b = true then (evalE C e r2 S3).bind fun y S4 => .ok (some y) S4 else .ok none S3).nox) p.2 p.1 S1).bind fun ys S2 =>
    if rf = true then .ok (.ref S2.length) (S2 ++ [.lst ys]) else .ok (.lst ys) S2 else .bad
  | .exarg, _, S => match C.hx with
    | some (_, a) => .ok a S
    | none => .bad
noncomputable def evalT (C : Cxt) : ME → PEnv → Store → Res Bool
  | .and_ a b, r, S => (evalT C a r S).bind fun t S1 => if t = true then evalT C b r S1 else .ok false S1
  | .or_ a b, r, S => (evalT C a r S).bind fun t S1 => if t = true then .ok true S1 else evalT C b r S1
  | .not_ a, r, S => (evalT C a r S).bind fun t S1 => .ok (!t) S1
  | .ite c a b, r, S => (evalT C c r S).bind fun t S1 => if t = true then evalT C a r S1 else evalT C b r S1
  | e, r, S => (evalE C e r S).bind fun x S1 => match truP x S1 with
    | some t => .ok t S1
    | none => .bad
noncomputable def evalEs (C : Cxt) : MEs → PEnv → Store → Res (List PV)
  | .nil, _, S => .ok [] S
  | .cons e es, r, S => (evalE C e r S).bind fun x S1 => (evalEs C es r S1).bind fun xs S2 => .ok (x :: xs) S2
noncomputable def evalO (C : Cxt) : MEo → PEnv → Store → Res (Option Int)
  | .none, _, S => .ok none S
  | .some e, r, S => (evalE C e r S).bind fun x S1 => match x with
    | .int i => .ok (some i) S1
    | _ => .bad
noncomputable def evalC (C : Cxt) : MEo → PEnv → Store → Res Bool
  | .none, _, S => .ok true S
  | .some e, r, S => evalT C e r S
noncomputable def evalI (C : Cxt) : IT → PEnv → Store → Res (List PV × Option (Nat × List PV))
  | .of e, r, S => (evalE C e r S).bind fun x S1 => match x with
    | .str z => .ok (z.cps.toList.map (fun c => .str ⟨#[c]⟩), none) S1
    | .ref n => match S1[n]? with
      | some (.lst xs) => .ok (xs, some (n, xs)) S1
      | _ => .bad
    | x => match seqOf x S1 with
      | some xs => .ok (xs, none) S1
      | none => .bad
  | .range es, r, S => (evalEs C es r S).bind fun vs S1 => match rangeP vs with
    | some xs => .ok (xs, none) S1
    | none => .bad
  | .enum e, r, S => (evalE C e r S).bind fun x S1 => match x with
    | .ref n => match S1[n]? with
      | some (.lst xs) => .ok (enumP 0 xs, some (n, xs)) S1
      | _ => .bad
    | x => match seqOf x S1 with
      | some xs => .ok (enumP 0 xs, none) S1
      | none => .bad
  | .zip a b, r, S => (evalE C a r S).bind fun x S1 => (evalE C b r S1).bind fun y S2 => match x, y with
    | .tup xs, .tup ys => .ok (zipP xs ys, none) S2
    | .lst xs, .lst ys => .ok (zipP xs ys, none) S2
    | _, _ => .bad
end

/-! ### statements -/
inductive SRes where
  | nx (r : PEnv) (S : Store) | ret (v : PV) (S : Store) | brk (r : PEnv) (S : Store) | ct (r : PEnv) (S : Store) | exc (c : Nat) (a : PV) (r : PEnv) (S : Store) | bad
def Res.to {β : Type} (x : Res β) (r : PEnv) (k : β → Store → SRes) : SRes := match x with
  | .ok b S => k b S
  | .exc c a S => .exc c a r S
  | .bad => .bad
@[simp] theorem Res.to_ok {β : Type} {b : β} {S : Store} {r : PEnv} {k : β → Store → SRes} : (Res.ok b S).to r k = k b S := rfl
@[simp] theorem Res.to_exc {β : Type} {c : Nat} {a : PV} {S : Store} {r : PEnv} {k : β → Store → SRes} : (Res.exc c a S : Res β).to r k = .exc c a r S := rfl
@[simp] theorem Res.to_bad {β : Type} {r : PEnv} {k : β → Store → SRes} : (Res.bad : Res β).to r k = .bad := rfl
def SRes.seq (x : SRes) (k : PEnv → Store → SRes) : SRes := match x with
  | .nx r S => k r S
  | y => y
@[simp] theorem SRes.seq_nx {r : PEnv} {S : Store} {k : PEnv → Store → SRes} : (SRes.nx r S).seq k = k r S := rfl
@[simp] theorem SRes.seq_ret {v : PV} {S : Store} {k : PEnv → Store → SRes} : (SRes.ret v S).seq k = .ret v S := rfl
@[simp] theorem SRes.seq_brk {r : PEnv} {S : Store} {k : PEnv → Store → SRes} : (SRes.brk r S).seq k = .brk r S := rfl
@[simp] theorem SRes.seq_ct {r : PEnv} {S : Store} {k : PEnv → Store → SRes} : (SRes.ct r S).seq k = .ct r S := rfl
@[simp] theorem SRes.seq_exc {c : Nat} {a : PV} {r : PEnv} {S : Store} {k : PEnv → Store → SRes} : (SRes.exc c a r S).seq k = .exc c a r S := rfl
@[simp] theorem SRes.seq_bad {k : PEnv → Store → SRes} : SRes.bad.seq k = .bad := rfl
open Classical in
noncomputable def forL (t : TGT) (f : PEnv → Store → SRes) (g : Option (Nat × List PV)) : List PV → PEnv → Store → SRes
  | [], r, S => .nx r S
  | x :: xs, r, S => match bindT t x r with
    | none => .bad
    | some r2 => match f r2 S with
      | .nx r3 S3 => if Grd g S3 then forL t f g xs r3 S3 else .bad
      | .ct r3 S3 => if Grd g S3 then forL t f g xs r3 S3 else .bad
      | .brk r3 S3 => .nx r3 S3
      | .ret v S3 => .ret v S3
      | .exc c a r3 S3 => .exc c a r3 S3
      | .bad => .bad
def whileN (c : PEnv → Store → Res Bool) (f : PEnv → Store → SRes) : Nat → PEnv → Store → SRes
  | 0, _, _ => .bad
  | n + 1, r, S => (c r S).to r fun t S1 => if t = true then match f r S1 with
      | .nx r3 S3 => whileN c f n r3 S3
      | .ct r3 S3 => whileN c f n r3 S3
      | .brk r3 S3 => .nx r3 S3
      | .ret v S3 => .ret v S3
      | .exc c a r3 S3 => .exc c a r3 S3
      | .bad => .bad
    else .nx r S1
open Classical in
noncomputable def whileR (c : PEnv → Store → Res Bool) (f : PEnv → Store → SRes) (r : PEnv) (S : Store) : SRes :=
  if h : ∃ n, whileN c f n r S ≠ .bad then whileN c f (Classical.choose h) r S else .bad
theorem whileN_mono {c : PEnv → Store → Res Bool} {f : PEnv → Store → SRes} : ∀ {n : Nat} {r : PEnv} {S : Store} {m : Nat}, whileN c f n r S ≠ .bad → n ≤ m → whileN c f m r S = whileN c f n r S
  | 0, _, _, _, h, _ => absurd rfl h
  | n + 1, r, S, 0, _, hm => absurd hm (Nat.not_succ_le_zero n)
  | n + 1, r, S, m + 1, h, hm => by
    unfold whileN at h ⊢
    cases e : c r S with
    | bad => rfl
    | exc => rfl
    | ok t S1 =>
      rw [e] at h
      simp only [Res.to_ok] at h ⊢
      cases t with
      | false => rfl
      | true =>
        simp only [if_true] at h ⊢
        cases q : f r S1 with
        | nx r3 S3 => rw [q] at h; exact whileN_mono h (Nat.le_of_succ_le_succ hm)
        | ct r3 S3 => rw [q] at h; exact whileN_mono h (Nat.le_of_succ_le_succ hm)
        | _ => rfl
theorem whileR_eq {c : PEnv → Store → Res Bool} {f : PEnv → Store → SRes} {n : Nat} {r : PEnv} {S : Store} {x : SRes} (h : whileN c f n r S = x) (hb : x ≠ .bad) : whileR c f r S = x := by
  have hn : whileN c f n r S ≠ .bad := by rw [h]; exact hb
  have ex : ∃ n, whileN c f n r S ≠ .bad := ⟨n, hn⟩
  unfold whileR
  rw [dif_pos ex]
  have h2 := Classical.choose_spec ex
  rcases Nat.le_total n (Classical.choose ex) with l | l
  · rw [whileN_mono hn l, h]
  · rw [← whileN_mono h2 l, h]
theorem whileR_bad {c : PEnv → Store → Res Bool} {f : PEnv → Store → SRes} {r : PEnv} {S : Store} (h : whileR c f r S ≠ .bad) : ∃ n, whileN c f n r S = whileR c f r S := by
  unfold whileR at h ⊢
  by_cases ex : ∃ n, whileN c f n r S ≠ .bad
  · rw [dif_pos ex]; exact ⟨_, rfl⟩
  · rw [dif_neg ex] at h; exact absurd rfl h
def setP (o k x : PV) (S : Store) : Option Store := match o with
  | .ref n => match S[n]? with
    | some (.lst xs) => match k with
      | .int i => match ixN xs.length i with
        | some j => some (S.set n (.lst (xs.set j x)))
        | none => none
      | _ => none
    | some (.dct kvs) => match keyP k with
      | some k => if kvs.length < sizeLine then some (S.set n (.dct (putK k x kvs))) else none
      | none => none
    | _ => none
  | _ => none
noncomputable def evalGs (C : Cxt) : List MT → List PV → PEnv → Store → SRes
  | [], [], r, S => .nx r S
  | .name i :: ts, v :: vs, r, S => evalGs C ts vs (r.set i (some v)) S
  | .sub a i :: ts, v :: vs, r, S => (evalE C a r S).to r fun o S1 => (evalE C i r S1).to r fun k S2 => match setP o k v S2 with
    | some S3 => evalGs C ts vs r S3
    | none => .bad
  | _, _, _, _ => .bad
noncomputable def handle (C : Cxt) (c : Nat) (a : PV) (r : PEnv) (S : Store) : List MHd → SRes
  | [] => .exc c a r S
  | .mk c' none t e :: hs => if C.sub c c' = some true then (match evalE C e r S with
      | .ok v S1 => match t with
        | some j => .nx (r.set j (some v)) S1
        | none => .ret v S1
      | _ => .bad)
    else if C.sub c c' = some false then handle C c a r S hs else .bad
  | .mk c' (some i) t e :: hs => if C.sub c c' = some true then (if i < r.length ∧ t ≠ some i then (match evalE { C with hx := some (c, a) } e (r.set i none) S with
      | .ok v S1 => match t with
        | some j => .nx ((r.set i none).set j (some v)) S1
        | none => .ret v S1
      | _ => .bad) else .bad)
    else if C.sub c c' = some false then handle C c a r S hs else .bad
mutual
noncomputable def evalS (C : Cxt) : MS → PEnv → Store → SRes
  | .asg t e, r, S => (evalE C e r S).to r fun v S1 => match bindT t v r with
    | some r2 => .nx r2 S1
    | none => .bad
  | .setix a i e, r, S => (evalE C e r S).to r fun v S1 => (evalE C a r S1).to r fun o S2 => (evalE C i r S2).to r fun k S3 => match setP o k v S3 with
    | some S4 => .nx r S4
    | none => .bad
  | .unp ts e, r, S => (evalE C e r S).to r fun v S1 => match v with
    | .tup xs => if xs.length = ts.length then evalGs C ts xs r S1 else .bad
    | _ => .bad
  | .ex e, r, S => (evalE C e r S).to r fun _ S1 => .nx r S1
  | .ret e, r, S => (evalE C e r S).to r fun v S1 => .ret v S1
  | .ifS c a b, r, S => (evalT C c r S).to r fun t S1 => if t = true then evalSs C a r S1 else evalSs C b r S1
  | .forS t it b, r, S => (evalI C it r S).to r fun p S1 => forL t (fun r2 S2 => evalSs C b r2 S2) p.2 p.1 r S1
  | .whileS c b, r, S => whileR (fun r2 S2 => evalT C c r2 S2) (fun r2 S2 => evalSs C b r2 S2) r S
  | .brk, r, S => .brk r S
  | .cont, r, S => .ct r S
  | .pass, r, S => .nx r S
  | .raise c e, r, S => (evalE C e r S).to r fun v S1 => .exc c v r S1
  | .try_ b hs, r, S => match evalSs C b r S with
    | .exc c a r2 S2 => handle C c a r2 S2 hs
    | x => x
noncomputable def evalSs (C : Cxt) : MSs → PEnv → Store → SRes
  | .nil, r, S => .nx r S
  | .cons s t, r, S => (evalS C s r S).seq fun r2 S2 => evalSs C t r2 S2
end

/-! ### a def's call: its own objects are let go, what it gives stands frozen -/
mutual
/-- no object of the store from n on -/
def below (n : Nat) : PV → Bool
  | .ref k => decide (k < n)
  | .tup xs => belows n xs
  | .lst xs => belows n xs
  | .scr _ => false
  | _ => true
def belows (n : Nat) : List PV → Bool
  | [] => true
  | x :: xs => below n x && belows n xs
end
def belowM (n : Nat) : MO → Bool
  | .lst xs => belows n xs
  | .dct kvs => kvs.all fun p => below n p.2
  | .dctT kvs => kvs.all fun p => below n p.2
mutual
/-- the value with its new lists frozen -/
def frzG (n : Nat) (g : Nat → Option PV) : PV → Option PV
  | .ref k => if k < n then some (.ref k) else g k
  | .tup xs => (frzGs n g xs).map .tup
  | .lst xs => (frzGs n g xs).map .lst
  | .scr _ => none
  | .non => some .non
  | .bl b => some (.bl b)
  | .int i => some (.int i)
  | .str x => some (.str x)
  | .ty x => some (.ty x)
def frzGs (n : Nat) (g : Nat → Option PV) : List PV → Option (List PV)
  | [] => some []
  | x :: xs => match frzG n g x, frzGs n g xs with
    | some y, some ys => some (y :: ys)
    | _, _ => none
end
def gz (S : Store) (n : Nat) : Nat → Nat → Option PV
  | 0, _ => none
  | d + 1, k => match S[k]? with
    | some (.lst xs) => (frzGs n (gz S n d) xs).map .lst
    | _ => none
def frz (S : Store) (n d : Nat) (x : PV) : Option PV := frzG n (gz S n d) x
def startP (m : Nat) (vs : List PV) : PEnv := vs.map some ++ List.replicate (m - vs.length) none
/-- m: how many names; raw: what is made stays in the store -/
noncomputable def evalD (C : Cxt) (raw : Bool) (m : Nat) (b : MSs) (vs : List PV) (S : Store) : Res PV :=
  let fin := fun (v : PV) (S' : Store) (k : PV → Store → Res PV) => if raw = true then k v S' else
    match frz S' S.length 8 v with
    | some v' => if (S'.take S.length).all (belowM S.length) = true then k v' (S'.take S.length) else .bad
    | none => .bad
  match evalSs C b (startP m vs) S with
  | .nx _ S' => fin .non S' .ok
  | .ret v S' => fin v S' .ok
  | .exc c a _ S' => fin a S' (.exc c)
  | _ => .bad
end Dg
end

section
set_option Elab.async false
set_option linter.all false
set_option maxRecDepth 100000
set_option maxHeartbeats 2000000
/-! DgC: the judgement TI: what evalE tells is a reading; expressions case by case. -/
namespace Dg
open PySem PySem.Spec L2
open PyProof.Rows hiding St

/-- what is fixed: the written part, the context of evaluation, where the exceptions' classes stand, their fields; the exception at hand -/
structure Xc where
  K : PySem.W.Frag
  C : Cxt
  cl : Nat → Addr
  fd : Nat → Str
  hs : Nat := 0
  pin : Addr → Nat → Addr → Prop := fun _ _ _ => False

def Good {α β : Type} (Z : Xc) (W : WX) (σ : St) (R : Wd → α → β → Prop) (w : Wd) (Q : α → Hp → Prop) : Res β → Prop
  | .ok b S' => ∀ u x, Ext w u → HRel u S' → R u x b → Q x u.H
  | .exc c a S' => ∀ u d va, Ext w u → HRel u S' → u.H d = some (.xd [(Z.fd c, va)]) → Rep u va a → ¬ u.phi d → W (.ref (Z.cl c)) (some d) σ u.H
  | .bad => False
theorem Good.mono {α β : Type} {Z : Xc} {W : WX} {σ : St} {R : Wd → α → β → Prop} {w t : Wd} {Q : α → Hp → Prop} {r : Res β} (e : Ext w t) (g : Good Z W σ R w Q r) : Good Z W σ R t Q r := by
  cases r with
  | ok b S => exact fun u x e2 => g u x (e.trans e2)
  | exc c a S => exact fun u d va e2 => g u d va (e.trans e2)
  | bad => exact g
theorem Good.bindI {α β α' γ : Type} {Z : Xc} {W : WX} {σ : St} {R : Wd → α → β → Prop} {R2 : Wd → α' → γ → Prop} {w : Wd} {Q : α' → Hp → Prop} {K : α → Hp → Prop} {r : Res β} {f : β → Store → Res γ} (g : Good Z W σ R2 w Q (r.bind f))
    (k : ∀ u x b S1, Ext w u → HRel u S1 → R u x b → Good Z W σ R2 u Q (f b S1) → K x u.H) : Good Z W σ R w K r := by
  cases r with
  | ok b S => exact fun u x e h q => k u x b S e h q (Good.mono e g)
  | exc c a S => exact g
  | bad => exact g
/-- the slots -/
def ERel (w : Wd) (σ : St) (r : PEnv) : Prop := σ.length = r.length ∧ ∀ (i : Nat) (x : PV), r[i]? = some (some x) → ∃ v, σ[i]? = some (some v) ∧ Rep w v x
theorem ERel.mono {w u : Wd} {σ : St} {r : PEnv} (e : Ext w u) (h : ERel w σ r) : ERel u σ r := ⟨h.1, fun i x q => by
  obtain ⟨v, h1, h2⟩ := h.2 i x q
  exact ⟨v, h1, h2.mono e⟩⟩
theorem ERel.set {w : Wd} {σ : St} {r : PEnv} {v : V} {x : PV} (h : ERel w σ r) (i : Nat) (q : Rep w v x) : ERel w (σ.set i (some v)) (r.set i (some x)) := by
  refine ⟨by rw [List.length_set, List.length_set]; exact h.1, fun j y hj => ?_⟩
  by_cases e : i = j
  · subst e
    have hl : i < r.length := by have z := (List.getElem?_eq_some_iff.mp hj).1; rw [List.length_set] at z; exact z
    rw [List.getElem?_set_self hl] at hj
    cases hj
    exact ⟨v, List.getElem?_set_self (by rw [h.1]; exact hl), q⟩
  · rw [List.getElem?_set_ne e] at hj
    obtain ⟨v', h1, h2⟩ := h.2 j y hj
    exact ⟨v', by rw [List.getElem?_set_ne e]; exact h1, h2⟩
theorem ERel.unset {w : Wd} {σ : St} {r : PEnv} (h : ERel w σ r) (i : Nat) (o : Option V) : ERel w (σ.set i o) (r.set i none) := by
  refine ⟨by rw [List.length_set, List.length_set]; exact h.1, fun j y hj => ?_⟩
  by_cases e : i = j
  · subst e
    have hl : i < r.length := by have z := (List.getElem?_eq_some_iff.mp hj).1; rw [List.length_set] at z; exact z
    rw [List.getElem?_set_self hl] at hj
    cases hj
  · rw [List.getElem?_set_ne e] at hj
    obtain ⟨v', h1, h2⟩ := h.2 j y hj
    exact ⟨v', by rw [List.getElem?_set_ne e]; exact h1, h2⟩
theorem ERel.wipe {w : Wd} {σ : St} {r : PEnv} (h : ERel w σ r) : ∀ vs : List Nat, ERel w (wipe σ vs) (wipeP r vs)
  | [] => h
  | v :: vs => (ERel.wipe h vs).unset v none
/-- the exception at hand -/
def HX (Z : Xc) (σ : St) (w : Wd) : Prop := match Z.C.hx with
  | none => True
  | some (c, a) => ∃ (x d : Addr) (va : V), σ[Z.hs]? = some (some (.ref x)) ∧ Z.pin x c d ∧ w.H d = some (.xd [(Z.fd c, va)]) ∧ ¬ w.phi d ∧ Rep w va a
theorem HX.mono {Z : Xc} {σ : St} {w u : Wd} (e : Ext w u) (h : HX Z σ w) : HX Z σ u := by
  unfold HX at h ⊢
  cases q : Z.C.hx with
  | none => trivial
  | some p =>
    obtain ⟨c, a⟩ := p
    rw [q] at h
    obtain ⟨x, d, va, h1, h2, h3, h4, h5⟩ := h
    exact ⟨x, d, va, h1, h2, e.keep _ _ h3 h4, e.phi_back h3 h4, h5.mono e⟩
/-- where one stands, ahead of a piece of code -/
structure At (Z : Xc) (σ : St) (H : Hp) (w : Wd) (r : PEnv) (S : Store) : Prop where
  H : w.H = H
  K : w.K = Z.K
  e : ERel w σ r
  h : HRel w S
  x : HX Z σ w
theorem At.next {Z : Xc} {σ : St} {H : Hp} {w u : Wd} {r : PEnv} {S S' : Store} (a : At Z σ H w r S) (e : Ext w u) (h : HRel u S') : At Z σ u.H u r S' :=
  ⟨rfl, e.k.trans a.K, a.e.mono e, h, a.x.mono e⟩

def TI (Z : Xc) (W : WX) (m : ME) : TE := fun σ H Q => ∃ w r S, At Z σ H w r S ∧ Good Z W σ Rep w Q (evalE Z.C m r S)
def TIT (Z : Xc) (W : WX) (m : ME) : TT := fun σ H Q => ∃ w r S, At Z σ H w r S ∧ Good Z W σ (fun _ b b' => b = b') w Q (evalT Z.C m r S)
def TIA (Z : Xc) (W : WX) (m : MEs) : TA := fun σ H Q => ∃ w r S, At Z σ H w r S ∧ Good Z W σ Reps w Q (evalEs Z.C m r S)
def TIO (Z : Xc) (W : WX) (m : MEo) : TO := fun σ H Q => ∃ w r S, At Z σ H w r S ∧ Good Z W σ (fun _ b b' => b = b') w Q (evalO Z.C m r S)

theorem _root_.L2.PE.imp {X : Cx} {e : Expr} {t t' : TE} (h : PE X e t) (i : ∀ σ H Q, t' σ H Q → t σ H Q) : PE X e t' := ⟨fun pins s σ H Q I q => h.run pins s σ H Q I (i σ H Q q)⟩
theorem _root_.L2.PT.imp {X : Cx} {e : Expr} {t t' : TT} (h : PT X e t) (i : ∀ σ H Q, t' σ H Q → t σ H Q) : PT X e t' := ⟨fun pins s σ H Q I q => h.run pins s σ H Q I (i σ H Q q)⟩
theorem _root_.L2.PW.imp {X : Cx} {e : Expr} {t t' : TT} (h : PW X e t) (i : ∀ σ H Q, t' σ H Q → t σ H Q) : PW X e t' := ⟨fun wh pins s σ H Q I q => h.run wh pins s σ H Q I (i σ H Q q)⟩
theorem _root_.L2.PA.imp {X : Cx} {e : List Expr} {t t' : TA} (h : PA X e t) (i : ∀ σ H Q, t' σ H Q → t σ H Q) : PA X e t' := ⟨fun pos pins s σ H Q I q => h.run pos pins s σ H Q I (i σ H Q q)⟩
theorem _root_.L2.PO.imp {X : Cx} {e : Option Expr} {t t' : TO} (h : PO X e t) (i : ∀ σ H Q, t' σ H Q → t σ H Q) : PO X e t' := ⟨fun pins s σ H Q I q => h.run pins s σ H Q I (i σ H Q q)⟩
theorem _root_.L2.OpR.imp {X : Cx} {f : Value → Value → Sem Value} {r r' : R2} (h : OpR X f r) (i : ∀ x y H Q, r' x y H Q → r x y H Q) : OpR X f r' := fun pins s σ H x y v u Q I rx ry q => h pins s σ H x y v u Q I rx ry (i x y H Q q)

/-- no exception: the plain end -/
def GoodN {α β : Type} (R : Wd → α → β → Prop) (w : Wd) (Q : α → Hp → Prop) : Res β → Prop
  | .ok b S' => ∀ u x, Ext w u → HRel u S' → R u x b → Q x u.H
  | _ => False
theorem Good.n {α β : Type} {Z : Xc} {W : WX} {σ : St} {R : Wd → α → β → Prop} {w : Wd} {Q : α → Hp → Prop} {r : Res β} (g : Good Z W σ R w Q r) (h : ∀ c a S, r ≠ .exc c a S) : GoodN R w Q r := by
  cases r with
  | ok b S => exact g
  | exc c a S => exact absurd rfl (h c a S)
  | bad => exact g
/-- an operator by plain values -/
def rg (K : PySem.W.Frag) (g : PV → PV → Store → Res PV) : R2 := fun x y H Q => ∃ w S px py, w.H = H ∧ w.K = K ∧ HRel w S ∧ Rep w x px ∧ Rep w y py ∧ GoodN Rep w Q (g px py S)

section
variable {X : Cx} {Z : Xc} {W : WX} {a b c e : Expr} {ma mb mc : ME} {pos : Pos}
theorem snd_var {i : Nat} {x : Str} (hN : X.N[i]? = some x) (hv : Vis X.env.scope x) (hd : (x == ("__debug__" : Str)) = false) (hcd : (x == ("__classdict__" : Str)) = false) : PE X (.Name x pos) (TI Z W (.var i)) := by
  refine (pe_var hN hv hd hcd).imp fun σ H Q h => ?_
  obtain ⟨w, r, S, at_, g⟩ := h
  unfold evalE at g
  cases q : r[i]? with
  | none => rw [q] at g; exact g.elim
  | some o =>
    cases o with
    | none => rw [q] at g; exact g.elim
    | some x =>
      rw [q] at g
      obtain ⟨v, h1, h2⟩ := at_.e.2 i x q
      exact ⟨v, h1, by rw [← at_.H]; exact g w v (Ext.refl w) at_.h h2⟩
theorem snd_k {v : V} {p : PV} {e : Expr} (h : PE X e (tC v)) (hr : ∀ w : Wd, w.K = Z.K → Rep w v p) : PE X e (TI Z W (.k p)) := by
  refine h.imp fun σ H Q h => ?_
  obtain ⟨w, r, S, at_, g⟩ := h
  unfold evalE at g
  show Q v H
  rw [← at_.H]
  exact g w v (Ext.refl w) at_.h (hr w at_.K)
theorem snd_bin {op : Operator} {o : O2} (ho : OpR X (binaryOp op) (rg Z.K (op2 o))) (hx : ∀ x y S c a S', op2 o x y S ≠ .exc c a S') (ha : PE X a (TI Z W ma)) (hb : PE X b (TI Z W mb)) :
    PE X (.BinOp a op b pos) (TI Z W (.bin o ma mb)) := by
  refine (pe_op ho ha hb).imp fun σ H Q h => ?_
  obtain ⟨w, r, S, at_, g⟩ := h
  unfold evalE at g
  refine ⟨w, r, S, at_, g.bindI fun u x p S1 e1 h1 r1 g1 => ?_⟩
  refine ⟨u, r, S1, at_.next e1 h1, g1.bindI fun t y q S2 e2 h2 r2 g2 => ?_⟩
  exact ⟨t, S2, p, q, rfl, e2.k.trans (e1.k.trans at_.K), h2, r1.mono e2, r2, g2.n (hx _ _ _)⟩
theorem snd_cmp {op : CmpOp} {o : O2} (ho : OpR X (compareOp op) (rg Z.K (op2 o))) (hx : ∀ x y S c a S', op2 o x y S ≠ .exc c a S') (ha : PE X a (TI Z W ma)) (hb : PE X b (TI Z W mb)) (hm : behindInMarks op b = false) :
    PE X (.Compare a [op] [b] pos) (TI Z W (.bin o ma mb)) := by
  refine (pe_cmpR ho ha hb hm).imp fun σ H Q h => ?_
  obtain ⟨w, r, S, at_, g⟩ := h
  unfold evalE at g
  refine ⟨w, r, S, at_, g.bindI fun u x p S1 e1 h1 r1 g1 => ?_⟩
  refine ⟨u, r, S1, at_.next e1 h1, g1.bindI fun t y q S2 e2 h2 r2 g2 => ?_⟩
  exact ⟨t, S2, p, q, rfl, e2.k.trans (e1.k.trans at_.K), h2, r1.mono e2, r2, g2.n (hx _ _ _)⟩
/-- a comparison gives a truth value -/
def Bo (o : O2) : Prop := ∀ x y S v S', op2 o x y S = .ok v S' → ∃ k, v = .bl k
theorem tru_bl {b : Bool} {S : Store} : truP (.bl b) S = some b := rfl
theorem Rep.of_bl {w : Wd} {v : V} {k : Bool} (h : Rep w v (.bl k)) : v = .bl k := by cases h; rfl
theorem Res.bind_assoc {α β γ : Type} {r : Res α} {f : α → Store → Res β} {g : β → Store → Res γ} : (r.bind f).bind g = r.bind fun x S => (f x S).bind g := by cases r <;> rfl
/-- what a value tells as a test -/
def truR (x : PV) (S : Store) : Res Bool := match truP x S with
  | some t => .ok t S
  | none => .bad
theorem truR_bl {b : Bool} {S : Store} : truR (.bl b) S = .ok b S := rfl
theorem Good.test {Z : Xc} {W : WX} {σ : St} {w : Wd} {Q : Bool → Hp → Prop} {o : O2} {p q : PV} {S : Store} (hx : ∀ c a S', op2 o p q S ≠ .exc c a S') (hbo : Bo o) (g : Good Z W σ (fun _ b b' => b = b') w Q ((op2 o p q S).bind truR)) :
    GoodN Rep w (fun z H' => ∃ k, z = V.bl k ∧ Q k H') (op2 o p q S) := by
  cases e : op2 o p q S with
  | bad => rw [e] at g; exact g.elim
  | exc c a S' => exact absurd e (hx c a S')
  | ok v S' =>
    obtain ⟨k, rfl⟩ := hbo _ _ _ _ _ e
    rw [e] at g
    exact fun u z e1 h1 r1 => ⟨k, r1.of_bl, g u k e1 h1 rfl⟩
theorem evalT_bin {C : Cxt} {o : O2} {r : PEnv} {S : Store} : evalT C (.bin o ma mb) r S = (evalE C (.bin o ma mb) r S).bind truR := by
  rw [evalT] <;> first | rfl | (intros; rintro ⟨⟩) | (rintro _ _ _ ⟨⟩) | (intros; rename_i h; cases h)
theorem snd_cmpT {op : CmpOp} {o : O2} (ho : OpR X (compareOp op) (rg Z.K (op2 o))) (hx : ∀ x y S c a S', op2 o x y S ≠ .exc c a S') (hbo : Bo o) (ha : PE X a (TI Z W ma)) (hb : PE X b (TI Z W mb)) (hm : behindInMarks op b = false) :
    PT X (.Compare a [op] [b] pos) (TIT Z W (.bin o ma mb)) := by
  refine (pt_cmpR ho ha hb hm).imp fun σ H Q h => ?_
  obtain ⟨w, r, S, at_, g⟩ := h
  rw [evalT_bin, evalE, Res.bind_assoc] at g
  refine ⟨w, r, S, at_, g.bindI fun u x p S1 e1 h1 r1 g1 => ?_⟩
  rw [Res.bind_assoc] at g1
  refine ⟨u, r, S1, at_.next e1 h1, g1.bindI fun t y q S2 e2 h2 r2 g2 => ?_⟩
  exact ⟨t, S2, p, q, rfl, e2.k.trans (e1.k.trans at_.K), h2, r1.mono e2, r2, g2.test (hx _ _ _) hbo⟩
/-! ### and, or, not -/
theorem evalT_and {C : Cxt} {r : PEnv} {S : Store} : evalT C (.and_ ma mb) r S = (evalT C ma r S).bind fun t S1 => if t = true then evalT C mb r S1 else .ok false S1 := by rw [evalT]
theorem evalT_or {C : Cxt} {r : PEnv} {S : Store} : evalT C (.or_ ma mb) r S = (evalT C ma r S).bind fun t S1 => if t = true then .ok true S1 else evalT C mb r S1 := by rw [evalT]
theorem evalT_not {C : Cxt} {r : PEnv} {S : Store} : evalT C (.not_ ma) r S = (evalT C ma r S).bind fun t S1 => .ok (!t) S1 := by rw [evalT]
theorem evalT_ite {C : Cxt} {r : PEnv} {S : Store} : evalT C (.ite ma mb mc) r S = (evalT C ma r S).bind fun t S1 => if t = true then evalT C mb r S1 else evalT C mc r S1 := by rw [evalT]
theorem snd_andT {rest : List Expr} (ha : PT X a (TIT Z W ma)) (hb : PW X (.BoolOp .And (b :: rest) pos) (TIT Z W mb)) : PW X (.BoolOp .And (a :: b :: rest) pos) (TIT Z W (.and_ ma mb)) := by
  refine (pw_and ha hb).imp fun σ H Q h => ?_
  obtain ⟨w, r, S, at_, g⟩ := h
  rw [evalT_and] at g
  refine ⟨w, r, S, at_, g.bindI fun u x p S1 e1 h1 r1 g1 => ?_⟩
  subst r1
  cases x with
  | true => exact ⟨u, r, S1, at_.next e1 h1, g1⟩
  | false => exact g1 u false (Ext.refl u) h1 rfl
theorem snd_orT {rest : List Expr} (ha : PT X a (TIT Z W ma)) (hb : PW X (.BoolOp .Or (b :: rest) pos) (TIT Z W mb)) : PW X (.BoolOp .Or (a :: b :: rest) pos) (TIT Z W (.or_ ma mb)) := by
  refine (pw_or ha hb).imp fun σ H Q h => ?_
  obtain ⟨w, r, S, at_, g⟩ := h
  rw [evalT_or] at g
  refine ⟨w, r, S, at_, g.bindI fun u x p S1 e1 h1 r1 g1 => ?_⟩
  subst r1
  cases x with
  | false => exact ⟨u, r, S1, at_.next e1 h1, g1⟩
  | true => exact g1 u true (Ext.refl u) h1 rfl
theorem snd_notT (ha : PT X a (TIT Z W ma)) : PT X (.UnaryOp .Not a pos) (TIT Z W (.not_ ma)) := by
  refine (pt_not ha).imp fun σ H Q h => ?_
  obtain ⟨w, r, S, at_, g⟩ := h
  rw [evalT_not] at g
  refine ⟨w, r, S, at_, g.bindI fun u x p S1 e1 h1 r1 g1 => ?_⟩
  subst r1
  exact g1 u _ (Ext.refl u) h1 rfl
theorem snd_and {rest : List Expr} (ha : PE X a (TI Z W ma)) (hb : PE X (.BoolOp .And (b :: rest) pos) (TI Z W mb)) : PE X (.BoolOp .And (a :: b :: rest) pos) (TI Z W (.and_ ma mb)) := by
  refine (pe_and ha hb).imp fun σ H Q h => ?_
  obtain ⟨w, r, S, at_, g⟩ := h
  rw [evalE] at g
  refine ⟨w, r, S, at_, g.bindI fun u x p S1 e1 h1 r1 g1 => ?_⟩
  cases p with
  | bl k =>
    cases r1
    refine ⟨k, rfl, ?_⟩
    cases k with
    | true => exact ⟨u, r, S1, at_.next e1 h1, g1⟩
    | false => exact g1 u _ (Ext.refl u) h1 (.bl false)
  | _ => exact g1.elim
theorem snd_or {rest : List Expr} (ha : PE X a (TI Z W ma)) (hb : PE X (.BoolOp .Or (b :: rest) pos) (TI Z W mb)) : PE X (.BoolOp .Or (a :: b :: rest) pos) (TI Z W (.or_ ma mb)) := by
  refine (pe_or ha hb).imp fun σ H Q h => ?_
  obtain ⟨w, r, S, at_, g⟩ := h
  rw [evalE] at g
  refine ⟨w, r, S, at_, g.bindI fun u x p S1 e1 h1 r1 g1 => ?_⟩
  cases p with
  | bl k =>
    cases r1
    refine ⟨k, rfl, ?_⟩
    cases k with
    | false => exact ⟨u, r, S1, at_.next e1 h1, g1⟩
    | true => exact g1 u _ (Ext.refl u) h1 (.bl true)
  | _ => exact g1.elim
theorem snd_not (ha : PE X a (TI Z W ma)) : PE X (.UnaryOp .Not a pos) (TI Z W (.not_ ma)) := by
  refine (pe_not ha).imp fun σ H Q h => ?_
  obtain ⟨w, r, S, at_, g⟩ := h
  rw [evalE] at g
  refine ⟨w, r, S, at_, g.bindI fun u x p S1 e1 h1 r1 g1 => ?_⟩
  cases p with
  | bl k =>
    cases r1
    exact ⟨k, rfl, g1 u _ (Ext.refl u) h1 (.bl _)⟩
  | _ => exact g1.elim
theorem snd_ite (hc : PT X c (TIT Z W mc)) (ha : PE X a (TI Z W ma)) (hb : PE X b (TI Z W mb)) : PE X (.IfExp c a b pos) (TI Z W (.ite mc ma mb)) := by
  refine (pe_ifExp hc ha hb).imp fun σ H Q h => ?_
  obtain ⟨w, r, S, at_, g⟩ := h
  rw [evalE] at g
  refine ⟨w, r, S, at_, g.bindI fun u x p S1 e1 h1 r1 g1 => ?_⟩
  subst r1
  cases x with
  | true => exact ⟨u, r, S1, at_.next e1 h1, g1⟩
  | false => exact ⟨u, r, S1, at_.next e1 h1, g1⟩
/-- a value as a test -/
theorem truV {w : Wd} {S : Store} {v : V} {p : PV} {t : Bool} (hr : HRel w S) (r : Rep w v p) (h : truP p S = some t) : TruV w.K v w.H t := by
  cases r with
  | non => cases h; exact rfl
  | bl b => cases h; exact rfl
  | int i => cases h; exact rfl
  | str x =>
    unfold truP at h
    dsimp only at h
    split at h
    · rename_i hz
      cases h
      exact ⟨hz, rfl⟩
    · cases h
  | ty n => cases h
  | tup q rs =>
    cases h
    refine .inr (.inl ⟨_, q.sq, ?_⟩)
    cases rs <;> rfl
  | lst q rs =>
    cases h
    refine .inl ⟨_, .inl q.1, ?_⟩
    cases rs <;> rfl
  | scr q rs =>
    cases h
    refine .inl ⟨_, q.sq, ?_⟩
    cases rs <;> rfl
  | @ref a n q =>
    unfold truP at h
    dsimp only at h
    split at h
    · rename_i xs e
      cases h
      obtain ⟨a', h1, vs, h2, h3⟩ := hr.at_ e
      rw [q] at h1; cases h1
      refine .inl ⟨vs, SqL.of h2, ?_⟩
      cases h3 <;> rfl
    · cases h
theorem evalT_truth {C : Cxt} {m : ME} {r : PEnv} {S : Store} (h1 : ∀ a b, m ≠ .and_ a b) (h2 : ∀ a b, m ≠ .or_ a b) (h3 : ∀ a, m ≠ .not_ a) (h4 : ∀ a b c, m ≠ .ite a b c) : evalT C m r S = (evalE C m r S).bind truR := by
  cases m with
  | and_ a b => exact absurd rfl (h1 a b)
  | or_ a b => exact absurd rfl (h2 a b)
  | not_ a => exact absurd rfl (h3 a)
  | ite a b c => exact absurd rfl (h4 a b c)
  | _ => rw [evalT] <;> first | rfl | (intros; rintro ⟨⟩) | (rintro _ _ _ ⟨⟩) | (intros; rename_i h; cases h)
theorem snd_truth (ha : PE X a (TI Z W ma)) (he : ∀ whole, isTrue a X.env whole = (do let v ← whole; standAt a.pos; holding [v] (truthy v))) (hK : Z.K = X.K)
    (h1 : ∀ a b, ma ≠ .and_ a b) (h2 : ∀ a b, ma ≠ .or_ a b) (h3 : ∀ a, ma ≠ .not_ a) (h4 : ∀ a b c, ma ≠ .ite a b c) : PT X a (TIT Z W ma) := by
  refine (pt_truth ha he).imp fun σ H Q h => ?_
  obtain ⟨w, r, S, at_, g⟩ := h
  rw [evalT_truth h1 h2 h3 h4] at g
  refine ⟨w, r, S, at_, g.bindI fun u x p S1 e1 hr1 r1 g1 => ?_⟩
  unfold truR at g1
  cases q : truP p S1 with
  | none => rw [q] at g1; exact g1.elim
  | some t =>
    rw [q] at g1
    have k := truV hr1 r1 q
    rw [e1.k.trans (at_.K.trans hK)] at k
    exact ⟨t, k, g1 u t (Ext.refl u) hr1 rfl⟩
/-! ### displays, arguments -/
theorem snd_anil : PA X [] (TIA Z W .nil) := by
  refine pa_nil.imp fun σ H Q h => ?_
  obtain ⟨w, r, S, at_, g⟩ := h
  rw [evalEs] at g
  show Q [] H
  rw [← at_.H]
  exact g w [] (Ext.refl w) at_.h .nil
theorem snd_acons {es : List Expr} {ms : MEs} (ha : PE X a (TI Z W ma)) (hb : PA X es (TIA Z W ms)) (hs : starEach (a :: es) X.env = (false, eval a X.env) :: starEach es X.env) : PA X (a :: es) (TIA Z W (.cons ma ms)) := by
  refine (pa_cons ha hb hs).imp fun σ H Q h => ?_
  obtain ⟨w, r, S, at_, g⟩ := h
  rw [evalEs] at g
  refine ⟨w, r, S, at_, g.bindI fun u x p S1 e1 h1 r1 g1 => ?_⟩
  refine ⟨u, r, S1, at_.next e1 h1, g1.bindI fun t y q S2 e2 h2 r2 g2 => ?_⟩
  exact g2 t _ (Ext.refl t) h2 (.cons (r1.mono e2) r2)
theorem snd_tup {es : List Expr} {ms : MEs} {x1} (ha : PA X es (TIA Z W ms)) : PE X (.Tuple es x1 pos) (TI Z W (.tup ms)) := by
  refine (pe_tup ha).imp fun σ H Q h => ?_
  obtain ⟨w, r, S, at_, g⟩ := h
  rw [evalE] at g
  refine ⟨w, r, S, at_, g.bindI fun u x p S1 e1 h1 r1 g1 => ?_⟩
  split at g1
  · rename_i hz
    refine ⟨by rw [r1.length]; exact hz, fun l hl => ?_⟩
    obtain ⟨h2, e2, r2⟩ := h1.newT hl r1
    exact g1 _ _ e2 h2 r2
  · exact g1.elim
theorem snd_lst {es : List Expr} {ms : MEs} (ha : PA X es (TIA Z W ms)) : PE X (.List es pos) (TI Z W (.lst ms)) := by
  refine (pe_lst ha).imp fun σ H Q h => ?_
  obtain ⟨w, r, S, at_, g⟩ := h
  rw [evalE] at g
  refine ⟨w, r, S, at_, g.bindI fun u x p S1 e1 h1 r1 g1 => ?_⟩
  split at g1
  · rename_i hz
    refine ⟨by rw [r1.length]; exact hz, fun l hl => ?_⟩
    obtain ⟨h2, e2, r2⟩ := h1.newL hl r1
    exact g1 _ _ e2 h2 r2
  · exact g1.elim
theorem snd_lstR {es : List Expr} {ms : MEs} (ha : PA X es (TIA Z W ms)) : PE X (.List es pos) (TI Z W (.lstR ms)) := by
  refine (pe_lst ha).imp fun σ H Q h => ?_
  obtain ⟨w, r, S, at_, g⟩ := h
  rw [evalE] at g
  refine ⟨w, r, S, at_, g.bindI fun u x p S1 e1 h1 r1 g1 => ?_⟩
  split at g1
  · rename_i hz
    refine ⟨by rw [r1.length]; exact hz, fun l hl => ?_⟩
    obtain ⟨h2, e2, r2⟩ := h1.addL hl r1
    exact g1 _ _ e2 h2 r2
  · exact g1.elim
end
end Dg
end

section
set_option Elab.async false
set_option linter.all false
set_option maxRecDepth 100000
set_option maxHeartbeats 4000000
/-! DgD: the operators by plain values. -/
namespace Dg
open PySem PySem.Spec L2
open PyProof.Rows hiding St

/-- a raised exception never comes out of an operation on values -/
theorem op2_noexc (o : O2) (x y : PV) (S : Store) (c : Nat) (a : PV) (S' : Store) : op2 o x y S ≠ .exc c a S' := by
  intro h
  cases o <;> simp only [op2, addP, mulP, eqD, cmpI, inP, deepP, ixP, okI, okB] at h <;> (repeat' split at h) <;> cases h
theorem bo_of {o : O2} (h : o = .eq ∨ o = .ne ∨ o = .lt ∨ o = .le ∨ o = .gt ∨ o = .ge ∨ o = .inn ∨ o = .nin) : Bo o := by
  intro x y S v S' e
  rcases h with rfl | rfl | rfl | rfl | rfl | rfl | rfl | rfl <;> simp only [op2, eqD, cmpI, inP, deepP, okB] at e <;> (repeat' split at e) <;> first | (cases e; exact ⟨_, rfl⟩) | cases e

theorem lstOf_sq {w : Wd} {S : Store} {v : V} {p : PV} {xs : List PV} (hr : HRel w S) (r : Rep w v p) (h : lstOf p S = some xs) : ∃ a vs, v = .ref a ∧ Rd w.H a (.lst vs) ∧ Reps w vs xs := by
  cases r with
  | lst q rs => cases h; exact ⟨_, _, rfl, q.1, rs⟩
  | @ref a n q =>
    unfold lstOf at h
    dsimp only at h
    split at h
    · rename_i e
      cases h
      obtain ⟨a', h1, vs, h2, h3⟩ := hr.at_ e
      rw [q] at h1; cases h1
      exact ⟨_, _, rfl, .inl h2, h3⟩
    · cases h
  | _ => cases h
theorem seqOf_sq {w : Wd} {S : Store} {v : V} {p : PV} {xs : List PV} (hr : HRel w S) (r : Rep w v p) (h : seqOf p S = some xs) : ∃ a vs, v = .ref a ∧ (SqL w.K w.H a vs ∨ SqT w.K w.H a vs) ∧ Reps w vs xs := by
  cases r with
  | lst q rs => cases h; exact ⟨_, _, rfl, .inl (.inl q.1), rs⟩
  | scr q rs => cases h; exact ⟨_, _, rfl, .inl q.sq, rs⟩
  | tup q rs => cases h; exact ⟨_, _, rfl, .inr q.sq, rs⟩
  | @ref a n q =>
    unfold seqOf at h
    dsimp only at h
    split at h
    · rename_i e
      cases h
      obtain ⟨a', h1, vs, h2, h3⟩ := hr.at_ e
      rw [q] at h1; cases h1
      exact ⟨_, _, rfl, .inl (.inl (.inl h2)), h3⟩
    · cases h
  | _ => cases h
/-! ### data -/
mutual
theorem Rep.toD {w : Wd} {S : Store} : ∀ {v : V} {p : PV} {d : PyData}, Rep w v p → toD S p = some d → Dp w.K w.H v d
  | _, .non, _, .non, h => by cases h; exact .non
  | _, .bl b, _, .bl _, h => by cases h; exact .bl b
  | _, .int i, _, .int _, h => by cases h; exact .int i
  | _, .str x, _, .str _, h => by cases h; exact .str x
  | _, .tup xs, _, .tup q rs, h => by
    unfold Dg.toD at h
    cases e : toDs S xs with
    | none => rw [e] at h; cases h
    | some ds => rw [e] at h; cases h; exact .tup q.sq (Reps.toDs rs e)
  | _, .lst xs, _, .lst q rs, h => by
    unfold Dg.toD at h
    cases e : toDs S xs with
    | none => rw [e] at h; cases h
    | some ds => rw [e] at h; cases h; exact .lst (.inl q.1) (Reps.toDs rs e)
  | _, .ref _, _, _, h => by unfold Dg.toD at h; cases h
  | _, .ty _, _, _, h => by unfold Dg.toD at h; cases h
  | _, .scr _, _, _, h => by unfold Dg.toD at h; cases h
theorem Reps.toDs {w : Wd} {S : Store} : ∀ {vs : List V} {xs : List PV} {ds : List PyData}, Reps w vs xs → toDs S xs = some ds → DpAll w.K w.H vs ds
  | _, [], _, .nil, h => by cases h; exact .nil
  | _, x :: xs, _, .cons q rs, h => by
    unfold Dg.toDs at h
    cases e1 : Dg.toD S x with
    | none => rw [e1] at h; cases h
    | some d =>
      cases e2 : toDs S xs with
      | none => rw [e1, e2] at h; cases h
      | some es => rw [e1, e2] at h; cases h; exact .cons (Rep.toD q e1) (Reps.toDs rs e2)
end
theorem Rep.toD1 {w : Wd} {S : Store} {v : V} {p : PV} {d : PyData} (hr : HRel w S) (r : Rep w v p) (h : toD1 S p = some d) : Dp w.K w.H v d := by
  cases r with
  | @ref a n q =>
    unfold Dg.toD1 at h
    dsimp only at h
    split at h
    · rename_i xs e
      cases e2 : toDs S xs with
      | none => rw [e2] at h; cases h
      | some ds =>
        rw [e2] at h; cases h
        obtain ⟨a', h1, vs, h2, h3⟩ := hr.at_ e
        rw [q] at h1; cases h1
        exact .lst (.inl (.inl h2)) (Reps.toDs h3 e2)
    · cases h
  | non => exact Rep.toD (S := S) .non h
  | bl b => exact Rep.toD (S := S) (.bl b) h
  | int i => exact Rep.toD (S := S) (.int i) h
  | str x => exact Rep.toD (S := S) (.str x) h
  | ty n => exact Rep.toD (S := S) (.ty n) h
  | tup q rs => exact Rep.toD (S := S) (.tup q rs) h
  | lst q rs => exact Rep.toD (S := S) (.lst q rs) h
  | scr q rs => exact Rep.toD (S := S) (.scr q rs) h

section
variable {X : Cx}
/-- list + list of any kind that is tracked -/
theorem op_catS : OpR X (binaryOp .Add) (fun x y H Q => ∃ l b xs zs, x = .ref l ∧ y = .ref b ∧ Rd H l (.lst xs) ∧ Rd H b (.lst zs) ∧ xs.length + zs.length ≤ sizeLine ∧ ∀ p, H p = none → Q (.ref p) (upd H p (.lst (xs ++ zs)))) := by
  intro pins s σ H x y v u Q I rx ry h
  obtain ⟨l, b, xs, zs, rfl, rfl, hH, hB, hz, q⟩ := h
  cases rx
  cases ry
  obtain ⟨z, its, n, r, e⟩ := hH.ok I.hok
  obtain ⟨z2, its2, n2, r2, e2⟩ := hB.ok I.hok
  have hl := r.length
  have hl2 := r2.length
  refine PySem.P.add_list e e2 ?_ (by rw [List.size_toArray, List.size_toArray]; omega)
  have ea : its.toArray ++ its2.toArray = (its ++ its2).toArray := by simp
  rw [ea]
  exact ⟨.ref _, _, I.lnew (t' := s.toks) (r.append r2) (by rw [List.length_append]; omega), rfl, q _ I.fresh⟩
theorem og_add {K : PySem.W.Frag} (hK : K = X.K) : OpR X (binaryOp .Add) (rg K (op2 .add)) := by
  intro pins s σ H x y v u Q I rx ry ⟨w, S, px, py, hw, hk, hr, r1, r2, g⟩
  subst hw
  have lists : ∀ {g : GoodN Rep w Q (match lstOf px S, lstOf py S with
      | some xs, some ys => if xs.length + ys.length ≤ sizeLine then .ok (.lst (xs ++ ys)) S else .bad
      | _, _ => .bad)}, wpAny (model X.prog X.w) X.A (binaryOp .Add v u) (EP X pins σ Q) X.xe s := fun {g} => by
    cases e1 : lstOf px S with
    | none => rw [e1] at g; exact g.elim
    | some xs =>
      cases e2 : lstOf py S with
      | none => rw [e1, e2] at g; exact g.elim
      | some ys =>
        rw [e1, e2] at g
        dsimp only at g
        split at g
        · rename_i hz
          obtain ⟨a, vs, rfl, h1, q1⟩ := lstOf_sq hr r1 e1
          obtain ⟨b, us, rfl, h2, q2⟩ := lstOf_sq hr r2 e2
          refine op_catS pins s σ _ _ _ v u Q I rx ry ⟨a, b, vs, us, rfl, rfl, h1, h2, by rw [q1.length, q2.length]; exact hz, fun p hp => ?_⟩
          obtain ⟨h3, e3, r3⟩ := hr.newL hp (q1.append q2)
          exact g _ _ e3 h3 r3
        · exact g.elim
  cases r1 with
  | int i =>
    cases r2 with
    | int j => exact op_add pins s σ _ _ _ v u Q I rx ry ⟨i, j, rfl, rfl, g w _ (Ext.refl w) hr (.int _)⟩
    | _ => exact lists (g := g)
  | str i =>
    cases r2 with
    | str j =>
      simp only [op2, addP] at g
      split at g
      · rename_i hz
        exact op_add_str pins s σ _ _ _ v u Q I rx ry ⟨i, j, rfl, rfl, hz, g w _ (Ext.refl w) hr (.str _)⟩
      · exact g.elim
    | _ => exact lists (g := g)
  | tup q1 s1 =>
    cases r2 with
    | tup q2 s2 =>
      simp only [op2, addP] at g
      split at g
      · rename_i xs ys hz
        subst hk
        rename_i vs us
        refine op_catA pins s σ _ _ _ v u Q I rx ry ⟨_, _, _, _, rfl, rfl, hK ▸ q1.sq, hK ▸ q2.sq, by rw [s1.length, s2.length]; exact hz, fun h0 => ?_, fun h0 h1 => ?_, fun _ _ p hp => ?_⟩
        · cases s1 with
          | nil => exact g w _ (Ext.refl w) hr (.tup q2 s2)
          | cons => cases h0
        · cases s2 with
          | nil => rw [List.append_nil] at g; exact g w _ (Ext.refl w) hr (.tup q1 s1)
          | cons => cases h1
        · obtain ⟨h3, e3, r3⟩ := hr.newT hp (s1.append s2)
          exact g _ _ e3 h3 r3
      · exact g.elim
    | _ => exact lists (g := g)
  | _ => exact lists (g := g)
theorem og_sub {K : PySem.W.Frag} : OpR X (binaryOp .Sub) (rg K (op2 .sub)) := by
  intro pins s σ H x y v u Q I rx ry ⟨w, S, px, py, hw, hk, hr, r1, r2, g⟩
  subst hw
  cases r1 with
  | int i =>
    cases r2 with
    | int j => exact op_sub pins s σ _ _ _ v u Q I rx ry ⟨i, j, rfl, rfl, g w _ (Ext.refl w) hr (.int _)⟩
    | _ => exact g.elim
  | _ => exact g.elim
/-- two ints under a condition -/
theorem og_int {f : Value → Value → Sem Value} {C : Int → Int → Prop} [∀ i j, Decidable (C i j)] {h : Int → Int → Int} {K : PySem.W.Frag} {o : PV → PV → Store → Res PV} (ho : OpR X f (rI C fun i j => .int (h i j)))
    (hi : ∀ i j S, o (.int i) (.int j) S = okI (C i j) (h i j) S) (hb : ∀ x y S, (∀ i j, ¬ (x = .int i ∧ y = .int j)) → o x y S = .bad) : OpR X f (rg K o) := by
  intro pins s σ H x y v u Q I rx ry ⟨w, S, px, py, hw, hk, hr, r1, r2, g⟩
  subst hw
  cases r1 with
  | int i =>
    cases r2 with
    | int j =>
      rw [hi] at g
      unfold okI at g
      split at g
      · rename_i hc
        exact ho pins s σ _ _ _ v u Q I rx ry ⟨i, j, rfl, rfl, hc, g w _ (Ext.refl w) hr (.int _)⟩
      · exact g.elim
    | _ => rw [hb _ _ _ (by rintro i j ⟨_, ⟨⟩⟩)] at g; exact g.elim
  | _ => rw [hb _ _ _ (by rintro i j ⟨⟨⟩, _⟩)] at g; exact g.elim
theorem og_fdiv {K : PySem.W.Frag} : OpR X (binaryOp .FloorDiv) (rg K (op2 .fdiv)) :=
  og_int (C := CDivW) op_fdivW (fun _ _ _ => rfl) fun x y S h => by
    cases x <;> cases y <;> first | rfl | exact absurd ⟨rfl, rfl⟩ (h _ _)
theorem og_fdivW {K : PySem.W.Frag} : OpR X (binaryOp .FloorDiv) (rg K (op2 .fdivW)) :=
  og_int (C := CDivW) op_fdivW (fun _ _ _ => rfl) fun x y S h => by
    cases x <;> cases y <;> first | rfl | exact absurd ⟨rfl, rfl⟩ (h _ _)
theorem og_mulW {K : PySem.W.Frag} : OpR X (binaryOp .Mult) (rg K (op2 .mulW)) :=
  og_int (C := CMulW) op_mulW (fun _ _ _ => rfl) fun x y S h => by
    cases x <;> cases y <;> first | rfl | exact absurd ⟨rfl, rfl⟩ (h _ _)
theorem og_mod {K : PySem.W.Frag} : OpR X (binaryOp .Mod) (rg K (op2 .mod)) :=
  og_int (C := fun _ j => 0 < j) op_mod (fun _ _ _ => rfl) fun x y S h => by
    cases x <;> cases y <;> first | rfl | exact absurd ⟨rfl, rfl⟩ (h _ _)
theorem og_pow {K : PySem.W.Frag} : OpR X (binaryOp .Pow) (rg K (op2 .pow)) :=
  og_int (C := CPow) op_pow (fun _ _ _ => rfl) fun x y S h => by
    cases x <;> cases y <;> first | rfl | exact absurd ⟨rfl, rfl⟩ (h _ _)
/-- two ints compared -/
theorem og_cmp {f : Value → Value → Sem Value} {p : Int → Int → Bool} {K : PySem.W.Frag} (ho : OpR X f (rI0 fun i j => .bl (p i j))) : OpR X f (rg K (cmpI p)) := by
  intro pins s σ H x y v u Q I rx ry ⟨w, S, px, py, hw, hk, hr, r1, r2, g⟩
  subst hw
  cases r1 with
  | int i =>
    cases r2 with
    | int j => exact ho pins s σ _ _ _ v u Q I rx ry ⟨i, j, rfl, rfl, g w _ (Ext.refl w) hr (.bl _)⟩
    | _ => exact g.elim
  | _ => exact g.elim
theorem og_lt {K : PySem.W.Frag} : OpR X (compareOp .Lt) (rg K (op2 .lt)) := og_cmp op_lt
theorem og_le {K : PySem.W.Frag} : OpR X (compareOp .LtE) (rg K (op2 .le)) := og_cmp op_le
theorem og_gt {K : PySem.W.Frag} : OpR X (compareOp .Gt) (rg K (op2 .gt)) := og_cmp op_gt
theorem og_ge {K : PySem.W.Frag} : OpR X (compareOp .GtE) (rg K (op2 .ge)) := og_cmp op_ge
theorem scal_ok {w : Wd} {x y : V} {p q : PV} (r : Rep w x p) (s : Rep w y q) (h : scalP p q = true) : scal x y = true ∧ decide (x = y) = decP p q := by
  cases r <;> cases s <;> first | (exact absurd h Bool.false_ne_true) | exact ⟨rfl, by first | rfl | exact dec_int | exact dec_bl | exact dec_str | simp [decP]⟩
theorem og_eq {K : PySem.W.Frag} (hK : K = X.K) (hu : X.A.units + 64 < cLine) : OpR X (compareOp .Eq) (rg K (op2 .eq)) := by
  intro pins s σ H x y v u Q I rx ry ⟨w, S, px, py, hw, hk, hr, r1, r2, g⟩
  subst hw
  simp only [op2, eqD] at g
  by_cases hsc : scalP px py = true
  · obtain ⟨sc1, sc2⟩ := scal_ok r1 r2 hsc
    rw [if_pos hsc] at g
    exact op_eq pins s σ _ _ _ v u Q I rx ry ⟨sc1, by rw [sc2]; exact g w _ (Ext.refl w) hr (.bl _)⟩
  rw [if_neg hsc] at g
  cases e1 : toD1 S px with
  | none => rw [e1] at g; exact g.elim
  | some d =>
    cases e2 : toD1 S py with
    | none => rw [e1, e2] at g; exact g.elim
    | some e =>
      rw [e1, e2] at g
      dsimp only at g
      split at g
      · rename_i hs
        have h1 := r1.toD1 hr e1
        have h2 := r2.toD1 hr e2
        rw [hk.trans hK] at h1 h2
        exact op_eqD hu pins s σ _ _ _ v u Q I rx ry ⟨d, e, h1, h2, hs.1, hs.2, g w _ (Ext.refl w) hr (.bl _)⟩
      · exact g.elim
theorem og_ne {K : PySem.W.Frag} (hK : K = X.K) (hu : X.A.units + 64 < cLine) : OpR X (compareOp .NotEq) (rg K (op2 .ne)) := by
  intro pins s σ H x y v u Q I rx ry ⟨w, S, px, py, hw, hk, hr, r1, r2, g⟩
  subst hw
  simp only [op2, eqD] at g
  by_cases hsc : scalP px py = true
  · obtain ⟨sc1, sc2⟩ := scal_ok r1 r2 hsc
    rw [if_pos hsc] at g
    exact op_ne pins s σ _ _ _ v u Q I rx ry ⟨sc1, by rw [sc2]; exact g w _ (Ext.refl w) hr (.bl _)⟩
  rw [if_neg hsc] at g
  cases e1 : toD1 S px with
  | none => rw [e1] at g; exact g.elim
  | some d =>
    cases e2 : toD1 S py with
    | none => rw [e1, e2] at g; exact g.elim
    | some e =>
      rw [e1, e2] at g
      dsimp only at g
      split at g
      · rename_i hs
        have h1 := r1.toD1 hr e1
        have h2 := r2.toD1 hr e2
        rw [hk.trans hK] at h1 h2
        exact op_neD hu pins s σ _ _ _ v u Q I rx ry ⟨d, e, h1, h2, hs.1, hs.2, g w _ (Ext.refl w) hr (.bl _)⟩
      · exact g.elim
end
end Dg
end

section
set_option Elab.async false
set_option linter.all false
set_option maxRecDepth 100000
set_option maxHeartbeats 4000000
/-! DgE: more operators, built-in functions and methods by plain values. -/
namespace Dg
open PySem PySem.Spec L2
open PyProof.Rows hiding St

section
variable {X : Cx}
/-- tuple * int, any size that fits -/
theorem op_repT2 : OpR X (binaryOp .Mult) (fun x y H Q => ∃ l k xs, x = .ref l ∧ y = .int k ∧ SqT X.K H l xs ∧ xs ≠ [] ∧ 2 ≤ k ∧ (xs.length : Int) * k ≤ 10000000 ∧ ∀ p, H p = none → Q (.ref p) (upd H p (.tup (List.replicate k.toNat xs).flatten))) := by
  intro pins s σ H x y v u Q I rx ry h
  obtain ⟨l, k, xs, rfl, rfl, hT, hne, h1, hz, q⟩ := h
  cases rx
  obtain ⟨t, rfl⟩ := ry
  obtain ⟨its, r, ⟨⟨cls, dd, data, sl⟩, ho, hc, n, hd⟩, hs⟩ := I.tuple hT
  simp only at hc hd
  subst hc hd
  have hle : its.length = xs.length := r.length.symm
  have hn : its ≠ [] := fun e => hne (by
    rw [e] at hle
    exact List.eq_nil_of_length_eq_zero hle.symm)
  have hi : its.toArray.isEmpty = false := by
    cases its with
    | nil => exact absurd rfl hn
    | cons a b => rfl
  have hsz0 : its.toArray.size = xs.length := by rw [List.size_toArray, hle]
  have hm : ((its.toArray.size : Nat) : Int) * k ≤ 10000000 := by rw [hsz0]; exact hz
  have hnat : k.toNat * xs.length ≤ 10000000 := by
    have e1 : ((k.toNat * xs.length : Nat) : Int) = (xs.length : Int) * k := by
      rw [Int.natCast_mul, Int.toNat_of_nonneg (by omega), Int.mul_comm]
    omega
  have hk : k ≤ 10000000 := by
    have l1 : 1 ≤ (xs.length : Int) := by
      have : 0 < xs.length := List.length_pos_iff.mpr hne
      omega
    have a1 : 1 * k ≤ (xs.length : Int) * k := Int.mul_le_mul_of_nonneg_right l1 (by omega)
    omega
  have flen : (List.replicate k.toNat its).flatten.length ≤ sizeLine := by
    rw [PyProof.Rows.lm_len_rep_flat, hle, sizeLine_eq]
    omega
  have c0 : (decide (k < -(2 ^ 63)) || decide (k ≥ 2 ^ 63)) = false := by
    rw [decide_eq_false (by omega), decide_eq_false (by omega)] <;> rfl
  have c1 : (its.toArray.isEmpty || k == 1) = false := by
    rw [hi, Bool.false_or]
    exact beq_eq_false_iff_ne.mpr (by omega)
  have c2 : (decide (k ≤ 0) || its.toArray.isEmpty) = false := by
    rw [hi, Bool.or_false]
    exact decide_eq_false (by omega)
  have c4 : Builtin.Tuple.tupleTooMany (((its.toArray.size : Nat) : Int) * k) = false := by
    unfold Builtin.Tuple.tupleTooMany
    rw [sizeLine_eq]
    exact decide_eq_false (by omega)
  refine wpAny_binaryOp_repeat_ref (T := "tuple") (U := "int") (by decide) ⟨_, ho, rfl⟩ (fun s' => typeIs_int s' k t) noFill_tuple_mul F.fills_int_mul F.slot_int_rmul repeat_tuple F.slot_int_index.lookup
    (call_meets F.slot_int_rmul (typeIs_int s k t) F.entry_int_rmul (F.args_int_rmul_2 _ _) (int_rmul_tuple k t l its.toArray n dd sl)
      ⟨ho, rfl, ⟨_, ho, rfl⟩, call_meets F.slot_tuple_mul ⟨_, ho, rfl⟩ F.entry_tuple_mul (F.args_tuple_mul_2 _ _) (tuple_mulW l its.toArray n dd sl k t c0 c1 c2 (by omega) c4 (by rw [size_rep, List.size_toArray]; exact flen)) ⟨ho, ?_⟩⟩)
  rw [size_rep]
  refine ⟨.ref s.heap.objs.size, _, I.laid (t' := s.toks) (o := .tup (List.replicate k.toNat xs).flatten) (fun b ob q => Heap.get?_push_of_some _ q) (Nat.le_refl _) ?_, rfl, q _ (I.hok.fresh (Nat.le_refl _))⟩
  exact ⟨by rw [PyProof.Rows.lm_len_rep_flat, sizeLine_eq]; omega, _, r.rep k.toNat, IsTup.new _ _⟩
theorem Reps.rep {w : Wd} {vs : List V} {xs : List PV} (h : Reps w vs xs) : ∀ k : Nat, Reps w (List.replicate k vs).flatten (List.replicate k xs).flatten
  | 0 => .nil
  | k + 1 => by
    rw [List.replicate_succ, List.replicate_succ, List.flatten_cons, List.flatten_cons]
    exact h.append (Reps.rep h k)
/-- a sign times a number -/
theorem op_repS : OpR X (binaryOp .Mult) (fun x y H Q => ∃ a k, x = .str a ∧ y = .int k ∧ a.length = 1 ∧ 2 ≤ k ∧ k ≤ 100000 ∧ Q (.str ⟨(List.replicate k.toNat a.cps.toList).flatten.toArray⟩) H) := by
  intro pins s σ H x y v u Q I rx ry h
  obtain ⟨a, k, rfl, rfl, ha, h0, hk, q⟩ := h
  obtain ⟨t, rfl⟩ := rx
  obtain ⟨t', rfl⟩ := ry
  have c0 : (decide (k < -(2 ^ 63 : Int)) || decide (k ≥ 2 ^ 63)) = false := by
    rw [decide_eq_false (by omega), decide_eq_false (by omega)] <;> rfl
  have cps : ∀ m : Nat, (List.replicate m a.cps).foldl (· ++ ·) #[] = (List.replicate m a.cps.toList).flatten.toArray := fun m => by
    have g : ∀ (m : Nat) (acc : Array Nat), (List.replicate m a.cps).foldl (· ++ ·) acc = acc ++ (List.replicate m a.cps.toList).flatten.toArray := by
      intro m
      induction m with
      | zero => intro acc; simp
      | succ m ih =>
        intro acc
        rw [List.replicate_succ, List.foldl_cons, ih, List.replicate_succ, List.flatten_cons]
        apply Array.ext'
        simp
    rw [g]; simp
  refine PySem.P.mul_str c0 (fun _ _ => ?_) (fun _ _ => ?_) ?_
  · rw [ha]
    intro z
    have h3 : (100000 : Int) ≤ (2 ^ 63 - 1) / k := by
      refine Int.le_ediv_of_mul_le (by omega) ?_
      have : (100000 : Int) * k ≤ 100000 * 100000 := Int.mul_le_mul_of_nonneg_left hk (by omega)
      omega
    have z' : ((1 : Nat) : Int) > (2 ^ 63 - 1) / k := z
    omega
  · rw [ha]
    unfold Builtin.Str.tooLong
    rw [sizeLine_eq]
    exact decide_eq_false (by omega)
  · rw [if_neg (by omega)]
    have e1 : (k == 1 || a.length == 0) = false := by
      rw [ha, Bool.or_eq_false_iff]
      exact ⟨beq_eq_false_iff_ne.mpr (by omega), rfl⟩
    rw [if_neg (by rw [e1]; exact Bool.false_ne_true), cps]
    exact ⟨by
      show (List.replicate k.toNat a.cps.toList).flatten.toArray.size ≤ sizeLine
      have e2 : a.cps.toList.length = 1 := by rw [Array.length_toList]; exact ha
      rw [List.size_toArray, PyProof.Rows.lm_len_rep_flat, e2, sizeLine_eq]
      omega, ⟨.str _, H, I.tok _, ⟨_, rfl⟩, q⟩⟩

/-! ### mul, in, items -/
theorem og_mul {K : PySem.W.Frag} (hK : K = X.K) : OpR X (binaryOp .Mult) (rg K (op2 .mul)) := by
  intro pins s σ H x y v u Q I rx ry ⟨w, S, px, py, hw, hk, hr, r1, r2, g⟩
  subst hw
  cases r1 with
  | int i =>
    cases r2 with
    | int j =>
      simp only [op2, mulP, okI] at g
      split at g
      · rename_i hc
        rcases hc with hc | hc
        · exact op_mul pins s σ _ _ _ v u Q I rx ry ⟨i, j, rfl, rfl, hc, g w _ (Ext.refl w) hr (.int _)⟩
        · exact op_mulW pins s σ _ _ _ v u Q I rx ry ⟨i, j, rfl, rfl, hc, g w _ (Ext.refl w) hr (.int _)⟩
      · exact g.elim
    | _ => exact g.elim
  | str i =>
    cases r2 with
    | int j =>
      simp only [op2, mulP] at g
      split at g
      · rename_i hc
        exact op_repS pins s σ _ _ _ v u Q I rx ry ⟨i, j, rfl, rfl, hc.1, hc.2.1, hc.2.2, g w _ (Ext.refl w) hr (.str _)⟩
      · exact g.elim
    | _ => exact g.elim
  | tup q1 s1 =>
    cases r2 with
    | int j =>
      simp only [op2, mulP] at g
      split at g
      · rename_i hc
        refine op_repT2 pins s σ _ _ _ v u Q I rx ry ⟨_, j, _, rfl, rfl, by rw [← hK, ← hk]; exact q1.sq, fun z => ?_, hc.2.1, by rw [s1.length]; exact hc.2.2, fun p hp => ?_⟩
        · subst z
          cases s1
          exact hc.1 rfl
        · obtain ⟨h3, e3, r3⟩ := hr.newT hp (s1.rep j.toNat)
          exact g _ _ e3 h3 r3
      · exact g.elim
    | _ => exact g.elim
  | lst q1 s1 =>
    cases r2 with
    | int j => exact g.elim
    | _ => exact g.elim
  | _ => exact g.elim
end
end Dg
end

section
set_option Elab.async false
set_option linter.all false
set_option maxRecDepth 100000
set_option maxHeartbeats 4000000
/-! DgF: in, items, unary operators, built-in functions by plain values. -/
namespace Dg
open PySem PySem.Spec L2
open PyProof.Rows hiding St

theorem Rep.flat {w : Wd} {v : V} {p : PV} (r : Rep w v p) (h : flatP p = true) : flatV v = true := by cases r <;> first | rfl | cases h
theorem Reps.flat {w : Wd} : ∀ {vs : List V} {xs : List PV}, Reps w vs xs → xs.all flatP = true → vs.all flatV = true
  | _, _, .nil, _ => rfl
  | _, _, .cons h r, q => by
    rw [List.all_cons, Bool.and_eq_true] at q ⊢
    exact ⟨h.flat q.1, Reps.flat r q.2⟩
theorem eqV_eqP {w : Wd} {v u : V} {p q : PV} (r : Rep w v p) (s : Rep w u q) (h1 : flatP p = true) (h2 : flatP q = true) : eqV v u = eqP p q := by
  cases r <;> cases s <;> first | rfl | (exact absurd h1 Bool.false_ne_true) | (exact absurd h2 Bool.false_ne_true)
theorem inV_eqP {w : Wd} {u : V} {q : PV} (s : Rep w u q) (h2 : flatP q = true) : ∀ {vs : List V} {xs : List PV}, Reps w vs xs → xs.all flatP = true → inV u vs = xs.any (eqP · q)
  | _, _, .nil, _ => rfl
  | _, _, .cons h r, k => by
    rw [List.all_cons, Bool.and_eq_true] at k
    unfold inV
    rw [List.any_cons, List.any_cons, eqV_eqP h s k.1 h2]
    have e := inV_eqP s h2 r k.2
    unfold inV at e
    rw [e]
theorem Rep.key {w : Wd} {v : V} {p : PV} {k : Key} (r : Rep w v p) (h : keyP p = some k) : v = kV k := by cases r <;> cases h <;> rfl
theorem RepK.look {κ : Type} [DecidableEq κ] {w : Wd} {k : κ} : ∀ {ws : List (κ × V)} {xs : List (κ × PV)}, RepK w ws xs → (∀ x, lookK k xs = some x → ∃ v, valV ws k = some v ∧ Rep w v x) ∧ (lookK k xs = none → valV ws k = none)
  | _, _, .nil => ⟨(fun x h => by cases h), fun _ => rfl⟩
  | _, _, @RepK.cons _ _ k' v x vs xs h r => by
    obtain ⟨i1, i2⟩ := RepK.look (k := k) r
    by_cases e : k' = k
    · refine ⟨fun y hy => ?_, fun hy => ?_⟩
      · unfold lookK at hy
        rw [if_pos e] at hy
        cases hy
        exact ⟨v, valV_pos e, h⟩
      · unfold lookK at hy
        rw [if_pos e] at hy
        cases hy
    · refine ⟨fun y hy => ?_, fun hy => ?_⟩
      · unfold lookK at hy
        rw [if_neg e] at hy
        obtain ⟨z, h1, h2⟩ := i1 y hy
        exact ⟨z, (valV_neg e).trans h1, h2⟩
      · unfold lookK at hy
        rw [if_neg e] at hy
        exact (valV_neg e).trans (i2 hy)
theorem RepK.isSome {κ : Type} [DecidableEq κ] {w : Wd} {k : κ} {ws : List (κ × V)} {xs : List (κ × PV)} (r : RepK w ws xs) : (valV ws k).isSome = (lookK k xs).isSome := by
  obtain ⟨h1, h2⟩ := r.look (k := k)
  cases e : lookK k xs with
  | none => rw [h2 e]; rfl
  | some x => obtain ⟨v, e2, _⟩ := h1 x e; rw [e2]; rfl
theorem one_sign {c : Str} (h : c.cps.size = 1) : c = ⟨#[c.cps.toList.getD 0 0]⟩ := by
  obtain ⟨⟨l⟩⟩ := c
  have h' : l.length = 1 := h
  match l, h' with
  | [a], _ => rfl
section
variable {X : Cx}
theorem og_in_ {K : PySem.W.Frag} (hK : K = X.K) (hu : X.A.units + 65 < cLine) : OpR X (compareOp .In) (rg K (op2 .inn)) := by
  intro pins s σ H x y v u Q I rx ry ⟨w, S, px, py, hw, hk, hr, r1, r2, g⟩
  subst hw
  have flat : ∀ {xs : List PV} {a : Addr} {vs : List V}, y = .ref a → (SqL w.K w.H a vs ∨ SqT w.K w.H a vs) → Reps w vs xs → GoodN Rep w Q (if flatP px && xs.all flatP then okB (if false = true then !xs.any (eqP · px) else xs.any (eqP · px)) S else .bad) →
      wpAny (model X.prog X.w) X.A (compareOp .In v u) (EP X pins σ Q) X.xe s := fun {xs a vs} ey hs rs g => by
    split at g
    · rename_i hc
      rw [Bool.and_eq_true] at hc
      subst ey
      rw [hk.trans hK] at hs
      refine op_in_seq pins s σ _ _ _ v u Q I rx ry ⟨a, vs, rfl, hs, r1.flat hc.1, rs.flat hc.2, ?_⟩
      rw [if_neg Bool.false_ne_true, inV_eqP r1 hc.1 rs hc.2]
      exact g w _ (Ext.refl w) hr (.bl _)
    · exact g.elim
  have deep : ∀ {xs : List PV} {a : Addr} {vs : List V}, y = .ref a → SqL w.K w.H a vs → Reps w vs xs → GoodN Rep w Q (if flatP px && xs.all flatP then okB (if false = true then !xs.any (eqP · px) else xs.any (eqP · px)) S else deepP false px xs S) →
      wpAny (model X.prog X.w) X.A (compareOp .In v u) (EP X pins σ Q) X.xe s := fun {xs a vs} ey hs rs g => by
    by_cases hc : (flatP px && xs.all flatP) = true
    · rw [if_pos hc] at g
      exact flat ey (.inl hs) rs (by rw [if_pos hc]; exact g)
    · rw [if_neg hc] at g
      unfold deepP at g
      cases e1 : toD S px with
      | none => rw [e1] at g; exact g.elim
      | some d =>
        cases e2 : toDs S xs with
        | none => rw [e1, e2] at g; exact g.elim
        | some ds =>
          rw [e1, e2] at g
          dsimp only at g
          split at g
          · rename_i hz
            subst ey
            have h1 := r1.toD e1
            have h2 := rs.toDs e2
            rw [hk.trans hK] at h1 h2 hs
            exact op_inD hu pins s σ _ _ _ v u Q I rx ry ⟨d, ds, h1, .lst hs h2, hz.1, hz.2, g w _ (Ext.refl w) hr (.bl _)⟩
          · exact g.elim
  cases r2 with
  | str z =>
    cases r1 with
    | str c =>
      simp only [op2, inP] at g
      split at g
      · rename_i hc
        have e := one_sign hc
        refine op_in_sign pins s σ _ _ _ v u Q I rx ry ⟨_, z, by rw [e], rfl, ?_⟩
        exact g w _ (Ext.refl w) hr (.bl _)
      · exact g.elim
    | _ => exact g.elim
  | lst q rs => exact deep rfl (.inl q.1) rs g
  | tup q rs => exact flat rfl (.inr q.sq) rs g
  | @ref a n q =>
    simp only [op2, inP] at g
    split at g
    · rename_i kvs e
      obtain ⟨a', h1, ws, h2, h3⟩ := hr.at_ e
      rw [q] at h1; cases h1
      cases ek : keyP px with
      | none => rw [ek] at g; exact g.elim
      | some k =>
        rw [ek] at g
        have ex := r1.key ek
        subst ex
        cases ry
        refine d_in (by omega) I (DGet.k (k := k) h2) rx fun s' I' => ⟨.bl _, _, I', rfl, ?_⟩
        rw [h3.isSome]
        exact g w _ (Ext.refl w) hr (.bl _)
    · rename_i xs e
      obtain ⟨a', h1, vs, h2, h3⟩ := hr.at_ e
      rw [q] at h1; cases h1
      exact deep rfl (.inl (.inl h2)) h3 g
    · exact g.elim
  | _ => exact g.elim
theorem og_nin {K : PySem.W.Frag} (hK : K = X.K) (hu : X.A.units + 65 < cLine) : OpR X (compareOp .NotIn) (rg K (op2 .nin)) := by
  intro pins s σ H x y v u Q I rx ry ⟨w, S, px, py, hw, hk, hr, r1, r2, g⟩
  subst hw
  have flat : ∀ {xs : List PV} {a : Addr} {vs : List V}, y = .ref a → (SqL w.K w.H a vs ∨ SqT w.K w.H a vs) → Reps w vs xs → GoodN Rep w Q (if flatP px && xs.all flatP then okB (if true = true then !xs.any (eqP · px) else xs.any (eqP · px)) S else .bad) →
      wpAny (model X.prog X.w) X.A (compareOp .NotIn v u) (EP X pins σ Q) X.xe s := fun {xs a vs} ey hs rs g => by
    split at g
    · rename_i hc
      rw [Bool.and_eq_true] at hc
      subst ey
      rw [hk.trans hK] at hs
      refine op_notIn_seq pins s σ _ _ _ v u Q I rx ry ⟨a, vs, rfl, hs, r1.flat hc.1, rs.flat hc.2, ?_⟩
      rw [if_pos rfl, inV_eqP r1 hc.1 rs hc.2]
      exact g w _ (Ext.refl w) hr (.bl _)
    · exact g.elim
  have deep : ∀ {xs : List PV} {a : Addr} {vs : List V}, y = .ref a → SqL w.K w.H a vs → Reps w vs xs → GoodN Rep w Q (if flatP px && xs.all flatP then okB (if true = true then !xs.any (eqP · px) else xs.any (eqP · px)) S else deepP true px xs S) →
      wpAny (model X.prog X.w) X.A (compareOp .NotIn v u) (EP X pins σ Q) X.xe s := fun {xs a vs} ey hs rs g => by
    by_cases hc : (flatP px && xs.all flatP) = true
    · rw [if_pos hc] at g
      exact flat ey (.inl hs) rs (by rw [if_pos hc]; exact g)
    · rw [if_neg hc] at g
      unfold deepP at g
      cases e1 : toD S px with
      | none => rw [e1] at g; exact g.elim
      | some d =>
        cases e2 : toDs S xs with
        | none => rw [e1, e2] at g; exact g.elim
        | some ds =>
          rw [e1, e2] at g
          dsimp only at g
          split at g
          · rename_i hz
            subst ey
            have h1 := r1.toD e1
            have h2 := rs.toDs e2
            rw [hk.trans hK] at h1 h2 hs
            exact op_notInD hu pins s σ _ _ _ v u Q I rx ry ⟨d, ds, h1, .lst hs h2, hz.1, hz.2, g w _ (Ext.refl w) hr (.bl _)⟩
          · exact g.elim
  cases r2 with
  | str z =>
    cases r1 with
    | str c =>
      simp only [op2, inP] at g
      split at g
      · rename_i hc
        have e := one_sign hc
        refine op_notIn_sign pins s σ _ _ _ v u Q I rx ry ⟨_, z, by rw [e], rfl, ?_⟩
        exact g w _ (Ext.refl w) hr (.bl _)
      · exact g.elim
    | _ => exact g.elim
  | lst q rs => exact deep rfl (.inl q.1) rs g
  | tup q rs => exact flat rfl (.inr q.sq) rs g
  | @ref a n q =>
    simp only [op2, inP] at g
    split at g
    · rename_i kvs e
      obtain ⟨a', h1, ws, h2, h3⟩ := hr.at_ e
      rw [q] at h1; cases h1
      cases ek : keyP px with
      | none => rw [ek] at g; exact g.elim
      | some k =>
        rw [ek] at g
        have ex := r1.key ek
        subst ex
        cases ry
        refine d_notIn (by omega) I (DGet.k (k := k) h2) rx fun s' I' => ⟨.bl _, _, I', rfl, ?_⟩
        rw [h3.isSome]
        exact g w _ (Ext.refl w) hr (.bl _)
    · rename_i xs e
      obtain ⟨a', h1, vs, h2, h3⟩ := hr.at_ e
      rw [q] at h1; cases h1
      exact deep rfl (.inl (.inl h2)) h3 g
    · exact g.elim
  | _ => exact g.elim
theorem atI_rep {w : Wd} {vs : List V} {xs : List PV} {i : Int} {p : PV} (r : Reps w vs xs) (h : atI xs i = some p) : ∃ v, atI vs i = some v ∧ Rep w v p := by
  unfold atI at h ⊢
  rw [r.length]
  cases e : ixN xs.length i with
  | none => rw [e] at h; cases h
  | some j =>
    rw [e] at h
    obtain ⟨v, h1, h2⟩ := r.get h
    exact ⟨v, h1, h2⟩
/-- an item of a dict -/
theorem ix_dict (hu : X.A.units + 1 < cLine) : IxR X (fun x y H Q => ∃ d v, x = .ref d ∧ DGet H d y (some v) ∧ Q v H) := by
  intro value slice pins s σ H x y v u Q I rx ry h hs
  obtain ⟨d, z, rfl, g, q⟩ := h
  cases rx
  have hT := dict_typeIs I g
  have hl := PySem.F.slot_dict_getitem.lookup
  unfold subscriptTail
  refine wpAny_bind ?_
  rw [getitemInPython_of_ne hT.not_modules]
  refine wpAny_bind (wpAny_specialOf hT hl ?_)
  have fin : wpAny (model X.prog X.w) X.A (subscripted slice false (.ref d) u) (fun r s₃ => wpAny (model X.prog X.w) X.A (letTemporaryGo value (.ref d) r >>= fun _ => pure r) (EP X pins σ Q) X.xe s₃) X.xe s := by
    rw [hs]
    exact wpAny_operating (wpAny_mono (d_getItem (Q := EP X pins σ Q) hu I g ry fun w' s' I' r => ⟨z, _, I', r, q⟩) (fun r s₃ h₃ => wpAny_bind (wpAny_letTemporaryGo (wpAny_pure h₃))) fun _ _ x => x)
  first
    | exact wpAny_pure (wpAny_bind fin)
    | exact wpAny_bind (wpAny_pure (wpAny_bind fin))
theorem IxR.imp {r r' : R2} (h : IxR X r) (i : ∀ x y H Q, r' x y H Q → r x y H Q) : IxR X r' := fun value slice pins s σ H x y v u Q I rx ry q hs => h value slice pins s σ H x y v u Q I rx ry (i x y H Q q) hs
theorem og_ix {K : PySem.W.Frag} (hK : K = X.K) (hu : X.A.units + 1 < cLine) : IxR X (rg K (op2 .ix)) := by
  intro value slice pins s σ H x y v u Q I rx ry ⟨w, S, px, py, hw, hk, hr, r1, r2, g⟩ hs
  subst hw
  cases r1 with
  | str z =>
    cases r2 with
    | int i =>
      simp only [op2, ixP] at g
      split at g
      · rename_i hz
        cases e : atI z.cps.toList i with
        | none => rw [e] at g; exact g.elim
        | some c =>
          rw [e] at g
          exact ix_str value slice pins s σ _ _ _ v u Q I rx ry ⟨z, i, c, rfl, rfl, hz, e, g w _ (Ext.refl w) hr (.str _)⟩ hs
      · exact g.elim
    | _ => exact g.elim
  | lst q rs =>
    cases r2 with
    | int i =>
      simp only [op2, ixP] at g
      split at g
      · rename_i p e
        obtain ⟨z, e2, r3⟩ := atI_rep rs e
        exact ix_list value slice pins s σ _ _ _ v u Q I rx ry ⟨_, _, i, z, rfl, rfl, .inl q.1, e2, g w _ (Ext.refl w) hr r3⟩ hs
      · exact g.elim
    | _ => exact g.elim
  | tup q rs =>
    cases r2 with
    | int i =>
      simp only [op2, ixP] at g
      split at g
      · rename_i p e
        obtain ⟨z, e2, r3⟩ := atI_rep rs e
        have q' := q.sq
        rw [hk.trans hK] at q'
        exact ix_tup value slice pins s σ _ _ _ v u Q I rx ry ⟨_, _, i, z, rfl, rfl, q', e2, g w _ (Ext.refl w) hr r3⟩ hs
      · exact g.elim
    | _ => exact g.elim
  | @ref a n q =>
    simp only [op2, ixP] at g
    split at g
    · rename_i xs e
      obtain ⟨a', h1, vs, h2, h3⟩ := hr.at_ e
      rw [q] at h1; cases h1
      cases r2 with
      | int i =>
        dsimp only at g
        split at g
        · rename_i p e
          obtain ⟨z, e2, r3⟩ := atI_rep h3 e
          exact ix_list value slice pins s σ _ _ _ v u Q I rx ry ⟨_, _, i, z, rfl, rfl, .inl (.inl h2), e2, g w _ (Ext.refl w) hr r3⟩ hs
        · exact g.elim
      | _ => exact g.elim
    · rename_i kvs e
      obtain ⟨a', h1, ws, h2, h3⟩ := hr.at_ e
      rw [q] at h1; cases h1
      cases ek : keyP py with
      | none => rw [ek] at g; exact g.elim
      | some k =>
        rw [ek] at g
        dsimp only at g
        have ex := r2.key ek
        subst ex
        cases el : lookK k kvs with
        | none => rw [el] at g; exact g.elim
        | some p =>
          rw [el] at g
          obtain ⟨z, e2, r3⟩ := (h3.look (k := k)).1 p el
          exact ix_dict hu value slice pins s σ _ _ _ v u Q I rx ry ⟨_, z, rfl, by rw [← e2]; exact DGet.k h2, g w _ (Ext.refl w) hr r3⟩ hs
    · exact g.elim
  | _ => exact g.elim
/-! ### subscripts, unary operators -/
variable {Z : Xc} {W : WX} {a b e : Expr} {ma mb : ME} {pos : Pos}
theorem snd_ix (hK : Z.K = X.K) (hu : X.A.units + 1 < cLine) (ha : PE X a (TI Z W ma)) (hb : PE X b (TI Z W mb)) (hs : PlainIx b) : PE X (.Subscript a b pos) (TI Z W (.bin .ix ma mb)) := by
  refine (pe_ix (og_ix hK hu) ha hb hs).imp fun σ H Q h => ?_
  obtain ⟨w, r, S, at_, g⟩ := h
  unfold evalE at g
  refine ⟨w, r, S, at_, g.bindI fun u x p S1 e1 h1 r1 g1 => ?_⟩
  refine ⟨u, r, S1, at_.next e1 h1, g1.bindI fun t y q S2 e2 h2 r2 g2 => ?_⟩
  exact ⟨t, S2, p, q, rfl, e2.k.trans (e1.k.trans at_.K), h2, r1.mono e2, r2, g2.n (op2_noexc _ _ _ _)⟩
theorem snd_neg (ha : PE X a (TI Z W ma)) : PE X (.UnaryOp .USub a pos) (TI Z W (.un .neg ma)) := by
  refine (pe_un un_neg ha).imp fun σ H Q h => ?_
  obtain ⟨w, r, S, at_, g⟩ := h
  unfold evalE at g
  refine ⟨w, r, S, at_, g.bindI fun u x p S1 e1 h1 r1 g1 => ?_⟩
  cases r1 with
  | int i => exact ⟨i, rfl, g1 u _ (Ext.refl u) h1 (.int _)⟩
  | _ => exact g1.elim
theorem isNon_rep {w : Wd} {v : V} {p : PV} (r : Rep w v p) : decide (v = V.non) = isNon p := by
  cases r <;> first | rfl | exact decide_eq_false (fun z => by cases z)
theorem snd_isN {j : Nat} {pos' : Pos} (ha : PE X a (TI Z W ma)) : PE X (.Compare a [.Is] [.Constant .none j pos'] pos) (TI Z W (.un .isN ma)) := by
  refine (pe_cmp (pc_isN ha)).imp fun σ H Q h => ?_
  obtain ⟨w, r, S, at_, g⟩ := h
  unfold evalE at g
  refine ⟨w, r, S, at_, g.bindI fun u x p S1 e1 h1 r1 g1 => ?_⟩
  rw [isNon_rep r1]
  exact g1 u _ (Ext.refl u) h1 (.bl _)
theorem snd_notN {j : Nat} {pos' : Pos} (ha : PE X a (TI Z W ma)) : PE X (.Compare a [.IsNot] [.Constant .none j pos'] pos) (TI Z W (.un .notN ma)) := by
  refine (pe_cmp (pc_notN ha)).imp fun σ H Q h => ?_
  obtain ⟨w, r, S, at_, g⟩ := h
  unfold evalE at g
  refine ⟨w, r, S, at_, g.bindI fun u x p S1 e1 h1 r1 g1 => ?_⟩
  rw [isNon_rep r1]
  exact g1 u _ (Ext.refl u) h1 (.bl _)
theorem evalT_un {C : Cxt} {o : O1} {r : PEnv} {S : Store} : evalT C (.un o ma) r S = (evalE C (.un o ma) r S).bind truR := evalT_truth (fun _ _ => by simp) (fun _ _ => by simp) (fun _ => by simp) (fun _ _ _ => by simp)
theorem snd_isNT {j : Nat} {pos' : Pos} (ha : PE X a (TI Z W ma)) : PT X (.Compare a [.Is] [.Constant .none j pos'] pos) (TIT Z W (.un .isN ma)) := by
  refine (pt_cmp (pc_isN ha)).imp fun σ H Q h => ?_
  obtain ⟨w, r, S, at_, g⟩ := h
  rw [evalT_un] at g
  unfold evalE at g
  rw [Res.bind_assoc] at g
  refine ⟨w, r, S, at_, g.bindI fun u x p S1 e1 h1 r1 g1 => ?_⟩
  exact ⟨_, rfl, by rw [isNon_rep r1]; exact g1 u _ (Ext.refl u) h1 rfl⟩
theorem snd_notNT {j : Nat} {pos' : Pos} (ha : PE X a (TI Z W ma)) : PT X (.Compare a [.IsNot] [.Constant .none j pos'] pos) (TIT Z W (.un .notN ma)) := by
  refine (pt_cmp (pc_notN ha)).imp fun σ H Q h => ?_
  obtain ⟨w, r, S, at_, g⟩ := h
  rw [evalT_un] at g
  unfold evalE at g
  rw [Res.bind_assoc] at g
  refine ⟨w, r, S, at_, g.bindI fun u x p S1 e1 h1 r1 g1 => ?_⟩
  exact ⟨_, rfl, by rw [isNon_rep r1]; exact g1 u _ (Ext.refl u) h1 rfl⟩
end
end Dg
end

section
set_option Elab.async false
set_option linter.all false
set_option maxRecDepth 100000
set_option maxHeartbeats 4000000
/-! DgG: built-in functions, methods, slices. -/
namespace Dg
open PySem PySem.Spec L2
open PyProof.Rows hiding St

theorem opn_noexc (o : BI) (vs : List PV) (S : Store) (c : Nat) (a : PV) (S' : Store) : opn o vs S ≠ .exc c a S' := by
  intro h
  cases o <;> simp only [opn, okB] at h <;> (repeat' split at h) <;> cases h
/-- a function by plain values -/
def rgn (K : PySem.W.Frag) (g : List PV → Store → Res PV) : List V → Hp → VK → Prop := fun vs H Q => ∃ w S ps, w.H = H ∧ w.K = K ∧ HRel w S ∧ Reps w vs ps ∧ GoodN Rep w Q (g ps S)
theorem CallR.imp {X : Cx} {f : Value} {r r' : List V → Hp → VK → Prop} (h : CallR X f r) (i : ∀ vs H Q, r' vs H Q → r vs H Q) : CallR X f r' := fun pins s σ H vs us Q I rv q => h pins s σ H vs us Q I rv (i vs H Q q)
theorem allOf_bl {w : Wd} : ∀ {vs : List V} {xs : List PV} {bs : List Bool}, Reps w vs xs → allOf isBl xs = some bs → vs = bs.map V.bl
  | _, _, _, .nil, h => by cases h; rfl
  | _, x :: xs, bs, .cons q r, h => by
    unfold allOf at h
    cases e1 : isBl x with
    | none => rw [e1] at h; cases h
    | some b =>
      cases e2 : allOf isBl xs with
      | none => rw [e1, e2] at h; cases h
      | some cs =>
        rw [e1, e2] at h; cases h
        have e3 := allOf_bl r e2
        cases q <;> cases e1
        rw [e3]; rfl
theorem allOf_int {w : Wd} : ∀ {vs : List V} {xs : List PV} {bs : List Int}, Reps w vs xs → allOf isIn xs = some bs → vs = bs.map V.int
  | _, _, _, .nil, h => by cases h; rfl
  | _, x :: xs, bs, .cons q r, h => by
    unfold allOf at h
    cases e1 : isIn x with
    | none => rw [e1] at h; cases h
    | some b =>
      cases e2 : allOf isIn xs with
      | none => rw [e1, e2] at h; cases h
      | some cs =>
        rw [e1, e2] at h; cases h
        have e3 := allOf_int r e2
        cases q <;> cases e1
        rw [e3]; rfl
theorem allOf_str {w : Wd} : ∀ {vs : List V} {xs : List PV} {bs : List Str}, Reps w vs xs → allOf isSt xs = some bs → vs = bs.map V.str
  | _, _, _, .nil, h => by cases h; rfl
  | _, x :: xs, bs, .cons q r, h => by
    unfold allOf at h
    cases e1 : isSt x with
    | none => rw [e1] at h; cases h
    | some b =>
      cases e2 : allOf isSt xs with
      | none => rw [e1, e2] at h; cases h
      | some cs =>
        rw [e1, e2] at h; cases h
        have e3 := allOf_str r e2
        cases q <;> cases e1
        rw [e3]; rfl
theorem reps_str {w : Wd} : ∀ ys : List Str, Reps w (ys.map V.str) (ys.map PV.str)
  | [] => .nil
  | y :: ys => .cons (.str y) (reps_str ys)
theorem reps_int {w : Wd} : ∀ ys : List Int, Reps w (ys.map V.int) (ys.map PV.int)
  | [] => .nil
  | y :: ys => .cons (.int y) (reps_int ys)
theorem minL_spec : ∀ (is : List Int) (m : Int), (minL m is ∈ m :: is) ∧ ∀ y ∈ m :: is, minL m is ≤ y
  | [], m => ⟨by simp [minL], fun y hy => by have e : y = m := by simpa using hy
                                             rw [e]; exact Int.le_refl _⟩
  | x :: is, m => by
    unfold minL
    obtain ⟨h1, h2⟩ := minL_spec is (if x < m then x else m)
    by_cases c : x < m
    · rw [if_pos c] at h1 h2 ⊢
      refine ⟨List.mem_cons_of_mem _ h1, fun y hy => ?_⟩
      rcases List.mem_cons.mp hy with e | hy
      · rw [e]; exact Int.le_trans (h2 x List.mem_cons_self) (Int.le_of_lt c)
      · exact h2 y hy
    · rw [if_neg c] at h1 h2 ⊢
      refine ⟨?_, fun y hy => ?_⟩
      · rcases List.mem_cons.mp h1 with e | h1
        · rw [e]; exact List.mem_cons_self
        · exact List.mem_cons_of_mem _ (List.mem_cons_of_mem _ h1)
      · rcases List.mem_cons.mp hy with e | hy
        · rw [e]; exact h2 m List.mem_cons_self
        · rcases List.mem_cons.mp hy with e | hy
          · rw [e]; exact Int.le_trans (h2 m List.mem_cons_self) (Int.not_lt.mp c)
          · exact h2 y (List.mem_cons_of_mem _ hy)
section
variable {X : Cx} {K : PySem.W.Frag}
/-- one argument -/
theorem one_arg {w : Wd} {vs : List V} {p : PV} (r : Reps w vs [p]) : ∃ v, vs = [v] ∧ Rep w v p := by
  cases r with
  | cons h t => cases t; exact ⟨_, rfl, h⟩
theorem bg_len (hK : K = X.K) : CallR X (.builtin "len") (rgn K (opn .len)) := by
  intro pins s σ H vs us Q I rv ⟨w, S, ps, hw, hk, hr, rs, g⟩
  subst hw
  match ps, rs, g with
  | [p], rs, g =>
    obtain ⟨v, rfl, r⟩ := one_arg rs
    cases r with
    | str x =>
      simp only [opn] at g
      split at g
      · rename_i hz
        exact call_len_str pins s σ _ _ us Q I rv ⟨x, rfl, hz, g w _ (Ext.refl w) hr (.int _)⟩
      · exact (show False from g).elim
    | @ref a n q =>
      simp only [opn] at g
      split at g
      · rename_i xs e
        obtain ⟨a', h1, ws, h2, h3⟩ := hr.at_ e
        rw [q] at h1; cases h1
        refine call_len_seq pins s σ _ _ us Q I rv ⟨a, ws, rfl, .inl (.inl (.inl h2)), ?_⟩
        rw [h3.length]
        exact g w _ (Ext.refl w) hr (.int _)
      · rename_i xs e
        obtain ⟨a', h1, ws, h2, h3⟩ := hr.at_ e
        rw [q] at h1; cases h1
        refine call_lenD pins s σ _ _ us Q I rv ⟨a, ws, rfl, h2, ?_⟩
        rw [h3.length]
        exact g w _ (Ext.refl w) hr (.int _)
      · exact (show False from g).elim
    | lst q rq =>
      refine call_len_seq pins s σ _ _ us Q I rv ⟨_, _, rfl, .inl (.inl q.1), ?_⟩
      rw [rq.length]
      exact g w _ (Ext.refl w) hr (.int _)
    | scr q rq =>
      refine call_len_seq pins s σ _ _ us Q I rv ⟨_, _, rfl, .inl (hK ▸ hk ▸ q.sq), ?_⟩
      rw [rq.length]
      exact g w _ (Ext.refl w) hr (.int _)
    | tup q rq =>
      refine call_len_seq pins s σ _ _ us Q I rv ⟨_, _, rfl, .inr (hK ▸ hk ▸ q.sq), ?_⟩
      rw [rq.length]
      exact g w _ (Ext.refl w) hr (.int _)
    | _ => exact (show False from g).elim
  | [], _, g => exact (show False from g).elim
  | x :: _ :: _, _, g => exact (show False from by cases x <;> exact g).elim
theorem bg_int : CallR X (.type "int") (rgn K (opn .int_)) := by
  intro pins s σ H vs us Q I rv ⟨w, S, ps, hw, hk, hr, rs, g⟩
  subst hw
  match ps, rs, g with
  | [p], rs, g =>
    obtain ⟨v, rfl, r⟩ := one_arg rs
    cases r with
    | int i => exact call_int1 pins s σ _ _ us Q I rv (.inl ⟨i, rfl, g w _ (Ext.refl w) hr (.int _)⟩)
    | bl b => exact call_int1 pins s σ _ _ us Q I rv (.inr ⟨b, rfl, g w _ (Ext.refl w) hr (.int _)⟩)
    | str x =>
      simp only [opn] at g
      split at g
      · rename_i hz
        cases e : PySem.intText? x with
        | none => rw [e] at g; exact (show False from g).elim
        | some n =>
          rw [e] at g
          exact call_int_str pins s σ _ _ us Q I rv ⟨x, n, rfl, e, hz, g w _ (Ext.refl w) hr (.int _)⟩
      · exact (show False from g).elim
    | _ => exact (show False from g).elim
  | [], _, g => exact (show False from g).elim
  | x :: _ :: _, _, g => exact (show False from by cases x <;> exact g).elim
theorem bg_str : CallR X (.type "str") (rgn K (opn .str_)) := by
  intro pins s σ H vs us Q I rv ⟨w, S, ps, hw, hk, hr, rs, g⟩
  subst hw
  match ps, rs, g with
  | [p], rs, g =>
    obtain ⟨v, rfl, r⟩ := one_arg rs
    cases r with
    | int i =>
      simp only [opn] at g
      split at g
      · rename_i hz
        exact call_str_int pins s σ _ _ us Q I rv ⟨i, rfl, hz, g w _ (Ext.refl w) hr (.str _)⟩
      · exact (show False from g).elim
    | _ => exact (show False from g).elim
  | [], _, g => exact (show False from g).elim
  | x :: _ :: _, _, g => exact (show False from by cases x <;> exact g).elim
theorem bg_listV (hK : K = X.K) : CallR X (.type "list") (rgn K (opn .listV)) := by
  intro pins s σ H vs us Q I rv ⟨w, S, ps, hw, hk, hr, rs, g⟩
  subst hw
  match ps, rs, g with
  | [p], rs, g =>
    obtain ⟨v, rfl, r⟩ := one_arg rs
    simp only [opn] at g
    cases e : seqOf p S with
    | none => rw [e] at g; exact (show False from g).elim
    | some xs =>
      rw [e] at g
      obtain ⟨a, ws, rfl, h1, h2⟩ := seqOf_sq hr r e
      refine call_list_of pins s σ _ _ us Q I rv ⟨a, ws, rfl, hK ▸ hk ▸ h1, fun l hl => ?_⟩
      obtain ⟨h3, e3, r3⟩ := hr.newL hl h2
      exact g _ _ e3 h3 r3
  | [], _, g => exact (show False from g).elim
  | x :: _ :: _, _, g => exact (show False from by cases x <;> exact g).elim
theorem bg_listR (hK : K = X.K) : CallR X (.type "list") (rgn K (opn .listR)) := by
  intro pins s σ H vs us Q I rv ⟨w, S, ps, hw, hk, hr, rs, g⟩
  subst hw
  match ps, rs, g with
  | [p], rs, g =>
    obtain ⟨v, rfl, r⟩ := one_arg rs
    simp only [opn] at g
    cases e : seqOf p S with
    | none => rw [e] at g; exact (show False from g).elim
    | some xs =>
      rw [e] at g
      obtain ⟨a, ws, rfl, h1, h2⟩ := seqOf_sq hr r e
      refine call_list_of pins s σ _ _ us Q I rv ⟨a, ws, rfl, hK ▸ hk ▸ h1, fun l hl => ?_⟩
      obtain ⟨h3, e3, r3⟩ := hr.addL hl h2
      exact g _ _ e3 h3 r3
  | [], _, g => exact (show False from g).elim
  | x :: _ :: _, _, g => exact (show False from by cases x <;> exact g).elim
theorem bg_tuple (hK : K = X.K) : CallR X (.type "tuple") (rgn K (opn .tuple_)) := by
  intro pins s σ H vs us Q I rv ⟨w, S, ps, hw, hk, hr, rs, g⟩
  subst hw
  match ps, rs, g with
  | [p], rs, g =>
    obtain ⟨v, rfl, r⟩ := one_arg rs
    simp only [opn] at g
    have isT : ∀ {a : Addr} {vs : List V} {xs : List PV}, v = .ref a → RTs w a vs → Reps w vs xs → GoodN Rep w Q (.ok (.tup xs) S : Res PV) → wpAny (model X.prog X.w) X.A (call (.type "tuple") us) (EP X pins σ Q) X.xe s := fun {a vs xs} e q rq g => by
      subst e
      exact call_tuple_of pins s σ _ _ us Q I rv ⟨a, vs, rfl, .inr ⟨hK ▸ hk ▸ q.sq, g w _ (Ext.refl w) hr (.tup q rq)⟩⟩
    have isL : ∀ {a : Addr} {vs : List V} {xs : List PV}, v = .ref a → SqL w.K w.H a vs → Reps w vs xs → GoodN Rep w Q (.ok (.tup xs) S : Res PV) → wpAny (model X.prog X.w) X.A (call (.type "tuple") us) (EP X pins σ Q) X.xe s := fun {a vs xs} e q rq g => by
      subst e
      refine call_tuple_of pins s σ _ _ us Q I rv ⟨a, vs, rfl, .inl ⟨hK ▸ hk ▸ q, fun l hl => ?_⟩⟩
      obtain ⟨h3, e3, r3⟩ := hr.newT hl rq
      exact g _ _ e3 h3 r3
    cases r with
    | tup q rq => exact isT rfl q rq g
    | lst q rq => exact isL rfl (.inl q.1) rq g
    | scr q rq => exact isL rfl q.sq rq g
    | @ref a n q =>
      unfold seqOf at g
      dsimp only at g
      split at g
      · rename_i xs e
        split at e
        · rename_i ys e2
          cases e
          obtain ⟨a', h1, ws, h2, h3⟩ := hr.at_ e2
          rw [q] at h1; cases h1
          exact isL rfl (.inl (.inl h2)) h3 g
        · cases e
      · exact (show False from g).elim
    | _ => exact (show False from g).elim
  | [], _, g => exact (show False from g).elim
  | x :: _ :: _, _, g => exact (show False from by cases x <;> exact g).elim
theorem bg_all (hc : X.calm = true) : CallR X (.builtin "all") (rgn K (opn .all_)) := by
  intro pins s σ H vs us Q I rv ⟨w, S, ps, hw, hk, hr, rs, g⟩
  subst hw
  match ps, rs, g with
  | [p], rs, g =>
    obtain ⟨v, rfl, r⟩ := one_arg rs
    simp only [opn] at g
    cases e : lstOf p S with
    | none => rw [e] at g; exact (show False from g).elim
    | some xs =>
      rw [e] at g
      dsimp only [Option.bind_some] at g
      cases e2 : allOf isBl xs with
      | none => rw [e2] at g; exact (show False from g).elim
      | some bs =>
        rw [e2] at g
        obtain ⟨a, ws, rfl, h1, h2⟩ := lstOf_sq hr r e
        have e3 := allOf_bl h2 e2
        subst e3
        exact cr_all hc pins s σ _ _ us Q I rv ⟨a, bs, rfl, .inl h1, g w _ (Ext.refl w) hr (.bl _)⟩
  | [], _, g => exact (show False from g).elim
  | x :: _ :: _, _, g => exact (show False from by cases x <;> exact g).elim
theorem bg_any (hc : X.calm = true) : CallR X (.builtin "any") (rgn K (opn .any_)) := by
  intro pins s σ H vs us Q I rv ⟨w, S, ps, hw, hk, hr, rs, g⟩
  subst hw
  match ps, rs, g with
  | [p], rs, g =>
    obtain ⟨v, rfl, r⟩ := one_arg rs
    simp only [opn] at g
    cases e : lstOf p S with
    | none => rw [e] at g; exact (show False from g).elim
    | some xs =>
      rw [e] at g
      dsimp only [Option.bind_some] at g
      cases e2 : allOf isBl xs with
      | none => rw [e2] at g; exact (show False from g).elim
      | some bs =>
        rw [e2] at g
        obtain ⟨a, ws, rfl, h1, h2⟩ := lstOf_sq hr r e
        have e3 := allOf_bl h2 e2
        subst e3
        exact cr_any hc pins s σ _ _ us Q I rv ⟨a, bs, rfl, .inl h1, g w _ (Ext.refl w) hr (.bl _)⟩
  | [], _, g => exact (show False from g).elim
  | x :: _ :: _, _, g => exact (show False from by cases x <;> exact g).elim
theorem bg_sum (hc : X.calm = true) : CallR X (.builtin "sum") (rgn K (opn .sum_)) := by
  intro pins s σ H vs us Q I rv ⟨w, S, ps, hw, hk, hr, rs, g⟩
  subst hw
  match ps, rs, g with
  | [p], rs, g =>
    obtain ⟨v, rfl, r⟩ := one_arg rs
    simp only [opn] at g
    cases e : lstOf p S with
    | none => rw [e] at g; exact (show False from g).elim
    | some xs =>
      rw [e] at g
      dsimp only [Option.bind_some] at g
      cases e2 : allOf isIn xs with
      | none => rw [e2] at g; exact (show False from g).elim
      | some bs =>
        rw [e2] at g
        obtain ⟨a, ws, rfl, h1, h2⟩ := lstOf_sq hr r e
        have e3 := allOf_int h2 e2
        subst e3
        exact cr_sum hc pins s σ _ _ us Q I rv ⟨a, bs, rfl, .inl h1, g w _ (Ext.refl w) hr (.int _)⟩
  | [], _, g => exact (show False from g).elim
  | x :: _ :: _, _, g => exact (show False from by cases x <;> exact g).elim
theorem bg_min1 (hc : X.calm = true) : CallR X (.builtin "min") (rgn K (opn .min1)) := by
  intro pins s σ H vs us Q I rv ⟨w, S, ps, hw, hk, hr, rs, g⟩
  subst hw
  match ps, rs, g with
  | [p], rs, g =>
    obtain ⟨v, rfl, r⟩ := one_arg rs
    simp only [opn] at g
    cases e : lstOf p S with
    | none => rw [e] at g; exact (show False from g).elim
    | some xs =>
      rw [e] at g
      dsimp only [Option.bind_some] at g
      cases e2 : allOf isIn xs with
      | none => rw [e2] at g; exact (show False from g).elim
      | some bs =>
        rw [e2] at g
        obtain ⟨a, ws, rfl, h1, h2⟩ := lstOf_sq hr r e
        have e3 := allOf_int h2 e2
        subst e3
        cases bs with
        | nil => exact (show False from g).elim
        | cons i is =>
          obtain ⟨m1, m2⟩ := minL_spec is i
          refine cr_min hc pins s σ _ _ us Q I rv ⟨a, i :: is, rfl, .inl h1, Nat.zero_lt_succ _, fun m h3 h4 => ?_⟩
          have em : m = minL i is := Int.le_antisymm (h4 _ m1) (m2 m h3)
          rw [em]
          exact g w _ (Ext.refl w) hr (.int _)
  | [], _, g => exact (show False from g).elim
  | x :: _ :: _, _, g => exact (show False from by cases x <;> exact g).elim
theorem two_arg {w : Wd} {vs : List V} {p q : PV} (r : Reps w vs [p, q]) : ∃ v u, vs = [v, u] ∧ Rep w v p ∧ Rep w u q := by
  cases r with
  | cons h t => cases t with
    | cons h2 t => cases t; exact ⟨_, _, rfl, h, h2⟩
theorem bg_min2 (hc : X.calm = true) : CallR X (.builtin "min") (rgn K (opn .min2)) := by
  intro pins s σ H vs us Q I rv ⟨w, S, ps, hw, hk, hr, rs, g⟩
  subst hw
  match ps, rs, g with
  | [p, q], rs, g =>
    obtain ⟨v, u, rfl, r1, r2⟩ := two_arg rs
    cases r1 with
    | int i => cases r2 with
      | int j => exact call_min2 hc pins s σ _ _ us Q I rv ⟨i, j, rfl, g w _ (Ext.refl w) hr (.int _)⟩
      | _ => exact (show False from g).elim
    | _ => exact (show False from g).elim
  | [], _, g => exact (show False from g).elim
  | [x], _, g => exact (show False from by cases x <;> exact g).elim
  | _ :: _ :: _ :: _, _, g => simp only [opn] at g; exact (show False from g).elim
theorem bg_max2 (hc : X.calm = true) : CallR X (.builtin "max") (rgn K (opn .max2)) := by
  intro pins s σ H vs us Q I rv ⟨w, S, ps, hw, hk, hr, rs, g⟩
  subst hw
  match ps, rs, g with
  | [p, q], rs, g =>
    obtain ⟨v, u, rfl, r1, r2⟩ := two_arg rs
    cases r1 with
    | int i => cases r2 with
      | int j => exact call_max2 hc pins s σ _ _ us Q I rv ⟨i, j, rfl, g w _ (Ext.refl w) hr (.int _)⟩
      | _ => exact (show False from g).elim
    | _ => exact (show False from g).elim
  | [], _, g => exact (show False from g).elim
  | [x], _, g => exact (show False from by cases x <;> exact g).elim
  | _ :: _ :: _ :: _, _, g => simp only [opn] at g; exact (show False from g).elim
theorem bg_abs : CallR X (.builtin "abs") (rgn K (opn .abs_)) := by
  intro pins s σ H vs us Q I rv ⟨w, S, ps, hw, hk, hr, rs, g⟩
  subst hw
  match ps, rs, g with
  | [p], rs, g =>
    obtain ⟨v, rfl, r⟩ := one_arg rs
    cases r with
    | int i => exact call_abs pins s σ _ _ us Q I rv ⟨i, rfl, g w _ (Ext.refl w) hr (.int _)⟩
    | _ => exact (show False from g).elim
  | [], _, g => exact (show False from g).elim
  | x :: _ :: _, _, g => exact (show False from by cases x <;> exact g).elim
/-! ### methods of texts -/
def MtG (X : Cx) (id : String) (K : PySem.W.Frag) (o : BI) : Prop := MtR X id (fun x xs H Q => rgn K (opn o) (x :: xs) H Q)
theorem mg_join (hK : K = X.K) : MtG X "str.join" K .join := by
  intro pins s σ H x xs v us Q I rx rs ⟨w, S, ps, hw, hk, hr, rp, g⟩
  subst hw
  match ps, rp, g with
  | [p, q], rp, g =>
    obtain ⟨v1, v2, e0, r1, r2⟩ := two_arg rp
    cases e0
    cases r1 with
    | str a =>
      simp only [opn] at g
      cases e : lstOf q S with
      | none => rw [e] at g; exact (show False from g).elim
      | some xs =>
        rw [e] at g
        dsimp only [Option.bind_some] at g
        cases e2 : allOf isSt xs with
        | none => rw [e2] at g; exact (show False from g).elim
        | some ys =>
          rw [e2] at g
          dsimp only at g
          split at g
          · rename_i hz
            obtain ⟨b, ws, rfl, h1, h2⟩ := lstOf_sq hr r2 e
            have e3 := allOf_str h2 e2
            subst e3
            exact mt_join pins s σ _ _ _ v us Q I rx rs ⟨a, b, ys, rfl, rfl, .inl (.inl h1), hz, g w _ (Ext.refl w) hr (.str _)⟩
          · exact (show False from g).elim
    | _ => exact (show False from g).elim
  | [], _, g => exact (show False from g).elim
  | [x], _, g => exact (show False from by cases x <;> exact g).elim
  | _ :: _ :: _ :: _, _, g => simp only [opn] at g; exact (show False from g).elim
theorem mg_splitV : MtG X "str.split" K .splitV := by
  intro pins s σ H x xs v us Q I rx rs ⟨w, S, ps, hw, hk, hr, rp, g⟩
  subst hw
  match ps, rp, g with
  | [p, q], rp, g =>
    obtain ⟨v1, v2, e0, r1, r2⟩ := two_arg rp
    cases e0
    cases r1 with
    | str a =>
      cases r2 with
      | str b =>
        simp only [opn] at g
        split at g
        · rename_i hz
          refine mt_split pins s σ _ _ _ v us Q I rx rs ⟨a, b, rfl, rfl, hz.1, hz.2, fun l hl => ?_⟩
          obtain ⟨h3, e3, r3⟩ := hr.newL hl (reps_str _)
          exact g _ _ e3 h3 r3
        · exact (show False from g).elim
      | _ => exact (show False from g).elim
    | _ => exact (show False from g).elim
  | [], _, g => exact (show False from g).elim
  | [x], _, g => exact (show False from by cases x <;> exact g).elim
  | _ :: _ :: _ :: _, _, g => simp only [opn] at g; exact (show False from g).elim
theorem mg_splitR : MtG X "str.split" K .splitR := by
  intro pins s σ H x xs v us Q I rx rs ⟨w, S, ps, hw, hk, hr, rp, g⟩
  subst hw
  match ps, rp, g with
  | [p, q], rp, g =>
    obtain ⟨v1, v2, e0, r1, r2⟩ := two_arg rp
    cases e0
    cases r1 with
    | str a =>
      cases r2 with
      | str b =>
        simp only [opn] at g
        split at g
        · rename_i hz
          refine mt_split pins s σ _ _ _ v us Q I rx rs ⟨a, b, rfl, rfl, hz.1, hz.2, fun l hl => ?_⟩
          obtain ⟨h3, e3, r3⟩ := hr.addL hl (reps_str _)
          exact g _ _ e3 h3 r3
        · exact (show False from g).elim
      | _ => exact (show False from g).elim
    | _ => exact (show False from g).elim
  | [], _, g => exact (show False from g).elim
  | [x], _, g => exact (show False from by cases x <;> exact g).elim
  | _ :: _ :: _ :: _, _, g => simp only [opn] at g; exact (show False from g).elim
variable {Z : Xc} {W : WX} {a b c e : Expr} {es : List Expr} {ma mb mc : ME} {ms : MEs} {ml mh : MEo} {pos apos p p2 : Pos} {x : Str}
theorem snd_bi {id : String} {o : BI} (hc : CallR X (.builtin id) (rgn Z.K (opn o))) (hg : Gl X x) (hm : X.mg x = none) (hv : bootBuiltins x = some (.builtin id)) (ha : PA X (e :: es) (TIA Z W ms)) (hn : x ≠ "__name__") (hdb : (x == ("__debug__" : Str)) = false)
    (he : starEach (e :: es) X.env = (false, eval e X.env) :: starEach es X.env) (hpl : (backTo pos (starEach es X.env)).any (·.1) = false) : PE X (.Call (.Name x p) (e :: es) [] pos) (TI Z W (.bi o ms)) := by
  refine (pe_callB hc hg hm hv ha hn hdb he hpl).imp fun σ H Q h => ?_
  obtain ⟨w, r, S, at_, g⟩ := h
  rw [evalE] at g
  refine ⟨w, r, S, at_, g.bindI fun u vs ps S1 e1 h1 r1 g1 => ?_⟩
  exact ⟨u, S1, ps, rfl, e1.k.trans at_.K, h1, r1, g1.n (opn_noexc _ _ _)⟩
theorem snd_biT {T : String} {o : BI} (hc : CallR X (.type T) (rgn Z.K (opn o))) (hg : Gl X x) (hm : X.mg x = none) (hv : bootBuiltins x = some (.type T)) (ha : PA X (e :: es) (TIA Z W ms)) (hn : x ≠ "__name__") (hdb : (x == ("__debug__" : Str)) = false)
    (he : starEach (e :: es) X.env = (false, eval e X.env) :: starEach es X.env) (hpl : (backTo pos (starEach es X.env)).any (·.1) = false) : PE X (.Call (.Name x p) (e :: es) [] pos) (TI Z W (.bi o ms)) := by
  refine (pe_callTy hc hg hm hv ha hn hdb he hpl).imp fun σ H Q h => ?_
  obtain ⟨w, r, S, at_, g⟩ := h
  rw [evalE] at g
  refine ⟨w, r, S, at_, g.bindI fun u vs ps S1 e1 h1 r1 g1 => ?_⟩
  exact ⟨u, S1, ps, rfl, e1.k.trans at_.K, h1, r1, g1.n (opn_noexc _ _ _)⟩
/-- a method of a text with one argument -/
theorem snd_m1 {id : String} {o : BI} {name : Str} (slot : Slot "str" name id) (ty : typeOf (.builtin id) = pure (.type "method_descriptor")) (rule : MtG X id Z.K o) (ha : PE X a (TI Z W ma)) (hb : PE X b (TI Z W mb))
    (hs : starEach [b] X.env = [(false, eval b X.env)]) (hbase : attributeBase a name X.env (eval a X.env) = eval a X.env) (hline : (apos.endLine == pos.line) = true) : PE X (.Call (.Attribute a name apos) [b] [] pos) (TI Z W (.mt o ma mb)) := by
  refine (pe_m1 slot ty rule ha hb hs hbase hline).imp fun σ H Q h => ?_
  obtain ⟨w, r, S, at_, g⟩ := h
  rw [evalE] at g
  refine ⟨w, r, S, at_, g.bindI fun u v q S1 e1 h1 r1 g1 => ?_⟩
  cases r1 with
  | str z =>
    refine ⟨⟨z, rfl⟩, u, r, S1, at_.next e1 h1, Good.bindI g1 fun t y q S2 e2 h2 r2 g2 => ?_⟩
    exact ⟨t, S2, [.str z, q], rfl, e2.k.trans (e1.k.trans at_.K), h2, .cons (.str z) (.cons r2 .nil), g2.n (opn_noexc _ _ _)⟩
  | _ => exact (show False from g1).elim
/-- x.append(e), x a name -/
theorem snd_app {i : Nat} {y : Str} (hN : X.N[i]? = some y) (hv : Vis X.env.scope y) (hd : (y == ("__debug__" : Str)) = false) (hcd : (y == ("__classdict__" : Str)) = false) (hK : Z.K = X.K) (ha : PE X a (TI Z W ma))
    (hbase : attributeBase (.Name y p) "append" X.env (eval (.Name y p) X.env) = eval (.Name y p) X.env)
    (hfew : ((backTo pos (starEach (a :: []) X.env)).all (fun x => !x.1) && (backToKw pos (keywordEach [] X.env)).all (fun x => x.1.isSome)
      && decide ((a :: []).length + ([] : List Keyword).length + (if ([] : List Keyword).isEmpty then 0 else 1) < 30)) = true)
    (hline : (apos.endLine == pos.line) = true) (hs : starEach (a :: []) X.env = (false, eval a X.env) :: starEach [] X.env) : PE X (.Call (.Attribute (.Name y p) "append" apos) [a] [] pos) (TI Z W (.app i ma)) := by
  refine (pe_bm PySem.F.plainAttrs_list PySem.F.slot_list_append PySem.F.type_list_append mt_append (pe_var hN hv hd hcd) (pa_cons ha pa_nil hs) hbase hfew hline hs rfl).imp fun σ H Q h => ?_
  obtain ⟨w, r, S, at_, g⟩ := h
  rw [evalE] at g
  split at g
  · rename_i n hn
    split at g
    · rename_i ys e0
      obtain ⟨v, hv1, hv2⟩ := at_.e.2 i _ hn
      obtain ⟨a0, k1, vs0, k2, k3⟩ := at_.h.at_ e0
      cases hv2 with
      | @ref av _ hal =>
        rw [hal] at k1; cases k1
        refine ⟨_, hv1, .inl ⟨rfl, vs0, .inl (.inl (by rw [← at_.H]; exact k2))⟩, ?_⟩
        refine ⟨w, r, S, at_, g.bindI fun u x q S1 e1 h1 r1 g1 => ?_⟩
        split at g1
        · rename_i xs e
          split at g1
          · rename_i hz
            obtain ⟨a', m1, vs, m2, m3⟩ := h1.at_ e
            have z := e1.ref hal
            rw [m1] at z; cases z
            refine ⟨_, vs, x, rfl, rfl, m2, by rw [m3.length]; exact hz, ?_⟩
            obtain ⟨h2, e2⟩ := h1.write (o := .lst (vs ++ [x])) (m := .lst (xs ++ [q])) m1 fun t et ht => ⟨_, ht, (m3.mono et).snoc (r1.mono et)⟩
            exact g1 _ _ e2 h2 .non
          · exact g1.elim
        · exact g1.elim
    · exact g.elim
  · exact g.elim
/-! ### slices -/
theorem snd_onone : PO X none (TIO Z W .none) := by
  refine po_none.imp fun σ H Q h => ?_
  obtain ⟨w, r, S, at_, g⟩ := h
  rw [evalO] at g
  show Q none H
  rw [← at_.H]
  exact g w none (Ext.refl w) at_.h rfl
theorem snd_osome (ha : PE X a (TI Z W ma)) : PO X (some a) (TIO Z W (.some ma)) := by
  refine (po_some ha).imp fun σ H Q h => ?_
  obtain ⟨w, r, S, at_, g⟩ := h
  rw [evalO] at g
  refine ⟨w, r, S, at_, g.bindI fun u x q S1 e1 h1 r1 g1 => ?_⟩
  cases r1 with
  | int i => exact ⟨i, rfl, g1 u _ (Ext.refl u) h1 rfl⟩
  | _ => exact (show False from g1).elim
theorem Reps.cut {w : Wd} {vs : List V} {xs : List PV} (h : Reps w vs xs) (lo hi : Option Int) : Reps w (cutV vs lo hi) ((xs.drop (HT.sIx xs.length 0 lo)).take (HT.sIx xs.length xs.length hi - HT.sIx xs.length 0 lo)) := by
  unfold cutV
  rw [h.length]
  exact (h.drop _).take _
theorem slP_noexc (x : PV) (lo hi : Option Int) (S : Store) (c : Nat) (a : PV) (S' : Store) : slP x lo hi S ≠ .exc c a S' := by
  intro h
  unfold slP at h
  (repeat' split at h) <;> cases h
/-- a slice by plain values -/
def rSlG (K : PySem.W.Frag) : V → Option Int → Option Int → Hp → VK → Prop := fun x lo hi H Q => ∃ w S p, w.H = H ∧ w.K = K ∧ HRel w S ∧ Rep w x p ∧ GoodN Rep w Q (slP p lo hi S)
theorem sg_all (hK : K = X.K) : SlR X (rSlG K) := by
  intro pins s σ H x v vl vu lo hi sl Q I rx hs pl pu ⟨w, S, p, hw, hk, hr, r1, g⟩
  subst hw
  have lists : ∀ {a : Addr} {vs : List V} {xs : List PV}, x = .ref a → Rd w.H a (.lst vs) → Reps w vs xs → GoodN Rep w Q (.ok (.lst ((xs.drop (HT.sIx xs.length 0 lo)).take (HT.sIx xs.length xs.length hi - HT.sIx xs.length 0 lo))) S : Res PV) →
      ∃ T id, typeLookup (.type T) "__getitem__" = pure (some (.builtin id)) ∧ s.TypeIs v T ∧ wpAny (model X.prog X.w) X.A (getItem v (.ref sl)) (EP X pins σ Q) X.xe s := fun {a vs xs} e q rq g => by
    subst e
    refine sl_list pins s σ _ _ v vl vu lo hi sl Q I rx hs pl pu ⟨a, vs, rfl, .inl q, fun l hl => ?_⟩
    obtain ⟨h3, e3, r3⟩ := hr.newL hl (rq.cut lo hi)
    exact g _ _ e3 h3 r3
  cases r1 with
  | str z =>
    simp only [slP] at g
    split at g
    · rename_i hz
      exact sl_str pins s σ _ _ v vl vu lo hi sl Q I rx hs pl pu ⟨z, rfl, hz, g w _ (Ext.refl w) hr (.str _)⟩
    · exact (show False from g).elim
  | tup q rq =>
    refine sl_tupA pins s σ _ _ v vl vu lo hi sl Q I rx hs pl pu ⟨_, _, rfl, hK ▸ hk ▸ q.sq, fun hw => ?_, fun hw l hl => ?_⟩
    · have e2 := rq.length
      refine g w _ (Ext.refl w) hr ?_
      rename_i a vs xs
      rw [e2] at hw
      have e3 : (xs.drop (HT.sIx xs.length 0 lo)).take (HT.sIx xs.length xs.length hi - HT.sIx xs.length 0 lo) = xs := by
        rw [hw.1, hw.2]; simp
      rw [e3]
      exact .tup q rq
    · obtain ⟨h3, e3, r3⟩ := hr.newT hl (rq.cut lo hi)
      exact g _ _ e3 h3 r3
  | lst q rq => exact lists rfl q.1 rq g
  | @ref a n q =>
    simp only [slP, lstOf] at g
    split at g
    · rename_i xs e
      split at e
      · rename_i ys e2
        cases e
        obtain ⟨a', h1, ws, h2, h3⟩ := hr.at_ e2
        rw [q] at h1; cases h1
        exact lists rfl (.inl h2) h3 g
      · cases e
    · exact (show False from g).elim
  | _ => exact (show False from g).elim
theorem snd_slice {lo hi : Option Expr} (hK : Z.K = X.K) (ha : PE X a (TI Z W ma)) (hl : PO X lo (TIO Z W ml)) (hh : PO X hi (TIO Z W mh)) : PE X (.Subscript a (.Slice lo hi none p2) pos) (TI Z W (.slice ma ml mh)) := by
  refine (pe_slice (sg_all hK) ha hl hh).imp fun σ H Q h => ?_
  obtain ⟨w, r, S, at_, g⟩ := h
  rw [evalE] at g
  refine ⟨w, r, S, at_, g.bindI fun u x q S1 e1 h1 r1 g1 => ?_⟩
  refine ⟨u, r, S1, at_.next e1 h1, g1.bindI fun t l l' S2 e2 h2 r2 g2 => ?_⟩
  subst r2
  refine ⟨t, r, S2, (at_.next e1 h1).next e2 h2, g2.bindI fun t2 l2 l2' S3 e3 h3 r3 g3 => ?_⟩
  subst r3
  exact ⟨t2, S3, q, rfl, e3.k.trans (e2.k.trans (e1.k.trans at_.K)), h3, (r1.mono e2).mono e3, g3.n fun _ _ _ => slP_noexc _ _ _ _ _ _ _⟩
/-! ### isinstance, chains -/
theorem ty_rep {w : Wd} {S : Store} {v : V} {p : PV} {t : String} (hr : HRel w S) (r : Rep w v p) (h : tyP S p = some t) : TyX w.K w.H v (.type t) := by
  cases r with
  | non => cases h; exact .base .non
  | bl b => cases h; exact .base (.bl b)
  | int i => cases h; exact .base (.int i)
  | str x => cases h; exact .base (.str x)
  | tup q rq =>
    cases h
    rcases q with ⟨q | ⟨o, q⟩, _⟩ | ⟨o, its, n, e, c, _⟩
    · exact .base (.tup q)
    · exact .fTuple q
    · exact .kTuple e c
  | lst q rq =>
    cases h
    rcases q.1 with q | ⟨o, q⟩
    · exact .base (.lst q)
    · exact .base (.frz q)
  | @ref a n q =>
    simp only [tyP] at h
    split at h
    · rename_i xs e
      cases h
      obtain ⟨a', h1, ws, h2, h3⟩ := hr.at_ e
      rw [q] at h1; cases h1
      exact .base (.lst h2)
    · rename_i xs e
      cases h
      obtain ⟨a', h1, ws, h2, h3⟩ := hr.at_ e
      rw [q] at h1; cases h1
      exact .base (.dK h2)
    · rename_i xs e
      cases h
      obtain ⟨a', h1, ws, h2, h3⟩ := hr.at_ e
      rw [q] at h1; cases h1
      exact .base (.dT h2)
    · cases h
  | ty n => cases h
  | scr q rq => cases h
/-- a built-in class that isinstance may name -/
def KTy (T : String) : Prop := ∀ (K : PySem.W.Frag) (S : Store) (p : PV) (t : String), tyP S p = some t → PySem.W.kitOne K (.type t) (.type T) = some (subTy t T)
theorem tyP_cases {S : Store} {p : PV} {t : String} (h : tyP S p = some t) : t ∈ ["NoneType", "bool", "int", "str", "tuple", "list", "dict"] := by
  cases p <;> simp only [tyP] at h <;> (repeat' split at h) <;> first | (cases h; decide) | cases h
theorem kty_of {T : String} (h : ∀ t ∈ ["NoneType", "bool", "int", "str", "tuple", "list", "dict"], kitB t T = some (subTy t T)) : KTy T := fun K S p t e => kit_ty (h t (tyP_cases e))
theorem kty_int : KTy "int" := kty_of (by decide +kernel)
theorem kty_bool : KTy "bool" := kty_of (by decide +kernel)
theorem kty_str : KTy "str" := kty_of (by decide +kernel)
theorem kty_tuple : KTy "tuple" := kty_of (by decide +kernel)
theorem kty_list : KTy "list" := kty_of (by decide +kernel)
theorem kty_dict : KTy "dict" := kty_of (by decide +kernel)
theorem snd_isin {T : String} {y : Str} (hK : Z.K = X.K) (hT : KTy T) (hg : Gl X "isinstance") (hm : X.mg "isinstance" = none) (hg2 : Gl X y) (hm2 : X.mg y = none) (hv2 : bootBuiltins y = some (.type T)) (hn2 : y ≠ "__name__") (hd2 : (y == ("__debug__" : Str)) = false) (ha : PE X a (TI Z W ma))
    (hs : starEach [a, .Name y p2] X.env = (false, eval a X.env) :: starEach [.Name y p2] X.env) : PE X (.Call (.Name "isinstance" p) [a, .Name y p2] [] pos) (TI Z W (.bi (.isin [T]) (.cons ma .nil))) := by
  refine (pe_callB call_isi hg hm PyProof.Rows.boot_isinstance (pa_cons ha (pa_cons (pe_bltn (v := .ty T) hg2 hm2 hv2 rfl hn2 hd2) pa_nil rfl) hs) (by decide) (by decide) hs rfl).imp fun σ H Q h => ?_
  obtain ⟨w, r, S, at_, g⟩ := h
  rw [evalE, evalEs, Res.bind_assoc] at g
  refine ⟨w, r, S, at_, g.bindI fun u x q S1 e1 h1 r1 g1 => ?_⟩
  rw [evalEs, Res.bind_ok, Res.bind_ok] at g1
  simp only [opn] at g1
  split at g1
  · rename_i t e
    have ty := ty_rep h1 r1 e
    rw [e1.k.trans (at_.K.trans hK)] at ty
    refine ⟨x, .ty T, .type t, .type T, subTy t T, rfl, .ty T, ty, hT X.K S1 q t e, ?_⟩
    have g2 := g1 u (.bl (subTy t T)) (Ext.refl u) h1
    rw [List.any_cons, List.any_nil, Bool.or_false] at g2
    exact g2 (.bl _)
  · exact (show False from g1).elim
theorem Good.chain {Z : Xc} {W : WX} {σ : St} {H : Hp} {u3 : Wd} {r : PEnv} {S' : Store} {Q : VK} {k : Bool} {o' : O2} {y : V} {q : PV} {mc : ME} (at3 : At Z σ H u3 r S') (ry : Rep u3 y q)
    (g : Good Z W σ Rep u3 Q (match PV.bl k with
      | .bl true => (evalE Z.C mc r S').bind fun u S4 => op2 o' q u S4
      | .bl false => .ok (.bl false) S'
      | _ => .bad)) : if k = true then TI Z W mc σ H fun w' H4 => rg Z.K (op2 o') y w' H4 Q else Q (.bl false) H := by
  cases k with
  | false =>
    have e := at3.H
    subst e
    exact g u3 _ (Ext.refl u3) at3.h (.bl false)
  | true =>
    have g' : Good Z W σ Rep u3 Q ((evalE Z.C mc r S').bind fun u S4 => op2 o' q u S4) := g
    refine ⟨u3, r, S', at3, Good.bindI g' fun u4 x4 p4 S4 e4 h4 r4 g4 => ?_⟩
    exact ⟨u4, S4, q, p4, rfl, e4.k.trans at3.K, h4, ry.mono e4, r4, g4.n (op2_noexc _ _ _ _)⟩
theorem snd_chain {op op' : CmpOp} {o o' : O2} (ho : OpR X (compareOp op) (rg Z.K (op2 o))) (hx : Bo o) (ho' : OpR X (compareOp op') (rg Z.K (op2 o'))) (ha : PE X a (TI Z W ma)) (hb : PE X b (TI Z W mb)) (hc : PE X c (TI Z W mc)) (hm : lastMarks [op, op'] [b, c] = false) :
    PE X (.Compare a [op, op'] [b, c] pos) (TI Z W (.chain o o' ma mb mc)) := by
  refine (pe_chain ho ho' ha hb hc hm).imp fun σ H Q h => ?_
  obtain ⟨w, r, S, at_, g⟩ := h
  rw [evalE] at g
  refine ⟨w, r, S, at_, g.bindI fun u x p S1 e1 h1 r1 g1 => ?_⟩
  refine ⟨u, r, S1, at_.next e1 h1, g1.bindI fun t y q S2 e2 h2 r2 g2 => ?_⟩
  refine ⟨t, S2, p, q, rfl, e2.k.trans (e1.k.trans at_.K), h2, r1.mono e2, r2, ?_⟩
  cases e : op2 o p q S2 with
  | bad => rw [e] at g2; exact g2.elim
  | exc cc aa S' => exact absurd e (op2_noexc _ _ _ _ _ _ _)
  | ok v S' =>
    obtain ⟨k, rfl⟩ := hx _ _ _ _ _ e
    rw [e, Res.bind_ok] at g2
    intro u3 z e3 h3 r3
    cases r3
    exact ⟨k, rfl, Good.chain (((at_.next e1 h1).next e2 h2).next e3 h3) (r2.mono e3) (Good.mono e3 g2)⟩
end
end Dg
end

section
set_option Elab.async false
set_option linter.all false
set_option maxRecDepth 100000
set_option maxHeartbeats 4000000
/-! DgH: what is walked. -/
namespace Dg
open PySem PySem.Spec L2
open PyProof.Rows hiding St

/-! ### enumerate of a tuple -/
set_option maxHeartbeats 1000000 in
theorem meets_enum1 {v : Value} {o : Obj} {H : Heap → Prop} (B : Begins v o H) :
    Meets (Builtin.«enumerate.__new__» ⟨[.type "enumerate", v], []⟩) (fun _ R s => H s.heap ∧
      R (.ok (.ret (.ref (s.heap.push o).objs.size))) { s with heap := (s.heap.push o).push { cls := .type "enumerate", data := .fields #[.none, .bool false, .ref s.heap.objs.size, rawInt 0, .none, .none] } }) :=
  .of_wp fun prog w A R s h => by
    obtain ⟨hp, g, d, tk, os⟩ := s; obtain ⟨h1, h⟩ := h
    have hsub := sub_enumerate
    have q1 : ∀ {A' : Around} {E : Value → Shared → Prop} {Q : Value → Shared → Prop}, Q (.ref hp.objs.size) ⟨hp.push o, g, d, tk, os⟩ → wpAny (model prog w) A' (pyIter v) Q E ⟨hp, g, d, tk, os⟩ :=
      fun q => B.iter prog w _ _ ⟨hp, g, d, tk, os⟩ _ h1 q
    wp_walk using q1
    refine wpAny_stack_any fun st => wpAny_pure ?_
    split
    · rename_i c _ _ _ _ _
      cases (c == Value.type "enumerate")
      · wp_walk using q1
        exact ⟨_, rfl, h⟩
      · wp_walk using q1
        exact ⟨_, rfl, h⟩
    · wp_walk using q1
      exact ⟨_, rfl, h⟩
section
variable {prog : Program} {w : World} {A : Around} {E : Value → Shared → Prop} {s : Shared}
theorem enum_begins1 {v : Value} {o : Obj} {H : Heap → Prop} {Q : Value → Shared → Prop} (B : Begins v o H) (h1 : H s.heap)
    (h : ∀ h', IsEnum h' (s.heap.objs.size + 1) s.heap.objs.size 0 .none → h'.get? s.heap.objs.size = some o → h'.objs.size = s.heap.objs.size + 2 →
      (∀ b o, s.heap.get? b = some o → h'.get? b = some o) → Q (.ref (s.heap.objs.size + 1)) { s with heap := h' }) :
    wpAny (model prog w) A (call (.type "enumerate") [v]) Q E s := by
  refine callType_new F.called_enumerate (by decide) (F.typeCall_enumerate_1 _) (F.newCall_enumerate_1 _) (fun obj => F.args_object_init_2 obj _) F.entry_enumerate_new
    (meets_enum1 B) ⟨h1, ?_⟩
  have hz : (s.heap.push o).objs.size = s.heap.objs.size + 1 := Heap.size_push ..
  show _ ∧ _
  rw [hz]
  have he : IsEnum ((s.heap.push o).push { cls := .type "enumerate", data := .fields #[.none, .bool false, .ref s.heap.objs.size, rawInt 0, .none, .none] }) (s.heap.objs.size + 1) s.heap.objs.size 0 .none := by
    have := Heap.get?_push_size (s.heap.push o) (o := { cls := .type "enumerate", data := .fields #[.none, .bool false, .ref s.heap.objs.size, rawInt 0, .none, .none] }) rfl
    rw [hz] at this; exact this
  refine ⟨⟨_, he, rfl⟩, h _ he (Heap.get?_push_of_some _ (Heap.get?_push_size _ B.free)) (by rw [Heap.size_push, hz]) fun b o x => Heap.get?_push_of_some _ (Heap.get?_push_of_some _ x)⟩
end
/-- the end -/
theorem enum_endT {prog : Program} {w : World} {A : Around} {E : Value → Shared → Prop} {s : Shared} {e it l : Addr} {items : Array Value} {i : Nat} {j : Int} {old : Value} {Q : Option Value → Shared → Prop} (hh : A.handled = none)
    (he : IsEnum s.heap e it j old) (hit : s.heap.IsTupleIter it l i) (hl : s.heap.IsTuple l items) (hx : items[i]? = none)
    (hQ : ∀ h', Heap.ExtBut it s.heap h' → Q none { s with heap := h' }) : wpAny (model prog w) A (pyNext (.ref e)) Q E s := by
  have hT : s.TypeIs (.ref e) "enumerate" := ⟨_, he, rfl⟩
  unfold pyNext
  refine wpAny_bind (wpAny_attempt (wpAny_callSpecial?_slot (name := Str.ofString "__next__") hT F.slot_enumerate_next
    (wpAny_call_entry F.slot_enumerate_next hT F.entry_enumerate_next ?_ (F.args_enumerate_next_1 _))))
  show wpAny _ _ (field (.ref e) 2 >>= _) _ _ _
  refine wpAny_bind (wpAny_field he rfl (x := .ref it) rfl ?_)
  refine wpAny_bind (RZ.nextOf_tuple_end (A := A.in1) hh hit hl hx fun h' x he' hx' => ?_)
  obtain ⟨o, ho, hc⟩ := hx'
  refine wpAny_bind (wpAny_isInstance (T := "StopIteration") (b := true) ⟨o, ho, hc⟩ isSubtype_stop ?_)
  exact wpAny_pure (hQ _ he')
def IteT (K : PySem.W.Frag) (a : Addr) : It :=
  ⟨fun i H => ∃ (xs : List V) (x : V), SqT K H a xs ∧ xs[i]? = some x, fun i H v H' => ∃ T x, v = .ref T ∧ H T = none ∧ H' = upd H T (.tup [.int (i : Nat), x]) ∧ ∀ xs, SqT K H a xs → xs[i]? = some x, fun i H => ∃ xs : List V, SqT K H a xs ∧ xs.length ≤ i⟩
theorem turn_enumT {P : Program} {w : World} {K : PySem.W.Frag} {elts : List Expr} {kk : Nat} {tpos : Pos} (a e it n : Addr) (hea : e ≠ a) (hita : a ≠ it) :
    Turn P w K (.Tuple elts kk tpos) (IteT K a) [e, it] e (fun i h => (∃ old, IsEnum h e it ((i : Nat) : Int) old) ∧ h.IsTupleIter it a i ∧ e ≠ it) where
  mem := by simp
  obj := fun i h st b hb => by
    obtain ⟨⟨old, he⟩, ⟨o, ho, hc, hd⟩, _⟩ := st
    have e' : b = e ∨ b = it := by simpa using hb
    rcases e' with z | z
    · rw [z]; exact ⟨_, he, fun v q => nomatch q⟩
    · rw [z]; exact ⟨o, ho, fun v q => by rw [hd] at q; cases q⟩
  keep := fun i h h' st k => let ⟨⟨old, he⟩, hi, hne⟩ := st; ⟨⟨old, k e (by simp) _ he⟩, hi.at fun o q => k it (by simp) o q, hne⟩
  item := by
    intro X hP hw hK hc i pins s σ H E I hf st hg
    subst hP hw hK
    obtain ⟨⟨old, he⟩, hit, hne⟩ := st
    obtain ⟨xs, x, hq, hx⟩ := hg
    obtain ⟨its, rv, p, hz⟩ := I.tuple hq
    obtain ⟨u, hu, ru⟩ := rv.get hx
    have hel : e < s.heap.objs.size := Heap.lt_size he
    have hil : it < s.heap.objs.size := by obtain ⟨_, q, _⟩ := hit; exact Heap.lt_size q
    have D := Draws.tuple (prog := X.prog) (w := X.w) (A := X.A.in1) (I.ok.hd hc) it a hita its.toArray
    have hi : i < its.toArray.size := by rw [List.size_toArray, ← rv.length]; exact (List.getElem?_eq_some_iff.mp hx).1
    refine wpAny_pyNext_enum_itemD D he ⟨hit, show s.heap.IsTuple a its.toArray from p⟩ hi hne (by simp [hne, hea]) fun y h' tk hy ho hst hT hsz hk => ?_
    have hy' : its[i]? = some y := by simpa using hy
    rw [hu] at hy'; cases hy'
    obtain ⟨hit', _⟩ := hst
    refine ⟨_, rfl, wpAny_letOwnedTupleGo_enum (s := { s with heap := h', toks := tk + 1 }) ho fun h'' he' sb => ?_⟩
    have hT2 : h''.get? s.heap.objs.size = some { cls := .type "tuple", data := .seq #[.int i tk, u] } := (sb.2 _ (Nat.ne_of_gt hel)).trans hT
    have new : ObjOk X.prog X.w (upd H s.heap.objs.size (.tup [.int (i : Nat), x])) h'' s.heap.objs.size (.tup [.int (i : Nat), x]) :=
      ⟨by show 2 ≤ sizeLine; decide, [.int i tk, u], .cons ⟨_, rfl⟩ (.cons ru .nil), ⟨_, hT2, rfl, _, rfl⟩⟩
    have I1 : Inv X pins σ (upd H s.heap.objs.size (.tup [.int (i : Nat), x])) { s with heap := h'', toks := tk + 1 } :=
      I.turnedNew (ch := [e, it]) (fun b ob hb q => (sb.2 b (fun z => hb (by simp [z]))).trans (hk b ob (fun z => hb (by simp [z])) (fun z => hb (by simp [z])) q)) hf (Nat.le_refl _) new
    refine ⟨.ref s.heap.objs.size, _, I1, rfl, ⟨_, x, rfl, I.hok.fresh (Nat.le_refl _), rfl, fun ys hy => by rw [I.tuple_inj hy hq]; exact hx⟩, ⟨⟨u, ?_⟩, hit'.at fun o q => (sb.2 it (Ne.symm hne)).trans q, hne⟩, fun b hb => ?_⟩
    · have e1 : ((i + 1 : Nat) : Int) = (i : Int) + 1 := by omega
      rw [e1]; exact he'
    · have hb' : b < s.heap.objs.size := by
        have e' : b = e ∨ b = it := by simpa using hb
        rcases e' with z | z
        · rw [z]; exact hel
        · rw [z]; exact hil
      rw [upd_ne (Nat.ne_of_lt hb')]
      exact (hf b hb).1
  done := by
    intro X hP hw hK hc i pins s σ H E I hf st hg
    subst hP hw hK
    obtain ⟨⟨old, he⟩, hit, hne⟩ := st
    obtain ⟨xs, hq, hx⟩ := hg
    obtain ⟨its, rv, p, hz⟩ := I.tuple hq
    obtain ⟨f0, f1, f2, f3, f4, f5⟩ := hf it (by simp)
    have hl := rv.length
    have hi : its.toArray[i]? = none := by simp; omega
    refine enum_endT (I.ok.hd hc) he hit (show s.heap.IsTuple a its.toArray from p) hi fun h' eb => ⟨rfl, I.turned (t' := s.toks) (fun b o hb q => eb b o hb q) f0 f1 f3 f4 f5⟩
  self := fun A i s Q E st h => let ⟨⟨_, he⟩, _⟩ := st; wpAny_pyIter_enum he h
/-- enumerate of a list or a tuple -/
def iEnumA (K : PySem.W.Frag) (ta : TA) : L2.TI := fun σ H R => ta σ H fun vs H1 => ∃ a, vs = [.ref a] ∧ ((∃ xs, SqL K H1 a xs ∧ R (Ite K a) H1) ∨ (∃ xs, SqT K H1 a xs ∧ R (IteT K a) H1))
theorem pi_enumA {X : Cx} {e : Expr} {ta : TA} {p pos tpos : Pos} {elts : List Expr} {kk : Nat} (hg : Gl X "enumerate") (hm : X.mg "enumerate" = none) (ha : PA X [e] ta) (hs : starEach [e] X.env = [(false, eval e X.env)]) :
    PI X (.Tuple elts kk tpos) (.Call (.Name "enumerate" p) [e] [] pos) (iEnumA X.K ta) := by
  refine ⟨fun pins s σ H R I h => ?_⟩
  refine Call_ (ld_blt I hg hm PyProof.Rows.boot_enumerate (PyProof.Rows.callWith_type1 (thn (ha.run pos pins s σ H _ I h) fun us s1 ⟨vs, H1, I1, r1, q1⟩ => ?_) hs rfl))
  · obtain ⟨a, e1, q⟩ := q1
    subst e1
    cases r1 with
    | cons r rr =>
      cases rr
      cases r
      have fresh : ∀ b ∈ [s1.heap.objs.size + 1, s1.heap.objs.size], FpOk X pins H1 b := fun b hb => by
        have e' : b = s1.heap.objs.size + 1 ∨ b = s1.heap.objs.size := by simpa using hb
        have hle : s1.heap.objs.size ≤ b := by
          rcases e' with z | z
          · rw [z]; exact Nat.le_add_right _ _
          · rw [z]; exact Nat.le_refl _
        exact I1.fpOk hle (I1.hok.fresh hle)
      rcases q with ⟨xs, hq, q⟩ | ⟨xs, hq, q⟩
      · obtain ⟨its, rv, p', hz⟩ := I1.list hq
        refine call_enumerate_list p'.isList fun h' he hit hsz hk => wpAny_pyIter_enum he ?_
        have I2 : Inv X pins σ H1 { s1 with heap := h' } := I1.kept (t' := s1.toks) hk
        exact ⟨s1.heap.objs.size + 1, [s1.heap.objs.size + 1, s1.heap.objs.size], _, _, H1, rfl, I2, turn_enum a (s1.heap.objs.size + 1) s1.heap.objs.size, ⟨⟨.none, he⟩, hit, Nat.succ_ne_self _⟩, fresh, q⟩
      · obtain ⟨its, rv, p', hz⟩ := I1.tuple hq
        have ht : s1.heap.IsTuple a its.toArray := p'
        refine enum_begins1 (begins_tuple a its.toArray) ht fun h' he hit hsz hk => wpAny_pyIter_enum he ?_
        have I2 : Inv X pins σ H1 { s1 with heap := h' } := I1.kept (t' := s1.toks) hk
        have hlt : a < s1.heap.objs.size := by obtain ⟨o, ho, _⟩ := ht; exact Heap.lt_size ho
        exact ⟨s1.heap.objs.size + 1, [s1.heap.objs.size + 1, s1.heap.objs.size], _, _, H1, rfl, I2, turn_enumT a (s1.heap.objs.size + 1) s1.heap.objs.size 0 (Nat.ne_of_gt (Nat.lt_succ_of_lt hlt)) (Nat.ne_of_lt hlt), ⟨⟨.none, he⟩, ⟨_, hit, rfl, rfl⟩, Nat.succ_ne_self _⟩, fresh, q⟩
end Dg
end

section
set_option Elab.async false
set_option linter.all false
set_option maxRecDepth 100000
set_option maxHeartbeats 4000000
/-! DgI: iterators by plain lists; statements. -/
namespace Dg
open PySem PySem.Spec L2
open PyProof.Rows hiding St

/-- what an iterator gives, while what it walks stays -/
structure Wk (J : It) (w0 : Wd) (g : Option (Nat × List PV)) (xs : List PV) : Prop where
  goes : ∀ (u : Wd) (S : Store) (i : Nat), RM w0 u → HRel u S → Grd g S → i < xs.length → J.go i u.H
  stops : ∀ (u : Wd) (S : Store), RM w0 u → HRel u S → Grd g S → J.stop xs.length u.H
  yields : ∀ (u : Wd) (S : Store) (i : Nat) (x : V) (H' : Hp), RM w0 u → HRel u S → Grd g S → i < xs.length → J.yld i u.H x H' → ∃ u' p, u'.H = H' ∧ Ext u u' ∧ HRel u' S ∧ xs[i]? = some p ∧ Rep u' x p
def LAt (w : Wd) (a : Addr) (g : Option (Nat × List PV)) (xs : List PV) : Prop := ∀ (u : Wd) (S : Store), RM w u → HRel u S → Grd g S → ∃ vs, SqL w.K u.H a vs ∧ Reps u vs xs
def TAt (w : Wd) (a : Addr) (xs : List PV) : Prop := ∀ (u : Wd), RM w u → ∃ vs, SqT w.K u.H a vs ∧ Reps u vs xs
theorem LAt.lst {w : Wd} {a : Addr} {vs : List V} {xs : List PV} (h : RLs w a vs) (r : Reps w vs xs) : LAt w a none xs := fun u S e _ _ => by
  have q := (h.monoR e).sq
  rw [e.k] at q
  exact ⟨vs, q, r.monoR e⟩
theorem LAt.ref {w : Wd} {a : Addr} {n : Nat} {xs : List PV} (h : w.al[n]? = some a) : LAt w a (some (n, xs)) xs := fun u S e hr g => by
  obtain ⟨vs, h1, h2⟩ := hr.objs n a _ (e.al _ _ h) g
  exact ⟨vs, .inl (.inl h1), h2⟩
theorem TAt.tup {w : Wd} {a : Addr} {vs : List V} {xs : List PV} (h : RTs w a vs) (r : Reps w vs xs) : TAt w a xs := fun u e => by
  have q := (h.monoR e).sq
  rw [e.k] at q
  exact ⟨vs, q, r.monoR e⟩
theorem enumP_length : ∀ (xs : List PV) (k : Nat), (enumP k xs).length = xs.length
  | [], _ => rfl
  | _ :: xs, k => congrArg Nat.succ (enumP_length xs (k + 1))
theorem enumP_get : ∀ (xs : List PV) (k i : Nat) (x : PV), xs[i]? = some x → (enumP k xs)[i]? = some (.tup [.int ((k + i : Nat) : Int), x])
  | _ :: _, k, 0, x, h => by
    have z : some _ = some x := h
    cases z; rfl
  | _ :: xs, k, i + 1, x, h => by
    have z := enumP_get xs (k + 1) i x h
    rw [show k + 1 + i = k + (i + 1) by omega] at z
    exact z
theorem zipP_length : ∀ (xs ys : List PV), (zipP xs ys).length = min xs.length ys.length
  | [], ys => by simp [zipP]
  | _ :: _, [] => by simp [zipP]
  | _ :: xs, _ :: ys => by simp only [zipP, List.length_cons, zipP_length xs ys]; omega
theorem zipP_get : ∀ (xs ys : List PV) (i : Nat) (x y : PV), xs[i]? = some x → ys[i]? = some y → (zipP xs ys)[i]? = some (.tup [x, y])
  | _ :: _, _ :: _, 0, x, y, h, k => by
    have z : some _ = some x := h
    have z2 : some _ = some y := k
    cases z; cases z2; rfl
  | _ :: xs, _ :: ys, i + 1, x, y, h, k => zipP_get xs ys i x y h k
  | [], _, _, _, _, h, _ => by simp at h
  | _ :: _, [], _, _, _, _, k => by simp at k
theorem wk_l {w : Wd} {a : Addr} {g : Option (Nat × List PV)} {xs : List PV} (h : LAt w a g xs) : Wk (Itl w.K a) w g xs := by
  refine ⟨fun u S i e hr hg hi => ?_, fun u S e hr hg => ?_, fun u S i x H' e hr hg hi y => ?_⟩
  · obtain ⟨vs, q, r⟩ := h u S e hr hg
    exact ⟨vs, vs[i]'(by rw [r.length]; exact hi), q, List.getElem?_eq_getElem _⟩
  · obtain ⟨vs, q, r⟩ := h u S e hr hg
    exact ⟨vs, q, Nat.le_of_eq r.length⟩
  · obtain ⟨vs, q, r⟩ := h u S e hr hg
    obtain ⟨p, h1, h2⟩ := r.getV (y.2 vs q)
    exact ⟨u, p, y.1.symm, Ext.refl u, hr, h1, h2⟩
theorem wk_t {w : Wd} {a : Addr} {xs : List PV} (h : TAt w a xs) : Wk (Itt w.K a) w none xs := by
  refine ⟨fun u S i e hr hg hi => ?_, fun u S e hr hg => ?_, fun u S i x H' e hr hg hi y => ?_⟩
  · obtain ⟨vs, q, r⟩ := h u e
    exact ⟨vs, vs[i]'(by rw [r.length]; exact hi), q, List.getElem?_eq_getElem _⟩
  · obtain ⟨vs, q, r⟩ := h u e
    exact ⟨vs, q, Nat.le_of_eq r.length⟩
  · obtain ⟨vs, q, r⟩ := h u e
    obtain ⟨p, h1, h2⟩ := r.getV (y.2 vs q)
    exact ⟨u, p, y.1.symm, Ext.refl u, hr, h1, h2⟩
theorem wk_pair {u : Wd} {S : Store} {T : Addr} {x y : V} {p q : PV} (hr : HRel u S) (hT : u.H T = none) (r1 : Rep u x p) (r2 : Rep u y q) : ∃ u', u'.H = upd u.H T (.tup [x, y]) ∧ Ext u u' ∧ HRel u' S ∧ Rep u' (.ref T) (.tup [p, q]) := by
  obtain ⟨h, e, r⟩ := hr.newT hT (.cons r1 (.cons r2 .nil))
  exact ⟨_, rfl, e, h, r⟩
theorem wk_el {w : Wd} {a : Addr} {g : Option (Nat × List PV)} {xs : List PV} (h : LAt w a g xs) : Wk (Ite w.K a) w g (enumP 0 xs) := by
  refine ⟨fun u S i e hr hg hi => ?_, fun u S e hr hg => ?_, fun u S i x H' e hr hg hi y => ?_⟩
  · obtain ⟨vs, q, r⟩ := h u S e hr hg
    rw [enumP_length] at hi
    exact ⟨vs, vs[i]'(by rw [r.length]; exact hi), q, List.getElem?_eq_getElem _⟩
  · obtain ⟨vs, q, r⟩ := h u S e hr hg
    exact ⟨vs, q, by rw [enumP_length]; exact Nat.le_of_eq r.length⟩
  · obtain ⟨vs, q, r⟩ := h u S e hr hg
    obtain ⟨T, z, rfl, hT, rfl, hz⟩ := y
    obtain ⟨p, h1, h2⟩ := r.getV (hz vs q)
    obtain ⟨u', a1, a2, a3, a4⟩ := wk_pair hr hT (.int (i : Nat)) h2
    have z := enumP_get xs 0 i p h1
    rw [Nat.zero_add] at z
    exact ⟨u', _, a1, a2, a3, z, a4⟩
theorem wk_et {w : Wd} {a : Addr} {xs : List PV} (h : TAt w a xs) : Wk (IteT w.K a) w none (enumP 0 xs) := by
  refine ⟨fun u S i e hr hg hi => ?_, fun u S e hr hg => ?_, fun u S i x H' e hr hg hi y => ?_⟩
  · obtain ⟨vs, q, r⟩ := h u e
    rw [enumP_length] at hi
    exact ⟨vs, vs[i]'(by rw [r.length]; exact hi), q, List.getElem?_eq_getElem _⟩
  · obtain ⟨vs, q, r⟩ := h u e
    exact ⟨vs, q, by rw [enumP_length]; exact Nat.le_of_eq r.length⟩
  · obtain ⟨vs, q, r⟩ := h u e
    obtain ⟨T, z, rfl, hT, rfl, hz⟩ := y
    obtain ⟨p, h1, h2⟩ := r.getV (hz vs q)
    obtain ⟨u', a1, a2, a3, a4⟩ := wk_pair hr hT (.int (i : Nat)) h2
    have z := enumP_get xs 0 i p h1
    rw [Nat.zero_add] at z
    exact ⟨u', _, a1, a2, a3, z, a4⟩
theorem wk_zt {w : Wd} {a b : Addr} {xs ys : List PV} (h : TAt w a xs) (k : TAt w b ys) : Wk (RZ.ItzT w.K a b) w none (zipP xs ys) := by
  refine ⟨fun u S i e hr hg hi => ?_, fun u S e hr hg => ?_, fun u S i x H' e hr hg hi y => ?_⟩
  · obtain ⟨vs, q, r⟩ := h u e
    obtain ⟨us, q2, r2⟩ := k u e
    rw [zipP_length, ← r.length, ← r2.length] at hi
    exact ⟨vs, us, vs[i]'(by omega), us[i]'(by omega), q, q2, List.getElem?_eq_getElem _, List.getElem?_eq_getElem _⟩
  · obtain ⟨vs, q, r⟩ := h u e
    obtain ⟨us, q2, r2⟩ := k u e
    exact ⟨vs, us, q, q2, by rw [zipP_length, ← r.length, ← r2.length]; omega⟩
  · obtain ⟨vs, q, r⟩ := h u e
    obtain ⟨us, q2, r2⟩ := k u e
    obtain ⟨T, z, z2, rfl, hT, rfl, hz, hz2⟩ := y
    obtain ⟨p, h1, h2⟩ := r.getV (hz vs q)
    obtain ⟨p2, h12, h22⟩ := r2.getV (hz2 us q2)
    obtain ⟨u', a1, a2, a3, a4⟩ := wk_pair hr hT h2 h22
    exact ⟨u', _, a1, a2, a3, zipP_get xs ys i p p2 h1 h12, a4⟩
theorem wk_zl {w : Wd} {a b : Addr} {xs ys : List PV} (h : LAt w a none xs) (k : LAt w b none ys) : Wk (Itz w.K a b) w none (zipP xs ys) := by
  refine ⟨fun u S i e hr hg hi => ?_, fun u S e hr hg => ?_, fun u S i x H' e hr hg hi y => ?_⟩
  · obtain ⟨vs, q, r⟩ := h u S e hr hg
    obtain ⟨us, q2, r2⟩ := k u S e hr hg
    rw [zipP_length, ← r.length, ← r2.length] at hi
    exact ⟨vs, us, vs[i]'(by omega), us[i]'(by omega), q, q2, List.getElem?_eq_getElem _, List.getElem?_eq_getElem _⟩
  · obtain ⟨vs, q, r⟩ := h u S e hr hg
    obtain ⟨us, q2, r2⟩ := k u S e hr hg
    exact ⟨vs, us, q, q2, by rw [zipP_length, ← r.length, ← r2.length]; omega⟩
  · obtain ⟨vs, q, r⟩ := h u S e hr hg
    obtain ⟨us, q2, r2⟩ := k u S e hr hg
    obtain ⟨T, z, z2, rfl, hT, rfl, hz, hz2⟩ := y
    obtain ⟨p, h1, h2⟩ := r.getV (hz vs q)
    obtain ⟨p2, h12, h22⟩ := r2.getV (hz2 us q2)
    obtain ⟨u', a1, a2, a3, a4⟩ := wk_pair hr hT h2 h22
    exact ⟨u', _, a1, a2, a3, zipP_get xs ys i p p2 h1 h12, a4⟩
theorem wk_r {w : Wd} (lo : Int) (n : Nat) : Wk (Itr lo n) w none ((List.range n).map fun (k : Nat) => .int (lo + (k : Int))) := by
  refine ⟨fun u S i e hr hg hi => ?_, fun u S e hr hg => ?_, fun u S i x H' e hr hg hi y => ?_⟩
  · rw [List.length_map, List.length_range] at hi; exact hi
  · rw [List.length_map, List.length_range]; exact Nat.le_refl n
  · rw [List.length_map, List.length_range] at hi
    obtain ⟨rfl, rfl⟩ := y
    exact ⟨u, .int (lo + (i : Nat)), rfl, Ext.refl u, hr, by rw [List.getElem?_map, List.getElem?_range hi]; rfl, .int _⟩
theorem wk_s {w : Wd} (z : Str) : Wk (Its z) w none (z.cps.toList.map fun c => .str ⟨#[c]⟩) := by
  refine ⟨fun u S i e hr hg hi => ?_, fun u S e hr hg => ?_, fun u S i x H' e hr hg hi y => ?_⟩
  · rw [List.length_map, Array.length_toList] at hi; exact hi
  · rw [List.length_map, Array.length_toList]; exact Nat.le_refl _
  · obtain ⟨rfl, c, hc, rfl⟩ := y
    exact ⟨u, .str ⟨#[c]⟩, rfl, Ext.refl u, hr, by rw [List.getElem?_map, Array.getElem?_toList, hc]; rfl, .str _⟩

def TII (Z : Xc) (W : WX) (m : IT) : L2.TI := fun σ H R => ∃ w r S, At Z σ H w r S ∧ Good Z W σ (fun u J p => Wk J u p.2 p.1) w R (evalI Z.C m r S)
theorem bind_ok_inv {β γ : Type} {r : Res β} {f : β → Store → Res γ} {c : γ} {S : Store} (h : r.bind f = .ok c S) : ∃ b S1, r = .ok b S1 ∧ f b S1 = .ok c S := by
  cases r with
  | ok b S1 => exact ⟨b, S1, rfl, h⟩
  | exc c a S1 => cases h
  | bad => cases h
theorem evalI_grd {C : Cxt} {m : IT} {r : PEnv} {S S1 : Store} {p : List PV × Option (Nat × List PV)} (h : evalI C m r S = .ok p S1) : Grd p.2 S1 := by
  cases m with
  | of e =>
    rw [evalI] at h
    obtain ⟨x, S2, h1, h2⟩ := bind_ok_inv h
    split at h2
    · cases h2; trivial
    · split at h2
      · rename_i e; cases h2; exact e
      · cases h2
    · split at h2
      · cases h2; trivial
      · cases h2
  | range es =>
    rw [evalI] at h
    obtain ⟨x, S2, h1, h2⟩ := bind_ok_inv h
    split at h2
    · cases h2; trivial
    · cases h2
  | enum e =>
    rw [evalI] at h
    obtain ⟨x, S2, h1, h2⟩ := bind_ok_inv h
    split at h2
    · split at h2
      · rename_i e; cases h2; exact e
      · cases h2
    · split at h2
      · cases h2; trivial
      · cases h2
  | zip a b =>
    rw [evalI] at h
    obtain ⟨x, S2, h1, h2⟩ := bind_ok_inv h
    obtain ⟨y, S3, h3, h4⟩ := bind_ok_inv h2
    split at h4
    · cases h4; trivial
    · cases h4; trivial
    · cases h4
section
variable {X : Cx} {Z : Xc} {W : WX} {a b c e tg : Expr} {ma mb mc : ME} {pos p : Pos}
theorem _root_.L2.PI.imp {t t' : L2.TI} (h : PI X tg e t) (i : ∀ σ H Q, t' σ H Q → t σ H Q) : PI X tg e t' := ⟨fun pins s σ H Q I q => h.run pins s σ H Q I (i σ H Q q)⟩
/-- by what the value is: a list, a tuple, a text -/
def iAny (K : PySem.W.Frag) (tl : TE) : L2.TI := fun σ H R => tl σ H fun x H1 => (∃ a, x = .ref a ∧ (∃ xs, SqL K H1 a xs) ∧ R (Itl K a) H1) ∨ (∃ a, x = .ref a ∧ (∃ xs, SqT K H1 a xs) ∧ R (Itt K a) H1) ∨ ∃ z, x = .str z ∧ R (Its z) H1
theorem pi_any {l : Expr} {tl : TE} (hl : PE X l tl) : PI X tg l (iAny X.K tl) := by
  refine ⟨fun pins s σ H R I h => ?_⟩
  refine thn (hl.run pins s σ H _ I h) fun v s1 ⟨x, H1, I1, r1, q1⟩ => ?_
  rcases q1 with ⟨a, e, ⟨xs, hq⟩, q⟩ | ⟨a, e, ⟨xs, hq⟩, q⟩ | ⟨z, e, q⟩
  · subst e
    cases r1
    obtain ⟨its, rv, p, hz⟩ := I1.list hq
    refine wpAny_pyIter_list p.isList ?_
    refine ⟨s1.heap.objs.size, [s1.heap.objs.size], _, _, H1, rfl, I1.kept (t' := s1.toks) fun b o e => Heap.get?_push_of_some _ e, turn_list a _, ⟨_, Heap.get?_push_size _ rfl, rfl, rfl⟩, fun b hb => ?_, q⟩
    have e : b = s1.heap.objs.size := by simpa using hb
    subst e
    exact I1.fpOk (Nat.le_refl _) (I1.hok.fresh (Nat.le_refl _))
  · subst e
    cases r1
    obtain ⟨its, rv, p, hz⟩ := I1.tuple hq
    refine wpAny_pyIter_tuple (show s1.heap.IsTuple a its.toArray from p) ?_
    refine ⟨s1.heap.objs.size, [s1.heap.objs.size], _, _, H1, rfl, I1.kept (t' := s1.toks) fun b o e => Heap.get?_push_of_some _ e, turn_tuple a _, ⟨_, Heap.get?_push_size _ rfl, rfl, rfl⟩, fun b hb => ?_, q⟩
    have e : b = s1.heap.objs.size := by simpa using hb
    subst e
    exact I1.fpOk (Nat.le_refl _) (I1.hok.fresh (Nat.le_refl _))
  · subst e
    obtain ⟨t, rfl⟩ := r1
    cases ha : z.cps.all (· < 128)
    · exact wpAny_pyIter_wide ha (pi_one (tk := s1.toks) I1 _ (turn_str _ z t "str_iterator" (.inr rfl)) ⟨_, Heap.get?_push_size _ rfl, rfl, rfl⟩ q)
    · exact wpAny_pyIter_ascii ha (pi_one (tk := s1.toks) I1 _ (turn_str _ z t "str_ascii_iterator" (.inl rfl)) ⟨_, Heap.get?_push_size _ rfl, rfl, rfl⟩ q)
theorem Good.okI {α β : Type} {Z : Xc} {W : WX} {σ : St} {R : Wd → α → β → Prop} {w : Wd} {Q : α → Hp → Prop} {b : β} {S : Store} {x : α} (g : Good Z W σ R w Q (.ok b S)) (hr : HRel w S) (r : R w x b) : Q x w.H := g w x (Ext.refl w) hr r
theorem snd_of (hK : Z.K = X.K) (ha : PE X e (TI Z W ma)) : PI X tg e (TII Z W (.of ma)) := by
  refine (pi_any ha).imp fun σ H R h => ?_
  obtain ⟨w, r, S, at_, g⟩ := h
  rw [evalI] at g
  refine ⟨w, r, S, at_, g.bindI fun u x q S1 e1 h1 r1 g1 => ?_⟩
  have kk : u.K = X.K := e1.k.trans (at_.K.trans hK)
  cases r1 with
  | str z => exact .inr (.inr ⟨z, rfl, g1.okI h1 (wk_s z)⟩)
  | @ref a n al =>
    dsimp only at g1
    split at g1
    · rename_i xs e2
      obtain ⟨vs, q1, q2⟩ := LAt.ref (xs := xs) al u S1 (Ext.refl u).rm h1 e2
      rw [kk] at q1
      have wk := wk_l (LAt.ref (xs := xs) al)
      rw [kk] at wk
      exact .inl ⟨a, rfl, ⟨vs, q1⟩, g1.okI h1 wk⟩
    · exact g1.elim
  | @lst a vs xs q rs =>
    have hl : RLs u a vs := .inl q
    have wk := wk_l (LAt.lst hl rs)
    have sq := hl.sq
    rw [kk] at wk sq
    exact .inl ⟨a, rfl, ⟨vs, sq⟩, Good.okI (b := (xs, none)) g1 h1 wk⟩
  | @scr a vs xs hl rs =>
    have wk := wk_l (LAt.lst hl rs)
    have sq := hl.sq
    rw [kk] at wk sq
    exact .inl ⟨a, rfl, ⟨vs, sq⟩, Good.okI (b := (xs, none)) g1 h1 wk⟩
  | @tup a vs xs hl rs =>
    have wk := wk_t (TAt.tup hl rs)
    have sq := hl.sq
    rw [kk] at wk sq
    exact .inr (.inl ⟨a, rfl, ⟨vs, sq⟩, Good.okI (b := (xs, none)) g1 h1 wk⟩)
  | _ => exact (show False from g1).elim
theorem Rep.int_of {w : Wd} {v : V} {i : Int} (r : Rep w v (.int i)) : v = .int i := by cases r; rfl
theorem Good.bindE {α β α' γ : Type} {Z : Xc} {W : WX} {σ : St} {R : Wd → α → β → Prop} {R2 : Wd → α' → γ → Prop} {w : Wd} {Q : α' → Hp → Prop} {K : α → Hp → Prop} {r : Res β} {f : β → Store → Res γ} (g : Good Z W σ R2 w Q (r.bind f))
    (k : ∀ u x b S1, r = .ok b S1 → Ext w u → HRel u S1 → R u x b → Good Z W σ R2 u Q (f b S1) → K x u.H) : Good Z W σ R w K r := by
  cases r with
  | ok b S => exact fun u x e h q => k u x b S rfl e h q (Good.mono e g)
  | exc c a S => exact g
  | bad => exact g
def lenMs : MEs → Nat
  | .nil => 0
  | .cons _ es => lenMs es + 1
theorem evalEs_len {C : Cxt} : ∀ {ms : MEs} {r : PEnv} {S S1 : Store} {q : List PV}, evalEs C ms r S = .ok q S1 → q.length = lenMs ms
  | .nil, _, _, _, _, h => by rw [evalEs] at h; cases h; rfl
  | .cons e es, _, _, _, _, h => by
    rw [evalEs] at h
    obtain ⟨x, S2, h1, h2⟩ := bind_ok_inv h
    obtain ⟨y, S3, h3, h4⟩ := bind_ok_inv h2
    cases h4
    show y.length + 1 = _
    rw [evalEs_len h3]; rfl
theorem snd_range1 (hg : Gl X "range") (hm : X.mg "range" = none) (ha : PA X [a] (TIA Z W (.cons ma .nil))) (hs : starEach [a] X.env = [(false, eval a X.env)]) : PI X tg (.Call (.Name "range" p) [a] [] pos) (TII Z W (.range (.cons ma .nil))) := by
  refine (pi_range1 hg hm ha hs).imp fun σ H R h => ?_
  obtain ⟨w, r, S, at_, g⟩ := h
  rw [evalI] at g
  refine ⟨w, r, S, at_, g.bindE fun u x q S1 he e1 h1 r1 g1 => ?_⟩
  have hl := evalEs_len he
  match q, hl, r1, g1 with
  | [.int j], _, r1, g1 =>
    obtain ⟨v, rfl, r2⟩ := one_arg r1
    have e2 := r2.int_of
    subst e2
    simp only [rangeP] at g1
    split at g1
    · rename_i xs e
      split at e
      · rename_i hz
        cases e
        exact ⟨j, rfl, hz.1, hz.2, Good.okI (b := (_, none)) g1 h1 (wk_r 0 j.toNat)⟩
      · cases e
    · exact g1.elim
  | [.non], _, _, g1 => exact g1.elim
  | [.bl _], _, _, g1 => exact g1.elim
  | [.str _], _, _, g1 => exact g1.elim
  | [.tup _], _, _, g1 => exact g1.elim
  | [.lst _], _, _, g1 => exact g1.elim
  | [.ref _], _, _, g1 => exact g1.elim
  | [.ty _], _, _, g1 => exact g1.elim
  | [.scr _], _, _, g1 => exact g1.elim
theorem snd_range2 (hg : Gl X "range") (hm : X.mg "range" = none) (ha : PA X [a, b] (TIA Z W (.cons ma (.cons mb .nil)))) (hs : starEach [a, b] X.env = [(false, eval a X.env), (false, eval b X.env)]) (hs2 : starEach [b] X.env = [(false, eval b X.env)]) : PI X tg (.Call (.Name "range" p) [a, b] [] pos) (TII Z W (.range (.cons ma (.cons mb .nil)))) := by
  refine (pi_range2 hg hm ha hs hs2).imp fun σ H R h => ?_
  obtain ⟨w, r, S, at_, g⟩ := h
  rw [evalI] at g
  refine ⟨w, r, S, at_, g.bindE fun u x q S1 he e1 h1 r1 g1 => ?_⟩
  have hl := evalEs_len he
  match q, hl, r1, g1 with
  | [y, z], _, r1, g1 =>
    obtain ⟨v1, v2, rfl, r2, r3⟩ := two_arg r1
    cases y with
    | int i =>
      cases z with
      | int j =>
        have e2 := r2.int_of
        have e3 := r3.int_of
        subst e2; subst e3
        simp only [rangeP] at g1
        split at g1
        · rename_i xs e
          split at e
          · rename_i hz
            cases e
            exact ⟨i, j, rfl, hz, Good.okI (b := (_, none)) g1 h1 (wk_r i (j - i).toNat)⟩
          · cases e
        · exact g1.elim
      | _ => exact (show False from g1).elim
    | _ => exact (show False from g1).elim
theorem snd_enum {tg : Expr} {elts : List Expr} {kk : Nat} {tpos : Pos} (hK : Z.K = X.K) (hg : Gl X "enumerate") (hm : X.mg "enumerate" = none) (ha : PE X a (TI Z W ma)) (hs : starEach [a] X.env = [(false, eval a X.env)]) : PI X (.Tuple elts kk tpos) (.Call (.Name "enumerate" p) [a] [] pos) (TII Z W (.enum ma)) := by
  refine (pi_enumA hg hm (pa_cons ha pa_nil hs) hs).imp fun σ H R h => ?_
  obtain ⟨w, r, S, at_, g⟩ := h
  rw [evalI] at g
  refine ⟨w, r, S, at_, g.bindI fun u x q S1 e1 h1 r1 g1 => ?_⟩
  have kk : u.K = X.K := e1.k.trans (at_.K.trans hK)
  cases r1 with
  | @ref a n al =>
    dsimp only at g1
    split at g1
    · rename_i xs e2
      obtain ⟨vs, q1, q2⟩ := LAt.ref (xs := xs) al u S1 (Ext.refl u).rm h1 e2
      rw [kk] at q1
      have wk := wk_el (LAt.ref (xs := xs) al)
      rw [kk] at wk
      exact ⟨a, rfl, .inl ⟨vs, q1, Good.okI (b := (enumP 0 xs, some (n, xs))) g1 h1 wk⟩⟩
    · exact g1.elim
  | @lst a vs xs q rs =>
    have hl : RLs u a vs := .inl q
    have wk := wk_el (LAt.lst hl rs)
    have sq := hl.sq
    rw [kk] at wk sq
    exact ⟨a, rfl, .inl ⟨vs, sq, Good.okI (b := (enumP 0 xs, none)) g1 h1 wk⟩⟩
  | @scr a vs xs hl rs =>
    have wk := wk_el (LAt.lst hl rs)
    have sq := hl.sq
    rw [kk] at wk sq
    exact ⟨a, rfl, .inl ⟨vs, sq, Good.okI (b := (enumP 0 xs, none)) g1 h1 wk⟩⟩
  | @tup a vs xs hl rs =>
    have wk := wk_et (TAt.tup hl rs)
    have sq := hl.sq
    rw [kk] at wk sq
    exact ⟨a, rfl, .inr ⟨vs, sq, Good.okI (b := (enumP 0 xs, none)) g1 h1 wk⟩⟩
  | _ => exact (show False from g1).elim
theorem snd_zip {elts : List Expr} {kk : Nat} {tpos : Pos} (hK : Z.K = X.K) (hg : Gl X "zip") (hm : X.mg "zip" = none) (ha : PE X a (TI Z W ma)) (hb : PE X b (TI Z W mb)) (hs : starEach [a, b] X.env = (false, eval a X.env) :: starEach [b] X.env) (hs2 : starEach [b] X.env = (false, eval b X.env) :: starEach [] X.env) :
    PI X (.Tuple elts kk tpos) (.Call (.Name "zip" p) [a, b] [] pos) (TII Z W (.zip ma mb)) := by
  refine (RZ.pi_zipA hg hm (pa_cons ha (pa_cons hb pa_nil hs2) hs) hs (by rw [hs2]; rfl)).imp fun σ H R h => ?_
  obtain ⟨w, r, S, at_, g⟩ := h
  rw [evalI] at g
  refine ⟨w, r, S, at_, g.bindI fun u x q S1 e1 h1 r1 g1 => ?_⟩
  refine ⟨u, r, S1, at_.next e1 h1, g1.bindI fun t y q2 S2 e2 h2 r2 g2 => ?_⟩
  have kk : t.K = X.K := e2.k.trans (e1.k.trans (at_.K.trans hK))
  have r1' := r1.mono e2
  cases r1' with
  | @tup a1 vs xs hl rs =>
    cases r2 with
    | @tup a2 us ys hl2 rs2 =>
      have wk := wk_zt (TAt.tup hl rs) (TAt.tup hl2 rs2)
      have sq := hl.sq
      have sq2 := hl2.sq
      rw [kk] at wk sq sq2
      exact ⟨a1, a2, vs, us, rfl, .inr ⟨sq, sq2, Good.okI (b := (zipP xs ys, none)) g2 h2 wk⟩⟩
    | _ => exact (show False from g2).elim
  | @lst a1 vs xs q rs =>
    cases r2 with
    | @lst a2 us ys q2 rs2 =>
      have hl : RLs t a1 vs := .inl q
      have hl2 : RLs t a2 us := .inl q2
      have wk := wk_zl (LAt.lst hl rs) (LAt.lst hl2 rs2)
      have sq := hl.sq
      have sq2 := hl2.sq
      rw [kk] at wk sq sq2
      exact ⟨a1, a2, vs, us, rfl, .inl ⟨sq, sq2, Good.okI (b := (zipP xs ys, none)) g2 h2 wk⟩⟩
    | _ => exact (show False from g2).elim
  | _ => exact (show False from g2).elim
end
end Dg
end

section
set_option Elab.async false
set_option linter.all false
set_option maxRecDepth 100000
set_option maxHeartbeats 4000000
/-! DgJ: statements. -/
namespace Dg
open PySem PySem.Spec L2
open PyProof.Rows hiding St

def GoodS (Z : Xc) (W : WX) (D : Ends) (w : Wd) : SRes → Prop
  | .nx r S => ∀ u σ, Ext w u → At Z σ u.H u r S → D.nx σ u.H
  | .ret v S => ∀ u x, Ext w u → HRel u S → Rep u x v → D.rt x u.H
  | .brk r S => ∀ u σ, Ext w u → At Z σ u.H u r S → D.bk σ u.H
  | .ct r S => ∀ u σ, Ext w u → At Z σ u.H u r S → D.ct σ u.H
  | .exc c a r S => ∀ u σ d va, Ext w u → At Z σ u.H u r S → u.H d = some (.xd [(Z.fd c, va)]) → Rep u va a → ¬ u.phi d → W (.ref (Z.cl c)) (some d) σ u.H
  | .bad => False
theorem GoodS.mono {Z : Xc} {W : WX} {D : Ends} {w t : Wd} {x : SRes} (e : Ext w t) (g : GoodS Z W D w x) : GoodS Z W D t x := by
  cases x with
  | nx r S => exact fun u σ e2 => g u σ (e.trans e2)
  | ret v S => exact fun u x e2 => g u x (e.trans e2)
  | brk r S => exact fun u σ e2 => g u σ (e.trans e2)
  | ct r S => exact fun u σ e2 => g u σ (e.trans e2)
  | exc c a r S => exact fun u σ d va e2 => g u σ d va (e.trans e2)
  | bad => exact g
theorem GoodS.to {α β : Type} {Z : Xc} {W : WX} {D : Ends} {σ : St} {R : Wd → α → β → Prop} {w : Wd} {K : α → Hp → Prop} {res : Res β} {r : PEnv} {S : Store} {k : β → Store → SRes} {H : Hp} (a : At Z σ H w r S) (g : GoodS Z W D w (res.to r k))
    (f : ∀ u x b S1, res = .ok b S1 → Ext w u → HRel u S1 → R u x b → GoodS Z W D u (k b S1) → K x u.H) : Good Z W σ R w K res := by
  cases res with
  | ok b S1 => exact fun u x e h q => f u x b S1 rfl e h q (GoodS.mono e g)
  | exc c v S1 => exact fun u d va e h h1 h2 h3 => g u σ d va e (a.next e h) h1 h2 h3
  | bad => exact g
def TSS (Z : Xc) (W : WX) (m : MS) : TS := fun D σ H => ∃ w r S, At Z σ H w r S ∧ GoodS Z W D w (evalS Z.C m r S)
def TSSs (Z : Xc) (W : WX) (m : MSs) : TS := fun D σ H => ∃ w r S, At Z σ H w r S ∧ GoodS Z W D w (evalSs Z.C m r S)
theorem _root_.L2.PS.imp {X : Cx} {st : Stmt} {t t' : TS} (h : PS X st t) (i : ∀ D σ H, t' D σ H → t D σ H) : PS X st t' := ⟨fun pins s σ H D I q => h.run pins s σ H D I (i D σ H q)⟩
theorem _root_.L2.PSs.imp {X : Cx} {st : List Stmt} {t t' : TS} (h : PSs X st t) (i : ∀ D σ H, t' D σ H → t D σ H) : PSs X st t' := ⟨fun pins s σ H D I q => h.run pins s σ H D I (i D σ H q)⟩
theorem _root_.L2.PG.imp {X : Cx} {e : Expr} {t t' : TG} (h : PG X e t) (i : ∀ v σ H Q, t' v σ H Q → t v σ H Q) : PG X e t' := ⟨fun pins s σ H v u Q I r q => h.run pins s σ H v u Q I r (i v σ H Q q)⟩
theorem _root_.L2.PGs.imp {X : Cx} {e : List Expr} {t t' : TGs} (h : PGs X e t) (i : ∀ v σ H Q, t' v σ H Q → t v σ H Q) : PGs X e t' := ⟨fun pins s σ H v u Q I r q => h.run pins s σ H v u Q I r (i v σ H Q q)⟩

/-! ### slots -/
theorem wipe_get (σ : St) : ∀ (vs : List Nat) (j : Nat), (wipe σ vs)[j]? = if j ∈ vs then σ[j]?.map (fun _ => none) else σ[j]?
  | [], j => by simp [wipe]
  | v :: vs, j => by
    unfold wipe
    rw [List.getElem?_set, wipe_length]
    by_cases h : v = j
    · subst h
      by_cases hl : v < σ.length
      · rw [if_pos rfl, if_pos hl, if_pos (List.mem_cons_self ..), List.getElem?_eq_getElem hl]; rfl
      · rw [if_pos rfl, if_neg hl, if_pos (List.mem_cons_self ..), List.getElem?_eq_none (by omega)]; rfl
    · rw [if_neg h, wipe_get σ vs j]
      by_cases hm : j ∈ vs
      · rw [if_pos hm, if_pos (List.mem_cons_of_mem _ hm)]
      · rw [if_neg hm, if_neg (by simp only [List.mem_cons, not_or]; exact ⟨fun z => h z.symm, hm⟩)]
theorem wipe_set {σ : St} {vs : List Nat} {i : Nat} {o : Option V} (h : i ∈ vs) : wipe (σ.set i o) vs = wipe σ vs := by
  apply List.ext_getElem?
  intro j
  rw [wipe_get, wipe_get, List.getElem?_set]
  by_cases hm : j ∈ vs
  · rw [if_pos hm, if_pos hm]
    by_cases hi : i = j
    · subst hi
      by_cases hl : i < σ.length
      · rw [if_pos rfl, if_pos hl, List.getElem?_eq_getElem hl]; rfl
      · rw [if_pos rfl, if_neg hl, List.getElem?_eq_none (by omega)]
    · rw [if_neg hi]
  · rw [if_neg hm, if_neg hm, if_neg (fun z => hm (by rw [← z]; exact h))]
theorem wipe_wipe {σ : St} {vs : List Nat} : wipe (wipe σ vs) vs = wipe σ vs := by
  apply List.ext_getElem?
  intro j
  rw [wipe_get, wipe_get]
  by_cases hm : j ∈ vs
  · rw [if_pos hm, if_pos hm]; cases σ[j]? <;> rfl
  · rw [if_neg hm, if_neg hm]
/-! ### targets -/
def slT : TGT → List Nat
  | .name i => [i]
  | .tup is => is
def TGr (Z : Xc) (t : TGT) : TG := fun v σ H Q => ∃ w r S p r2, At Z σ H w r S ∧ Rep w v p ∧ bindT t p r = some r2 ∧ ∀ σ2, At Z σ2 H w r2 S → (∀ vs : List Nat, (∀ i ∈ slT t, i ∈ vs) → wipe σ2 vs = wipe σ vs) → Q σ2 H
def setsP (r : PEnv) : List Nat → List PV → PEnv
  | i :: is, x :: xs => setsP (r.set i (some x)) is xs
  | _, _ => r
theorem setsP_eq : ∀ (is : List Nat) (xs : List PV) (r : PEnv), (is.zip xs).foldl (fun r p => r.set p.1 (some p.2)) r = setsP r is xs
  | [], _, _ => by simp [setsP]
  | _ :: _, [], _ => by simp [setsP]
  | i :: is, x :: xs, r => by simp only [List.zip_cons_cons, List.foldl_cons, setsP]; exact setsP_eq is xs _
def TGsr (Z : Xc) (is : List Nat) : TGs := fun vs σ H Q => ∃ w r S ps, At Z σ H w r S ∧ Reps w vs ps ∧ ps.length = is.length ∧ ∀ σ2, At Z σ2 H w (setsP r is ps) S → (∀ vs : List Nat, (∀ i ∈ is, i ∈ vs) → wipe σ2 vs = wipe σ vs) → Q σ2 H
theorem At.set {Z : Xc} {σ : St} {H : Hp} {w : Wd} {r : PEnv} {S : Store} {v : V} {p : PV} (hx : Z.C.hx = none) (a : At Z σ H w r S) (i : Nat) (q : Rep w v p) : At Z (σ.set i (some v)) H w (r.set i (some p)) S :=
  ⟨a.H, a.K, a.e.set i q, a.h, by unfold HX; rw [hx]; trivial⟩
section
variable {X : Cx} {Z : Xc} {W : WX} {a b c e tg : Expr} {ma mb mc : ME} {pos p pos' : Pos} {x : Str} {i : Nat}
theorem snd_gname (hx : Z.C.hx = none) (hN : X.N.Nodup) (hi : X.N[i]? = some x) (hl : Loc X.env.scope x) (hf : X.fn x = true ∨ X.env.scope.names.lookup x = some .local) : PG X (.Name x pos) (TGr Z (.name i)) := by
  refine (pg_name hN hi hl hf).imp fun v σ H Q h => ?_
  obtain ⟨w, r, S, p, r2, at_, rp, e1, q⟩ := h
  cases e1
  exact q _ (at_.set hx i rp) fun vs hm => wipe_set (hm i (by simp [slT]))
theorem snd_gnil : PGs X [] (TGsr Z []) := by
  refine pgs_nil.imp fun vs σ H Q h => ?_
  obtain ⟨w, r, S, ps, at_, rp, hl, q⟩ := h
  cases ps with
  | nil => cases rp; exact ⟨rfl, q σ (by simpa [setsP] using at_) fun _ _ => rfl⟩
  | cons p ps => cases hl
theorem snd_gcons {es : List Expr} {is : List Nat} (h1 : PG X a (TGr Z (.name i))) (h2 : PGs X es (TGsr Z is)) (hs : (assignEach (a :: es) X.env).map (·.2) = assign a X.env :: (assignEach es X.env).map (·.2)) : PGs X (a :: es) (TGsr Z (i :: is)) := by
  refine (pgs_cons h1 h2 hs).imp fun vs σ H Q h => ?_
  obtain ⟨w, r, S, ps, at_, rp, hl, q⟩ := h
  cases rp with
  | nil => cases hl
  | @cons v p vs ps rv rs =>
    refine ⟨v, vs, rfl, w, r, S, p, _, at_, rv, rfl, fun σ2 at2 hw => ?_⟩
    refine ⟨w, _, S, ps, at2, rs, by simpa using hl, fun σ3 at3 hw3 => q σ3 at3 fun us hu => ?_⟩
    rw [hw3 us fun j hj => hu j (List.mem_cons_of_mem _ hj), hw us fun j hj => hu j (by simp only [slT, List.mem_singleton] at hj; rw [hj]; exact List.mem_cons_self ..)]
theorem snd_gtup {es : List Expr} {k : Nat} {is : List Nat} (hK : Z.K = X.K) (hc : X.calm = true) (h : PGs X es (TGsr Z is)) (hn : (assignEach es X.env).length = is.length) (hst : (assignEach es X.env).findIdx? (·.1) = none) : PG X (.Tuple es k pos) (TGr Z (.tup is)) := by
  refine (pg_tup (n := is.length) hc h hn hst).imp fun v σ H Q h => ?_
  obtain ⟨w, r, S, p, r2, at_, rp, e1, q⟩ := h
  cases rp with
  | @tup a vs xs ht rs =>
    unfold bindT at e1
    dsimp only at e1
    split at e1
    · rename_i hl
      cases e1
      rw [setsP_eq] at q
      refine ⟨a, vs, rfl, ?_, by rw [rs.length]; exact hl, w, r, S, xs, at_, rs, hl, fun σ2 at2 hw => q σ2 at2 hw⟩
      have sq := ht.sq
      rw [at_.K, hK, at_.H] at sq
      exact sq
    · cases e1
  | _ => exact (show False by simp [bindT] at e1).elim
/-! ### assignments -/
theorem snd_set (hx : Z.C.hx = none) (hN : X.N.Nodup) (hi : X.N[i]? = some x) (hl : Loc X.env.scope x) (he : PE X e (TI Z W ma)) (hs : swapsWith e (some (.Name x pos')) pos.line X.env = pure false) (hf : X.fn x = true ∨ X.env.scope.names.lookup x = some .local) :
    PS X (.Assign [.Name x pos'] e pos) (TSS Z W (.asg (.name i) ma)) := by
  refine (ps_set hN hi hl he hs hf).imp fun D σ H h => ?_
  obtain ⟨w, r, S, at_, g⟩ := h
  rw [evalS] at g
  refine ⟨w, r, S, at_, GoodS.to at_ g fun u v p S1 he e1 h1 r1 g1 => ?_⟩
  exact g1 u _ (Ext.refl u) ((at_.next e1 h1).set hx i r1)
theorem snd_asg {t : TGT} (he : PE X e (TI Z W ma)) (hg : PG X tg (TGr Z t)) (hs : swapsWithSole [tg] e pos.line X.env = pure false) (hw : swappedStores [tg] e X.env = pure none) (h1 : (assignEach [tg] X.env).map (·.2) = [assign tg X.env]) :
    PS X (.Assign [tg] e pos) (TSS Z W (.asg t ma)) := by
  refine (ps_asg he hg hs hw h1).imp fun D σ H h => ?_
  obtain ⟨w, r, S, at_, g⟩ := h
  rw [evalS] at g
  refine ⟨w, r, S, at_, GoodS.to at_ g fun u v p S1 he e1 h1 r1 g1 => ?_⟩
  cases q : bindT t p r with
  | none => rw [q] at g1; exact g1.elim
  | some r2 =>
    rw [q] at g1
    exact ⟨u, r, S1, p, r2, at_.next e1 h1, r1, q, fun σ2 at2 _ => g1 u σ2 (Ext.refl u) at2⟩
theorem snd_par {i j : Nat} {x y : Str} {px py pt : Pos} {kt k2 : Nat} {pt2 : Pos} (hx : Z.C.hx = none) (hc : X.calm = true) (hN : X.N.Nodup) (hi : X.N[i]? = some x) (hj : X.N[j]? = some y) (hij : i ≠ j)
    (hlx : X.env.scope.names.lookup x = some .local) (hly : X.env.scope.names.lookup y = some .local) (ha : PA X [a, b] (TIA Z W (.cons ma (.cons mb .nil))))
    (hw : swappedStores [.Tuple [.Name x px, .Name y py] kt pt] (.Tuple [a, b] k2 pt2) X.env = pure (some [x, y])) (hs : swapsWithSole [.Tuple [.Name x px, .Name y py] kt pt] (.Tuple [a, b] k2 pt2) pos.line X.env = pure false) :
    PS X (.Assign [.Tuple [.Name x px, .Name y py] kt pt] (.Tuple [a, b] k2 pt2) pos) (TSS Z W (.asg (.tup [i, j]) (.tup (.cons ma (.cons mb .nil))))) := by
  refine (ps_par hc hN hi hj hij hlx hly ha hw hs).imp fun D σ H h => ?_
  obtain ⟨w, r, S, at_, g⟩ := h
  rw [evalS, evalE] at g
  refine ⟨w, r, S, at_, ?_⟩
  have key : ∀ (res : Res (List PV)), GoodS Z W D w ((res.bind fun vs S1 => if vs.length ≤ sizeLine then Res.ok (PV.tup vs) S1 else Res.bad).to r fun v S1 => match bindT (.tup [i, j]) v r with
      | some r2 => SRes.nx r2 S1
      | none => .bad) → (∀ q S1, res = .ok q S1 → q.length = 2) → Good Z W σ Reps w (fun vs H1 => ∃ v w, vs = [v, w] ∧ D.nx ((σ.set i (some v)).set j (some w)) H1) res := fun res g hl => by
    cases res with
    | bad => exact g
    | exc c v S1 => exact fun u d va e h h1 h2 h3 => g u σ d va e (at_.next e h) h1 h2 h3
    | ok q S1 =>
      have h2 := hl q S1 rfl
      match q, h2 with
      | [p1, p2], _ =>
        intro u vs e1 h1 rs
        obtain ⟨v1, v2, rfl, r1, r2⟩ := two_arg rs
        rw [Res.bind_ok, if_pos (show [p1, p2].length ≤ sizeLine by rw [sizeLine_eq]; show 2 ≤ _; omega), Res.to_ok] at g
        exact ⟨v1, v2, rfl, g u _ e1 (((at_.next e1 h1).set hx i r1).set hx j r2)⟩
  exact key _ g fun q S1 he => evalEs_len he
theorem snd_par3 {i j l : Nat} {x y z : Str} {px py pz pt : Pos} {kt k2 : Nat} {pt2 : Pos} (hx : Z.C.hx = none) (hc : X.calm = true) (hN : X.N.Nodup) (hi : X.N[i]? = some x) (hj : X.N[j]? = some y) (hl : X.N[l]? = some z) (hij : i ≠ j) (hil : i ≠ l) (hjl : j ≠ l)
    (hlx : X.env.scope.names.lookup x = some .local) (hly : X.env.scope.names.lookup y = some .local) (hlz : X.env.scope.names.lookup z = some .local) (ha : PA X [a, b, c] (TIA Z W (.cons ma (.cons mb (.cons mc .nil)))))
    (hw : swappedStores [.Tuple [.Name x px, .Name y py, .Name z pz] kt pt] (.Tuple [a, b, c] k2 pt2) X.env = pure (some [x, y, z])) (hs : swapsWithSole [.Tuple [.Name x px, .Name y py, .Name z pz] kt pt] (.Tuple [a, b, c] k2 pt2) pos.line X.env = pure false) :
    PS X (.Assign [.Tuple [.Name x px, .Name y py, .Name z pz] kt pt] (.Tuple [a, b, c] k2 pt2) pos) (TSS Z W (.asg (.tup [i, j, l]) (.tup (.cons ma (.cons mb (.cons mc .nil)))))) := by
  refine (ps_par3 hc hN hi hj hl hij hil hjl hlx hly hlz ha hw hs).imp fun D σ H h => ?_
  obtain ⟨w, r, S, at_, g⟩ := h
  rw [evalS, evalE] at g
  refine ⟨w, r, S, at_, ?_⟩
  have key : ∀ (res : Res (List PV)), GoodS Z W D w ((res.bind fun vs S1 => if vs.length ≤ sizeLine then Res.ok (PV.tup vs) S1 else Res.bad).to r fun v S1 => match bindT (.tup [i, j, l]) v r with
      | some r2 => SRes.nx r2 S1
      | none => .bad) → (∀ q S1, res = .ok q S1 → q.length = 3) → Good Z W σ Reps w (fun vs H1 => ∃ u v w, vs = [u, v, w] ∧ D.nx (((σ.set i (some u)).set j (some v)).set l (some w)) H1) res := fun res g hl => by
    cases res with
    | bad => exact g
    | exc c v S1 => exact fun u d va e h h1 h2 h3 => g u σ d va e (at_.next e h) h1 h2 h3
    | ok q S1 =>
      have h2 := hl q S1 rfl
      match q, h2 with
      | [p1, p2, p3], _ =>
        intro u vs e1 h1 rs
        cases rs with
        | cons r1 rs =>
          obtain ⟨v1, v2, rfl, r2, r3⟩ := two_arg rs
          rw [Res.bind_ok, if_pos (show [p1, p2, p3].length ≤ sizeLine by rw [sizeLine_eq]; show 3 ≤ _; omega), Res.to_ok] at g
          exact ⟨_, v1, v2, rfl, g u _ e1 ((((at_.next e1 h1).set hx i r1).set hx j r2).set hx l r3)⟩
  exact key _ g fun q S1 he => evalEs_len he
end
end Dg
end

section
set_option Elab.async false
set_option linter.all false
set_option maxRecDepth 100000
set_option maxHeartbeats 4000000
/-! DgK: stores, branches, loops. -/
namespace Dg
open PySem PySem.Spec L2
open PyProof.Rows hiding St

theorem RepK.any {κ : Type} [DecidableEq κ] {w : Wd} (k : κ) : ∀ {vs : List (κ × V)} {xs : List (κ × PV)}, RepK w vs xs → (vs.any fun kv => decide (kv.1 = k)) = xs.any fun kv => decide (kv.1 = k)
  | _, _, .nil => rfl
  | _, _, .cons _ r => by rw [List.any_cons, List.any_cons, RepK.any k r]
theorem RepK.mapPut {κ : Type} [DecidableEq κ] {w : Wd} {k : κ} {v : V} {x : PV} (h : Rep w v x) : ∀ {vs : List (κ × V)} {xs : List (κ × PV)}, RepK w vs xs → RepK w (vs.map fun kv => if kv.1 = k then (kv.1, v) else kv) (xs.map fun kv => if kv.1 = k then (kv.1, x) else kv)
  | _, _, .nil => .nil
  | _, _, @RepK.cons _ _ k' v' x' vs xs q r => by
    rw [List.map_cons, List.map_cons]
    by_cases e : k' = k
    · rw [if_pos (show (k', v').1 = k from e), if_pos (show (k', x').1 = k from e)]; exact .cons h (RepK.mapPut h r)
    · rw [if_neg (show ¬ (k', v').1 = k from e), if_neg (show ¬ (k', x').1 = k from e)]; exact .cons q (RepK.mapPut h r)
theorem RepK.snoc {κ : Type} {w : Wd} {k : κ} {v : V} {x : PV} (h : Rep w v x) : ∀ {vs : List (κ × V)} {xs : List (κ × PV)}, RepK w vs xs → RepK w (vs ++ [(k, v)]) (xs ++ [(k, x)])
  | _, _, .nil => .cons h .nil
  | _, _, .cons q r => .cons q (RepK.snoc h r)
theorem RepK.put {κ : Type} [DecidableEq κ] {w : Wd} {k : κ} {v : V} {x : PV} {vs : List (κ × V)} {xs : List (κ × PV)} (h : Rep w v x) (r : RepK w vs xs) : RepK w (L2.putK vs k v) (Dg.putK k x xs) := by
  unfold L2.putK Dg.putK
  rw [r.any k]
  by_cases c : (xs.any fun kv => decide (kv.1 = k)) = true
  · rw [if_pos c, if_pos c]; exact r.mapPut h
  · rw [if_neg c, if_neg c]; exact r.snoc h
def rSetG (K : PySem.W.Frag) : TSet := fun o i v H Q => ∃ w S po pi pv, w.H = H ∧ w.K = K ∧ HRel w S ∧ Rep w o po ∧ Rep w i pi ∧ Rep w v pv ∧ ∃ S4, setP po pi pv S = some S4 ∧ ∀ u, Ext w u → HRel u S4 → Q u.H
theorem set_any {X : Cx} {K : PySem.W.Frag} (hu : X.A.units + 1 < cLine) : PSet X (rSetG K) := by
  intro pins s σ H o i v ov iv u Q I ro ri rv ⟨w, S, po, pi, pv, hw, hk, hr, r1, r2, r3, S4, hs, q⟩
  subst hw
  unfold setP at hs
  split at hs
  · rename_i n
    cases r1 with
    | @ref a _ al =>
    split at hs
    · rename_i xs e
      split at hs
      · rename_i k
        split at hs
        · rename_i j hj
          cases hs
          cases r2
          obtain ⟨a', h1, vs, h2, h3⟩ := hr.at_ e
          rw [al] at h1; cases h1
          obtain ⟨h4, e4⟩ := hr.write (o := .lst (vs.set j v)) (m := .lst (xs.set j pv)) al fun t et ht => ⟨_, ht, Reps.set (r3.mono et) j (h3.mono et)⟩
          exact set_list pins s σ _ _ _ v ov iv u Q I ro ri rv ⟨a, vs, k, j, rfl, rfl, h2, by rw [h3.length]; exact hj, q _ e4 h4⟩
        · cases hs
      · cases hs
    · rename_i kvs e
      split at hs
      · rename_i k ek
        split at hs
        · rename_i hz
          cases hs
          have ex := r2.key ek
          subst ex
          obtain ⟨a', h1, ws, h2, h3⟩ := hr.at_ e
          rw [al] at h1; cases h1
          obtain ⟨h4, e4⟩ := hr.write (o := .dK (L2.putK ws k v)) (m := .dct (Dg.putK k pv kvs)) al fun t et ht => ⟨_, ht, RepK.put (r3.mono et) (h3.mono et)⟩
          exact set_dict hu pins s σ _ _ _ v ov iv u Q I ro ri rv ⟨a, _, rfl, DPut.k h2 (by rw [h3.length]; exact hz), q _ e4 h4⟩
        · cases hs
      · cases hs
    · cases hs
  · cases hs
section
variable {X : Cx} {Z : Xc} {W : WX} {a b c e tg : Expr} {ma mb mc : ME} {pos p pos' : Pos} {x : Str} {i : Nat}
/-- o[i] = e -/
theorem snd_setix (hu : X.A.units + 1 < cLine) (he : PE X e (TI Z W mc)) (ho : PE X a (TI Z W ma)) (hi : PE X b (TI Z W mb)) (hs : swapsWithSole [.Subscript a b pos'] e pos.line X.env = pure false) (hw : swappedStores [.Subscript a b pos'] e X.env = pure none)
    (ha : ∀ v, assign (.Subscript a b pos') X.env v = (do
      let ov ← holding [v] (eval a X.env)
      let iv ← holding [v, ov] (eval b X.env)
      standAt pos'
      holding [v, ov, iv] (setItem ov iv v)
      release [v, ov, iv] [])) (h1 : (assignEach [.Subscript a b pos'] X.env).map (·.2) = [assign (.Subscript a b pos') X.env]) : PS X (.Assign [.Subscript a b pos'] e pos) (TSS Z W (.setix ma mb mc)) := by
  refine (ps_asg he (pg_sub ho hi (set_any (K := Z.K) hu) ha) hs hw h1).imp fun D σ H h => ?_
  obtain ⟨w, r, S, at_, g⟩ := h
  rw [evalS] at g
  refine ⟨w, r, S, at_, GoodS.to at_ g fun u v p S1 he e1 h1 r1 g1 => ?_⟩
  have a1 := at_.next e1 h1
  refine ⟨u, r, S1, a1, GoodS.to a1 g1 fun u2 v2 p2 S2 he2 e2 h2 r2 g2 => ?_⟩
  have a2 := a1.next e2 h2
  refine ⟨u2, r, S2, a2, GoodS.to a2 g2 fun u3 v3 p3 S3 he3 e3 h3 r3 g3 => ?_⟩
  have a3 := a2.next e3 h3
  cases q : setP p2 p3 p S3 with
  | none => rw [q] at g3; exact g3.elim
  | some S4 =>
    rw [q] at g3
    exact ⟨u3, S3, p2, p3, p, rfl, a3.K, h3, r2.mono e3, r3, (r1.mono e2).mono e3, S4, q, fun u4 e4 h4 => g3 u4 σ e4 (a3.next e4 h4)⟩
/-! ### several targets, names and places -/
def TMs (Z : Xc) (W : WX) (ts : List MT) : TGs := fun vs σ H Q => ∃ w r S ps D, At Z σ H w r S ∧ Reps w vs ps ∧ GoodS Z W D w (evalGs Z.C ts ps r S) ∧ ∀ σ H, D.nx σ H → Q σ H
theorem snd_mnil : PGs X [] (TMs Z W []) := by
  refine pgs_nil.imp fun vs σ H Q h => ?_
  obtain ⟨w, r, S, ps, D, at_, rp, g, q⟩ := h
  cases rp with
  | nil =>
    rw [evalGs] at g
    have e := at_.H
    subst e
    exact ⟨rfl, q _ _ (g w σ (Ext.refl w) at_)⟩
  | cons _ _ => exact (show False by simpa [evalGs, GoodS] using g).elim
theorem snd_mname {es : List Expr} {ts : List MT} (hx : Z.C.hx = none) (hN : X.N.Nodup) (hi : X.N[i]? = some x) (hl : Loc X.env.scope x) (hf : X.fn x = true ∨ X.env.scope.names.lookup x = some .local) (h2 : PGs X es (TMs Z W ts))
    (hs : (assignEach (.Name x p :: es) X.env).map (·.2) = assign (.Name x p) X.env :: (assignEach es X.env).map (·.2)) : PGs X (.Name x p :: es) (TMs Z W (.name i :: ts)) := by
  refine (pgs_cons (pg_name hN hi hl hf) h2 hs).imp fun vs σ H Q h => ?_
  obtain ⟨w, r, S, ps, D, at_, rp, g, q⟩ := h
  cases rp with
  | nil => exact (show False by simpa [evalGs, GoodS] using g).elim
  | @cons v p1 vs ps rv rs =>
    rw [evalGs] at g
    exact ⟨v, vs, rfl, w, _, S, ps, D, at_.set hx i rv, rs, g, q⟩
theorem snd_msub {es : List Expr} {ts : List MT} (hu : X.A.units + 1 < cLine) (ho : PE X a (TI Z W ma)) (hi : PE X b (TI Z W mb)) (h2 : PGs X es (TMs Z W ts))
    (ha : ∀ v, assign (.Subscript a b pos') X.env v = (do
      let ov ← holding [v] (eval a X.env)
      let iv ← holding [v, ov] (eval b X.env)
      standAt pos'
      holding [v, ov, iv] (setItem ov iv v)
      release [v, ov, iv] []))
    (hs : (assignEach (.Subscript a b pos' :: es) X.env).map (·.2) = assign (.Subscript a b pos') X.env :: (assignEach es X.env).map (·.2)) : PGs X (.Subscript a b pos' :: es) (TMs Z W (.sub ma mb :: ts)) := by
  refine (pgs_cons (pg_sub ho hi (set_any (K := Z.K) hu) ha) h2 hs).imp fun vs σ H Q h => ?_
  obtain ⟨w, r, S, ps, D, at_, rp, g, q⟩ := h
  cases rp with
  | nil => exact (show False by simpa [evalGs, GoodS] using g).elim
  | @cons v p1 vs ps rv rs =>
    rw [evalGs] at g
    refine ⟨v, vs, rfl, w, r, S, at_, GoodS.to at_ g fun u2 v2 p2 S2 he2 e2 h2 r2 g2 => ?_⟩
    have a2 := at_.next e2 h2
    refine ⟨u2, r, S2, a2, GoodS.to a2 g2 fun u3 v3 p3 S3 he3 e3 h3 r3 g3 => ?_⟩
    have a3 := a2.next e3 h3
    cases qq : setP p2 p3 p1 S3 with
    | none => rw [qq] at g3; exact g3.elim
    | some S4 =>
      rw [qq] at g3
      refine ⟨u3, S3, p2, p3, p1, rfl, a3.K, h3, r2.mono e3, r3, (rv.mono e2).mono e3, S4, qq, fun u4 e4 h4 => ?_⟩
      exact ⟨u4, r, S4, ps, D, a3.next e4 h4, ((rs.mono e2).mono e3).mono e4, GoodS.mono e4 g3, q⟩
/-- (t1, t2, ..) = e, not swapped -/
theorem snd_unp {es : List Expr} {ts : List MT} {k : Nat} {tp : Pos} (hK : Z.K = X.K) (hc : X.calm = true) (he : PE X e (TI Z W ma)) (hg : PGs X es (TMs Z W ts)) (hn : (assignEach es X.env).length = ts.length) (hst : (assignEach es X.env).findIdx? (·.1) = none)
    (hs : swapsWithSole [.Tuple es k tp] e pos.line X.env = pure false) (hw : swappedStores [.Tuple es k tp] e X.env = pure none) (h1 : (assignEach [.Tuple es k tp] X.env).map (·.2) = [assign (.Tuple es k tp) X.env]) :
    PS X (.Assign [.Tuple es k tp] e pos) (TSS Z W (.unp ts ma)) := by
  refine (ps_asg he (pg_tup (n := ts.length) hc hg hn hst) hs hw h1).imp fun D σ H h => ?_
  obtain ⟨w, r, S, at_, g⟩ := h
  rw [evalS] at g
  refine ⟨w, r, S, at_, GoodS.to at_ g fun u v p S1 he e1 h1 r1 g1 => ?_⟩
  cases r1 with
  | @tup a vs xs ht rs =>
    dsimp only at g1
    have sq := ht.sq
    rw [e1.k.trans (at_.K.trans hK)] at sq
    split at g1
    · rename_i hl
      exact ⟨a, vs, rfl, sq, by rw [rs.length]; exact hl, u, r, S1, xs, D, at_.next e1 h1, rs, g1, fun _ _ z => z⟩
    · exact g1.elim
  | _ => exact (show False from g1).elim
/-! ### plain statements -/
theorem snd_ex (he : PE X e (TI Z W ma)) (hs : swapsWith e none pos.line X.env = pure false) : PS X (.Expr e pos) (TSS Z W (.ex ma)) := by
  refine (ps_expr he hs).imp fun D σ H h => ?_
  obtain ⟨w, r, S, at_, g⟩ := h
  rw [evalS] at g
  exact ⟨w, r, S, at_, GoodS.to at_ g fun u v p S1 he e1 h1 r1 g1 => g1 u σ (Ext.refl u) (at_.next e1 h1)⟩
theorem snd_ret (he : PE X e (TI Z W ma)) : PS X (.Return (some e) pos) (TSS Z W (.ret ma)) := by
  refine (ps_ret he).imp fun D σ H h => ?_
  obtain ⟨w, r, S, at_, g⟩ := h
  rw [evalS] at g
  exact ⟨w, r, S, at_, GoodS.to at_ g fun u v p S1 he e1 h1 r1 g1 => g1 u v (Ext.refl u) h1 r1⟩
theorem snd_pass : PS X (.Pass pos) (TSS Z W .pass) := by
  refine ps_pass.imp fun D σ H h => ?_
  obtain ⟨w, r, S, at_, g⟩ := h
  rw [evalS] at g
  have e := at_.H; subst e
  exact g w σ (Ext.refl w) at_
theorem snd_brk : PS X (.Break pos) (TSS Z W .brk) := by
  refine ps_break.imp fun D σ H h => ?_
  obtain ⟨w, r, S, at_, g⟩ := h
  rw [evalS] at g
  have e := at_.H; subst e
  exact g w σ (Ext.refl w) at_
theorem snd_cont : PS X (.Continue pos) (TSS Z W .cont) := by
  refine ps_continue.imp fun D σ H h => ?_
  obtain ⟨w, r, S, at_, g⟩ := h
  rw [evalS] at g
  have e := at_.H; subst e
  exact g w σ (Ext.refl w) at_
theorem snd_nil : PSs X [] (TSSs Z W .nil) := by
  refine pss_nil.imp fun D σ H h => ?_
  obtain ⟨w, r, S, at_, g⟩ := h
  rw [evalSs] at g
  have e := at_.H; subst e
  exact g w σ (Ext.refl w) at_
theorem snd_cons {s1 : Stmt} {rest : List Stmt} {m : MS} {ms : MSs} (h1 : PS X s1 (TSS Z W m)) (h2 : PSs X rest (TSSs Z W ms)) : PSs X (s1 :: rest) (TSSs Z W (.cons m ms)) := by
  refine (pss_cons h1 h2).imp fun D σ H h => ?_
  obtain ⟨w, r, S, at_, g⟩ := h
  rw [evalSs] at g
  refine ⟨w, r, S, at_, ?_⟩
  cases q : evalS Z.C m r S with
  | bad => rw [q] at g; exact g
  | nx r2 S2 => rw [q, SRes.seq_nx] at g; exact fun u σ2 e2 a2 => ⟨u, r2, S2, a2, GoodS.mono e2 g⟩
  | ret v S2 => rw [q] at g; exact g
  | brk r2 S2 => rw [q] at g; exact g
  | ct r2 S2 => rw [q] at g; exact g
  | exc c v r2 S2 => rw [q] at g; exact g
theorem snd_if {sa sb : List Stmt} {m1 m2 : MSs} (hc : PT X c (TIT Z W mc)) (ha : PSs X sa (TSSs Z W m1)) (hb : PSs X sb (TSSs Z W m2)) : PS X (.If c sa sb pos) (TSS Z W (.ifS mc m1 m2)) := by
  refine (ps_if hc ha hb).imp fun D σ H h => ?_
  obtain ⟨w, r, S, at_, g⟩ := h
  rw [evalS] at g
  refine ⟨w, r, S, at_, GoodS.to at_ g fun u v p S1 he e1 h1 r1 g1 => ?_⟩
  subst r1
  cases v with
  | true => exact ⟨u, r, S1, at_.next e1 h1, g1⟩
  | false => exact ⟨u, r, S1, at_.next e1 h1, g1⟩
/-! ### loops -/
theorem snd_while {body : List Stmt} {ms : MSs} (hp : PassesOwn (model X.prog X.w) X.A X.env X.xe) (hc : PT X c (TIT Z W mc)) (hb : PSs X body (TSSs Z W ms)) : PS X (.While c body [] pos) (TSS Z W (.whileS mc ms)) := by
  refine (ps_while hp hc hb).imp fun D σ H h => ?_
  obtain ⟨w, r, S, at_, g⟩ := h
  rw [evalS] at g
  have hb : whileR (fun r2 S2 => evalT Z.C mc r2 S2) (fun r2 S2 => evalSs Z.C ms r2 S2) r S ≠ .bad := fun z => by rw [z] at g; exact g
  obtain ⟨n, hn⟩ := whileR_bad hb
  rw [← hn] at g
  refine ⟨fun m σ H => ∃ v r S, At Z σ H v r S ∧ GoodS Z W D v (whileN (fun r2 S2 => evalT Z.C mc r2 S2) (fun r2 S2 => evalSs Z.C ms r2 S2) m r S), ⟨n, w, r, S, at_, g⟩, ?_⟩
  rintro m σ H ⟨w, r, S, at_, g⟩
  cases m with
  | zero => exact g.elim
  | succ m =>
    unfold whileN at g
    refine ⟨w, r, S, at_, GoodS.to at_ g fun u v p S1 he e1 h1 r1 g1 => ?_⟩
    subst r1
    have a1 := at_.next e1 h1
    cases v with
    | false => exact g1 u σ (Ext.refl u) a1
    | true =>
      refine ⟨fun σ H => ∃ v r S, At Z σ H v r S ∧ GoodS Z W D v (whileN (fun r2 S2 => evalT Z.C mc r2 S2) (fun r2 S2 => evalSs Z.C ms r2 S2) m r S), fun σ' H' q => ⟨m, Nat.lt_succ_self m, q⟩, u, r, S1, a1, ?_⟩
      simp only [if_true] at g1
      cases q : evalSs Z.C ms r S1 with
      | bad => rw [q] at g1; exact g1
      | nx r2 S2 => rw [q] at g1; exact fun t σ2 e2 a2 => ⟨t, r2, S2, a2, GoodS.mono e2 g1⟩
      | ct r2 S2 => rw [q] at g1; exact fun t σ2 e2 a2 => ⟨t, r2, S2, a2, GoodS.mono e2 g1⟩
      | ret v S2 => rw [q] at g1; exact g1
      | brk r2 S2 => rw [q] at g1; exact g1
      | exc c v r2 S2 => rw [q] at g1; exact g1
open Classical in
theorem snd_for {iter : Expr} {body : List Stmt} {ms : MSs} {it : IT} {t : TGT} (hp : PassesOwn (model X.prog X.w) X.A X.env X.xe) (hc : X.calm = true) (hi : PI X tg iter (TII Z W it)) (hg : PG X tg (TGr Z t)) (hb : PSs X body (TSSs Z W ms))
    (hs : ∀ x, foldedSetIterable iter X.env x = pure x) : PS X (.For tg iter body [] pos) (TSS Z W (.forS t it ms)) := by
  refine (ps_for hp hc hi hg hb hs).imp fun D σ H h => ?_
  obtain ⟨w, r, S, at_, g⟩ := h
  rw [evalS] at g
  refine ⟨w, r, S, at_, GoodS.to at_ g fun u J p S1 he e1 h1 wk g1 => ?_⟩
  have hgd := evalI_grd he
  have a1 := at_.next e1 h1
  let Pv : Nat → St → Hp → Prop := fun i σ H => ∃ v r S, Ext u v ∧ At Z σ H v r S ∧ Grd p.2 S ∧ GoodS Z W D v (forL t (fun r2 S2 => evalSs Z.C ms r2 S2) p.2 (p.1.drop i) r S)
  refine ⟨fun i m σ H => m = p.1.length - i ∧ i ≤ p.1.length ∧ Pv i σ H, ⟨p.1.length, by simp, Nat.zero_le _, u, r, S1, Ext.refl u, a1, hgd, by simpa using g1⟩, ?_⟩
  rintro i m σ H ⟨rfl, hi, v, r, S, ev, at_, hgd, g⟩
  have eH := at_.H
  subst eH
  by_cases hlt : i < p.1.length
  · refine .inr ⟨wk.goes v S i ev.rm at_.h hgd hlt, Pv (i + 1), fun σ' H' p' => ⟨p.1.length - (i + 1), by omega, rfl, hlt, p'⟩, fun x H' y => ?_⟩
    obtain ⟨v', q, eq1, e2, h2, hq, rq⟩ := wk.yields v S i x H' ev.rm at_.h hgd hlt y
    subst eq1
    have hd : p.1.drop i = q :: p.1.drop (i + 1) := by
      obtain ⟨hl2, hq2⟩ := List.getElem?_eq_some_iff.mp hq
      rw [List.drop_eq_getElem_cons hl2, hq2]
    rw [hd] at g
    unfold forL at g
    cases hbt : bindT t q r with
    | none => rw [hbt] at g; exact g.elim
    | some r2 =>
      rw [hbt] at g
      dsimp only at g
      have at2 := at_.next e2 h2
      refine ⟨v', r, S, q, r2, at2, rq, hbt, fun σ2 at3 _ => ⟨v', r2, S, at3, ?_⟩⟩
      have nx : ∀ {r3 S3}, GoodS Z W D v (if Grd p.2 S3 then forL t (fun r2 S2 => evalSs Z.C ms r2 S2) p.2 (p.1.drop (i + 1)) r3 S3 else .bad) → ∀ (t : Wd) (σ : St), Ext v' t → At Z σ t.H t r3 S3 → Pv (i + 1) σ t.H := fun {r3 S3} g t σ et a3 => by
        split at g
        · rename_i hg3
          exact ⟨t, r3, S3, (ev.trans e2).trans et, a3, hg3, GoodS.mono (e2.trans et) g⟩
        · exact g.elim
      cases hq3 : evalSs Z.C ms r2 S with
      | bad => rw [hq3] at g; exact g
      | nx r3 S3 => rw [hq3] at g; exact nx g
      | ct r3 S3 => rw [hq3] at g; exact nx g
      | ret v3 S3 => rw [hq3] at g; exact GoodS.mono (D := D) (x := .ret v3 S3) e2 g
      | brk r3 S3 => rw [hq3] at g; exact GoodS.mono (D := D) (x := .nx r3 S3) e2 g
      | exc c v3 r3 S3 => rw [hq3] at g; exact GoodS.mono (D := D) (x := .exc c v3 r3 S3) e2 g
  · have e : i = p.1.length := by omega
    subst e
    refine .inl ⟨wk.stops v S ev.rm at_.h hgd, ?_⟩
    rw [List.drop_length] at g
    unfold forL at g
    exact g v σ (Ext.refl v) at_
end
end Dg
end

section
set_option Elab.async false
set_option linter.all false
set_option maxRecDepth 100000
set_option maxHeartbeats 4000000
/-! DgL: comprehensions, displays of dicts. -/
namespace Dg
open PySem PySem.Spec L2
open PyProof.Rows hiding St

abbrev WF : WX := fun _ _ _ _ => False
def TIC (Z : Xc) (W : WX) (m : MEo) : TT := fun σ H Q => ∃ w r S, At Z σ H w r S ∧ Good Z W σ (fun _ b b' => b = b') w Q (evalC Z.C m r S)
/-- the new list stands aside -/
def Wd.hide (w : Wd) (D : Addr) (o : HO) : Wd := { w with phi := fun a => w.phi a ∨ a = D, H := upd w.H D o }
theorem hide_ext {w : Wd} {S : Store} (h : HRel w S) {D : Addr} {o : HO} (hD : w.H D = none) : Ext w (w.hide D o) ∧ HRel (w.hide D o) S := by
  have e : Ext w (w.hide D o) := by
    refine ⟨rfl, ⟨[], by simp [Wd.hide], fun a h => absurd h (by simp)⟩, fun a q => .inl q, fun a u q _ => ?_, fun a q n => ?_, fun a q _ => ?_⟩
    · show upd w.H D o a = some u
      rw [upd_ne (ne_of_none q hD)]; exact q
    · rcases q with q | q
      · exact absurd q n
      · rw [q]; exact hD
    · obtain ⟨z, hz⟩ := h.dom a q
      show upd w.H D o a = _
      rw [upd_ne (ne_of_none hz hD)]
  refine ⟨e, h.len, h.nd, fun a q => .inl (h.phi a q), fun a q => ?_, fun n a m h1 h2 => ?_⟩
  · rcases q with q | q
    · obtain ⟨z, hz⟩ := h.dom a q
      exact ⟨z, by show upd w.H D o a = _; rw [upd_ne (ne_of_none hz hD)]; exact hz⟩
    · exact ⟨o, by rw [q]; exact upd_same⟩
  · have mm := h.objs n a m h1 h2
    obtain ⟨z, hz⟩ := mm.there
    exact mm.mono e (by show upd w.H D o a = _; rw [upd_ne (ne_of_none hz hD)])
/-- a hidden list, ahead -/
structure Hid (u : Wd) (D : Addr) (v : Wd) (S : Store) (acc : List V) (accP : List PV) : Prop where
  e : Ext u v
  phi : v.phi D
  nal : D ∉ v.al
  at_ : v.H D = some (.lst acc)
  h : HRel v S
  r : Reps v acc accP
theorem Hid.begin {u : Wd} {S : Store} (h : HRel u S) {D : Addr} (hD : u.H D = none) : Hid u D (u.hide D (.lst [])) S [] [] :=
  ⟨(hide_ext h hD).1, .inr rfl, h.notAl hD, upd_same, (hide_ext h hD).2, .nil⟩
theorem Hid.next {u v t : Wd} {D : Addr} {S S2 : Store} {acc : List V} {accP : List PV} (a : Hid u D v S acc accP) (e : Ext v t) (h : HRel t S2) : Hid u D t S2 acc accP := by
  refine ⟨a.e.trans e, e.phi D a.phi, fun hm => ?_, (e.hid D a.phi a.nal).trans a.at_, h, a.r.mono e⟩
  obtain ⟨b, hb, nb⟩ := e.al
  rw [hb] at hm
  rcases List.mem_append.mp hm with z | z
  · exact a.nal z
  · exact (nb D z).1 a.phi
theorem Hid.push {u v : Wd} {D : Addr} {S S0 : Store} {acc : List V} {accP : List PV} {y : V} {p : PV} (h0 : HRel u S0) (a : Hid u D v S acc accP) (hD : u.H D = none) (r : Rep v y p) :
    Hid u D { v with H := upd v.H D (.lst (acc ++ [y])) } S (acc ++ [y]) (accP ++ [p]) := by
  have rm : RM v { v with H := upd v.H D (.lst (acc ++ [y])) } := ⟨rfl, fun _ _ z => z, fun b o q n => ⟨by
    show upd v.H D _ b = _
    rw [upd_ne (fun z => n (by rw [z]; exact a.phi))]; exact q, n⟩⟩
  refine ⟨⟨a.e.k, a.e.al, a.e.phi, fun b o q n => ?_, a.e.new, fun b q n => ?_⟩, a.phi, a.nal, upd_same, ⟨a.h.len, a.h.nd, a.h.phi, fun b q => ?_, fun n b m h1 h2 => ?_⟩, (a.r.snoc r).monoR rm⟩
  · show upd v.H D _ b = _
    rw [upd_ne (ne_of_none q hD)]; exact a.e.keep b o q n
  · obtain ⟨z, hz⟩ := h0.dom b q
    show upd v.H D _ b = _
    rw [upd_ne (ne_of_none hz hD)]; exact a.e.hid b q n
  · by_cases e : b = D
    · exact ⟨_, by rw [e]; exact upd_same⟩
    · obtain ⟨z, hz⟩ := a.h.dom b q
      exact ⟨z, by show upd v.H D _ b = _; rw [upd_ne e]; exact hz⟩
  · have hb : b ≠ D := fun z => a.nal (by rw [← z]; exact List.mem_of_getElem? h1)
    exact (a.h.objs n b m h1 h2).monoR rm (by show upd v.H D _ b = _; rw [upd_ne hb])
/-- .. left as it is -/
theorem Hid.frozen {u v : Wd} {D : Addr} {S S0 : Store} {acc : List V} {accP : List PV} (h0 : HRel u S0) (hD : u.H D = none) (a : Hid u D v S acc accP) :
    ∃ z : Wd, z.H = v.H ∧ Ext u z ∧ HRel z S ∧ Rep z (.ref D) (.lst accP) := by
  have rm : RM v { v with phi := fun b => v.phi b ∧ b ≠ D } := ⟨rfl, fun _ _ z => z, fun b o q n => ⟨q, fun z => n z.1⟩⟩
  refine ⟨{ v with phi := fun b => v.phi b ∧ b ≠ D }, rfl, ⟨a.e.k, a.e.al, fun b q => ⟨a.e.phi b q, fun z => ?_⟩, a.e.keep, fun b q n => a.e.new b q.1 n, a.e.hid⟩, ⟨a.h.len, a.h.nd, fun b hb => ⟨a.h.phi b hb, fun z => a.nal (by rw [← z]; exact hb)⟩, fun b q => a.h.dom b q.1, fun n b m h1 h2 => (a.h.objs n b m h1 h2).monoR rm rfl⟩, .lst ⟨.inl a.at_, fun z => z.2 rfl⟩ (a.r.monoR rm)⟩
  subst z
  obtain ⟨o, ho⟩ := h0.dom _ q
  rw [hD] at ho; cases ho
/-- .. made an object of the store -/
theorem Hid.store {u v : Wd} {D : Addr} {S S0 : Store} {acc : List V} {accP : List PV} (h0 : HRel u S0) (hD : u.H D = none) (a : Hid u D v S acc accP) :
    ∃ z : Wd, z.H = v.H ∧ Ext u z ∧ HRel z (S ++ [.lst accP]) ∧ Rep z (.ref D) (.ref S.length) := by
  have rm : RM v { v with al := v.al ++ [D] } := ⟨rfl, fun n b z => by
    show (v.al ++ [D])[n]? = _
    rw [List.getElem?_append_left (List.getElem?_eq_some_iff.mp z).1]; exact z, fun b o q n => ⟨q, n⟩⟩
  obtain ⟨bs, hb, nb⟩ := a.e.al
  refine ⟨{ v with al := v.al ++ [D] }, rfl, ⟨a.e.k, ⟨bs ++ [D], by show v.al ++ [D] = _; rw [hb, List.append_assoc], fun b hm => ?_⟩, a.e.phi, a.e.keep, a.e.new, a.e.hid⟩, ⟨?_, ?_, fun b hm => ?_, a.h.dom, fun n b m h1 h2 => ?_⟩, .ref ?_⟩
  · rcases List.mem_append.mp hm with z | z
    · exact nb b z
    · have e : b = D := by simpa using z
      rw [e]; exact ⟨h0.notPhi hD, hD⟩
  · show (v.al ++ [D]).length = (S ++ [_]).length
    rw [List.length_append, List.length_append, a.h.len]; rfl
  · refine List.nodup_append.mpr ⟨a.h.nd, by simp, fun b hb c hc z => ?_⟩
    have e : c = D := by simpa using hc
    subst e; subst z
    exact a.nal hb
  · rcases List.mem_append.mp (show b ∈ v.al ++ [D] from hm) with z | z
    · exact a.h.phi b z
    · have e : b = D := by simpa using z
      rw [e]; exact a.phi
  · have h1' : (v.al ++ [D])[n]? = some b := h1
    by_cases hn : n < v.al.length
    · rw [List.getElem?_append_left hn] at h1'
      rw [List.getElem?_append_left (by rw [← a.h.len]; exact hn)] at h2
      exact (a.h.objs n b m h1' h2).monoR rm rfl
    · have hl : n < (v.al ++ [D]).length := (List.getElem?_eq_some_iff.mp h1').1
      have hn2 : n = v.al.length := by rw [List.length_append] at hl; simp at hl; omega
      subst hn2
      rw [List.getElem?_append_right (Nat.le_refl _)] at h1'
      rw [a.h.len, List.getElem?_append_right (Nat.le_refl _)] at h2
      simp at h1' h2
      subst h1'; subst h2
      exact ⟨acc, a.at_, a.r.monoR rm⟩
  · show (v.al ++ [D])[S.length]? = some D
    rw [← a.h.len, List.getElem?_append_right (Nat.le_refl _)]; simp

theorem nox_ok_inv {β : Type} {r : Res β} {b : β} {S : Store} (h : r.nox = .ok b S) : r = .ok b S := by
  cases r with
  | ok c S1 => exact h
  | exc c a S1 => cases h
  | bad => cases h
def finL (rf : Bool) (ys : List PV) (S : Store) : Res PV := if rf = true then .ok (.ref S.length) (S ++ [.lst ys]) else .ok (.lst ys) S
theorem compL_noexc {f : PV → Store → Res (Option PV)} {g : Option (Nat × List PV)} (hf : ∀ x S c a S', f x S ≠ .exc c a S') : ∀ (xs : List PV) (S : Store) (c : Nat) (a : PV) (S' : Store), compL f g xs S ≠ .exc c a S'
  | [], _, _, _, _, h => by unfold compL at h; cases h
  | x :: xs, S, c, a, S', h => by
    unfold compL at h
    cases e : f x S with
    | bad => rw [e] at h; cases h
    | exc c2 a2 S2 => exact hf x S _ _ _ e
    | ok o S1 =>
      rw [e, Res.bind_ok] at h
      split at h
      · cases e2 : compL f g xs S1 with
        | bad => rw [e2] at h; cases h
        | exc c2 a2 S2 => exact compL_noexc hf xs S1 _ _ _ e2
        | ok ys S2 => rw [e2] at h; cases h
      · cases h
open Classical in
theorem compL_cons_ok {f : PV → Store → Res (Option PV)} {g : Option (Nat × List PV)} {x : PV} {xs ys : List PV} {S S' : Store} (h : compL f g (x :: xs) S = .ok ys S') :
    ∃ o S1 zs, f x S = .ok o S1 ∧ Grd g S1 ∧ compL f g xs S1 = .ok zs S' ∧ ys = match o with
      | some y => y :: zs
      | none => zs := by
  unfold compL at h
  obtain ⟨o, S1, h1, h2⟩ := bind_ok_inv h
  split at h2
  · rename_i hg
    obtain ⟨zs, S2, h3, h4⟩ := bind_ok_inv h2
    cases h4
    exact ⟨o, S1, zs, h1, hg, h3, rfl⟩
  · cases h2
section
variable {Z : Xc} {W : WX}
/-- what a list comprehension's reading is -/
theorem lc_read {rf : Bool} {it : IT} {t : TGT} {mo : MEo} {me : ME} {vs : List Nat} (hx : Z.C.hx = none) (hsl : ∀ i ∈ slT t, i ∈ vs) {σ : St} {H : Hp} {Q : VK} (h : TI Z W (.comp rf vs t it mo me) σ H Q) :
    tLc (TII Z W it) (TGr Z t) (TIC Z WF mo) (TI Z WF me) vs σ H Q := by
  obtain ⟨w, r, S, at_, g⟩ := h
  rw [evalE] at g
  refine ⟨w, r, S, at_, g.bindE fun u J p S1 hev e1 h1 wk g1 => ?_⟩
  have hgd := evalI_grd hev
  have a1 := at_.next e1 h1
  intro D hD
  split at g1
  · rename_i hlen
    generalize hf : (fun (x : PV) (S2 : Store) => match bindT t x (wipeP r vs) with
      | none => Res.bad
      | some r2 => ((evalC Z.C mo r2 S2).bind fun b S3 => if b = true then (evalE Z.C me r2 S3).bind fun y S4 => .ok (some y) S4 else .ok none S3).nox) = f at g1
    have fnox : ∀ x S c a S', f x S ≠ .exc c a S' := fun x S c a S' q => by
      rw [← hf] at q
      dsimp only at q
      split at q
      · cases q
      · rename_i r2 _
        cases hq : ((evalC Z.C mo r2 S).bind fun b S3 => if b = true then (evalE Z.C me r2 S3).bind fun y S4 => Res.ok (some y) S4 else .ok none S3) <;> rw [hq] at q <;> cases q
    cases hc : compL f p.2 p.1 S1 with
    | bad => rw [hc] at g1; exact g1.elim
    | exc c a S2 => exact absurd hc (compL_noexc fnox _ _ _ _ _)
    | ok ys S9 =>
      rw [hc, Res.bind_ok] at g1
      let Pv : Nat → Hp → Prop := fun i H => ∃ v S acc accP zs, v.H = H ∧ v.K = Z.K ∧ Hid u D v S acc accP ∧ Grd p.2 S ∧ accP.length ≤ i ∧ compL f p.2 (p.1.drop i) S = .ok zs S9 ∧ ys = accP ++ zs
      refine ⟨fun i m H => m = p.1.length - i ∧ i ≤ p.1.length ∧ Pv i H, ⟨p.1.length, by simp, Nat.zero_le _, u.hide D (.lst []), S1, [], [], ys, rfl, e1.k.trans at_.K, Hid.begin h1 hD, hgd, Nat.zero_le _, by simpa using hc, rfl⟩, ?_⟩
      rintro i m H ⟨rfl, hi, v, S, acc, accP, zs, rfl, vK, hid, hgd, hal, hcl, rfl⟩
      by_cases hlt : i < p.1.length
      · refine .inr ⟨wk.goes v S i hid.e.rm hid.h hgd hlt, Pv (i + 1), fun H' p' => ⟨p.1.length - (i + 1), by omega, rfl, hlt, p'⟩, fun x H' y => ?_⟩
        obtain ⟨v', q, eq1, e2, h2, hq, rq⟩ := wk.yields v S i x H' hid.e.rm hid.h hgd hlt y
        subst eq1
        have hid2 := hid.next e2 h2
        have hd : p.1.drop i = q :: p.1.drop (i + 1) := by
          obtain ⟨hl2, hq2⟩ := List.getElem?_eq_some_iff.mp hq
          rw [List.drop_eq_getElem_cons hl2, hq2]
        rw [hd] at hcl
        obtain ⟨o, S2, zs2, hfx, hg2, hcl2, rfl⟩ := compL_cons_ok hcl
        rw [← hf] at hfx
        dsimp only at hfx
        cases hbt : bindT t q (wipeP r vs) with
        | none => rw [hbt] at hfx; cases hfx
        | some r2 =>
          rw [hbt] at hfx
          have hfx := nox_ok_inv hfx
          obtain ⟨b, S3, hb1, hb2⟩ := bind_ok_inv hfx
          have e9 : Ext u v' := hid2.e
          have at0 : At Z (wipe σ vs) v'.H v' (wipeP r vs) S := ⟨rfl, e2.k.trans vK, ((a1.e.mono e9).wipe vs), h2, by unfold HX; rw [hx]; trivial⟩
          refine ⟨v', _, S, q, r2, at0, rq, hbt, fun σ2 at2 hw => ⟨(hw vs hsl).trans wipe_wipe, v', r2, S, at2, ?_⟩⟩
          rw [hb1]
          intro u3 b' e3 h3 eb
          subst eb
          have hid3 := hid2.next e3 h3
          have at3 := at2.next e3 h3
          cases b' with
          | false =>
            rw [if_neg Bool.false_ne_true] at hb2 ⊢
            cases hb2
            exact ⟨u3, S2, acc, accP, zs2, rfl, e3.k.trans (e2.k.trans vK), hid3, hg2, Nat.le_succ_of_le hal, hcl2, rfl⟩
          | true =>
            rw [if_pos rfl] at hb2 ⊢
            obtain ⟨y9, S4, hy1, hy2⟩ := bind_ok_inv hb2
            cases hy2
            refine ⟨u3, r2, S3, at3, ?_⟩
            rw [hy1]
            intro u4 yv e4 h4 ry
            have hid4 := hid3.next e4 h4
            have hz : acc.length < sizeLine := by rw [hid4.r.length]; omega
            refine ⟨acc, hid4.at_, hz, { u4 with H := upd u4.H D (.lst (acc ++ [yv])) }, S2, acc ++ [yv], accP ++ [y9], zs2, rfl, e4.k.trans (e3.k.trans (e2.k.trans vK)), hid4.push h1 hD ry, hg2, ?_, hcl2, ?_⟩
            · rw [List.length_append]; exact Nat.add_le_add_right hal 1
            · rw [List.append_assoc]; rfl
      · have e : i = p.1.length := by omega
        subst e
        rw [List.drop_length] at hcl
        unfold compL at hcl
        cases hcl
        refine .inl ⟨wk.stops v S9 hid.e.rm hid.h hgd, ?_⟩
        rw [List.append_nil] at g1
        cases rf with
        | true =>
          rw [if_pos rfl] at g1
          obtain ⟨z, hz, ez, hrz, rz⟩ := hid.store h1 hD
          rw [← hz]
          exact g1 z _ ez hrz rz
        | false =>
          rw [if_neg Bool.false_ne_true] at g1
          obtain ⟨z, hz, ez, hrz, rz⟩ := hid.frozen h1 hD
          rw [← hz]
          exact g1 z _ ez hrz rz
  · exact g1.elim
variable {X : Cx} {elt tg iter e : Expr} {ifs : List Expr} {scope : Scope} {own : List (Str × Nat)} {pos : Pos} {it : IT} {t : TGT} {mo : MEo} {me ma : ME} {rf : Bool}
theorem snd_comp (hx : Z.C.hx = none) (hc : X.calm = true) (hN : X.N.Nodup) (hi : PI X tg iter (TII Z W it)) (ok : BlkOk X.N X.env.scope scope own)
    (hg : ∀ (s : Shared) (H : Hp) (C : Addr) (cl : List (Str × Addr)) (fp : List Addr), PG (X.blk s H scope (compEnvC scope cl C X.env) fp) tg (TGr Z t)) (ht : ∀ (s : Shared) (H : Hp) (C : Addr) (cl : List (Str × Addr)) (fp : List Addr), PTs (X.blk s H scope (compEnvC scope cl C X.env) fp) ifs (TIC Z WF mo))
    (he : ∀ (s : Shared) (H : Hp) (C : Addr) (cl : List (Str × Addr)) (fp : List Addr), PE (X.blk s H scope (compEnvC scope cl C X.env) fp) elt (TI Z WF me)) (hs : ∀ x, foldedSetIterable iter X.env x = pure x) (hsl : ∀ i ∈ slT t, i ∈ own.map (·.2)) :
    PE X (.ListComp elt [⟨tg, iter, ifs, 0⟩] scope pos) (TI Z W (.comp rf (own.map (·.2)) t it mo me)) :=
  (pe_lc hc hN hi ok hg ht he hs).imp fun σ H Q h => lc_read hx hsl h
/-- name = [..] on one line -/
theorem snd_setLc {i : Nat} {y : Str} {py spos : Pos} (hx : Z.C.hx = none) (hc : X.calm = true) (hN : X.N.Nodup) (hy : X.N[i]? = some y) (hyl : X.env.scope.names.lookup y = some .local)
    (hsw : swapsWith (.ListComp elt [⟨tg, iter, ifs, 0⟩] scope pos) (some (.Name y py)) spos.line X.env = pure true) (hi : PI X tg iter (TII Z W it)) (ok : BlkOk X.N X.env.scope scope own)
    (hg : ∀ (s : Shared) (H : Hp) (C : Addr) (cl : List (Str × Addr)) (fp : List Addr), PG (X.blk s H scope (compEnvC scope cl C X.env) fp) tg (TGr Z t)) (ht : ∀ (s : Shared) (H : Hp) (C : Addr) (cl : List (Str × Addr)) (fp : List Addr), PTs (X.blk s H scope (compEnvC scope cl C X.env) fp) ifs (TIC Z WF mo))
    (he : ∀ (s : Shared) (H : Hp) (C : Addr) (cl : List (Str × Addr)) (fp : List Addr), PE (X.blk s H scope (compEnvC scope cl C X.env) fp) elt (TI Z WF me)) (hs : ∀ x, foldedSetIterable iter X.env x = pure x) (hsl : ∀ i ∈ slT t, i ∈ own.map (·.2)) :
    PS X (.Assign [.Name y py] (.ListComp elt [⟨tg, iter, ifs, 0⟩] scope pos) spos) (TSS Z W (.asg (.name i) (.comp rf (own.map (·.2)) t it mo me))) := by
  refine (ps_setLc hc hN hy hyl hsw hi ok hg ht he hs).imp fun D σ H h => ?_
  obtain ⟨w, r, S, at_, g⟩ := h
  rw [evalS] at g
  refine lc_read (rf := rf) hx hsl ⟨w, r, S, at_, GoodS.to at_ g fun u v p S1 he e1 h1 r1 g1 => ?_⟩
  exact g1 u _ (Ext.refl u) ((at_.next e1 h1).set hx i r1)
theorem snd_pnil : PTs X [] (TIC Z W .none) := ⟨fun pins s σ H Q I h => pts_nil.run pins s σ H Q I (by
  obtain ⟨w, r, S, at_, g⟩ := h
  rw [evalC] at g
  have e := at_.H; subst e
  exact g w true (Ext.refl w) at_.h rfl)⟩
theorem snd_pone {c : Expr} {mc : ME} (hc : PT X c (TIT Z W mc)) : PTs X [c] (TIC Z W (.some mc)) := ⟨fun pins s σ H Q I h => (pts_one hc).run pins s σ H Q I (by
  obtain ⟨w, r, S, at_, g⟩ := h
  rw [evalC] at g
  exact ⟨w, r, S, at_, g⟩)⟩
end
end Dg
end

section
set_option Elab.async false
set_option linter.all false
set_option maxRecDepth 100000
set_option maxHeartbeats 4000000
/-! DgM: displays of dicts, calls. -/
namespace Dg
open PySem PySem.Spec L2
open PyProof.Rows hiding St

/-! ### displays of dicts -/
theorem mergeK_app : ∀ (kvs acc : List (Key × V)), ((acc ++ kvs).map (·.1)).Nodup → mergeK acc kvs = acc ++ kvs
  | [], acc, _ => by simp [mergeK]
  | p :: kvs, acc, h => by
    have hn : (acc.any fun kv => decide (kv.1 = p.1)) = false := by
      rw [List.any_eq_false]
      intro q hq z
      have z : q.1 = p.1 := of_decide_eq_true z
      rw [List.map_append] at h
      exact (List.nodup_append.mp h).2.2 q.1 (List.mem_map_of_mem hq) p.1 (by simp) z
    show mergeK (L2.putK acc p.1 p.2) kvs = _
    unfold L2.putK
    rw [hn, if_neg Bool.false_ne_true, mergeK_app kvs (acc ++ [(p.1, p.2)]) (by simpa using h)]
    simp
theorem RepK.zip {w : Wd} : ∀ {ks : List Key} {vs : List V} {ps : List PV}, Reps w vs ps → RepK w (ks.zip vs) (ks.zip ps)
  | [], _, _, _ => by simp only [List.zip_nil_left]; exact .nil
  | k :: ks, _, _, .nil => by simp only [List.zip_nil_right]; exact .nil
  | k :: ks, _, _, .cons h r => by simp only [List.zip_cons_cons]; exact .cons h (RepK.zip r)
theorem dict_store {w u : Wd} {D : Addr} {S S0 : Store} {ws : List (Key × V)} {kvs : List (Key × PV)} (h0 : HRel w S0) (hD : w.H D = none) (e : Ext (w.hide D (.dK [])) u) (hu : HRel u S) (r : RepK u ws kvs) :
    Ext w { u with al := u.al ++ [D], H := upd u.H D (.dK ws) } ∧ HRel { u with al := u.al ++ [D], H := upd u.H D (.dK ws) } (S ++ [.dct kvs]) ∧ Rep { u with al := u.al ++ [D], H := upd u.H D (.dK ws) } (.ref D) (.ref S.length) := by
  have hphi : u.phi D := e.phi D (.inr rfl)
  have hnal : D ∉ u.al := fun hm => by
    obtain ⟨b, hb, nb⟩ := e.al
    rw [hb] at hm
    rcases List.mem_append.mp hm with z | z
    · exact h0.notAl hD z
    · exact (nb D z).1 (.inr rfl)
  have e0 : Ext w u := (hide_ext h0 hD).1.trans e
  have rm : RM u { u with al := u.al ++ [D], H := upd u.H D (.dK ws) } := ⟨rfl, fun n b z => by
    show (u.al ++ [D])[n]? = _
    rw [List.getElem?_append_left (List.getElem?_eq_some_iff.mp z).1]; exact z, fun b o q n => ⟨by
    show upd u.H D _ b = _
    rw [upd_ne (fun z => n (by rw [z]; exact hphi))]; exact q, n⟩⟩
  obtain ⟨bs, hb, nb⟩ := e0.al
  refine ⟨⟨e0.k, ⟨bs ++ [D], by show u.al ++ [D] = _; rw [hb, List.append_assoc], fun b hm => ?_⟩, e0.phi, fun b o q n => ?_, e0.new, fun b q n => ?_⟩, ⟨?_, ?_, fun b hm => ?_, fun b q => ?_, fun n b m h1 h2 => ?_⟩, .ref ?_⟩
  · rcases List.mem_append.mp hm with z | z
    · exact nb b z
    · have e : b = D := by simpa using z
      rw [e]; exact ⟨h0.notPhi hD, hD⟩
  · show upd u.H D _ b = _
    rw [upd_ne (ne_of_none q hD)]; exact e0.keep b o q n
  · obtain ⟨z, hz⟩ := h0.dom b q
    show upd u.H D _ b = _
    rw [upd_ne (ne_of_none hz hD)]; exact e0.hid b q n
  · show (u.al ++ [D]).length = (S ++ [_]).length
    rw [List.length_append, List.length_append, hu.len]; rfl
  · refine List.nodup_append.mpr ⟨hu.nd, by simp, fun b hb c hc z => ?_⟩
    have e : c = D := by simpa using hc
    subst e; subst z
    exact hnal hb
  · rcases List.mem_append.mp (show b ∈ u.al ++ [D] from hm) with z | z
    · exact hu.phi b z
    · have e : b = D := by simpa using z
      rw [e]; exact hphi
  · by_cases e : b = D
    · exact ⟨_, by rw [e]; exact upd_same⟩
    · obtain ⟨z, hz⟩ := hu.dom b q
      exact ⟨z, by show upd u.H D _ b = _; rw [upd_ne e]; exact hz⟩
  · have h1' : (u.al ++ [D])[n]? = some b := h1
    by_cases hn : n < u.al.length
    · rw [List.getElem?_append_left hn] at h1'
      rw [List.getElem?_append_left (by rw [← hu.len]; exact hn)] at h2
      have hb : b ≠ D := fun z => hnal (by rw [← z]; exact List.mem_of_getElem? h1')
      exact (hu.objs n b m h1' h2).monoR rm (by show upd u.H D _ b = _; rw [upd_ne hb])
    · have hl : n < (u.al ++ [D]).length := (List.getElem?_eq_some_iff.mp h1').1
      have hn2 : n = u.al.length := by rw [List.length_append] at hl; simp at hl; omega
      subst hn2
      rw [List.getElem?_append_right (Nat.le_refl _)] at h1'
      rw [hu.len, List.getElem?_append_right (Nat.le_refl _)] at h2
      simp at h1' h2
      subst h1'; subst h2
      exact ⟨ws, upd_same, r.monoR rm⟩
  · show (u.al ++ [D])[S.length]? = some D
    rw [← hu.len, List.getElem?_append_right (Nat.le_refl _)]; simp
def trsD (Z : Xc) (W : WX) : List Key → MEs → List (TE × TE)
  | k :: ks, .cons e es => (tC (kV k), TI Z W e) :: trsD Z W ks es
  | _, _ => []
theorem tPairs_read {Z : Xc} {W : WX} : ∀ {ks : List Key} {ms : MEs} {σ : St} {H : Hp} {Q : List (V × V) → Hp → Prop} {w : Wd} {r : PEnv} {S : Store}, ks.length = lenMs ms → At Z σ H w r S →
    Good Z W σ Reps w (fun vs H2 => Q ((ks.zip vs).map fun kv => (kV kv.1, kv.2)) H2) (evalEs Z.C ms r S) → tPairs (trsD Z W ks ms) σ H Q
  | [], .nil, σ, H, Q, w, r, S, _, at_, g => by
    rw [evalEs] at g
    have e := at_.H
    subst e
    exact g w [] (Ext.refl w) at_.h .nil
  | [], .cons _ _, _, _, _, _, _, _, h, _, _ => by cases h
  | _ :: _, .nil, _, _, _, _, _, _, h, _, _ => by cases h
  | k :: ks, .cons e es, σ, H, Q, w, r, S, h, at_, g => by
    rw [evalEs] at g
    show TI Z W e σ H fun y H2 => tPairs (trsD Z W ks es) σ H2 fun ps H3 => Q ((kV k, y) :: ps) H3
    refine ⟨w, r, S, at_, g.bindI fun u y p S1 e1 h1 r1 g1 => ?_⟩
    refine tPairs_read (Nat.succ.inj h) (at_.next e1 h1) (g1.bindI fun t vs ps S2 e2 h2 r2 g2 => ?_)
    exact g2 t (y :: vs) (Ext.refl t) h2 (.cons (r1.mono e2) r2)
section
variable {X : Cx} {Z : Xc} {W : WX} {a b c e : Expr} {ma mb mc : ME} {pos p : Pos} {x : Str}
theorem snd_dict {keys : List (Option Expr)} {values : List Expr} {ks : List Key} {ms : MEs} (hp : PPs X pos keys values (trsD Z W ks ms)) (hk : ks.length = lenMs ms) (hall : keys.all (·.isSome) = true) (hl : keys.length = values.length) (h0 : keys ≠ []) (h15 : keys.length ≤ 15) (hkx : ∀ (σ : St) (w : Wd), HX Z σ w) :
    PE X (.Dict keys values pos) (TI Z W (.dctR ks ms)) := by
  refine (pe_disp hp hall hl h0 h15).imp fun σ H Q h => ?_
  obtain ⟨w, r, S, at_, g⟩ := h
  rw [evalE] at g
  intro D hD
  have eH := at_.H
  subst eH
  obtain ⟨e0, h0'⟩ := hide_ext (o := .dK []) at_.h hD
  have at0 : At Z σ (upd w.H D (.dK [])) (w.hide D (.dK [])) r S := ⟨rfl, at_.K, at_.e.mono e0, h0', hkx _ _⟩
  refine tPairs_read hk at0 ?_
  have key : ∀ (res : Res (List PV)), Good Z W σ Rep w Q (res.bind fun vs S1 => if vs.length = ks.length ∧ vs.length ≤ 15 ∧ ks.Nodup then .ok (.ref S1.length) (S1 ++ [.dct (ks.zip vs)]) else .bad) →
      Good Z W σ Reps (w.hide D (.dK [])) (fun vs H2 => H2 D = some (.dK []) ∧ ∃ kvs : List (Key × V), ((ks.zip vs).map fun kv => (kV kv.1, kv.2)) = kvs.map (fun kv => (kV kv.1, kv.2)) ∧ kvs.length ≤ 15 ∧ Q (.ref D) (upd H2 D (.dK (mergeK [] kvs)))) res := fun res g => by
    cases res with
    | bad => exact g
    | exc c v S1 => exact fun u d va e h h1 h2 h3 => g u d va (e0.trans e) h h1 h2 h3
    | ok q S1 =>
      rw [Res.bind_ok] at g
      split at g
      · rename_i hq
        intro u vs e1 h1 rs
        have hz : (ks.zip vs).length ≤ 15 := by
          rw [List.length_zip, rs.length]; omega
        have hD2 : u.H D = some (.dK []) := (e1.hid D (.inr rfl) (at_.h.notAl hD)).trans upd_same
        refine ⟨hD2, ks.zip vs, rfl, hz, ?_⟩
        have hm : mergeK [] (ks.zip vs) = ks.zip vs := by
          rw [mergeK_app _ [] ?_]
          · rfl
          · rw [List.nil_append]
            have : (ks.zip vs).map (·.1) = ks := by
              rw [List.map_fst_zip]
              rw [rs.length]; omega
            rw [this]; exact hq.2.2
        rw [hm]
        obtain ⟨e9, h9, r9⟩ := dict_store at_.h hD e1 h1 (RepK.zip (ks := ks) rs)
        exact g _ _ e9 h9 r9
      · exact g.elim
  exact key _ g
/-- {} -/
theorem snd_dict0 : PE X (.Dict [] [] pos) (TI Z W (.dctR [] .nil)) := by
  refine pe_dnewK.imp fun σ H Q h => ?_
  obtain ⟨w, r, S, at_, g⟩ := h
  rw [evalE, evalEs, Res.bind_ok] at g
  intro D hD
  have eH := at_.H
  subst eH
  rw [if_pos ⟨rfl, Nat.zero_le _, List.nodup_nil⟩] at g
  obtain ⟨h2, r2⟩ := at_.h.add (o := .dK []) (m := .dct []) hD ⟨[], upd_same, .nil⟩
  exact g _ _ (Ext.add at_.h hD) h2 r2
/-! ### calls -/
/-- a def by plain values -/
def spI (Z : Xc) (g : List PV → Store → Res PV) (n : Nat) : Sp := fun vs H Q E => ∃ w S pvs, w.H = H ∧ w.K = Z.K ∧ HRel w S ∧ Reps w vs pvs ∧ pvs.length = n ∧ Good Z (fun c d _ H => E c d H) [] Rep w Q (g pvs S)
/-- how a call's arguments are bound -/
structure CallB (K : PySem.W.Frag) (fd : FuncData) (ps : List Str) (n : Nat) (ks : List Str) (perm : List (Sum Nat PV)) : Prop where
  go : ∃ (g : List Value → List Value → List Value) (gV : List V → List V → List V), KBn K fd ps n ks g gV ∧
    ∀ (w : Wd) (vs zs : List V) (pv pz : List PV), Reps w vs pv → Reps w zs pz → pv.length = n → pz.length = ks.length → ∃ r, permP perm (pv ++ pz) = some r ∧ r.length = ps.length ∧ Reps w (gV vs zs) r
/-- a def that may be called here -/
structure Callee (X : Cx) (Z : Xc) (x : Str) (n : Nat) (ks : List Str) (f : Nat) (perm : List (Sum Nat PV)) : Prop where
  go : ∃ (k : Nat) (fa : Addr) (fd : FuncData) (ps : List Str), FnOk X.prog X.w X.K X.mg X.base (L2.CX X.prog X.w) k fa fd ps (spI Z (Z.C.G f) ps.length) ∧ Room k X.A ∧ X.mg x = some (.ref fa) ∧ PySem.W.keepIn X.K (.ref fa) = true ∧ CallB X.K fd ps n ks perm
def tCallG (sp : Sp) (n m : Nat) (gV : List V → List V → List V) (E : St → XK) (t tk : TA) : TE := fun σ H Q => t σ H fun vs H1 => tk σ H1 fun zs H2 => vs.length = n ∧ zs.length = m ∧ sp (gV vs zs) H2 Q (E σ)
section
variable {CX : CXT} {k n : Nat} {f : Addr} {fd : FuncData} {ps ks : List Str} {sp : Sp} {E : St → XK} {es : List Expr} {kws : List Keyword} {t tk : TA} {g : List Value → List Value → List Value} {gV : List V → List V → List V}
theorem run_fnG {pins : List (Addr × Obj)} {σ : St} {H : Hp} {s : Shared} {Q : VK} {us ws : List Value} {vs zs : List V} (F : FnOk X.prog X.w X.K X.mg X.base CX k f fd ps sp) (hr : Room k X.A) (hb : KBn X.K fd ps n ks g gV) (hx : PassesAt CX X σ (E σ))
    (I : Inv X pins σ H s) (r : Vals vs us) (rz : Vals zs ws) (l1 : vs.length = n) (l2 : zs.length = ks.length) (h : sp (gV vs zs) H Q (E σ)) : wpAny (model X.prog X.w) X.A (call (.ref f) us (ks.zip ws)) (EP X pins σ Q) X.xe s := by
  have r2 := hb.rel r rz
  refine wpAny_call (codeAny_mono (F.run X.A X.stack s H ⟨us, ks.zip ws⟩ (g us ws) (gV vs zs) Q (E σ) hr I.env0 (hb.to s us ws I.kIn (r.length.symm.trans l1) (rz.length.symm.trans l2)) r2 h) fun r s' hq => ?_)
  cases r with
  | error e => exact hx pins H s e s' I hq
  | ok fl =>
    cases fl with
    | ret u => exact I.after hq
    | next => exact False.elim hq
    | brk => exact False.elim hq
    | cont => exact False.elim hq
/-- f(e, ..) -/
theorem pe_cg (F : FnOk X.prog X.w X.K X.mg X.base CX k f fd ps sp) (hr : Room k X.A) (hg : Gl X x) (hm : X.mg x = some (.ref f)) (hk : PySem.W.keepIn X.K (.ref f) = true) (hb : KBn X.K fd ps n [] g gV) (hx : ∀ σ, PassesAt CX X σ (E σ))
    (ha : PA X (e :: es) t) (hdb : (x == ("__debug__" : Str)) = false) (he : starEach (e :: es) X.env = (false, eval e X.env) :: starEach es X.env) (hpl : (backTo pos (starEach es X.env)).any (·.1) = false) :
    PE X (.Call (.Name x p) (e :: es) [] pos) (tCallG sp n 0 gV E t tNil) := by
  refine ⟨fun pins s σ H Q I h => ?_⟩
  refine wpAny_Call_Name_kw (ld_glob I hg hm ?_ hdb)
  refine PySem.W.callWith_K (h₀ := X.base) I.ok.mod.kin hk (thn (ha.run pos pins s σ H _ I h) fun us s1 ⟨vs, H1, I1, r, q⟩ => ⟨I1.kIn, ?_⟩) he hpl
  obtain ⟨l1, l2, q⟩ := q
  exact run_fnG (ws := []) (zs := []) F hr hb (hx σ) I1 r .nil l1 rfl q
/-- f(e, .., k = v, ..) -/
theorem pe_cgk (F : FnOk X.prog X.w X.K X.mg X.base CX k f fd ps sp) (hr : Room k X.A) (hg : Gl X x) (hm : X.mg x = some (.ref f)) (hk : PySem.W.keepIn X.K (.ref f) = true) (hb : KBn X.K fd ps n ks g gV) (hx : ∀ σ, PassesAt CX X σ (E σ))
    (ha : PA X (e :: es) t) (hkw : PK X kws tk) (hall : (backToKw pos (keywordEach kws X.env)).all (·.1.isSome) = true) (hks : (backToKw pos (keywordEach kws X.env)).filterMap (·.1) = ks)
    (hdb : (x == ("__debug__" : Str)) = false) (he : starEach (e :: es) X.env = (false, eval e X.env) :: starEach es X.env)
    (hpl : ((backTo pos (starEach (e :: es) X.env)).any (·.1) || (backToKw pos (keywordEach kws X.env)).any (·.1.isNone)) = false) :
    PE X (.Call (.Name x p) (e :: es) kws pos) (tCallG sp n ks.length gV E t tk) := by
  refine ⟨fun pins s σ H Q I h => ?_⟩
  refine wpAny_Call_Name_kw (ld_glob I hg hm ?_ hdb)
  refine PySem.W.callWith_KW (h₀ := X.base) I.ok.mod.kin hk hall (thn (ha.run pos pins s σ H _ I h) fun us s1 ⟨vs, H1, I1, r, q⟩ => ?_) hpl he
  refine thn (hkw.run pos pins s1 σ H1 _ I1 q) fun ws s2 ⟨zs, H2, I2, rz, q2⟩ => ⟨I2.kIn, ?_⟩
  obtain ⟨l1, l2, q2⟩ := q2
  rw [hks]
  exact run_fnG F hr hb (hx σ) I2 r rz l1 l2 q2
/-- f() -/
theorem pe_cg0 (F : FnOk X.prog X.w X.K X.mg X.base CX k f fd ps sp) (hr : Room k X.A) (hg : Gl X x) (hm : X.mg x = some (.ref f)) (hk : PySem.W.keepIn X.K (.ref f) = true) (hb : KBn X.K fd ps n [] g gV) (hx : ∀ σ, PassesAt CX X σ (E σ))
    (hdb : (x == ("__debug__" : Str)) = false) : PE X (.Call (.Name x p) [] [] pos) (tCallG sp n 0 gV E tNil tNil) := by
  refine ⟨fun pins s σ H Q I h => ?_⟩
  refine wpAny_Call_Name_kw (ld_glob I hg hm ?_ hdb)
  obtain ⟨l1, l2, h⟩ := h
  exact PySem.W.callWith_K0 I.kIn hk (run_fnG (us := []) (ws := []) (vs := []) (zs := []) F hr hb (hx σ) I .nil .nil l1 rfl h)
end
end
end Dg
end

section
set_option Elab.async false
set_option linter.all false
set_option maxRecDepth 100000
set_option maxHeartbeats 4000000
/-! DgN: calls of defs, raise, try. -/
namespace Dg
open PySem PySem.Spec L2
open PyProof.Rows hiding St

def appMs : MEs → MEs → MEs
  | .nil, b => b
  | .cons e es, b => .cons e (appMs es b)
theorem evalEs_app {C : Cxt} {b : MEs} : ∀ {a : MEs} {r : PEnv} {S : Store}, evalEs C (appMs a b) r S = (evalEs C a r S).bind fun xs S1 => (evalEs C b r S1).bind fun ys S2 => .ok (xs ++ ys) S2
  | .nil, r, S => by
    rw [evalEs, Res.bind_ok]
    show evalEs C b r S = _
    cases evalEs C b r S <;> rfl
  | .cons e es, r, S => by
    show evalEs C (.cons e (appMs es b)) r S = _
    rw [evalEs, evalEs, Res.bind_assoc]
    congr 1
    funext x S1
    rw [evalEs_app, Res.bind_assoc, Res.bind_assoc]
    congr 1
    funext xs S2
    rw [Res.bind_ok, Res.bind_assoc]
    rfl
theorem Good.wx {α β : Type} {Z : Xc} {W W' : WX} {σ σ' : St} {R : Wd → α → β → Prop} {w : Wd} {Q : α → Hp → Prop} {r : Res β} (g : Good Z W σ R w Q r) (h : ∀ c d H, W c d σ H → W' c d σ' H) : Good Z W' σ' R w Q r := by
  cases r with
  | ok b S => exact g
  | exc c a S => exact fun u d va e h1 h2 h3 h4 => h _ _ _ (g u d va e h1 h2 h3 h4)
  | bad => exact g
theorem call_read {Z : Xc} {W : WX} {σ : St} {H : Hp} {Q : VK} {f n : Nat} {ps ks : List Str} {perm : List (Sum Nat PV)} {ma mk : MEs} {gV : List V → List V → List V} (hn : lenMs ma = n) (hm : lenMs mk = ks.length)
    (hp : ∀ (w : Wd) (vs zs : List V) (pv pz : List PV), Reps w vs pv → Reps w zs pz → pv.length = n → pz.length = ks.length → ∃ r, permP perm (pv ++ pz) = some r ∧ r.length = ps.length ∧ Reps w (gV vs zs) r)
    (h : TI Z W (.call f perm (appMs ma mk)) σ H Q) : tCallG (spI Z (Z.C.G f) ps.length) n ks.length gV (WE W) (TIA Z W ma) (TIA Z W mk) σ H Q := by
  obtain ⟨w, r, S, at_, g⟩ := h
  rw [evalE, evalEs_app, Res.bind_assoc] at g
  refine ⟨w, r, S, at_, g.bindE fun u vs pv S1 he e1 h1 r1 g1 => ?_⟩
  rw [Res.bind_assoc] at g1
  refine ⟨u, r, S1, at_.next e1 h1, Good.bindE g1 fun t zs pz S2 he2 e2 h2 r2 g2 => ?_⟩
  have l1 : pv.length = n := (evalEs_len he).trans hn
  have l2 : pz.length = ks.length := (evalEs_len he2).trans hm
  have r1' := r1.mono e2
  refine ⟨r1.length.trans l1, r2.length.trans l2, ?_⟩
  obtain ⟨q, hq, hl, hr⟩ := hp t vs zs pv pz r1' r2 l1 l2
  rw [Res.bind_ok, hq] at g2
  exact ⟨t, S2, q, rfl, e2.k.trans (e1.k.trans at_.K), h2, hr, hl, g2.wx fun _ _ _ z => z⟩
section
variable {X : Cx} {Z : Xc} {W : WX} {a b c e : Expr} {ma mb mc : ME} {pos p pos' : Pos} {x : Str} {es : List Expr} {kws : List Keyword} {ms mk : MEs} {n f : Nat} {ks : List Str} {perm : List (Sum Nat PV)}
theorem app_nil : ∀ ms : MEs, appMs ms .nil = ms
  | .nil => rfl
  | .cons e es => by show MEs.cons e (appMs es .nil) = _; rw [app_nil es]
theorem nilK {Z : Xc} {W : WX} {σ : St} {H : Hp} {Q : List V → Hp → Prop} (h : TIA Z W .nil σ H Q) : tNil σ H Q := by
  obtain ⟨w, r, S, at_, g⟩ := h
  rw [evalEs] at g
  show Q [] H
  rw [← at_.H]
  exact g w [] (Ext.refl w) at_.h .nil
theorem snd_call (hC : Callee X Z x n [] f perm) (tk : Takes X W) (hg : Gl X x) (ha : PA X (e :: es) (TIA Z W ms)) (hn : lenMs ms = n) (hdb : (x == ("__debug__" : Str)) = false)
    (he : starEach (e :: es) X.env = (false, eval e X.env) :: starEach es X.env) (hpl : (backTo pos (starEach es X.env)).any (·.1) = false) : PE X (.Call (.Name x p) (e :: es) [] pos) (TI Z W (.call f perm ms)) := by
  obtain ⟨k, fa, fd, ps, F, hr, hm, hk, ⟨g, gV, hb, hp⟩⟩ := hC.go
  refine (pe_cg F hr hg hm hk hb (fun σ => passAt tk σ) ha hdb he hpl).imp fun σ H Q h => ?_
  have h2 := call_read (mk := .nil) (ks := []) hn rfl hp (by rw [app_nil]; exact h)
  obtain ⟨w, r, S, at_, g2⟩ := h2
  refine ⟨w, r, S, at_, ?_⟩
  have key : ∀ (res : Res (List PV)), Good Z W σ Reps w (fun vs H1 => TIA Z W .nil σ H1 fun zs H2 => vs.length = n ∧ zs.length = 0 ∧ spI Z (Z.C.G f) ps.length (gV vs zs) H2 Q (WE W σ)) res → Good Z W σ Reps w (fun vs H1 => tNil σ H1 fun zs H2 => vs.length = n ∧ zs.length = 0 ∧ spI Z (Z.C.G f) ps.length (gV vs zs) H2 Q (WE W σ)) res := fun res g => by
    cases res with
    | ok q S1 => exact fun u vs e1 h1 r1 => nilK (g u vs e1 h1 r1)
    | exc c v S1 => exact g
    | bad => exact g
  exact key _ g2
theorem snd_call0 (hC : Callee X Z x 0 [] f perm) (tk : Takes X W) (hg : Gl X x) (hdb : (x == ("__debug__" : Str)) = false) : PE X (.Call (.Name x p) [] [] pos) (TI Z W (.call f perm .nil)) := by
  obtain ⟨k, fa, fd, ps, F, hr, hm, hk, ⟨g, gV, hb, hp⟩⟩ := hC.go
  refine (pe_cg0 F hr hg hm hk hb (fun σ => passAt tk σ) hdb).imp fun σ H Q h => ?_
  have h2 := call_read (ma := .nil) (mk := .nil) (ks := []) (n := 0) rfl rfl hp h
  have h3 : TIA Z W .nil σ H fun zs H2 => ([] : List V).length = 0 ∧ zs.length = 0 ∧ spI Z (Z.C.G f) ps.length (gV [] zs) H2 Q (WE W σ) := nilK h2
  exact (show tNil σ H fun zs H2 => ([] : List V).length = 0 ∧ zs.length = 0 ∧ spI Z (Z.C.G f) ps.length (gV [] zs) H2 Q (WE W σ) from nilK h3)
theorem snd_knil : PK X [] (TIA Z W .nil) := ⟨fun pos pins s σ H Q I h => pk_nil.run pos pins s σ H Q I (nilK h)⟩
theorem snd_kcons {nm : Option Str} {kpos : Pos} (ha : PE X a (TI Z W ma)) (hb : PK X kws (TIA Z W mk)) : PK X (⟨nm, a, kpos⟩ :: kws) (TIA Z W (.cons ma mk)) := ⟨fun pos pins s σ H Q I h => (pk_cons ha hb).run pos pins s σ H Q I (by
  obtain ⟨w, r, S, at_, g⟩ := h
  rw [evalEs] at g
  refine ⟨w, r, S, at_, g.bindI fun u x p S1 e1 h1 r1 g1 => ?_⟩
  refine ⟨u, r, S1, at_.next e1 h1, g1.bindI fun t y q S2 e2 h2 r2 g2 => ?_⟩
  exact g2 t _ (Ext.refl t) h2 (.cons (r1.mono e2) r2))⟩
theorem snd_callk (hC : Callee X Z x n ks f perm) (tk : Takes X W) (hg : Gl X x) (ha : PA X (e :: es) (TIA Z W ms)) (hkw : PK X kws (TIA Z W mk)) (hn : lenMs ms = n) (hm : lenMs mk = ks.length) (hall : (backToKw pos (keywordEach kws X.env)).all (·.1.isSome) = true) (hks : (backToKw pos (keywordEach kws X.env)).filterMap (·.1) = ks)
    (hdb : (x == ("__debug__" : Str)) = false) (he : starEach (e :: es) X.env = (false, eval e X.env) :: starEach es X.env)
    (hpl : ((backTo pos (starEach (e :: es) X.env)).any (·.1) || (backToKw pos (keywordEach kws X.env)).any (·.1.isNone)) = false) : PE X (.Call (.Name x p) (e :: es) kws pos) (TI Z W (.call f perm (appMs ms mk))) := by
  obtain ⟨k, fa, fd, ps, F, hr, hmg, hk, ⟨g, gV, hb, hp⟩⟩ := hC.go
  exact (pe_cgk F hr hg hmg hk hb (fun σ => passAt tk σ) ha hkw hall hks hdb he hpl).imp fun σ H Q h => call_read hn hm hp h
/-- f(k = v, ..) -/
theorem snd_callk0 (hC : Callee X Z x 0 ks f perm) (tk : Takes X W) (hg : Gl X x) (hkw : PK X kws (TIA Z W mk)) (hm : lenMs mk = ks.length) (hall : (backToKw pos (keywordEach kws X.env)).all (·.1.isSome) = true) (hks : (backToKw pos (keywordEach kws X.env)).filterMap (·.1) = ks)
    (hdb : (x == ("__debug__" : Str)) = false)
    (hpl : ((backTo pos (starEach [] X.env)).any (·.1) || (backToKw pos (keywordEach kws X.env)).any (·.1.isNone)) = false) : PE X (.Call (.Name x p) [] kws pos) (TI Z W (.call f perm mk)) := by
  obtain ⟨k, fa, fd, ps, F, hr, hmg, hk, ⟨g, gV, hb, hp⟩⟩ := hC.go
  refine ⟨fun pins s σ H Q I h => ?_⟩
  have h2 : TIA Z W .nil σ H fun vs H1 => TIA Z W mk σ H1 fun zs H2 => vs.length = 0 ∧ zs.length = ks.length ∧ spI Z (Z.C.G f) ps.length (gV vs zs) H2 Q (WE W σ) := call_read (ma := .nil) (n := 0) rfl hm hp h
  have h3 := nilK h2
  refine wpAny_Call_Name_kw (ld_glob I hg hmg ?_ hdb)
  refine PySem.W.callWith_KW0 (h₀ := X.base) I.ok.mod.kin hk hall (thn (hkw.run pos pins s σ H _ I h3) fun ws s2 ⟨zs, H2, I2, rz, q2⟩ => ⟨I2.kIn, ?_⟩) hpl
  obtain ⟨l1, l2, q2⟩ := q2
  rw [hks]
  exact run_fnG (us := []) (vs := []) F hr hb (passAt tk σ) I2 .nil rz l1 l2 q2
end
/-! ### raise -/
/-- a class of exceptions that is made by one argument -/
def tMkX (Z : Xc) (c : Nat) (te : TE) : St → Hp → XK → Prop := fun σ H Q => te σ H fun v H1 => ∀ d, H1 d = none → Q (.ref (Z.cl c)) (some d) (upd H1 d (.xd [(Z.fd c, v)]))
section
variable {X : Cx} {Z : Xc} {W : WX} {e : Expr} {me : ME} {c : Nat} {pos : Pos}
theorem snd_raise (hc : X.calm = true) (tk : Takes X W) (he : PMk X e (tMkX Z c (TI Z W me))) : PS X (.Raise (some e) none pos) (TSS Z W (.raise c me)) := by
  refine (ps_raise hc tk he).imp fun D σ H h => ?_
  obtain ⟨w, r, S, at_, g⟩ := h
  rw [evalS] at g
  refine ⟨w, r, S, at_, GoodS.to at_ g fun u v p S1 he e1 h1 r1 g1 => ?_⟩
  intro d hd
  obtain ⟨h2, e2⟩ := h1.laid (o := .xd [(Z.fd c, v)]) hd
  exact g1 _ σ d v e2 ((at_.next e1 h1).next e2 h2) upd_same (r1.mono e2) (h1.notPhi hd)
end
/-! ### try -/
/-- the clauses: a class, the slot of the name, the suite's reading -/
abbrev HdL := List (Value × Option Nat × (Addr → Value → Option Addr → TS))
def unsetD (i : Nat) (D : Ends) : Ends := { nx := fun σ' H' => D.nx (σ'.set i none) H', rt := D.rt, bk := fun σ' H' => D.bk (σ'.set i none) H', ct := fun σ' H' => D.ct (σ'.set i none) H' }
def wMg (K : PySem.W.Frag) (Wout : WX) (D : Ends) : HdL → WX
  | [] => Wout
  | (c, none, ts) :: r => fun cls d σ H => ∃ b, PySem.W.exmOne K cls c = some b ∧ (b = true → ∀ a, H a = none → ts a cls d D σ H) ∧ (b = false → wMg K Wout D r cls d σ H)
  | (c, some i, ts) :: r => fun cls d σ H => ∃ b, PySem.W.exmOne K cls c = some b ∧ (b = true → ∀ a, H a = none → ts a cls d (unsetD i D) (σ.set i (some (.ref a))) H) ∧ (b = false → wMg K Wout D r cls d σ H)
inductive HdsG (X : Cx) : List ExceptHandler → HdL → Prop
  | nil : HdsG X [] []
  | cons {x : Str} {c : Value} {ts : Addr → Value → Option Addr → TS} {b₀ : Stmt} {suite : List Stmt} {np pos' : Pos} {hds : List ExceptHandler} {l : HdL} (hc : Names X x c)
      (hsu : ∀ (a : Addr) (oe : Obj) (cls : Value) (d : Option Addr) (pn : List (Addr × Obj)), Zc cls d oe → (∃ vs, oe.data = .fields vs) → PSs (X.suite a ((a, oe) :: pn)) (b₀ :: suite) (ts a cls d)) (r : HdsG X hds l) :
      HdsG X (.ExceptHandler (some (.Name x np)) none (b₀ :: suite) pos' :: hds) ((c, none, ts) :: l)
  | consAs {x n : Str} {i : Nat} {c : Value} {ts : Addr → Value → Option Addr → TS} {b₀ : Stmt} {suite : List Stmt} {np pos' : Pos} {hds : List ExceptHandler} {l : HdL} (hc : Names X x c) (hi : X.N[i]? = some n) (hln : X.env.kindOf n = some .local)
      (hsu : ∀ (a : Addr) (oe : Obj) (cls : Value) (d : Option Addr) (pn : List (Addr × Obj)), Zc cls d oe → (∃ vs, oe.data = .fields vs) → PSs (X.suite a ((a, oe) :: pn)) (b₀ :: suite) (ts a cls d)) (r : HdsG X hds l) :
      HdsG X (.ExceptHandler (some (.Name x np)) (some n) (b₀ :: suite) pos' :: hds) ((c, some i, ts) :: l)
section
variable {X : Cx} {body : List Stmt} {h₀ : ExceptHandler} {hds : List ExceptHandler} {l : HdL} {pos : Pos} {tb : WX → TS} {Wout : WX}
theorem ps_try_g (hs : X.stack = X.env :: X.outer) (hf : X.env.frame = some X.env.locals) (hN : X.N.Nodup) (tk : Takes X Wout)
    (hb : ∀ (W : WX) (pn : List (Addr × Obj)) (xe : Value → Shared → Prop), Takes (X.tr pn xe) W → PassesOwn (model X.prog X.w) X.A X.env xe → PSs (X.tr pn xe) body (tb W))
    (hh : HdsG X (h₀ :: hds) l) : PS X (.Try body (h₀ :: hds) [] [] pos) (fun D σ H => tb (wMg X.K Wout D l) D σ H) := by
  refine ⟨fun pins s σ H D I h => ?_⟩
  have ok := I.ok
  have hfr : X.A.frames = some (X.env :: X.outer) := by rw [ok.frames, hs]
  refine wpAny_Try_except ?_
  refine wpAny_mono ((hb (wMg X.K Wout D l) (X.pn ++ pins) (fun e s₁ => wpAny (model X.prog X.w) X.A (noteFrame e X.env) (fun _ s₂ => wpAny (model X.prog X.w) X.A (setFlight e none) (fun _ s₃ =>
    wpAny (model X.prog X.w) X.A (handleBy e X.env (h₀ :: hds)) (SP X pins D) X.xe s₃) X.xe s₂) X.xe s₁) (fun u s' xx => ?_) PassesOwn.looking).run [] s σ H D (I.toTry _) h) (fun f s1 hsp => ?_) (fun e s1 he => he)
  · -- the catch
    obtain ⟨a, B, sI, pins', σ', H', cls, d, rfl, J', nb, up, sky, na, os, ag, w⟩ := xx
    have J : Inv X pins σ' H' sI := J'.ofTry ok
    have sky' : Sky B (X.env :: X.outer) a (Zc cls d) X.env.locals s'.heap := by rw [← hs]; exact sky
    show wpAny (model X.prog X.w) X.A (noteFrame (.ref a) X.env) _ _ _
    refine Sky.land Zc.steady hfr hf sky' fun h3 fl3 up3 => ?_
    have J3 : Inv X pins σ' H' { s' with heap := h3 } := J.landed nb fl3.1 (up.trans up3) os ag
    obtain ⟨oe3, vs3, he3, hz3, hd3⟩ := fl3.there
    have notFr : ∀ {h : Heap} {o : Obj} {vs : Array Value}, h.FunFrames B (X.env :: X.outer) → h.get? a = some o → o.data = .fields vs → a ∉ frs (X.env :: X.outer) := fun {h o vs} ff e dd hm => by
      obtain ⟨_, o', e', hnf⟩ := ff.mem hm
      rw [e] at e'; cases e'
      exact hnf _ dd
    have nfr := notFr fl3.2.2.1 he3 hd3
    have nL : a ≠ X.env.locals := fun z => nfr (List.mem_filterMap.mpr ⟨X.env, List.mem_cons_self, by rw [hf, z]⟩)
    have nF : a ∉ X.fs := fun hm => by
      obtain ⟨e, he, q⟩ := List.mem_filterMap.mp hm
      exact nfr (List.mem_filterMap.mpr ⟨e, List.mem_cons_of_mem _ he, q⟩)
    have S3 := J3.suite he3 hd3 na nL nF
    have LT : PySem.W.Looks (model X.prog X.w) h3 (typeOf (.ref a)) cls := fun A Q E s k q => wpAny_typeOf_ref (k _ _ he3) (by rw [hz3.1]; exact q)
    have test : ∀ {x : Str} {c : Value} {np : Pos} {Q : Value → Shared → Prop} {E : Value → Shared → Prop}, Names X x c → Q c { s' with heap := h3 } → wpAny (model X.prog X.w) (X.A.mark (some (.ref a))) (eval (.Name x np) X.env) Q E { s' with heap := h3 } := fun {x c np Q E} hc q => by
      obtain ⟨hg, hdbg, hm | ⟨hm, hv, hnn⟩⟩ := hc
      · exact ld_glob (X := X.suite a ((a, oe3) :: (X.pn ++ pins))) S3 hg hm q hdbg
      · exact ld_blt (X := X.suite a ((a, oe3) :: (X.pn ++ pins))) S3 hg hm hv q hnn hdbg
    have go : ∀ {hds' : List ExceptHandler} {l' : HdL}, HdsG X hds' l' → wMg X.K Wout D l' cls d σ' H' →
        wpAny (model X.prog X.w) X.A (handleBy (.ref a) X.env hds') (SP X pins D) X.xe { s' with heap := h3 } := by
      intro hds' l' hk
      induction hk with
      | nil =>
        intro w
        refine wpAny_handleBy_nil ?_
        obtain ⟨k1, k2, k3, oe, vs, T, oT, ts', he, hz, hd, h1, hr⟩ := id fl3
        unfold PySem.passOn
        refine wpAny_bind (wpAny_field he hd h1 ?_)
        rw [if_neg (show ¬ ((Value.ref T == Value.none) = true) from by simp)]
        have fin : wpAny (model X.prog X.w) X.A (setFlight (.ref a) X.env.frame) (fun _ s4 => wpAny (model X.prog X.w) X.A (throw (.ref a) : Sem Flow) (SP X pins D) X.xe s4) X.xe { s' with heap := h3 } := by
          rw [hf]
          refine HandSPX.setFlight_upZ fl3 fun h4 hh4 up4 => wpAny_throw (tk _ _ ?_)
          exact ⟨a, B, sI, pins, σ', H', cls, d, rfl, J, nb, (up.trans up3).trans up4, .inr (.inr (by rw [hs]; exact hh4)), na, os, ag, w⟩
        first
          | exact wpAny_bind (wpAny_pure (wpAny_bind fin))
          | exact wpAny_bind fin
      | @cons x c ts b₀ suite np pos' hds2 l2 hc hsu r ih =>
        intro w
        obtain ⟨b, hb1, hyes, hno⟩ := w
        refine wpAny_handleBy_cons (codeAny_handlers_test ?_) (by intro q; cases q)
        have LM := PySem.W.exm_one (M := model X.prog X.w) (J3.kIn) LT hb1
        refine test hc (LM.here ?_)
        cases b with
        | true =>
          refine codeAny_handlers_suite ?_
          refine HandSPX.lands_againZ fl3 fun h4 fl4 up4 => ?_
          have J4 : Inv X pins σ' H' { s' with heap := h4 } := J.landed nb fl4.1 ((up.trans up3).trans up4) os ag
          obtain ⟨oe4, vs4, he4, hz4, hd4⟩ := fl4.there
          have S4 := J4.suite he4 hd4 na nL nF
          refine wpAny_mono ((hsu a oe4 cls d (X.pn ++ pins) hz4 ⟨_, hd4⟩).run [] _ _ H' _ S4 (hyes rfl a na)) (fun f s6 hsp => ?_) (fun _ _ z => False.elim z)
          cases f with
          | next =>
            obtain ⟨σ6, H6, S6, q6⟩ := hsp
            exact ⟨_, _, S6.unsuite ok, q6⟩
          | brk =>
            obtain ⟨σ6, H6, S6, q6⟩ := hsp
            exact ⟨_, _, S6.unsuite ok, q6⟩
          | cont =>
            obtain ⟨σ6, H6, S6, q6⟩ := hsp
            exact ⟨_, _, S6.unsuite ok, q6⟩
          | ret u =>
            obtain ⟨v6, σ6, H6, S6, r6, q6⟩ := hsp
            exact ⟨_, _, _, S6.unsuite ok, r6, q6⟩
        | false =>
          show wpAny _ X.A (handleBy (.ref a) X.env hds2) _ _ _
          exact ih (hno rfl)
      | @consAs x n i c ts b₀ suite np pos' hds2 l2 hc hi hln hsu r ih =>
        intro w
        obtain ⟨b, hb1, hyes, hno⟩ := w
        refine wpAny_handleBy_cons (codeAny_handlers_test ?_) (by intro q; cases q)
        have LM := PySem.W.exm_one (M := model X.prog X.w) (J3.kIn) LT hb1
        refine test hc (LM.here ?_)
        cases b with
        | true =>
          refine codeAny_handlers_suite_as ?_
          refine HandSPX.lands_againZ fl3 fun h4 fl4 up4 => ?_
          have J4 : Inv X pins σ' H' { s' with heap := h4 } := J.landed nb fl4.1 ((up.trans up3).trans up4) os ag
          obtain ⟨oe4, vs4, he4, hz4, hd4⟩ := fl4.there
          have S4 := J4.suite he4 hd4 na nL nF
          refine store_ok (X := X.suite a ((a, oe4) :: (X.pn ++ pins))) (v := .ref a) S4 hN hi (.inl hln) rfl (fun s5 S5 => ?_) (.inr hln)
          refine wpAny_mono ((hsu a oe4 cls d (X.pn ++ pins) hz4 ⟨_, hd4⟩).run [] s5 _ H' _ S5 (hyes rfl a na)) (fun f s6 hsp => ?_) (fun _ _ z => False.elim z)
          have end_ : ∀ {σ6 : St} {H6 : Hp} {Q : Shared → Prop}, Inv (X.suite a ((a, oe4) :: (X.pn ++ pins))) [] σ6 H6 s6 → (∀ s7, Inv X pins (σ6.set i none) H6 s7 → Q s7) →
              wpAny (model X.prog X.w) X.A (do bindName X.env n .none; unbindBehindTheSuite X.env n pos') (fun _ s7 => Q s7) X.xe s6 := fun {σ6 H6 Q} S6 hq => gone_ok (S6.unsuite ok) hN hi hln hq
          cases f with
          | next =>
            obtain ⟨σ6, H6, S6, q6⟩ := hsp
            exact end_ S6 fun s7 J7 => ⟨_, _, J7, q6⟩
          | brk =>
            obtain ⟨σ6, H6, S6, q6⟩ := hsp
            exact end_ S6 fun s7 J7 => ⟨_, _, J7, q6⟩
          | cont =>
            obtain ⟨σ6, H6, S6, q6⟩ := hsp
            exact end_ S6 fun s7 J7 => ⟨_, _, J7, q6⟩
          | ret u =>
            obtain ⟨v6, σ6, H6, S6, r6, q6⟩ := hsp
            exact end_ S6 fun s7 J7 => ⟨_, _, _, J7, r6, q6⟩
        | false =>
          show wpAny _ X.A (handleBy (.ref a) X.env hds2) _ _ _
          exact ih (hno rfl)
    exact go hh w
  · cases f with
    | next =>
      obtain ⟨σ', H', J', q⟩ := hsp
      exact wpAny_execs_nil ⟨σ', H', J'.ofTry ok, q⟩
    | brk =>
      obtain ⟨σ', H', J', q⟩ := hsp
      exact ⟨σ', H', J'.ofTry ok, q⟩
    | cont =>
      obtain ⟨σ', H', J', q⟩ := hsp
      exact ⟨σ', H', J'.ofTry ok, q⟩
    | ret u =>
      obtain ⟨v, σ', H', J', r, q⟩ := hsp
      exact ⟨v, σ', H', J'.ofTry ok, r, q⟩
end
end Dg
end

section
set_option Elab.async false
set_option linter.all false
set_option maxRecDepth 100000
set_option maxHeartbeats 4000000
/-! DgO: try by plain values. -/
namespace Dg
open PySem PySem.Spec L2
open PyProof.Rows hiding St

theorem _root_.L2.PSs.ex {X : Cx} {st : List Stmt} {ι : Type} {p : ι → Prop} {t : ι → TS} (h : ∀ i, p i → PSs X st (t i)) : PSs X st (fun D σ H => ∃ i, p i ∧ t i D σ H) := ⟨fun pins s σ H D I ⟨i, hp, q⟩ => (h i hp).run pins s σ H D I q⟩
/-- the context of an except suite's expressions -/
def Zh (Z : Xc) (c : Nat) (av : PV) (a : Addr) (d : Option Addr) (i : Nat) : Xc := { Z with C := { Z.C with hx := some (c, av) }, hs := i, pin := fun x c' d' => x = a ∧ c' = c ∧ d = some d' }
def tEnd (t : Option Nat) (D : Ends) (σ : St) (x : V) (H : Hp) : Prop := match t with
  | some j => D.nx (σ.set j (some x)) H
  | none => D.rt x H
/-- a suite of one statement, the name at slot i -/
def tSuA (Z : Xc) (okc : Nat → Prop) (i : Nat) (t : Option Nat) (e : ME) : Addr → Value → Option Addr → TS := fun a cls d D σ H => ∃ p : Nat × PV, (cls = .ref (Z.cl p.1) ∧ okc p.1) ∧ TI (Zh Z p.1 p.2 a d i) WF e σ H (tEnd t D σ)
def tSu0 (Z : Xc) (t : Option Nat) (e : ME) : Addr → Value → Option Addr → TS := fun a cls d D σ H => TI Z WF e σ H (tEnd t D σ)
def hdR (Z : Xc) (okc : Nat → Nat → Prop) : MHd → Value × Option Nat × (Addr → Value → Option Addr → TS)
  | .mk c none t e => (.ref (Z.cl c), none, tSu0 Z t e)
  | .mk c (some i) t e => (.ref (Z.cl c), some i, tSuA Z (okc c) i t e)
section
variable {X : Cx} {Z : Xc} {W : WX} {okc : Nat → Nat → Prop}
theorem GoodS.end0 {D : Ends} {w : Wd} {σ : St} {H : Hp} {t : Option Nat} {r : PEnv} {S : Store} {res : Res PV} (hx : Z.C.hx = none) (at_ : At Z σ H w r S) (g : GoodS Z W D w (match res with
      | .ok v S1 => match t with
        | some j => .nx (r.set j (some v)) S1
        | none => .ret v S1
      | _ => .bad)) : Good Z WF σ Rep w (tEnd t D σ) res := by
  cases res with
  | bad => exact g
  | exc c a S => exact g.elim
  | ok v S1 =>
    intro u x e1 h1 r1
    cases t with
    | none => exact g u x e1 h1 r1
    | some j => exact g u _ e1 ((at_.next e1 h1).set hx j r1)
theorem handle_ok {D : Ends} (hx : Z.C.hx = none) (hsub : ∀ c c' b, Z.C.sub c c' = some b → PySem.W.exmOne X.K (.ref (Z.cl c)) (.ref (Z.cl c')) = some b) (hok : ∀ c c', Z.C.sub c c' = some true → okc c' c) :
    ∀ {hs : List MHd} {c : Nat} {a : PV} {r : PEnv} {S : Store} {u : Wd} {σ : St} {d : Addr} {va : V}, At Z σ u.H u r S → u.H d = some (.xd [(Z.fd c, va)]) → Rep u va a → ¬ u.phi d →
    GoodS Z W D u (handle Z.C c a r S hs) → wMg X.K W D (hs.map (hdR Z okc)) (.ref (Z.cl c)) (some d) σ u.H
  | [], c, a, r, S, u, σ, d, va, at_, hd, rv, np, g => by
    rw [handle] at g
    exact g u σ d va (Ext.refl u) at_ hd rv np
  | .mk c' none t e :: hs, c, a, r, S, u, σ, d, va, at_, hd, rv, np, g => by
    rw [handle] at g
    by_cases hb : Z.C.sub c c' = some true
    · rw [if_pos hb] at g
      exact ⟨true, hsub c c' _ hb, fun _ a0 _ => ⟨u, r, S, at_, GoodS.end0 hx at_ g⟩, fun z => by cases z⟩
    · rw [if_neg hb] at g
      by_cases hb2 : Z.C.sub c c' = some false
      · rw [if_pos hb2] at g
        exact ⟨false, hsub c c' _ hb2, (fun z => by cases z), fun _ => handle_ok hx hsub hok at_ hd rv np g⟩
      · rw [if_neg hb2] at g
        exact g.elim
  | .mk c' (some i) t e :: hs, c, a, r, S, u, σ, d, va, at_, hd, rv, np, g => by
    rw [handle] at g
    by_cases hb : Z.C.sub c c' = some true
    · rw [if_pos hb] at g
      refine ⟨true, hsub c c' _ hb, fun _ a0 _ => ?_, fun z => by cases z⟩
      split at g
      · rename_i hi
        have hl : i < σ.length := by rw [at_.e.1]; exact hi.1
        have at2 : At (Zh Z c a a0 (some d) i) (σ.set i (some (.ref a0))) u.H u (r.set i none) S :=
          ⟨rfl, at_.K, at_.e.unset i _, at_.h, by
            show ∃ (x d' : Addr) (va : V), (σ.set i (some (.ref a0)))[i]? = some (some (.ref x)) ∧ (x = a0 ∧ c = c ∧ some d = some d') ∧ u.H d' = some (.xd [(Z.fd c, va)]) ∧ ¬ u.phi d' ∧ Rep u va a
            exact ⟨a0, d, va, List.getElem?_set_self hl, ⟨rfl, rfl, rfl⟩, hd, np, rv⟩⟩
        refine ⟨(c, a), ⟨rfl, hok c c' hb⟩, u, r.set i none, S, at2, ?_⟩
        show Good (Zh Z c a a0 (some d) i) WF _ Rep u _ (evalE { Z.C with hx := some (c, a) } e (r.set i none) S)
        cases q : evalE { Z.C with hx := some (c, a) } e (r.set i none) S with
        | bad => rw [q] at g; exact g
        | exc c a S => rw [q] at g; exact g.elim
        | ok v S1 =>
          rw [q] at g
          intro u2 x e1 h1 r1
          have at3 := at2.next e1 h1
          cases t with
          | none => exact g u2 x e1 h1 r1
          | some j =>
            have hij : i ≠ j := fun z => hi.2 (by rw [z])
            have er := at3.e.set j r1
            refine g u2 _ e1 ⟨rfl, at3.K, ⟨?_, fun k y hk => ?_⟩, h1, by unfold HX; rw [hx]; trivial⟩
            · rw [List.length_set]; exact er.1
            · have hki : i ≠ k := fun z => by
                subst z
                have hk' : ((r.set i none).set j (some v))[i]? = some (some y) := hk
                rw [List.getElem?_set_ne (Ne.symm hij), List.getElem?_set_self hi.1] at hk'
                cases hk'
              rw [List.getElem?_set_ne hki]
              exact er.2 k y hk
      · exact g.elim
    · rw [if_neg hb] at g
      by_cases hb2 : Z.C.sub c c' = some false
      · rw [if_pos hb2] at g
        exact ⟨false, hsub c c' _ hb2, (fun z => by cases z), fun _ => handle_ok hx hsub hok at_ hd rv np g⟩
      · rw [if_neg hb2] at g
        exact g.elim
theorem snd_try {body : List Stmt} {h₀ : ExceptHandler} {hds : List ExceptHandler} {pos : Pos} {mb : MSs} {hs : List MHd} (hst : X.stack = X.env :: X.outer) (hf : X.env.frame = some X.env.locals) (hN : X.N.Nodup) (tk : Takes X W) (hx : Z.C.hx = none)
    (hsub : ∀ c c' b, Z.C.sub c c' = some b → PySem.W.exmOne X.K (.ref (Z.cl c)) (.ref (Z.cl c')) = some b) (hok : ∀ c c', Z.C.sub c c' = some true → okc c' c)
    (hb : ∀ (W : WX) (pn : List (Addr × Obj)) (xe : Value → Shared → Prop), Takes (X.tr pn xe) W → PassesOwn (model X.prog X.w) X.A X.env xe → PSs (X.tr pn xe) body (TSSs Z W mb))
    (hh : HdsG X (h₀ :: hds) (hs.map (hdR Z okc))) : PS X (.Try body (h₀ :: hds) [] [] pos) (TSS Z W (.try_ mb hs)) := by
  refine (ps_try_g (tb := fun W => TSSs Z W mb) hst hf hN tk hb hh).imp fun D σ H h => ?_
  obtain ⟨w, r, S, at_, g⟩ := h
  rw [evalS] at g
  refine ⟨w, r, S, at_, ?_⟩
  cases q : evalSs Z.C mb r S with
  | bad => rw [q] at g; exact g
  | nx r2 S2 => rw [q] at g; exact g
  | ret v S2 => rw [q] at g; exact g
  | brk r2 S2 => rw [q] at g; exact g
  | ct r2 S2 => rw [q] at g; exact g
  | exc c a r2 S2 =>
    rw [q] at g
    exact fun u σ2 d va e1 a1 hd rv np => handle_ok hx hsub hok a1 hd rv np (GoodS.mono e1 g)
/-! ### the suites -/
variable {a : Addr} {oe : Obj} {cls : Value} {d : Option Addr} {pn : List (Addr × Obj)} {e : Expr} {me : ME} {pos p pos' : Pos} {x n f : Str} {i j c : Nat} {av : PV}
/-- e.f, e the exception's name -/
theorem snd_exarg (T : XfC X.K (Z.cl c)) (hno : PySem.W.findIn X.K (.ref (Z.cl c)) f = some none) (hfd : Z.fd c = f) (hz : Zc (.ref (Z.cl c)) d oe) (hf : ∃ vs, oe.data = .fields vs) (hN : X.N[i]? = some n) (hv : Vis X.env.scope n) (hd : (n == ("__debug__" : Str)) = false) (hcd : (n == ("__classdict__" : Str)) = false)
    (hb : attributeBase (.Name n p) f X.env (eval (.Name n p) X.env) = eval (.Name n p) X.env) : PE (X.suite a ((a, oe) :: pn)) (.Attribute (.Name n p) f pos) (TI (Zh Z c av a d i) W .exarg) := by
  refine (pe_xf (cls := .ref (Z.cl c)) T hno hz hf (pe_var (X := X.suite a ((a, oe) :: pn)) hN hv hd hcd) hb).imp fun σ H Q h => ?_
  obtain ⟨w, r, S, at_, g⟩ := h
  rw [evalE] at g
  obtain ⟨x, dd, va, h1, ⟨h2, _, h3⟩, h4, h5, h6⟩ := (show ∃ (x d' : Addr) (va : V), σ[i]? = some (some (.ref x)) ∧ (x = a ∧ c = c ∧ d = some d') ∧ w.H d' = some (.xd [(Z.fd c, va)]) ∧ ¬ w.phi d' ∧ Rep w va av from at_.x)
  subst h2
  have eH := at_.H
  subst eH
  refine ⟨_, h1, rfl, rfl, dd, _, va, h3, h4, by rw [hfd]; simp [List.lookup], ?_⟩
  exact g w va (Ext.refl w) at_.h h6
theorem suite_one {y : Str} (hN : X.N.Nodup) (hj : X.N[j]? = some y) (hl : Loc X.env.scope y) (hf : X.fn y = true ∨ X.env.scope.names.lookup y = some .local) {te : TE} (he : PE (X.suite a ((a, oe) :: pn)) e te) (hs : swapsWith e (some (.Name y pos')) pos.line X.env = pure false) :
    PSs (X.suite a ((a, oe) :: pn)) [.Assign [.Name y pos'] e pos] (fun D σ H => te σ H (tEnd (some j) D σ)) :=
  pss_one (ps_set (X := X.suite a ((a, oe) :: pn)) hN hj hl he hs hf)
theorem suite_ret {te : TE} (he : PE (X.suite a ((a, oe) :: pn)) e te) : PSs (X.suite a ((a, oe) :: pn)) [.Return (some e) pos] (fun D σ H => te σ H (tEnd none D σ)) := pss_one (ps_ret he)
end
end Dg
end

section
set_option Elab.async false
set_option linter.all false
set_option maxRecDepth 100000
set_option maxHeartbeats 4000000
/-! DgP: the translation of expressions, sound. -/
namespace Dg
open PySem PySem.Spec L2
open PyProof.Rows hiding St

/-! ### what is seen of the text -/
def noStar : Expr → Bool
  | .Starred .. => false
  | _ => true
theorem starEach_ns {a : Expr} {es : List Expr} {env : Env} (h : noStar a = true) : starEach (a :: es) env = (false, eval a env) :: starEach es env := by
  cases a <;> first | rfl | (cases h)
theorem back_ns {env : Env} {pos : Pos} : ∀ {es : List Expr}, es.all noStar = true → (backTo pos (starEach es env)).any (·.1) = false
  | [], _ => rfl
  | a :: es, h => by
    rw [List.all_cons, Bool.and_eq_true] at h
    rw [starEach_ns h.1]
    show (false || (backTo pos (starEach es env)).any (·.1)) = false
    rw [back_ns h.2]; rfl
theorem back_all {env : Env} {pos : Pos} : ∀ {es : List Expr}, es.all noStar = true → (backTo pos (starEach es env)).all (fun x => !x.1) = true
  | [], _ => rfl
  | a :: es, h => by
    rw [List.all_cons, Bool.and_eq_true] at h
    rw [starEach_ns h.1]
    show (true && (backTo pos (starEach es env)).all (fun x => !x.1)) = true
    rw [back_all h.2]; rfl
def kwNames : List Keyword → Option (List Str)
  | [] => some []
  | ⟨some n, _, _⟩ :: r => (kwNames r).map (n :: ·)
  | _ => none
theorem kw_all {env : Env} {pos : Pos} : ∀ {kws : List Keyword} {ks : List Str}, kwNames kws = some ks → (backToKw pos (keywordEach kws env)).all (·.1.isSome) = true ∧ (backToKw pos (keywordEach kws env)).filterMap (·.1) = ks ∧ (backToKw pos (keywordEach kws env)).any (·.1.isNone) = false
  | [], ks, h => by cases h; exact ⟨rfl, rfl, rfl⟩
  | ⟨none, _, _⟩ :: r, ks, h => by cases h
  | ⟨some n, e, p⟩ :: r, ks, h => by
    unfold kwNames at h
    cases q : kwNames r with
    | none => rw [q] at h; cases h
    | some l =>
      rw [q] at h
      cases h
      obtain ⟨h1, h2, h3⟩ := kw_all (env := env) (pos := pos) q
      refine ⟨?_, ?_, ?_⟩
      · show (true && (backToKw pos (keywordEach r env)).all (·.1.isSome)) = true
        rw [h1]; rfl
      · show n :: (backToKw pos (keywordEach r env)).filterMap (·.1) = _
        rw [h2]
      · show (false || (backToKw pos (keywordEach r env)).any (·.1.isNone)) = false
        rw [h3]; rfl
/-- not a call: super() has its own road -/
def noCall : Expr → Bool
  | .Call .. => false
  | _ => true
theorem base_nc {o : Expr} {attr : Str} {env : Env} {whole : Sem Value} (h : noCall o = true) : attributeBase o attr env whole = whole := by
  cases o <;> first | rfl | (cases h)
def noSet : Expr → Bool
  | .Set .. => false
  | _ => true
theorem folded_ns {e : Expr} {env : Env} (h : noSet e = true) (x : Value) : foldedSetIterable e env x = pure x := by
  cases e <;> first | rfl | (cases h)
theorem behind_ns {e : Expr} {op : CmpOp} (h : noSet e = true) : behindInMarks op e = false := by
  cases e <;> first | rfl | (cases h)
def noSlice : Expr → Bool
  | .Slice .. => false
  | _ => true
theorem plainIx_ns {e : Expr} (h : noSlice e = true) : PlainIx e := fun o i => by
  cases e <;> first | rfl | (cases h)
/-- truth of the whole value -/
def plainT : Expr → Bool
  | .BoolOp .. => false
  | .UnaryOp .Not _ _ => false
  | .IfExp .. => false
  | .Compare .. => false
  | _ => true
theorem plainT_ok {e : Expr} {env : Env} (h : plainT e = true) : ∀ whole, isTrue e env whole = (do let v ← whole; standAt e.pos; holding [v] (truthy v)) := fun whole => by
  cases e with
  | UnaryOp op a p => cases op <;> first | rfl | (cases h)
  | BoolOp => cases h
  | IfExp => cases h
  | Compare => cases h
  | _ => rfl
def idx (x : Str) : List Str → Option Nat
  | [] => none
  | y :: r => if y = x then some 0 else (idx x r).map (· + 1)
theorem idx_ok {x : Str} : ∀ {N : List Str} {i : Nat}, idx x N = some i → N[i]? = some x
  | [], _, h => by cases h
  | y :: r, i, h => by
    unfold idx at h
    split at h
    · rename_i e; cases h; rw [e]; rfl
    · cases q : idx x r with
      | none => rw [q] at h; cases h
      | some j =>
        rw [q] at h; cases h
        show r[j]? = some x
        exact idx_ok q
theorem idx_none {x : Str} : ∀ {N : List Str}, idx x N = none → x ∉ N
  | [], _ => by simp
  | y :: r, h => by
    unfold idx at h
    split at h
    · cases h
    · rename_i e
      cases q : idx x r with
      | none => exact fun z => (List.mem_cons.mp z).elim (fun z => e z.symm) (idx_none q)
      | some j => rw [q] at h; cases h
def visB (sc : Scope) (x : Str) : Bool := match sc.names.lookup x with
  | some .local => true
  | some .cell => true
  | some .free => true
  | _ => false
theorem visB_ok {sc : Scope} {x : Str} (h : visB sc x = true) : Vis sc x := by
  unfold visB at h
  unfold Vis
  split at h <;> first | (rename_i e; rw [e]; simp) | cases h
def glB (sc : Scope) (x : Str) : Bool := match sc.names.lookup x with
  | some .globalImplicit => true
  | _ => false
theorem glB_ok {X : Cx} {sc : Scope} {x : Str} (e : X.env.scope = sc) (h : glB sc x = true) : Gl X x := by
  unfold glB at h
  unfold Gl Env.kindOf
  rw [e]
  split at h
  · assumption
  · cases h
def okNm (x : Str) : Bool := !(x == ("__debug__" : Str)) && !(x == ("__classdict__" : Str))
theorem okNm_ok {x : Str} (h : okNm x = true) : (x == ("__debug__" : Str)) = false ∧ (x == ("__classdict__" : Str)) = false := by
  unfold okNm at h
  rw [Bool.and_eq_true] at h
  exact ⟨by simpa using h.1, by simpa using h.2⟩

/-! ### the tables -/
structure Tab where
  N : List Str
  sc : Scope
  fn : Str → Bool
  calls : List (Str × Nat × List Str × Nat × List (Sum Nat PV))
  consts : List (Str × PV)
  bl : List Str
  excs : List (Str × Nat)
  fds : List Str
  subs : List ((Nat × Nat) × Bool)
  mu : List Str
structure Ctx (X : Cx) (Z : Xc) (W : WX) (T : Tab) : Prop where
  K : Z.K = X.K
  hx : Z.C.hx = none
  calm : X.calm = true
  nd : X.N.Nodup
  N : X.N = T.N
  sc : X.env.scope = T.sc
  fn : X.fn = T.fn
  un : X.A.units + 65 < cLine
  calls : ∀ q ∈ T.calls, Callee X Z q.1 q.2.1 q.2.2.1 q.2.2.2.1 q.2.2.2.2
  consts : ∀ x p, T.consts.lookup x = some p → ∃ u v, X.mg x = some u ∧ RelV v u ∧ ∀ w : Wd, w.K = Z.K → Rep w v p
  bl : ∀ x ∈ T.bl, X.mg x = none
  tk : Takes X W
def blkT (T : Tab) (scope : Scope) : Tab := { T with sc := relS scope T.sc, fn := fun x => scope.names.lookup x == some .cell }
theorem Ctx.blk {X : Cx} {Z : Xc} {W : WX} {T : Tab} (c : Ctx X Z W T) (s : Shared) (H : Hp) (scope : Scope) (C : Addr) (cl : List (Str × Addr)) (fp : List Addr) : Ctx (X.blk s H scope (compEnvC scope cl C X.env) fp) Z WF (blkT T scope) where
  K := c.K
  hx := c.hx
  calm := c.calm
  nd := c.nd
  N := c.N
  sc := by
    show relS scope X.env.scope = relS scope T.sc
    rw [c.sc]
  fn := rfl
  un := c.un
  calls := fun q hq => ⟨(c.calls q hq).go⟩
  consts := c.consts
  bl := c.bl
  tk := fun u s' x => by
    obtain ⟨a, B, sI, pins, σ, H, cls, d, e, I, nb, up, sky, na, os, ag, w⟩ := x
    exact w.elim
/-! ### the steps -/
structure Rc where
  e : Tab → Expr → Option ME
  t : Tab → Expr → Option ME
structure Snd (R : Rc) : Prop where
  e : ∀ {T : Tab} {a : Expr} {m : ME} {X : Cx} {Z : Xc} {W : WX}, Ctx X Z W T → R.e T a = some m → PE X a (TI Z W m)
  t : ∀ {T : Tab} {a : Expr} {m : ME} {X : Cx} {Z : Xc} {W : WX}, Ctx X Z W T → R.t T a = some m → PT X a (TIT Z W m)
def locV (T : Tab) (x : Str) : Option Nat := if visB T.sc x && okNm x then idx x T.N else none
def trName (T : Tab) (x : Str) : Option ME := match locV T x with
  | some i => some (.var i)
  | none => if glB T.sc x && okNm x then (T.consts.lookup x).map .k else none
theorem locV_ok {X : Cx} {Z : Xc} {W : WX} {T : Tab} {x : Str} {i : Nat} (c : Ctx X Z W T) (h : locV T x = some i) : X.N[i]? = some x ∧ Vis X.env.scope x ∧ (x == ("__debug__" : Str)) = false ∧ (x == ("__classdict__" : Str)) = false := by
  unfold locV at h
  split at h
  · rename_i hc
    rw [Bool.and_eq_true] at hc
    obtain ⟨h1, h2⟩ := okNm_ok hc.2
    exact ⟨by rw [c.N]; exact idx_ok h, by rw [c.sc]; exact visB_ok hc.1, h1, h2⟩
  · cases h
theorem trName_ok {X : Cx} {Z : Xc} {W : WX} {T : Tab} {x : Str} {m : ME} {pos : Pos} (c : Ctx X Z W T) (h : trName T x = some m) : PE X (.Name x pos) (TI Z W m) := by
  unfold trName at h
  split at h
  · rename_i i hi
    cases h
    obtain ⟨h1, h2, h3, h4⟩ := locV_ok c hi
    exact snd_var h1 h2 h3 h4
  · split at h
    · rename_i hc
      rw [Bool.and_eq_true] at hc
      obtain ⟨h1, h2⟩ := okNm_ok hc.2
      cases q : T.consts.lookup x with
      | none => rw [q] at h; cases h
      | some p =>
        rw [q] at h
        cases h
        obtain ⟨u, v, m1, m2, m3⟩ := c.consts x p q
        exact snd_k (pe_glob (glB_ok c.sc hc.1) m1 m2 h1) m3
    · cases h
def trConst : Const → Option PV
  | .none => some .non
  | .bool b => some (.bl b)
  | .int i => some (.int i)
  | .str x => some (.str x)
  | _ => none
theorem trConst_ok {X : Cx} {Z : Xc} {W : WX} {k : Const} {p : PV} {j : Nat} {pos : Pos} (h : trConst k = some p) : PE X (.Constant k j pos) (TI Z W (.k p)) := by
  cases k <;> cases h
  · exact snd_k pe_non fun _ _ => .non
  · exact snd_k pe_bl fun _ _ => .bl _
  · exact snd_k pe_int fun _ _ => .int _
  · exact snd_k pe_str fun _ _ => .str _
def opB : Operator → Option O2
  | .Add => some .add
  | .Sub => some .sub
  | .Mult => some .mul
  | .FloorDiv => some .fdiv
  | .Mod => some .mod
  | .Pow => some .pow
  | _ => none
theorem opB_ok {X : Cx} {Z : Xc} {W : WX} {T : Tab} {op : Operator} {o : O2} (c : Ctx X Z W T) (h : opB op = some o) : OpR X (binaryOp op) (rg Z.K (op2 o)) := by
  cases op <;> cases h
  · exact og_add c.K
  · exact og_sub
  · exact og_mul c.K
  · exact og_mod
  · exact og_pow
  · exact og_fdiv
def opC : CmpOp → Option O2
  | .Eq => some .eq
  | .NotEq => some .ne
  | .Lt => some .lt
  | .LtE => some .le
  | .Gt => some .gt
  | .GtE => some .ge
  | .In => some .inn
  | .NotIn => some .nin
  | _ => none
theorem opC_ok {X : Cx} {Z : Xc} {W : WX} {T : Tab} {op : CmpOp} {o : O2} (c : Ctx X Z W T) (h : opC op = some o) : OpR X (compareOp op) (rg Z.K (op2 o)) ∧ Bo o := by
  have hu := c.un
  cases op <;> cases h
  · exact ⟨og_eq c.K (by omega), bo_of (by simp)⟩
  · exact ⟨og_ne c.K (by omega), bo_of (by simp)⟩
  · exact ⟨og_lt, bo_of (by simp)⟩
  · exact ⟨og_le, bo_of (by simp)⟩
  · exact ⟨og_gt, bo_of (by simp)⟩
  · exact ⟨og_ge, bo_of (by simp)⟩
  · exact ⟨og_in_ c.K (by omega), bo_of (by simp)⟩
  · exact ⟨og_nin c.K (by omega), bo_of (by simp)⟩
def trEs (R : Rc) (T : Tab) : List Expr → Option MEs
  | [] => some .nil
  | e :: es => if noStar e then match R.e T e, trEs R T es with
    | some m, some ms => some (.cons m ms)
    | _, _ => none else none
theorem trEs_ok {R : Rc} (hR : Snd R) {X : Cx} {Z : Xc} {W : WX} {T : Tab} (c : Ctx X Z W T) : ∀ {es : List Expr} {ms : MEs}, trEs R T es = some ms → PA X es (TIA Z W ms) ∧ es.all noStar = true ∧ lenMs ms = es.length
  | [], ms, h => by cases h; exact ⟨snd_anil, rfl, rfl⟩
  | e :: es, ms, h => by
    unfold trEs at h
    split at h
    · rename_i hs
      split at h
      · rename_i m ms' h1 h2
        cases h
        obtain ⟨a1, a2, a3⟩ := trEs_ok hR c h2
        exact ⟨snd_acons (hR.e c h1) a1 (starEach_ns hs), by rw [List.all_cons, hs, a2]; rfl, by show lenMs ms' + 1 = es.length + 1; rw [a3]⟩
      · cases h
    · cases h
def trKs (R : Rc) (T : Tab) : List Keyword → Option MEs
  | [] => some .nil
  | ⟨_, e, _⟩ :: es => match R.e T e, trKs R T es with
    | some m, some ms => some (.cons m ms)
    | _, _ => none
theorem trKs_ok {R : Rc} (hR : Snd R) {X : Cx} {Z : Xc} {W : WX} {T : Tab} (c : Ctx X Z W T) : ∀ {es : List Keyword} {ms : MEs}, trKs R T es = some ms → PK X es (TIA Z W ms) ∧ lenMs ms = es.length
  | [], ms, h => by cases h; exact ⟨snd_knil, rfl⟩
  | ⟨nm, e, p⟩ :: es, ms, h => by
    unfold trKs at h
    split at h
    · rename_i m ms' h1 h2
      cases h
      obtain ⟨a1, a3⟩ := trKs_ok hR c h2
      exact ⟨snd_kcons (hR.e c h1) a1, by show lenMs ms' + 1 = es.length + 1; rw [a3]⟩
    · cases h
theorem kwNames_len : ∀ {kws : List Keyword} {ks : List Str}, kwNames kws = some ks → ks.length = kws.length
  | [], ks, h => by cases h; rfl
  | ⟨none, _, _⟩ :: r, ks, h => by cases h
  | ⟨some n, e, p⟩ :: r, ks, h => by
    unfold kwNames at h
    cases q : kwNames r with
    | none => rw [q] at h; cases h
    | some l => rw [q] at h; cases h; show l.length + 1 = r.length + 1; rw [kwNames_len q]
/-! calls -/
def findC (x : Str) (n : Nat) (ks : List Str) : List (Str × Nat × List Str × Nat × List (Sum Nat PV)) → Option (Nat × List (Sum Nat PV))
  | [] => none
  | (y, m, ls, f, p) :: r => if y = x ∧ m = n ∧ ls = ks then some (f, p) else findC x n ks r
theorem findC_ok {x : Str} {n : Nat} {ks : List Str} : ∀ {l : List (Str × Nat × List Str × Nat × List (Sum Nat PV))} {f : Nat} {p : List (Sum Nat PV)}, findC x n ks l = some (f, p) → (x, n, ks, f, p) ∈ l
  | [], _, _, h => by cases h
  | (y, m, ls, g, q) :: r, f, p, h => by
    unfold findC at h
    split at h
    · rename_i e
      obtain ⟨rfl, rfl, rfl⟩ := e
      cases h
      exact List.mem_cons_self ..
    · exact List.mem_cons_of_mem _ (findC_ok h)
def biOf (x : Str) (n : Nat) : Option BI :=
  if x = ("len" : Str) ∧ n = 1 then some .len else
  if x = ("int" : Str) ∧ n = 1 then some .int_ else
  if x = ("str" : Str) ∧ n = 1 then some .str_ else
  if x = ("list" : Str) ∧ n = 1 then some .listV else
  if x = ("tuple" : Str) ∧ n = 1 then some .tuple_ else
  if x = ("all" : Str) ∧ n = 1 then some .all_ else
  if x = ("any" : Str) ∧ n = 1 then some .any_ else
  if x = ("sum" : Str) ∧ n = 1 then some .sum_ else
  if x = ("min" : Str) ∧ n = 1 then some .min1 else
  if x = ("min" : Str) ∧ n = 2 then some .min2 else
  if x = ("max" : Str) ∧ n = 2 then some .max2 else
  if x = ("abs" : Str) ∧ n = 1 then some .abs_ else none
theorem iteS {α : Type} {p : Prop} [Decidable p] {a o : α} {b : Option α} (h : (if p then some a else b) = some o) : (p ∧ a = o) ∨ b = some o := by
  by_cases c : p
  · rw [if_pos c] at h; cases h; exact .inl ⟨c, rfl⟩
  · rw [if_neg c] at h; exact .inr h
theorem biOf_ok {X : Cx} {Z : Xc} {W : WX} {T : Tab} {x : Str} {n : Nat} {o : BI} (c : Ctx X Z W T) (h : biOf x n = some o) : ((∃ id, bootBuiltins x = some (.builtin id) ∧ CallR X (.builtin id) (rgn Z.K (opn o))) ∨ (∃ id, bootBuiltins x = some (.type id) ∧ CallR X (.type id) (rgn Z.K (opn o)))) ∧ x ≠ "__name__" ∧ (x == ("__debug__" : Str)) = false := by
  have hK := c.K
  have hc := c.calm
  unfold biOf at h
  rcases iteS h with ⟨⟨rfl, _⟩, rfl⟩ | h
  · exact ⟨.inl ⟨_, boot_len, bg_len hK⟩, by decide, by decide⟩
  rcases iteS h with ⟨⟨rfl, _⟩, rfl⟩ | h
  · exact ⟨.inr ⟨_, boot_int, bg_int⟩, by decide, by decide⟩
  rcases iteS h with ⟨⟨rfl, _⟩, rfl⟩ | h
  · exact ⟨.inr ⟨_, boot_str, bg_str⟩, by decide, by decide⟩
  rcases iteS h with ⟨⟨rfl, _⟩, rfl⟩ | h
  · exact ⟨.inr ⟨_, boot_list, bg_listV hK⟩, by decide, by decide⟩
  rcases iteS h with ⟨⟨rfl, _⟩, rfl⟩ | h
  · exact ⟨.inr ⟨_, boot_tuple, bg_tuple hK⟩, by decide, by decide⟩
  rcases iteS h with ⟨⟨rfl, _⟩, rfl⟩ | h
  · exact ⟨.inl ⟨_, boot_all, bg_all hc⟩, by decide, by decide⟩
  rcases iteS h with ⟨⟨rfl, _⟩, rfl⟩ | h
  · exact ⟨.inl ⟨_, boot_any, bg_any hc⟩, by decide, by decide⟩
  rcases iteS h with ⟨⟨rfl, _⟩, rfl⟩ | h
  · exact ⟨.inl ⟨_, boot_sum, bg_sum hc⟩, by decide, by decide⟩
  rcases iteS h with ⟨⟨rfl, _⟩, rfl⟩ | h
  · exact ⟨.inl ⟨_, boot_min, bg_min1 hc⟩, by decide, by decide⟩
  rcases iteS h with ⟨⟨rfl, _⟩, rfl⟩ | h
  · exact ⟨.inl ⟨_, boot_min, bg_min2 hc⟩, by decide, by decide⟩
  rcases iteS h with ⟨⟨rfl, _⟩, rfl⟩ | h
  · exact ⟨.inl ⟨_, boot_max, bg_max2 hc⟩, by decide, by decide⟩
  rcases iteS h with ⟨⟨rfl, _⟩, rfl⟩ | h
  · exact ⟨.inl ⟨_, boot_abs, bg_abs⟩, by decide, by decide⟩
  cases h
def tyOf (x : Str) : Option String :=
  if x = ("int" : Str) then some "int" else
  if x = ("bool" : Str) then some "bool" else
  if x = ("str" : Str) then some "str" else
  if x = ("tuple" : Str) then some "tuple" else
  if x = ("list" : Str) then some "list" else
  if x = ("dict" : Str) then some "dict" else none
theorem tyOf_ok {x : Str} {t : String} (h : tyOf x = some t) : bootBuiltins x = some (.type t) ∧ KTy t ∧ x ≠ "__name__" ∧ (x == ("__debug__" : Str)) = false := by
  unfold tyOf at h
  rcases iteS h with ⟨rfl, rfl⟩ | h
  · exact ⟨boot_int, kty_int, by decide, by decide⟩
  rcases iteS h with ⟨rfl, rfl⟩ | h
  · exact ⟨boot_bool, kty_bool, by decide, by decide⟩
  rcases iteS h with ⟨rfl, rfl⟩ | h
  · exact ⟨boot_str, kty_str, by decide, by decide⟩
  rcases iteS h with ⟨rfl, rfl⟩ | h
  · exact ⟨boot_tuple, kty_tuple, by decide, by decide⟩
  rcases iteS h with ⟨rfl, rfl⟩ | h
  · exact ⟨boot_list, kty_list, by decide, by decide⟩
  rcases iteS h with ⟨rfl, rfl⟩ | h
  · exact ⟨boot_dict, kty_dict, by decide, by decide⟩
  cases h
end Dg
end

section
set_option Elab.async false
set_option linter.all false
set_option maxRecDepth 100000
set_option maxHeartbeats 4000000
/-! DgQ: the translation of expressions, the steps. -/
namespace Dg
open PySem PySem.Spec L2
open PyProof.Rows hiding St

/-! ### blocks, targets, iterators -/
def kindEq (a b : NameKind) : Bool := match a, b with
  | .local, .local => true
  | .cell, .cell => true
  | .free, .free => true
  | .globalImplicit, .globalImplicit => true
  | _, _ => false
theorem kindEq_ok {a b : NameKind} (h : kindEq a b = true) : a = b := by cases a <;> cases b <;> first | rfl | (cases h)
def ownOf (N : List Str) (scope : Scope) : List (Str × Nat) := scope.names.filterMap fun y => match y.2 with
  | .local => (idx y.1 N).map (y.1, ·)
  | .cell => (idx y.1 N).map (y.1, ·)
  | _ => none
def isFun : ScopeKind → Bool
  | .function => true
  | _ => false
theorem isFun_ok {k : ScopeKind} (h : isFun k = true) : k = .function := by cases k <;> first | rfl | (cases h)
def blkB (sc scope : Scope) : Bool := isFun scope.kind && scope.names.all (fun y => (match scope.names.lookup y.1 with
    | some k => kindEq k y.2
    | none => false) && (match y.2 with
    | .free => (match sc.names.lookup y.1 with
      | some .cell => true
      | some .free => true
      | _ => false)
    | _ => true))
theorem blkB_ok {N : List Str} {sc scope : Scope} (h : blkB sc scope = true) : BlkOk N sc scope (ownOf N scope) := by
  unfold blkB at h
  rw [Bool.and_eq_true] at h
  have h2 := List.all_eq_true.mp h.2
  refine ⟨isFun_ok h.1, fun y hy => ?_, fun p hp => ?_, fun y hy hf => ?_, fun y hy hk => ?_⟩
  · have z := h2 y hy
    rw [Bool.and_eq_true] at z
    have z1 := z.1
    split at z1
    · rename_i k e
      rw [e, kindEq_ok z1]
    · cases z1
  · unfold ownOf at hp
    obtain ⟨y, hy, e⟩ := List.mem_filterMap.mp hp
    have key : (idx y.1 N).map (y.1, ·) = some p → N[p.2]? = some p.1 := fun e => by
      cases q : idx y.1 N with
      | none => rw [q] at e; cases e
      | some j => rw [q] at e; cases e; exact idx_ok q
    split at e
    · exact key e
    · exact key e
    · cases e
  · have z := h2 y hy
    rw [Bool.and_eq_true] at z
    have z1 := z.2
    rw [hf] at z1
    dsimp only at z1
    split at z1
    · rename_i e; exact .inl e
    · rename_i e; exact .inr e
    · cases z1
  · cases q : idx y.1 N with
    | none => exact .inr (idx_none q)
    | some j =>
      refine .inl (List.mem_map.mpr ⟨(y.1, j), List.mem_filterMap.mpr ⟨y, hy, ?_⟩, rfl⟩)
      rcases hk with e | e <;> rw [e] <;> dsimp only <;> rw [q] <;> rfl
/-- a name that is stored to -/
def trSt (T : Tab) (x : Str) : Option Nat := match T.sc.names.lookup x with
  | some .local => idx x T.N
  | some .cell => if T.fn x = true then idx x T.N else none
  | _ => none
theorem trSt_ok {X : Cx} {Z : Xc} {W : WX} {T : Tab} {x : Str} {i : Nat} (c : Ctx X Z W T) (h : trSt T x = some i) : X.N[i]? = some x ∧ L2.Loc X.env.scope x ∧ (X.fn x = true ∨ X.env.scope.names.lookup x = some .local) := by
  unfold trSt at h
  unfold L2.Loc
  rw [c.N, c.sc, c.fn]
  split at h
  · rename_i e; exact ⟨idx_ok h, .inl e, .inr e⟩
  · rename_i e
    split at h
    · rename_i e2; exact ⟨idx_ok h, .inr e, .inl e2⟩
    · cases h
  · cases h
def trNs (T : Tab) : List Expr → Option (List Nat)
  | [] => some []
  | .Name x _ :: r => match trSt T x, trNs T r with
    | some i, some is => some (i :: is)
    | _, _ => none
  | _ => none
def trTg (T : Tab) : Expr → Option TGT
  | .Name x _ => (trSt T x).map .name
  | .Tuple es _ _ => (trNs T es).map .tup
  | _ => none
theorem trNs_ok {X : Cx} {Z : Xc} {W : WX} {T : Tab} (c : Ctx X Z W T) : ∀ {es : List Expr} {is : List Nat}, trNs T es = some is → PGs X es (TGsr Z is) ∧ (assignEach es X.env).length = is.length ∧ (assignEach es X.env).findIdx? (·.1) = none
  | [], is, h => by cases h; exact ⟨snd_gnil, rfl, rfl⟩
  | e :: r, is, h => by
    unfold trNs at h
    split at h
    · rename_i heq; cases heq
    · rename_i x p r' heq
      cases heq
      split at h
      · rename_i i is' h1 h2
        cases h
        obtain ⟨a1, a2, a3⟩ := trSt_ok c h1
        obtain ⟨b1, b2, b3⟩ := trNs_ok c h2
        refine ⟨snd_gcons (snd_gname c.hx c.nd a1 a2 a3) b1 rfl, ?_, ?_⟩
        · show (assignEach r X.env).length + 1 = is'.length + 1
          rw [b2]
        · show (List.findIdx? (·.1) ((false, assign (.Name x p) X.env) :: assignEach r X.env)) = none
          rw [List.findIdx?_cons, b3]; rfl
      · cases h
    · cases h
theorem trTg_ok {X : Cx} {Z : Xc} {W : WX} {T : Tab} {tg : Expr} {t : TGT} (c : Ctx X Z W T) (h : trTg T tg = some t) : PG X tg (TGr Z t) := by
  unfold trTg at h
  split at h
  · rename_i x p
    cases q : trSt T x with
    | none => rw [q] at h; cases h
    | some i =>
      rw [q] at h; cases h
      obtain ⟨a1, a2, a3⟩ := trSt_ok c q
      exact snd_gname c.hx c.nd a1 a2 a3
  · rename_i es k p
    cases q : trNs T es with
    | none => rw [q] at h; cases h
    | some is =>
      rw [q] at h; cases h
      obtain ⟨b1, b2, b3⟩ := trNs_ok c q
      exact snd_gtup c.K c.calm b1 b2 b3
  · cases h
def blB (T : Tab) (x : Str) : Bool := glB T.sc x && T.bl.contains x
theorem blB_ok {X : Cx} {Z : Xc} {W : WX} {T : Tab} {x : Str} (c : Ctx X Z W T) (h : blB T x = true) : Gl X x ∧ X.mg x = none := by
  unfold blB at h
  rw [Bool.and_eq_true] at h
  exact ⟨glB_ok c.sc h.1, c.bl x (List.contains_iff_mem.mp h.2)⟩
def isTup : Expr → Bool
  | .Tuple .. => true
  | _ => false
def trI (R : Rc) (T : Tab) (tg : Expr) (e : Expr) : Option IT := match e with
  | .Call (.Name x _) [a] [] _ =>
    if x = ("range" : Str) ∧ blB T x = true ∧ noStar a = true then (R.e T a).map fun m => .range (.cons m .nil)
    else if x = ("enumerate" : Str) ∧ blB T x = true ∧ noStar a = true ∧ isTup tg = true then (R.e T a).map .enum
    else (R.e T e).map .of
  | .Call (.Name x _) [a, b] [] _ =>
    if x = ("range" : Str) ∧ blB T x = true ∧ noStar a = true ∧ noStar b = true then (match R.e T a, R.e T b with
      | some m, some n => some (.range (.cons m (.cons n .nil)))
      | _, _ => none)
    else if x = ("zip" : Str) ∧ blB T x = true ∧ noStar a = true ∧ noStar b = true ∧ isTup tg = true then (match R.e T a, R.e T b with
      | some m, some n => some (.zip m n)
      | _, _ => none)
    else (R.e T e).map .of
  | e => if noSet e = true then (R.e T e).map .of else none
theorem mapO {α β : Type} {o : Option α} {f : α → β} {b : β} (h : o.map f = some b) : ∃ a, o = some a ∧ f a = b := by
  cases o with
  | none => cases h
  | some a => exact ⟨a, rfl, Option.some.inj h⟩
theorem trI_ok {R : Rc} (hR : Snd R) {X : Cx} {Z : Xc} {W : WX} {T : Tab} {tg e : Expr} {it : IT} (c : Ctx X Z W T) (h : trI R T tg e = some it) : PI X tg e (TII Z W it) ∧ ∀ x, foldedSetIterable e X.env x = pure x := by
  unfold trI at h
  split at h
  · rename_i x p a pos
    refine ⟨?_, fun _ => rfl⟩
    split at h
    · rename_i hc
      obtain ⟨rfl, h1, h2⟩ := hc
      obtain ⟨m, hm, rfl⟩ := mapO h
      obtain ⟨g1, g2⟩ := blB_ok c h1
      have hs : starEach [a] X.env = [(false, eval a X.env)] := starEach_ns h2
      exact snd_range1 g1 g2 (snd_acons (hR.e c hm) snd_anil (starEach_ns h2)) hs
    · split at h
      · rename_i hc
        obtain ⟨rfl, h1, h2, h3⟩ := hc
        obtain ⟨m, hm, rfl⟩ := mapO h
        obtain ⟨g1, g2⟩ := blB_ok c h1
        have hs : starEach [a] X.env = [(false, eval a X.env)] := starEach_ns h2
        cases tg <;> first | exact snd_enum (tg := a) c.K g1 g2 (hR.e c hm) hs | (cases h3)
      · obtain ⟨m, hm, rfl⟩ := mapO h
        exact snd_of c.K (hR.e c hm)
  · rename_i x p a b pos
    refine ⟨?_, fun _ => rfl⟩
    split at h
    · rename_i hc
      obtain ⟨rfl, h1, h2, h3⟩ := hc
      split at h
      · rename_i m n hm hn
        cases h
        obtain ⟨g1, g2⟩ := blB_ok c h1
        have hs2 : starEach [b] X.env = [(false, eval b X.env)] := starEach_ns h3
        have hs : starEach [a, b] X.env = [(false, eval a X.env), (false, eval b X.env)] := by rw [starEach_ns h2, hs2]
        exact snd_range2 g1 g2 (snd_acons (hR.e c hm) (snd_acons (hR.e c hn) snd_anil (starEach_ns h3)) (starEach_ns h2)) hs hs2
      · cases h
    · split at h
      · rename_i hc
        obtain ⟨rfl, h1, h2, h3, h4⟩ := hc
        split at h
        · rename_i m n hm hn
          cases h
          obtain ⟨g1, g2⟩ := blB_ok c h1
          cases tg <;> first | exact snd_zip c.K g1 g2 (hR.e c hm) (hR.e c hn) (starEach_ns h2) (starEach_ns h3) | (cases h4)
        · cases h
      · obtain ⟨m, hm, rfl⟩ := mapO h
        exact snd_of c.K (hR.e c hm)
  · split at h
    · rename_i hn
      obtain ⟨m, hm, rfl⟩ := mapO h
      exact ⟨snd_of c.K (hR.e c hm), fun x => folded_ns hn x⟩
    · cases h
/-! ### comprehensions -/
def trIf (R : Rc) (T : Tab) : List Expr → Option MEo
  | [] => some .none
  | [c] => (R.t T c).map .some
  | _ => none
def trLc (R : Rc) (T : Tab) (rf : Bool) (elt : Expr) (gs : List Comprehension) (scope : Scope) : Option ME := match gs with
  | [⟨tg, iter, ifs, k⟩] => if k = 0 ∧ blkB T.sc scope = true then (match trI R T tg iter, trTg (blkT T scope) tg, trIf R (blkT T scope) ifs, R.e (blkT T scope) elt with
    | some it, some t, some mo, some me => if (slT t).all (fun i => ((ownOf T.N scope).map (·.2)).contains i) = true then some (.comp rf ((ownOf T.N scope).map (·.2)) t it mo me) else none
    | _, _, _, _ => none) else none
  | _ => none
structure LcOk (X : Cx) (Z : Xc) (W : WX) (T : Tab) (rf : Bool) (elt : Expr) (gs : List Comprehension) (scope : Scope) (m : ME) : Prop where
  go : ∃ tg iter ifs own it t mo me, gs = [⟨tg, iter, ifs, 0⟩] ∧ m = .comp rf (own.map (·.2)) t it mo me ∧ PI X tg iter (TII Z W it) ∧ BlkOk X.N X.env.scope scope own ∧
    (∀ (s : Shared) (H : Hp) (C : Addr) (cl : List (Str × Addr)) (fp : List Addr), PG (X.blk s H scope (compEnvC scope cl C X.env) fp) tg (TGr Z t)) ∧ (∀ (s : Shared) (H : Hp) (C : Addr) (cl : List (Str × Addr)) (fp : List Addr), PTs (X.blk s H scope (compEnvC scope cl C X.env) fp) ifs (TIC Z WF mo)) ∧
    (∀ (s : Shared) (H : Hp) (C : Addr) (cl : List (Str × Addr)) (fp : List Addr), PE (X.blk s H scope (compEnvC scope cl C X.env) fp) elt (TI Z WF me)) ∧ (∀ x, foldedSetIterable iter X.env x = pure x) ∧ (∀ i ∈ slT t, i ∈ own.map (·.2))
theorem trLc_ok {R : Rc} (hR : Snd R) {X : Cx} {Z : Xc} {W : WX} {T : Tab} {rf : Bool} {elt : Expr} {gs : List Comprehension} {scope : Scope} {m : ME} (c : Ctx X Z W T) (h : trLc R T rf elt gs scope = some m) : LcOk X Z W T rf elt gs scope m := by
  unfold trLc at h
  split at h
  · rename_i tg iter ifs k
    split at h
    · rename_i hc
      obtain ⟨rfl, hb⟩ := hc
      split at h
      · rename_i it t mo me h1 h2 h3 h4
        split at h
        · rename_i hs
          cases h
          obtain ⟨a1, a2⟩ := trI_ok hR c h1
          refine ⟨⟨tg, iter, ifs, ownOf T.N scope, it, t, mo, me, rfl, rfl, a1, ?_, fun s H C cl fp => trTg_ok (c.blk s H scope C cl fp) h2, fun s H C cl fp => ?_, fun s H C cl fp => hR.e (c.blk s H scope C cl fp) h4, a2, fun i hi => List.contains_iff_mem.mp (List.all_eq_true.mp hs i hi)⟩⟩
          · rw [c.N, c.sc]; exact blkB_ok hb
          · unfold trIf at h3
            split at h3
            · cases h3; exact snd_pnil
            · obtain ⟨mc, hm, rfl⟩ := mapO h3
              exact snd_pone (hR.t (c.blk s H scope C cl fp) hm)
            · cases h3
        · cases h
      · cases h
    · cases h
  · cases h
theorem LcOk.pe {X : Cx} {Z : Xc} {W : WX} {T : Tab} {rf : Bool} {elt : Expr} {gs : List Comprehension} {scope : Scope} {m : ME} {pos : Pos} (c : Ctx X Z W T) (h : LcOk X Z W T rf elt gs scope m) : PE X (.ListComp elt gs scope pos) (TI Z W m) := by
  obtain ⟨tg, iter, ifs, own, it, t, mo, me, rfl, rfl, h1, h2, h3, h4, h5, h6, h7⟩ := h.go
  exact snd_comp c.hx c.calm c.nd h1 h2 h3 h4 h5 h6 h7
/-! ### displays of dicts -/
def trKeys : List (Option Expr) → Option (List Key)
  | [] => some []
  | some (.Constant (.int i) _ _) :: r => (trKeys r).map (.inl i :: ·)
  | some (.Constant (.str x) _ _) :: r => (trKeys r).map (.inr x :: ·)
  | _ => none
theorem dict_ok {R : Rc} (hR : Snd R) {X : Cx} {Z : Xc} {W : WX} {T : Tab} {pos : Pos} (c : Ctx X Z W T) : ∀ {keys : List (Option Expr)} {values : List Expr} {ks : List Key} {ms : MEs}, trKeys keys = some ks → trEs R T values = some ms → keys.length = values.length →
    PPs X pos keys values (trsD Z W ks ms) ∧ keys.all (·.isSome) = true ∧ ks.length = lenMs ms
  | [], [], ks, ms, h1, h2, _ => by cases h1; cases h2; exact ⟨pps_nil, rfl, rfl⟩
  | [], _ :: _, _, _, _, _, h => by cases h
  | _ :: _, [], _, _, _, _, h => by cases h
  | k :: keys, v :: values, ks, ms, h1, h2, hl => by
    unfold trEs at h2
    split at h2
    · split at h2
      · rename_i m ms' e1 e2
        cases h2
        unfold trKeys at h1
        split at h1
        · rename_i heq; cases heq
        · rename_i i j p r heq
          cases heq
          obtain ⟨ks', hk, rfl⟩ := mapO h1
          obtain ⟨b1, b2, b3⟩ := dict_ok hR c hk e2 (Nat.succ.inj hl)
          exact ⟨pps_cons pe_int (hR.e c e1) b1, by rw [List.all_cons, b2]; rfl, congrArg Nat.succ b3⟩
        · rename_i x j p r heq
          cases heq
          obtain ⟨ks', hk, rfl⟩ := mapO h1
          obtain ⟨b1, b2, b3⟩ := dict_ok hR c hk e2 (Nat.succ.inj hl)
          exact ⟨pps_cons pe_str (hR.e c e1) b1, by rw [List.all_cons, b2]; rfl, congrArg Nat.succ b3⟩
        · cases h1
      · cases h2
    · cases h2
end Dg
end

section
set_option Elab.async false
set_option linter.all false
set_option maxRecDepth 100000
set_option maxHeartbeats 4000000
/-! DgR: the translation of expressions: one step, all steps. -/
namespace Dg
open PySem PySem.Spec L2
open PyProof.Rows hiding St

section
variable {X : Cx} {Z : Xc} {W : WX} {a b c e : Expr} {ma mb mc : ME} {pos : Pos}
theorem Good.chainT {Z : Xc} {W : WX} {σ : St} {H : Hp} {u3 : Wd} {r : PEnv} {S' : Store} {Q : Bool → Hp → Prop} {k : Bool} {o' : O2} {y : V} {q : PV} {mc : ME} (hbo : Bo o') (at3 : At Z σ H u3 r S') (ry : Rep u3 y q)
    (g : Good Z W σ (fun _ b b' => b = b') u3 Q ((match PV.bl k with
      | .bl true => (evalE Z.C mc r S').bind fun u S4 => op2 o' q u S4
      | .bl false => .ok (.bl false) S'
      | _ => .bad).bind truR)) : if k = true then TI Z W mc σ H fun w' H4 => rg Z.K (op2 o') y w' H4 (fun x H' => ∃ k, x = V.bl k ∧ Q k H') else (∃ k, V.bl false = V.bl k ∧ Q k H) := by
  cases k with
  | false =>
    have e := at3.H
    subst e
    exact ⟨false, rfl, g u3 false (Ext.refl u3) at3.h rfl⟩
  | true =>
    have g' : Good Z W σ (fun _ b b' => b = b') u3 Q (((evalE Z.C mc r S').bind fun u S4 => op2 o' q u S4).bind truR) := g
    rw [Res.bind_assoc] at g'
    refine ⟨u3, r, S', at3, Good.bindI g' fun u4 x4 p4 S4 e4 h4 r4 g4 => ?_⟩
    exact ⟨u4, S4, q, p4, rfl, e4.k.trans at3.K, h4, ry.mono e4, r4, g4.test (fun _ _ _ => op2_noexc _ _ _ _ _ _ _) hbo⟩
theorem snd_chainT {op op' : CmpOp} {o o' : O2} (ho : OpR X (compareOp op) (rg Z.K (op2 o))) (hx : Bo o) (ho' : OpR X (compareOp op') (rg Z.K (op2 o'))) (hx' : Bo o') (ha : PE X a (TI Z W ma)) (hb : PE X b (TI Z W mb)) (hc : PE X c (TI Z W mc)) (hm : lastMarks [op, op'] [b, c] = false) :
    PT X (.Compare a [op, op'] [b, c] pos) (TIT Z W (.chain o o' ma mb mc)) := by
  refine (pt_chain ho ho' ha hb hc hm).imp fun σ H Q h => ?_
  obtain ⟨w, r, S, at_, g⟩ := h
  rw [evalT_truth (fun _ _ => by simp) (fun _ _ => by simp) (fun _ => by simp) (fun _ _ _ => by simp), evalE, Res.bind_assoc] at g
  refine ⟨w, r, S, at_, g.bindI fun u x p S1 e1 h1 r1 g1 => ?_⟩
  rw [Res.bind_assoc] at g1
  refine ⟨u, r, S1, at_.next e1 h1, g1.bindI fun t y q S2 e2 h2 r2 g2 => ?_⟩
  refine ⟨t, S2, p, q, rfl, e2.k.trans (e1.k.trans at_.K), h2, r1.mono e2, r2, ?_⟩
  cases e : op2 o p q S2 with
  | bad => rw [e] at g2; exact g2.elim
  | exc cc aa S' => exact absurd e (op2_noexc _ _ _ _ _ _ _)
  | ok v S' =>
    obtain ⟨k, rfl⟩ := hx _ _ _ _ _ e
    rw [e, Res.bind_ok] at g2
    intro u3 z e3 h3 r3
    cases r3
    exact ⟨k, rfl, Good.chainT hx' (((at_.next e1 h1).next e2 h2).next e3 h3) (r2.mono e3) (Good.mono e3 g2)⟩
theorem pw_bool {op : BoolOp} {vs : List Expr} {t : TT} (h : PT X (.BoolOp op vs pos) t) : PW X (.BoolOp op vs pos) t := ⟨fun whole pins s σ H Q I q => h.run pins s σ H Q I q⟩
theorem snd_iteT (hc : PT X c (TIT Z W mc)) (ha : PT X a (TIT Z W ma)) (hb : PT X b (TIT Z W mb)) (h : ∀ whole, isTrue (.IfExp c a b pos) X.env whole = (do if ← isTrue c X.env (eval c X.env) then isTrue a X.env (eval a X.env) else isTrue b X.env (eval b X.env))) : PT X (.IfExp c a b pos) (TIT Z W (.ite mc ma mb)) := by
  refine ⟨fun pins s σ H Q I hh => ?_⟩
  obtain ⟨w, r, S, at_, g⟩ := hh
  rw [evalT_ite] at g
  rw [h]
  refine wpAny_bind (thn (hc.run pins s σ H (fun t H1 => (t = true → TIT Z W ma σ H1 Q) ∧ (t = false → TIT Z W mb σ H1 Q)) I ⟨w, r, S, at_, g.bindI fun u x p S1 e1 h1 r1 g1 => ?_⟩) fun t s1 ⟨H1, I1, q1, q2⟩ => ?_)
  · subst r1
    cases x with
    | true => exact ⟨fun _ => ⟨u, r, S1, at_.next e1 h1, g1⟩, fun z => by cases z⟩
    | false => exact ⟨fun z => (by cases z), fun _ => ⟨u, r, S1, at_.next e1 h1, g1⟩⟩
  · cases t with
    | true => exact ha.run pins s1 σ H1 Q I1 (q1 rfl)
    | false => exact hb.run pins s1 σ H1 Q I1 (q2 rfl)
end
/-! ### calls -/
def trCall (R : Rc) (T : Tab) (x : Str) (args : List Expr) (kws : List Keyword) : Option ME :=
  if glB T.sc x = true ∧ okNm x = true then
    match kwNames kws with
    | some ks => match findC x args.length ks T.calls with
      | some (f, perm) => match trEs R T args, trKs R T kws with
        | some ms, some mk => some (.call f perm (appMs ms mk))
        | _, _ => none
      | none => if T.bl.contains x = true ∧ kws.isEmpty = true then
          (match args with
          | [a, .Name y _] => if x = ("isinstance" : Str) then (if noStar a = true ∧ blB T y = true then (match tyOf y, R.e T a with
              | some t, some m => some (.bi (.isin [t]) (.cons m .nil))
              | _, _ => none) else none)
            else (match biOf x args.length, trEs R T args with
              | some o, some ms => some (.bi o ms)
              | _, _ => none)
          | [] => none
          | args => (match biOf x args.length, trEs R T args with
            | some o, some ms => some (.bi o ms)
            | _, _ => none))
        else none
    | none => none
  else none
theorem bi_ok {R : Rc} (hR : Snd R) {X : Cx} {Z : Xc} {W : WX} {T : Tab} {x : Str} {a : Expr} {args : List Expr} {n : Nat} {m : ME} {p pos : Pos} (c : Ctx X Z W T) (hg : glB T.sc x = true) (hb : T.bl.contains x = true) (h : (match biOf x n, trEs R T (a :: args) with
      | some o, some ms => some (ME.bi o ms)
      | _, _ => none) = some m) : PE X (.Call (.Name x p) (a :: args) [] pos) (TI Z W m) := by
  split at h
  · rename_i o ms h1 h2
    cases h
    obtain ⟨b1, b2, b3⟩ := trEs_ok hR c h2
    rw [List.all_cons, Bool.and_eq_true] at b2
    obtain ⟨hh, n1, n2⟩ := biOf_ok c h1
    rcases hh with ⟨id, q1, q2⟩ | ⟨id, q1, q2⟩
    · exact snd_bi q2 (glB_ok c.sc hg) (c.bl x (List.contains_iff_mem.mp hb)) q1 b1 n1 n2 (starEach_ns b2.1) (back_ns b2.2)
    · exact snd_biT q2 (glB_ok c.sc hg) (c.bl x (List.contains_iff_mem.mp hb)) q1 b1 n1 n2 (starEach_ns b2.1) (back_ns b2.2)
  · cases h
theorem trCall_ok {R : Rc} (hR : Snd R) {X : Cx} {Z : Xc} {W : WX} {T : Tab} {x : Str} {args : List Expr} {kws : List Keyword} {m : ME} {p pos : Pos} (c : Ctx X Z W T) (h : trCall R T x args kws = some m) : PE X (.Call (.Name x p) args kws pos) (TI Z W m) := by
  unfold trCall at h
  split at h
  · rename_i hc
    obtain ⟨hg, hn⟩ := hc
    have hG := glB_ok c.sc hg
    obtain ⟨hd, _⟩ := okNm_ok hn
    split at h
    · rename_i ks hk
      split at h
      · rename_i f perm hf
        split at h
        · rename_i ms mk h1 h2
          cases h
          have hC := c.calls _ (findC_ok hf)
          dsimp only at hC
          obtain ⟨b1, b2, b3⟩ := trEs_ok hR c h1
          obtain ⟨d1, d3⟩ := trKs_ok hR c h2
          have hl := kwNames_len hk
          cases args with
          | nil =>
            cases kws with
            | nil =>
              cases hk; cases h1; cases h2
              exact snd_call0 hC c.tk hG hd
            | cons kw kws =>
              cases h1
              obtain ⟨w1, w2, w3⟩ := kw_all (env := X.env) (pos := pos) hk
              exact snd_callk0 hC c.tk hG d1 (d3.trans hl.symm) w1 w2 hd (by rw [w3]; rfl)
          | cons a args =>
            rw [List.all_cons, Bool.and_eq_true] at b2
            cases kws with
            | nil =>
              cases hk; cases h2
              rw [app_nil]
              exact snd_call hC c.tk hG b1 b3 hd (starEach_ns b2.1) (back_ns b2.2)
            | cons kw kws =>
              obtain ⟨w1, w2, w3⟩ := kw_all (env := X.env) (pos := pos) hk
              exact snd_callk hC c.tk hG b1 d1 b3 (d3.trans hl.symm) w1 w2 hd (starEach_ns b2.1) (by
                rw [w3, back_ns (by rw [List.all_cons, b2.1, b2.2]; rfl)]; rfl)
        · cases h
      · split at h
        · rename_i hb
          obtain ⟨hb, hk0⟩ := hb
          cases kws with
          | cons kw kws => cases hk0
          | nil =>
            split at h
            · rename_i a y py
              split at h
              · rename_i e
                subst e
                split at h
                · rename_i hy
                  split at h
                  · rename_i t m' h1 h2
                    cases h
                    obtain ⟨t1, t2, t3, t4⟩ := tyOf_ok h1
                    obtain ⟨g1, g2⟩ := blB_ok c hy.2
                    exact snd_isin c.K t2 hG (c.bl _ (List.contains_iff_mem.mp hb)) g1 g2 t1 t3 t4 (hR.e c h2) (starEach_ns hy.1)
                  · cases h
                · cases h
              · exact bi_ok hR c hg hb h
            · cases h
            · rename_i args' hne1 hne2
              cases args with
              | nil => exact absurd rfl hne2
              | cons a args => exact bi_ok hR c hg hb h
        · cases h
    · cases h
  · cases h
/-! ### methods of texts, append -/
def trMt (R : Rc) (T : Tab) (r : Bool) (a : Expr) (name : Str) (apos : Pos) (b : Expr) (pos : Pos) : Option ME :=
  if noCall a = true ∧ noStar b = true ∧ (apos.endLine == pos.line) = true then
    if name = ("join" : Str) then (match R.e T a, R.e T b with
      | some m, some n => some (.mt .join m n)
      | _, _ => none)
    else if name = ("split" : Str) then (match R.e T a, R.e T b with
      | some m, some n => some (.mt (if r = true then .splitR else .splitV) m n)
      | _, _ => none)
    else if name = ("append" : Str) then (match a with
      | .Name y _ => (match locV T y, R.e T b with
        | some i, some n => some (.app i n)
        | _, _ => none)
      | _ => none)
    else none
  else none
theorem trMt_ok {R : Rc} (hR : Snd R) {X : Cx} {Z : Xc} {W : WX} {T : Tab} {r : Bool} {a b : Expr} {name : Str} {apos pos : Pos} {m : ME} (c : Ctx X Z W T) (h : trMt R T r a name apos b pos = some m) : PE X (.Call (.Attribute a name apos) [b] [] pos) (TI Z W m) := by
  unfold trMt at h
  split at h
  · rename_i hc
    obtain ⟨h1, h2, h3⟩ := hc
    have hs : starEach [b] X.env = [(false, eval b X.env)] := starEach_ns h2
    split at h
    · rename_i e
      subst e
      split at h
      · rename_i m' n' e1 e2
        cases h
        exact snd_m1 PySem.F.slot_str_join PySem.F.type_str_join (mg_join c.K) (hR.e c e1) (hR.e c e2) hs (base_nc h1) h3
      · cases h
    · split at h
      · rename_i e
        subst e
        split at h
        · rename_i m' n' e1 e2
          cases h
          cases r with
          | true => exact snd_m1 PySem.F.slot_str_split PySem.F.type_str_split mg_splitR (hR.e c e1) (hR.e c e2) hs (base_nc h1) h3
          | false => exact snd_m1 PySem.F.slot_str_split PySem.F.type_str_split mg_splitV (hR.e c e1) (hR.e c e2) hs (base_nc h1) h3
        · cases h
      · split at h
        · rename_i e
          subst e
          split at h
          · rename_i y p
            split at h
            · rename_i i n' e1 e2
              cases h
              obtain ⟨a1, a2, a3, a4⟩ := locV_ok c e1
              refine snd_app a1 a2 a3 a4 c.K (hR.e c e2) (base_nc h1) ?_ h3 (starEach_ns h2)
              rw [hs]; rfl
            · cases h
          · cases h
        · cases h
  · cases h
def trO (R : Rc) (T : Tab) : Option Expr → Option MEo
  | none => some .none
  | some e => (R.e T e).map .some
theorem trO_ok {R : Rc} (hR : Snd R) {X : Cx} {Z : Xc} {W : WX} {T : Tab} {o : Option Expr} {m : MEo} (c : Ctx X Z W T) (h : trO R T o = some m) : PO X o (TIO Z W m) := by
  cases o with
  | none => cases h; exact snd_onone
  | some e =>
    obtain ⟨m', h1, rfl⟩ := mapO h
    exact snd_osome (hR.e c h1)
/-! ### one step -/
def two (R : Rc) (T : Tab) (a b : Expr) (f : ME → ME → ME) : Option ME := match R.e T a, R.e T b with
  | some m, some n => some (f m n)
  | _, _ => none
theorem two_ok {R : Rc} {T : Tab} {a b : Expr} {f : ME → ME → ME} {m : ME} (h : two R T a b f = some m) : ∃ x y, R.e T a = some x ∧ R.e T b = some y ∧ m = f x y := by
  unfold two at h
  split at h
  · rename_i x y e1 e2; cases h; exact ⟨x, y, e1, e2, rfl⟩
  · cases h
def stepE (R : Rc) (T : Tab) : Expr → Option ME
  | .Constant c _ _ => (trConst c).map .k
  | .Name x _ => trName T x
  | .BinOp a op b _ => match opB op with
    | some o => two R T a b (.bin o)
    | none => none
  | .UnaryOp .USub a _ => (R.e T a).map (.un .neg)
  | .UnaryOp .Not a _ => (R.e T a).map .not_
  | .Compare a [.Is] [.Constant .none _ _] _ => (R.e T a).map (.un .isN)
  | .Compare a [.IsNot] [.Constant .none _ _] _ => (R.e T a).map (.un .notN)
  | .Compare a [op] [b] _ => match opC op with
    | some o => if noSet b = true then two R T a b (.bin o) else none
    | none => none
  | .Compare a [op, op'] [b, c] _ => match opC op, opC op', R.e T a, R.e T b, R.e T c with
    | some o, some o', some ma, some mb, some mc => if noSet c = true then some (.chain o o' ma mb mc) else none
    | _, _, _, _, _ => none
  | .BoolOp _ [a] _ => R.e T a
  | .BoolOp .And (a :: b :: r) p => two R T a (.BoolOp .And (b :: r) p) .and_
  | .BoolOp .Or (a :: b :: r) p => two R T a (.BoolOp .Or (b :: r) p) .or_
  | .IfExp c a b _ => match R.t T c with
    | some mc => two R T a b (.ite mc)
    | none => none
  | .Tuple es _ _ => (trEs R T es).map .tup
  | .List es _ => (trEs R T es).map .lst
  | .Dict [] [] _ => some (.dctR [] .nil)
  | .Dict keys values _ => match trKeys keys, trEs R T values with
    | some ks, some ms => if keys.length = values.length ∧ keys.isEmpty = false ∧ keys.length ≤ 15 then some (.dctR ks ms) else none
    | _, _ => none
  | .Subscript a (.Slice lo hi none _) _ => match R.e T a, trO R T lo, trO R T hi with
    | some m, some l, some h => some (.slice m l h)
    | _, _, _ => none
  | .Subscript a b _ => if noSlice b = true then two R T a b (.bin .ix) else none
  | .ListComp elt gs scope _ => trLc R T false elt gs scope
  | .Call (.Name x _) args kws _ => trCall R T x args kws
  | .Call (.Attribute a name apos) [b] [] pos => trMt R T false a name apos b pos
  | _ => none
theorem stepE_ok {R : Rc} (hR : Snd R) {T : Tab} {a : Expr} {m : ME} {X : Cx} {Z : Xc} {W : WX} (c : Ctx X Z W T) (h : stepE R T a = some m) : PE X a (TI Z W m) := by
  have hu := c.un
  unfold stepE at h
  split at h
  · obtain ⟨p, h1, rfl⟩ := mapO h; exact trConst_ok h1
  · exact trName_ok c h
  · split at h
    · rename_i o ho
      obtain ⟨x, y, e1, e2, rfl⟩ := two_ok h
      exact snd_bin (opB_ok c ho) (op2_noexc o) (hR.e c e1) (hR.e c e2)
    · cases h
  · obtain ⟨x, h1, rfl⟩ := mapO h; exact snd_neg (hR.e c h1)
  · obtain ⟨x, h1, rfl⟩ := mapO h; exact snd_not (hR.e c h1)
  · obtain ⟨x, h1, rfl⟩ := mapO h; exact snd_isN (hR.e c h1)
  · obtain ⟨x, h1, rfl⟩ := mapO h; exact snd_notN (hR.e c h1)
  · split at h
    · rename_i o ho
      split at h
      · rename_i hs
        obtain ⟨x, y, e1, e2, rfl⟩ := two_ok h
        exact snd_cmp (opC_ok c ho).1 (op2_noexc o) (hR.e c e1) (hR.e c e2) (behind_ns hs)
      · cases h
    · cases h
  · split at h
    · rename_i o o' ma mb mc h1 h2 h3 h4 h5
      split at h
      · rename_i hs
        cases h
        exact snd_chain (opC_ok c h1).1 (opC_ok c h1).2 (opC_ok c h2).1 (hR.e c h3) (hR.e c h4) (hR.e c h5) (behind_ns hs)
      · cases h
    · cases h
  · exact pe_one (hR.e c h)
  · obtain ⟨x, y, e1, e2, rfl⟩ := two_ok h; exact snd_and (hR.e c e1) (hR.e c e2)
  · obtain ⟨x, y, e1, e2, rfl⟩ := two_ok h; exact snd_or (hR.e c e1) (hR.e c e2)
  · split at h
    · rename_i mc h1
      obtain ⟨x, y, e1, e2, rfl⟩ := two_ok h
      exact snd_ite (hR.t c h1) (hR.e c e1) (hR.e c e2)
    · cases h
  · obtain ⟨ms, h1, rfl⟩ := mapO h; exact snd_tup (trEs_ok hR c h1).1
  · obtain ⟨ms, h1, rfl⟩ := mapO h; exact snd_lst (trEs_ok hR c h1).1
  · cases h; exact snd_dict0
  · split at h
    · rename_i ks ms h1 h2
      split at h
      · rename_i hl
        cases h
        obtain ⟨b1, b2, b3⟩ := dict_ok hR c h1 h2 hl.1
        exact snd_dict b1 b3 b2 hl.1 (fun z => by rw [z] at hl; exact absurd hl.2.1 (by simp)) hl.2.2 fun σ w => by unfold HX; rw [c.hx]; trivial
      · cases h
    · cases h
  · split at h
    · rename_i m' l h' e1 e2 e3
      cases h
      exact snd_slice c.K (hR.e c e1) (trO_ok hR c e2) (trO_ok hR c e3)
    · cases h
  · split at h
    · rename_i hs
      obtain ⟨x, y, e1, e2, rfl⟩ := two_ok h
      exact snd_ix c.K (by omega) (hR.e c e1) (hR.e c e2) (plainIx_ns hs)
    · cases h
  · exact (trLc_ok hR c h).pe c
  · exact trCall_ok hR c h
  · exact trMt_ok hR c h
  · cases h
def trueE (R : Rc) (T : Tab) (e : Expr) : Option ME := if plainT e = true then (match R.e T e with
  | some (.and_ _ _) => none
  | some (.or_ _ _) => none
  | some (.not_ _) => none
  | some (.ite _ _ _) => none
  | o => o) else none
theorem trueE_ok {R : Rc} (hR : Snd R) {T : Tab} {a : Expr} {m : ME} {X : Cx} {Z : Xc} {W : WX} (c : Ctx X Z W T) (h : trueE R T a = some m) : PT X a (TIT Z W m) := by
  unfold trueE at h
  split at h
  · rename_i hp
    split at h
    · cases h
    · cases h
    · cases h
    · cases h
    · rename_i h1 h2 h3 h4
      refine snd_truth (hR.e c h) (plainT_ok hp) c.K (fun x y e => ?_) (fun x y e => ?_) (fun x e => ?_) (fun x y z e => ?_)
      · subst e; exact h1 _ _ h
      · subst e; exact h2 _ _ h
      · subst e; exact h3 _ h
      · subst e; exact h4 _ _ _ h
  · cases h
def twoT (R : Rc) (T : Tab) (a b : Expr) (f : ME → ME → ME) : Option ME := match R.t T a, R.t T b with
  | some m, some n => some (f m n)
  | _, _ => none
theorem twoT_ok {R : Rc} {T : Tab} {a b : Expr} {f : ME → ME → ME} {m : ME} (h : twoT R T a b f = some m) : ∃ x y, R.t T a = some x ∧ R.t T b = some y ∧ m = f x y := by
  unfold twoT at h
  split at h
  · rename_i x y e1 e2; cases h; exact ⟨x, y, e1, e2, rfl⟩
  · cases h
def stepT (R : Rc) (T : Tab) : Expr → Option ME
  | .UnaryOp .Not a _ => (R.t T a).map .not_
  | .Compare a [.Is] [.Constant .none _ _] _ => (R.e T a).map (.un .isN)
  | .Compare a [.IsNot] [.Constant .none _ _] _ => (R.e T a).map (.un .notN)
  | .Compare a [op] [b] _ => match opC op with
    | some o => if noSet b = true then two R T a b (.bin o) else none
    | none => none
  | .Compare a [op, op'] [b, c] _ => match opC op, opC op', R.e T a, R.e T b, R.e T c with
    | some o, some o', some ma, some mb, some mc => if noSet c = true then some (.chain o o' ma mb mc) else none
    | _, _, _, _, _ => none
  | .BoolOp .And [a] _ => R.t T a
  | .BoolOp .Or [a] _ => R.t T a
  | .BoolOp .And (a :: b :: r) p => twoT R T a (.BoolOp .And (b :: r) p) .and_
  | .BoolOp .Or (a :: b :: r) p => twoT R T a (.BoolOp .Or (b :: r) p) .or_
  | .IfExp c a b _ => match R.t T c with
    | some mc => twoT R T a b (.ite mc)
    | none => none
  | e => trueE R T e
theorem stepT_ok {R : Rc} (hR : Snd R) {T : Tab} {a : Expr} {m : ME} {X : Cx} {Z : Xc} {W : WX} (c : Ctx X Z W T) (h : stepT R T a = some m) : PT X a (TIT Z W m) := by
  unfold stepT at h
  split at h
  · obtain ⟨x, h1, rfl⟩ := mapO h; exact snd_notT (hR.t c h1)
  · obtain ⟨x, h1, rfl⟩ := mapO h; exact snd_isNT (hR.e c h1)
  · obtain ⟨x, h1, rfl⟩ := mapO h; exact snd_notNT (hR.e c h1)
  · split at h
    · rename_i o ho
      split at h
      · rename_i hs
        obtain ⟨x, y, e1, e2, rfl⟩ := two_ok h
        exact snd_cmpT (opC_ok c ho).1 (op2_noexc o) (opC_ok c ho).2 (hR.e c e1) (hR.e c e2) (behind_ns hs)
      · cases h
    · cases h
  · split at h
    · rename_i o o' ma mb mc h1 h2 h3 h4 h5
      split at h
      · rename_i hs
        cases h
        exact snd_chainT (opC_ok c h1).1 (opC_ok c h1).2 (opC_ok c h2).1 (opC_ok c h2).2 (hR.e c h3) (hR.e c h4) (hR.e c h5) (behind_ns hs)
      · cases h
    · cases h
  · exact (pw_and1 (hR.t c h)).pt
  · exact (pw_or1 (hR.t c h)).pt
  · obtain ⟨x, y, e1, e2, rfl⟩ := twoT_ok h; exact (snd_andT (hR.t c e1) (pw_bool (hR.t c e2))).pt
  · obtain ⟨x, y, e1, e2, rfl⟩ := twoT_ok h; exact (snd_orT (hR.t c e1) (pw_bool (hR.t c e2))).pt
  · split at h
    · rename_i mc h1
      obtain ⟨x, y, e1, e2, rfl⟩ := twoT_ok h
      exact snd_iteT (hR.t c h1) (hR.t c e1) (hR.t c e2) fun _ => rfl
    · cases h
  · exact trueE_ok hR c h
def rc : Nat → Rc
  | 0 => ⟨fun _ _ => none, fun _ _ => none⟩
  | n + 1 => ⟨stepE (rc n), stepT (rc n)⟩
theorem rc_ok : ∀ n : Nat, Snd (rc n)
  | 0 => ⟨(fun _ h => by cases h), (fun _ h => by cases h)⟩
  | n + 1 => ⟨fun c h => stepE_ok (rc_ok n) c h, fun c h => stepT_ok (rc_ok n) c h⟩
/-- a fresh list that is an object of the store -/
def trR (R : Rc) (T : Tab) : Expr → Option ME
  | .List es _ => (trEs R T es).map .lstR
  | .ListComp elt gs scope _ => trLc R T true elt gs scope
  | .Call (.Name x _) [a] [] _ => if x = ("list" : Str) ∧ blB T x = true ∧ noStar a = true then (R.e T a).map fun m => .bi .listR (.cons m .nil) else trCall R T x [a] []
  | .Call (.Attribute a name apos) [b] [] pos => trMt R T true a name apos b pos
  | e => R.e T e
theorem trR_ok {R : Rc} (hR : Snd R) {T : Tab} {a : Expr} {m : ME} {X : Cx} {Z : Xc} {W : WX} (c : Ctx X Z W T) (h : trR R T a = some m) : PE X a (TI Z W m) := by
  unfold trR at h
  split at h
  · obtain ⟨ms, h1, rfl⟩ := mapO h; exact snd_lstR (trEs_ok hR c h1).1
  · exact (trLc_ok hR c h).pe c
  · split at h
    · rename_i hc
      obtain ⟨rfl, h1, h2⟩ := hc
      obtain ⟨m', hm, rfl⟩ := mapO h
      obtain ⟨g1, g2⟩ := blB_ok c h1
      exact snd_biT (bg_listR c.K) g1 g2 boot_list (snd_acons (hR.e c hm) snd_anil (starEach_ns h2)) (by decide) (by decide) (starEach_ns h2) rfl
    · exact trCall_ok hR c h
  · exact trMt_ok hR c h
  · exact hR.e c h
end Dg
end

section
set_option Elab.async false
set_option linter.all false
set_option maxRecDepth 100000
set_option maxHeartbeats 4000000
/-! DgS: the translation of statements, sound. -/
namespace Dg
open PySem PySem.Spec L2
open PyProof.Rows hiding St

def Raise1 (X : Cx) (Z : Xc) (x : Str) (c : Nat) : Prop := ∀ {e : Expr} {te : TE} {p pos : Pos}, Gl X x → (x == ("__debug__" : Str)) = false → PE X e te → noStar e = true → PMk X (.Call (.Name x p) [e] [] pos) (tMkX Z c te)
structure SCx (X : Cx) (Z : Xc) (W : WX) (T : Tab) : Prop extends Ctx X Z W T where
  po : PassesOwn (model X.prog X.w) X.A X.env X.xe
  hst : X.stack = X.env :: X.outer
  hf : X.env.frame = some X.env.locals
  raise : ∀ x c, T.excs.lookup x = some c → ∀ (pn : List (Addr × Obj)) (xe : Value → Shared → Prop), Raise1 (X.tr pn xe) Z x c
  sub : ∀ c c', Z.C.sub c c' = T.subs.lookup (c, c')
  xm : ∀ c c' b, T.subs.lookup (c, c') = some b → PySem.W.exmOne X.K (.ref (Z.cl c)) (.ref (Z.cl c')) = some b
  xcls : ∀ x c, T.excs.lookup x = some c → X.mg x = some (.ref (Z.cl c))
  xf : ∀ c f, T.fds[c]? = some f → Z.fd c = f ∧ XfC X.K (Z.cl c) ∧ PySem.W.findIn X.K (.ref (Z.cl c)) f = some none
theorem SCx.tr {X : Cx} {Z : Xc} {W W' : WX} {T : Tab} (c : SCx X Z W T) {pn : List (Addr × Obj)} {xe : Value → Shared → Prop} (tk : Takes (X.tr pn xe) W') (po : PassesOwn (model X.prog X.w) X.A X.env xe) : SCx (X.tr pn xe) Z W' T where
  K := c.K
  hx := c.hx
  calm := c.calm
  nd := c.nd
  N := c.N
  sc := c.sc
  fn := c.fn
  un := c.un
  calls := fun q hq => ⟨(c.calls q hq).go⟩
  consts := c.consts
  bl := c.bl
  tk := tk
  po := po
  hst := c.hst
  hf := c.hf
  raise := fun x d h pn' xe' => c.raise x d h pn' xe'
  sub := c.sub
  xm := c.xm
  xcls := c.xcls
  xf := c.xf

/-! ### what is seen of a store -/
def noComp : Expr → Bool
  | .ListComp .. => false
  | .SetComp .. => false
  | .DictComp .. => false
  | _ => true
theorem swaps_nc {e : Expr} {o : Option Expr} {line : Nat} {env : Env} (h : noComp e = true) : swapsWith e o line env = pure false := by
  cases e <;> first | rfl | (cases h)
def lcSw (T : Tab) (t : Str) (pos p : Pos) (s : Scope) : Bool :=
  (if T.sc.kind.isAnnotationScope then ScopeKind.function else T.sc.kind) == .function && T.sc.names.lookup t == some .local && pos.line == p.line
      && !(s.names.any fun (n, k) => n == t && (k == .local || k == .cell))
theorem lcSw_ok {T : Tab} {t : Str} {pos p : Pos} {s : Scope} {elt : Expr} {gs : List Comprehension} {line : Nat} {env : Env} (h : env.scope = T.sc) : swapsWith (.ListComp elt gs s p) (some (.Name t pos)) line env = pure (lcSw T t pos p s) := by
  unfold lcSw
  rw [← h]
  rfl
def bkS (sc : Scope) : ScopeKind := if sc.kind.isAnnotationScope then ScopeKind.function else sc.kind
def sw1 (sc : Scope) (ts vs : List Expr) : Bool := !(ts.length == 2 || ts.length == 3) || vs.length != ts.length || bkS sc != .function
def sw2 (vs : List Expr) : Bool := vs.any fun
  | .Starred .. => true
  | _ => false
def swN (sc : Scope) (ts : List Expr) : List Str := ts.filterMap fun
    | .Name id pos => if sc.names.lookup id == some .local && pos.line == (ts.head?.map (·.pos.line)).getD 0 then some id else none
    | _ => none
def sw3 (ts : List Expr) (ns : List Str) : Bool := ns.length != ts.length || ns.eraseDups.length != ns.length
theorem sw_tup {ts vs : List Expr} {k k2 : Nat} {p p2 : Pos} {env : Env} : swappedStores [.Tuple ts k p] (.Tuple vs k2 p2) env =
    if sw1 env.scope ts vs = true then pure none else if sw2 vs = true then pure none else if sw3 ts (swN env.scope ts) = true then pure none else
      if vs.all (foldedForSure 8) = true then pure none else if vs.all (constantsAlone 8) = true then (do unsupported "assign.tuple-of-constant-expressions:order-of-the-stores"; pure (some (swN env.scope ts))) else pure (some (swN env.scope ts)) := by
  unfold swappedStores sw1 sw2 sw3 swN bkS
  rfl
def swF (T : Tab) (ts vs : List Expr) : Option (Option (List Str)) :=
  if sw1 T.sc ts vs = true then some none else if sw2 vs = true then some none else if sw3 ts (swN T.sc ts) = true then some none else
  if vs.all (foldedForSure 8) = true then some none else if vs.all (constantsAlone 8) = true then none else some (some (swN T.sc ts))
theorem swF_ok {T : Tab} {ts vs : List Expr} {k k2 : Nat} {p p2 : Pos} {env : Env} {r : Option (List Str)} (h : env.scope = T.sc) (hr : swF T ts vs = some r) : swappedStores [.Tuple ts k p] (.Tuple vs k2 p2) env = pure r := by
  rw [sw_tup, h]
  unfold swF at hr
  by_cases c1 : sw1 T.sc ts vs = true
  · rw [if_pos c1] at hr ⊢; cases hr; rfl
  rw [if_neg c1] at hr ⊢
  by_cases c2 : sw2 vs = true
  · rw [if_pos c2] at hr ⊢; cases hr; rfl
  rw [if_neg c2] at hr ⊢
  by_cases c3 : sw3 ts (swN T.sc ts) = true
  · rw [if_pos c3] at hr ⊢; cases hr; rfl
  rw [if_neg c3] at hr ⊢
  by_cases c4 : vs.all (foldedForSure 8) = true
  · rw [if_pos c4] at hr ⊢; cases hr; rfl
  rw [if_neg c4] at hr ⊢
  by_cases c5 : vs.all (constantsAlone 8) = true
  · rw [if_pos c5] at hr; cases hr
  rw [if_neg c5] at hr ⊢
  cases hr; rfl
def noTup : Expr → Bool
  | .Tuple .. => false
  | _ => true
theorem sw_nt {tg e : Expr} {env : Env} (h : noTup e = true) : swappedStores [tg] e env = pure none := by
  cases e <;> first | (cases tg <;> rfl) | (cases h)
theorem assign_ns {a : Expr} {es : List Expr} {env : Env} (h : noStar a = true) : (assignEach (a :: es) env).map (·.2) = assign a env :: (assignEach es env).map (·.2) := by
  cases a <;> first | rfl | (cases h)
theorem assign_sub {a b : Expr} {p : Pos} {env : Env} (h : noSlice b = true) : ∀ v, assign (.Subscript a b p) env v = (do
      let ov ← holding [v] (eval a env)
      let iv ← holding [v, ov] (eval b env)
      standAt p
      holding [v, ov, iv] (setItem ov iv v)
      release [v, ov, iv] []) := fun v => by
  cases b <;> first | rfl | (cases h)
/-! ### targets of several kinds -/
def trMs (R : Rc) (T : Tab) : List Expr → Option (List MT)
  | [] => some []
  | .Name x _ :: r => match trSt T x, trMs R T r with
    | some i, some l => some (.name i :: l)
    | _, _ => none
  | .Subscript a b _ :: r => if noSlice b = true then (match R.e T a, R.e T b, trMs R T r with
    | some m, some n, some l => some (.sub m n :: l)
    | _, _, _ => none) else none
  | _ => none
theorem trMs_ok {R : Rc} (hR : Snd R) {X : Cx} {Z : Xc} {W : WX} {T : Tab} (c : Ctx X Z W T) : ∀ {es : List Expr} {ts : List MT}, trMs R T es = some ts → PGs X es (TMs Z W ts) ∧ (assignEach es X.env).length = ts.length ∧ (assignEach es X.env).findIdx? (·.1) = none
  | [], ts, h => by cases h; exact ⟨snd_mnil, rfl, rfl⟩
  | e :: r, ts, h => by
    have hu := c.un
    unfold trMs at h
    split at h
    · rename_i heq; cases heq
    · rename_i x p r' heq
      cases heq
      split at h
      · rename_i i l h1 h2
        cases h
        obtain ⟨a1, a2, a3⟩ := trSt_ok c h1
        obtain ⟨b1, b2, b3⟩ := trMs_ok hR c h2
        refine ⟨snd_mname c.hx c.nd a1 a2 a3 b1 rfl, ?_, ?_⟩
        · show (assignEach r X.env).length + 1 = l.length + 1
          rw [b2]
        · show (List.findIdx? (·.1) ((false, assign (.Name x p) X.env) :: assignEach r X.env)) = none
          rw [List.findIdx?_cons, b3]; rfl
      · cases h
    · rename_i a b p r' heq
      cases heq
      split at h
      · rename_i hs
        split at h
        · rename_i m n l h1 h2 h3
          cases h
          obtain ⟨b1, b2, b3⟩ := trMs_ok hR c h3
          refine ⟨snd_msub (by omega) (hR.e c h1) (hR.e c h2) b1 (assign_sub hs) rfl, ?_, ?_⟩
          · show (assignEach r X.env).length + 1 = l.length + 1
            rw [b2]
          · show (List.findIdx? (·.1) ((false, assign (.Subscript a b p) X.env) :: assignEach r X.env)) = none
            rw [List.findIdx?_cons, b3]; rfl
        · cases h
      · cases h
    · cases h
/-! ### values by their targets -/
def isMu (T : Tab) : Expr → Bool
  | .Name x _ => T.mu.contains x
  | _ => false
def trV (R : Rc) (T : Tab) (b : Bool) (e : Expr) : Option ME := if b = true then trR R T e else R.e T e
theorem trV_ok {R : Rc} (hR : Snd R) {T : Tab} {b : Bool} {a : Expr} {m : ME} {X : Cx} {Z : Xc} {W : WX} (c : Ctx X Z W T) (h : trV R T b a = some m) : PE X a (TI Z W m) := by
  unfold trV at h
  split at h
  · exact trR_ok hR c h
  · exact hR.e c h
def trVs (R : Rc) (T : Tab) : List Expr → List Expr → Option MEs
  | [], [] => some .nil
  | t :: ts, e :: es => if noStar e = true then (match trV R T (isMu T t) e, trVs R T ts es with
    | some m, some ms => some (.cons m ms)
    | _, _ => none) else none
  | _, _ => none
theorem trVs_ok {R : Rc} (hR : Snd R) {X : Cx} {Z : Xc} {W : WX} {T : Tab} (c : Ctx X Z W T) : ∀ {ts es : List Expr} {ms : MEs}, trVs R T ts es = some ms → PA X es (TIA Z W ms)
  | [], [], ms, h => by cases h; exact snd_anil
  | [], _ :: _, ms, h => by cases h
  | _ :: _, [], ms, h => by cases h
  | t :: ts, e :: es, ms, h => by
    unfold trVs at h
    split at h
    · rename_i hs
      split at h
      · rename_i m ms' h1 h2
        cases h
        exact snd_acons (trV_ok hR c h1) (trVs_ok hR c h2) (starEach_ns hs)
      · cases h
    · cases h
/-! ### assignments -/
def localB (T : Tab) (x : Str) : Bool := match T.sc.names.lookup x with
  | some .local => true
  | _ => false
theorem localB_ok {X : Cx} {Z : Xc} {W : WX} {T : Tab} {x : Str} (c : Ctx X Z W T) (h : localB T x = true) : X.env.scope.names.lookup x = some .local := by
  unfold localB at h
  rw [c.sc]
  split at h
  · assumption
  · cases h
def trAsg (R : Rc) (T : Tab) (tg e : Expr) : Option MS := match tg with
  | .Name x p => match trSt T x with
    | some i => (match e with
      | .ListComp elt gs s p' => if lcSw T x p p' s = true then (if localB T x = true then (trLc R T (T.mu.contains x) elt gs s).map (.asg (.name i)) else none) else (trV R T (T.mu.contains x) e).map (.asg (.name i))
      | e => if noComp e = true then (trV R T (T.mu.contains x) e).map (.asg (.name i)) else none)
    | none => none
  | .Subscript a b _ => if noSlice b = true ∧ noTup e = true then (match R.e T a, R.e T b, trV R T (match b with
      | .Constant (.str _) _ _ => true
      | _ => false) e with
    | some m, some n, some v => some (.setix m n v)
    | _, _, _ => none) else none
  | .Tuple ts _ _ => (match e with
    | .Tuple vs _ _ => (match swF T ts vs with
      | some none => (match trMs R T ts, trVs R T ts vs with
        | some l, some ms => some (.unp l (.tup ms))
        | _, _ => none)
      | some (some ns) => (match ts, vs with
        | [.Name x _, .Name y _], [a, b] => if ns = [x, y] ∧ localB T x = true ∧ localB T y = true then (match idx x T.N, idx y T.N, trVs R T ts vs with
          | some i, some j, some (.cons ma (.cons mb .nil)) => if i ≠ j then some (.asg (.tup [i, j]) (.tup (.cons ma (.cons mb .nil)))) else none
          | _, _, _ => none) else none
        | [.Name x _, .Name y _, .Name z _], [a, b, c] => if ns = [x, y, z] ∧ localB T x = true ∧ localB T y = true ∧ localB T z = true then (match idx x T.N, idx y T.N, idx z T.N, trVs R T ts vs with
          | some i, some j, some l, some (.cons ma (.cons mb (.cons mc .nil))) => if i ≠ j ∧ i ≠ l ∧ j ≠ l then some (.asg (.tup [i, j, l]) (.tup (.cons ma (.cons mb (.cons mc .nil))))) else none
          | _, _, _, _ => none) else none
        | _, _ => none)
      | none => none)
    | e => if noTup e = true ∧ noComp e = true then (match trMs R T ts, R.e T e with
        | some l, some m => some (.unp l m)
        | _, _ => none) else none)
  | _ => none
theorem sole_eq {tg e : Expr} {line : Nat} {env : Env} : swapsWithSole [tg] e line env = swapsWith e (some tg) line env := rfl
theorem swaps_tg {tg e : Expr} {line : Nat} {env : Env} (h : ∀ x p, tg ≠ .Name x p) : swapsWith e (some tg) line env = pure false := by
  cases e <;> first | rfl | (cases tg <;> first | rfl | (exact absurd rfl (h _ _)))
theorem trAsg_ok {R : Rc} (hR : Snd R) {X : Cx} {Z : Xc} {W : WX} {T : Tab} {tg e : Expr} {m : MS} {pos : Pos} (c : Ctx X Z W T) (h : trAsg R T tg e = some m) : PS X (.Assign [tg] e pos) (TSS Z W m) := by
  have hu := c.un
  unfold trAsg at h
  split at h
  · rename_i x p
    split at h
    · rename_i i hi
      obtain ⟨a1, a2, a3⟩ := trSt_ok c hi
      split at h
      · rename_i elt gs s p'
        split at h
        · rename_i hsw
          split at h
          · rename_i hl
            obtain ⟨me, hm, rfl⟩ := mapO h
            obtain ⟨tg, iter, ifs, own, it, t, mo, me, rfl, rfl, h1, h2, h3, h4, h5, h6, h7⟩ := (trLc_ok hR c hm).go
            exact snd_setLc c.hx c.calm c.nd a1 (localB_ok c hl) (by rw [lcSw_ok c.sc, hsw]) h1 h2 h3 h4 h5 h6 h7
          · cases h
        · rename_i hsw
          obtain ⟨me, hm, rfl⟩ := mapO h
          exact snd_set c.hx c.nd a1 a2 (trV_ok hR c hm) (by rw [lcSw_ok c.sc]; rw [Bool.not_eq_true] at hsw; rw [hsw]) a3
      · split at h
        · rename_i hn
          obtain ⟨me, hm, rfl⟩ := mapO h
          exact snd_set c.hx c.nd a1 a2 (trV_ok hR c hm) (swaps_nc hn) a3
        · cases h
    · cases h
  · rename_i a b p
    split at h
    · rename_i hs
      split at h
      · rename_i m' n' v' e1 e2 e3
        cases h
        exact snd_setix (by omega) (trV_ok hR c e3) (hR.e c e1) (hR.e c e2) (by rw [sole_eq, swaps_tg (fun _ _ z => by cases z)]) (sw_nt hs.2) (assign_sub hs.1) rfl
      · cases h
    · cases h
  · rename_i ts k tp
    split at h
    · rename_i vs k2 p2
      split at h
      · rename_i hsw
        split at h
        · rename_i l ms h1 h2
          cases h
          obtain ⟨b1, b2, b3⟩ := trMs_ok hR c h1
          exact snd_unp c.K c.calm (snd_tup (trVs_ok hR c h2)) b1 b2 b3 (by rw [sole_eq, swaps_nc rfl]) (swF_ok c.sc hsw) rfl
        · cases h
      · rename_i ns hsw
        split at h
        · rename_i x px y py a b
          split at h
          · rename_i hc
            obtain ⟨rfl, hx, hy⟩ := hc
            split at h
            · rename_i i j ma mb h1 h2 h3
              split at h
              · rename_i hij
                cases h
                exact snd_par c.hx c.calm c.nd (by rw [c.N]; exact idx_ok h1) (by rw [c.N]; exact idx_ok h2) hij (localB_ok c hx) (localB_ok c hy) (trVs_ok hR c h3) (swF_ok c.sc hsw) (by rw [sole_eq, swaps_nc rfl])
              · cases h
            · cases h
          · cases h
        · rename_i x px y py z pz a b d
          split at h
          · rename_i hc
            obtain ⟨rfl, hx, hy, hz⟩ := hc
            split at h
            · rename_i i j l ma mb mc h1 h2 h3 h4
              split at h
              · rename_i hij
                cases h
                exact snd_par3 c.hx c.calm c.nd (by rw [c.N]; exact idx_ok h1) (by rw [c.N]; exact idx_ok h2) (by rw [c.N]; exact idx_ok h3) hij.1 hij.2.1 hij.2.2 (localB_ok c hx) (localB_ok c hy) (localB_ok c hz) (trVs_ok hR c h4) (swF_ok c.sc hsw) (by rw [sole_eq, swaps_nc rfl])
              · cases h
            · cases h
          · cases h
        · cases h
      · cases h
    · split at h
      · rename_i hn
        split at h
        · rename_i l me h1 h2
          cases h
          obtain ⟨b1, b2, b3⟩ := trMs_ok hR c h1
          exact snd_unp c.K c.calm (hR.e c h2) b1 b2 b3 (by rw [sole_eq, swaps_nc hn.2]) (sw_nt hn.1) rfl
        · cases h
      · cases h
  · cases h
end Dg
end

section
set_option Elab.async false
set_option linter.all false
set_option maxRecDepth 100000
set_option maxHeartbeats 4000000
/-! DgT: the translation of statements, sound (2): try, all statements. -/
namespace Dg
open PySem PySem.Spec L2
open PyProof.Rows hiding St

/-! ### except suites -/
/-- what a suite's expression may be: n the exception's name, f the field -/
def trH0 (n f : Str) : Expr → Option ME
  | .Constant c _ _ => (trConst c).map .k
  | .Attribute (.Name x _) g _ => if x = n ∧ g = f then some .exarg else none
  | _ => none
def trHs (n f : Str) : List Expr → Option MEs
  | [] => some .nil
  | e :: es => if noStar e = true then (match trH0 n f e, trHs n f es with
    | some m, some ms => some (.cons m ms)
    | _, _ => none) else none
def trH (n f : Str) : Expr → Option ME
  | .List es _ => (trHs n f es).map .lst
  | .Tuple es _ _ => (trHs n f es).map .tup
  | e => trH0 n f e
section
variable {X : Cx} {Z : Xc} {W W' : WX} {T : Tab} {n f : Str} {i c : Nat} {av : PV} {a : Addr} {oe : Obj} {d : Option Addr} {pn : List (Addr × Obj)}
theorem trH0_ok (k : SCx X Z W' T) (hn : visB T.sc n = true ∧ okNm n = true ∧ idx n T.N = some i) (hf : T.fds[c]? = some f) (hz : Zc (.ref (Z.cl c)) d oe) (hv : ∃ vs, oe.data = .fields vs) {e : Expr} {m : ME} (h : trH0 n f e = some m) :
    PE (X.suite a ((a, oe) :: pn)) e (TI (Zh Z c av a d i) W m) := by
  unfold trH0 at h
  split at h
  · obtain ⟨p, h1, rfl⟩ := mapO h; exact trConst_ok h1
  · split at h
    · rename_i e2
      obtain ⟨rfl, rfl⟩ := e2
      cases h
      obtain ⟨x1, x2, x3⟩ := k.xf c _ hf
      obtain ⟨d1, d2⟩ := okNm_ok hn.2.1
      exact snd_exarg x2 x3 x1 hz hv (by rw [k.N]; exact idx_ok hn.2.2) (by rw [k.sc]; exact visB_ok hn.1) d1 d2 (base_nc rfl)
    · cases h
  · cases h
theorem trHs_ok (k : SCx X Z W' T) (hn : visB T.sc n = true ∧ okNm n = true ∧ idx n T.N = some i) (hf : T.fds[c]? = some f) (hz : Zc (.ref (Z.cl c)) d oe) (hv : ∃ vs, oe.data = .fields vs) : ∀ {es : List Expr} {ms : MEs}, trHs n f es = some ms →
    PA (X.suite a ((a, oe) :: pn)) es (TIA (Zh Z c av a d i) W ms)
  | [], ms, h => by cases h; exact snd_anil
  | e :: es, ms, h => by
    unfold trHs at h
    split at h
    · rename_i hs
      split at h
      · rename_i m ms' h1 h2
        cases h
        exact snd_acons (trH0_ok k hn hf hz hv h1) (trHs_ok k hn hf hz hv h2) (starEach_ns hs)
      · cases h
    · cases h
theorem trH_ok (k : SCx X Z W' T) (hn : visB T.sc n = true ∧ okNm n = true ∧ idx n T.N = some i) (hf : T.fds[c]? = some f) (hz : Zc (.ref (Z.cl c)) d oe) (hv : ∃ vs, oe.data = .fields vs) {e : Expr} {m : ME} (h : trH n f e = some m) :
    PE (X.suite a ((a, oe) :: pn)) e (TI (Zh Z c av a d i) W m) := by
  unfold trH at h
  split at h
  · obtain ⟨ms, h1, rfl⟩ := mapO h; exact snd_lst (trHs_ok k hn hf hz hv h1)
  · obtain ⟨ms, h1, rfl⟩ := mapO h; exact snd_tup (trHs_ok k hn hf hz hv h1)
  · exact trH0_ok k hn hf hz hv h
end
/-- what a suite's expression may be, no name given -/
def trC0 : Expr → Option ME
  | .Constant c _ _ => (trConst c).map .k
  | _ => none
def trCs : List Expr → Option MEs
  | [] => some .nil
  | e :: es => if noStar e = true then (match trC0 e, trCs es with
    | some m, some ms => some (.cons m ms)
    | _, _ => none) else none
def trC : Expr → Option ME
  | .List es _ => (trCs es).map .lst
  | .Tuple es _ _ => (trCs es).map .tup
  | e => trC0 e
section
variable {X : Cx} {Z : Xc} {W : WX}
theorem trC0_ok {e : Expr} {m : ME} (h : trC0 e = some m) : PE X e (TI Z W m) := by
  unfold trC0 at h
  split at h
  · obtain ⟨p, h1, rfl⟩ := mapO h; exact trConst_ok h1
  · cases h
theorem trCs_ok : ∀ {es : List Expr} {ms : MEs}, trCs es = some ms → PA X es (TIA Z W ms)
  | [], ms, h => by cases h; exact snd_anil
  | e :: es, ms, h => by
    unfold trCs at h
    split at h
    · rename_i hs
      split at h
      · rename_i m ms' h1 h2
        cases h
        exact snd_acons (trC0_ok h1) (trCs_ok h2) (starEach_ns hs)
      · cases h
    · cases h
theorem trC_ok {e : Expr} {m : ME} (h : trC e = some m) : PE X e (TI Z W m) := by
  unfold trC at h
  split at h
  · obtain ⟨ms, h1, rfl⟩ := mapO h; exact snd_lst (trCs_ok h1)
  · obtain ⟨ms, h1, rfl⟩ := mapO h; exact snd_tup (trCs_ok h1)
  · exact trC0_ok h
end
/-- a suite of one statement: where its value goes -/
def trSuite (T : Tab) (trX : Expr → Option ME) : List Stmt → Option (Option Nat × ME)
  | [.Assign [.Name y _] e _] => if noComp e = true then (match trSt T y, trX e with
    | some j, some m => some (some j, m)
    | _, _ => none) else none
  | [.Return (some e) _] => (trX e).map fun m => (none, m)
  | _ => none
theorem trSuite_ok {X : Cx} {Z : Xc} {W : WX} {T : Tab} {trX : Expr → Option ME} {sts : List Stmt} {t : Option Nat} {m : ME} {a : Addr} {oe : Obj} {pn : List (Addr × Obj)} {te : TE} (c : Ctx X Z W T) (h : trSuite T trX sts = some (t, m)) (hx : ∀ e, trX e = some m → PE (X.suite a ((a, oe) :: pn)) e te) :
    PSs (X.suite a ((a, oe) :: pn)) sts (fun D σ H => te σ H (tEnd t D σ)) ∧ sts ≠ [] := by
  unfold trSuite at h
  split at h
  · split at h
    · rename_i hn
      split at h
      · rename_i j m' h1 h2
        cases h
        obtain ⟨a1, a2, a3⟩ := trSt_ok c h1
        exact ⟨suite_one c.nd a1 a2 a3 (hx _ h2) (swaps_nc hn), by simp⟩
      · cases h
    · cases h
  · obtain ⟨m', h1, h2⟩ := mapO h
    cases h2
    exact ⟨suite_ret (hx _ h1), by simp⟩
  · cases h
def allSub (T : Tab) (c' : Nat) (f : Str) : Bool := T.subs.all fun q => !(q.2 && q.1.2 == c') || T.fds[q.1.1]? == some f
theorem lookup_mem' {α β : Type} [BEq α] [LawfulBEq α] {x : α} {y : β} : ∀ {l : List (α × β)}, l.lookup x = some y → (x, y) ∈ l
  | [], h => by cases h
  | (a, b) :: r, h => by
    rw [List.lookup_cons] at h
    split at h
    · rename_i e
      cases h
      rw [eq_of_beq e]; exact List.mem_cons_self ..
    · exact List.mem_cons_of_mem _ (lookup_mem' h)
theorem allSub_ok {T : Tab} {c' : Nat} {f : Str} (h : allSub T c' f = true) {c : Nat} (hs : T.subs.lookup (c, c') = some true) : T.fds[c]? = some f := by
  have z := List.all_eq_true.mp h _ (lookup_mem' hs)
  simpa using z
def trHd (T : Tab) : ExceptHandler → Option MHd
  | .ExceptHandler (some (.Name x _)) none sts _ => if glB T.sc x = true ∧ okNm x = true then (match T.excs.lookup x, trSuite T trC sts with
    | some c, some (t, m) => some (.mk c none t m)
    | _, _ => none) else none
  | .ExceptHandler (some (.Name x _)) (some n) sts _ => if glB T.sc x = true ∧ okNm x = true ∧ localB T n = true ∧ okNm n = true then (match T.excs.lookup x, idx n T.N with
    | some c, some i => (match T.fds[c]? with
      | some f => (match trSuite T (trH n f) sts with
        | some (t, m) => if allSub T c f = true then some (.mk c (some i) t m) else none
        | none => none)
      | none => none)
    | _, _ => none) else none
  | _ => none
def trHds (T : Tab) : List ExceptHandler → Option (List MHd)
  | [] => some []
  | h :: r => match trHd T h, trHds T r with
    | some m, some l => some (m :: l)
    | _, _ => none
def okcT (T : Tab) (c' c : Nat) : Prop := T.subs.lookup (c, c') = some true
theorem localB_vis {T : Tab} {n : Str} (h : localB T n = true) : visB T.sc n = true := by
  unfold localB at h
  unfold visB
  split at h
  · rename_i e; rw [e]
  · cases h
theorem trHds_ok {X : Cx} {Z : Xc} {W : WX} {T : Tab} (k : SCx X Z W T) : ∀ {hds : List ExceptHandler} {l : List MHd}, trHds T hds = some l → HdsG X hds (l.map (hdR Z (okcT T)))
  | [], l, h => by cases h; exact .nil
  | hd :: r, l, h => by
    unfold trHds at h
    split at h
    · rename_i m l' h1 h2
      cases h
      have ih := trHds_ok k h2
      unfold trHd at h1
      split at h1
      · rename_i x np sts hp
        split at h1
        · rename_i hc
          split at h1
          · rename_i c t m' e1 e2
            cases h1
            have hs := fun (a : Addr) (oe : Obj) (pn : List (Addr × Obj)) => trSuite_ok (a := a) (oe := oe) (pn := pn) (te := TI Z WF m') k.toCtx e2 fun e he => trC_ok he
            cases sts with
            | nil => exact absurd rfl (hs 0 default []).2
            | cons b₀ suite =>
              refine .cons ⟨glB_ok k.sc hc.1, (okNm_ok hc.2).1, .inl (k.xcls x c e1)⟩ (fun a oe cls d pn hz hv => ?_) ih
              exact (hs a oe pn).1
          · cases h1
        · cases h1
      · rename_i x np n sts hp
        split at h1
        · rename_i hc
          split at h1
          · rename_i c i e1 e2
            split at h1
            · rename_i f ef
              split at h1
              · rename_i t m' e3
                split at h1
                · rename_i hall
                  cases h1
                  have key : ∀ (a : Addr) (oe : Obj) (cls : Value) (d : Option Addr) (pn : List (Addr × Obj)), Zc cls d oe → (∃ vs, oe.data = .fields vs) → PSs (X.suite a ((a, oe) :: pn)) sts (tSuA Z (okcT T c) i t m' a cls d) ∧ (∀ c2, okcT T c c2 → sts ≠ []) := fun a oe cls d pn hz hv => by
                    refine ⟨PSs.ex fun p hp => ?_, fun c2 h2 => ?_⟩
                    · obtain ⟨hcl, hok⟩ := hp
                      subst hcl
                      exact (trSuite_ok (te := TI (Zh Z p.1 p.2 a d i) WF m') k.toCtx e3 fun e he => trH_ok k ⟨localB_vis hc.2.2.1, hc.2.2.2, e2⟩ (allSub_ok hall hok) hz hv he).1
                    · intro z
                      subst z
                      cases e3
                  cases sts with
                  | nil => cases e3
                  | cons b₀ suite =>
                    exact .consAs ⟨glB_ok k.sc hc.1, (okNm_ok hc.2.1).1, .inl (k.xcls x c e1)⟩ (by rw [k.N]; exact idx_ok e2) (localB_ok k.toCtx hc.2.2.1) (fun a oe cls d pn hz hv => (key a oe cls d pn hz hv).1) ih
                · cases h1
              · cases h1
            · cases h1
          · cases h1
        · cases h1
      · cases h1
    · cases h
/-! ### one statement -/
def stepS (R : Rc) (rec : List Stmt → Option MSs) (T : Tab) : Stmt → Option MS
  | .Assign [tg] e _ => trAsg R T tg e
  | .Expr e _ => if noComp e = true then (R.e T e).map .ex else none
  | .Return (some e) _ => (R.e T e).map .ret
  | .If c a b _ => match R.t T c, rec a, rec b with
    | some m, some x, some y => some (.ifS m x y)
    | _, _, _ => none
  | .For tg iter body [] _ => match trI R T tg iter, trTg T tg, rec body with
    | some it, some t, some b => some (.forS t it b)
    | _, _, _ => none
  | .While c body [] _ => match R.t T c, rec body with
    | some m, some b => some (.whileS m b)
    | _, _ => none
  | .Pass _ => some .pass
  | .Break _ => some .brk
  | .Continue _ => some .cont
  | .Raise (some (.Call (.Name x _) [e] [] _)) none _ => if glB T.sc x = true ∧ okNm x = true ∧ noStar e = true then (match T.excs.lookup x, R.e T e with
    | some c, some m => some (.raise c m)
    | _, _ => none) else none
  | .Try body (h :: hds) [] [] _ => match rec body, trHds T (h :: hds) with
    | some b, some l => some (.try_ b l)
    | _, _ => none
  | _ => none
theorem stepS_ok {R : Rc} (hR : Snd R) {rec : List Stmt → Option MSs} {T : Tab} (hrec : ∀ {sts : List Stmt} {m : MSs} {X : Cx} {Z : Xc} {W : WX}, SCx X Z W T → rec sts = some m → PSs X sts (TSSs Z W m)) {st : Stmt} {m : MS} {X : Cx} {Z : Xc} {W : WX} (k : SCx X Z W T) (h : stepS R rec T st = some m) : PS X st (TSS Z W m) := by
  have c := k.toCtx
  unfold stepS at h
  split at h
  · exact trAsg_ok hR c h
  · split at h
    · rename_i hn
      obtain ⟨x, h1, rfl⟩ := mapO h
      exact snd_ex (hR.e c h1) (swaps_nc hn)
    · cases h
  · obtain ⟨x, h1, rfl⟩ := mapO h
    exact snd_ret (hR.e c h1)
  · split at h
    · rename_i m' x y h1 h2 h3
      cases h
      exact snd_if (hR.t c h1) (hrec k h2) (hrec k h3)
    · cases h
  · split at h
    · rename_i it t b h1 h2 h3
      cases h
      obtain ⟨i1, i2⟩ := trI_ok hR c h1
      exact snd_for k.po c.calm i1 (trTg_ok c h2) (hrec k h3) i2
    · cases h
  · split at h
    · rename_i m' b h1 h2
      cases h
      exact snd_while k.po (hR.t c h1) (hrec k h2)
    · cases h
  · cases h; exact snd_pass
  · cases h; exact snd_brk
  · cases h; exact snd_cont
  · split at h
    · rename_i hc
      split at h
      · rename_i ci m' h1 h2
        cases h
        exact snd_raise c.calm c.tk (k.raise _ _ h1 X.pn X.xe (glB_ok c.sc hc.1) (okNm_ok hc.2.1).1 (hR.e c h2) hc.2.2)
      · cases h
    · cases h
  · split at h
    · rename_i b l h1 h2
      cases h
      refine snd_try k.hst k.hf c.nd c.tk c.hx (okc := okcT T) (fun a b v e => k.xm a b v (by rw [← k.sub]; exact e)) (fun a b e => by
        show T.subs.lookup (a, b) = some true
        rw [← k.sub]; exact e) (fun W' pn xe tk po => hrec (k.tr tk po) h1) (trHds_ok k h2)
    · cases h
  · cases h
def trSs (R : Rc) : Nat → Tab → List Stmt → Option MSs
  | 0, _, _ => none
  | _ + 1, _, [] => some .nil
  | n + 1, T, s :: r => match stepS R (trSs R n T) T s, trSs R n T r with
    | some m, some ms => some (.cons m ms)
    | _, _ => none
theorem trSs_ok {R : Rc} (hR : Snd R) {T : Tab} : ∀ {n : Nat} {sts : List Stmt} {m : MSs} {X : Cx} {Z : Xc} {W : WX}, SCx X Z W T → trSs R n T sts = some m → PSs X sts (TSSs Z W m)
  | 0, _, _, _, _, _, _, h => by cases h
  | n + 1, [], m, _, _, _, _, h => by cases h; exact snd_nil
  | n + 1, s :: r, m, _, _, _, k, h => by
    unfold trSs at h
    split at h
    · rename_i m' ms h1 h2
      cases h
      exact snd_cons (stepS_ok hR (fun k h => trSs_ok hR k h) k h1) (trSs_ok hR k h2)
    · cases h
end Dg
end

section
set_option Elab.async false
set_option linter.all false
set_option maxRecDepth 100000
set_option maxHeartbeats 4000000
/-! DgU: defs, by levels. -/
namespace Dg
open PySem PySem.Spec L2
open PyProof.Rows hiding St

/-! ### behind a def: its own objects are let go -/
def Wd.cut (u : Wd) (n : Nat) : Wd := { u with al := u.al.take n, phi := fun a => u.phi a ∧ a ∉ u.al.drop n }
mutual
theorem Rep.trim {u : Wd} {n : Nat} : ∀ {v : V} {x : PV}, Rep u v x → below n x = true → Rep (u.cut n) v x
  | _, _, .non, _ => .non
  | _, _, .bl b, _ => .bl b
  | _, _, .int i, _ => .int i
  | _, _, .str x, _ => .str x
  | _, _, .ty n, _ => .ty n
  | _, _, .tup h r, hb => .tup (h.imp (fun q => ⟨q.1, fun z => q.2 z.1⟩) id) (Reps.trim r (by simpa [below] using hb))
  | _, _, .lst h r, hb => .lst ⟨h.1, fun z => h.2 z.1⟩ (Reps.trim r (by simpa [below] using hb))
  | _, _, .scr h r, hb => by simp [below] at hb
  | _, _, @Rep.ref _ a k h, hb => .ref (by
    have hk : k < n := by simpa [below] using hb
    show (u.al.take n)[k]? = some a
    rw [List.getElem?_take_of_lt hk]; exact h)
theorem Reps.trim {u : Wd} {n : Nat} : ∀ {vs : List V} {xs : List PV}, Reps u vs xs → belows n xs = true → Reps (u.cut n) vs xs
  | _, _, .nil, _ => .nil
  | _, _, .cons h r, hb => by
    unfold belows at hb
    rw [Bool.and_eq_true] at hb
    exact .cons (Rep.trim h hb.1) (Reps.trim r hb.2)
end
theorem RepK.trim {κ : Type} {u : Wd} {n : Nat} : ∀ {vs : List (κ × V)} {xs : List (κ × PV)}, RepK u vs xs → xs.all (fun p => Dg.below n p.2) = true → RepK (u.cut n) vs xs
  | _, _, .nil, _ => .nil
  | _, _, .cons h r, hb => by
    rw [List.all_cons, Bool.and_eq_true] at hb
    exact .cons (h.trim hb.1) (RepK.trim r hb.2)
theorem MRep.trim {u : Wd} {n : Nat} {a : Addr} {o : MO} (h : MRep u a o) (hb : belowM n o = true) : MRep (u.cut n) a o := by
  cases o with
  | lst xs => obtain ⟨vs, h1, h2⟩ := h; exact ⟨vs, h1, h2.trim hb⟩
  | dct xs => obtain ⟨vs, h1, h2⟩ := h; exact ⟨vs, h1, h2.trim hb⟩
  | dctT xs => obtain ⟨vs, h1, h2⟩ := h; exact ⟨vs, h1, h2.trim hb⟩
theorem cut_ok {w u : Wd} {S S' : Store} (hw : HRel w S) (e : Ext w u) (h : HRel u S') (hb : (S'.take S.length).all (belowM S.length) = true) : Ext w (u.cut S.length) ∧ HRel (u.cut S.length) (S'.take S.length) := by
  obtain ⟨b, hal, nb⟩ := e.al
  have ht : u.al.take S.length = w.al := by rw [hal, ← hw.len, List.take_left']; rfl
  have hd : u.al.drop S.length = b := by rw [hal, ← hw.len, List.drop_left']; rfl
  have hle : S.length ≤ S'.length := by rw [← hw.len, ← h.len, hal, List.length_append]; omega
  refine ⟨⟨e.k, ⟨[], by show u.al.take S.length = _; rw [ht, List.append_nil], fun a q => absurd q (by simp)⟩, fun a q => ⟨e.phi a q, fun z => ?_⟩, e.keep, fun a q n => e.new a q.1 n, e.hid⟩, ⟨?_, ?_, fun a q => ⟨?_, fun z => ?_⟩, fun a q => h.dom a q.1, fun n a m h1 h2 => ?_⟩⟩
  · rw [hd] at z; exact (nb a z).1 q
  · show (u.al.take S.length).length = _
    rw [ht, List.length_take, hw.len]; omega
  · show (u.al.take S.length).Nodup
    rw [ht]; exact hw.nd
  · have q' : a ∈ u.al.take S.length := q
    exact h.phi a (List.mem_of_mem_take q')
  · have q' : a ∈ u.al.take S.length := q
    rw [ht] at q'
    rw [hd] at z
    exact (nb a z).1 (hw.phi a q')
  · have h1' : (u.al.take S.length)[n]? = some a := h1
    have hn : n < S.length := by
      have z := (List.getElem?_eq_some_iff.mp h1').1
      rw [List.length_take] at z; omega
    rw [List.getElem?_take_of_lt hn] at h1'
    have h2' := h2
    rw [List.getElem?_take_of_lt hn] at h2'
    exact (h.objs n a m h1' h2').trim (List.all_eq_true.mp hb m (List.mem_of_getElem? h2))
mutual
theorem Rep.frz {u : Wd} {S' : Store} (h : HRel u S') {n : Nat} {g : Nat → Option PV} (hg : ∀ (k : Nat) (a : Addr) (y : PV), ¬ k < n → u.al[k]? = some a → g k = some y → Rep (u.cut n) (.ref a) y) : ∀ {v : V} {x y : PV}, Rep u v x → frzG n g x = some y → Rep (u.cut n) v y
  | _, _, y, .non, e => by cases e; exact .non
  | _, _, y, .bl b, e => by cases e; exact .bl b
  | _, _, y, .int i, e => by cases e; exact .int i
  | _, _, y, .str x, e => by cases e; exact .str x
  | _, _, y, .ty n, e => by cases e; exact .ty n
  | _, _, y, .tup q r, e => by
    unfold frzG at e
    obtain ⟨ys, h1, rfl⟩ := mapO e
    exact .tup (q.imp (fun q => ⟨q.1, fun z => q.2 z.1⟩) id) (Reps.frz h hg r h1)
  | _, _, y, .lst q r, e => by
    unfold frzG at e
    obtain ⟨ys, h1, rfl⟩ := mapO e
    exact .lst ⟨q.1, fun z => q.2 z.1⟩ (Reps.frz h hg r h1)
  | _, _, y, .scr _ _, e => by cases e
  | _, _, y, @Rep.ref _ a k q, e => by
    unfold frzG at e
    split at e
    · rename_i hk
      cases e
      refine .ref ?_
      show (u.al.take n)[k]? = some a
      rw [List.getElem?_take_of_lt hk]; exact q
    · rename_i hk
      exact hg k a y hk q e
theorem Reps.frz {u : Wd} {S' : Store} (h : HRel u S') {n : Nat} {g : Nat → Option PV} (hg : ∀ (k : Nat) (a : Addr) (y : PV), ¬ k < n → u.al[k]? = some a → g k = some y → Rep (u.cut n) (.ref a) y) : ∀ {vs : List V} {xs ys : List PV}, Reps u vs xs → frzGs n g xs = some ys → Reps (u.cut n) vs ys
  | _, _, ys, .nil, e => by cases e; exact .nil
  | _, _, ys, .cons q r, e => by
    unfold frzGs at e
    split at e
    · rename_i y ys' h1 h2
      cases e
      exact .cons (Rep.frz h hg q h1) (Reps.frz h hg r h2)
    · cases e
end
theorem gz_ok {u : Wd} {S' : Store} (h : HRel u S') {n : Nat} : ∀ (d k : Nat) (a : Addr) (y : PV), ¬ k < n → u.al[k]? = some a → gz S' n d k = some y → Rep (u.cut n) (.ref a) y
  | 0, _, _, _, _, _, e => by cases e
  | d + 1, k, a, y, hk, ha, e => by
    unfold gz at e
    split at e
    · rename_i xs hx
      obtain ⟨ys, h1, rfl⟩ := mapO e
      obtain ⟨vs, m1, m2⟩ := h.objs k a _ ha hx
      refine .lst ⟨.inl m1, fun z => z.2 ?_⟩ (m2.frz h (gz_ok h d) h1)
      refine List.mem_of_getElem? (i := k - n) ?_
      rw [List.getElem?_drop, show n + (k - n) = k by omega]; exact ha
    · cases e
theorem frz_ok {u : Wd} {S' : Store} (h : HRel u S') {n d : Nat} {v : V} {x y : PV} (r : Rep u v x) (e : frz S' n d x = some y) : Rep (u.cut n) v y := r.frz h (gz_ok h d) e
/-! ### a def's body -/
theorem start_ok {w : Wd} {N : List Str} : ∀ {vs : List V} {ps : List PV}, Reps w vs ps → ERel w (L2.start N vs) (startP N.length ps) := by
  intro vs ps r
  unfold L2.start startP
  rw [r.length]
  refine ⟨by simp [r.length], fun i x hi => ?_⟩
  have hl := r.length
  by_cases h : i < ps.length
  · rw [List.getElem?_append_left (by simpa using h), List.getElem?_map] at hi
    rw [List.getElem?_append_left (by simpa [hl] using h), List.getElem?_map]
    obtain ⟨y, hy, e⟩ := Option.map_eq_some_iff.mp hi
    cases e
    obtain ⟨v, h1, h2⟩ := r.get hy
    exact ⟨v, by rw [h1]; rfl, h2⟩
  · rw [List.getElem?_append_right (by simpa using h)] at hi
    have z := List.mem_of_getElem? hi
    rw [List.mem_replicate] at z
    cases z.2
theorem def_read {Z : Xc} {raw : Bool} {b : MSs} {N : List Str} {n : Nat} {vs : List V} {H : Hp} {Q : VK} {E : XK} (hx : Z.C.hx = none) (h : spI Z (evalD Z.C raw N.length b) n vs H Q E) :
    TSSs Z (fun cls d _ H => E cls d H) b { nx := fun _ H' => Q .non H', rt := Q } (L2.start N vs) H := by
  obtain ⟨w, S, pvs, rfl, hK, hr, rs, hl, g⟩ := h
  refine ⟨w, startP N.length pvs, S, ⟨rfl, hK, start_ok rs, hr, by unfold HX; rw [hx]; trivial⟩, ?_⟩
  unfold evalD at g
  cases q : evalSs Z.C b (startP N.length pvs) S with
  | bad => rw [q] at g; exact g
  | brk r2 S2 => rw [q] at g; exact g.elim
  | ct r2 S2 => rw [q] at g; exact g.elim
  | nx r2 S2 =>
    rw [q] at g
    dsimp only at g
    intro u σ e1 a1
    cases raw with
    | true => rw [if_pos rfl] at g; exact g u _ e1 a1.h .non
    | false =>
      rw [if_neg Bool.false_ne_true] at g
      split at g
      · rename_i v' ev
        split at g
        · rename_i hb
          obtain ⟨e9, h9⟩ := cut_ok hr e1 a1.h hb
          exact g (u.cut S.length) _ e9 h9 (frz_ok a1.h .non ev)
        · exact g.elim
      · exact g.elim
  | ret v S2 =>
    rw [q] at g
    dsimp only at g
    intro u x e1 h1 r1
    cases raw with
    | true => rw [if_pos rfl] at g; exact g u x e1 h1 r1
    | false =>
      rw [if_neg Bool.false_ne_true] at g
      split at g
      · rename_i v' ev
        split at g
        · rename_i hb
          obtain ⟨e9, h9⟩ := cut_ok hr e1 h1 hb
          exact g (u.cut S.length) _ e9 h9 (frz_ok h1 r1 ev)
        · exact g.elim
      · exact g.elim
  | exc c v r2 S2 =>
    rw [q] at g
    dsimp only at g
    intro u σ d va e1 a1 hd rv np
    cases raw with
    | true => rw [if_pos rfl] at g; exact g u d va e1 a1.h hd rv np
    | false =>
      rw [if_neg Bool.false_ne_true] at g
      split at g
      · rename_i v' ev
        split at g
        · rename_i hb
          obtain ⟨e9, h9⟩ := cut_ok hr e1 a1.h hb
          exact g (u.cut S.length) d va e9 h9 hd (frz_ok a1.h rv ev) fun z => np z.1
        · exact g.elim
      · exact g.elim
/-! ### programs -/
/-- a def as data -/
structure DD where
  x : Str
  qual : Str
  params : Arguments
  body : List Stmt
  scope : Scope
  dvs : List V
  N : List Str
  ps : List Str
  raw : Bool
  mu : List Str
  m : MSs
/-- what is fixed of a program: the tables without names and scope; the defs by index; their addresses -/
structure PR where
  T : Tab
  defs : List DD
  fa : Nat → Addr
  fd : Nat → FuncData
  cl : Nat → Addr
def PR.tab (R : PR) (d : DD) : Tab := { R.T with N := d.N, sc := d.scope, fn := fun _ => true, mu := d.mu }
/-- what the def of index f computes, at level k -/
noncomputable def Gp (T : Tab) (defs : List DD) : Nat → Nat → List PV → Store → Res PV
  | 0, _, _, _ => .bad
  | k + 1, f, vs, S => match defs[f]? with
    | some d => evalD { G := Gp T defs k, sub := fun c c' => T.subs.lookup (c, c') } d.raw d.N.length d.m vs S
    | none => .bad
noncomputable abbrev PR.G (R : PR) : Nat → Nat → List PV → Store → Res PV := Gp R.T R.defs
noncomputable def PR.Z (R : PR) (K : PySem.W.Frag) (k : Nat) : Xc := { K := K, C := { G := R.G k, sub := fun c c' => R.T.subs.lookup (c, c') }, cl := R.cl, fd := fun c => (R.T.fds[c]?).getD "" }
/-- what must be shown of a program -/
structure PFacts (P : Program) (w : World) (K : PySem.W.Frag) (mg : Str → Option Value) (base : Heap) (R : PR) : Prop where
  defs : ∀ f d, R.defs[f]? = some d → FunD K d.x d.qual d.params d.body d.scope d.dvs [] (R.fa f) (R.fd f) ∧ FnScope d.N d.ps d.scope ∧ trSs (rc 40) 120 (R.tab d) d.body = some d.m
  calls : ∀ q ∈ R.T.calls, ∃ d, R.defs[q.2.2.2.1]? = some d ∧ mg q.1 = some (.ref (R.fa q.2.2.2.1)) ∧ CallB K (R.fd q.2.2.2.1) d.ps q.2.1 q.2.2.1 q.2.2.2.2
  consts : ∀ x p, R.T.consts.lookup x = some p → ∃ u v, mg x = some u ∧ RelV v u ∧ ∀ w : Wd, w.K = K → Rep w v p
  bl : ∀ x ∈ R.T.bl, mg x = none
  raise : ∀ x c, R.T.excs.lookup x = some c → ∀ (k : Nat) (X : Cx), X.prog = P → X.w = w → X.K = K → X.mg = mg → X.base = base → Room 1 X.A → X.calm = true → Raise1 X (R.Z K k) x c
  xm : ∀ c c' b, R.T.subs.lookup (c, c') = some b → PySem.W.exmOne K (.ref (R.cl c)) (.ref (R.cl c')) = some b
  xcls : ∀ x c, R.T.excs.lookup x = some c → mg x = some (.ref (R.cl c))
  xf : ∀ c f, R.T.fds[c]? = some f → XfC K (R.cl c) ∧ PySem.W.findIn K (.ref (R.cl c)) f = some none
theorem levels {P : Program} {w : World} {K : PySem.W.Frag} {mg : Str → Option Value} {base : Heap} {R : PR} (F : PFacts P w K mg base R) : ∀ (k f : Nat) (d : DD), R.defs[f]? = some d →
    FnOk P w K mg base (L2.CX P w) (k + 1) (R.fa f) (R.fd f) d.ps (spI (R.Z K k) (R.G k f) d.ps.length)
  | 0, f, d, hd => ⟨fun vs H Q E ⟨w', S, pvs, h1, h2, h3, h4, h5, g⟩ => g.elim, fun A outer s H args us vs Q E hr he hb hv ⟨w', S, pvs, h1, h2, h3, h4, h5, g⟩ => g.elim⟩
  | k + 1, f, d, hd => by
    obtain ⟨f1, f2, f3⟩ := F.defs f d hd
    have ih := levels F k
    have key : FnOk P w K mg base (L2.CX P w) (k + 1 + 1) (R.fa f) (R.fd f) d.ps (spI (R.Z K k) (evalD (R.Z K k).C d.raw d.N.length d.m) d.ps.length) := by
      refine f1.ok f2 (fun vs H Q E ⟨w', S, pvs, h1, h2, h3, h4, h5, g⟩ => by rw [h4.length, h5]) fun cdv A outer s H vs Q E hroom hsp => ?_
      refine ⟨_, trSs_ok (rc_ok 40) (T := R.tab d) (Z := R.Z K k) (W := fun cls d _ H => E cls d H) ?_ f3, def_read rfl hsp⟩
      have hun := hroom.un
      exact {
        K := rfl
        hx := rfl
        calm := rfl
        nd := f2.nd
        N := rfl
        sc := rfl
        fn := rfl
        un := by
          show (A.deeper _).units + 65 < cLine
          omega
        calls := fun q hq => by
          obtain ⟨d', h1, h2, h3⟩ := F.calls q hq
          obtain ⟨g1, g2, g3⟩ := F.defs _ d' h1
          exact ⟨k + 1, _, _, _, ih _ d' h1, hroom, h2, g1.kp, h3⟩
        consts := F.consts
        bl := F.bl
        tk := takes_of rfl rfl rfl rfl
        po := passes_of rfl
        hst := rfl
        hf := rfl
        raise := fun x c h pn xe => F.raise x c h k _ rfl rfl rfl rfl rfl (hroom.mono (by omega)) rfl
        sub := fun _ _ => rfl
        xm := F.xm
        xcls := F.xcls
        xf := fun c f h => by
          obtain ⟨a1, a2⟩ := F.xf c f h
          exact ⟨by show (R.T.fds[c]?).getD "" = f; rw [show R.T.fds[c]? = some f from h]; rfl, a1, a2⟩ }
    refine key.imp fun vs H Q E ⟨w', S, pvs, h1, h2, h3, h4, h5, g⟩ => ⟨w', S, pvs, h1, h2, h3, h4, h5, ?_⟩
    have e : R.G (k + 1) f pvs S = evalD (R.Z K k).C d.raw d.N.length d.m pvs S := by
      show (match R.defs[f]? with
        | some d => evalD { G := R.G k, sub := fun c c' => R.T.subs.lookup (c, c') } d.raw d.N.length d.m pvs S
        | none => .bad) = _
      rw [hd]; rfl
    rw [e] at g
    exact g
end Dg
end

section
set_option Elab.async false
set_option linter.all false
set_option maxRecDepth 100000
set_option maxHeartbeats 4000000
/-! DgX: an own exception whose __init__ says super().__init__('text') and stores its one argument in a field. -/
namespace Dg
open PySem PySem.Spec L2
open PyProof.Rows hiding St

abbrev supBody (msg par sel f : Str) (j : Nat) (p0 p1 p2 p3 p4 p5 p6 p7 p8 p9 : Pos) : List Stmt :=
  [.Expr (.Call (.Attribute (.Call (.Name "super" p0) [] [] p1) "__init__" p2) [.Constant (.str msg) j p3] [] p4) p5, .Assign [.Attribute (.Name sel p6) f p7] (.Name par p8) p9]
/-- what the written part says of such a class -/
structure SupC (P : Program) (K : PySem.W.Frag) (C : Addr) (f : Str) : Prop where
  base : ∃ (B newId i : String) (bmB : List Value), PySem.W.KxsFacts B i ∧ ExcBaseFacts B newId i bmB ∧ StoreFacts B bmB "object.__setattr__" "object" ∧ PySem.W.excInitIn K C bmB newId = true ∧ PySem.W.excOver K C bmB = true ∧
    PySem.W.subIn K (.ref C) (.type B) = some true ∧ PySem.W.ks_superIn K C C "__init__" = some (some (.builtin i))
  tk : PySem.W.takerIn K C f = some none
  hdC : PySem.W.hasDictIn K C = true
  sa : PySem.W.findIn K (.ref C) "__setattr__" = some (some (.builtin "object.__setattr__"))
  exC : PySem.W.subIn K (.ref C) (.type "BaseException") = some true
  tyC : PySem.W.typeIn K (.ref C) = some (.type "type")
  kC : PySem.W.keepIn K (.ref C) = true
  thp : PySem.W.nsIn K cStatics "thirdparty.any" = some none
  self : PySem.W.mroIn K C (.ref C) = some true
  top : (P.main.scope.names.lookup ("super" : Str)).isSome = false
  init : ∃ (fI cda cc : Addr) (name qual : Str) (params : Arguments) (msg par sel : Str) (j : Nat) (p0 p1 p2 p3 p4 p5 p6 p7 p8 p9 : Pos) (scope : Scope) (dV kV doc pm ct : Value) (an : Option Addr) (oc : Value) (od : Option Addr) (osl : Array (Option Value))
      (ccl cl : Value) (cdd cld : Option Addr) (ccs csl : Array (Option Value)) (vs : Array Value) (file : Str) (tf : Tok) (ar : Arg),
    PySem.W.findIn K (.ref C) "__init__" = some (some (.ref fI)) ∧ PySem.W.typeIn K (.ref fI) = some (.type "function") ∧
    K.lookup fI = some ⟨oc, od, .func (PySem.W.ksFn name qual params (supBody msg par sel f j p0 p1 p2 p3 p4 p5 p6 p7 p8 p9) scope dV kV doc pm an (.ref cda) ct cc), osl⟩ ∧ PySem.W.codeIn K (.ref cda) qual = true ∧
    K.lookup cda = some ⟨ccl, cdd, .fields vs, ccs⟩ ∧ vs[2]? = some (.str file tf) ∧ ((P.main.file : Str) == file) = true ∧ K.lookup cc = some ⟨cl, cld, .cell (some (.ref C)), csl⟩ ∧
    (params.posonlyargs ++ params.args).head? = some ar ∧ ar.arg = sel ∧ sel ≠ par ∧
    (∀ a b : Value, bindArgs (PySem.W.ksFn name qual params (supBody msg par sel f j p0 p1 p2 p3 p4 p5 p6 p7 p8 p9) scope dV kV doc pm an (.ref cda) ct cc) ⟨[a, b], []⟩ = pure [(sel, a), (par, b)]) ∧
    scope.kind = .function ∧ scope.isCoroutine = false ∧ scope.isGenerator = false ∧ (∀ y ∈ scope.names, y.2 ≠ .cell) ∧ scope.names.lookup ("super" : Str) = some .globalImplicit ∧ scope.names.lookup ("__class__" : Str) = some .free ∧
    scope.names.lookup sel = some .local ∧ scope.names.lookup par = some .local ∧ (sel == ("__debug__" : Str)) = false ∧ (par == ("__debug__" : Str)) = false ∧ (p2.endLine == p4.line) = true
section
variable {prog : Program} {w : World} {A : Around} {E : Value → Shared → Prop} {R : Result → Shared → Prop} {hp : Heap} {g : Array GenState} {d : Drawn} {t : Nat} {os : OsState}
/-- the bound built-in __init__ called: the args are laid anew -/
theorem call_mw {B i newId : String} {bmB : List Value} {K : PySem.W.Frag} {C u e t0 : Addr} {rest : List Value} {Q : Value → Shared → Prop} (FB : ExcBaseFacts B newId i bmB) (X : K.In hp) (q : PySem.W.excInitIn K C bmB newId = true) (hu : hp.get? u = some (PySem.W.kxs_mw i e))
    (he : hp.get? e = some (PySem.W.excObj C t0 none .none)) (hz : rest.length ≤ sizeLine) (hq : ∀ h' t1, (∀ b o, b ≠ e → hp.get? b = some o → h'.get? b = some o) → h'.get? e = some (PySem.W.excObj C t1 none .none) → Q .none ⟨h', g, d, t, os⟩) :
    wpAny (model prog w) A (call (.ref u) rest) Q E ⟨hp, g, d, t, os⟩ := by
  obtain ⟨nm, N', qn, bs, bm, hdct, sn, sub, ab, col, dd, k0, k1, k2, k3, k5, hC, hT⟩ := PySem.W.excInit_of X q
  refine wpAny_call (codeAny_of_tree ?_)
  show wpAny _ A.in1 (callAny (.ref u) ⟨rest, []⟩) _ _ _
  simp only [callAny]
  refine wpAny_bind (wpAny_load hu ?_)
  simp only [PySem.W.kxs_mw, show (Value.type "method-wrapper" == Value.type "method" || Value.type "method-wrapper" == Value.type "builtin_function_or_method" || Value.type "method-wrapper" == Value.type "method-wrapper") = true by decide, if_true]
  refine PySem.W.KFB.if_so (by decide) ?_
  refine wpAny_bind (PySem.W.check_bound_init FB.toExcCallFacts hC he rfl ?_)
  refine wpAny_bind (wpAny_pure (wpAny_pure ?_))
  refine ⟨plainId_quiet FB.init.plain _, codeAny_builtin FB.initEntry ?_⟩
  exact PySem.W.exc_init_tree (cls := .ref C) (t0 := t0) (dv := none) (c2 := .none) (c3 := .none) (b4 := .bool false) he hz fun h' k1 k2 _ => hq h' _ k1 k2
/-- the field's store, the dict made -/
theorem store_f {B : String} {bmB : List Value} {K : PySem.W.Frag} {C e t1 : Addr} {f : Str} {u : Value} {Q : Unit → Shared → Prop} (SF : StoreFacts B bmB "object.__setattr__" "object") (X : K.In hp) (he : hp.get? e = some (PySem.W.excObj C t1 none .none)) (sa : PySem.W.findIn K (.ref C) "__setattr__" = some (some (.builtin "object.__setattr__")))
    (ov : PySem.W.excOver K C bmB = true) (tk : PySem.W.takerIn K C f = some none) (hd : PySem.W.hasDictIn K C = true)
    (hq : ∀ h' tk' dx, (∀ b o, b ≠ e → hp.get? b = some o → h'.get? b = some o) → hp.objs.size ≤ dx → dx ≠ e → h'.get? e = some (PySem.W.excObj C t1 (some dx) .none) → h'.Ns1 dx (fun y => if y = f then some u else none) → Q () ⟨h', g, d, tk', os⟩) :
    wpAny (model prog w) A (setAttr (.ref e) f u) Q E ⟨hp, g, d, t, os⟩ := by
  have I : PySem.W.InstAt hp e (PySem.W.excObj C t1 none .none) C none := ⟨he, rfl, rfl, trivial⟩
  refine PySem.W.set_plain (od := none) X I sa (PySem.W.osa_openX (s := ⟨hp, g, d, t + 1, os⟩) SF X I ov tk fun b => ?_)
  obtain ⟨cd, hc, hdd⟩ := PySem.W.any_some hd
  have hcls : PySem.W.Looks (model prog w) hp (classData C) cd := PySem.W.looks_clsIn X hc
  have hxs : e ≠ hp.objs.size := Nat.ne_of_lt (Heap.lt_size he)
  show wpAny _ _ (Builtin.ObjectAttr.storeInOwnDict (.ref e) (.ref C) (.str f t) f u b) _ _ _
  obtain ⟨nm, bs, mro, ns, qn, hd, sn, sb, ab, col, del⟩ := cd
  dsimp only at hdd
  subst hdd
  unfold Builtin.ObjectAttr.storeInOwnDict Builtin.ObjectAttr.ownDictForStores
  repeat (first | with_reducible refine PySem.HandSPX.store_in_new ?_ ?_ | with_reducible refine wpAny_loadPart_at he ?_ | with_reducible refine hcls.at ?_ | wp_step)
  · exact ⟨_, #[], _, (Heap.get?_update_ne _ _ _ _ hxs.symm).trans (Heap.get?_push_at rfl rfl), rfl, fun e he => absurd he (by simp), fun _ => rfl⟩
  · intro h' tk' hn' hs
    have hx₁ : (hp.push { cls := .type "dict", data := .dict #[] }).get? e = some (PySem.W.excObj C t1 none .none) := Heap.get?_push_of_some _ he
    refine hq h' tk' hp.objs.size (fun b o hb ho => ?_) (Nat.le_refl _) hxs.symm ?_ hn'
    · exact (hs.2 b (Nat.ne_of_lt (Heap.lt_size ho))).trans ((Heap.get?_update_ne _ _ _ _ hb).trans (Heap.get?_push_of_some _ ho))
    · exact (hs.2 e hxs).trans (Heap.get?_update_self _ hx₁ rfl)
theorem mcall_eq {o : Expr} {name msg : Str} {j : Nat} {apos pos p3 : Pos} {env : Env} (hl : (apos.endLine == pos.line) = true) : eval (.Call (.Attribute o name apos) [.Constant (.str msg) j p3] [] pos) env = (do
      let ov ← attributeBase o name env (eval o env)
      standAt apos.atName
      let (f, first) ← holding [ov] (getMethod ov name (do return (← importBound o env).getD true))
      callWith pos f first (backTo pos (starEach [.Constant (.str msg) j p3] env)) []) := by
  have h1 : ∀ (ov : Value) (args : List (Bool × Sem Value)), methodCallForm 1 args [] = true → methodCall o name apos pos env ov 1 args [] = (do
      let (f, first) ← holding [ov] (getMethod ov name (do return (← importBound o env).getD true))
      callWith pos f first args []) := fun ov args hf => by
    unfold methodCall calleeOf methodCallPos
    rw [hf, hl]
    simp
  show (do
    let ov ← attributeBase o name env (eval o env)
    standAt apos.atName
    methodCall o name apos pos env ov 1 (backTo pos (starEach [.Constant (.str msg) j p3] env)) []) = _
  simp only [h1 _ (backTo pos (starEach [.Constant (.str msg) j p3] env)) rfl]
theorem boot_super : bootBuiltins ("super" : Str) = some (.type "super") := by decide +kernel
theorem ld_loc {M : Model} {env : Env} {m : Str → Option Value} {s : Shared} {x : Str} {pos : Pos} {v : Value} {Q : Value → Shared → Prop} (hk : env.scope.kind = .function) (hl : env.kindOf x = some .local) (hn : s.heap.Ns env.locals m) (hv : m x = some v) (h : Q v s) (hd : (x == ("__debug__" : Str)) = false) :
    wpAny M A (eval (.Name x pos) env) Q E s := wpAny_Name (wpAny_loadName_local hk hl hn hv h) hd
/-- __init__ walked -/
theorem sup_run {K : PySem.W.Frag} {mg : Str → Option Value} {base : Heap} {C e t0 fI : Addr} {f : Str} {u : Value} (T : SupC prog K C f) (M : Mod K mg base) (hsup : mg ("super" : Str) = none) (kb : ∀ b o, base.get? b = some o → hp.get? b = some o) (hbe : base.get? e = none) (hroom : A.depth < recursionLimit)
    (hfI : PySem.W.findIn K (.ref C) "__init__" = some (some (.ref fI))) (he : hp.get? e = some (PySem.W.excObj C t0 none .none))
    (hq : ∀ h' tk' t1 dx, (∀ b o, b ≠ e → hp.get? b = some o → h'.get? b = some o) → hp.objs.size ≤ dx → dx ≠ e → h'.get? e = some (PySem.W.excObj C t1 (some dx) .none) → h'.Ns1 dx (fun y => if y = f then some u else none) → R (.ok (.ret .none)) ⟨h', g, d, tk', os⟩) :
    codeAny (model prog w) A (.call (.ref fI) ⟨[.ref e, u], []⟩) R ⟨hp, g, d, t, os⟩ := by
  have X : K.In hp := M.kin.keeps kb
  obtain ⟨B, newId, i, bmB, KF, FB, SF, q1, q2, q3, q4⟩ := T.base
  obtain ⟨fI', cda, cc, name, qual, params, msg, par, sel, j, p0, p1, p2, p3, p4, p5, p6, p7, p8, p9, scope, dV, kV, doc, pm, ct, an, oc, od, osl, ccl, cl, cdd, cld, ccs, csl, vs, file, tf, ar, i1, i2, i3, i4, i5, i6, i7, i8, i9, i10, i11, i12, i13, i14, i15, i16, i17, i18, i19, i20, i21, i22, i23⟩ := T.init
  rw [hfI] at i1
  cases i1
  obtain ⟨cd, hcd, hhd⟩ := PySem.W.any_some T.hdC
  have hel : e < hp.objs.size := Heap.lt_size he
  refine ks_codeAny_call_defAt (fd := PySem.W.ksFn name qual params (supBody msg par sel f j p0 p1 p2 p3 p4 p5 p6 p7 p8 p9) scope dV kV doc pm an (.ref cda) ct cc) (body := supBody msg par sel f j p0 p1 p2 p3 p4 p5 p6 p7 p8 p9) (binds := [(sel, .ref e), (par, u)]) hroom (X _ _ i3) rfl (M.nolimit.keeps kb) (PySem.W.codeRec_of X i4) rfl (BindsTo.of_eq (i12 _ _)) i16
    (fun y hy => ?_) (fun h₁ hns hk₁ => ?_) i14 i15 i13
  · rcases List.mem_cons.mp hy with z | hy
    · rw [z]; exact i19
    · have z := List.mem_singleton.mp hy
      rw [z]; exact i20
  have X1 : K.In h₁ := X.keeps hk₁
  have he1 := hk₁ _ _ he
  have ms : ([(sel, Value.ref e), (par, u)].reverse.lookup sel) = some (.ref e) := by
    show List.lookup sel [(par, u), (sel, Value.ref e)] = _
    have z : (sel == par) = false := by simpa using i11
    simp [List.lookup, z]
  have mp : ([(sel, Value.ref e), (par, u)].reverse.lookup par) = some u := by
    show List.lookup par [(par, u), (sel, Value.ref e)] = _
    simp [List.lookup]
  have hkk : (callEnv (PySem.W.ksFn name qual params (supBody msg par sel f j p0 p1 p2 p3 p4 p5 p6 p7 p8 p9) scope dV kV doc pm an (.ref cda) ct cc) hp.objs.size fI).scope.kind = .function := i13
  refine ks_wpAt_execs_cons (ks_wpAt_Expr_any (ks_wpAt_MethodCall (pl := (do return (← importBound (.Call (.Name "super" p0) [] [] p1) (callEnv (PySem.W.ksFn name qual params (supBody msg par sel f j p0 p1 p2 p3 p4 p5 p6 p7 p8 p9) scope dV kV doc pm an (.ref cda) ct cc) hp.objs.size fI)).getD true)) ?_ (mcall_eq i23)) (by simp [interactive, hkk]) rfl)
  obtain ⟨mb, hb1, hb2⟩ := M.blt
  have kb1 : ∀ b o, base.get? b = some o → h₁.get? b = some o := fun b o q => hk₁ b o (kb b o q)
  refine ks_wpAt_super_base i17 i18 (by decide) rfl (X1 _ _ i3) rfl i9 rfl (X1 _ _ i5) rfl i6 i7 T.top ?_
  refine PySem.W.ks_loadName_global i13 i17 (Calls.loadGlobal_builtin (M.glob.keeps kb1) hsup (hb1.keeps kb1) ((hb2 _ (by decide)).trans boot_super) ⟨rfl, ?_⟩)
  refine wpAny_loadName_free i13 i18 rfl ⟨_, X1 _ _ i8, rfl⟩ ?_
  refine wpAny_loadName_local i13 (by rw [i10]; exact i19) hns (by rw [i10]; exact ms) ?_
  obtain ⟨oD, hD1, hD2⟩ : ∃ oD, h₁.get? C = some oD ∧ oD.data = .cls cd := by
    unfold PySem.W.clsIn at hcd
    split at hcd
    · rename_i c0 d0 cd0 sl0 ho0
      cases hcd
      exact ⟨_, X1 _ _ ho0, rfl⟩
    · cases hcd
  refine ks_wpAny_isType_cls hD1 hD2 ⟨rfl, ?_⟩
  refine ks_wpAny_call_super hD1 hD2 he1 rfl (fun c z => by cases z) (PySem.W.looks_mroIn X1 T.self) (fun h2 e2 k2 => ?_)
  have X2 : K.In h2 := X1.keeps k2
  have he2 := k2 _ _ he1
  have hxC : e ≠ C := fun z => by
    subst z
    rw [hD1] at he1
    have z2 := Option.some.inj he1
    rw [z2] at hD2
    cases hD2
  unfold PySem.W.ks_superIn at q4
  rw [hcd] at q4
  have I2 : PySem.W.InstAt h2 e (PySem.W.excObj C t0 none .none) C none := ⟨he2, rfl, rfl, trivial⟩
  refine PySem.W.kxs_getMethod KF e2 (PySem.W.looks_opaque X2 T.thp) (l₀ := cd.mro) (fun A Q E s k q => wpAny_bind ((PySem.W.looks_clsIn X2 hcd) A _ E s k (wpAny_pure q))) rfl X2 q4 (I2.type.andThen (PySem.W.looks_subIn X2 q3)) hxC (by decide) ?_
  show wpAny _ _ (callWith p4 (.ref h2.objs.size) [] (backTo p4 (starEach [.Constant (.str msg) j p3] _)) []) _ _ _
  refine PySem.W.kxs_callWith (i := i) (x := e) rfl (Calls.evalArgs_plain (spliced_more (Calls.Constant_str (spliced_none ?_)) rfl))
  have hu3 : (h2.push (PySem.W.kxs_mw i e)).get? h2.objs.size = some (PySem.W.kxs_mw i e) := Heap.get?_push_size _ rfl
  refine ⟨hu3, ?_⟩
  have k3 : ∀ b o, h2.get? b = some o → (h2.push (PySem.W.kxs_mw i e)).get? b = some o := fun b o q => Heap.get?_push_of_some _ q
  refine call_mw FB (X2.keeps k3) q1 hu3 (k3 _ _ he2) (by show 1 ≤ sizeLine; decide) fun h4 t1 k4 he4 => ?_
  have kall : ∀ b o, b ≠ e → hp.get? b = some o → h4.get? b = some o := fun b o hb q => k4 b o hb (k3 _ _ (k2 _ _ (hk₁ _ _ q)))
  have Ce : C ≠ e := fun z => hxC z.symm
  have X4 : K.In h4 := M.kin.keeps fun b o q => kall b o (fun z => by rw [z, hbe] at q; cases q) (kb b o q)
  have hL : hp.objs.size ≠ e := Nat.ne_of_gt hel
  have hns4 : h4.Ns hp.objs.size (fun x => [(sel, Value.ref e), (par, u)].reverse.lookup x) := hns.at fun o q => k4 _ _ hL (k3 _ _ (k2 _ _ q))
  refine ks_wpAt_execs_cons (wpAt_of_wpAny (plainObj_wpAny_Assign_Attribute (ld_loc hkk i20 hns4 mp (ld_loc hkk i19 hns4 ms ?_ i21) i22)))
  refine store_f SF X4 he4 T.sa q2 T.tk T.hdC fun h5 tk5 dx k5 dxn dne he5 hn5 => ?_
  have hsz : hp.objs.size ≤ h4.objs.size := by
    obtain ⟨o, es, ep, ho, _⟩ := hns4
    exact Nat.le_of_lt (Heap.lt_size ho)
  refine wpAt_of_wpAny (wpAny_execs_nil ?_)
  exact hq h5 tk5 t1 dx (fun b o hb q => k5 b o hb (kall b o hb q)) (Nat.le_trans hsz dxn) dne he5 hn5
end
end Dg
end

section
set_option Elab.async false
set_option linter.all false
set_option maxRecDepth 100000
set_option maxHeartbeats 4000000
/-! DgY: X(e), made, for raise. -/
namespace Dg
open PySem PySem.Spec L2
open PyProof.Rows hiding St

theorem raise_sup {X : Cx} {Z : Xc} {x : Str} {c : Nat} (T : SupC X.prog X.K (Z.cl c) (Z.fd c)) (hm : X.mg x = some (.ref (Z.cl c))) (hsup : X.mg ("super" : Str) = none) (hr : Room 1 X.A) : Raise1 X Z x c := by
  intro e te p pos hg hdb he hns
  intro pins s σ H Q I h
  obtain ⟨B, newId, i, bmB, KF, FB, SF, q1, q2, q3, q4⟩ := T.base
  obtain ⟨fI, hfI, tI⟩ : ∃ fI, PySem.W.findIn X.K (.ref (Z.cl c)) "__init__" = some (some (.ref fI)) ∧ PySem.W.typeIn X.K (.ref fI) = some (.type "function") := by
    obtain ⟨fI', cda, cc, name, qual, params, msg, par, sel, j, p0, p1, p2, p3, p4, p5, p6, p7, p8, p9, scope, dV, kV, doc, pm, ct, an, oc, od, osl, ccl, cl, cdd, cld, ccs, csl, vs, file, tf, ar, i1, i2, _⟩ := T.init
    exact ⟨fI', i1, i2⟩
  refine wpAny_Call_Name_kw (ld_glob I hg hm ?_ hdb)
  refine PySem.W.callWith_K (h₀ := X.base) I.ok.mod.kin T.kC (spliced_more (thn (he.run pins s σ H _ I h) fun u s1 ⟨v, H1, I1, rv, hq⟩ => spliced_none ⟨I1.kIn, ?_⟩) (starEach_ns hns)) (starEach_ns hns) rfl
  show wpAny _ _ (call (.ref (Z.cl c)) [u]) _ _ _
  obtain ⟨hp, g, dr, tk, os⟩ := s1
  obtain ⟨nm, N', qn, bs, bm, hdct, sn, sub, ab, col, dd, k0, k1, k2, k3, k5, hC, hT⟩ := PySem.W.excInit_of I1.kIn q1
  have kk : ∀ b o, hp.get? b = some o → ((hp.push (PySem.W.kdv_tup [u])).push (PySem.HandSPX.excO (Z.cl c) hp.objs.size)).get? b = some o := fun b o e => Heap.get?_push_of_some _ (Heap.get?_push_of_some _ e)
  have hget : ((hp.push (PySem.W.kdv_tup [u])).push (PySem.HandSPX.excO (Z.cl c) hp.objs.size)).get? (hp.objs.size + 1) = some (PySem.HandSPX.excO (Z.cl c) hp.objs.size) := by heap_get
  have kb : ∀ b o, X.base.get? b = some o → hp.get? b = some o := I1.bk
  have hbe : X.base.get? (hp.objs.size + 1) = none := by
    cases z : X.base.get? (hp.objs.size + 1) with
    | none => rfl
    | some o => exact absurd (Heap.lt_size (kb _ _ z)) (Nat.not_lt.mpr (Nat.le_succ _))
  have hne : H1 (hp.objs.size + 1) = none := I1.hok.fresh (Nat.le_succ _)
  refine wpAny_call (PySem.HandSPX.call_own FB hT hC (PySem.W.looks_findIn I1.kIn hfI) (fun self => PySem.W.bind_fn I1.kIn self tI) (by show 1 ≤ sizeLine; decide)
    (codeAny_mono (sup_run (R := fun r s' => ∃ h' tk' t1 dx, r = .ok (.ret .none) ∧ s' = ⟨h', g, dr, tk', os⟩ ∧ (∀ b o, b ≠ hp.objs.size + 1 → ((hp.push (PySem.W.kdv_tup [u])).push (PySem.HandSPX.excO (Z.cl c) hp.objs.size)).get? b = some o → h'.get? b = some o) ∧
        ((hp.push (PySem.W.kdv_tup [u])).push (PySem.HandSPX.excO (Z.cl c) hp.objs.size)).objs.size ≤ dx ∧ dx ≠ hp.objs.size + 1 ∧ h'.get? (hp.objs.size + 1) = some (PySem.W.excObj (Z.cl c) t1 (some dx) .none) ∧ h'.Ns1 dx (fun y => if y = Z.fd c then some u else none))
      T I1.ok.mod hsup (fun b o q => kk b o (kb b o q)) hbe (Room.make (k := 0) hr (Z.cl c) [u] []).depth hfI hget (fun h' tk' t1 dx a1 a2 a3 a4 a5 => ⟨h', tk', t1, dx, rfl, rfl, a1, a2, a3, a4, a5⟩)) fun r s' hq' => ?_))
  obtain ⟨h', tk', t1, dx, rfl, rfl, a1, a2, a3, a4, a5⟩ := hq'
  refine ⟨rfl, ?_⟩
  have hdx : hp.objs.size ≤ dx := Nat.le_trans (by rw [Heap.size_push, Heap.size_push]; omega) a2
  obtain ⟨G, g1, g2⟩ := restrict h' fun b => decide (b ≠ hp.objs.size + 1)
  have gk : ∀ b, b ≠ hp.objs.size + 1 → G.get? b = h'.get? b := fun b hb => g1 b (decide_eq_true hb)
  have ge : G.get? (hp.objs.size + 1) = none := g2 _ (by simp)
  have keepG : ∀ b o, G.get? b = some o → h'.get? b = some o := fun b o z => by
    by_cases hb : b = hp.objs.size + 1
    · rw [hb, ge] at z; cases z
    · rw [← gk b hb]; exact z
  have keep : ∀ b o, hp.get? b = some o → G.get? b = some o := fun b o z => by
    have hb : b ≠ hp.objs.size + 1 := Nat.ne_of_lt (Nat.lt_succ_of_lt (Heap.lt_size z))
    rw [gk b hb]
    exact a1 b o hb (kk b o z)
  have J : Inv X pins σ (upd H1 dx (.xd [(Z.fd c, v)])) ⟨G, g, dr, tk', os⟩ := I1.laid (t' := tk') keep hdx
    ⟨_, a5.at fun o z => (gk dx a3).trans z, fun f => relO_put (fs := []) (mA := fun _ => none) rv (fun _ => True.intro) f⟩
  refine ⟨hp.objs.size + 1, _, _, ⟨G, g, dr, tk', os⟩, _, .ref (Z.cl c), some dx, rfl, J, keepG, ge, a4, ⟨rfl, rfl⟩, rfl, rfl, ?_, rfl, I1.bare, raises_own T.exC T.tyC, ?_⟩
  · rw [upd_ne (Ne.symm a3)]; exact hne
  · exact hq dx (I1.hok.fresh hdx)
end Dg
end

section
set_option Elab.async false
set_option linter.all false
set_option maxRecDepth 100000
set_option maxHeartbeats 4000000
/-! DgZ: the head: facts of the defs and of the exceptions, the law's end. -/
namespace Dg
open PySem PySem.Spec L2
open PyProof.Rows hiding St

/-! ### calls' bindings -/
theorem permP_range : ∀ (k i : Nat) (vs : List PV), i + k ≤ vs.length → permP ((List.range' i k).map .inl) vs = some ((vs.drop i).take k)
  | 0, i, vs, _ => by simp [permP]
  | k + 1, i, vs, h => by
    rw [List.range'_succ, List.map_cons]
    unfold permP
    rw [List.getElem?_eq_getElem (by omega), permP_range k (i + 1) vs (by omega)]
    show some (_ :: _) = _
    rw [List.drop_eq_getElem_cons (by omega : i < vs.length), List.take_succ_cons]
theorem permP_inr : ∀ (ds : List PV) (vs : List PV), permP (ds.map .inr) vs = some ds
  | [], _ => rfl
  | d :: ds, vs => by
    rw [List.map_cons]
    unfold permP
    rw [permP_inr ds vs]
theorem permP_app : ∀ (p q : List (Sum Nat PV)) (vs xs ys : List PV), permP p vs = some xs → permP q vs = some ys → permP (p ++ q) vs = some (xs ++ ys)
  | [], q, vs, xs, ys, h1, h2 => by cases h1; exact h2
  | .inl i :: p, q, vs, xs, ys, h1, h2 => by
    unfold permP at h1
    split at h1
    · rename_i v r e1 e2
      cases h1
      show permP (.inl i :: (p ++ q)) vs = _
      unfold permP
      rw [e1, permP_app p q vs r ys e2 h2]; rfl
    · cases h1
  | .inr d :: p, q, vs, xs, ys, h1, h2 => by
    unfold permP at h1
    split at h1
    · rename_i r e2
      cases h1
      show permP (.inr d :: (p ++ q)) vs = _
      unfold permP
      rw [permP_app p q vs r ys e2 h2]; rfl
    · cases h1
def idPerm (n : Nat) : List (Sum Nat PV) := (List.range' 0 n).map .inl
theorem permP_id {n : Nat} {vs : List PV} (h : vs.length = n) : permP (idPerm n) vs = some vs := by
  unfold idPerm
  rw [permP_range n 0 vs (by omega)]
  simp [← h]
section
variable {K : PySem.W.Frag} {x qual : Str} {params : Arguments} {body : List Stmt} {scope : Scope} {dvs : List V} {f : Addr} {fd : FuncData} {ps ks : List Str} {n : Nat}
/-- every parameter is given, the keywords in the parameters' order -/
theorem callA (F : FunD K x qual params body scope [] [] f fd) (hn : n + ks.length = ps.length)
    (h : ∀ (kV doc pm : Value) (an : Option Addr) (cdv ct : Value) (us ws : List Value), us.length = n → ws.length = ks.length → bindArgs (PySem.W.fnOf x qual params body scope .none kV doc pm an cdv ct) ⟨us, ks.zip ws⟩ = pure (ps.zip (us ++ ws))) : CallB K fd ps n ks (idPerm (n + ks.length)) := by
  obtain ⟨oc, od, dV, kV, doc, pm, an, cdv, ct, osl, rfl, lk, hcd, hD, hK⟩ := F.ex
  rcases hD with ⟨_, rfl⟩ | ⟨e, _⟩
  · refine ⟨⟨fun us ws => us ++ ws, fun vs zs => vs ++ zs, ⟨fun s us ws X l1 l2 => .of_eq (h kV doc pm an cdv ct us ws l1 l2), fun r1 r2 => r1.append r2⟩, fun w vs zs pv pz r1 r2 l1 l2 => ?_⟩⟩
    exact ⟨pv ++ pz, permP_id (by rw [List.length_append, l1, l2]), by rw [List.length_append, l1, l2, hn], r1.append r2⟩
  · exact absurd rfl e
/-- n are given, the defaults behind the first j fill up -/
theorem callD (F : FunD K x qual params body scope dvs [] f fd) (j : Nat) (hd : dvs ≠ []) (hn : n + (dvs.length - j) = ps.length) (dps : List PV) (hr : ∀ w : Wd, Reps w (dvs.drop j) dps)
    (h : ∀ (T : Addr) (kV doc pm : Value) (an : Option Addr) (cdv ct : Value) (us its : List Value), us.length = n → its.length = dvs.length →
      ∃ k, bindArgs (PySem.W.fnOf x qual params body scope (.ref T) kV doc pm an cdv ct) ⟨us, []⟩ = seqItems? (.ref T) >>= k ∧ k (some its.toArray) = pure (ps.zip (us ++ its.drop j))) : CallB K fd ps n [] (idPerm n ++ dps.map .inr) := by
  obtain ⟨ds, r, b⟩ := F.binds1 n j hd hn h
  have hdl : (dvs.drop j).length = ds.length := r.length
  refine ⟨⟨fun us ws => us ++ ds, fun vs zs => vs ++ dvs.drop j, ⟨fun s us ws X l1 l2 => ?_, fun r1 r2 => r1.append r⟩, fun w vs zs pv pz r1 r2 l1 l2 => ?_⟩⟩
  · exact b s us X (by rw [List.length_append, l1, ← hdl, List.length_drop]; exact hn)
  · have hz : pz = [] := List.length_eq_zero_iff.mp l2
    subst hz
    rw [List.append_nil]
    refine ⟨pv ++ dps, permP_app _ _ _ _ _ (permP_id l1) (permP_inr _ _), ?_, r1.append (hr w)⟩
    have := (hr w).length
    rw [List.length_drop] at this
    rw [List.length_append, l1, ← this]; exact hn
end
/-! ### lists of facts -/
def AllQ {α : Type} (p : α → Prop) : List α → Prop
  | [] => True
  | a :: r => p a ∧ AllQ p r
theorem all_of {α : Type} {p : α → Prop} : ∀ {l : List α}, AllQ p l → ∀ q ∈ l, p q
  | a :: r, h, q, hq => by
    rcases List.mem_cons.mp hq with z | z
    · rw [z]; exact h.1
    · exact all_of h.2 q z
def AllI {α : Type} (p : Nat → α → Prop) : Nat → List α → Prop
  | _, [] => True
  | i, a :: r => p i a ∧ AllI p (i + 1) r
theorem allI_of {α : Type} {p : Nat → α → Prop} : ∀ {l : List α} {i : Nat}, AllI p i l → ∀ j a, l[j]? = some a → p (i + j) a
  | a :: r, i, h, 0, b, e => by cases e; exact h.1
  | a :: r, i, h, j + 1, b, e => by
    have z := allI_of h.2 j b e
    rw [show i + 1 + j = i + (j + 1) by omega] at z
    exact z
  | [], _, _, _, _, e => by simp at e
theorem lookup_all {α β : Type} [BEq α] [LawfulBEq α] {p : α → β → Prop} : ∀ {l : List (α × β)}, AllQ (fun q => p q.1 q.2) l → ∀ x y, l.lookup x = some y → p x y := fun h x y e => all_of h (x, y) (lookup_mem' e)
/-! ### own exceptions, by the written part -/
structure ExD where
  x : Str
  B : String
  f : Str
  st : Stmt
def bmOf (B : String) : List Value := if B = "ValueError" then [.type "ValueError", .type "Exception", .type "BaseException", .type "object"] else if B = "OverflowError" then [.type "OverflowError", .type "ArithmeticError", .type "Exception", .type "BaseException", .type "object"] else [.type "LookupError", .type "Exception", .type "BaseException", .type "object"]
def initA (K : PySem.W.Frag) (x : Str) : Addr := He.ma K (He.ga K x) "__init__"
abbrev FnS : Type := Option (Str × Str × Arguments × FuncBody × Scope × Addr × List Str × Addr)
def fnS (K : PySem.W.Frag) (x : Str) : FnS := match K.lookup (initA K x) with
  | some ⟨_, _, .func fd, _⟩ => some (fd.name, fd.qualname, fd.params, fd.body, fd.scope, fd.globals, fd.closure.map (·.1), fd.builtins)
  | _ => none
def ExD.qual (d : ExD) : Str := d.x ++ ".__init__"
def ExD.val (d : ExD) : FnS := some ("__init__", d.qual, defArgs d.st, .stmts (defBody d.st), defScope d.st, mainGlobals, ["__class__"], builtinsNs)
/-- the code object's file, the cell -/
def initB (file : Str) (K : PySem.W.Frag) (d : ExD) : Bool := match K.lookup (initA K d.x) with
  | some ⟨_, _, .func fd, _⟩ => (match fd.defaults, fd.code, fd.closure with
    | .none, .ref cda, [(_, cc)] => PySem.W.codeIn K (.ref cda) d.qual && ((match K.lookup cda with
        | some ⟨_, _, .fields vs, _⟩ => (match vs[2]? with
          | some (Value.str z _) => (file == z)
          | _ => false)
        | _ => false) && (match K.lookup cc with
        | some ⟨_, _, .cell (some (.ref C)), _⟩ => decide (C = He.ga K d.x)
        | _ => false))
    | _, _, _ => false)
  | _ => false
def ExD.ok (file : Str) (K : PySem.W.Frag) (d : ExD) : Bool :=
  PySem.W.excInitIn K (He.ga K d.x) (bmOf d.B) (d.B ++ ".__new__") && (PySem.W.excOver K (He.ga K d.x) (bmOf d.B) && (decide (PySem.W.subIn K (.ref (He.ga K d.x)) (.type d.B) = some true) &&
  (decide (PySem.W.ks_superIn K (He.ga K d.x) (He.ga K d.x) "__init__" = some (some (.builtin (d.B ++ ".__init__")))) && (decide (PySem.W.takerIn K (He.ga K d.x) d.f = some none) && (PySem.W.hasDictIn K (He.ga K d.x) &&
  (He.eqO (PySem.W.findIn K (.ref (He.ga K d.x)) "__setattr__") (some (some (.builtin "object.__setattr__"))) && (decide (PySem.W.subIn K (.ref (He.ga K d.x)) (.type "BaseException") = some true) && (decide (PySem.W.typeIn K (.ref (He.ga K d.x)) = some (.type "type")) &&
  (PySem.W.keepIn K (.ref (He.ga K d.x)) && (decide (PySem.W.nsIn K cStatics "thirdparty.any" = some none) && (decide (PySem.W.mroIn K (He.ga K d.x) (.ref (He.ga K d.x)) = some true) &&
  (He.eqO (PySem.W.findIn K (.ref (He.ga K d.x)) "__init__") (some (some (.ref (initA K d.x)))) && (decide (PySem.W.typeIn K (.ref (initA K d.x)) = some (.type "function")) && (initB file K d &&
  (xfB K (He.ga K d.x) && He.eqO (PySem.W.findIn K (.ref (He.ga K d.x)) d.f) (some none))))))))))))))))
theorem base_of {B : String} (h : B = "ValueError" ∨ B = "OverflowError" ∨ B = "LookupError") : PySem.W.KxsFacts B (B ++ ".__init__") ∧ ExcBaseFacts B (B ++ ".__new__") (B ++ ".__init__") (bmOf B) ∧ StoreFacts B (bmOf B) "object.__setattr__" "object" := by
  rcases h with rfl | rfl | rfl
  · exact ⟨PySem.W.kxs_ValueError, PySem.F.excBase_ValueError, PySem.F.store_ValueError⟩
  · exact ⟨PySem.W.kxs_OverflowError, PySem.F.excBase_OverflowError, PySem.F.store_OverflowError⟩
  · exact ⟨PySem.W.kxs_LookupError, PySem.F.excBase_LookupError, PySem.F.store_LookupError⟩
/-- what is seen of an __init__'s text -/
structure ExT (d : ExD) : Prop where
  B : d.B = "ValueError" ∨ d.B = "OverflowError" ∨ d.B = "LookupError"
  t : ∃ (msg par sel : Str) (j : Nat) (p0 p1 p2 p3 p4 p5 p6 p7 p8 p9 : Pos) (ar : Arg), defBody d.st = supBody msg par sel d.f j p0 p1 p2 p3 p4 p5 p6 p7 p8 p9 ∧ ((defArgs d.st).posonlyargs ++ (defArgs d.st).args).head? = some ar ∧ ar.arg = sel ∧ sel ≠ par ∧
    (∀ (name qual : Str) (body : List Stmt) (scope : Scope) (kV doc pm ct cdv : Value) (an : Option Addr) (cc : Addr) (a b : Value), bindArgs (PySem.W.ksFn name qual (defArgs d.st) body scope .none kV doc pm an cdv ct cc) ⟨[a, b], []⟩ = pure [(sel, a), (par, b)]) ∧
    (defScope d.st).kind = .function ∧ (defScope d.st).isCoroutine = false ∧ (defScope d.st).isGenerator = false ∧ (∀ y ∈ (defScope d.st).names, y.2 ≠ .cell) ∧ (defScope d.st).names.lookup ("super" : Str) = some .globalImplicit ∧ (defScope d.st).names.lookup ("__class__" : Str) = some .free ∧
    (defScope d.st).names.lookup sel = some .local ∧ (defScope d.st).names.lookup par = some .local ∧ (sel == ("__debug__" : Str)) = false ∧ (par == ("__debug__" : Str)) = false ∧ (p2.endLine == p4.line) = true
theorem sup_of {P : Program} {K : PySem.W.Frag} {d : ExD} (T : ExT d) (htop : (P.main.scope.names.lookup ("super" : Str)).isSome = false) (e : fnS K d.x = d.val) (c : d.ok P.main.file K = true) : SupC P K (He.ga K d.x) d.f ∧ XfC K (He.ga K d.x) ∧ PySem.W.findIn K (.ref (He.ga K d.x)) d.f = some none := by
  obtain ⟨c1, c⟩ := He.ba c
  obtain ⟨c2, c⟩ := He.ba c
  obtain ⟨c3, c⟩ := He.ba c
  obtain ⟨c4, c⟩ := He.ba c
  obtain ⟨c5, c⟩ := He.ba c
  obtain ⟨c6, c⟩ := He.ba c
  obtain ⟨c7, c⟩ := He.ba c
  obtain ⟨c8, c⟩ := He.ba c
  obtain ⟨c9, c⟩ := He.ba c
  obtain ⟨c10, c⟩ := He.ba c
  obtain ⟨c11, c⟩ := He.ba c
  obtain ⟨c12, c⟩ := He.ba c
  obtain ⟨c13, c⟩ := He.ba c
  obtain ⟨c14, c⟩ := He.ba c
  obtain ⟨c15, c⟩ := He.ba c
  obtain ⟨c16, c17⟩ := He.ba c
  obtain ⟨b1, b2, b3⟩ := base_of T.B
  refine ⟨?_, xfB_ok c16, He.eqO_ok c17⟩
  refine ⟨⟨_, _, _, _, b1, b2, b3, c1, c2, of_decide_eq_true c3, of_decide_eq_true c4⟩, of_decide_eq_true c5, c6, He.eqO_ok c7, of_decide_eq_true c8, of_decide_eq_true c9, c10, of_decide_eq_true c11, of_decide_eq_true c12, htop, ?_⟩
  obtain ⟨msg, par, sel, j, p0, p1, p2, p3, p4, p5, p6, p7, p8, p9, ar, t1, t2, t3, t4, t5, t6, t7, t8, t9, t10, t11, t12, t13, t14, t15, t16⟩ := T.t
  unfold initB at c15
  unfold fnS at e
  cases q : K.lookup (initA K d.x) with
  | none => rw [q] at c15; cases c15
  | some o =>
    obtain ⟨oc, od, dt, osl⟩ := o
    rw [q] at c15 e
    cases dt with
    | func fd =>
      obtain ⟨n1, n2, n3, n4, n5, n6, n7, n8, n9, n10, n11, n12, n13, n14, n15⟩ := fd
      have e2 : (some (n1, n2, n3, n4, n5, n6, n7.map (·.1), n15) : FnS) = some (("__init__" : Str), d.qual, defArgs d.st, FuncBody.stmts (defBody d.st), defScope d.st, mainGlobals, [("__class__" : Str)], builtinsNs) := e
      simp only [Option.some.injEq, Prod.mk.injEq] at e2
      obtain ⟨h1, h2, h3, h4, h5, h6, h7, h8⟩ := e2
      dsimp only at c15
      split at c15
      · rename_i cda cn cc
        obtain ⟨k1, k2⟩ := He.ba c15
        obtain ⟨k3, k4⟩ := He.ba k2
        subst h1 h2 h3 h4 h5 h6 h8
        have hcn : cn = "__class__" := by simpa using h7
        subst hcn
        split at k3
        · rename_i ccl cdd vs ccs hl
          split at k3
          · rename_i z tf hv
            split at k4
            · rename_i cl cld C csl hcell
              have eC := of_decide_eq_true k4
              subst eC
              rw [t1] at q
              exact ⟨initA K d.x, cda, cc, "__init__", d.qual, defArgs d.st, msg, par, sel, j, p0, p1, p2, p3, p4, p5, p6, p7, p8, p9, defScope d.st, .none, n9, n10, n11, n14, n12, oc, od, osl, ccl, cl, cdd, cld, ccs, csl, vs, z, tf, ar,
                He.eqO_ok c13, of_decide_eq_true c14, q, k1, hl, hv, k3, hcell, t2, t3, t4, fun a b => t5 _ _ _ _ _ _ _ _ _ _ _ a b, t6, t7, t8, t9, t10, t11, t12, t13, t14, t15, t16⟩
            · cases k4
          · cases k3
        · cases k3
      · cases c15
    | _ => cases c15
/-! ### the Hook -/
abbrev AlX : Type := He.AlD × Bool × List FnS
def obsX (file : Str) (fa : List He.Fa) (fn : List He.DefD) (xs : List ExD) (K : PySem.W.Frag) : AlX := (He.obsD fa fn K, xs.all (fun d => d.ok file K), xs.map fun d => fnS K d.x)
def valX (fn : List He.DefD) (xs : List ExD) : AlX := (He.valD fn, true, xs.map ExD.val)
def SaysX (file : Str) (fa : List He.Fa) (fn : List He.DefD) (xs : List ExD) (K : PySem.W.Frag) : Prop := obsX file fa fn xs K = valX fn xs
def obsXG (n : Nat) (file : Str) (fa : List He.Fa) (fn : List He.DefD) (xs : List ExD) (g : Addr → Option Obj) : AlX := obsX file fa fn xs (He.frG g (cStatics :: He.asD g n))
def hookX (n : Nat) (file : Str) (fa : List He.Fa) (fn : List He.DefD) (xs : List ExD) : PySem.W.Hook where
  α := AlX
  obs := fun s => obsXG n file fa fn xs s.heap.get?
  val := fun _ => valX fn xs
  says := fun _ h => ∃ K : PySem.W.Frag, K.In h ∧ SaysX file fa fn xs K
  of := fun _ _ e => ⟨_, He.frG_in, e⟩
  keeps := fun _ _ _ ⟨K, hK, c⟩ k => ⟨K, PySem.W.Frag.In.keeps hK k, c⟩
theorem obsXG_eq {n : Nat} {file : Str} {fa : List He.Fa} {fn : List He.DefD} {xs : List ExD} {g : Addr → Option Obj} {s : Shared} (h : ∀ a, g a = s.heap.get? a) : obsXG n file fa fn xs g = (hookX n file fa fn xs).obs s := by
  have e : g = s.heap.get? := funext h
  rw [e] <;> rfl
section
variable {file : Str} {fa : List He.Fa} {fn : List He.DefD} {xs : List ExD} {K : PySem.W.Frag}
theorem SaysX.d (c : SaysX file fa fn xs K) : He.SaysD fa fn K := congrArg (fun z : AlX => z.1) c
theorem SaysX.ex (c : SaysX file fa fn xs K) (i : Nat) {d : ExD} (h : xs[i]? = some d) : fnS K d.x = d.val ∧ d.ok file K = true := by
  have c1 : xs.all (fun d => d.ok file K) = true := congrArg (fun z : AlX => z.2.1) c
  have e : xs.map (fun d => fnS K d.x) = xs.map ExD.val := congrArg (fun z : AlX => z.2.2) c
  have e2 : (xs.map fun d => fnS K d.x)[i]? = (xs.map ExD.val)[i]? := by rw [e]
  rw [List.getElem?_map, List.getElem?_map, h] at e2
  exact ⟨Option.some.inj e2, List.all_eq_true.mp c1 d (List.mem_of_getElem? h)⟩
end
/-! ### the law's end -/
theorem walk_dg {l : PySem.W.OpenLaw} {n k : Nat} {q : Program} {loose : List Str} {XP : (Str → Option Value) → Heap → Prop} {YP : World → Heap → Prop} {d : DefRec} {x : Str}
    (hn : l.most = some n) (hn2 : n ≤ sizeLine) (hdf : d.params.defaults = []) (hr : Room k callerA)
    (F : ∀ (w : World) (mg : Str → Option Value) (fa : Addr) (h : Heap), YP w h → h.Ns mainGlobals mg → mg d.name = some (.ref fa) →
      ∃ (K : PySem.W.Frag) (fd : FuncData) (sp : Sp), K.In h ∧ (∀ (s : Shared) (u : Value), BindsTo s fd ⟨[u], []⟩ [(x, u)]) ∧
        (∀ (H : Hp) (a : Addr) (ns : List Int), ns.length ≤ n → (∀ z ∈ ns, Builtin.Int.intBits z ≤ 1048576) → Only H → SqL K H a (ns.map V.int) → sp [.ref a] H (fun v _ => v = .bl true) fun _ _ _ => False) ∧
        ∀ base : Heap, K.In base → base.Ns mainGlobals mg → FnOk l.prog w K mg base (L2.CX l.prog w) k fa fd [x] sp) :
    PySem.W.WalkO q loose XP YP l.row.toRowW d [] (fun f vs => PySem.call f vs) := by
  refine Att.attach_callB hn hdf fun w s₀ s₁ mg mb fa o pm cd doc a vs ns G Y ho hd hcd hmg hobj hints hlen hbits hg => ?_
  obtain ⟨K, fd, sp, KX, hb, hsp, hF⟩ := F w mg fa _ Y G.T.g hmg
  refine law_call KX G.T.g G.T.b G.T.builtins G.T.nolimit hg hobj hints (Nat.le_trans hlen hn2) hr hF hb (fun H hO hS => hsp H a ns hlen hbits hO hS) fun H e s' hx => ?_
  obtain ⟨_, _, _, _, _, _, _, _, _, _, _, _, hE⟩ := hx
  exact False.elim hE
/-- the law's promise, by plain values -/
theorem law_sp {Z : Xc} {g : List PV → Store → Res PV} {H : Hp} {a : Addr} {ns : List Int} (hS : SqL Z.K H a (ns.map V.int)) (hg : ∃ S', g [.scr (ns.map PV.int)] [] = .ok (.bl true) S') : spI Z g 1 [.ref a] H (fun v _ => v = .bl true) fun _ _ _ => False := by
  obtain ⟨S', e⟩ := hg
  have hr : HRel ⟨Z.K, fun _ => False, [], H⟩ [] := ⟨rfl, List.nodup_nil, (fun a h => by cases h), (fun a h => h.elim), (fun n a o h => by cases h)⟩
  refine ⟨⟨Z.K, fun _ => False, [], H⟩, [], [.scr (ns.map PV.int)], rfl, rfl, hr, .cons (.scr ?_ (reps_int ns)) .nil, rfl, ?_⟩
  · rcases hS with h | h
    · exact .inl ⟨h, fun z => z⟩
    · exact .inr h
  · rw [e]
    exact fun u x _ _ r => r.of_bl
def fdAt (K : PySem.W.Frag) (a : Addr) : FuncData := match K.lookup a with
  | some ⟨_, _, .func fd, _⟩ => fd
  | _ => default
theorem fdAt_ok {K : PySem.W.Frag} {x qual : Str} {params : Arguments} {body : List Stmt} {scope : Scope} {dvs : List V} {kws : List (Str × V)} {f : Addr} (h : ∃ fd, FunD K x qual params body scope dvs kws f fd) : FunD K x qual params body scope dvs kws f (fdAt K f) := by
  obtain ⟨fd, F⟩ := h
  obtain ⟨oc, od, dV, kV, doc, pm, an, cdv, ct, osl, e, lk, r⟩ := F.ex
  have e2 : fdAt K f = fd := by unfold fdAt; rw [lk]
  rw [e2]
  exact F
end Dg
end

section
set_option Elab.async false
set_option linter.all false
set_option maxRecDepth 100000
set_option maxHeartbeats 0
namespace Dg
open PySem PySem.Spec L2
open PyProof.Rows hiding St
/-! ### the text -/
def top (i : Nat) : Stmt := PySem.Challenge.pw_digitsay_k04_texts_of_readers.main.body.getD i (.Pass ⟨0, 0, 0, 0⟩)
def clsInit (st : Stmt) : Stmt := match st with
  | .ClassDef _ _ _ b _ _ _ _ _ _ _ => b.headD (.Pass ⟨0, 0, 0, 0⟩)
  | s => s
def T0 : Tab where
  N := []
  sc := defScope (top 0)
  fn := fun _ => true
  calls := [("is_row", 1, [], 1, idPerm 1 ++ [.inr .non]), ("is_whole", 3, [], 0, idPerm 3), ("is_row", 2, [], 1, idPerm 2), ("is_base", 1, [], 4, idPerm 1), ("has_form", 1, [], 5, idPerm 1), ("power_of", 2, [], 3, idPerm 2), ("are_wholes", 3, [], 2, idPerm 3), ("reader_fault", 1, [], 6, idPerm 1), ("need_reader", 1, [], 7, idPerm 1), ("read_figures", 1, [], 9, idPerm 1), ("read_head", 1, [], 11, idPerm 1), ("read_row", 1, [], 10, idPerm 1), ("_law_mixed", 2, [], 13, idPerm 2), ("_law_folded", 1, [], 14, idPerm 1), ("_law_draw", 2, [], 15, idPerm 2), ("_law_like", 2, [], 18, idPerm 2), ("_law_power", 2, [], 19, idPerm 2), ("_law_proof", 4, [], 20, idPerm 4), ("_law_number", 1, [], 23, idPerm 1), ("_law_of", 2, [], 17, idPerm 2), ("read_reader", 1, [], 12, idPerm 1), ("reader_text", 1, [], 8, idPerm 1), ("_law_begun", 1, [], 16, idPerm 1), ("_law_text", 1, [], 22, idPerm 1), ("_law_reader", 4, [], 21, idPerm 4), ("_law_written", 1, [], 27, idPerm 1), ("_law_read", 1, [], 26, idPerm 1), ("_law_bent", 2, [], 25, idPerm 2), ("_law_due", 1, [], 24, idPerm 1), ("reader_text", 0, ["reader"], 8, idPerm 1), ("read_reader", 0, ["text"], 12, idPerm 1)]
  consts := [("MOST_BASE", (.int (10))), ("MOST_TRACKS", (.int (6))), ("MOST_SIZE", (.int (20000))), ("DIGITS", (.str (Str.ofString "0123456789"))), ("MOST_TEXT", (.int (20000)))]
  bl := ["len", "int", "str", "list", "tuple", "all", "any", "sum", "min", "max", "abs", "range", "enumerate", "zip", "isinstance", "bool", "dict"]
  excs := [("BadReader", 0), ("BadText", 1), ("TooMany", 2)]
  fds := ["place", "line", "most"]
  subs := [((0, 0), true), ((0, 1), false), ((0, 2), false), ((1, 0), false), ((1, 1), true), ((1, 2), false), ((2, 0), false), ((2, 1), false), ((2, 2), true)]
  mu := []
def m_is_whole : MSs := (.cons (.ifS (.or_ (.not_ (.bi (.isin ["int"]) (.cons (.var 0) .nil))) (.bi (.isin ["bool"]) (.cons (.var 0) .nil))) (.cons (.ret (.k (.bl false))) .nil) .nil) (.cons (.ret (.and_ (.bin .ge (.var 0) (.var 1)) (.or_ (.un .isN (.var 2)) (.bin .le (.var 0) (.var 2))))) .nil))
def d_is_whole : DD := ⟨"is_whole", "is_whole", defArgs (top 6), defBody (top 6), defScope (top 6), [V.non], ["value", "least", "most"], ["value", "least", "most"], false, [], m_is_whole⟩
def m_is_row : MSs := (.cons (.ret (.and_ (.bi (.isin ["tuple"]) (.cons (.var 0) .nil)) (.or_ (.un .isN (.var 1)) (.bin .eq (.bi .len (.cons (.var 0) .nil)) (.var 1))))) .nil)
def d_is_row : DD := ⟨"is_row", "is_row", defArgs (top 7), defBody (top 7), defScope (top 7), [V.non], ["value", "length"], ["value", "length"], false, [], m_is_row⟩
def m_are_wholes : MSs := (.cons (.ret (.and_ (.call 1 [(.inl 0), (.inr .non)] (.cons (.var 0) .nil)) (.bi .all_ (.cons (.comp false [3, 4] (.name 4) (.of (.var 0)) .none (.call 0 [(.inl 0), (.inl 1), (.inl 2)] (.cons (.var 4) (.cons (.var 1) (.cons (.var 2) .nil))))) .nil)))) .nil)
def d_are_wholes : DD := ⟨"are_wholes", "are_wholes", defArgs (top 8), defBody (top 8), defScope (top 8), [V.non], ["value", "least", "most", ".0", "one"], ["value", "least", "most"], false, [], m_are_wholes⟩
def m_power_of : MSs := (.cons (.asg (.name 2) (.k (.int (1)))) (.cons (.forS (.name 3) (.range (.cons (.var 1) .nil)) (.cons (.asg (.name 2) (.bin .mul (.var 2) (.var 0))) .nil)) (.cons (.ret (.var 2)) .nil)))
def d_power_of : DD := ⟨"power_of", "power_of", defArgs (top 9), defBody (top 9), defScope (top 9), [], ["one", "times", "found", "turn"], ["one", "times"], false, [], m_power_of⟩
def m_is_base : MSs := (.cons (.ret (.call 0 [(.inl 0), (.inl 1), (.inl 2)] (.cons (.var 0) (.cons (.k (.int (2))) (.cons (.k (.int (10))) .nil))))) .nil)
def d_is_base : DD := ⟨"is_base", "is_base", defArgs (top 14), defBody (top 14), defScope (top 14), [], ["value"], ["value"], false, [], m_is_base⟩
def m_has_form : MSs := (.cons (.ifS (.or_ (.not_ (.call 1 [(.inl 0), (.inl 1)] (.cons (.var 0) (.cons (.k (.int (4))) .nil)))) (.or_ (.not_ (.call 4 [(.inl 0)] (.cons (.bin .ix (.var 0) (.k (.int (0)))) .nil))) (.not_ (.call 0 [(.inl 0), (.inl 1), (.inl 2)] (.cons (.bin .ix (.var 0) (.k (.int (1)))) (.cons (.k (.int (0))) (.cons (.k (.int (6))) .nil))))))) (.cons (.ret (.k (.bl false))) .nil) .nil) (.cons (.ret (.and_ (.call 1 [(.inl 0), (.inr .non)] (.cons (.bin .ix (.var 0) (.k (.int (2)))) .nil)) (.and_ (.call 1 [(.inl 0), (.inr .non)] (.cons (.bin .ix (.var 0) (.k (.int (3)))) .nil)) (.and_ (.bin .ne (.bin .ix (.var 0) (.k (.int (2)))) (.tup .nil)) (.bin .eq (.bi .len (.cons (.bin .ix (.var 0) (.k (.int (2)))) .nil)) (.bi .len (.cons (.bin .ix (.var 0) (.k (.int (3)))) .nil))))))) .nil))
def d_has_form : DD := ⟨"has_form", "has_form", defArgs (top 15), defBody (top 15), defScope (top 15), [], ["value"], ["value"], false, [], m_has_form⟩
def m_reader_fault : MSs := (.cons (.ifS (.not_ (.call 5 [(.inl 0)] (.cons (.var 0) .nil))) (.cons (.ret (.tup (.cons (.k (.str (Str.ofString "form"))) .nil))) .nil) .nil) (.cons (.asg (.tup [1, 2]) (.tup (.cons (.call 3 [(.inl 0), (.inl 1)] (.cons (.bin .ix (.var 0) (.k (.int (0)))) (.cons (.bin .ix (.var 0) (.k (.int (1)))) .nil))) (.cons (.bi .len (.cons (.bin .ix (.var 0) (.k (.int (2)))) .nil)) .nil)))) (.cons (.ifS (.bin .gt (.bin .mul (.var 1) (.var 2)) (.k (.int (20000)))) (.cons (.ret (.tup (.cons (.k (.str (Str.ofString "many"))) .nil))) .nil) .nil) (.cons (.forS (.tup [3, 4]) (.enum (.bin .ix (.var 0) (.k (.int (2))))) (.cons (.ifS (.or_ (.not_ (.call 2 [(.inl 0), (.inl 1), (.inl 2)] (.cons (.var 4) (.cons (.k (.int (0))) (.cons (.bin .sub (.var 2) (.k (.int (1)))) .nil))))) (.bin .ne (.bi .len (.cons (.var 4) .nil)) (.var 1))) (.cons (.ret (.tup (.cons (.var 3) .nil))) .nil) .nil) .nil)) (.cons (.ifS (.not_ (.bi .all_ (.cons (.comp false [5, 6] (.name 6) (.of (.bin .ix (.var 0) (.k (.int (3))))) .none (.bi (.isin ["bool"]) (.cons (.var 6) .nil))) .nil))) (.cons (.ret (.tup (.cons (.k (.str (Str.ofString "lets"))) .nil))) .nil) .nil) (.cons (.ifS (.not_ (.bi .all_ (.cons (.comp false [5, 3, 4] (.tup [3, 4]) (.enum (.bin .ix (.var 0) (.k (.int (2))))) .none (.bin .eq (.bin .ix (.bin .ix (.var 0) (.k (.int (3)))) (.var 3)) (.bin .ix (.bin .ix (.var 0) (.k (.int (3)))) (.bin .ix (.var 4) (.k (.int (0))))))) .nil))) (.cons (.ret (.tup (.cons (.k (.str (Str.ofString "zeros"))) .nil))) .nil) .nil) (.cons (.ret (.tup .nil)) .nil)))))))
def d_reader_fault : DD := ⟨"reader_fault", "reader_fault", defArgs (top 16), defBody (top 16), defScope (top 16), [], ["value", "columns", "states", "place", "row", ".0", "let"], ["value"], false, [], m_reader_fault⟩
def m_need_reader : MSs := (.cons (.asg (.name 1) (.call 6 [(.inl 0)] (.cons (.var 0) .nil))) (.cons (.ifS (.bin .ne (.var 1) (.tup .nil)) (.cons (.raise 0 (.bin .ix (.var 1) (.k (.int (0))))) .nil) .nil) (.cons (.ret (.var 0)) .nil)))
def d_need_reader : DD := ⟨"need_reader", "need_reader", defArgs (top 17), defBody (top 17), defScope (top 17), [], ["reader", "fault"], ["reader"], false, [], m_need_reader⟩
def m_reader_text : MSs := (.cons (.ex (.call 7 [(.inl 0)] (.cons (.var 0) .nil))) (.cons (.asg (.name 1) (.lstR (.cons (.bin .add (.bin .add (.bin .add (.k (.str (Str.ofString "base "))) (.bi .str_ (.cons (.bin .ix (.var 0) (.k (.int (0)))) .nil))) (.k (.str (Str.ofString " tracks ")))) (.bi .str_ (.cons (.bin .ix (.var 0) (.k (.int (1)))) .nil))) .nil))) (.cons (.forS (.tup [2, 3]) (.zip (.bin .ix (.var 0) (.k (.int (2)))) (.bin .ix (.var 0) (.k (.int (3))))) (.cons (.ex (.app 1 (.mt .join (.k (.str (Str.ofString " "))) (.bin .add (.lst (.cons (.ite (.var 3) (.k (.str (Str.ofString "yes"))) (.k (.str (Str.ofString "no")))) .nil)) (.comp false [5, 6] (.name 6) (.of (.var 2)) .none (.bi .str_ (.cons (.var 6) .nil))))))) .nil)) (.cons (.asg (.name 4) (.mt .join (.k (.str (Str.ofString "\n"))) (.var 1))) (.cons (.ifS (.bin .gt (.bi .len (.cons (.var 4) .nil)) (.k (.int (20000)))) (.cons (.raise 2 (.k (.int (20000)))) .nil) .nil) (.cons (.ret (.var 4)) .nil))))))
def d_reader_text : DD := ⟨"reader_text", "reader_text", defArgs (top 21), defBody (top 21), defScope (top 21), [], ["reader", "lines", "row", "let", "text", ".0", "state"], ["reader"], false, ["lines"], m_reader_text⟩
def m_read_figures : MSs := (.cons (.ifS (.or_ (.bin .nin (.bi .len (.cons (.var 0) .nil)) (.tup (.cons (.k (.int (1))) (.cons (.k (.int (2))) (.cons (.k (.int (3))) (.cons (.k (.int (4))) (.cons (.k (.int (5))) .nil))))))) (.not_ (.bi .all_ (.cons (.comp false [1, 2] (.name 2) (.of (.var 0)) .none (.bin .inn (.var 2) (.k (.str (Str.ofString "0123456789"))))) .nil)))) (.cons (.ret (.k .non)) .nil) .nil) (.cons (.ret (.ite (.or_ (.bin .eq (.var 0) (.k (.str (Str.ofString "0")))) (.bin .ne (.bin .ix (.var 0) (.k (.int (0)))) (.k (.str (Str.ofString "0"))))) (.bi .int_ (.cons (.var 0) .nil)) (.k .non))) .nil))
def d_read_figures : DD := ⟨"read_figures", "read_figures", defArgs (top 22), defBody (top 22), defScope (top 22), [], ["word", ".0", "sign"], ["word"], false, [], m_read_figures⟩
def m_read_row : MSs := (.cons (.asg (.name 1) (.mt .splitV (.var 0) (.k (.str (Str.ofString " "))))) (.cons (.asg (.name 2) (.bi .tuple_ (.cons (.comp false [3, 4] (.name 4) (.of (.slice (.var 1) (.some (.k (.int (1)))) .none)) .none (.call 9 [(.inl 0)] (.cons (.var 4) .nil))) .nil))) (.cons (.ifS (.or_ (.bin .nin (.bin .ix (.var 1) (.k (.int (0)))) (.tup (.cons (.k (.str (Str.ofString "yes"))) (.cons (.k (.str (Str.ofString "no"))) .nil)))) (.bin .inn (.k .non) (.var 2))) (.cons (.ret (.k .non)) .nil) .nil) (.cons (.ret (.tup (.cons (.var 2) (.cons (.bin .eq (.bin .ix (.var 1) (.k (.int (0)))) (.k (.str (Str.ofString "yes")))) .nil)))) .nil))))
def d_read_row : DD := ⟨"read_row", "read_row", defArgs (top 23), defBody (top 23), defScope (top 23), [], ["line", "words", "row", ".0", "word"], ["line"], false, [], m_read_row⟩
def m_read_head : MSs := (.cons (.asg (.name 1) (.mt .splitV (.var 0) (.k (.str (Str.ofString " "))))) (.cons (.ifS (.or_ (.bin .ne (.bi .len (.cons (.var 1) .nil)) (.k (.int (4)))) (.or_ (.bin .ne (.bin .ix (.var 1) (.k (.int (0)))) (.k (.str (Str.ofString "base")))) (.bin .ne (.bin .ix (.var 1) (.k (.int (2)))) (.k (.str (Str.ofString "tracks")))))) (.cons (.ret (.k .non)) .nil) .nil) (.cons (.ret (.tup (.cons (.call 9 [(.inl 0)] (.cons (.bin .ix (.var 1) (.k (.int (1)))) .nil)) (.cons (.call 9 [(.inl 0)] (.cons (.bin .ix (.var 1) (.k (.int (3)))) .nil)) .nil)))) .nil)))
def d_read_head : DD := ⟨"read_head", "read_head", defArgs (top 24), defBody (top 24), defScope (top 24), [], ["line", "words"], ["line"], false, [], m_read_head⟩
def m_read_reader : MSs := (.cons (.ifS (.not_ (.bi (.isin ["str"]) (.cons (.var 0) .nil))) (.cons (.raise 1 (.k .non)) .nil) .nil) (.cons (.asg (.name 1) (.mt .splitV (.var 0) (.k (.str (Str.ofString "\n"))))) (.cons (.asg (.tup [2, 3]) (.tup (.cons (.call 11 [(.inl 0)] (.cons (.bin .ix (.var 1) (.k (.int (0)))) .nil)) (.cons (.comp false [5, 6] (.name 6) (.of (.slice (.var 1) (.some (.k (.int (1)))) .none)) .none (.call 10 [(.inl 0)] (.cons (.var 6) .nil))) .nil)))) (.cons (.ifS (.or_ (.un .isN (.var 2)) (.bin .inn (.k .non) (.var 3))) (.cons (.raise 1 (.k (.int (0)))) .nil) .nil) (.cons (.asg (.name 4) (.bin .add (.var 2) (.tup (.cons (.bi .tuple_ (.cons (.comp false [5, 7, 8] (.tup [7, 8]) (.of (.var 3)) .none (.var 7)) .nil)) (.cons (.bi .tuple_ (.cons (.comp false [5, 7, 8] (.tup [7, 8]) (.of (.var 3)) .none (.var 8)) .nil)) .nil))))) (.cons (.ifS (.bin .ne (.call 6 [(.inl 0)] (.cons (.var 4) .nil)) (.tup .nil)) (.cons (.raise 1 (.k (.int (0)))) .nil) .nil) (.cons (.ret (.var 4)) .nil)))))))
def d_read_reader : DD := ⟨"read_reader", "read_reader", defArgs (top 25), defBody (top 25), defScope (top 25), [], ["text", "lines", "head", "rows", "reader", ".0", "line", "row", "let"], ["text"], false, [], m_read_reader⟩
def m__law_mixed : MSs := (.cons (.asg (.name 2) (.bin .add (.bin .add (.bin .mod (.bi .int_ (.cons (.bin .mul (.bin .mul (.var 0) (.bin .add (.k (.int (1))) (.bin .mul (.k (.int (2))) (.var 1)))) (.k (.int (48271)))) .nil)) (.k (.int (2147483647)))) (.bin .mul (.bin .mul (.k (.int (7919))) (.var 1)) (.var 1))) (.bin .mul (.k (.int (104729))) (.var 1)))) (.cons (.ret (.bin .fdiv (.bin .mod (.bi .int_ (.cons (.bin .mul (.var 2) (.k (.int (69621)))) .nil)) (.k (.int (2147483629)))) (.k (.int (7))))) .nil))
def d__law_mixed : DD := ⟨"_law_mixed", "_law_mixed", defArgs (top 27), defBody (top 27), defScope (top 27), [], ["cell", "n", "blend"], ["cell", "n"], false, [], m__law_mixed⟩
def m__law_folded : MSs := (.cons (.asg (.name 2) (.comp true [4, 1] (.name 1) (.range (.cons (.k (.int (64))) .nil)) .none (.bin .add (.k (.int (17))) (.var 1)))) (.cons (.forS (.tup [1, 3]) (.enum (.var 0)) (.cons (.setix (.var 2) (.bin .mod (.bi .int_ (.cons (.var 1) .nil)) (.k (.int (64)))) (.bin .mod (.bi .int_ (.cons (.bin .add (.bin .mul (.bin .ix (.var 2) (.bin .mod (.bi .int_ (.cons (.var 1) .nil)) (.k (.int (64))))) (.k (.int (48271)))) (.var 3)) .nil)) (.k (.int (2147483647))))) .nil)) (.cons (.forS (.name 1) (.range (.cons (.k (.int (1))) (.cons (.k (.int (64))) .nil))) (.cons (.setix (.var 2) (.var 1) (.bin .mod (.bi .int_ (.cons (.bin .add (.bin .ix (.var 2) (.var 1)) (.bin .mul (.bin .ix (.var 2) (.bin .sub (.var 1) (.k (.int (1))))) (.k (.int (16807))))) .nil)) (.k (.int (2147483647))))) .nil)) (.cons (.ret (.var 2)) .nil))))
def d__law_folded : DD := ⟨"_law_folded", "_law_folded", defArgs (top 28), defBody (top 28), defScope (top 28), [], ["script", "n", "found", "cell", ".0"], ["script"], false, ["found"], m__law_folded⟩
def m__law_draw : MSs := (.cons (.asg (.name 2) (.bin .ix (.var 0) (.k (.str (Str.ofString "spot"))))) (.cons (.setix (.var 0) (.k (.str (Str.ofString "spot"))) (.bin .add (.var 2) (.k (.int (1))))) (.cons (.ifS (.bin .ne (.bin .ix (.var 0) (.k (.str (Str.ofString "great")))) (.lst .nil)) (.cons (.asg (.name 3) (.bin .ix (.var 0) (.k (.str (Str.ofString "great"))))) (.cons (.asg (.name 4) (.bin .mod (.bi .int_ (.cons (.var 2) .nil)) (.bi .len (.cons (.var 3) .nil)))) (.cons (.asg (.name 5) (.bin .ix (.var 3) (.var 4))) (.cons (.ifS (.bin .gt (.var 5) (.k (.int (0)))) (.cons (.setix (.var 3) (.var 4) (.bin .fdiv (.var 5) (.var 1))) (.cons (.ret (.bin .mod (.bi .int_ (.cons (.var 5) .nil)) (.var 1))) .nil)) .nil) .nil)))) .nil) (.cons (.asg (.name 3) (.bin .ix (.var 0) (.k (.str (Str.ofString "cells"))))) (.cons (.ret (.bin .mod (.bi .int_ (.cons (.call 13 [(.inl 0), (.inl 1)] (.cons (.call 13 [(.inl 0), (.inl 1)] (.cons (.bin .add (.bin .ix (.var 3) (.bin .mod (.bi .int_ (.cons (.var 2) .nil)) (.k (.int (64))))) (.bin .mul (.k (.int (31))) (.bin .fdiv (.var 2) (.k (.int (64)))))) (.cons (.var 2) .nil))) (.cons (.bin .add (.var 2) (.k (.int (7)))) .nil))) .nil)) (.var 1))) .nil)))))
def d__law_draw : DD := ⟨"_law_draw", "_law_draw", defArgs (top 29), defBody (top 29), defScope (top 29), [], ["m", "limit", "n", "lot", "here", "cell"], ["m", "limit"], false, [], m__law_draw⟩
def m__law_begun : MSs := (.cons (.asg (.name 1) (.dctR [(.inr (Str.ofString "cells")), (.inr (Str.ofString "great")), (.inr (Str.ofString "spot"))] (.cons (.call 14 [(.inl 0)] (.cons (.var 0) .nil)) (.cons (.lst .nil) (.cons (.k (.int (0))) .nil))))) (.cons (.setix (.var 1) (.k (.str (Str.ofString "great"))) (.comp true [2, 3] (.name 3) (.of (.var 0)) .none (.ite (.bin .ge (.var 3) (.bin .pow (.k (.int (10))) (.k (.int (18))))) (.var 3) (.k (.int (0)))))) (.cons (.ret (.var 1)) .nil)))
def d__law_begun : DD := ⟨"_law_begun", "_law_begun", defArgs (top 30), defBody (top 30), defScope (top 30), [], ["script", "m", ".0", "cell"], ["script"], true, [], m__law_begun⟩
def m__law_of : MSs := (.cons (.ret (.bin .ix (.var 1) (.call 15 [(.inl 0), (.inl 1)] (.cons (.var 0) (.cons (.bi .len (.cons (.var 1) .nil)) .nil))))) .nil)
def d__law_of : DD := ⟨"_law_of", "_law_of", defArgs (top 31), defBody (top 31), defScope (top 31), [], ["m", "some"], ["m", "some"], false, [], m__law_of⟩
def m__law_like : MSs := (.cons (.ifS (.un .isN (.var 1)) (.cons (.ret (.un .isN (.var 0))) .nil) .nil) (.cons (.ifS (.bi (.isin ["bool"]) (.cons (.var 1) .nil)) (.cons (.ret (.and_ (.bi (.isin ["bool"]) (.cons (.var 0) .nil)) (.bin .eq (.var 0) (.var 1)))) .nil) .nil) (.cons (.ifS (.bi (.isin ["int"]) (.cons (.var 1) .nil)) (.cons (.ret (.and_ (.bi (.isin ["int"]) (.cons (.var 0) .nil)) (.and_ (.not_ (.bi (.isin ["bool"]) (.cons (.var 0) .nil))) (.bin .eq (.var 0) (.var 1))))) .nil) .nil) (.cons (.ifS (.bi (.isin ["str"]) (.cons (.var 1) .nil)) (.cons (.ret (.and_ (.bi (.isin ["str"]) (.cons (.var 0) .nil)) (.bin .eq (.var 0) (.var 1)))) .nil) .nil) (.cons (.ifS (.or_ (.and_ (.bi (.isin ["tuple"]) (.cons (.var 1) .nil)) (.not_ (.bi (.isin ["tuple"]) (.cons (.var 0) .nil)))) (.and_ (.bi (.isin ["list"]) (.cons (.var 1) .nil)) (.not_ (.bi (.isin ["list"]) (.cons (.var 0) .nil))))) (.cons (.ret (.k (.bl false))) .nil) .nil) (.cons (.ifS (.bin .ne (.bi .len (.cons (.var 0) .nil)) (.bi .len (.cons (.var 1) .nil))) (.cons (.ret (.k (.bl false))) .nil) .nil) (.cons (.forS (.name 2) (.range (.cons (.bi .len (.cons (.var 1) .nil)) .nil)) (.cons (.ifS (.not_ (.call 18 [(.inl 0), (.inl 1)] (.cons (.bin .ix (.var 0) (.var 2)) (.cons (.bin .ix (.var 1) (.var 2)) .nil)))) (.cons (.ret (.k (.bl false))) .nil) .nil) .nil)) (.cons (.ret (.k (.bl true))) .nil))))))))
def d__law_like : DD := ⟨"_law_like", "_law_like", defArgs (top 32), defBody (top 32), defScope (top 32), [], ["got", "due", "n"], ["got", "due"], false, [], m__law_like⟩
def m__law_power : MSs := (.cons (.asg (.name 2) (.k (.int (1)))) (.cons (.forS (.name 3) (.range (.cons (.var 1) .nil)) (.cons (.asg (.name 2) (.bin .mul (.var 2) (.var 0))) .nil)) (.cons (.ret (.var 2)) .nil)))
def d__law_power : DD := ⟨"_law_power", "_law_power", defArgs (top 33), defBody (top 33), defScope (top 33), [], ["base", "times", "found", "turn"], ["base", "times"], false, [], m__law_power⟩
def m__law_proof : MSs := (.cons (.asg (.name 4) (.lstR .nil)) (.cons (.forS (.name 5) (.range (.cons (.bi .len (.cons (.var 2) .nil)) .nil)) (.cons (.asg (.tup [6, 7]) (.tup (.cons (.var 5) (.cons (.dctR [] .nil) .nil)))) (.cons (.whileS (.bin .nin (.var 6) (.var 7)) (.cons (.setix (.var 7) (.var 6) (.bi .len (.cons (.var 7) .nil))) (.cons (.asg (.name 6) (.bin .ix (.bin .ix (.var 2) (.var 6)) (.k (.int (0))))) .nil))) (.cons (.asg (.tup [8, 9]) (.tup (.cons (.lstR (.cons (.var 6) .nil)) (.cons (.bin .ix (.bin .ix (.var 2) (.var 6)) (.k (.int (0)))) .nil)))) (.cons (.whileS (.bin .ne (.var 9) (.var 6)) (.cons (.ex (.app 8 (.var 9))) (.cons (.asg (.name 9) (.bin .ix (.bin .ix (.var 2) (.var 9)) (.k (.int (0))))) .nil))) (.cons (.ex (.app 4 (.bin .ix (.var 3) (.bi .min1 (.cons (.var 8) .nil))))) .nil)))))) (.cons (.ret (.tup (.cons (.var 0) (.cons (.var 1) (.cons (.bi .tuple_ (.cons (.comp false [10, 11] (.name 11) (.of (.var 2)) .none (.bi .tuple_ (.cons (.var 11) .nil))) .nil)) (.cons (.bi .tuple_ (.cons (.var 4) .nil)) .nil)))))) .nil)))
def d__law_proof : DD := ⟨"_law_proof", "_law_proof", defArgs (top 34), defBody (top 34), defScope (top 34), [], ["base", "tracks", "rows", "lets", "told", "state", "at", "met", "ring", "one", ".0", "row"], ["base", "tracks", "rows", "lets"], false, ["told", "ring"], m__law_proof⟩
def m__law_reader : MSs := (.cons (.asg (.name 4) (.call 19 [(.inl 0), (.inl 1)] (.cons (.var 1) (.cons (.var 2) .nil)))) (.cons (.asg (.tup [5, 6]) (.tup (.cons (.call 15 [(.inl 0), (.inl 1)] (.cons (.var 0) (.cons (.k (.int (3))) .nil))) (.cons (.lstR .nil) .nil)))) (.cons (.forS (.name 7) (.range (.cons (.var 3) .nil)) (.cons (.ifS (.bin .eq (.var 5) (.k (.int (0)))) (.cons (.asg (.name 8) (.comp false [9, 10] (.name 10) (.range (.cons (.k (.int (2))) .nil)) .none (.call 15 [(.inl 0), (.inl 1)] (.cons (.var 0) (.cons (.var 3) .nil))))) (.cons (.ex (.app 6 (.comp false [9, 11] (.name 11) (.range (.cons (.var 4) .nil)) .none (.bin .ix (.var 8) (.call 15 [(.inl 0), (.inl 1)] (.cons (.var 0) (.cons (.k (.int (2))) .nil))))))) .nil)) (.cons (.ex (.app 6 (.comp false [9, 11] (.name 11) (.range (.cons (.var 4) .nil)) .none (.call 15 [(.inl 0), (.inl 1)] (.cons (.var 0) (.cons (.var 3) .nil)))))) .nil)) .nil)) (.cons (.ret (.call 20 [(.inl 0), (.inl 1), (.inl 2), (.inl 3)] (.cons (.var 1) (.cons (.var 2) (.cons (.var 6) (.cons (.comp false [9, 7] (.name 7) (.range (.cons (.var 3) .nil)) .none (.bin .eq (.call 15 [(.inl 0), (.inl 1)] (.cons (.var 0) (.cons (.k (.int (2))) .nil))) (.k (.int (0))))) .nil)))))) .nil))))
def d__law_reader : DD := ⟨"_law_reader", "_law_reader", defArgs (top 35), defBody (top 35), defScope (top 35), [], ["m", "base", "tracks", "states", "columns", "thin", "rows", "state", "near", ".0", "n", "column"], ["m", "base", "tracks", "states"], false, ["rows"], m__law_reader⟩
def m__law_text : MSs := (.cons (.asg (.name 1) (.lstR (.cons (.bin .add (.bin .add (.bin .add (.k (.str (Str.ofString "base "))) (.bi .str_ (.cons (.bin .ix (.var 0) (.k (.int (0)))) .nil))) (.k (.str (Str.ofString " tracks ")))) (.bi .str_ (.cons (.bin .ix (.var 0) (.k (.int (1)))) .nil))) .nil))) (.cons (.forS (.tup [2, 3]) (.zip (.bin .ix (.var 0) (.k (.int (2)))) (.bin .ix (.var 0) (.k (.int (3))))) (.cons (.ex (.app 1 (.mt .join (.k (.str (Str.ofString " "))) (.bin .add (.lst (.cons (.bin .ix (.lst (.cons (.k (.str (Str.ofString "no"))) (.cons (.k (.str (Str.ofString "yes"))) .nil))) (.bi .int_ (.cons (.var 3) .nil))) .nil)) (.comp false [4, 5] (.name 5) (.of (.var 2)) .none (.bi .str_ (.cons (.var 5) .nil))))))) .nil)) (.cons (.ret (.mt .join (.k (.str (Str.ofString "\n"))) (.var 1))) .nil)))
def d__law_text : DD := ⟨"_law_text", "_law_text", defArgs (top 36), defBody (top 36), defScope (top 36), [], ["reader", "lines", "row", "let", ".0", "state"], ["reader"], false, ["lines"], m__law_text⟩
def m__law_number : MSs := (.cons (.ifS (.or_ (.bin .eq (.var 0) (.k (.str (Str.ofString "")))) (.or_ (.bin .ne (.comp false [1, 2] (.name 2) (.of (.var 0)) (.some (.bin .nin (.var 2) (.k (.str (Str.ofString "0123456789"))))) (.k (.int (1)))) (.lst .nil)) (.or_ (.and_ (.bin .gt (.bi .len (.cons (.var 0) .nil)) (.k (.int (1)))) (.bin .eq (.bin .ix (.var 0) (.k (.int (0)))) (.k (.str (Str.ofString "0"))))) (.bin .gt (.bi .len (.cons (.var 0) .nil)) (.k (.int (9))))))) (.cons (.ret (.un .neg (.k (.int (1))))) .nil) .nil) (.cons (.ret (.bi .int_ (.cons (.var 0) .nil))) .nil))
def d__law_number : DD := ⟨"_law_number", "_law_number", defArgs (top 37), defBody (top 37), defScope (top 37), [], ["word", ".0", "sign"], ["word"], false, [], m__law_number⟩
def m__law_due : MSs := (.cons (.asg (.name 1) (.mt .splitV (.var 0) (.k (.str (Str.ofString "\n"))))) (.cons (.asg (.name 2) (.mt .splitV (.bin .ix (.var 1) (.k (.int (0)))) (.k (.str (Str.ofString " "))))) (.cons (.ifS (.or_ (.bin .ne (.bi .len (.cons (.var 2) .nil)) (.k (.int (4)))) (.or_ (.bin .ne (.bin .ix (.var 2) (.k (.int (0)))) (.k (.str (Str.ofString "base")))) (.bin .ne (.bin .ix (.var 2) (.k (.int (2)))) (.k (.str (Str.ofString "tracks")))))) (.cons (.ret (.k .non)) .nil) .nil) (.cons (.unp [(.name 3), (.name 4), (.name 5), (.name 6)] (.tup (.cons (.call 23 [(.inl 0)] (.cons (.bin .ix (.var 2) (.k (.int (1)))) .nil)) (.cons (.call 23 [(.inl 0)] (.cons (.bin .ix (.var 2) (.k (.int (3)))) .nil)) (.cons (.lstR .nil) (.cons (.lstR .nil) .nil)))))) (.cons (.ifS (.or_ (.not_ (.chain .le .le (.k (.int (2))) (.var 3) (.k (.int (10))))) (.or_ (.not_ (.chain .le .le (.k (.int (0))) (.var 4) (.k (.int (6))))) (.bin .lt (.bi .len (.cons (.var 1) .nil)) (.k (.int (2)))))) (.cons (.ret (.k .non)) .nil) .nil) (.cons (.forS (.name 7) (.of (.slice (.var 1) (.some (.k (.int (1)))) .none)) (.cons (.asg (.name 2) (.mt .splitV (.var 7) (.k (.str (Str.ofString " "))))) (.cons (.asg (.name 8) (.bi .tuple_ (.cons (.comp false [9, 10] (.name 10) (.of (.slice (.var 2) (.some (.k (.int (1)))) .none)) .none (.call 23 [(.inl 0)] (.cons (.var 10) .nil))) .nil))) (.cons (.ifS (.or_ (.bin .nin (.bin .ix (.var 2) (.k (.int (0)))) (.lst (.cons (.k (.str (Str.ofString "yes"))) (.cons (.k (.str (Str.ofString "no"))) .nil)))) (.or_ (.bin .ne (.bi .len (.cons (.var 8) .nil)) (.call 19 [(.inl 0), (.inl 1)] (.cons (.var 3) (.cons (.var 4) .nil)))) (.bin .ne (.comp false [9, 11] (.name 11) (.of (.var 8)) (.some (.not_ (.chain .le .lt (.k (.int (0))) (.var 11) (.bin .sub (.bi .len (.cons (.var 1) .nil)) (.k (.int (1))))))) (.k (.int (1)))) (.lst .nil)))) (.cons (.ret (.k .non)) .nil) .nil) (.cons (.ex (.app 5 (.var 8))) (.cons (.ex (.app 6 (.bin .eq (.bin .ix (.var 2) (.k (.int (0)))) (.k (.str (Str.ofString "yes")))))) .nil)))))) (.cons (.ifS (.bin .ne (.comp false [9, 12] (.name 12) (.range (.cons (.bi .len (.cons (.var 5) .nil)) .nil)) (.some (.bin .ne (.bin .ix (.var 6) (.var 12)) (.bin .ix (.var 6) (.bin .ix (.bin .ix (.var 5) (.var 12)) (.k (.int (0))))))) (.k (.int (1)))) (.lst .nil)) (.cons (.ret (.k .non)) .nil) .nil) (.cons (.ret (.tup (.cons (.var 3) (.cons (.var 4) (.cons (.bi .tuple_ (.cons (.var 5) .nil)) (.cons (.bi .tuple_ (.cons (.var 6) .nil)) .nil)))))) .nil))))))))
def d__law_due : DD := ⟨"_law_due", "_law_due", defArgs (top 38), defBody (top 38), defScope (top 38), [], ["text", "lines", "words", "base", "tracks", "rows", "lets", "line", "row", ".0", "word", "one", "n"], ["text"], false, ["rows", "lets"], m__law_due⟩
def m__law_bent : MSs := (.cons (.asg (.tup [2, 3]) (.tup (.cons (.mt .splitR (.var 1) (.k (.str (Str.ofString "\n")))) (.cons (.call 15 [(.inl 0), (.inl 1)] (.cons (.var 0) (.cons (.k (.int (7))) .nil))) .nil)))) (.cons (.asg (.name 4) (.call 17 [(.inl 0), (.inl 1)] (.cons (.var 0) (.cons (.lst (.cons (.k (.str (Str.ofString ""))) (.cons (.k (.str (Str.ofString "0"))) (.cons (.k (.str (Str.ofString "1"))) (.cons (.k (.str (Str.ofString "-1"))) (.cons (.k (.str (Str.ofString " "))) (.cons (.k (.str (Str.ofString "00"))) (.cons (.k (.str (Str.ofString "yes"))) (.cons (.k (.str (Str.ofString "no"))) (.cons (.k (.str (Str.ofString "x"))) (.cons (.k (.str (Str.ofString "\n"))) (.cons (.k (.str (Str.ofString "+1"))) (.cons (.k (.str (Str.ofString "1_0"))) (.cons (.k (.str (Str.ofString "True"))) (.cons (.k (.str (Str.ofString "base 2 tracks 1"))) .nil))))))))))))))) .nil)))) (.cons (.asg (.tup [5, 6]) (.tup (.cons (.call 15 [(.inl 0), (.inl 1)] (.cons (.var 0) (.cons (.bi .len (.cons (.var 2) .nil)) .nil))) (.cons (.call 15 [(.inl 0), (.inl 1)] (.cons (.var 0) (.cons (.bin .add (.bi .len (.cons (.var 1) .nil)) (.k (.int (1)))) .nil))) .nil)))) (.cons (.asg (.name 7) (.mt .splitV (.bin .ix (.var 2) (.var 5)) (.k (.str (Str.ofString " "))))) (.cons (.asg (.name 8) (.call 15 [(.inl 0), (.inl 1)] (.cons (.var 0) (.cons (.bi .len (.cons (.var 7) .nil)) .nil)))) (.cons (.ifS (.bin .eq (.var 3) (.k (.int (0)))) (.cons (.ret (.bin .add (.bin .add (.slice (.var 1) .none (.some (.var 6))) (.var 4)) (.slice (.var 1) (.some (.var 6)) .none))) .nil) .nil) (.cons (.ifS (.bin .eq (.var 3) (.k (.int (1)))) (.cons (.ret (.bin .add (.slice (.var 1) .none (.some (.var 6))) (.slice (.var 1) (.some (.bin .add (.var 6) (.k (.int (1))))) .none))) .nil) .nil) (.cons (.ifS (.bin .eq (.var 3) (.k (.int (2)))) (.cons (.asg (.name 2) (.bin .add (.slice (.var 2) .none (.some (.var 5))) (.slice (.var 2) (.some (.bin .add (.var 5) (.k (.int (1))))) .none))) .nil) (.cons (.ifS (.bin .eq (.var 3) (.k (.int (3)))) (.cons (.asg (.name 2) (.bin .add (.bin .add (.slice (.var 2) .none (.some (.var 5))) (.lst (.cons (.var 4) .nil))) (.slice (.var 2) (.some (.var 5)) .none))) .nil) (.cons (.ifS (.bin .eq (.var 3) (.k (.int (4)))) (.cons (.setix (.var 2) (.var 5) (.mt .join (.k (.str (Str.ofString " "))) (.bin .add (.bin .add (.slice (.var 7) .none (.some (.var 8))) (.lst (.cons (.var 4) .nil))) (.slice (.var 7) (.some (.bin .add (.var 8) (.k (.int (1))))) .none)))) .nil) (.cons (.ifS (.bin .eq (.var 3) (.k (.int (5)))) (.cons (.setix (.var 2) (.var 5) (.mt .join (.k (.str (Str.ofString " "))) (.bin .add (.bin .add (.slice (.var 7) .none (.some (.var 8))) (.lst (.cons (.bin .add (.k (.str (Str.ofString "0"))) (.bin .ix (.var 7) (.var 8))) .nil))) (.slice (.var 7) (.some (.bin .add (.var 8) (.k (.int (1))))) .none)))) .nil) (.cons (.asg (.name 9) (.call 15 [(.inl 0), (.inl 1)] (.cons (.var 0) (.cons (.bi .len (.cons (.var 2) .nil)) .nil)))) (.cons (.unp [(.sub (.var 2) (.var 5)), (.sub (.var 2) (.var 9))] (.tup (.cons (.bin .ix (.var 2) (.var 9)) (.cons (.bin .ix (.var 2) (.var 5)) .nil)))) .nil))) .nil)) .nil)) .nil)) (.cons (.ret (.mt .join (.k (.str (Str.ofString "\n"))) (.var 2))) .nil)))))))))
def d__law_bent : DD := ⟨"_law_bent", "_law_bent", defArgs (top 39), defBody (top 39), defScope (top 39), [], ["m", "text", "lines", "pick", "odd", "place", "spot", "words", "at", "other"], ["m", "text"], false, ["lines"], m__law_bent⟩
def m__law_read : MSs := (.cons (.try_ (.cons (.asg (.name 1) (.call 12 [(.inl 0)] (.cons (.var 0) .nil))) .nil) [(.mk 1 (some 2) (some 1) (.lst (.cons .exarg .nil)))]) (.cons (.ret (.var 1)) .nil))
def d__law_read : DD := ⟨"_law_read", "_law_read", defArgs (top 40), defBody (top 40), defScope (top 40), [], ["text", "told", "e"], ["text"], false, [], m__law_read⟩
def m__law_written : MSs := (.cons (.try_ (.cons (.asg (.name 1) (.lst (.cons (.k (.str (Str.ofString "told"))) (.cons (.call 8 [(.inl 0)] (.cons (.var 0) .nil)) .nil)))) .nil) [(.mk 0 (some 2) (some 1) (.lst (.cons (.k (.str (Str.ofString "reader"))) (.cons .exarg .nil)))), (.mk 2 (some 2) (some 1) (.lst (.cons (.k (.str (Str.ofString "many"))) (.cons .exarg .nil))))]) (.cons (.ret (.var 1)) .nil))
def d__law_written : DD := ⟨"_law_written", "_law_written", defArgs (top 41), defBody (top 41), defScope (top 41), [], ["reader", "told", "e"], ["reader"], false, [], m__law_written⟩
def m_law : MSs := (.cons (.asg (.name 1) (.call 16 [(.inl 0)] (.cons (.var 0) .nil))) (.cons (.forS (.name 2) (.range (.cons (.k (.int (3))) .nil)) (.cons (.asg (.tup [3, 4]) (.tup (.cons (.bin .add (.k (.int (2))) (.call 15 [(.inl 0), (.inl 1)] (.cons (.var 1) (.cons (.k (.int (9))) .nil)))) (.cons (.call 15 [(.inl 0), (.inl 1)] (.cons (.var 1) (.cons (.k (.int (3))) .nil))) .nil)))) (.cons (.asg (.name 5) (.call 21 [(.inl 0), (.inl 1), (.inl 2), (.inl 3)] (.cons (.var 1) (.cons (.var 3) (.cons (.ite (.bin .lt (.var 3) (.k (.int (4)))) (.var 4) (.bi .min2 (.cons (.var 4) (.cons (.k (.int (1))) .nil)))) (.cons (.bin .add (.k (.int (1))) (.call 15 [(.inl 0), (.inl 1)] (.cons (.var 1) (.cons (.k (.int (12))) .nil)))) .nil)))))) (.cons (.asg (.name 6) (.call 22 [(.inl 0)] (.cons (.var 5) .nil))) (.cons (.ifS (.not_ (.call 18 [(.inl 0), (.inl 1)] (.cons (.lst (.cons (.call 8 [(.inl 0)] (.cons (.var 5) .nil)) (.cons (.call 12 [(.inl 0)] (.cons (.var 6) .nil)) (.cons (.call 8 [(.inl 0)] (.cons (.var 5) .nil)) (.cons (.call 12 [(.inl 0)] (.cons (.var 6) .nil)) .nil))))) (.cons (.lst (.cons (.var 6) (.cons (.var 5) (.cons (.var 6) (.cons (.var 5) .nil))))) .nil)))) (.cons (.ret (.k (.bl false))) .nil) .nil) (.cons (.forS (.name 7) (.range (.cons (.k (.int (8))) .nil)) (.cons (.asg (.name 8) (.call 25 [(.inl 0), (.inl 1)] (.cons (.var 1) (.cons (.var 6) .nil)))) (.cons (.asg (.name 9) (.call 24 [(.inl 0)] (.cons (.var 8) .nil))) (.cons (.ifS (.not_ (.call 18 [(.inl 0), (.inl 1)] (.cons (.call 26 [(.inl 0)] (.cons (.var 8) .nil)) (.cons (.ite (.un .isN (.var 9)) (.lst (.cons (.k (.int (0))) .nil)) (.var 9)) .nil)))) (.cons (.ret (.k (.bl false))) .nil) .nil) .nil)))) .nil)))))) (.cons (.asg (.name 10) (.bin .add (.k (.int (3330))) (.call 15 [(.inl 0), (.inl 1)] (.cons (.var 1) (.cons (.k (.int (2))) .nil))))) (.cons (.asg (.name 11) (.tup (.cons (.k (.int (2))) (.cons (.k (.int (0))) (.cons (.bin .mul (.tup (.cons (.tup (.cons (.k (.int (0))) .nil)) .nil)) (.var 10)) (.cons (.bin .mul (.tup (.cons (.k (.bl true)) .nil)) (.var 10)) .nil)))))) (.cons (.asg (.name 6) (.call 22 [(.inl 0)] (.cons (.tup (.cons (.k (.int (2))) (.cons (.k (.int (0))) (.cons (.bin .mul (.tup (.cons (.tup (.cons (.k (.int (0))) .nil)) .nil)) (.var 10)) (.cons (.bin .mul (.tup (.cons (.k (.bl true)) .nil)) (.var 10)) .nil))))) .nil))) (.cons (.asg (.name 12) (.bin .add (.k (.int (2498))) (.call 15 [(.inl 0), (.inl 1)] (.cons (.var 1) (.cons (.k (.int (2))) .nil))))) (.cons (.asg (.name 13) (.tup (.cons (.k (.int (2))) (.cons (.k (.int (1))) (.cons (.bin .mul (.tup (.cons (.tup (.cons (.k (.int (0))) (.cons (.k (.int (0))) .nil))) .nil)) (.var 12)) (.cons (.bin .mul (.tup (.cons (.k (.bl true)) .nil)) (.var 12)) .nil)))))) (.cons (.asg (.name 14) (.bin .add (.k (.int (5))) (.call 15 [(.inl 0), (.inl 1)] (.cons (.var 1) (.cons (.k (.int (2))) .nil))))) (.cons (.asg (.name 15) (.tup (.cons (.k (.int (2))) (.cons (.k (.int (0))) (.cons (.bin .add (.bin .mul (.tup (.cons (.tup (.cons (.k (.int (0))) .nil)) .nil)) (.bin .sub (.k (.int (3330))) (.var 14))) (.bin .mul (.tup (.cons (.tup (.cons (.k (.int (10))) .nil)) .nil)) (.var 14))) (.cons (.bin .mul (.tup (.cons (.k (.bl true)) .nil)) (.k (.int (3330)))) .nil)))))) (.cons (.asg (.name 9) (.ite (.bin .le (.bi .len (.cons (.call 22 [(.inl 0)] (.cons (.var 15) .nil)) .nil)) (.k (.int (20000)))) (.lst (.cons (.k (.str (Str.ofString "told"))) (.cons (.call 22 [(.inl 0)] (.cons (.var 15) .nil)) .nil))) (.lst (.cons (.k (.str (Str.ofString "many"))) (.cons (.k (.int (20000))) .nil))))) (.cons (.ifS (.not_ (.call 18 [(.inl 0), (.inl 1)] (.cons (.call 27 [(.inl 0)] (.cons (.var 15) .nil)) (.cons (.var 9) .nil)))) (.cons (.ret (.k (.bl false))) .nil) .nil) (.cons (.asg (.name 16) (.bin .add (.k (.str (Str.ofString "base 2 tracks 0\nyes "))) (.bin .mul (.call 17 [(.inl 0), (.inl 1)] (.cons (.var 1) (.cons (.lst (.cons (.k (.str (Str.ofString "1"))) (.cons (.k (.str (Str.ofString "9"))) .nil))) .nil))) (.call 17 [(.inl 0), (.inl 1)] (.cons (.var 1) (.cons (.lst (.cons (.k (.int (6))) (.cons (.k (.int (1001))) (.cons (.k (.int (4300))) (.cons (.k (.int (4301))) (.cons (.k (.int (15000))) .nil)))))) .nil)))))) (.cons (.ifS (.not_ (.call 18 [(.inl 0), (.inl 1)] (.cons (.lst (.cons (.call 26 [(.inl 0)] (.cons (.var 16) .nil)) (.cons (.call 26 [(.inl 0)] (.cons (.bin .add (.bin .add (.k (.str (Str.ofString "base "))) (.bin .mul (.k (.str (Str.ofString "2"))) (.k (.int (4301))))) (.k (.str (Str.ofString " tracks 0\nyes 0")))) .nil)) .nil))) (.cons (.lst (.cons (.lst (.cons (.k (.int (0))) .nil)) (.cons (.lst (.cons (.k (.int (0))) .nil)) .nil))) .nil)))) (.cons (.ret (.k (.bl false))) .nil) .nil) (.cons (.asg (.name 17) (.lst (.cons (.call 27 [(.inl 0)] (.cons (.var 11) .nil)) (.cons (.call 27 [(.inl 0)] (.cons (.var 13) .nil)) .nil)))) (.cons (.asg (.name 18) (.lst (.cons (.ite (.bin .le (.bi .len (.cons (.var 6) .nil)) (.k (.int (20000)))) (.lst (.cons (.k (.str (Str.ofString "told"))) (.cons (.var 6) .nil))) (.lst (.cons (.k (.str (Str.ofString "many"))) (.cons (.k (.int (20000))) .nil)))) (.cons (.ite (.bin .le (.bi .len (.cons (.call 22 [(.inl 0)] (.cons (.var 13) .nil)) .nil)) (.k (.int (20000)))) (.lst (.cons (.k (.str (Str.ofString "told"))) (.cons (.call 22 [(.inl 0)] (.cons (.var 13) .nil)) .nil))) (.lst (.cons (.k (.str (Str.ofString "many"))) (.cons (.k (.int (20000))) .nil)))) .nil)))) (.cons (.ifS (.not_ (.call 18 [(.inl 0), (.inl 1)] (.cons (.var 17) (.cons (.var 18) .nil)))) (.cons (.ret (.k (.bl false))) .nil) .nil) (.cons (.asg (.name 17) (.lst (.cons (.call 26 [(.inl 0)] (.cons (.k .non) .nil)) (.cons (.call 26 [(.inl 0)] (.cons (.k (.int (5))) .nil)) (.cons (.call 26 [(.inl 0)] (.cons (.lst .nil) .nil)) (.cons (.call 26 [(.inl 0)] (.cons (.k (.str (Str.ofString ""))) .nil)) (.cons (.call 26 [(.inl 0)] (.cons (.k (.str (Str.ofString "base 2 tracks 0"))) .nil)) (.cons (.call 27 [(.inl 0)] (.cons (.k .non) .nil)) .nil)))))))) (.cons (.ret (.call 18 [(.inl 0), (.inl 1)] (.cons (.var 17) (.cons (.lst (.cons (.lst (.cons (.k .non) .nil)) (.cons (.lst (.cons (.k .non) .nil)) (.cons (.lst (.cons (.k .non) .nil)) (.cons (.lst (.cons (.k (.int (0))) .nil)) (.cons (.lst (.cons (.k (.int (0))) .nil)) (.cons (.lst (.cons (.k (.str (Str.ofString "reader"))) (.cons (.k (.str (Str.ofString "form"))) .nil))) .nil))))))) .nil)))) .nil))))))))))))))))))
def d_law : DD := ⟨"law", "law", defArgs (top 42), defBody (top 42), defScope (top 42), [], ["script", "m", "turn", "base", "tracks", "reader", "text", "again", "bent", "due", "many", "long", "size", "short", "few", "just", "far", "told", "wanted"], ["script"], false, [], m_law⟩
def defsL : List DD := [d_is_whole, d_is_row, d_are_wholes, d_power_of, d_is_base, d_has_form, d_reader_fault, d_need_reader, d_reader_text, d_read_figures, d_read_row, d_read_head, d_read_reader, d__law_mixed, d__law_folded, d__law_draw, d__law_begun, d__law_of, d__law_like, d__law_power, d__law_proof, d__law_reader, d__law_text, d__law_number, d__law_due, d__law_bent, d__law_read, d__law_written, d_law]
def namesL : List Str := ["is_whole", "is_row", "are_wholes", "power_of", "is_base", "has_form", "reader_fault", "need_reader", "reader_text", "read_figures", "read_row", "read_head", "read_reader", "_law_mixed", "_law_folded", "_law_draw", "_law_begun", "_law_of", "_law_like", "_law_power", "_law_proof", "_law_reader", "_law_text", "_law_number", "_law_due", "_law_bent", "_law_read", "_law_written", "law"]
def excL : List Str := ["BadReader", "BadText", "TooMany"]
def PRof (K : PySem.W.Frag) : PR where
  T := T0
  defs := defsL
  fa := fun f => He.fAd K ((namesL[f]?).getD "", none)
  fd := fun f => fdAt K (He.fAd K ((namesL[f]?).getD "", none))
  cl := fun c => He.ga K ((excL[c]?).getD "")
/-! ### the translations -/
theorem tr_is_whole : trSs (rc 40) 120 { T0 with N := d_is_whole.N, sc := d_is_whole.scope, fn := fun _ => true, mu := d_is_whole.mu } d_is_whole.body = some d_is_whole.m := by kernel_rfl
theorem sc_is_whole : FnScope d_is_whole.N d_is_whole.ps d_is_whole.scope := ⟨rfl, rfl, rfl, by decide +kernel, rfl, by decide +kernel, by decide +kernel⟩
theorem tr_is_row : trSs (rc 40) 120 { T0 with N := d_is_row.N, sc := d_is_row.scope, fn := fun _ => true, mu := d_is_row.mu } d_is_row.body = some d_is_row.m := by kernel_rfl
theorem sc_is_row : FnScope d_is_row.N d_is_row.ps d_is_row.scope := ⟨rfl, rfl, rfl, by decide +kernel, rfl, by decide +kernel, by decide +kernel⟩
theorem tr_are_wholes : trSs (rc 40) 120 { T0 with N := d_are_wholes.N, sc := d_are_wholes.scope, fn := fun _ => true, mu := d_are_wholes.mu } d_are_wholes.body = some d_are_wholes.m := by kernel_rfl
theorem sc_are_wholes : FnScope d_are_wholes.N d_are_wholes.ps d_are_wholes.scope := ⟨rfl, rfl, rfl, by decide +kernel, rfl, by decide +kernel, by decide +kernel⟩
theorem tr_power_of : trSs (rc 40) 120 { T0 with N := d_power_of.N, sc := d_power_of.scope, fn := fun _ => true, mu := d_power_of.mu } d_power_of.body = some d_power_of.m := by kernel_rfl
theorem sc_power_of : FnScope d_power_of.N d_power_of.ps d_power_of.scope := ⟨rfl, rfl, rfl, by decide +kernel, rfl, by decide +kernel, by decide +kernel⟩
theorem tr_is_base : trSs (rc 40) 120 { T0 with N := d_is_base.N, sc := d_is_base.scope, fn := fun _ => true, mu := d_is_base.mu } d_is_base.body = some d_is_base.m := by kernel_rfl
theorem sc_is_base : FnScope d_is_base.N d_is_base.ps d_is_base.scope := ⟨rfl, rfl, rfl, by decide +kernel, rfl, by decide +kernel, by decide +kernel⟩
theorem tr_has_form : trSs (rc 40) 120 { T0 with N := d_has_form.N, sc := d_has_form.scope, fn := fun _ => true, mu := d_has_form.mu } d_has_form.body = some d_has_form.m := by kernel_rfl
theorem sc_has_form : FnScope d_has_form.N d_has_form.ps d_has_form.scope := ⟨rfl, rfl, rfl, by decide +kernel, rfl, by decide +kernel, by decide +kernel⟩
theorem tr_reader_fault : trSs (rc 40) 120 { T0 with N := d_reader_fault.N, sc := d_reader_fault.scope, fn := fun _ => true, mu := d_reader_fault.mu } d_reader_fault.body = some d_reader_fault.m := by kernel_rfl
theorem sc_reader_fault : FnScope d_reader_fault.N d_reader_fault.ps d_reader_fault.scope := ⟨rfl, rfl, rfl, by decide +kernel, rfl, by decide +kernel, by decide +kernel⟩
theorem tr_need_reader : trSs (rc 40) 120 { T0 with N := d_need_reader.N, sc := d_need_reader.scope, fn := fun _ => true, mu := d_need_reader.mu } d_need_reader.body = some d_need_reader.m := by kernel_rfl
theorem sc_need_reader : FnScope d_need_reader.N d_need_reader.ps d_need_reader.scope := ⟨rfl, rfl, rfl, by decide +kernel, rfl, by decide +kernel, by decide +kernel⟩
theorem tr_reader_text : trSs (rc 40) 120 { T0 with N := d_reader_text.N, sc := d_reader_text.scope, fn := fun _ => true, mu := d_reader_text.mu } d_reader_text.body = some d_reader_text.m := by kernel_rfl
theorem sc_reader_text : FnScope d_reader_text.N d_reader_text.ps d_reader_text.scope := ⟨rfl, rfl, rfl, by decide +kernel, rfl, by decide +kernel, by decide +kernel⟩
theorem tr_read_figures : trSs (rc 40) 120 { T0 with N := d_read_figures.N, sc := d_read_figures.scope, fn := fun _ => true, mu := d_read_figures.mu } d_read_figures.body = some d_read_figures.m := by kernel_rfl
theorem sc_read_figures : FnScope d_read_figures.N d_read_figures.ps d_read_figures.scope := ⟨rfl, rfl, rfl, by decide +kernel, rfl, by decide +kernel, by decide +kernel⟩
theorem tr_read_row : trSs (rc 40) 120 { T0 with N := d_read_row.N, sc := d_read_row.scope, fn := fun _ => true, mu := d_read_row.mu } d_read_row.body = some d_read_row.m := by kernel_rfl
theorem sc_read_row : FnScope d_read_row.N d_read_row.ps d_read_row.scope := ⟨rfl, rfl, rfl, by decide +kernel, rfl, by decide +kernel, by decide +kernel⟩
theorem tr_read_head : trSs (rc 40) 120 { T0 with N := d_read_head.N, sc := d_read_head.scope, fn := fun _ => true, mu := d_read_head.mu } d_read_head.body = some d_read_head.m := by kernel_rfl
theorem sc_read_head : FnScope d_read_head.N d_read_head.ps d_read_head.scope := ⟨rfl, rfl, rfl, by decide +kernel, rfl, by decide +kernel, by decide +kernel⟩
theorem tr_read_reader : trSs (rc 40) 120 { T0 with N := d_read_reader.N, sc := d_read_reader.scope, fn := fun _ => true, mu := d_read_reader.mu } d_read_reader.body = some d_read_reader.m := by kernel_rfl
theorem sc_read_reader : FnScope d_read_reader.N d_read_reader.ps d_read_reader.scope := ⟨rfl, rfl, rfl, by decide +kernel, rfl, by decide +kernel, by decide +kernel⟩
theorem tr__law_mixed : trSs (rc 40) 120 { T0 with N := d__law_mixed.N, sc := d__law_mixed.scope, fn := fun _ => true, mu := d__law_mixed.mu } d__law_mixed.body = some d__law_mixed.m := by kernel_rfl
theorem sc__law_mixed : FnScope d__law_mixed.N d__law_mixed.ps d__law_mixed.scope := ⟨rfl, rfl, rfl, by decide +kernel, rfl, by decide +kernel, by decide +kernel⟩
theorem tr__law_folded : trSs (rc 40) 120 { T0 with N := d__law_folded.N, sc := d__law_folded.scope, fn := fun _ => true, mu := d__law_folded.mu } d__law_folded.body = some d__law_folded.m := by kernel_rfl
theorem sc__law_folded : FnScope d__law_folded.N d__law_folded.ps d__law_folded.scope := ⟨rfl, rfl, rfl, by decide +kernel, rfl, by decide +kernel, by decide +kernel⟩
theorem tr__law_draw : trSs (rc 40) 120 { T0 with N := d__law_draw.N, sc := d__law_draw.scope, fn := fun _ => true, mu := d__law_draw.mu } d__law_draw.body = some d__law_draw.m := by kernel_rfl
theorem sc__law_draw : FnScope d__law_draw.N d__law_draw.ps d__law_draw.scope := ⟨rfl, rfl, rfl, by decide +kernel, rfl, by decide +kernel, by decide +kernel⟩
theorem tr__law_begun : trSs (rc 40) 120 { T0 with N := d__law_begun.N, sc := d__law_begun.scope, fn := fun _ => true, mu := d__law_begun.mu } d__law_begun.body = some d__law_begun.m := by kernel_rfl
theorem sc__law_begun : FnScope d__law_begun.N d__law_begun.ps d__law_begun.scope := ⟨rfl, rfl, rfl, by decide +kernel, rfl, by decide +kernel, by decide +kernel⟩
theorem tr__law_of : trSs (rc 40) 120 { T0 with N := d__law_of.N, sc := d__law_of.scope, fn := fun _ => true, mu := d__law_of.mu } d__law_of.body = some d__law_of.m := by kernel_rfl
theorem sc__law_of : FnScope d__law_of.N d__law_of.ps d__law_of.scope := ⟨rfl, rfl, rfl, by decide +kernel, rfl, by decide +kernel, by decide +kernel⟩
theorem tr__law_like : trSs (rc 40) 120 { T0 with N := d__law_like.N, sc := d__law_like.scope, fn := fun _ => true, mu := d__law_like.mu } d__law_like.body = some d__law_like.m := by kernel_rfl
theorem sc__law_like : FnScope d__law_like.N d__law_like.ps d__law_like.scope := ⟨rfl, rfl, rfl, by decide +kernel, rfl, by decide +kernel, by decide +kernel⟩
theorem tr__law_power : trSs (rc 40) 120 { T0 with N := d__law_power.N, sc := d__law_power.scope, fn := fun _ => true, mu := d__law_power.mu } d__law_power.body = some d__law_power.m := by kernel_rfl
theorem sc__law_power : FnScope d__law_power.N d__law_power.ps d__law_power.scope := ⟨rfl, rfl, rfl, by decide +kernel, rfl, by decide +kernel, by decide +kernel⟩
theorem tr__law_proof : trSs (rc 40) 120 { T0 with N := d__law_proof.N, sc := d__law_proof.scope, fn := fun _ => true, mu := d__law_proof.mu } d__law_proof.body = some d__law_proof.m := by kernel_rfl
theorem sc__law_proof : FnScope d__law_proof.N d__law_proof.ps d__law_proof.scope := ⟨rfl, rfl, rfl, by decide +kernel, rfl, by decide +kernel, by decide +kernel⟩
theorem tr__law_reader : trSs (rc 40) 120 { T0 with N := d__law_reader.N, sc := d__law_reader.scope, fn := fun _ => true, mu := d__law_reader.mu } d__law_reader.body = some d__law_reader.m := by kernel_rfl
theorem sc__law_reader : FnScope d__law_reader.N d__law_reader.ps d__law_reader.scope := ⟨rfl, rfl, rfl, by decide +kernel, rfl, by decide +kernel, by decide +kernel⟩
theorem tr__law_text : trSs (rc 40) 120 { T0 with N := d__law_text.N, sc := d__law_text.scope, fn := fun _ => true, mu := d__law_text.mu } d__law_text.body = some d__law_text.m := by kernel_rfl
theorem sc__law_text : FnScope d__law_text.N d__law_text.ps d__law_text.scope := ⟨rfl, rfl, rfl, by decide +kernel, rfl, by decide +kernel, by decide +kernel⟩
theorem tr__law_number : trSs (rc 40) 120 { T0 with N := d__law_number.N, sc := d__law_number.scope, fn := fun _ => true, mu := d__law_number.mu } d__law_number.body = some d__law_number.m := by kernel_rfl
theorem sc__law_number : FnScope d__law_number.N d__law_number.ps d__law_number.scope := ⟨rfl, rfl, rfl, by decide +kernel, rfl, by decide +kernel, by decide +kernel⟩
theorem tr__law_due : trSs (rc 40) 120 { T0 with N := d__law_due.N, sc := d__law_due.scope, fn := fun _ => true, mu := d__law_due.mu } d__law_due.body = some d__law_due.m := by kernel_rfl
theorem sc__law_due : FnScope d__law_due.N d__law_due.ps d__law_due.scope := ⟨rfl, rfl, rfl, by decide +kernel, rfl, by decide +kernel, by decide +kernel⟩
theorem tr__law_bent : trSs (rc 40) 120 { T0 with N := d__law_bent.N, sc := d__law_bent.scope, fn := fun _ => true, mu := d__law_bent.mu } d__law_bent.body = some d__law_bent.m := by kernel_rfl
theorem sc__law_bent : FnScope d__law_bent.N d__law_bent.ps d__law_bent.scope := ⟨rfl, rfl, rfl, by decide +kernel, rfl, by decide +kernel, by decide +kernel⟩
theorem tr__law_read : trSs (rc 40) 120 { T0 with N := d__law_read.N, sc := d__law_read.scope, fn := fun _ => true, mu := d__law_read.mu } d__law_read.body = some d__law_read.m := by kernel_rfl
theorem sc__law_read : FnScope d__law_read.N d__law_read.ps d__law_read.scope := ⟨rfl, rfl, rfl, by decide +kernel, rfl, by decide +kernel, by decide +kernel⟩
theorem tr__law_written : trSs (rc 40) 120 { T0 with N := d__law_written.N, sc := d__law_written.scope, fn := fun _ => true, mu := d__law_written.mu } d__law_written.body = some d__law_written.m := by kernel_rfl
theorem sc__law_written : FnScope d__law_written.N d__law_written.ps d__law_written.scope := ⟨rfl, rfl, rfl, by decide +kernel, rfl, by decide +kernel, by decide +kernel⟩
theorem tr_law : trSs (rc 40) 120 { T0 with N := d_law.N, sc := d_law.scope, fn := fun _ => true, mu := d_law.mu } d_law.body = some d_law.m := by kernel_rfl
theorem sc_law : FnScope d_law.N d_law.ps d_law.scope := ⟨rfl, rfl, rfl, by decide +kernel, rfl, by decide +kernel, by decide +kernel⟩
end Dg
end

section
set_option Elab.async false
set_option linter.all false
set_option maxRecDepth 100000
set_option maxHeartbeats 0
namespace Dg
open PySem PySem.Spec L2
open PyProof.Rows hiding St
/-! ### the head -/
def exs : List ExD := [⟨"BadReader", "ValueError", "place", clsInit (top 2)⟩, ⟨"BadText", "ValueError", "line", clsInit (top 3)⟩, ⟨"TooMany", "OverflowError", "most", clsInit (top 4)⟩]
def fnL : List He.DefD := [⟨("is_whole", none), "is_whole", "is_whole", defArgs (top 6), defBody (top 6), defScope (top 6), [.non], []⟩,
  ⟨("is_row", none), "is_row", "is_row", defArgs (top 7), defBody (top 7), defScope (top 7), [.non], []⟩,
  ⟨("are_wholes", none), "are_wholes", "are_wholes", defArgs (top 8), defBody (top 8), defScope (top 8), [.non], []⟩,
  ⟨("power_of", none), "power_of", "power_of", defArgs (top 9), defBody (top 9), defScope (top 9), [], []⟩,
  ⟨("is_base", none), "is_base", "is_base", defArgs (top 14), defBody (top 14), defScope (top 14), [], []⟩,
  ⟨("has_form", none), "has_form", "has_form", defArgs (top 15), defBody (top 15), defScope (top 15), [], []⟩,
  ⟨("reader_fault", none), "reader_fault", "reader_fault", defArgs (top 16), defBody (top 16), defScope (top 16), [], []⟩,
  ⟨("need_reader", none), "need_reader", "need_reader", defArgs (top 17), defBody (top 17), defScope (top 17), [], []⟩,
  ⟨("reader_text", none), "reader_text", "reader_text", defArgs (top 21), defBody (top 21), defScope (top 21), [], []⟩,
  ⟨("read_figures", none), "read_figures", "read_figures", defArgs (top 22), defBody (top 22), defScope (top 22), [], []⟩,
  ⟨("read_row", none), "read_row", "read_row", defArgs (top 23), defBody (top 23), defScope (top 23), [], []⟩,
  ⟨("read_head", none), "read_head", "read_head", defArgs (top 24), defBody (top 24), defScope (top 24), [], []⟩,
  ⟨("read_reader", none), "read_reader", "read_reader", defArgs (top 25), defBody (top 25), defScope (top 25), [], []⟩,
  ⟨("_law_mixed", none), "_law_mixed", "_law_mixed", defArgs (top 27), defBody (top 27), defScope (top 27), [], []⟩,
  ⟨("_law_folded", none), "_law_folded", "_law_folded", defArgs (top 28), defBody (top 28), defScope (top 28), [], []⟩,
  ⟨("_law_draw", none), "_law_draw", "_law_draw", defArgs (top 29), defBody (top 29), defScope (top 29), [], []⟩,
  ⟨("_law_begun", none), "_law_begun", "_law_begun", defArgs (top 30), defBody (top 30), defScope (top 30), [], []⟩,
  ⟨("_law_of", none), "_law_of", "_law_of", defArgs (top 31), defBody (top 31), defScope (top 31), [], []⟩,
  ⟨("_law_like", none), "_law_like", "_law_like", defArgs (top 32), defBody (top 32), defScope (top 32), [], []⟩,
  ⟨("_law_power", none), "_law_power", "_law_power", defArgs (top 33), defBody (top 33), defScope (top 33), [], []⟩,
  ⟨("_law_proof", none), "_law_proof", "_law_proof", defArgs (top 34), defBody (top 34), defScope (top 34), [], []⟩,
  ⟨("_law_reader", none), "_law_reader", "_law_reader", defArgs (top 35), defBody (top 35), defScope (top 35), [], []⟩,
  ⟨("_law_text", none), "_law_text", "_law_text", defArgs (top 36), defBody (top 36), defScope (top 36), [], []⟩,
  ⟨("_law_number", none), "_law_number", "_law_number", defArgs (top 37), defBody (top 37), defScope (top 37), [], []⟩,
  ⟨("_law_due", none), "_law_due", "_law_due", defArgs (top 38), defBody (top 38), defScope (top 38), [], []⟩,
  ⟨("_law_bent", none), "_law_bent", "_law_bent", defArgs (top 39), defBody (top 39), defScope (top 39), [], []⟩,
  ⟨("_law_read", none), "_law_read", "_law_read", defArgs (top 40), defBody (top 40), defScope (top 40), [], []⟩,
  ⟨("_law_written", none), "_law_written", "_law_written", defArgs (top 41), defBody (top 41), defScope (top 41), [], []⟩,
  ⟨("law", none), "law", "law", defArgs (top 42), defBody (top 42), defScope (top 42), [], []⟩]
def fa0 : List He.Fa := [.glo "is_whole", .glo "is_row", .glo "are_wholes", .glo "power_of", .glo "is_base", .glo "has_form", .glo "reader_fault", .glo "need_reader", .glo "reader_text", .glo "read_figures", .glo "read_row", .glo "read_head", .glo "read_reader", .glo "_law_mixed", .glo "_law_folded", .glo "_law_draw", .glo "_law_begun", .glo "_law_of", .glo "_law_like", .glo "_law_power", .glo "_law_proof", .glo "_law_reader", .glo "_law_text", .glo "_law_number", .glo "_law_due", .glo "_law_bent", .glo "_law_read", .glo "_law_written", .glo "law", .glo "BadReader"]
def fa1 : List He.Fa := [.glo "BadText", .glo "TooMany", .free "len", .free "int", .free "str", .free "list", .free "tuple", .free "all", .free "any", .free "sum", .free "min", .free "max", .free "abs", .free "range", .free "enumerate", .free "zip", .free "isinstance", .free "bool", .free "dict", .free "super", .int "MOST_BASE" (10), .int "MOST_TRACKS" (6), .int "MOST_SIZE" (20000), .str "DIGITS" (Str.ofString "0123456789"), .int "MOST_TEXT" (20000), .exm "BadReader" "BadReader" true, .exm "BadReader" "BadText" false, .exm "BadReader" "TooMany" false, .exm "BadText" "BadReader" false, .exm "BadText" "BadText" true]
def fa2 : List He.Fa := [.exm "BadText" "TooMany" false, .exm "TooMany" "BadReader" false, .exm "TooMany" "BadText" false, .exm "TooMany" "TooMany" true]
def faL : List He.Fa := fa0 ++ fa1 ++ fa2
def loose0 : List PySem.Str := ["SaidError", "BadReader", "BadText", "TooMany", "is_whole", "is_row", "are_wholes", "power_of", "MOST_BASE", "MOST_TRACKS", "MOST_SIZE", "is_base", "has_form", "reader_fault", "need_reader", "DIGITS", "MOST_TEXT", "reader_text", "read_figures", "read_row", "read_head", "read_reader", "_law_mixed", "_law_folded", "_law_draw", "_law_begun", "_law_of", "_law_like", "_law_power", "_law_proof"]
def loose1 : List PySem.Str := ["_law_reader", "_law_text", "_law_number", "_law_due", "_law_bent", "_law_read", "_law_written"]
def looseL : List PySem.Str := loose0 ++ loose1
abbrev RO : PySem.W.OpenRow := PySem.W.OpenLaw.row PySem.Challenge.rw_digitsay_k04_texts_of_readers
abbrev hk : PySem.W.Hook := hookX 5 "/claim/cut.py" faL fnL exs
def ob (s : PySem.W.SharedT) : AlX := obsXG 5 "/claim/cut.py" faL fnL exs (HandSHeadRun.getT s)
theorem ob_eq (s : PySem.W.SharedT) : ob s = hk.obs s.abs := obsXG_eq (HandSHeadRun.getT_eq s)
theorem runH (w : World) : HandSHeadRun.RunEq RO (PySem.W.view RO.prog [42]) hk ob 4000 looseL w := by
  intro os
  kernel_rfl
end Dg
end

section
set_option Elab.async false
set_option linter.all false
set_option maxRecDepth 100000
set_option maxHeartbeats 0
namespace Dg
open PySem PySem.Spec L2
open PyProof.Rows hiding St
def x0 : ExD := ⟨"BadReader", "ValueError", "place", clsInit (top 2)⟩
theorem ext0 : ExT x0 := ⟨.inl rfl, ⟨_, _, _, _, _, _, _, _, _, _, _, _, _, _, _, rfl, rfl, rfl, by decide, fun _ _ _ _ _ _ _ _ _ _ _ _ _ => rfl, rfl, rfl, rfl, by decide +kernel, rfl, rfl, rfl, rfl, rfl, rfl, rfl⟩⟩
def x1 : ExD := ⟨"BadText", "ValueError", "line", clsInit (top 3)⟩
theorem ext1 : ExT x1 := ⟨.inl rfl, ⟨_, _, _, _, _, _, _, _, _, _, _, _, _, _, _, rfl, rfl, rfl, by decide, fun _ _ _ _ _ _ _ _ _ _ _ _ _ => rfl, rfl, rfl, rfl, by decide +kernel, rfl, rfl, rfl, rfl, rfl, rfl, rfl⟩⟩
def x2 : ExD := ⟨"TooMany", "OverflowError", "most", clsInit (top 4)⟩
theorem ext2 : ExT x2 := ⟨.inr (.inl rfl), ⟨_, _, _, _, _, _, _, _, _, _, _, _, _, _, _, rfl, rfl, rfl, by decide, fun _ _ _ _ _ _ _ _ _ _ _ _ _ => rfl, rfl, rfl, rfl, by decide +kernel, rfl, rfl, rfl, rfl, rfl, rfl, rfl⟩⟩
section
variable {w : World} {K : PySem.W.Frag} {h base : Heap} {mg : Str → Option Value}
abbrev Says (K : PySem.W.Frag) : Prop := SaysX "/claim/cut.py" faL fnL exs K
abbrev PP : Program := PySem.Challenge.pw_digitsay_k04_texts_of_readers
theorem fn_is_whole (c : Says K) : FunD K d_is_whole.x d_is_whole.qual d_is_whole.params d_is_whole.body d_is_whole.scope d_is_whole.dvs [] ((PRof K).fa 0) ((PRof K).fd 0) := fdAt_ok (c.d.def_ 0 rfl)
theorem fn_is_row (c : Says K) : FunD K d_is_row.x d_is_row.qual d_is_row.params d_is_row.body d_is_row.scope d_is_row.dvs [] ((PRof K).fa 1) ((PRof K).fd 1) := fdAt_ok (c.d.def_ 1 rfl)
theorem fn_are_wholes (c : Says K) : FunD K d_are_wholes.x d_are_wholes.qual d_are_wholes.params d_are_wholes.body d_are_wholes.scope d_are_wholes.dvs [] ((PRof K).fa 2) ((PRof K).fd 2) := fdAt_ok (c.d.def_ 2 rfl)
theorem fn_power_of (c : Says K) : FunD K d_power_of.x d_power_of.qual d_power_of.params d_power_of.body d_power_of.scope d_power_of.dvs [] ((PRof K).fa 3) ((PRof K).fd 3) := fdAt_ok (c.d.def_ 3 rfl)
theorem fn_is_base (c : Says K) : FunD K d_is_base.x d_is_base.qual d_is_base.params d_is_base.body d_is_base.scope d_is_base.dvs [] ((PRof K).fa 4) ((PRof K).fd 4) := fdAt_ok (c.d.def_ 4 rfl)
theorem fn_has_form (c : Says K) : FunD K d_has_form.x d_has_form.qual d_has_form.params d_has_form.body d_has_form.scope d_has_form.dvs [] ((PRof K).fa 5) ((PRof K).fd 5) := fdAt_ok (c.d.def_ 5 rfl)
theorem fn_reader_fault (c : Says K) : FunD K d_reader_fault.x d_reader_fault.qual d_reader_fault.params d_reader_fault.body d_reader_fault.scope d_reader_fault.dvs [] ((PRof K).fa 6) ((PRof K).fd 6) := fdAt_ok (c.d.def_ 6 rfl)
theorem fn_need_reader (c : Says K) : FunD K d_need_reader.x d_need_reader.qual d_need_reader.params d_need_reader.body d_need_reader.scope d_need_reader.dvs [] ((PRof K).fa 7) ((PRof K).fd 7) := fdAt_ok (c.d.def_ 7 rfl)
theorem fn_reader_text (c : Says K) : FunD K d_reader_text.x d_reader_text.qual d_reader_text.params d_reader_text.body d_reader_text.scope d_reader_text.dvs [] ((PRof K).fa 8) ((PRof K).fd 8) := fdAt_ok (c.d.def_ 8 rfl)
theorem fn_read_figures (c : Says K) : FunD K d_read_figures.x d_read_figures.qual d_read_figures.params d_read_figures.body d_read_figures.scope d_read_figures.dvs [] ((PRof K).fa 9) ((PRof K).fd 9) := fdAt_ok (c.d.def_ 9 rfl)
theorem fn_read_row (c : Says K) : FunD K d_read_row.x d_read_row.qual d_read_row.params d_read_row.body d_read_row.scope d_read_row.dvs [] ((PRof K).fa 10) ((PRof K).fd 10) := fdAt_ok (c.d.def_ 10 rfl)
theorem fn_read_head (c : Says K) : FunD K d_read_head.x d_read_head.qual d_read_head.params d_read_head.body d_read_head.scope d_read_head.dvs [] ((PRof K).fa 11) ((PRof K).fd 11) := fdAt_ok (c.d.def_ 11 rfl)
theorem fn_read_reader (c : Says K) : FunD K d_read_reader.x d_read_reader.qual d_read_reader.params d_read_reader.body d_read_reader.scope d_read_reader.dvs [] ((PRof K).fa 12) ((PRof K).fd 12) := fdAt_ok (c.d.def_ 12 rfl)
theorem fn__law_mixed (c : Says K) : FunD K d__law_mixed.x d__law_mixed.qual d__law_mixed.params d__law_mixed.body d__law_mixed.scope d__law_mixed.dvs [] ((PRof K).fa 13) ((PRof K).fd 13) := fdAt_ok (c.d.def_ 13 rfl)
theorem fn__law_folded (c : Says K) : FunD K d__law_folded.x d__law_folded.qual d__law_folded.params d__law_folded.body d__law_folded.scope d__law_folded.dvs [] ((PRof K).fa 14) ((PRof K).fd 14) := fdAt_ok (c.d.def_ 14 rfl)
theorem fn__law_draw (c : Says K) : FunD K d__law_draw.x d__law_draw.qual d__law_draw.params d__law_draw.body d__law_draw.scope d__law_draw.dvs [] ((PRof K).fa 15) ((PRof K).fd 15) := fdAt_ok (c.d.def_ 15 rfl)
theorem fn__law_begun (c : Says K) : FunD K d__law_begun.x d__law_begun.qual d__law_begun.params d__law_begun.body d__law_begun.scope d__law_begun.dvs [] ((PRof K).fa 16) ((PRof K).fd 16) := fdAt_ok (c.d.def_ 16 rfl)
theorem fn__law_of (c : Says K) : FunD K d__law_of.x d__law_of.qual d__law_of.params d__law_of.body d__law_of.scope d__law_of.dvs [] ((PRof K).fa 17) ((PRof K).fd 17) := fdAt_ok (c.d.def_ 17 rfl)
theorem fn__law_like (c : Says K) : FunD K d__law_like.x d__law_like.qual d__law_like.params d__law_like.body d__law_like.scope d__law_like.dvs [] ((PRof K).fa 18) ((PRof K).fd 18) := fdAt_ok (c.d.def_ 18 rfl)
theorem fn__law_power (c : Says K) : FunD K d__law_power.x d__law_power.qual d__law_power.params d__law_power.body d__law_power.scope d__law_power.dvs [] ((PRof K).fa 19) ((PRof K).fd 19) := fdAt_ok (c.d.def_ 19 rfl)
theorem fn__law_proof (c : Says K) : FunD K d__law_proof.x d__law_proof.qual d__law_proof.params d__law_proof.body d__law_proof.scope d__law_proof.dvs [] ((PRof K).fa 20) ((PRof K).fd 20) := fdAt_ok (c.d.def_ 20 rfl)
theorem fn__law_reader (c : Says K) : FunD K d__law_reader.x d__law_reader.qual d__law_reader.params d__law_reader.body d__law_reader.scope d__law_reader.dvs [] ((PRof K).fa 21) ((PRof K).fd 21) := fdAt_ok (c.d.def_ 21 rfl)
theorem fn__law_text (c : Says K) : FunD K d__law_text.x d__law_text.qual d__law_text.params d__law_text.body d__law_text.scope d__law_text.dvs [] ((PRof K).fa 22) ((PRof K).fd 22) := fdAt_ok (c.d.def_ 22 rfl)
theorem fn__law_number (c : Says K) : FunD K d__law_number.x d__law_number.qual d__law_number.params d__law_number.body d__law_number.scope d__law_number.dvs [] ((PRof K).fa 23) ((PRof K).fd 23) := fdAt_ok (c.d.def_ 23 rfl)
theorem fn__law_due (c : Says K) : FunD K d__law_due.x d__law_due.qual d__law_due.params d__law_due.body d__law_due.scope d__law_due.dvs [] ((PRof K).fa 24) ((PRof K).fd 24) := fdAt_ok (c.d.def_ 24 rfl)
theorem fn__law_bent (c : Says K) : FunD K d__law_bent.x d__law_bent.qual d__law_bent.params d__law_bent.body d__law_bent.scope d__law_bent.dvs [] ((PRof K).fa 25) ((PRof K).fd 25) := fdAt_ok (c.d.def_ 25 rfl)
theorem fn__law_read (c : Says K) : FunD K d__law_read.x d__law_read.qual d__law_read.params d__law_read.body d__law_read.scope d__law_read.dvs [] ((PRof K).fa 26) ((PRof K).fd 26) := fdAt_ok (c.d.def_ 26 rfl)
theorem fn__law_written (c : Says K) : FunD K d__law_written.x d__law_written.qual d__law_written.params d__law_written.body d__law_written.scope d__law_written.dvs [] ((PRof K).fa 27) ((PRof K).fd 27) := fdAt_ok (c.d.def_ 27 rfl)
theorem fn_law (c : Says K) : FunD K d_law.x d_law.qual d_law.params d_law.body d_law.scope d_law.dvs [] ((PRof K).fa 28) ((PRof K).fd 28) := fdAt_ok (c.d.def_ 28 rfl)
theorem call0 (c : Says K) : CallB K ((PRof K).fd 1) d_is_row.ps 1 [] (idPerm 1 ++ [.inr .non]) := callD (fn_is_row c) (n := 1) 0 (by simp [d_is_row]) rfl [.non] (fun _ => .cons .non (.nil)) fun _ _ _ _ _ _ _ us its h1 h2 => match us, its, h1, h2 with | [_], [_], _, _ => ⟨_, rfl, rfl⟩
theorem call1 (c : Says K) : CallB K ((PRof K).fd 0) d_is_whole.ps 3 [] (idPerm 3) := callD (fn_is_whole c) (n := 3) 1 (by simp [d_is_whole]) rfl [] (fun _ => .nil) fun _ _ _ _ _ _ _ us its h1 h2 => match us, its, h1, h2 with | [_, _, _], [_], _, _ => ⟨_, rfl, rfl⟩
theorem call2 (c : Says K) : CallB K ((PRof K).fd 1) d_is_row.ps 2 [] (idPerm 2) := callD (fn_is_row c) (n := 2) 1 (by simp [d_is_row]) rfl [] (fun _ => .nil) fun _ _ _ _ _ _ _ us its h1 h2 => match us, its, h1, h2 with | [_, _], [_], _, _ => ⟨_, rfl, rfl⟩
theorem call3 (c : Says K) : CallB K ((PRof K).fd 4) d_is_base.ps 1 [] (idPerm 1) := callA (fn_is_base c) (n := 1) (ks := []) rfl fun _ _ _ _ _ _ us ws h1 h2 => match us, ws, h1, h2 with | [_], [], _, _ => rfl
theorem call4 (c : Says K) : CallB K ((PRof K).fd 5) d_has_form.ps 1 [] (idPerm 1) := callA (fn_has_form c) (n := 1) (ks := []) rfl fun _ _ _ _ _ _ us ws h1 h2 => match us, ws, h1, h2 with | [_], [], _, _ => rfl
theorem call5 (c : Says K) : CallB K ((PRof K).fd 3) d_power_of.ps 2 [] (idPerm 2) := callA (fn_power_of c) (n := 2) (ks := []) rfl fun _ _ _ _ _ _ us ws h1 h2 => match us, ws, h1, h2 with | [_, _], [], _, _ => rfl
theorem call6 (c : Says K) : CallB K ((PRof K).fd 2) d_are_wholes.ps 3 [] (idPerm 3) := callD (fn_are_wholes c) (n := 3) 1 (by simp [d_are_wholes]) rfl [] (fun _ => .nil) fun _ _ _ _ _ _ _ us its h1 h2 => match us, its, h1, h2 with | [_, _, _], [_], _, _ => ⟨_, rfl, rfl⟩
theorem call7 (c : Says K) : CallB K ((PRof K).fd 6) d_reader_fault.ps 1 [] (idPerm 1) := callA (fn_reader_fault c) (n := 1) (ks := []) rfl fun _ _ _ _ _ _ us ws h1 h2 => match us, ws, h1, h2 with | [_], [], _, _ => rfl
theorem call8 (c : Says K) : CallB K ((PRof K).fd 7) d_need_reader.ps 1 [] (idPerm 1) := callA (fn_need_reader c) (n := 1) (ks := []) rfl fun _ _ _ _ _ _ us ws h1 h2 => match us, ws, h1, h2 with | [_], [], _, _ => rfl
theorem call9 (c : Says K) : CallB K ((PRof K).fd 9) d_read_figures.ps 1 [] (idPerm 1) := callA (fn_read_figures c) (n := 1) (ks := []) rfl fun _ _ _ _ _ _ us ws h1 h2 => match us, ws, h1, h2 with | [_], [], _, _ => rfl
theorem call10 (c : Says K) : CallB K ((PRof K).fd 11) d_read_head.ps 1 [] (idPerm 1) := callA (fn_read_head c) (n := 1) (ks := []) rfl fun _ _ _ _ _ _ us ws h1 h2 => match us, ws, h1, h2 with | [_], [], _, _ => rfl
theorem call11 (c : Says K) : CallB K ((PRof K).fd 10) d_read_row.ps 1 [] (idPerm 1) := callA (fn_read_row c) (n := 1) (ks := []) rfl fun _ _ _ _ _ _ us ws h1 h2 => match us, ws, h1, h2 with | [_], [], _, _ => rfl
theorem call12 (c : Says K) : CallB K ((PRof K).fd 13) d__law_mixed.ps 2 [] (idPerm 2) := callA (fn__law_mixed c) (n := 2) (ks := []) rfl fun _ _ _ _ _ _ us ws h1 h2 => match us, ws, h1, h2 with | [_, _], [], _, _ => rfl
theorem call13 (c : Says K) : CallB K ((PRof K).fd 14) d__law_folded.ps 1 [] (idPerm 1) := callA (fn__law_folded c) (n := 1) (ks := []) rfl fun _ _ _ _ _ _ us ws h1 h2 => match us, ws, h1, h2 with | [_], [], _, _ => rfl
theorem call14 (c : Says K) : CallB K ((PRof K).fd 15) d__law_draw.ps 2 [] (idPerm 2) := callA (fn__law_draw c) (n := 2) (ks := []) rfl fun _ _ _ _ _ _ us ws h1 h2 => match us, ws, h1, h2 with | [_, _], [], _, _ => rfl
theorem call15 (c : Says K) : CallB K ((PRof K).fd 18) d__law_like.ps 2 [] (idPerm 2) := callA (fn__law_like c) (n := 2) (ks := []) rfl fun _ _ _ _ _ _ us ws h1 h2 => match us, ws, h1, h2 with | [_, _], [], _, _ => rfl
theorem call16 (c : Says K) : CallB K ((PRof K).fd 19) d__law_power.ps 2 [] (idPerm 2) := callA (fn__law_power c) (n := 2) (ks := []) rfl fun _ _ _ _ _ _ us ws h1 h2 => match us, ws, h1, h2 with | [_, _], [], _, _ => rfl
theorem call17 (c : Says K) : CallB K ((PRof K).fd 20) d__law_proof.ps 4 [] (idPerm 4) := callA (fn__law_proof c) (n := 4) (ks := []) rfl fun _ _ _ _ _ _ us ws h1 h2 => match us, ws, h1, h2 with | [_, _, _, _], [], _, _ => rfl
theorem call18 (c : Says K) : CallB K ((PRof K).fd 23) d__law_number.ps 1 [] (idPerm 1) := callA (fn__law_number c) (n := 1) (ks := []) rfl fun _ _ _ _ _ _ us ws h1 h2 => match us, ws, h1, h2 with | [_], [], _, _ => rfl
theorem call19 (c : Says K) : CallB K ((PRof K).fd 17) d__law_of.ps 2 [] (idPerm 2) := callA (fn__law_of c) (n := 2) (ks := []) rfl fun _ _ _ _ _ _ us ws h1 h2 => match us, ws, h1, h2 with | [_, _], [], _, _ => rfl
theorem call20 (c : Says K) : CallB K ((PRof K).fd 12) d_read_reader.ps 1 [] (idPerm 1) := callA (fn_read_reader c) (n := 1) (ks := []) rfl fun _ _ _ _ _ _ us ws h1 h2 => match us, ws, h1, h2 with | [_], [], _, _ => rfl
theorem call21 (c : Says K) : CallB K ((PRof K).fd 8) d_reader_text.ps 1 [] (idPerm 1) := callA (fn_reader_text c) (n := 1) (ks := []) rfl fun _ _ _ _ _ _ us ws h1 h2 => match us, ws, h1, h2 with | [_], [], _, _ => rfl
theorem call22 (c : Says K) : CallB K ((PRof K).fd 16) d__law_begun.ps 1 [] (idPerm 1) := callA (fn__law_begun c) (n := 1) (ks := []) rfl fun _ _ _ _ _ _ us ws h1 h2 => match us, ws, h1, h2 with | [_], [], _, _ => rfl
theorem call23 (c : Says K) : CallB K ((PRof K).fd 22) d__law_text.ps 1 [] (idPerm 1) := callA (fn__law_text c) (n := 1) (ks := []) rfl fun _ _ _ _ _ _ us ws h1 h2 => match us, ws, h1, h2 with | [_], [], _, _ => rfl
theorem call24 (c : Says K) : CallB K ((PRof K).fd 21) d__law_reader.ps 4 [] (idPerm 4) := callA (fn__law_reader c) (n := 4) (ks := []) rfl fun _ _ _ _ _ _ us ws h1 h2 => match us, ws, h1, h2 with | [_, _, _, _], [], _, _ => rfl
theorem call25 (c : Says K) : CallB K ((PRof K).fd 27) d__law_written.ps 1 [] (idPerm 1) := callA (fn__law_written c) (n := 1) (ks := []) rfl fun _ _ _ _ _ _ us ws h1 h2 => match us, ws, h1, h2 with | [_], [], _, _ => rfl
theorem call26 (c : Says K) : CallB K ((PRof K).fd 26) d__law_read.ps 1 [] (idPerm 1) := callA (fn__law_read c) (n := 1) (ks := []) rfl fun _ _ _ _ _ _ us ws h1 h2 => match us, ws, h1, h2 with | [_], [], _, _ => rfl
theorem call27 (c : Says K) : CallB K ((PRof K).fd 25) d__law_bent.ps 2 [] (idPerm 2) := callA (fn__law_bent c) (n := 2) (ks := []) rfl fun _ _ _ _ _ _ us ws h1 h2 => match us, ws, h1, h2 with | [_, _], [], _, _ => rfl
theorem call28 (c : Says K) : CallB K ((PRof K).fd 24) d__law_due.ps 1 [] (idPerm 1) := callA (fn__law_due c) (n := 1) (ks := []) rfl fun _ _ _ _ _ _ us ws h1 h2 => match us, ws, h1, h2 with | [_], [], _, _ => rfl
theorem call29 (c : Says K) : CallB K ((PRof K).fd 8) d_reader_text.ps 0 ["reader"] (idPerm 1) := callA (fn_reader_text c) (n := 0) (ks := ["reader"]) rfl fun _ _ _ _ _ _ us ws h1 h2 => match us, ws, h1, h2 with | [], [_], _, _ => rfl
theorem call30 (c : Says K) : CallB K ((PRof K).fd 12) d_read_reader.ps 0 ["text"] (idPerm 1) := callA (fn_read_reader c) (n := 0) (ks := ["text"]) rfl fun _ _ _ _ _ _ us ws h1 h2 => match us, ws, h1, h2 with | [], [_], _, _ => rfl
theorem pfacts (X : K.In h) (G : h.Ns mainGlobals mg) (c : Says K) : PFacts PP w K mg base (PRof K) where
  defs := fun f d hd => by
    have z : AllI (fun f d => FunD K d.x d.qual d.params d.body d.scope d.dvs [] ((PRof K).fa f) ((PRof K).fd f) ∧ FnScope d.N d.ps d.scope ∧ trSs (rc 40) 120 ((PRof K).tab d) d.body = some d.m) 0 defsL :=
      ⟨⟨fn_is_whole c, sc_is_whole, tr_is_whole⟩, ⟨fn_is_row c, sc_is_row, tr_is_row⟩, ⟨fn_are_wholes c, sc_are_wholes, tr_are_wholes⟩, ⟨fn_power_of c, sc_power_of, tr_power_of⟩, ⟨fn_is_base c, sc_is_base, tr_is_base⟩, ⟨fn_has_form c, sc_has_form, tr_has_form⟩, ⟨fn_reader_fault c, sc_reader_fault, tr_reader_fault⟩, ⟨fn_need_reader c, sc_need_reader, tr_need_reader⟩, ⟨fn_reader_text c, sc_reader_text, tr_reader_text⟩, ⟨fn_read_figures c, sc_read_figures, tr_read_figures⟩, ⟨fn_read_row c, sc_read_row, tr_read_row⟩, ⟨fn_read_head c, sc_read_head, tr_read_head⟩, ⟨fn_read_reader c, sc_read_reader, tr_read_reader⟩, ⟨fn__law_mixed c, sc__law_mixed, tr__law_mixed⟩, ⟨fn__law_folded c, sc__law_folded, tr__law_folded⟩, ⟨fn__law_draw c, sc__law_draw, tr__law_draw⟩, ⟨fn__law_begun c, sc__law_begun, tr__law_begun⟩, ⟨fn__law_of c, sc__law_of, tr__law_of⟩, ⟨fn__law_like c, sc__law_like, tr__law_like⟩, ⟨fn__law_power c, sc__law_power, tr__law_power⟩, ⟨fn__law_proof c, sc__law_proof, tr__law_proof⟩, ⟨fn__law_reader c, sc__law_reader, tr__law_reader⟩, ⟨fn__law_text c, sc__law_text, tr__law_text⟩, ⟨fn__law_number c, sc__law_number, tr__law_number⟩, ⟨fn__law_due c, sc__law_due, tr__law_due⟩, ⟨fn__law_bent c, sc__law_bent, tr__law_bent⟩, ⟨fn__law_read c, sc__law_read, tr__law_read⟩, ⟨fn__law_written c, sc__law_written, tr__law_written⟩, ⟨fn_law c, sc_law, tr_law⟩, trivial⟩
    have y := allI_of z f d hd
    rw [Nat.zero_add] at y
    exact y
  calls := all_of (l := T0.calls) ⟨⟨d_is_row, rfl, He.glo_ok X G (c.d.fact 1 rfl), call0 c⟩, ⟨d_is_whole, rfl, He.glo_ok X G (c.d.fact 0 rfl), call1 c⟩, ⟨d_is_row, rfl, He.glo_ok X G (c.d.fact 1 rfl), call2 c⟩, ⟨d_is_base, rfl, He.glo_ok X G (c.d.fact 4 rfl), call3 c⟩, ⟨d_has_form, rfl, He.glo_ok X G (c.d.fact 5 rfl), call4 c⟩, ⟨d_power_of, rfl, He.glo_ok X G (c.d.fact 3 rfl), call5 c⟩, ⟨d_are_wholes, rfl, He.glo_ok X G (c.d.fact 2 rfl), call6 c⟩, ⟨d_reader_fault, rfl, He.glo_ok X G (c.d.fact 6 rfl), call7 c⟩, ⟨d_need_reader, rfl, He.glo_ok X G (c.d.fact 7 rfl), call8 c⟩, ⟨d_read_figures, rfl, He.glo_ok X G (c.d.fact 9 rfl), call9 c⟩, ⟨d_read_head, rfl, He.glo_ok X G (c.d.fact 11 rfl), call10 c⟩, ⟨d_read_row, rfl, He.glo_ok X G (c.d.fact 10 rfl), call11 c⟩, ⟨d__law_mixed, rfl, He.glo_ok X G (c.d.fact 13 rfl), call12 c⟩, ⟨d__law_folded, rfl, He.glo_ok X G (c.d.fact 14 rfl), call13 c⟩, ⟨d__law_draw, rfl, He.glo_ok X G (c.d.fact 15 rfl), call14 c⟩, ⟨d__law_like, rfl, He.glo_ok X G (c.d.fact 18 rfl), call15 c⟩, ⟨d__law_power, rfl, He.glo_ok X G (c.d.fact 19 rfl), call16 c⟩, ⟨d__law_proof, rfl, He.glo_ok X G (c.d.fact 20 rfl), call17 c⟩, ⟨d__law_number, rfl, He.glo_ok X G (c.d.fact 23 rfl), call18 c⟩, ⟨d__law_of, rfl, He.glo_ok X G (c.d.fact 17 rfl), call19 c⟩, ⟨d_read_reader, rfl, He.glo_ok X G (c.d.fact 12 rfl), call20 c⟩, ⟨d_reader_text, rfl, He.glo_ok X G (c.d.fact 8 rfl), call21 c⟩, ⟨d__law_begun, rfl, He.glo_ok X G (c.d.fact 16 rfl), call22 c⟩, ⟨d__law_text, rfl, He.glo_ok X G (c.d.fact 22 rfl), call23 c⟩, ⟨d__law_reader, rfl, He.glo_ok X G (c.d.fact 21 rfl), call24 c⟩, ⟨d__law_written, rfl, He.glo_ok X G (c.d.fact 27 rfl), call25 c⟩, ⟨d__law_read, rfl, He.glo_ok X G (c.d.fact 26 rfl), call26 c⟩, ⟨d__law_bent, rfl, He.glo_ok X G (c.d.fact 25 rfl), call27 c⟩, ⟨d__law_due, rfl, He.glo_ok X G (c.d.fact 24 rfl), call28 c⟩, ⟨d_reader_text, rfl, He.glo_ok X G (c.d.fact 8 rfl), call29 c⟩, ⟨d_read_reader, rfl, He.glo_ok X G (c.d.fact 12 rfl), call30 c⟩, trivial⟩
  consts := lookup_all (l := T0.consts) (p := fun x p => ∃ u v, mg x = some u ∧ RelV v u ∧ ∀ w : Wd, w.K = K → Rep w v p) ⟨(let ⟨t, e⟩ := He.int_ok X G (c.d.fact 50 rfl); ⟨_, .int (10), e, ⟨t, rfl⟩, fun _ _ => .int _⟩), (let ⟨t, e⟩ := He.int_ok X G (c.d.fact 51 rfl); ⟨_, .int (6), e, ⟨t, rfl⟩, fun _ _ => .int _⟩), (let ⟨t, e⟩ := He.int_ok X G (c.d.fact 52 rfl); ⟨_, .int (20000), e, ⟨t, rfl⟩, fun _ _ => .int _⟩), (let ⟨t, e⟩ := He.str_ok X G (c.d.fact 53 rfl); ⟨_, .str (Str.ofString "0123456789"), e, ⟨t, rfl⟩, fun _ _ => .str _⟩), (let ⟨t, e⟩ := He.int_ok X G (c.d.fact 54 rfl); ⟨_, .int (20000), e, ⟨t, rfl⟩, fun _ _ => .int _⟩), trivial⟩
  bl := all_of (l := T0.bl) ⟨He.free_ok X G (c.d.fact 32 rfl), He.free_ok X G (c.d.fact 33 rfl), He.free_ok X G (c.d.fact 34 rfl), He.free_ok X G (c.d.fact 35 rfl), He.free_ok X G (c.d.fact 36 rfl), He.free_ok X G (c.d.fact 37 rfl), He.free_ok X G (c.d.fact 38 rfl), He.free_ok X G (c.d.fact 39 rfl), He.free_ok X G (c.d.fact 40 rfl), He.free_ok X G (c.d.fact 41 rfl), He.free_ok X G (c.d.fact 42 rfl), He.free_ok X G (c.d.fact 43 rfl), He.free_ok X G (c.d.fact 44 rfl), He.free_ok X G (c.d.fact 45 rfl), He.free_ok X G (c.d.fact 46 rfl), He.free_ok X G (c.d.fact 47 rfl), He.free_ok X G (c.d.fact 48 rfl), trivial⟩
  raise := lookup_all (l := T0.excs) (p := fun x ci => ∀ (k : Nat) (Y : Cx), Y.prog = PP → Y.w = w → Y.K = K → Y.mg = mg → Y.base = base → Room 1 Y.A → Y.calm = true → Raise1 Y ((PRof K).Z K k) x ci) ⟨(fun k Y h1 _ h3 h4 _ h6 _ => raise_sup (by rw [h1, h3]; exact (sup_of (P := PP) ext0 (by kernel_rfl) (c.ex 0 rfl).1 (c.ex 0 rfl).2).1) (by rw [h4]; exact He.glo_ok X G (c.d.fact 29 rfl)) (by rw [h4]; exact He.free_ok X G (c.d.fact 49 rfl)) h6),
    (fun k Y h1 _ h3 h4 _ h6 _ => raise_sup (by rw [h1, h3]; exact (sup_of (P := PP) ext1 (by kernel_rfl) (c.ex 1 rfl).1 (c.ex 1 rfl).2).1) (by rw [h4]; exact He.glo_ok X G (c.d.fact 30 rfl)) (by rw [h4]; exact He.free_ok X G (c.d.fact 49 rfl)) h6),
    (fun k Y h1 _ h3 h4 _ h6 _ => raise_sup (by rw [h1, h3]; exact (sup_of (P := PP) ext2 (by kernel_rfl) (c.ex 2 rfl).1 (c.ex 2 rfl).2).1) (by rw [h4]; exact He.glo_ok X G (c.d.fact 31 rfl)) (by rw [h4]; exact He.free_ok X G (c.d.fact 49 rfl)) h6), trivial⟩
  xm := fun a b v e => lookup_all (l := T0.subs) (p := fun q v => PySem.W.exmOne K (.ref ((PRof K).cl q.1)) (.ref ((PRof K).cl q.2)) = some v) ⟨He.exm_ok (c.d.fact 55 rfl), He.exm_ok (c.d.fact 56 rfl), He.exm_ok (c.d.fact 57 rfl), He.exm_ok (c.d.fact 58 rfl), He.exm_ok (c.d.fact 59 rfl), He.exm_ok (c.d.fact 60 rfl), He.exm_ok (c.d.fact 61 rfl), He.exm_ok (c.d.fact 62 rfl), He.exm_ok (c.d.fact 63 rfl), trivial⟩ (a, b) v e
  xcls := lookup_all (l := T0.excs) (p := fun x ci => mg x = some (.ref ((PRof K).cl ci))) ⟨He.glo_ok X G (c.d.fact 29 rfl), He.glo_ok X G (c.d.fact 30 rfl), He.glo_ok X G (c.d.fact 31 rfl), trivial⟩
  xf := fun ci f hf => by
    have z : AllI (fun ci f => XfC K ((PRof K).cl ci) ∧ PySem.W.findIn K (.ref ((PRof K).cl ci)) f = some none) 0 T0.fds := ⟨(sup_of (P := PP) ext0 (by kernel_rfl) (c.ex 0 rfl).1 (c.ex 0 rfl).2).2, (sup_of (P := PP) ext1 (by kernel_rfl) (c.ex 1 rfl).1 (c.ex 1 rfl).2).2, (sup_of (P := PP) ext2 (by kernel_rfl) (c.ex 2 rfl).1 (c.ex 2 rfl).2).2, trivial⟩
    have y := allI_of z ci f hf
    rw [Nat.zero_add] at y
    exact y
end
end Dg
end

section
set_option Elab.async false
set_option linter.all false
set_option maxRecDepth 100000
set_option maxHeartbeats 0
namespace Dg
open PySem PySem.Spec L2
open PyProof.Rows hiding St
/-- what is left of the law -/
def Plain : Prop := ∀ ns : List Int, ns.length ≤ 63 → (∀ z ∈ ns, Builtin.Int.intBits z ≤ 1048576) → ∃ S', Gp T0 defsL 20 28 [.scr (ns.map PV.int)] [] = .ok (.bl true) S'
end Dg
open PySem PySem.W PySem.Calls PyProof.Rows in
theorem Dg.holds_of (hpl : Dg.Plain) : PySem.Challenge.rw_digitsay_k04_texts_of_readers.Holds := by
  w_on; o_law
  refine HandSHeadRun.head_any (r := OpenLaw.row PySem.Challenge.rw_digitsay_k04_texts_of_readers) (q := view (OpenLaw.row PySem.Challenge.rw_digitsay_k04_texts_of_readers).prog [42]) (H := Dg.hk) (ob := Dg.ob) (M := 4000) (loose := Dg.looseL) (d := HandSHeadRun.topDef (OpenLaw.row PySem.Challenge.rw_digitsay_k04_texts_of_readers).prog 42) (kwd := []) Dg.ob_eq
    (by kernel_rfl) (fun s => by kernel_rfl) Dg.runH (by kernel_rfl) (by kernel_rfl) (by kernel_rfl) (by rfl) (by first | assumption | decide +kernel) (by decide +kernel) ⟨rfl, rfl, rfl, rfl, rfl, by decide +kernel⟩ ?hw ?hc
  case hw => w_witness2
  case hc =>
    refine Dg.walk_dg (l := PySem.Challenge.rw_digitsay_k04_texts_of_readers) (n := 63) (k := 21) (x := "script") rfl (by decide) (by kernel_rfl) ⟨rfl, by decide, by decide⟩ ?F
    intro w mg fa h Y G hmg0
    obtain ⟨K, KX, c⟩ := Y
    have hmg : mg ("law" : PySem.Str) = some (.ref fa) := by
      have e : (HandSHeadRun.topDef (OpenLaw.row PySem.Challenge.rw_digitsay_k04_texts_of_readers).prog 42).name = ("law" : PySem.Str) := by kernel_rfl
      rw [← e]
      exact hmg0
    have e := hmg.symm.trans (He.glo_ok KX G (c.d.fact 28 (f := .glo "law") rfl))
    cases e
    have b := L2.FunD.bindsA (ps := ["script"]) (Dg.fn_law c) fun _ _ _ _ _ _ us hl => match us, hl with | [_], _ => rfl
    refine ⟨K, (Dg.PRof K).fd 28, Dg.spI ((Dg.PRof K).Z K 20) ((Dg.PRof K).G 20 28) 1, KX, fun s v => b s [v] rfl, fun H a ns hl hb _ hS => Dg.law_sp hS (hpl ns hl hb), fun base kb G2 => ?_⟩
    exact Dg.levels (Dg.pfacts kb G2 c) 20 28 Dg.d_law rfl
end

section
set_option Elab.async false
set_option linter.all false
set_option maxRecDepth 100000
set_option maxHeartbeats 1000000
/-! PlA: evaluation as rewriting. -/
namespace Dg
open PySem L2

/-- a store without dangling references -/
def Wf (S : Store) : Prop := S.all (belowM S.length) = true
theorem frz_below {S : Store} {n d : Nat} : True := trivial
mutual
theorem frzG_below {n : Nat} {g : Nat → Option PV} : ∀ {x : PV}, below n x = true → frzG n g x = some x
  | .non, _ => rfl
  | .bl _, _ => rfl
  | .int _, _ => rfl
  | .str _, _ => rfl
  | .ty _, _ => rfl
  | .scr _, h => by simp [below] at h
  | .ref k, h => by
    have hk : k < n := by simpa [below] using h
    unfold frzG; rw [if_pos hk]
  | .tup xs, h => by
    unfold frzG; rw [frzGs_below (by simpa [below] using h)]; rfl
  | .lst xs, h => by
    unfold frzG; rw [frzGs_below (by simpa [below] using h)]; rfl
theorem frzGs_below {n : Nat} {g : Nat → Option PV} : ∀ {xs : List PV}, belows n xs = true → frzGs n g xs = some xs
  | [], _ => rfl
  | x :: xs, h => by
    unfold belows at h
    rw [Bool.and_eq_true] at h
    unfold frzGs; rw [frzG_below h.1, frzGs_below h.2]
end
/-- a def that leaves the store as it is -/
theorem evalD_ret {C : Cxt} {n : Nat} {b : MSs} {vs : List PV} {S : Store} {v : PV} (hS : Wf S) (h : evalSs C b (startP n vs) S = .ret v S) (hv : below S.length v = true) : evalD C false n b vs S = .ok v S := by
  unfold evalD
  rw [h]
  dsimp only
  rw [if_neg Bool.false_ne_true]
  unfold frz
  rw [frzG_below hv]
  dsimp only
  rw [List.take_length, if_pos (show S.all (belowM S.length) = true from hS)]
theorem evalD_exc {C : Cxt} {n : Nat} {b : MSs} {vs : List PV} {S : Store} {c : Nat} {a : PV} {r : PEnv} (hS : Wf S) (h : evalSs C b (startP n vs) S = .exc c a r S) (hv : below S.length a = true) : evalD C false n b vs S = .exc c a S := by
  unfold evalD
  rw [h]
  dsimp only
  rw [if_neg Bool.false_ne_true]
  unfold frz
  rw [frzG_below hv]
  dsimp only
  rw [List.take_length, if_pos (show S.all (belowM S.length) = true from hS)]
/-- a def that makes new objects: S ++ R behind it -/
theorem evalD_new {C : Cxt} {n : Nat} {b : MSs} {vs : List PV} {S S' R : Store} {v v' : PV} (hS : S'.all (belowM S.length) = true) (hl : S'.length = S.length) (h : evalSs C b (startP n vs) S = .ret v (S' ++ R)) (hv : frz (S' ++ R) S.length 8 v = some v') : evalD C false n b vs S = .ok v' S' := by
  unfold evalD
  rw [h]
  dsimp only
  rw [if_neg Bool.false_ne_true, hv]
  dsimp only
  have e : (S' ++ R).take S.length = S' := by rw [← hl, List.take_left']; rfl
  rw [e, if_pos hS]
theorem evalD_newx {C : Cxt} {n : Nat} {b : MSs} {vs : List PV} {S S' R : Store} {c : Nat} {a a' : PV} {r : PEnv} (hS : S'.all (belowM S.length) = true) (hl : S'.length = S.length) (h : evalSs C b (startP n vs) S = .exc c a r (S' ++ R)) (hv : frz (S' ++ R) S.length 8 a = some a') : evalD C false n b vs S = .exc c a' S' := by
  unfold evalD
  rw [h]
  dsimp only
  rw [if_neg Bool.false_ne_true, hv]
  dsimp only
  have e : (S' ++ R).take S.length = S' := by rw [← hl, List.take_left']; rfl
  rw [e, if_pos hS]
theorem Gp_succ {T : Tab} {defs : List DD} {k f : Nat} {vs : List PV} {S : Store} {d : DD} (h : defs[f]? = some d) : Gp T defs (k + 1) f vs S = evalD { G := Gp T defs k, sub := fun c c' => T.subs.lookup (c, c') } d.raw d.N.length d.m vs S := by
  show (match defs[f]? with
    | some d => evalD { G := Gp T defs k, sub := fun c c' => T.subs.lookup (c, c') } d.raw d.N.length d.m vs S
    | none => .bad) = _
  rw [h]
/-! ### equations -/
theorem evalT_var {C : Cxt} {i : Nat} {r : PEnv} {S : Store} : evalT C (.var i) r S = (evalE C (.var i) r S).bind truR := evalT_truth (by simp) (by simp) (by simp) (by simp)
theorem evalT_bi {C : Cxt} {o : BI} {es : MEs} {r : PEnv} {S : Store} : evalT C (.bi o es) r S = (evalE C (.bi o es) r S).bind truR := evalT_truth (by simp) (by simp) (by simp) (by simp)
theorem evalT_call {C : Cxt} {f : Nat} {p : List (Sum Nat PV)} {es : MEs} {r : PEnv} {S : Store} : evalT C (.call f p es) r S = (evalE C (.call f p es) r S).bind truR := evalT_truth (by simp) (by simp) (by simp) (by simp)
theorem evalT_chain {C : Cxt} {o p : O2} {a b c : ME} {r : PEnv} {S : Store} : evalT C (.chain o p a b c) r S = (evalE C (.chain o p a b c) r S).bind truR := evalT_truth (by simp) (by simp) (by simp) (by simp)
theorem evalT_k {C : Cxt} {c : PV} {r : PEnv} {S : Store} : evalT C (.k c) r S = (evalE C (.k c) r S).bind truR := evalT_truth (by simp) (by simp) (by simp) (by simp)
theorem truR_bl2 {b : Bool} {S : Store} : truR (.bl b) S = .ok b S := rfl
theorem truR_int {i : Int} {S : Store} : truR (.int i) S = .ok (i != 0) S := rfl
theorem truR_non {S : Store} : truR .non S = .ok false S := rfl
end Dg
end

section
set_option Elab.async false
set_option linter.all false
set_option maxRecDepth 100000
set_option maxHeartbeats 1000000
/-! PlB: evaluation as rewriting: simp lemmas; loops. -/
namespace Dg
open PySem L2
variable {C : Cxt} {r : PEnv} {S : Store}
@[simp] theorem eE_var {i : Nat} : evalE C (.var i) r S = match r[i]? with
    | some (some v) => .ok v S
    | _ => .bad := by rw [evalE] <;> rfl
@[simp] theorem eE_k {c : PV} : evalE C (.k c) r S = .ok c S := by rw [evalE]
@[simp] theorem eE_un {o : O1} {a : ME} : evalE C (.un o a) r S = (evalE C a r S).bind fun x S1 => op1 o x S1 := by rw [evalE]
@[simp] theorem eE_bin {o : O2} {a b : ME} : evalE C (.bin o a b) r S = (evalE C a r S).bind fun x S1 => (evalE C b r S1).bind fun y S2 => op2 o x y S2 := by rw [evalE]
@[simp] theorem eE_chain {o p : O2} {a b c : ME} : evalE C (.chain o p a b c) r S = (evalE C a r S).bind fun x S1 => (evalE C b r S1).bind fun y S2 => (op2 o x y S2).bind fun z S3 => match z with
    | .bl true => (evalE C c r S3).bind fun u S4 => op2 p y u S4
    | .bl false => .ok (.bl false) S3
    | _ => .bad := by rw [evalE] <;> rfl
@[simp] theorem eE_and {a b : ME} : evalE C (.and_ a b) r S = (evalE C a r S).bind fun x S1 => match x with
    | .bl true => evalE C b r S1
    | .bl false => .ok (.bl false) S1
    | _ => .bad := by rw [evalE] <;> rfl
@[simp] theorem eE_or {a b : ME} : evalE C (.or_ a b) r S = (evalE C a r S).bind fun x S1 => match x with
    | .bl true => .ok (.bl true) S1
    | .bl false => evalE C b r S1
    | _ => .bad := by rw [evalE] <;> rfl
@[simp] theorem eE_not {a : ME} : evalE C (.not_ a) r S = (evalE C a r S).bind fun x S1 => match x with
    | .bl b => .ok (.bl (!b)) S1
    | _ => .bad := by rw [evalE] <;> rfl
@[simp] theorem eE_ite {c a b : ME} : evalE C (.ite c a b) r S = (evalT C c r S).bind fun t S1 => if t = true then evalE C a r S1 else evalE C b r S1 := by rw [evalE]
@[simp] theorem eE_tup {es : MEs} : evalE C (.tup es) r S = (evalEs C es r S).bind fun vs S1 => if vs.length ≤ sizeLine then .ok (.tup vs) S1 else .bad := by rw [evalE]
@[simp] theorem eE_lst {es : MEs} : evalE C (.lst es) r S = (evalEs C es r S).bind fun vs S1 => if vs.length ≤ sizeLine then .ok (.lst vs) S1 else .bad := by rw [evalE]
@[simp] theorem eE_lstR {es : MEs} : evalE C (.lstR es) r S = (evalEs C es r S).bind fun vs S1 => if vs.length ≤ sizeLine then .ok (.ref S1.length) (S1 ++ [.lst vs]) else .bad := by rw [evalE]
@[simp] theorem eE_dctR {ks : List Key} {es : MEs} : evalE C (.dctR ks es) r S = (evalEs C es r S).bind fun vs S1 => if vs.length = ks.length ∧ vs.length ≤ 15 ∧ ks.Nodup then .ok (.ref S1.length) (S1 ++ [.dct (ks.zip vs)]) else .bad := by rw [evalE]
@[simp] theorem eE_call {f : Nat} {p : List (Sum Nat PV)} {es : MEs} : evalE C (.call f p es) r S = (evalEs C es r S).bind fun vs S1 => match permP p vs with
    | some as => C.G f as S1
    | none => .bad := by rw [evalE] <;> rfl
@[simp] theorem eE_bi {o : BI} {es : MEs} : evalE C (.bi o es) r S = (evalEs C es r S).bind fun vs S1 => opn o vs S1 := by rw [evalE]
@[simp] theorem eE_mt {o : BI} {a e : ME} : evalE C (.mt o a e) r S = (evalE C a r S).bind fun x S1 => match x with
    | .str z => (evalE C e r S1).bind fun y S2 => opn o [.str z, y] S2
    | _ => .bad := by rw [evalE] <;> rfl
theorem eE_app {i : Nat} {e : ME} : evalE C (.app i e) r S = match r[i]? with
    | some (some (.ref n)) => match S[n]? with
      | some (.lst _) => (evalE C e r S).bind fun x S1 => match S1[n]? with
        | some (.lst xs) => if xs.length < sizeLine then .ok .non (S1.set n (.lst (xs ++ [x]))) else .bad
        | _ => .bad
      | _ => .bad
    | _ => .bad := by rw [evalE] <;> rfl
@[simp] theorem eE_slice {a : ME} {lo hi : MEo} : evalE C (.slice a lo hi) r S = (evalE C a r S).bind fun x S1 => (evalO C lo r S1).bind fun l S2 => (evalO C hi r S2).bind fun h S3 => slP x l h S3 := by rw [evalE]
/-- the function of a comprehension's turn -/
noncomputable def turnF (C : Cxt) (own : List Nat) (t : TGT) (c : MEo) (e : ME) (r : PEnv) (x : PV) (S : Store) : Res (Option PV) := match bindT t x (wipeP r own) with
  | none => .bad
  | some r2 => ((evalC C c r2 S).bind fun b S3 => if b = true then (evalE C e r2 S3).bind fun y S4 => .ok (some y) S4 else .ok none S3).nox
theorem eE_comp {rf : Bool} {own : List Nat} {t : TGT} {it : IT} {c : MEo} {e : ME} : evalE C (.comp rf own t it c e) r S = (evalI C it r S).bind fun p S1 => if p.1.length < sizeLine then (compL (turnF C own t c e r) p.2 p.1 S1).bind fun ys S2 =>
    if rf = true then .ok (.ref S2.length) (S2 ++ [.lst ys]) else .ok (.lst ys) S2 else .bad := by
  rw [evalE] <;> rfl
@[simp] theorem eE_exarg : evalE C .exarg r S = match C.hx with
    | some (_, a) => .ok a S
    | none => .bad := by rw [evalE] <;> rfl
@[simp] theorem eT_and {a b : ME} : evalT C (.and_ a b) r S = (evalT C a r S).bind fun t S1 => if t = true then evalT C b r S1 else .ok false S1 := evalT_and
@[simp] theorem eT_or {a b : ME} : evalT C (.or_ a b) r S = (evalT C a r S).bind fun t S1 => if t = true then .ok true S1 else evalT C b r S1 := evalT_or
@[simp] theorem eT_not {a : ME} : evalT C (.not_ a) r S = (evalT C a r S).bind fun t S1 => .ok (!t) S1 := evalT_not
@[simp] theorem eT_ite {c a b : ME} : evalT C (.ite c a b) r S = (evalT C c r S).bind fun t S1 => if t = true then evalT C a r S1 else evalT C b r S1 := evalT_ite
@[simp] theorem eT_var {i : Nat} : evalT C (.var i) r S = (evalE C (.var i) r S).bind truR := evalT_var
@[simp] theorem eT_bi {o : BI} {es : MEs} : evalT C (.bi o es) r S = (evalE C (.bi o es) r S).bind truR := evalT_bi
@[simp] theorem eT_call {f : Nat} {p : List (Sum Nat PV)} {es : MEs} : evalT C (.call f p es) r S = (evalE C (.call f p es) r S).bind truR := evalT_call
@[simp] theorem eT_chain {o p : O2} {a b c : ME} : evalT C (.chain o p a b c) r S = (evalE C (.chain o p a b c) r S).bind truR := evalT_chain
@[simp] theorem eT_k {c : PV} : evalT C (.k c) r S = (evalE C (.k c) r S).bind truR := evalT_k
@[simp] theorem eT_bin {o : O2} {a b : ME} : evalT C (.bin o a b) r S = (evalE C (.bin o a b) r S).bind truR := evalT_bin
@[simp] theorem eT_un {o : O1} {a : ME} : evalT C (.un o a) r S = (evalE C (.un o a) r S).bind truR := evalT_un
@[simp] theorem tru_bl' {b : Bool} : truR (.bl b) S = .ok b S := rfl
@[simp] theorem tru_int' {i : Int} : truR (.int i) S = .ok (i != 0) S := rfl
@[simp] theorem tru_non' : truR .non S = .ok false S := rfl
@[simp] theorem eEs_nil : evalEs C .nil r S = .ok [] S := by rw [evalEs]
@[simp] theorem eEs_cons {e : ME} {es : MEs} : evalEs C (.cons e es) r S = (evalE C e r S).bind fun x S1 => (evalEs C es r S1).bind fun xs S2 => .ok (x :: xs) S2 := by rw [evalEs]
@[simp] theorem eO_none : evalO C .none r S = .ok none S := by rw [evalO]
@[simp] theorem eO_some {e : ME} : evalO C (.some e) r S = (evalE C e r S).bind fun x S1 => match x with
    | .int i => .ok (some i) S1
    | _ => .bad := by rw [evalO] <;> rfl
@[simp] theorem eC_none : evalC C .none r S = .ok true S := by rw [evalC]
@[simp] theorem eC_some {e : ME} : evalC C (.some e) r S = evalT C e r S := by rw [evalC]
@[simp] theorem eI_of {e : ME} : evalI C (.of e) r S = (evalE C e r S).bind fun x S1 => match x with
    | .str z => .ok (z.cps.toList.map (fun c => .str ⟨#[c]⟩), none) S1
    | .ref n => match S1[n]? with
      | some (.lst xs) => .ok (xs, some (n, xs)) S1
      | _ => .bad
    | x => match seqOf x S1 with
      | some xs => .ok (xs, none) S1
      | none => .bad := by rw [evalI] <;> rfl
theorem eI_range {es : MEs} : evalI C (.range es) r S = (evalEs C es r S).bind fun vs S1 => match rangeP vs with
    | some xs => .ok (xs, none) S1
    | none => .bad := by rw [evalI] <;> rfl
theorem eI_enum {e : ME} : evalI C (.enum e) r S = (evalE C e r S).bind fun x S1 => match x with
    | .ref n => match S1[n]? with
      | some (.lst xs) => .ok (enumP 0 xs, some (n, xs)) S1
      | _ => .bad
    | x => match seqOf x S1 with
      | some xs => .ok (enumP 0 xs, none) S1
      | none => .bad := by rw [evalI] <;> rfl
theorem eI_zip {a b : ME} : evalI C (.zip a b) r S = (evalE C a r S).bind fun x S1 => (evalE C b r S1).bind fun y S2 => match x, y with
    | .tup xs, .tup ys => .ok (zipP xs ys, none) S2
    | .lst xs, .lst ys => .ok (zipP xs ys, none) S2
    | _, _ => .bad := by rw [evalI] <;> rfl
@[simp] theorem eS_asg {t : TGT} {e : ME} : evalS C (.asg t e) r S = (evalE C e r S).to r fun v S1 => match bindT t v r with
    | some r2 => .nx r2 S1
    | none => .bad := by rw [evalS] <;> rfl
@[simp] theorem eS_setix {a i e : ME} : evalS C (.setix a i e) r S = (evalE C e r S).to r fun v S1 => (evalE C a r S1).to r fun o S2 => (evalE C i r S2).to r fun k S3 => match setP o k v S3 with
    | some S4 => .nx r S4
    | none => .bad := by rw [evalS] <;> rfl
@[simp] theorem eS_unp {ts : List MT} {e : ME} : evalS C (.unp ts e) r S = (evalE C e r S).to r fun v S1 => match v with
    | .tup xs => if xs.length = ts.length then evalGs C ts xs r S1 else .bad
    | _ => .bad := by rw [evalS] <;> rfl
@[simp] theorem eS_ex {e : ME} : evalS C (.ex e) r S = (evalE C e r S).to r fun _ S1 => .nx r S1 := by rw [evalS]
@[simp] theorem eS_ret {e : ME} : evalS C (.ret e) r S = (evalE C e r S).to r fun v S1 => .ret v S1 := by rw [evalS]
@[simp] theorem eS_if {c : ME} {a b : MSs} : evalS C (.ifS c a b) r S = (evalT C c r S).to r fun t S1 => if t = true then evalSs C a r S1 else evalSs C b r S1 := by rw [evalS]
theorem eS_for {t : TGT} {it : IT} {b : MSs} : evalS C (.forS t it b) r S = (evalI C it r S).to r fun p S1 => forL t (fun r2 S2 => evalSs C b r2 S2) p.2 p.1 r S1 := by rw [evalS]
theorem eS_while {c : ME} {b : MSs} : evalS C (.whileS c b) r S = whileR (fun r2 S2 => evalT C c r2 S2) (fun r2 S2 => evalSs C b r2 S2) r S := by rw [evalS]
@[simp] theorem eS_brk : evalS C .brk r S = .brk r S := by rw [evalS]
@[simp] theorem eS_cont : evalS C .cont r S = .ct r S := by rw [evalS]
@[simp] theorem eS_pass : evalS C .pass r S = .nx r S := by rw [evalS]
@[simp] theorem eS_raise {c : Nat} {e : ME} : evalS C (.raise c e) r S = (evalE C e r S).to r fun v S1 => .exc c v r S1 := by rw [evalS]
theorem eS_try {b : MSs} {hs : List MHd} : evalS C (.try_ b hs) r S = match evalSs C b r S with
    | .exc c a r2 S2 => handle C c a r2 S2 hs
    | x => x := by rw [evalS] <;> rfl
@[simp] theorem eSs_nil : evalSs C .nil r S = .nx r S := by rw [evalSs]
@[simp] theorem eSs_cons {s : MS} {t : MSs} : evalSs C (.cons s t) r S = (evalS C s r S).seq fun r2 S2 => evalSs C t r2 S2 := by rw [evalSs]
@[simp] theorem nox_bad {β : Type} : (Res.bad : Res β).nox = .bad := rfl
@[simp] theorem grd_none : Grd none S := trivial
/-! ### loops -/
theorem compL_none {f : PV → Store → Res (Option PV)} {h : PV → Option PV} {g : Option (Nat × List PV)} (hg : Grd g S) : ∀ {xs : List PV}, (∀ x ∈ xs, f x S = .ok (h x) S) → compL f g xs S = .ok (xs.filterMap h) S
  | [], _ => by unfold compL; rfl
  | x :: xs, hx => by
    unfold compL
    rw [hx x (List.mem_cons_self ..), Res.bind_ok, if_pos hg, compL_none hg fun y hy => hx y (List.mem_cons_of_mem _ hy), Res.bind_ok, List.filterMap_cons]
    cases h x <;> rfl
theorem compL_map {f : PV → Store → Res (Option PV)} {h : PV → PV} {g : Option (Nat × List PV)} (hg : Grd g S) {xs : List PV} (hx : ∀ x ∈ xs, f x S = .ok (some (h x)) S) : compL f g xs S = .ok (xs.map h) S := by
  rw [compL_none (h := fun x => some (h x)) hg hx, List.filterMap_eq_map']
/-- with the store changing: an invariant -/
theorem compL_inv {f : PV → Store → Res (Option PV)} (I : List PV → Store → Prop) : ∀ {xs acc : List PV} {S : Store}, I acc S → (∀ (acc : List PV) (S : Store) (x : PV), x ∈ xs → I acc S → ∃ y S1, f x S = .ok (some y) S1 ∧ I (acc ++ [y]) S1) →
    ∃ ys S', compL f none xs S = .ok ys S' ∧ ys.length = xs.length ∧ I (acc ++ ys) S'
  | [], acc, S, h0, _ => ⟨[], S, by unfold compL; rfl, rfl, by simpa using h0⟩
  | x :: xs, acc, S, h0, hs => by
    obtain ⟨y, S1, e1, h1⟩ := hs acc S x (List.mem_cons_self ..) h0
    obtain ⟨ys, S', e2, l2, h2⟩ := compL_inv I h1 fun a T z hz => hs a T z (List.mem_cons_of_mem _ hz)
    refine ⟨y :: ys, S', ?_, by simp [l2], by simpa using h2⟩
    unfold compL
    rw [e1, Res.bind_ok, if_pos (show Grd none S1 from trivial), e2]
    rfl
/-- a for: an invariant by what is done -/
theorem forL_inv {t : TGT} {f : PEnv → Store → SRes} {g : Option (Nat × List PV)} {xs : List PV} (I : List PV → PEnv → Store → Prop) (J : SRes → Prop)
    (hs : ∀ (done : List PV) (x : PV) (rest : List PV) (r : PEnv) (S : Store), xs = done ++ x :: rest → I done r S → ∃ r2, bindT t x r = some r2 ∧ ((∃ r3 S3, (f r2 S = .nx r3 S3 ∨ f r2 S = .ct r3 S3) ∧ Grd g S3 ∧ I (done ++ [x]) r3 S3) ∨ (∃ v S3, f r2 S = .ret v S3 ∧ J (.ret v S3)) ∨ ∃ c a r3 S3, f r2 S = .exc c a r3 S3 ∧ J (.exc c a r3 S3))) :
    ∀ {done rest : List PV} {r : PEnv} {S : Store}, xs = done ++ rest → I done r S → (∃ r' S', forL t f g rest r S = .nx r' S' ∧ I xs r' S') ∨ J (forL t f g rest r S)
  | done, [], r, S, e, h => .inl ⟨r, S, by unfold forL; rfl, by rw [e, List.append_nil]; exact h⟩
  | done, x :: rest, r, S, e, h => by
    obtain ⟨r2, hb, hh⟩ := hs done x rest r S e h
    rcases hh with ⟨r3, S3, e1, hg, h3⟩ | ⟨v, S3, e1, j⟩ | ⟨c, a, r3, S3, e1, j⟩
    · have ih := forL_inv I J hs (done := done ++ [x]) (rest := rest) (by simpa using e) h3
      have z : forL t f g (x :: rest) r S = forL t f g rest r3 S3 := by
        rw [forL, hb]
        dsimp only
        rcases e1 with e1 | e1 <;> rw [e1] <;> dsimp only <;> rw [if_pos hg]
      rw [z]
      exact ih
    · refine .inr ?_
      rw [forL, hb]
      dsimp only
      rw [e1]; exact j
    · refine .inr ?_
      rw [forL, hb]
      dsimp only
      rw [e1]; exact j
end Dg
end

section
set_option Elab.async false
set_option linter.all false
set_option maxRecDepth 100000
set_option maxHeartbeats 1000000
/-! M0: simp lemmas of operations. -/
namespace Dg
open PySem L2
variable {S : Store}
@[simp] theorem op_addI {i j : Int} : op2 .add (.int i) (.int j) S = .ok (.int (i + j)) S := rfl
@[simp] theorem op_subI {i j : Int} : op2 .sub (.int i) (.int j) S = .ok (.int (i - j)) S := rfl
@[simp] theorem op_ltI {i j : Int} : op2 .lt (.int i) (.int j) S = .ok (.bl (decide (i < j))) S := rfl
@[simp] theorem op_leI {i j : Int} : op2 .le (.int i) (.int j) S = .ok (.bl (decide (i ≤ j))) S := rfl
@[simp] theorem op_gtI {i j : Int} : op2 .gt (.int i) (.int j) S = .ok (.bl (decide (j < i))) S := rfl
@[simp] theorem op_geI {i j : Int} : op2 .ge (.int i) (.int j) S = .ok (.bl (decide (j ≤ i))) S := rfl
theorem op_mulI {i j : Int} (h : CMulP i j ∨ CMulW i j) : op2 .mul (.int i) (.int j) S = .ok (.int (i * j)) S := by
  show (if CMulP i j ∨ CMulW i j then (Res.ok (.int (i * j)) S : Res PV) else .bad) = _
  rw [if_pos h]
theorem op_mulS {i j : Int} (h : (-(2 ^ 64) < i ∧ i < 2 ^ 64) ∨ (-(2 ^ 64) < j ∧ j < 2 ^ 64)) : op2 .mul (.int i) (.int j) S = .ok (.int (i * j)) S := op_mulI (.inl h)
theorem op_modI {i j : Int} (h : 0 < j) : op2 .mod (.int i) (.int j) S = .ok (.int (i % j)) S := by
  show (if 0 < j then (Res.ok (.int (i % j)) S : Res PV) else .bad) = _
  rw [if_pos h]
theorem op_fdivI {i j : Int} (h : CDivW i j) : op2 .fdiv (.int i) (.int j) S = .ok (.int (i / j)) S := by
  show (if CDivW i j then (Res.ok (.int (i / j)) S : Res PV) else .bad) = _
  rw [if_pos h]
@[simp] theorem op_isN {x : PV} : op1 .isN x S = .ok (.bl (isNon x)) S := rfl
@[simp] theorem op_notN {x : PV} : op1 .notN x S = .ok (.bl (!isNon x)) S := rfl
@[simp] theorem isNon_non : isNon .non = true := rfl
@[simp] theorem isNon_int {i : Int} : isNon (.int i) = false := rfl
@[simp] theorem isNon_str {i : Str} : isNon (.str i) = false := rfl
@[simp] theorem isNon_bl {i : Bool} : isNon (.bl i) = false := rfl
@[simp] theorem isNon_tup {i : List PV} : isNon (.tup i) = false := rfl
@[simp] theorem isNon_lst {i : List PV} : isNon (.lst i) = false := rfl
@[simp] theorem op_eqI {i j : Int} : op2 .eq (.int i) (.int j) S = .ok (.bl (i == j)) S := rfl
@[simp] theorem op_neI {i j : Int} : op2 .ne (.int i) (.int j) S = .ok (.bl (!(i == j))) S := rfl
@[simp] theorem op_eqS {i j : Str} : op2 .eq (.str i) (.str j) S = .ok (.bl (i == j)) S := rfl
@[simp] theorem op_neS {i j : Str} : op2 .ne (.str i) (.str j) S = .ok (.bl (!(i == j))) S := rfl
@[simp] theorem op_eqB {i j : Bool} : op2 .eq (.bl i) (.bl j) S = .ok (.bl (i == j)) S := rfl
@[simp] theorem op_neB {i j : Bool} : op2 .ne (.bl i) (.bl j) S = .ok (.bl (!(i == j))) S := rfl
@[simp] theorem opn_len_tup {xs : List PV} : opn .len [.tup xs] S = .ok (.int xs.length) S := rfl
@[simp] theorem opn_len_lst {xs : List PV} : opn .len [.lst xs] S = .ok (.int xs.length) S := rfl
theorem opn_len_str {x : Str} (h : x.length ≤ sizeLine) : opn .len [.str x] S = .ok (.int x.length) S := by
  show (if x.length ≤ sizeLine then (Res.ok (.int x.length) S : Res PV) else .bad) = _
  rw [if_pos h]
@[simp] theorem opn_tup_lst {xs : List PV} : opn .tuple_ [.lst xs] S = .ok (.tup xs) S := rfl
@[simp] theorem opn_tup_tup {xs : List PV} : opn .tuple_ [.tup xs] S = .ok (.tup xs) S := rfl
@[simp] theorem opn_int_int {i : Int} : opn .int_ [.int i] S = .ok (.int i) S := rfl
@[simp] theorem opn_int_bl {b : Bool} : opn .int_ [.bl b] S = .ok (.int (if b then 1 else 0)) S := rfl
@[simp] theorem opn_isin_non {ts : List String} : opn (.isin ts) [.non] S = .ok (.bl (ts.any (subTy "NoneType"))) S := rfl
@[simp] theorem opn_isin_bl {ts : List String} {b : Bool} : opn (.isin ts) [.bl b] S = .ok (.bl (ts.any (subTy "bool"))) S := rfl
@[simp] theorem opn_isin_int {ts : List String} {b : Int} : opn (.isin ts) [.int b] S = .ok (.bl (ts.any (subTy "int"))) S := rfl
@[simp] theorem opn_isin_str {ts : List String} {b : Str} : opn (.isin ts) [.str b] S = .ok (.bl (ts.any (subTy "str"))) S := rfl
@[simp] theorem opn_isin_tup {ts : List String} {b : List PV} : opn (.isin ts) [.tup b] S = .ok (.bl (ts.any (subTy "tuple"))) S := rfl
@[simp] theorem opn_isin_lst {ts : List String} {b : List PV} : opn (.isin ts) [.lst b] S = .ok (.bl (ts.any (subTy "list"))) S := rfl
@[simp] theorem subTy_int_int : subTy "int" "int" = true := by decide
@[simp] theorem subTy_bool_int : subTy "bool" "int" = true := by decide
@[simp] theorem subTy_bool_bool : subTy "bool" "bool" = true := by decide
@[simp] theorem subTy_int_bool : subTy "int" "bool" = false := by decide
@[simp] theorem subTy_non {c : String} (h : c ≠ "NoneType" := by decide) : subTy "NoneType" c = false := by
  unfold subTy
  have : ("NoneType" == c) = false := by simpa using fun e => h e.symm
  rw [this]; rfl
@[simp] theorem subTy_str_str : subTy "str" "str" = true := by decide
@[simp] theorem subTy_str_int : subTy "str" "int" = false := by decide
@[simp] theorem subTy_str_bool : subTy "str" "bool" = false := by decide
@[simp] theorem subTy_str_tuple : subTy "str" "tuple" = false := by decide
@[simp] theorem subTy_str_list : subTy "str" "list" = false := by decide
@[simp] theorem subTy_int_str : subTy "int" "str" = false := by decide
@[simp] theorem subTy_int_tuple : subTy "int" "tuple" = false := by decide
@[simp] theorem subTy_int_list : subTy "int" "list" = false := by decide
@[simp] theorem subTy_bool_str : subTy "bool" "str" = false := by decide
@[simp] theorem subTy_bool_tuple : subTy "bool" "tuple" = false := by decide
@[simp] theorem subTy_bool_list : subTy "bool" "list" = false := by decide
@[simp] theorem subTy_tuple_tuple : subTy "tuple" "tuple" = true := by decide
@[simp] theorem subTy_tuple_str : subTy "tuple" "str" = false := by decide
@[simp] theorem subTy_tuple_int : subTy "tuple" "int" = false := by decide
@[simp] theorem subTy_tuple_bool : subTy "tuple" "bool" = false := by decide
@[simp] theorem subTy_tuple_list : subTy "tuple" "list" = false := by decide
@[simp] theorem subTy_list_tuple : subTy "list" "tuple" = false := by decide
@[simp] theorem subTy_list_str : subTy "list" "str" = false := by decide
@[simp] theorem subTy_list_int : subTy "list" "int" = false := by decide
@[simp] theorem subTy_list_bool : subTy "list" "bool" = false := by decide
@[simp] theorem subTy_list_list : subTy "list" "list" = true := by decide
theorem allOf_map {α β : Type} {f : PV → Option β} {g : α → PV} {h : α → β} (e : ∀ x, f (g x) = some (h x)) : ∀ {xs : List α}, allOf f (xs.map g) = some (xs.map h)
  | [] => rfl
  | x :: xs => by
    show (match f (g x), allOf f (xs.map g) with
      | some b, some bs => some (b :: bs)
      | _, _ => none) = _
    rw [e, allOf_map e]; rfl
theorem all_bl {bs : List Bool} : opn .all_ [.lst (bs.map PV.bl)] S = .ok (.bl (bs.all id)) S := by
  show (match (some (bs.map PV.bl)).bind (allOf isBl) with
    | some bs => okB (bs.all id) S
    | none => .bad) = _
  rw [Option.bind_some, allOf_map (f := isBl) (g := PV.bl) (h := id) (fun _ => rfl), List.map_id]
  rfl
theorem all_p {α : Type} {p : α → Bool} {xs : List α} : opn .all_ [.lst (xs.map fun x => PV.bl (p x))] S = .ok (.bl (xs.all p)) S := by
  have e : xs.map (fun x => PV.bl (p x)) = (xs.map p).map PV.bl := by rw [List.map_map]; rfl
  rw [e, all_bl]
  simp
theorem sum_int {bs : List Int} : opn .sum_ [.lst (bs.map PV.int)] S = .ok (.int bs.sum) S := by
  show (match (some (bs.map PV.int)).bind (allOf isIn) with
    | some bs => Res.ok (PV.int bs.sum) S
    | none => (.bad : Res PV)) = _
  rw [Option.bind_some, allOf_map (f := isIn) (g := PV.int) (h := id) (fun _ => rfl), List.map_id]
theorem join_str {a : Str} {bs : List Str} (h : (bs.map fun y => Str.length y).sum + bs.length * a.length ≤ 16777216) : opn .join [.str a, .lst (bs.map PV.str)] S = .ok (.str (Txt.join a bs)) S := by
  show (match (some (bs.map PV.str)).bind (allOf isSt) with
    | some ys => if (ys.map fun y => Str.length y).sum + ys.length * a.length ≤ 16777216 then Res.ok (PV.str (Txt.join a ys)) S else (.bad : Res PV)
    | none => (.bad : Res PV)) = _
  rw [Option.bind_some, allOf_map (f := isSt) (g := PV.str) (h := id) (fun _ => rfl), List.map_id]
  dsimp only
  rw [if_pos h]
/-- a comprehension over a list, a turn each by a rule -/
theorem comp_ok {C : Cxt} {own : List Nat} {t : TGT} {it : IT} {e : ME} {r : PEnv} {xs : List PV} {h : PV → PV} (hi : evalI C it r S = .ok (xs, none) S) (hl : xs.length < sizeLine) (hx : ∀ x ∈ xs, turnF C own t .none e r x S = .ok (some (h x)) S) : evalE C (.comp false own t it .none e) r S = .ok (.lst (xs.map h)) S := by
  rw [eE_comp, hi, Res.bind_ok]
  dsimp only
  rw [if_pos hl, compL_map grd_none hx, Res.bind_ok, if_neg Bool.false_ne_true]
theorem below_ints {n : Nat} {xs : List Int} : belows n (xs.map PV.int) = true := by
  induction xs with
  | nil => rfl
  | cons x xs ih => rw [List.map_cons, belows, ih]; rfl
/-- a loop, by what holds before turn k -/
theorem forL_idx {t : TGT} {f : PEnv → Store → SRes} {g : Option (Nat × List PV)} (I : Nat → PEnv → Store → Prop) (J : PV → Store → Prop) :
    ∀ {xs : List PV} {n : Nat} {r : PEnv} {S : Store}, (∀ (k : Nat) (h : k < xs.length) (r : PEnv) (S : Store), I (n + k) r S → ∃ r2, bindT t xs[k] r = some r2 ∧ ((∃ r3 S3, (f r2 S = .nx r3 S3 ∨ f r2 S = .ct r3 S3) ∧ Grd g S3 ∧ I (n + k + 1) r3 S3) ∨ ∃ v S3, f r2 S = .ret v S3 ∧ J v S3)) → I n r S →
      (∃ r' S', forL t f g xs r S = .nx r' S' ∧ I (n + xs.length) r' S') ∨ ∃ v S', forL t f g xs r S = .ret v S' ∧ J v S'
  | [], n, r, S, _, h => .inl ⟨r, S, by unfold forL; rfl, h⟩
  | x :: xs, n, r, S, hs, h => by
    obtain ⟨r2, hb, hh⟩ := hs 0 (by simp) r S h
    simp only [List.getElem_cons_zero] at hb
    rcases hh with ⟨r3, S3, e1, hg, h3⟩ | ⟨v, S3, e1, j⟩
    · have ih := forL_idx (g := g) (t := t) (f := f) (xs := xs) (n := n + 1) (r := r3) (S := S3) I J (fun k hk r S hi => by
        have z := hs (k + 1) (by simpa using hk) r S (by rw [show n + (k + 1) = n + 1 + k by omega]; exact hi)
        simp only [List.getElem_cons_succ] at z
        rw [show n + (k + 1) = n + 1 + k by omega] at z
        exact z) h3
      have z : forL t f g (x :: xs) r S = forL t f g xs r3 S3 := by
        rw [forL, hb]
        dsimp only
        rcases e1 with e1 | e1 <;> rw [e1] <;> dsimp only <;> rw [if_pos hg]
      rw [z, show n + (x :: xs).length = n + 1 + xs.length by simp; omega]
      exact ih
    · refine .inr ⟨v, S3, ?_, j⟩
      rw [forL, hb]
      dsimp only
      rw [e1]
theorem forL_k {t : TGT} {f : PEnv → Store → SRes} {g : Option (Nat × List PV)} (I : Nat → PEnv → Store → Prop) (J : PV → Store → Prop)
    {xs : List PV} {r : PEnv} {S : Store} (hs : ∀ (k : Nat) (h : k < xs.length) (r : PEnv) (S : Store), I k r S → ∃ r2, bindT t xs[k] r = some r2 ∧ ((∃ r3 S3, (f r2 S = .nx r3 S3 ∨ f r2 S = .ct r3 S3) ∧ Grd g S3 ∧ I (k + 1) r3 S3) ∨ ∃ v S3, f r2 S = .ret v S3 ∧ J v S3)) (h0 : I 0 r S) :
      (∃ r' S', forL t f g xs r S = .nx r' S' ∧ I xs.length r' S') ∨ ∃ v S', forL t f g xs r S = .ret v S' ∧ J v S' := by
  have z := forL_idx (t := t) (f := f) (g := g) I J (xs := xs) (n := 0) (r := r) (S := S) (fun k hk r S hi => by
    have y := hs k hk r S (by rw [Nat.zero_add] at hi; exact hi)
    rw [Nat.zero_add]; exact y) h0
  rw [Nat.zero_add] at z
  exact z
theorem p62 : (2 : Int) ^ 62 = 4611686018427387904 := by decide +kernel
theorem p64 : (2 : Int) ^ 64 = 18446744073709551616 := by decide +kernel
theorem rng1 {n : Nat} (hn : n < 4611686018427387904) : -(2 ^ 62) ≤ (n : Int) ∧ (n : Int) < 2 ^ 62 := by
  rw [p62]
  omega
theorem rangeP_nat {n : Nat} (hn : n < 4611686018427387904) : rangeP [.int n] = some ((List.range n).map fun (k : Nat) => .int (k : Int)) := by
  rw [rangeP, if_pos (rng1 hn)]
  simp only [Int.toNat_natCast, Int.zero_add]
theorem eI_rng {C : Cxt} {r : PEnv} {S : Store} {e : ME} {n : Nat} (h : evalE C e r S = .ok (.int n) S) (hn : n < 4611686018427387904) : evalI C (.range (.cons e .nil)) r S = .ok ((List.range n).map fun (k : Nat) => .int (k : Int), none) S := by
  rw [eI_range, eEs_cons, h, Res.bind_ok, eEs_nil, Res.bind_ok, Res.bind_ok]
  rw [rangeP_nat hn]
theorem pow_small {b t : Nat} (hb : b ≤ 10) (ht : t ≤ 6) : b ^ t ≤ 1000000 := 
   Nat.le_trans (Nat.pow_le_pow_left hb t) (Nat.pow_le_pow_right (n := 10) (by decide) ht)
theorem op_mulN {i j : Nat} {S : Store} (h : i < 18446744073709551616 ∨ j < 18446744073709551616) : op2 .mul (.int (i : Int)) (.int (j : Int)) S = .ok (.int ((i * j : Nat) : Int)) S := by
  rw [op_mulS (by rw [p64]; omega), Int.natCast_mul]
end Dg
end

section
set_option Elab.async false
set_option linter.all false
set_option maxRecDepth 100000
set_option maxHeartbeats 1000000
/-! PlD: deep equality of plain data. -/
namespace Dg
open PySem L2
variable {S : Store}
theorem toDs_map {α : Type} {g : α → PV} {d : α → PyData} (h : ∀ x, toD S (g x) = some (d x)) : ∀ {xs : List α}, toDs S (xs.map g) = some (xs.map d)
  | [] => by rw [List.map_nil, toDs]; rfl
  | x :: xs => by
    rw [List.map_cons, toDs, h, toDs_map h]; rfl
theorem canAll_map {α : Type} {d : α → PyData} (h : ∀ x, PyData.canLay0 (d x) = true) : ∀ {xs : List α}, PyData.canLayAll0 (xs.map d) = true
  | [] => by rw [List.map_nil, PyData.canLayAll0]
  | x :: xs => by rw [List.map_cons, PyData.canLayAll0, h, canAll_map h]; rfl
theorem depthAll_map {α : Type} {d : α → PyData} {n : Nat} (h : ∀ x, PyData.depth (d x) ≤ n) : ∀ {xs : List α}, PyData.depthAll (xs.map d) ≤ n
  | [] => by rw [List.map_nil, PyData.depthAll]; omega
  | x :: xs => by
    rw [List.map_cons, PyData.depthAll]
    have := h x
    have := depthAll_map (n := n) h (xs := xs)
    omega
def rowP (row : List Int) : PV := .tup (row.map PV.int)
def rowD (row : List Int) : PyData := .tuple (row.map PyData.int)
theorem toD_row {row : List Int} : toD S (rowP row) = some (rowD row) := by
  unfold rowP rowD
  rw [toD, toDs_map (d := PyData.int) (fun x => by rw [toD])]; rfl
theorem can_row {row : List Int} : PyData.canLay0 (rowD row) = true := by
  unfold rowD
  rw [PyData.canLay0, canAll_map (fun x => by rw [PyData.canLay0])]
theorem depth_row {row : List Int} : PyData.depth (rowD row) ≤ 1 := by
  unfold rowD
  rw [PyData.depth]
  have := depthAll_map (n := 0) (d := PyData.int) (xs := row) (fun x => by rw [PyData.depth]; omega)
  omega
theorem ne_nil_rows {rows : List (List Int)} : op2 .ne (.tup (rows.map rowP)) (.tup []) S = .ok (.bl (!rows.isEmpty)) S := by
  show eqD true (.tup (rows.map rowP)) (.tup []) S = _
  unfold eqD
  rw [if_neg (by simp [scalP])]
  have e1 : toD1 S (.tup (rows.map rowP)) = some (.tuple (rows.map rowD)) := by
    rw [toD1, toD, toDs_map (fun x => toD_row)]; rfl
    all_goals simp
  have e2 : toD1 S (.tup []) = some (.tuple []) := by
    rw [toD1, toD, toDs]; rfl
    all_goals simp
  rw [e1, e2]
  have s1 : SeqAt.shaped (.tuple (rows.map rowD)) = true := by
    unfold SeqAt.shaped
    rw [PyData.canLay0, canAll_map (fun x => can_row), PyData.depth]
    have := depthAll_map (n := 1) (d := rowD) (xs := rows) (fun x => depth_row)
    simp; omega
  have s2 : SeqAt.shaped (.tuple []) = true := by decide +kernel
  dsimp only
  rw [if_pos ⟨s1, s2⟩]
  unfold okB
  cases rows with
  | nil => simp [PyData.eqv, PyData.eqvAll]
  | cons a b => simp [PyData.eqv, PyData.eqvAll]
theorem ne_nil_one {x : PV} {d : PyData} (h : toD S x = some d) (hs : SeqAt.shaped (.tuple [d]) = true) : op2 .ne (.tup [x]) (.tup []) S = .ok (.bl true) S := by
  show eqD true (.tup [x]) (.tup []) S = _
  unfold eqD
  rw [if_neg (by simp [scalP])]
  have e1 : toD1 S (.tup [x]) = some (.tuple [d]) := by
    rw [toD1, toD, toDs, h, toDs]; rfl
    all_goals simp
  have e2 : toD1 S (.tup []) = some (.tuple []) := by
    rw [toD1, toD, toDs]; rfl
    all_goals simp
  rw [e1, e2]
  have s2 : SeqAt.shaped (.tuple []) = true := by decide +kernel
  dsimp only
  rw [if_pos ⟨hs, s2⟩]
  simp [okB, PyData.eqv, PyData.eqvAll]
@[simp] theorem ne_nil_nil : op2 .ne (.tup []) (.tup []) S = .ok (.bl false) S := by
  have := ne_nil_rows (S := S) (rows := [])
  simpa using this
@[simp] theorem ix4_0 {a b c d : PV} : op2 .ix (.tup [a, b, c, d]) (.int 0) S = .ok a S := rfl
@[simp] theorem ix4_1 {a b c d : PV} : op2 .ix (.tup [a, b, c, d]) (.int 1) S = .ok b S := rfl
@[simp] theorem ix4_2 {a b c d : PV} : op2 .ix (.tup [a, b, c, d]) (.int 2) S = .ok c S := rfl
@[simp] theorem ix4_3 {a b c d : PV} : op2 .ix (.tup [a, b, c, d]) (.int 3) S = .ok d S := rfl
theorem ix_tup {xs : List PV} {i : Nat} {x : PV} (h : xs[i]? = some x) : op2 .ix (.tup xs) (.int i) S = .ok x S := by
  show (match atI xs i with
    | some v => Res.ok v S
    | none => .bad) = _
  rw [atI_nat h]
theorem ix_lst {xs : List PV} {i : Nat} {x : PV} (h : xs[i]? = some x) : op2 .ix (.lst xs) (.int i) S = .ok x S := by
  show (match atI xs i with
    | some v => Res.ok v S
    | none => .bad) = _
  rw [atI_nat h]
theorem enumP_at : ∀ {xs : List PV} {n k : Nat} (h : k < (enumP n xs).length), (enumP n xs)[k] = .tup [.int ((n + k : Nat) : Int), xs.getD k .non]
  | [], _, _, h => by simp [enumP] at h
  | x :: xs, n, 0, h => by simp [enumP]
  | x :: xs, n, k + 1, h => by
    have z := enumP_at (xs := xs) (n := n + 1) (k := k) (by simpa [enumP] using h)
    simp [enumP] at z ⊢
    rw [z]
    simp; omega
theorem enumP_len : ∀ {xs : List PV} {n : Nat}, (enumP n xs).length = xs.length
  | [], _ => rfl
  | x :: xs, n => by simp [enumP, enumP_len]
theorem enumP_eq {xs : List PV} : enumP 0 xs = (List.range xs.length).map fun k => .tup [.int (k : Int), xs.getD k .non] := by
  apply List.ext_getElem
  · simp [enumP_len]
  · intro i h1 h2
    rw [enumP_at h1]
    simp
theorem compL_A {α : Type} {f : PV → Store → Res (Option PV)} {g : α → PV} {h : α → PV} : ∀ {as : List α}, (∀ a ∈ as, f (g a) S = .ok (some (h a)) S) → compL f none (as.map g) S = .ok (as.map h) S
  | [], _ => by rw [List.map_nil]; unfold compL; rfl
  | a :: as, hx => by
    rw [List.map_cons]
    unfold compL
    rw [hx a (List.mem_cons_self ..), Res.bind_ok, if_pos (show Grd none S from trivial), compL_A fun y hy => hx y (List.mem_cons_of_mem _ hy), Res.bind_ok]
    rfl
theorem comp_A {C : Cxt} {own : List Nat} {t : TGT} {it : IT} {e : ME} {r : PEnv} {α : Type} {as : List α} {g h : α → PV} (hi : evalI C it r S = .ok (as.map g, none) S) (hl : as.length < sizeLine) (hx : ∀ a ∈ as, turnF C own t .none e r (g a) S = .ok (some (h a)) S) : evalE C (.comp false own t it .none e) r S = .ok (.lst (as.map h)) S := by
  rw [eE_comp, hi, Res.bind_ok]
  dsimp only
  rw [if_pos (by simpa using hl), compL_A hx, Res.bind_ok, if_neg Bool.false_ne_true]
def enumL (xs : List PV) : List PV := (List.range xs.length).map fun (k : Nat) => .tup [.int (k : Int), xs.getD k .non]
theorem eI_enumT {C : Cxt} {r : PEnv} {e : ME} {xs : List PV} (h : evalE C e r S = .ok (.tup xs) S) : evalI C (.enum e) r S = .ok (enumL xs, none) S := by
  rw [eI_enum, h, Res.bind_ok]
  simp only [seqOf, enumP_eq, enumL]
theorem eI_ofT {C : Cxt} {r : PEnv} {e : ME} {xs : List PV} (h : evalE C e r S = .ok (.tup xs) S) : evalI C (.of e) r S = .ok (xs, none) S := by
  rw [eI_of, h, Res.bind_ok]
  simp only [seqOf]
theorem eI_ofL {C : Cxt} {r : PEnv} {e : ME} {xs : List PV} (h : evalE C e r S = .ok (.lst xs) S) : evalI C (.of e) r S = .ok (xs, none) S := by
  rw [eI_of, h, Res.bind_ok]
  simp only [seqOf]
end Dg
end

section
set_option Elab.async false
set_option linter.all false
set_option maxRecDepth 100000
set_option maxHeartbeats 1000000
/-! PlE: texts by their signs. -/
namespace Dg
open PySem L2
variable {St : Store}
abbrev tx (l : List Nat) : PV := .str (SX.S l)
theorem log2_small {n : Nat} (h : n < 18446744073709551616) : n.log2 < 1920 := by
  by_cases hz : n = 0
  · subst hz; decide +kernel
  · have := (Nat.log2_lt hz).mpr (show n < 2 ^ 64 from h)
    omega
theorem opn_str_nat {n : Nat} (h : n < 18446744073709551616) : opn .str_ [.int (n : Int)] St = .ok (tx (TL.numL n)) St := by
  show (if ((n : Nat) : Int).natAbs.log2 < 1920 then (Res.ok (.str (toString ((n : Nat) : Int))) St : Res PV) else .bad) = _
  rw [if_pos (by rw [Int.natAbs_natCast]; exact log2_small h)]
  rw [show (toString ((n : Nat) : Int) : Str) = SX.S (TL.numL n) from SX.num_S n]
theorem add_SS {a b : List Nat} (h : a.length + b.length ≤ 16777216) : op2 .add (tx a) (tx b) St = .ok (tx (a ++ b)) St := by
  show (if (SX.S a).length + (SX.S b).length ≤ sizeLine then (Res.ok (.str (SX.S a ++ SX.S b)) St : Res PV) else .bad) = _
  rw [SX.S_len, SX.S_len, if_pos (show _ ≤ sizeLine from h), SX.S_cat]
theorem add_LL {xs ys : List PV} (h : xs.length + ys.length ≤ 16777216) : op2 .add (.lst xs) (.lst ys) St = .ok (.lst (xs ++ ys)) St := by
  show (if xs.length + ys.length ≤ sizeLine then (Res.ok (.lst (xs ++ ys)) St : Res PV) else .bad) = _
  rw [if_pos (show _ ≤ sizeLine from h)]
theorem add_TT {xs ys : List PV} (h : xs.length + ys.length ≤ 16777216) : op2 .add (.tup xs) (.tup ys) St = .ok (.tup (xs ++ ys)) St := by
  show (if xs.length + ys.length ≤ sizeLine then (Res.ok (.tup (xs ++ ys)) St : Res PV) else .bad) = _
  rw [if_pos (show _ ≤ sizeLine from h)]
theorem len_SS {a : List Nat} (h : a.length ≤ 16777216) : opn .len [tx a] St = .ok (.int a.length) St := by
  rw [opn_len_str (by rw [SX.S_len]; exact h), SX.S_len]
theorem join_SS {a : List Nat} {ys : List (List Nat)} (h : (ys.map fun y => y.length).sum + ys.length * a.length ≤ 16777216) : opn .join [tx a, .lst (ys.map tx)] St = .ok (tx (TL.joinL a ys)) St := by
  have e : ys.map tx = (ys.map SX.S).map PV.str := by rw [List.map_map]; rfl
  rw [e, join_str, SX.join_S]
  rw [SX.S_len, List.length_map, show (ys.map SX.S).map (fun y => Str.length y) = ys.map fun y => y.length from SX.lens ys]
  exact h
theorem join_RS {a : List Nat} {n : Nat} {ys : List (List Nat)} (hn : St[n]? = some (.lst (ys.map tx))) (h : (ys.map fun y => y.length).sum + ys.length * a.length ≤ 16777216) : opn .join [tx a, .ref n] St = .ok (tx (TL.joinL a ys)) St := by
  have z := join_SS (St := St) h
  have e : lstOf (.ref n) St = lstOf (.lst (ys.map tx)) St := by
    show (match St[n]? with
      | some (.lst xs) => some xs
      | _ => none) = some (ys.map tx)
    rw [hn]
  rw [← z]
  show (match (lstOf (.ref n) St).bind (allOf isSt) with
    | some ys => if (ys.map fun y => Str.length y).sum + ys.length * (SX.S a).length ≤ 16777216 then Res.ok (PV.str (Txt.join (SX.S a) ys)) St else (.bad : Res PV)
    | none => (.bad : Res PV)) = _
  rw [e]
  rfl
theorem joinL_len {a : List Nat} : ∀ {ys : List (List Nat)}, (TL.joinL a ys).length ≤ (ys.map fun y => y.length).sum + ys.length * a.length
  | [] => by simp [TL.joinL]
  | [y] => by simp [TL.joinL]
  | y :: z :: r => by
    have ih := joinL_len (a := a) (ys := z :: r)
    show (y ++ (a ++ TL.joinL a (z :: r))).length ≤ _
    simp only [List.length_append, List.map_cons, List.sum_cons, List.length_cons] at ih ⊢
    have : (r.length + 1 + 1) * a.length = (r.length + 1) * a.length + a.length := by rw [Nat.succ_mul]
    omega
theorem split_SS {a b : List Nat} (hb : b ≠ []) (hk : b.all (· < 256) = true) (ha : a.length + 2 ≤ 16777216) : opn .splitV [tx a, tx b] St = .ok (.lst ((TL.spl b 0 [] a).map tx)) St := by
  have hb2 : ((SX.S b).length == 0) = false := by
    rw [SX.S_len]
    cases b with
    | nil => exact absurd rfl hb
    | cons _ _ => rfl
  show (if ((SX.S b).length == 0) = false ∧ (SX.S a).length + 2 ≤ sizeLine then (Res.ok (.lst ((Txt.split (SX.S a) (SX.S b)).map .str)) St : Res PV) else .bad) = _
  rw [if_pos ⟨hb2, by rw [SX.S_len]; exact ha⟩, SX.split_S hb hk, List.map_map]
  rfl
theorem sum_le {ys : List (List Nat)} {m : Nat} (h : ∀ y ∈ ys, y.length ≤ m) : (ys.map fun y => y.length).sum ≤ ys.length * m := by
  induction ys with
  | nil => simp
  | cons y ys ih =>
    have h1 := h y (List.mem_cons_self ..)
    have h2 := ih fun z hz => h z (List.mem_cons_of_mem _ hz)
    simp only [List.map_cons, List.sum_cons, List.length_cons]
    rw [Nat.succ_mul]
    omega
theorem get_end {S : Store} {x : MO} : (S ++ [x])[S.length]? = some x := by simp
theorem set_end {S : Store} {x y : MO} : (S ++ [x]).set S.length y = S ++ [y] := by simp
theorem zipP_map {α β : Type} {g : α → PV} {h : β → PV} : ∀ {xs : List α} {ys : List β}, zipP (xs.map g) (ys.map h) = (xs.zip ys).map fun p => .tup [g p.1, h p.2]
  | [], _ => by simp [zipP]
  | x :: xs, [] => by simp [zipP]
  | x :: xs, y :: ys => by simp [zipP, zipP_map]
end Dg
end

section
set_option Elab.async false
set_option linter.all false
set_option maxRecDepth 100000
set_option maxHeartbeats 1000000
/-! PlF: splitting, slices. -/
namespace Dg
open PySem L2
variable {St : Store}
def sp (c : Nat) (l : List Nat) : List (List Nat) := TL.spl [c] 0 [] l
theorem spl1_cons {c d : Nat} {acc r : List Nat} : TL.spl [c] 0 acc (d :: r) = if d = c then acc :: TL.spl [c] 0 [] r else TL.spl [c] 0 (acc ++ [d]) r := by
  by_cases h : d = c
  · subst h
    rw [if_pos rfl, TL.spl_hit (by simp [TL.pre])]
    rfl
  · rw [if_neg h, TL.spl_miss (by simp [TL.pre, h])]
theorem spl1_sum {c : Nat} : ∀ (l acc : List Nat), ((TL.spl [c] 0 acc l).map fun y => y.length).sum + (TL.spl [c] 0 acc l).length = acc.length + l.length + 1
  | [], acc => by rw [TL.spl_nil]; simp
  | d :: r, acc => by
    rw [spl1_cons]
    split
    · have ih := spl1_sum (c := c) r []
      simp only [List.map_cons, List.sum_cons, List.length_cons, List.length_nil] at ih ⊢
      omega
    · have ih := spl1_sum (c := c) r (acc ++ [d])
      simp only [List.length_append, List.length_cons, List.length_nil] at ih ⊢
      omega
theorem spl1_ne {c : Nat} : ∀ (l acc : List Nat), TL.spl [c] 0 acc l ≠ []
  | [], acc => by rw [TL.spl_nil]; simp
  | d :: r, acc => by
    rw [spl1_cons]
    split
    · simp
    · exact spl1_ne r _
theorem sp_cons (c : Nat) (l : List Nat) : ∃ p ps, sp c l = p :: ps := by
  cases h : sp c l with
  | nil => exact absurd h (spl1_ne l [])
  | cons p ps => exact ⟨p, ps, rfl⟩
theorem mem_sum {ys : List (List Nat)} {y : List Nat} (h : y ∈ ys) : y.length ≤ (ys.map fun y => y.length).sum := by
  induction ys with
  | nil => simp at h
  | cons z zs ih =>
    simp only [List.map_cons, List.sum_cons]
    rcases List.mem_cons.mp h with rfl | h
    · omega
    · have := ih h; omega
theorem sp_sum {c : Nat} {l : List Nat} : ((sp c l).map fun y => y.length).sum + (sp c l).length = l.length + 1 := by
  have := spl1_sum (c := c) l []
  simpa [sp] using this
theorem sp_part {c : Nat} {l y : List Nat} (h : y ∈ sp c l) : y.length ≤ l.length := by
  have h1 := mem_sum h
  have h2 := sp_sum (c := c) (l := l)
  have h3 : 0 < (sp c l).length := List.length_pos_iff.mpr (spl1_ne l [])
  omega
theorem sp_len {c : Nat} {l : List Nat} : (sp c l).length ≤ l.length + 1 := by
  have h2 := sp_sum (c := c) (l := l)
  omega
theorem split_sp {c : Nat} {l : List Nat} (hc : c < 256) (hl : l.length + 2 ≤ 16777216) : opn .splitV [tx l, tx [c]] St = .ok (.lst ((sp c l).map tx)) St :=
  split_SS (by simp) (by simp [hc]) hl
theorem slice1 {x : PV} {xs : List PV} : slP (.lst (x :: xs)) (some 1) none St = .ok (.lst xs) St := by
  show Res.ok (PV.lst (((x :: xs).drop (HT.sIx (x :: xs).length 0 (some 1))).take (HT.sIx (x :: xs).length (x :: xs).length none - HT.sIx (x :: xs).length 0 (some 1)))) St = _
  have e : HT.sIx (x :: xs).length 0 (some 1) = 1 := by
    have := HT.sIx_nat (x :: xs).length 0 1
    rw [show ((1 : Nat) : Int) = 1 from rfl] at this
    rw [this]
    simp
  rw [e, HT.sIx_none]
  simp
theorem ix0_lst {x : PV} {xs : List PV} : op2 .ix (.lst (x :: xs)) (.int 0) St = .ok x St := ix_lst (i := 0) rfl
theorem sp_join {c : Nat} {parts : List (List Nat)} (hne : parts ≠ []) (h : ∀ p ∈ parts, c ∉ p) : sp c (TL.joinL [c] parts) = parts := SX.spl_join hne h
theorem none_of_spl1 {c : Nat} : ∀ (l acc : List Nat), c ∉ acc → ∀ y ∈ TL.spl [c] 0 acc l, c ∉ y
  | [], acc, h, y, hy => by
    rw [TL.spl_nil] at hy
    rw [List.mem_singleton.mp hy]; exact h
  | d :: r, acc, h, y, hy => by
    rw [spl1_cons] at hy
    split at hy
    · rcases List.mem_cons.mp hy with rfl | hy
      · exact h
      · exact none_of_spl1 r [] (by simp) y hy
    · exact none_of_spl1 r (acc ++ [d]) (by simp; exact ⟨h, fun e => by omega⟩) y hy
theorem sp_free {c : Nat} {l y : List Nat} (h : y ∈ sp c l) : c ∉ y := none_of_spl1 l [] (by simp) y h
end Dg
end

section
set_option Elab.async false
set_option linter.all false
set_option maxRecDepth 100000
set_option maxHeartbeats 1000000
namespace Dg
open PySem L2
noncomputable abbrev GG : Nat → Nat → List PV → Store → Res PV := Gp T0 defsL
noncomputable abbrev CC (k : Nat) : Cxt := { G := GG k, sub := fun c c' => T0.subs.lookup (c, c') }
@[simp] theorem CC_G {k : Nat} : (CC k).G = GG k := rfl
def isWh (v : PV) (l : Int) (m : PV) : Bool := match v with
  | .int i => decide (l ≤ i) && (match m with
    | .int m => decide (i ≤ m)
    | _ => true)
  | _ => false
def okW : PV → Prop
  | .non => True | .int _ => True | .bl _ => True | .tup _ => True | .str _ => True | _ => False
theorem is_whole_ok {k : Nat} {v m : PV} {l : Int} {S : Store} (hS : Wf S) (hv : okW v) (hm : m = .non ∨ ∃ i, m = .int i) : GG (k + 1) 0 [v, .int l, m] S = .ok (.bl (isWh v l m)) S := by
  rw [show GG (k + 1) 0 [v, .int l, m] S = _ from Gp_succ (d := d_is_whole) rfl]
  refine evalD_ret hS ?_ rfl
  show evalSs (CC k) m_is_whole [some v, some (.int l), some m] S = _
  unfold m_is_whole
  rcases hm with rfl | ⟨i, rfl⟩ <;> cases v <;> simp [okW] at hv ⊢ <;> simp [isWh]
  · split <;> simp_all
  · split <;> simp_all
    omega
def isRw (v m : PV) : Bool := match v with
  | .tup xs => (match m with
    | .int m => (xs.length : Int) == m
    | _ => true)
  | _ => false
theorem is_row_ok {k : Nat} {v m : PV} {S : Store} (hS : Wf S) (hv : okW v) (hm : m = .non ∨ ∃ i, m = .int i) : GG (k + 1) 1 [v, m] S = .ok (.bl (isRw v m)) S := by
  rw [show GG (k + 1) 1 [v, m] S = _ from Gp_succ (d := d_is_row) rfl]
  refine evalD_ret hS ?_ rfl
  show evalSs (CC k) m_is_row [some v, some m] S = _
  unfold m_is_row
  rcases hm with rfl | ⟨i, rfl⟩ <;> cases v <;> simp [okW] at hv ⊢ <;> simp [isRw]
theorem are_wholes_ok {k : Nat} {xs : List PV} {l m : Int} {S : Store} (hS : Wf S) (hv : ∀ x ∈ xs, okW x) (hl : xs.length < sizeLine) : GG (k + 2) 2 [.tup xs, .int l, .int m] S = .ok (.bl (xs.all fun x => isWh x l (.int m))) S := by
  rw [show GG (k + 2) 2 [.tup xs, .int l, .int m] S = _ from Gp_succ (k := k + 1) (d := d_are_wholes) rfl]
  refine evalD_ret hS ?_ rfl
  show evalSs (CC (k + 1)) m_are_wholes [some (.tup xs), some (.int l), some (.int m), none, none] S = _
  unfold m_are_wholes
  have hc := comp_ok (C := CC (k + 1)) (S := S) (own := [3, 4]) (t := .name 4) (it := .of (.var 0)) (e := (.call 0 [(.inl 0), (.inl 1), (.inl 2)] (.cons (.var 4) (.cons (.var 1) (.cons (.var 2) .nil))))) (r := [some (.tup xs), some (.int l), some (.int m), none, none]) (xs := xs) (h := fun x => .bl (isWh x l (.int m))) (by simp [seqOf]) hl (fun x hx => by
    unfold turnF
    simp [bindT, wipeP, permP, is_whole_ok hS (hv x hx) (.inr ⟨m, rfl⟩)])
  have hr := is_row_ok (k := k) (v := .tup xs) (m := .non) hS trivial (.inl rfl)
  simp [permP, hr, isRw, hc, all_p]
end Dg
end

section
set_option Elab.async false
set_option linter.all false
set_option maxRecDepth 100000
set_option maxHeartbeats 1000000
namespace Dg
open PySem L2
theorem pow_body {k : Nat} {b m : Nat} {y x : Option PV} {S : Store} (hb : b ≤ 10) : evalSs (CC k) ((.cons (.asg (.name 2) (.bin .mul (.var 2) (.var 0))) .nil)) [some (.int b), y, some (.int (m : Int)), x] S = .nx [some (.int b), y, some (.int ((m * b : Nat) : Int)), x] S := by
  have hm := op_mulN (S := S) (i := m) (j := b) (.inr (by omega))
  generalize ((m * b : Nat) : Int) = z at hm ⊢
  simp -implicitDefEqProofs [hm, bindT]
theorem power_of_ok {k : Nat} {b t : Nat} {S : Store} (hS : Wf S) (hb : b ≤ 10) (ht : t ≤ 6) : GG (k + 1) 3 [.int b, .int t] S = .ok (.int ((b ^ t : Nat) : Int)) S := by
  rw [show GG (k + 1) 3 [.int b, .int t] S = _ from Gp_succ (d := d_power_of) rfl]
  refine evalD_ret hS ?_ rfl
  show evalSs (CC k) m_power_of [some (.int b), some (.int t), none, none] S = _
  unfold m_power_of
  have hl := forL_k (t := .name 3) (g := none) (f := fun r2 S2 => evalSs (CC k) ((.cons (.asg (.name 2) (.bin .mul (.var 2) (.var 0))) .nil)) r2 S2) (xs := (List.range t).map fun (k : Nat) => .int (k : Int)) (r := [some (.int b), some (.int t), some (.int 1), none]) (S := S)
    (fun n r S' => S' = S ∧ ∃ x, r = [some (.int b), some (.int t), some (.int ((b ^ n : Nat) : Int)), x]) (fun _ _ => False)
    (fun n hn r S' hI => by
      obtain ⟨rfl, x, rfl⟩ := hI
      refine ⟨[some (.int b), some (.int t), some (.int ((b ^ n : Nat) : Int)), some (.int n)], by simp [bindT], .inl ⟨_, _, .inl (pow_body hb), trivial, rfl, some (.int n), by rw [Nat.pow_succ]⟩⟩) ⟨rfl, none, by simp⟩
  rcases hl with ⟨r', S', e, rfl, x, rfl⟩ | ⟨_, _, _, h⟩
  · have hr := eI_rng (C := CC k) (S := S') (r := [some (.int b), some (.int t), some (.int 1), none]) (e := .var 1) (n := t) (by simp) (by omega)
    rw [eSs_cons, eS_asg, eE_k, Res.to_ok]
    simp only [bindT, List.set, SRes.seq_nx]
    rw [eSs_cons, eS_for, hr, Res.to_ok, e]
    simp
  · exact h.elim
end Dg
end

section
set_option Elab.async false
set_option linter.all false
set_option maxRecDepth 100000
set_option maxHeartbeats 1000000
namespace Dg
open PySem L2
def rdP (x y : PV) (rows : List (List Int)) (lets : List Bool) : PV := .tup [x, y, .tup (rows.map rowP), .tup (lets.map PV.bl)]
def zeroAt (rows : List (List Int)) (lets : List Bool) (p : Nat) : Bool := lets.getD p false == lets.getD ((rows.getD p []).headD 0).toNat false
def zerosB (rows : List (List Int)) (lets : List Bool) : Bool := (List.range rows.length).all (zeroAt rows lets)
def rowOk (n c : Nat) (row : List Int) : Bool := (row.all fun x => isWh (.int x) 0 (.int ((n : Int) - 1))) && row.length == c
def pw (x y : PV) : Nat := match x, y with
  | .int b, .int t => b.toNat ^ t.toNat
  | _, _ => 0
def formB (x y : PV) (rows : List (List Int)) : Bool := isWh x 2 (.int 10) && isWh y 0 (.int 6) && !rows.isEmpty
def validB (x y : PV) (rows : List (List Int)) (lets : List Bool) : Bool := formB x y rows && (decide (pw x y * rows.length ≤ 20000) && (rows.all (rowOk rows.length (pw x y)) && zerosB rows lets))
theorem is_base_ok {k : Nat} {v : PV} {S : Store} (hS : Wf S) (hv : okW v) : GG (k + 2) 4 [v] S = .ok (.bl (isWh v 2 (.int 10))) S := by
  rw [show GG (k + 2) 4 [v] S = _ from Gp_succ (k := k + 1) (d := d_is_base) rfl]
  refine evalD_ret hS ?_ rfl
  show evalSs (CC (k + 1)) m_is_base [some v] S = _
  unfold m_is_base
  have h := is_whole_ok (k := k) (v := v) (m := .int 10) (l := 2) hS hv (.inr ⟨_, rfl⟩)
  simp -implicitDefEqProofs [permP, h]
theorem has_form_ok {k : Nat} {x y : PV} {rows : List (List Int)} {lets : List Bool} {S : Store} (hS : Wf S) (hx : okW x) (hy : okW y) (hl : rows.length = lets.length) : GG (k + 3) 5 [rdP x y rows lets] S = .ok (.bl (formB x y rows)) S := by
  rw [show GG (k + 3) 5 [rdP x y rows lets] S = _ from Gp_succ (k := k + 2) (d := d_has_form) rfl]
  refine evalD_ret hS ?_ rfl
  show evalSs (CC (k + 2)) m_has_form [some (rdP x y rows lets)] S = _
  unfold m_has_form
  have h1 := is_base_ok (k := k) (v := x) hS hx
  have h2 := is_whole_ok (k := k + 1) (v := y) (l := 0) (m := .int 6) hS hy (.inr ⟨_, rfl⟩)
  have h3 := is_row_ok (k := k + 1) (v := rdP x y rows lets) (m := .int 4) hS trivial (.inr ⟨_, rfl⟩)
  have h4 := is_row_ok (k := k + 1) (v := .tup (rows.map rowP)) (m := .non) hS trivial (.inl rfl)
  have h5 := is_row_ok (k := k + 1) (v := .tup (lets.map PV.bl)) (m := .non) hS trivial (.inl rfl)
  have h6 := ne_nil_rows (S := S) (rows := rows)
  unfold rdP at h3 ⊢
  unfold formB
  cases q1 : isWh x 2 (.int 10) <;> cases q2 : isWh y 0 (.int 6) <;> cases q3 : rows.isEmpty <;> rw [q1] at h1 <;> rw [q2] at h2 <;> rw [q3] at h6 <;>
    simp -implicitDefEqProofs [permP, h1, h2, h3, h4, h5, h6, isRw, hl]
end Dg
end

section
set_option Elab.async false
set_option linter.all false
set_option maxRecDepth 100000
set_option maxHeartbeats 1000000
namespace Dg
open PySem L2
theorem isWh_iff {v : PV} {l m : Int} : isWh v l (.int m) = true ↔ ∃ i, v = .int i ∧ l ≤ i ∧ i ≤ m := by
  cases v <;> simp [isWh]
theorem rows_get {rows : List (List Int)} {k : Nat} {row : List Int} (h : rows[k]? = some row) : (rows.map rowP).getD k .non = rowP row := by
  simp [h]
abbrev rfLoop : MSs := (.cons (.ifS (.or_ (.not_ (.call 2 [(.inl 0), (.inl 1), (.inl 2)] (.cons (.var 4) (.cons (.k (.int (0))) (.cons (.bin .sub (.var 2) (.k (.int (1)))) .nil))))) (.bin .ne (.bi .len (.cons (.var 4) .nil)) (.var 1))) (.cons (.ret (.tup (.cons (.var 3) .nil))) .nil) .nil) .nil)
theorem rf_body {k n c : Nat} {v : Option PV} {p : PV} {row : List Int} {S : Store} (hS : Wf S) (hr : row.length < sizeLine) :
    evalSs (CC (k + 2)) rfLoop [v, some (.int (c : Int)), some (.int (n : Int)), some p, some (rowP row), none, none] S = (if rowOk n c row = true then .nx [v, some (.int (c : Int)), some (.int (n : Int)), some p, some (rowP row), none, none] S else .ret (.tup [p]) S) := by
  have h := are_wholes_ok (k := k) (xs := row.map PV.int) (l := 0) (m := (n : Int) - 1) hS (by intro x hx; simp at hx; obtain ⟨i, _, rfl⟩ := hx; trivial) (by simpa using hr)
  have e : (row.map PV.int).all (fun x => isWh x 0 (.int ((n : Int) - 1))) = row.all (fun x => isWh (.int x) 0 (.int ((n : Int) - 1))) := by rw [List.all_map]; rfl
  rw [e] at h
  unfold rfLoop rowOk rowP
  cases q : row.all (fun x => isWh (.int x) 0 (.int ((n : Int) - 1))) <;> rw [q] at h
  · simp -implicitDefEqProofs [permP, h, sizeLine]
  · by_cases z : row.length = c
    · simp -implicitDefEqProofs [permP, h, z]
    · have z2 : ¬ ((row.length : Int) = (c : Int)) := by omega
      have z3 : (row.length == c) = false := by simpa using z
      have z4 : ((row.length : Int) == (c : Int)) = false := by simpa using z2
      simp -implicitDefEqProofs [permP, h, z, z2, z3, z4, sizeLine]
theorem rf_loop {k c : Nat} {v : PV} {rows : List (List Int)} {S : Store} (hS : Wf S) (hr : ∀ row ∈ rows, row.length < sizeLine) :
    (∃ a b, rows.all (rowOk rows.length c) = true ∧ forL (.tup [3, 4]) (fun r2 S2 => evalSs (CC (k + 2)) rfLoop r2 S2) none (enumL (rows.map rowP)) [some v, some (.int (c : Int)), some (.int (rows.length : Int)), none, none, none, none] S = .nx [some v, some (.int (c : Int)), some (.int (rows.length : Int)), a, b, none, none] S) ∨
    (∃ p : Int, rows.all (rowOk rows.length c) = false ∧ forL (.tup [3, 4]) (fun r2 S2 => evalSs (CC (k + 2)) rfLoop r2 S2) none (enumL (rows.map rowP)) [some v, some (.int (c : Int)), some (.int (rows.length : Int)), none, none, none, none] S = .ret (.tup [.int p]) S) := by
  have hl := forL_k (t := .tup [3, 4]) (g := none) (f := fun r2 S2 => evalSs (CC (k + 2)) rfLoop r2 S2) (xs := enumL (rows.map rowP)) (r := [some v, some (.int (c : Int)), some (.int (rows.length : Int)), none, none, none, none]) (S := S)
    (fun n r S' => S' = S ∧ (∀ i < n, ∀ row, rows[i]? = some row → rowOk rows.length c row = true) ∧ ∃ a b, r = [some v, some (.int (c : Int)), some (.int (rows.length : Int)), a, b, none, none])
    (fun v S' => S' = S ∧ rows.all (rowOk rows.length c) = false ∧ ∃ p : Int, v = .tup [.int p])
    (fun n hn r S' hI => by
      obtain ⟨rfl, hd, a, b, rfl⟩ := hI
      have hn' : n < rows.length := by simpa [enumL] using hn
      have hg : rows[n]? = some rows[n] := by simp [hn']
      refine ⟨[some v, some (.int (c : Int)), some (.int (rows.length : Int)), some (.int (n : Int)), some (rowP rows[n]), none, none], by simp [bindT, hn', enumL], ?_⟩
      have hb := rf_body (k := k) (n := rows.length) (c := c) (v := some v) (p := .int n) (row := rows[n]) hS (hr _ (List.getElem_mem hn'))
      cases q : rowOk rows.length c rows[n]
      · rw [q, if_neg Bool.false_ne_true] at hb
        refine .inr ⟨_, _, hb, rfl, ?_, n, rfl⟩
        rw [Bool.eq_false_iff]
        intro z
        have := List.all_eq_true.mp z _ (List.getElem_mem hn')
        rw [q] at this; cases this
      · rw [q, if_pos rfl] at hb
        refine .inl ⟨_, _, .inl hb, trivial, rfl, ?_, _, _, rfl⟩
        intro i hi row hrow
        rcases Nat.lt_succ_iff_lt_or_eq.mp hi with h | rfl
        · exact hd i h row hrow
        · rw [hg] at hrow; cases hrow; exact q) ⟨rfl, fun i hi => absurd hi (by omega), none, none, rfl⟩
  rcases hl with ⟨r', S', e, rfl, hd, a, b, rfl⟩ | ⟨v, S', e, rfl, hf, p, rfl⟩
  · refine .inl ⟨a, b, ?_, e⟩
    rw [List.all_eq_true]
    intro row hrow
    obtain ⟨i, hi, rfl⟩ := List.getElem_of_mem hrow
    exact hd i (by simpa [enumL] using hi) _ (by simp [hi])
  · exact .inr ⟨p, hf, e⟩
end Dg
end

section
set_option Elab.async false
set_option linter.all false
set_option maxRecDepth 100000
set_option maxHeartbeats 1000000
namespace Dg
open PySem L2
def okF (f : PV) : Prop := (∃ p : Int, f = .int p) ∨ f = .str (Str.ofString "form") ∨ f = .str (Str.ofString "many") ∨ f = .str (Str.ofString "zeros")
abbrev rfZero : ME := (.comp false [5, 3, 4] (.tup [3, 4]) (.enum (.bin .ix (.var 0) (.k (.int (2))))) .none (.bin .eq (.bin .ix (.bin .ix (.var 0) (.k (.int (3)))) (.var 3)) (.bin .ix (.bin .ix (.var 0) (.k (.int (3)))) (.bin .ix (.var 4) (.k (.int (0)))))))
abbrev rfLets : ME := (.comp false [5, 6] (.name 6) (.of (.bin .ix (.var 0) (.k (.int (3))))) .none (.bi (.isin ["bool"]) (.cons (.var 6) .nil)))
theorem rf_lets {C : Cxt} {x y : PV} {rows : List (List Int)} {lets : List Bool} {a b c d : Option PV} {S : Store} (hl : lets.length < sizeLine) :
    evalE C rfLets [some (rdP x y rows lets), a, b, c, d, none, none] S = .ok (.lst (lets.map fun _ => .bl true)) S := by
  unfold rfLets
  refine comp_A (g := PV.bl) (h := fun _ => .bl true) (eI_ofT (by unfold rdP; simp -implicitDefEqProofs)) hl (fun a _ => ?_)
  unfold turnF
  simp -implicitDefEqProofs [bindT, wipeP]
theorem rf_zero {C : Cxt} {x y : PV} {rows : List (List Int)} {lets : List Bool} {a b c d : Option PV} {S : Store} {cs : Nat} (hl : rows.length < sizeLine) (hll : rows.length = lets.length) (hv : rows.all (rowOk rows.length cs) = true) (hc : 0 < cs) :
    evalE C rfZero [some (rdP x y rows lets), a, b, c, d, none, none] S = .ok (.lst ((List.range rows.length).map fun p => .bl (zeroAt rows lets p))) S := by
  unfold rfZero
  have hi := eI_enumT (C := C) (S := S) (e := .bin .ix (.var 0) (.k (.int (2)))) (r := [some (rdP x y rows lets), a, b, c, d, none, none]) (xs := rows.map rowP) (by unfold rdP; simp -implicitDefEqProofs)
  unfold enumL at hi
  rw [List.length_map] at hi
  refine comp_A (h := fun p => .bl (zeroAt rows lets p)) hi (by simpa using hl) (fun p hp => ?_)
  have hp' : p < rows.length := by simpa using hp
  have hr := List.all_eq_true.mp hv _ (List.getElem_mem hp')
  unfold rowOk at hr
  simp at hr
  obtain ⟨h1, h2⟩ := hr
  unfold turnF
  cases hq : rows[p] with
  | nil => rw [hq] at h2; simp at h2; omega
  | cons z zs =>
    have hz := h1 z (by rw [hq]; simp)
    obtain ⟨i, ei, hi0, hi1⟩ := isWh_iff.mp hz
    cases ei
    obtain ⟨m, rfl⟩ := Int.eq_ofNat_of_zero_le hi0
    have hm : m < lets.length := by omega
    have e1 : op2 .ix (.tup (lets.map PV.bl)) (.int (p : Int)) S = .ok (.bl (lets.getD p false)) S := ix_tup (by simp [show p < lets.length by omega])
    have e2 : op2 .ix (.tup (lets.map PV.bl)) (.int (m : Int)) S = .ok (.bl (lets.getD m false)) S := ix_tup (by simp [hm])
    have e3 : op2 .ix (rowP ((m : Int) :: zs)) (.int 0) S = .ok (.int (m : Int)) S := ix_tup (i := 0) (by simp)
    have e4 : zeroAt rows lets p = (lets.getD p false == lets.getD m false) := by
      unfold zeroAt
      simp [hp', hq]
    rw [e4]
    have e5 : (rows.map rowP).getD p .non = rowP ((m : Int) :: zs) := by simp [hp', hq]
    rw [e5]
    unfold rdP
    simp -implicitDefEqProofs [bindT, wipeP, e1, e2, e3]
theorem reader_fault_ok {k : Nat} {x y : PV} {rows : List (List Int)} {lets : List Bool} {S : Store} (hS : Wf S) (hx : okW x) (hy : okW y) (hl : rows.length = lets.length) (hs : rows.length < sizeLine) (hr : ∀ row ∈ rows, row.length < sizeLine) :
    (validB x y rows lets = true ∧ GG (k + 4) 6 [rdP x y rows lets] S = .ok (.tup []) S) ∨ (validB x y rows lets = false ∧ ∃ f, okF f ∧ GG (k + 4) 6 [rdP x y rows lets] S = .ok (.tup [f]) S) := by
  rw [show GG (k + 4) 6 [rdP x y rows lets] S = _ from Gp_succ (k := k + 3) (d := d_reader_fault) rfl]
  have h1 := has_form_ok (k := k) (x := x) (y := y) (rows := rows) (lets := lets) hS hx hy hl
  have key : (validB x y rows lets = true ∧ evalSs (CC (k + 3)) m_reader_fault [some (rdP x y rows lets), none, none, none, none, none, none] S = .ret (.tup []) S) ∨ (validB x y rows lets = false ∧ ∃ f, okF f ∧ evalSs (CC (k + 3)) m_reader_fault [some (rdP x y rows lets), none, none, none, none, none, none] S = .ret (.tup [f]) S) := by
    unfold m_reader_fault validB
    cases q : formB x y rows
    · refine .inr ⟨by simp, _, .inr (.inl rfl), ?_⟩
      rw [q] at h1
      simp -implicitDefEqProofs [permP, h1, sizeLine]
    · rw [q] at h1
      unfold formB at q
      simp at q
      obtain ⟨⟨q1, q2⟩, q3⟩ := q
      obtain ⟨b, rfl, hb1, hb2⟩ := isWh_iff.mp q1
      obtain ⟨t, rfl, ht1, ht2⟩ := isWh_iff.mp q2
      obtain ⟨b, rfl⟩ := Int.eq_ofNat_of_zero_le (show 0 ≤ b by omega)
      obtain ⟨t, rfl⟩ := Int.eq_ofNat_of_zero_le ht1
      have hpw : pw (.int (b : Int)) (.int (t : Int)) = b ^ t := rfl
      rw [hpw]
      have h2 := power_of_ok (k := k + 2) (b := b) (t := t) hS (by omega) (by omega)
      have hps := pow_small (b := b) (t := t) (by omega) (by omega)
      have hpp : 0 < b ^ t := Nat.pow_pos (by omega)
      generalize b ^ t = cs at h2 hps hpp ⊢
      have hn : rows.length < 16777216 := hs
      have eA : evalS (CC (k + 3)) (.ifS (.not_ (.call 5 [(.inl 0)] (.cons (.var 0) .nil))) (.cons (.ret (.tup (.cons (.k (.str (Str.ofString "form"))) .nil))) .nil) .nil) [some (rdP (.int b) (.int t) rows lets), none, none, none, none, none, none] S = .nx [some (rdP (.int b) (.int t) rows lets), none, none, none, none, none, none] S := by
        simp -implicitDefEqProofs [permP, h1]
      rw [eSs_cons, eA, SRes.seq_nx]
      have eB : evalS (CC (k + 3)) (.asg (.tup [1, 2]) (.tup (.cons (.call 3 [(.inl 0), (.inl 1)] (.cons (.bin .ix (.var 0) (.k (.int (0)))) (.cons (.bin .ix (.var 0) (.k (.int (1)))) .nil))) (.cons (.bi .len (.cons (.bin .ix (.var 0) (.k (.int (2)))) .nil)) .nil)))) [some (rdP (.int b) (.int t) rows lets), none, none, none, none, none, none] S = .nx [some (rdP (.int b) (.int t) rows lets), some (.int (cs : Int)), some (.int (rows.length : Int)), none, none, none, none] S := by
        unfold rdP
        simp -implicitDefEqProofs [permP, h2, sizeLine, bindT]
      rw [eSs_cons, eB, SRes.seq_nx]
      have hm := op_mulN (S := S) (i := cs) (j := rows.length) (.inl (by omega))
      generalize hz : cs * rows.length = z at hm ⊢
      have eC : evalS (CC (k + 3)) (.ifS (.bin .gt (.bin .mul (.var 1) (.var 2)) (.k (.int (20000)))) (.cons (.ret (.tup (.cons (.k (.str (Str.ofString "many"))) .nil))) .nil) .nil) [some (rdP (.int b) (.int t) rows lets), some (.int (cs : Int)), some (.int (rows.length : Int)), none, none, none, none] S = if z ≤ 20000 then .nx [some (rdP (.int b) (.int t) rows lets), some (.int (cs : Int)), some (.int (rows.length : Int)), none, none, none, none] S else .ret (.tup [.str (Str.ofString "many")]) S := by
        by_cases w : z ≤ 20000
        · have w2 : ¬ ((20000 : Int) < (z : Int)) := by omega
          simp -implicitDefEqProofs [hm, w, w2]
        · have w2 : ((20000 : Int) < (z : Int)) := by omega
          simp -implicitDefEqProofs [hm, w, w2, sizeLine]
      rw [eSs_cons, eC]
      by_cases w : z ≤ 20000
      case neg =>
        refine .inr ⟨by simp [w], _, .inr (.inr (.inl rfl)), ?_⟩
        rw [if_neg w, SRes.seq_ret]
      rw [if_pos w, SRes.seq_nx]
      have hi := eI_enumT (C := CC (k + 3)) (S := S) (e := .bin .ix (.var 0) (.k (.int (2)))) (r := [some (rdP (.int b) (.int t) rows lets), some (.int (cs : Int)), some (.int (rows.length : Int)), none, none, none, none]) (xs := rows.map rowP) (by unfold rdP; simp -implicitDefEqProofs)
      rw [eSs_cons, eS_for, hi, Res.to_ok]
      rcases rf_loop (k := k + 1) (c := cs) (v := rdP (.int b) (.int t) rows lets) hS hr with ⟨a', b', hv, hf⟩ | ⟨p, hv, hf⟩
      case inr =>
        refine .inr ⟨by rw [hv]; simp, _, .inl ⟨p, rfl⟩, ?_⟩
        have hf' := hf
        dsimp only
        rw [hf', SRes.seq_ret]
      dsimp only
      rw [hf, SRes.seq_nx]
      have hlt : lets.length < sizeLine := by rw [← hl]; exact hs
      have eE : evalS (CC (k + 3)) (.ifS (.not_ (.bi .all_ (.cons rfLets .nil))) (.cons (.ret (.tup (.cons (.k (.str (Str.ofString "lets"))) .nil))) .nil) .nil) [some (rdP (.int b) (.int t) rows lets), some (.int (cs : Int)), some (.int (rows.length : Int)), a', b', none, none] S = .nx [some (rdP (.int b) (.int t) rows lets), some (.int (cs : Int)), some (.int (rows.length : Int)), a', b', none, none] S := by
        have hL := rf_lets (C := CC (k + 3)) (x := .int b) (y := .int t) (rows := rows) (lets := lets) (a := some (.int (cs : Int))) (b := some (.int (rows.length : Int))) (c := a') (d := b') (S := S) hlt
        have hA := all_p (S := S) (p := fun _ => true) (xs := lets)
        simp -implicitDefEqProofs [hL, hA]
      rw [eSs_cons, eE, SRes.seq_nx]
      have hZ := rf_zero (C := CC (k + 3)) (x := .int b) (y := .int t) (rows := rows) (lets := lets) (a := some (.int (cs : Int))) (b := some (.int (rows.length : Int))) (c := a') (d := b') (S := S) (cs := cs) hs hl hv hpp
      have hA := all_p (S := S) (p := zeroAt rows lets) (xs := List.range rows.length)
      have eF : evalS (CC (k + 3)) (.ifS (.not_ (.bi .all_ (.cons rfZero .nil))) (.cons (.ret (.tup (.cons (.k (.str (Str.ofString "zeros"))) .nil))) .nil) .nil) [some (rdP (.int b) (.int t) rows lets), some (.int (cs : Int)), some (.int (rows.length : Int)), a', b', none, none] S = if zerosB rows lets = true then .nx [some (rdP (.int b) (.int t) rows lets), some (.int (cs : Int)), some (.int (rows.length : Int)), a', b', none, none] S else .ret (.tup [.str (Str.ofString "zeros")]) S := by
        unfold zerosB
        cases y : (List.range rows.length).all (zeroAt rows lets) <;> rw [y] at hA <;> simp -implicitDefEqProofs [hZ, hA, sizeLine]
      rw [eSs_cons, eF, hv]
      cases y : zerosB rows lets
      · refine .inr ⟨by simp, _, .inr (.inr (.inr rfl)), ?_⟩
        simp -implicitDefEqProofs
      · refine .inl ⟨by simp [w], ?_⟩
        simp -implicitDefEqProofs [sizeLine]
  rcases key with ⟨v, e⟩ | ⟨v, f, hf, e⟩
  · exact .inl ⟨v, evalD_ret hS e rfl⟩
  · refine .inr ⟨v, f, hf, evalD_ret hS e ?_⟩
    rcases hf with ⟨p, rfl⟩ | rfl | rfl | rfl <;> rfl
end Dg
end

section
set_option Elab.async false
set_option linter.all false
set_option maxRecDepth 100000
set_option maxHeartbeats 1000000
namespace Dg
open PySem L2
theorem below_map {n : Nat} {α : Type} {g : α → PV} (h : ∀ x, below n (g x) = true) : ∀ {xs : List α}, belows n (xs.map g) = true
  | [] => rfl
  | x :: xs => by rw [List.map_cons, belows, h, below_map h]; rfl
theorem below_row {n : Nat} {row : List Int} : below n (rowP row) = true := by
  unfold rowP
  rw [below, below_map (fun x => rfl)]
theorem below_rd {n : Nat} {x y : PV} {rows : List (List Int)} {lets : List Bool} (hx : below n x = true) (hy : below n y = true) : below n (rdP x y rows lets) = true := by
  unfold rdP
  simp [below, belows, hx, hy, below_map (fun x => below_row), below_map (g := PV.bl) (fun x => rfl)]
theorem form_non {k : Nat} {S : Store} (hS : Wf S) : GG (k + 4) 6 [.non] S = .ok (.tup [.str (Str.ofString "form")]) S := by
  rw [show GG (k + 4) 6 [.non] S = _ from Gp_succ (k := k + 3) (d := d_reader_fault) rfl]
  refine evalD_ret hS ?_ rfl
  have h : GG (k + 3) 5 [.non] S = .ok (.bl false) S := by
    rw [show GG (k + 3) 5 [.non] S = _ from Gp_succ (k := k + 2) (d := d_has_form) rfl]
    refine evalD_ret hS ?_ rfl
    show evalSs (CC (k + 2)) m_has_form [some .non] S = _
    have h3 := is_row_ok (k := k + 1) (v := .non) (m := .int 4) hS trivial (.inr ⟨_, rfl⟩)
    unfold m_has_form
    simp -implicitDefEqProofs [permP, h3, isRw]
  show evalSs (CC (k + 3)) m_reader_fault [some .non, none, none, none, none, none, none] S = _
  unfold m_reader_fault
  simp -implicitDefEqProofs [permP, h, sizeLine]
theorem need_reader_non {k : Nat} {S : Store} (hS : Wf S) : GG (k + 5) 7 [.non] S = .exc 0 (.str (Str.ofString "form")) S := by
  rw [show GG (k + 5) 7 [.non] S = _ from Gp_succ (k := k + 4) (d := d_need_reader) rfl]
  have e : evalSs (CC (k + 4)) m_need_reader [some .non, none] S = .exc 0 (.str (Str.ofString "form")) [some .non, some (.tup [.str (Str.ofString "form")])] S := by
    unfold m_need_reader
    have h := form_non (k := k) hS
    have h2 := ne_nil_one (S := S) (x := .str (Str.ofString "form")) (d := .str (Str.ofString "form")) (by rw [toD]) (by decide +kernel)
    have h3 : op2 .ix (.tup [.str (Str.ofString "form")]) (.int 0) S = .ok (.str (Str.ofString "form")) S := ix_tup (i := 0) rfl
    simp -implicitDefEqProofs [permP, h, h2, h3, sizeLine, bindT]
  exact evalD_exc hS e rfl
theorem need_reader_ok {k : Nat} {x y : PV} {rows : List (List Int)} {lets : List Bool} {S : Store} (hS : Wf S) (hx : okW x) (hy : okW y) (bx : below S.length x = true) (hy' : below S.length y = true) (hl : rows.length = lets.length) (hs : rows.length < sizeLine) (hr : ∀ row ∈ rows, row.length < sizeLine) (hv : validB x y rows lets = true) :
    GG (k + 5) 7 [rdP x y rows lets] S = .ok (rdP x y rows lets) S := by
  rw [show GG (k + 5) 7 [rdP x y rows lets] S = _ from Gp_succ (k := k + 4) (d := d_need_reader) rfl]
  rcases reader_fault_ok (k := k) (x := x) (y := y) (rows := rows) (lets := lets) hS hx hy hl hs hr with ⟨_, h⟩ | ⟨z, _⟩
  · refine evalD_ret hS ?_ (below_rd bx hy')
    show evalSs (CC (k + 4)) m_need_reader [some (rdP x y rows lets), none] S = _
    unfold m_need_reader
    simp -implicitDefEqProofs [permP, h, sizeLine, bindT]
  · rw [hv] at z; cases z
end Dg
end

section
set_option Elab.async false
set_option linter.all false
set_option maxRecDepth 100000
set_option maxHeartbeats 1000000
namespace Dg
open PySem L2
def yesL : List Nat := [121, 101, 115]
def noL : List Nat := [110, 111]
def wordL (b : Bool) : List Nat := if b = true then yesL else noL
def lineL (b : Bool) (row : List Int) : List Nat := TL.joinL [32] (wordL b :: row.map fun i => TL.numL i.toNat)
def headL (b t : Nat) : List Nat := [98, 97, 115, 101, 32] ++ TL.numL b ++ [32, 116, 114, 97, 99, 107, 115, 32] ++ TL.numL t
def linesL (b t : Nat) (rows : List (List Int)) (lets : List Bool) : List (List Nat) := headL b t :: (rows.zip lets).map fun p => lineL p.2 p.1
def textL (b t : Nat) (rows : List (List Int)) (lets : List Bool) : List Nat := TL.joinL [10] (linesL b t rows lets)
theorem s_base : PV.str (Str.ofString "base ") = tx [98, 97, 115, 101, 32] := by rfl
theorem s_tracks : PV.str (Str.ofString " tracks ") = tx [32, 116, 114, 97, 99, 107, 115, 32] := by rfl
theorem s_yes : PV.str (Str.ofString "yes") = tx yesL := by rfl
theorem s_no : PV.str (Str.ofString "no") = tx noL := by rfl
theorem s_sp : PV.str (Str.ofString " ") = tx [32] := by rfl
theorem s_nl : PV.str (Str.ofString "\n") = tx [10] := by rfl
/-- a row of small numbers -/
def smallR (row : List Int) : Prop := row.length ≤ 1000000 ∧ ∀ i ∈ row, 0 ≤ i ∧ i < 100000
theorem num_len {i : Int} (h : i < 100000) : (TL.numL i.toNat).length ≤ 5 := TL.numL_len (by decide) (by omega)
theorem word_len {b : Bool} : (wordL b).length ≤ 3 := by cases b <;> decide
theorem parts_len {b : Bool} {row : List Int} (h : smallR row) : ((wordL b :: row.map fun i => TL.numL i.toNat).map fun y => y.length).sum ≤ 3 + 5 * row.length := by
  have h1 := word_len (b := b)
  have h2 := sum_le (ys := row.map fun i => TL.numL i.toNat) (m := 5) (fun y hy => by
    obtain ⟨i, hi, rfl⟩ := List.mem_map.mp hy
    exact num_len (h.2 i hi).2)
  rw [List.length_map] at h2
  rw [List.map_cons, List.sum_cons]
  omega
theorem line_len {b : Bool} {row : List Int} (h : smallR row) : (lineL b row).length ≤ 4 + 6 * row.length := by
  unfold lineL
  have h1 := joinL_len (a := [32]) (ys := wordL b :: row.map fun i => TL.numL i.toNat)
  have h2 := parts_len (b := b) h
  have h3 : (wordL b :: row.map fun i => TL.numL i.toNat).length * [32].length = row.length + 1 := by simp
  rw [h3] at h1
  omega
/-- a row's text -/
theorem row_text {C : Cxt} {e0 : ME} {own : List Nat} {j : Nat} {r : PEnv} {S : Store} {b : Bool} {row : List Int} (hr : smallR row) (h0 : evalE C e0 r S = .ok (tx (wordL b)) S) (h2 : r[2]? = some (some (rowP row)))
    (hj : ∀ v, ((wipeP r own).set j (some v))[j]? = some (some v)) :
    evalE C (.mt .join (.k (.str (Str.ofString " "))) (.bin .add (.lst (.cons e0 .nil)) (.comp false own (.name j) (.of (.var 2)) .none (.bi .str_ (.cons (.var j) .nil))))) r S = .ok (tx (lineL b row)) S := by
  have hc := comp_A (C := C) (S := S) (own := own) (t := .name j) (it := .of (.var 2)) (e := .bi .str_ (.cons (.var j) .nil)) (r := r) (as := row) (g := PV.int) (h := fun i => tx (TL.numL i.toNat))
    (eI_ofT (by rw [eE_var, h2]; rfl)) (by have := hr.1; unfold sizeLine; omega) (fun i hi => by
      obtain ⟨h0, h1⟩ := hr.2 i hi
      obtain ⟨n, rfl⟩ := Int.eq_ofNat_of_zero_le h0
      unfold turnF
      have := opn_str_nat (St := S) (n := n) (by omega)
      simp -implicitDefEqProofs [bindT, hj, this])
  have ha := add_LL (St := S) (xs := [tx (wordL b)]) (ys := row.map fun i => tx (TL.numL i.toNat)) (by have := hr.1; simp; omega)
  have hjn := join_SS (St := S) (a := [32]) (ys := wordL b :: row.map fun i => TL.numL i.toNat) (by
    have h1 := parts_len (b := b) hr
    have h3 : (wordL b :: row.map fun i => TL.numL i.toNat).length * [32].length = row.length + 1 := by simp
    rw [h3]
    have := hr.1
    omega)
  have e : (wordL b :: row.map fun i => TL.numL i.toNat).map tx = [tx (wordL b)] ++ row.map fun i => tx (TL.numL i.toNat) := by
    rw [List.map_cons, List.map_map]; rfl
  rw [e] at hjn
  rw [s_sp, eE_mt, eE_k, Res.bind_ok]
  dsimp only
  rw [eE_bin, eE_lst, eEs_cons, h0, Res.bind_ok, eEs_nil, Res.bind_ok, Res.bind_ok, if_pos (by simp [sizeLine]), Res.bind_ok, hc, Res.bind_ok, ha, Res.bind_ok, hjn]
  rfl
theorem app_text {C : Cxt} {e : ME} {r : PEnv} {S : Store} {L : List PV} {x : PV} (h1 : r[1]? = some (some (.ref S.length))) (he : evalE C e r (S ++ [.lst L]) = .ok x (S ++ [.lst L])) (hL : L.length < 16777216) :
    evalSs C (.cons (.ex (.app 1 e)) .nil) r (S ++ [.lst L]) = .nx r (S ++ [.lst (L ++ [x])]) := by
  rw [eSs_cons, eS_ex, eE_app, h1]
  dsimp only
  rw [get_end]
  dsimp only
  rw [he, Res.bind_ok, get_end]
  dsimp only
  rw [if_pos (show L.length < sizeLine from hL), set_end]
  simp
/-- both programs' loop over the rows -/
theorem text_loop {f : PEnv → Store → SRes} {rd : PV} {tl : List (Option PV)} {S : Store} {rows : List (List Int)} {lets : List Bool} {h0 : List Nat} (hs : ∀ row ∈ rows, smallR row) (hn : rows.length ≤ 1000000)
    (hf : ∀ (row : List Int) (b : Bool) (L : List PV), smallR row → L.length < 16777216 → f (some rd :: some (.ref S.length) :: some (rowP row) :: some (.bl b) :: tl) (S ++ [.lst L]) = .nx (some rd :: some (.ref S.length) :: some (rowP row) :: some (.bl b) :: tl) (S ++ [.lst (L ++ [tx (lineL b row)])])) :
    ∃ a b, forL (.tup [2, 3]) f none (zipP (rows.map rowP) (lets.map PV.bl)) (some rd :: some (.ref S.length) :: none :: none :: tl) (S ++ [.lst [tx h0]]) = .nx (some rd :: some (.ref S.length) :: a :: b :: tl) (S ++ [.lst ((h0 :: (rows.zip lets).map fun p => lineL p.2 p.1).map tx)]) := by
  rw [zipP_map]
  have hl := forL_k (t := .tup [2, 3]) (g := none) (f := f) (xs := (rows.zip lets).map fun p => .tup [rowP p.1, .bl p.2]) (r := (some rd :: some (.ref S.length) :: none :: none :: tl)) (S := S ++ [.lst [tx h0]])
    (fun n r S' => S' = S ++ [.lst ((h0 :: ((rows.zip lets).take n).map fun p => lineL p.2 p.1).map tx)] ∧ ∃ a b, r = (some rd :: some (.ref S.length) :: a :: b :: tl))
    (fun v S' => False)
    (fun n hn' r S' hI => by
      obtain ⟨rfl, a, b, rfl⟩ := hI
      have hn2 : n < (rows.zip lets).length := by simpa using hn'
      have hq : n < rows.length := by simp at hn2; omega
      refine ⟨(some rd :: some (.ref S.length) :: some (rowP (rows.zip lets)[n].1) :: some (.bl (rows.zip lets)[n].2) :: tl), by simp [bindT], .inl ⟨_, _, .inl (hf _ _ _ (hs _ ?_) ?_), trivial, ?_, _, _, rfl⟩⟩
      · have := List.getElem_mem hn2
        exact (List.of_mem_zip (show ((rows.zip lets)[n].1, (rows.zip lets)[n].2) ∈ rows.zip lets from this)).1
      · simp; omega
      · rw [List.take_add_one, List.getElem?_eq_getElem hn2]
        simp) ⟨by simp, none, none, rfl⟩
  rcases hl with ⟨r', S', e, rfl, a, b, rfl⟩ | ⟨_, _, _, h⟩
  · refine ⟨a, b, ?_⟩
    rw [e, List.length_map, List.take_length]
  · exact h.elim
end Dg
end

section
set_option Elab.async false
set_option linter.all false
set_option maxRecDepth 100000
set_option maxHeartbeats 1000000
namespace Dg
open PySem L2
/-- a valid reader -/
structure VR (b t : Nat) (rows : List (List Int)) (lets : List Bool) : Prop where
  b2 : 2 ≤ b
  b10 : b ≤ 10
  t6 : t ≤ 6
  ne : rows ≠ []
  ll : rows.length = lets.length
  sz : b ^ t * rows.length ≤ 20000
  row : ∀ row ∈ rows, row.length = b ^ t ∧ ∀ i ∈ row, 0 ≤ i ∧ i < rows.length
  zero : zerosB rows lets = true
theorem VR.pos {b t : Nat} {rows : List (List Int)} {lets : List Bool} (h : VR b t rows lets) : 0 < b ^ t := Nat.pow_pos (by have := h.b2; omega)
theorem VR.n {b t : Nat} {rows : List (List Int)} {lets : List Bool} (h : VR b t rows lets) : rows.length ≤ 20000 := by
  have h1 := h.sz
  have h2 := h.pos
  have h3 := Nat.le_mul_of_pos_left rows.length h2
  omega
theorem VR.c {b t : Nat} {rows : List (List Int)} {lets : List Bool} (h : VR b t rows lets) : b ^ t ≤ 20000 := by
  have h1 := h.sz
  have h2 : 0 < rows.length := List.length_pos_iff.mpr h.ne
  have h3 := Nat.le_mul_of_pos_right (b ^ t) h2
  omega
theorem VR.small {b t : Nat} {rows : List (List Int)} {lets : List Bool} (h : VR b t rows lets) : ∀ row ∈ rows, smallR row := fun row hr => by
  obtain ⟨h1, h2⟩ := h.row row hr
  have := h.n
  have := h.c
  refine ⟨by omega, fun i hi => ?_⟩
  have := h2 i hi
  omega
theorem VR.valid {b t : Nat} {rows : List (List Int)} {lets : List Bool} (h : VR b t rows lets) : validB (.int b) (.int t) rows lets = true := by
  unfold validB formB
  have h1 : isWh (.int (b : Int)) 2 (.int 10) = true := isWh_iff.mpr ⟨b, rfl, by have := h.b2; omega, by have := h.b10; omega⟩
  have h2 : isWh (.int (t : Int)) 0 (.int 6) = true := isWh_iff.mpr ⟨t, rfl, by omega, by have := h.t6; omega⟩
  have h3 : rows.isEmpty = false := by
    cases rows with
    | nil => exact absurd rfl h.ne
    | cons _ _ => rfl
  have hpw : pw (.int (b : Int)) (.int (t : Int)) = b ^ t := rfl
  have h4 : rows.all (rowOk rows.length (b ^ t)) = true := by
    rw [List.all_eq_true]
    intro row hr
    obtain ⟨q1, q2⟩ := h.row row hr
    unfold rowOk
    rw [Bool.and_eq_true]
    refine ⟨?_, by simpa using q1⟩
    rw [List.all_eq_true]
    intro i hi
    have := q2 i hi
    exact isWh_iff.mpr ⟨i, rfl, by omega, by omega⟩
  rw [h1, h2, h3, hpw, h4, h.zero]
  simp [h.sz]
theorem VR.of {x y : PV} {rows : List (List Int)} {lets : List Bool} (hl : rows.length = lets.length) (h : validB x y rows lets = true) : ∃ b t : Nat, x = .int b ∧ y = .int t ∧ VR b t rows lets := by
  unfold validB formB at h
  simp only [Bool.and_eq_true, Bool.not_eq_true', decide_eq_true_eq] at h
  obtain ⟨⟨⟨h1, h2⟩, h3⟩, h4, h5, h6⟩ := h
  obtain ⟨b, rfl, b1, b2⟩ := isWh_iff.mp h1
  obtain ⟨t, rfl, t1, t2⟩ := isWh_iff.mp h2
  obtain ⟨b, rfl⟩ := Int.eq_ofNat_of_zero_le (show 0 ≤ b by omega)
  obtain ⟨t, rfl⟩ := Int.eq_ofNat_of_zero_le t1
  refine ⟨b, t, rfl, rfl, by omega, by omega, by omega, ?_, hl, h4, ?_, h6⟩
  · rintro rfl; simp at h3
  · intro row hr
    have z := List.all_eq_true.mp h5 row hr
    unfold rowOk at z
    rw [Bool.and_eq_true] at z
    have z2 : row.length = pw (.int (b : Int)) (.int (t : Int)) := by simpa using z.2
    refine ⟨z2, fun i hi => ?_⟩
    obtain ⟨j, e, j1, j2⟩ := isWh_iff.mp (List.all_eq_true.mp z.1 i hi)
    cases e
    omega
theorem head_len {b t : Nat} (hb : b ≤ 10) (ht : t ≤ 6) : (headL b t).length ≤ 20 := by
  unfold headL
  have h1 : (TL.numL b).length ≤ 2 := TL.numL_len (by decide) (by omega)
  have h2 : (TL.numL t).length ≤ 2 := TL.numL_len (by decide) (by omega)
  simp only [List.length_append, List.length_cons, List.length_nil]
  omega
theorem head_text {C : Cxt} {r : PEnv} {S : Store} {b t : Nat} {rows : List (List Int)} {lets : List Bool} (hb : b ≤ 10) (ht : t ≤ 6) (hr : r[0]? = some (some (rdP (.int b) (.int t) rows lets))) :
    evalE C (.bin .add (.bin .add (.bin .add (.k (.str (Str.ofString "base "))) (.bi .str_ (.cons (.bin .ix (.var 0) (.k (.int (0)))) .nil))) (.k (.str (Str.ofString " tracks ")))) (.bi .str_ (.cons (.bin .ix (.var 0) (.k (.int (1)))) .nil))) r S = .ok (tx (headL b t)) S := by
  have hl := head_len hb ht
  unfold headL at hl
  simp only [List.length_append] at hl
  have e1 : evalE C (.bi .str_ (.cons (.bin .ix (.var 0) (.k (.int (0)))) .nil)) r S = .ok (tx (TL.numL b)) S := by
    have := opn_str_nat (St := S) (n := b) (by omega)
    unfold rdP at hr
    simp -implicitDefEqProofs [hr, this]
  have e2 : evalE C (.bi .str_ (.cons (.bin .ix (.var 0) (.k (.int (1)))) .nil)) r S = .ok (tx (TL.numL t)) S := by
    have := opn_str_nat (St := S) (n := t) (by omega)
    unfold rdP at hr
    simp -implicitDefEqProofs [hr, this]
  rw [s_base, s_tracks, eE_bin, eE_bin, eE_bin, eE_k, Res.bind_ok, e1, Res.bind_ok, add_SS (by omega), Res.bind_ok, eE_k, Res.bind_ok, add_SS (by simp only [List.length_append]; omega), Res.bind_ok, e2, Res.bind_ok, add_SS (by simp only [List.length_append]; omega)]
  rfl
theorem lines_len {b t : Nat} {rows : List (List Int)} {lets : List Bool} (h : VR b t rows lets) : ((linesL b t rows lets).map fun y => y.length).sum + (linesL b t rows lets).length * 1 ≤ 16777216 := by
  have hh := head_len h.b10 h.t6
  have h2 := sum_le (ys := (rows.zip lets).map fun p => lineL p.2 p.1) (m := 4 + 6 * b ^ t) (fun y hy => by
    obtain ⟨p, hp, rfl⟩ := List.mem_map.mp hy
    have hm := (List.of_mem_zip (show (p.1, p.2) ∈ rows.zip lets from hp)).1
    have := line_len (b := p.2) (h.small _ hm)
    rw [(h.row _ hm).1] at this
    exact this)
  have hz : ((rows.zip lets).map fun p => lineL p.2 p.1).length = rows.length := by
    rw [List.length_map, List.length_zip, ← h.ll]; omega
  rw [hz] at h2
  unfold linesL
  rw [List.map_cons, List.sum_cons, List.length_cons, hz]
  have e : rows.length * (4 + 6 * b ^ t) = 4 * rows.length + 6 * (b ^ t * rows.length) := by
    rw [Nat.mul_add, Nat.mul_comm rows.length (6 * b ^ t), Nat.mul_assoc]; omega
  have := h.n
  have := h.sz
  omega
theorem law_text_ok {k : Nat} {b t : Nat} {rows : List (List Int)} {lets : List Bool} {S : Store} (hS : Wf S) (h : VR b t rows lets) : GG (k + 1) 22 [rdP (.int b) (.int t) rows lets] S = .ok (tx (textL b t rows lets)) S := by
  rw [show GG (k + 1) 22 [rdP (.int b) (.int t) rows lets] S = _ from Gp_succ (d := d__law_text) rfl]
  refine evalD_new (S' := S) (R := [.lst ((linesL b t rows lets).map tx)]) (v := tx (textL b t rows lets)) hS rfl ?_ rfl
  show evalSs (CC k) m__law_text [some (rdP (.int b) (.int t) rows lets), none, none, none, none, none] S = _
  unfold m__law_text
  have hd := head_text (C := CC k) (r := [some (rdP (.int b) (.int t) rows lets), none, none, none, none, none]) (S := S) (rows := rows) (lets := lets) h.b10 h.t6 rfl
  rw [eSs_cons, eS_asg, eE_lstR, eEs_cons, hd, Res.bind_ok, eEs_nil, Res.bind_ok, Res.bind_ok, if_pos (by simp [sizeLine]), Res.to_ok]
  dsimp only [bindT]
  rw [SRes.seq_nx, eSs_cons, eS_for, eI_zip]
  have hlp := text_loop (f := fun r2 S2 => evalSs (CC k) (.cons (.ex (.app 1 (.mt .join (.k (.str (Str.ofString " "))) (.bin .add (.lst (.cons (.bin .ix (.lst (.cons (.k (.str (Str.ofString "no"))) (.cons (.k (.str (Str.ofString "yes"))) .nil))) (.bi .int_ (.cons (.var 3) .nil))) .nil)) (.comp false [4, 5] (.name 5) (.of (.var 2)) .none (.bi .str_ (.cons (.var 5) .nil))))))) .nil) r2 S2) (rd := rdP (.int b) (.int t) rows lets) (tl := [none, none]) (S := S) (rows := rows) (lets := lets) (h0 := headL b t) h.small (by have := h.n; omega)
    (fun row c L hr hL => app_text rfl (row_text (b := c) hr (by
      have e : op2 .ix (.lst [tx noL, tx yesL]) (.int (if c = true then 1 else 0)) (S ++ [.lst L]) = .ok (tx (wordL c)) (S ++ [.lst L]) := by cases c <;> rfl
      rw [s_yes, s_no]
      simp -implicitDefEqProofs [e, sizeLine]) rfl (fun v => rfl)) hL)
  obtain ⟨a, c, hlp⟩ := hlp
  have hz : ∀ (A : List PV) (T : Store), evalE (CC k) (.bin .ix (.var 0) (.k (.int 2))) (some (rdP (.int b) (.int t) rows lets) :: some (.ref S.length) :: [none, none, none, none]) T = .ok (.tup (rows.map rowP)) T := fun A T => by
    unfold rdP; simp -implicitDefEqProofs
  have hz3 : ∀ (A : List PV) (T : Store), evalE (CC k) (.bin .ix (.var 0) (.k (.int 3))) (some (rdP (.int b) (.int t) rows lets) :: some (.ref S.length) :: [none, none, none, none]) T = .ok (.tup (lets.map PV.bl)) T := fun A T => by
    unfold rdP; simp -implicitDefEqProofs
  simp only [List.set]
  rw [hz [] _, Res.bind_ok, hz3 [] _, Res.bind_ok, Res.to_ok]
  dsimp only
  rw [hlp, SRes.seq_nx, eSs_cons, eS_ret, s_nl, eE_mt, eE_k, Res.bind_ok]
  dsimp only
  have hj := join_RS (St := S ++ [.lst ((linesL b t rows lets).map tx)]) (a := [10]) (n := S.length) (ys := linesL b t rows lets) get_end (lines_len h)
  rw [eE_var]
  show (((Res.ok (.ref S.length) _).bind fun y S2 => opn .join [tx [10], y] S2).to _ _).seq _ = _
  rw [Res.bind_ok]
  unfold linesL at hj ⊢
  rw [hj]
  rfl
end Dg
end

section
set_option Elab.async false
set_option linter.all false
set_option maxRecDepth 100000
set_option maxHeartbeats 1000000
namespace Dg
open PySem L2
theorem text_len {b t : Nat} {rows : List (List Int)} {lets : List Bool} (h : VR b t rows lets) : (textL b t rows lets).length ≤ 16777216 := by
  have h1 := lines_len h
  have h2 := joinL_len (a := [10]) (ys := linesL b t rows lets)
  have h3 : (linesL b t rows lets).length * [10].length = (linesL b t rows lets).length * 1 := rfl
  unfold textL
  omega
theorem reader_text_ok {k : Nat} {b t : Nat} {rows : List (List Int)} {lets : List Bool} {S : Store} (hS : Wf S) (h : VR b t rows lets) : GG (k + 6) 8 [rdP (.int b) (.int t) rows lets] S = if (textL b t rows lets).length ≤ 20000 then .ok (tx (textL b t rows lets)) S else .exc 2 (.int 20000) S := by
  rw [show GG (k + 6) 8 [rdP (.int b) (.int t) rows lets] S = _ from Gp_succ (k := k + 5) (d := d_reader_text) rfl]
  have key : ∃ r', evalSs (CC (k + 5)) m_reader_text [some (rdP (.int b) (.int t) rows lets), none, none, none, none, none, none] S = if (textL b t rows lets).length ≤ 20000 then .ret (tx (textL b t rows lets)) (S ++ [.lst ((linesL b t rows lets).map tx)]) else .exc 2 (.int 20000) r' (S ++ [.lst ((linesL b t rows lets).map tx)]) := by
    unfold m_reader_text
    have hnr := need_reader_ok (k := k) (x := .int b) (y := .int t) (rows := rows) (lets := lets) hS trivial trivial rfl rfl h.ll (by have := h.n; unfold sizeLine; omega) (fun row hr => by have := (h.small row hr).1; unfold sizeLine; omega) h.valid
    have eA : evalS (CC (k + 5)) (.ex (.call 7 [(.inl 0)] (.cons (.var 0) .nil))) [some (rdP (.int b) (.int t) rows lets), none, none, none, none, none, none] S = .nx [some (rdP (.int b) (.int t) rows lets), none, none, none, none, none, none] S := by
      simp -implicitDefEqProofs [permP, hnr]
    rw [eSs_cons, eA, SRes.seq_nx]
    have hd := head_text (C := CC (k + 5)) (r := [some (rdP (.int b) (.int t) rows lets), none, none, none, none, none, none]) (S := S) (rows := rows) (lets := lets) h.b10 h.t6 rfl
    rw [eSs_cons, eS_asg, eE_lstR, eEs_cons, hd, Res.bind_ok, eEs_nil, Res.bind_ok, Res.bind_ok, if_pos (by simp [sizeLine]), Res.to_ok]
    dsimp only [bindT]
    rw [SRes.seq_nx, eSs_cons, eS_for, eI_zip]
    have hlp := text_loop (f := fun r2 S2 => evalSs (CC (k + 5)) (.cons (.ex (.app 1 (.mt .join (.k (.str (Str.ofString " "))) (.bin .add (.lst (.cons (.ite (.var 3) (.k (.str (Str.ofString "yes"))) (.k (.str (Str.ofString "no")))) .nil)) (.comp false [5, 6] (.name 6) (.of (.var 2)) .none (.bi .str_ (.cons (.var 6) .nil))))))) .nil) r2 S2) (rd := rdP (.int b) (.int t) rows lets) (tl := [none, none, none]) (S := S) (rows := rows) (lets := lets) (h0 := headL b t) h.small (by have := h.n; omega)
      (fun row c L hr hL => app_text rfl (row_text (b := c) hr (by
        rw [s_yes, s_no]
        cases c <;> simp -implicitDefEqProofs [wordL]) rfl (fun v => rfl)) hL)
    obtain ⟨a, c, hlp⟩ := hlp
    have hz : ∀ (T : Store), evalE (CC (k + 5)) (.bin .ix (.var 0) (.k (.int 2))) (some (rdP (.int b) (.int t) rows lets) :: some (.ref S.length) :: [none, none, none, none, none]) T = .ok (.tup (rows.map rowP)) T := fun T => by
      unfold rdP; simp -implicitDefEqProofs
    have hz3 : ∀ (T : Store), evalE (CC (k + 5)) (.bin .ix (.var 0) (.k (.int 3))) (some (rdP (.int b) (.int t) rows lets) :: some (.ref S.length) :: [none, none, none, none, none]) T = .ok (.tup (lets.map PV.bl)) T := fun T => by
      unfold rdP; simp -implicitDefEqProofs
    simp only [List.set]
    rw [hz _, Res.bind_ok, hz3 _, Res.bind_ok, Res.to_ok]
    dsimp only
    rw [hlp, SRes.seq_nx, eSs_cons, eS_asg, s_nl, eE_mt, eE_k, Res.bind_ok]
    dsimp only
    have hj := join_RS (St := S ++ [.lst ((linesL b t rows lets).map tx)]) (a := [10]) (n := S.length) (ys := linesL b t rows lets) get_end (lines_len h)
    rw [eE_var]
    refine ⟨[some (rdP (.int b) (.int t) rows lets), some (.ref S.length), a, c, some (tx (textL b t rows lets)), none, none], ?_⟩
    show (((Res.ok (.ref S.length) _).bind fun y S2 => opn .join [tx [10], y] S2).to _ _).seq _ = _
    rw [Res.bind_ok]
    unfold linesL at hj ⊢
    rw [hj, Res.to_ok]
    have hlen := text_len h
    have hle := len_SS (St := S ++ [.lst ((headL b t :: (rows.zip lets).map fun p => lineL p.2 p.1).map tx)]) hlen
    dsimp only [bindT]
    rw [SRes.seq_nx]
    unfold textL linesL at hle ⊢
    generalize TL.joinL [10] (headL b t :: (rows.zip lets).map fun p => lineL p.2 p.1) = z at hle ⊢
    generalize (S ++ [MO.lst ((headL b t :: (rows.zip lets).map fun p => lineL p.2 p.1).map tx)]) = St at hle ⊢
    by_cases w : z.length ≤ 20000
    · have w2 : ¬ ((20000 : Int) < (z.length : Int)) := by omega
      rw [if_pos w]
      simp -implicitDefEqProofs [hle, w2]
    · have w2 : ((20000 : Int) < (z.length : Int)) := by omega
      rw [if_neg w]
      simp -implicitDefEqProofs [hle, w2]
  obtain ⟨r', key⟩ := key
  by_cases w : (textL b t rows lets).length ≤ 20000
  · rw [if_pos w] at key ⊢
    exact evalD_new (S' := S) hS rfl key rfl
  · rw [if_neg w] at key ⊢
    exact evalD_newx (S' := S) hS rfl key rfl
end Dg
end

section
set_option Elab.async false
set_option linter.all false
set_option maxRecDepth 100000
set_option maxHeartbeats 1000000
namespace Dg
open PySem L2
def dig (c : Nat) : Bool := decide (48 ≤ c) && decide (c ≤ 57)
def digsL : List Nat := [48, 49, 50, 51, 52, 53, 54, 55, 56, 57]
theorem mem_digs (c : Nat) : decide (c ∈ digsL) = dig c := by
  unfold digsL dig
  by_cases h : 48 ≤ c ∧ c ≤ 57
  · have : c ∈ [48, 49, 50, 51, 52, 53, 54, 55, 56, 57] := by simp; omega
    simp only [this, decide_true]
    simp [h.1, h.2]
  · have : c ∉ [48, 49, 50, 51, 52, 53, 54, 55, 56, 57] := by simp; omega
    simp only [this, decide_false]
    symm
    rw [Bool.and_eq_false_iff]
    by_cases h1 : 48 ≤ c
    · right; simp; omega
    · left; simp; omega
theorem s_digs : PV.str (Str.ofString "0123456789") = tx digsL := by rfl
theorem in_digs {c : Nat} {S : Store} : op2 .inn (tx [c]) (tx digsL) S = .ok (.bl (dig c)) S := by
  show (if (SX.S [c]).cps.size = 1 then okB (if false = true then !decide ((SX.S [c]).cps.toList.getD 0 0 ∈ (SX.S digsL).cps.toList) else decide ((SX.S [c]).cps.toList.getD 0 0 ∈ (SX.S digsL).cps.toList)) S else .bad) = _
  rw [if_pos (show (SX.S [c]).cps.size = 1 from rfl), if_neg Bool.false_ne_true, show decide ((SX.S [c]).cps.toList.getD 0 0 ∈ (SX.S digsL).cps.toList) = dig c from mem_digs c]
  rfl
theorem nin_digs {c : Nat} {S : Store} : op2 .nin (tx [c]) (tx digsL) S = .ok (.bl (!dig c)) S := by
  show (if (SX.S [c]).cps.size = 1 then okB (if true = true then !decide ((SX.S [c]).cps.toList.getD 0 0 ∈ (SX.S digsL).cps.toList) else decide ((SX.S [c]).cps.toList.getD 0 0 ∈ (SX.S digsL).cps.toList)) S else .bad) = _
  rw [if_pos (show (SX.S [c]).cps.size = 1 from rfl), if_pos rfl, show decide ((SX.S [c]).cps.toList.getD 0 0 ∈ (SX.S digsL).cps.toList) = dig c from mem_digs c]
  rfl
theorem eI_ofS {C : Cxt} {r : PEnv} {e : ME} {w : List Nat} {S : Store} (h : evalE C e r S = .ok (tx w) S) : evalI C (.of e) r S = .ok (w.map fun c => tx [c], none) S := by
  rw [eI_of, h, Res.bind_ok]
theorem ix_SS {w : List Nat} {i c : Nat} {S : Store} (hl : w.length ≤ 16777216) (h : w[i]? = some c) : op2 .ix (tx w) (.int i) S = .ok (tx [c]) S := by
  show (if (SX.S w).length ≤ sizeLine then match atI (SX.S w).cps.toList (i : Int) with
    | some c => Res.ok (PV.str ⟨#[c]⟩) S
    | none => (.bad : Res PV) else .bad) = _
  rw [if_pos (show (SX.S w).length ≤ sizeLine by rw [SX.S_len]; exact hl)]
  have e : atI (SX.S w).cps.toList (i : Int) = some c := atI_nat h
  rw [e]
theorem eq_SS {a b : List Nat} {S : Store} : op2 .eq (tx a) (tx b) S = .ok (.bl (a == b)) S := by rw [op_eqS, SX.S_beq]
theorem ne_SS {a b : List Nat} {S : Store} : op2 .ne (tx a) (tx b) S = .ok (.bl (!(a == b))) S := by rw [op_neS, SX.S_beq]
theorem int_SS {w : List Nat} {S : Store} (hd : w.all dig = true) (hne : w ≠ []) (hl : w.length ≤ 640) : opn .int_ [tx w] S = .ok (.int (NumText.digitsVal w : Nat)) S := by
  show (if (SX.S w).length ≤ 640 then match PySem.intText? (SX.S w) with
    | some n => Res.ok (PV.int n) S
    | none => (.bad : Res PV) else .bad) = _
  rw [if_pos (by rw [SX.S_len]; exact hl), SX.int_S hd hne (by omega)]
def goodW (w : List Nat) : Bool := decide (1 ≤ w.length) && decide (w.length ≤ 5) && w.all dig && (w == [48] || !(w.headD 0 == 48))
def figV (w : List Nat) : PV := if goodW w = true then .int (NumText.digitsVal w : Nat) else .non
theorem nin_15 {n : Nat} {S : Store} : op2 .nin (.int (n : Int)) (.tup [.int 1, .int 2, .int 3, .int 4, .int 5]) S = .ok (.bl (!(decide (1 ≤ n) && decide (n ≤ 5)))) S := by
  show okB (!(([PV.int 1, .int 2, .int 3, .int 4, .int 5]).any (eqP · (.int (n : Int))))) S = _
  have e : ([PV.int 1, .int 2, .int 3, .int 4, .int 5]).any (eqP · (.int (n : Int))) = (decide (1 ≤ n) && decide (n ≤ 5)) := by
    simp only [List.any_cons, List.any_nil, eqP]
    by_cases h : 1 ≤ n ∧ n ≤ 5
    · have : n = 1 ∨ n = 2 ∨ n = 3 ∨ n = 4 ∨ n = 5 := by omega
      rcases this with rfl | rfl | rfl | rfl | rfl <;> decide
    · rw [Bool.eq_iff_iff]
      simp
      omega
  rw [e]
  rfl
theorem read_figures_ok {k : Nat} {w : List Nat} {S : Store} (hS : Wf S) (hl : w.length < 16777216) : GG (k + 1) 9 [tx w] S = .ok (figV w) S := by
  rw [show GG (k + 1) 9 [tx w] S = _ from Gp_succ (d := d_read_figures) rfl]
  refine evalD_ret hS ?_ (by unfold figV; split <;> rfl)
  show evalSs (CC k) m_read_figures [some (tx w), none, none] S = _
  unfold m_read_figures
  have e1 := len_SS (St := S) (a := w) (by omega)
  have e2 := nin_15 (n := w.length) (S := S)
  have hc := comp_A (C := CC k) (S := S) (own := [1, 2]) (t := .name 2) (it := .of (.var 0)) (e := (.bin .inn (.var 2) (.k (.str (Str.ofString "0123456789"))))) (r := [some (tx w), none, none]) (as := w) (g := fun c => tx [c]) (h := fun c => .bl (dig c))
    (eI_ofS (by simp)) hl (fun c hc => by
      unfold turnF
      rw [s_digs]
      simp -implicitDefEqProofs [bindT, wipeP, in_digs])
  have ha := all_p (S := S) (p := dig) (xs := w)
  unfold figV goodW
  by_cases q1 : 1 ≤ w.length ∧ w.length ≤ 5
  · cases q2 : w.all dig
    · rw [q2] at ha
      simp -implicitDefEqProofs [e1, e2, sizeLine, q1.1, q1.2, hc, ha]
    · rw [q2] at ha
      have hne : w ≠ [] := by rintro rfl; simp at q1
      obtain ⟨c, w', rfl⟩ : ∃ c w', w = c :: w' := by
        cases w with
        | nil => exact absurd rfl hne
        | cons c w' => exact ⟨c, w', rfl⟩
      have e3 := int_SS (S := S) q2 hne (by omega)
      have e4 : op2 .ix (tx (c :: w')) (.int 0) S = .ok (tx [c]) S := ix_SS (w := c :: w') (i := 0) (c := c) (S := S) (by simp only [List.length_cons] at hl ⊢; omega) rfl
      have e5 := eq_SS (a := c :: w') (b := [48]) (S := S)
      have e6 := ne_SS (a := [c]) (b := [48]) (S := S)
      have s0 : PV.str (Str.ofString "0") = tx [48] := by rfl
      rw [s0]
      have e7 : ([c] == [48]) = (c == 48) := by simp
      rw [e7] at e6
      have e8 : (c :: w').headD 0 = c := rfl
      rw [e8]
      clear e8 e7
      generalize c :: w' = w at hl e1 e2 hc ha e3 e4 e5 q1 q2 ⊢
      cases q4 : (w == [48]) <;> cases q5 : (c == 48) <;> rw [q4] at e5 <;> rw [q5] at e6 <;>
        simp -implicitDefEqProofs [e1, e2, e3, e4, e5, e6, sizeLine, q1.1, q1.2, hc, ha, -beq_iff_eq]
  · have q3 : (decide (1 ≤ w.length) && decide (w.length ≤ 5)) = false := by
      rw [← Bool.not_eq_true, Bool.and_eq_true, decide_eq_true_eq, decide_eq_true_eq]; exact q1
    rw [q3] at e2 ⊢
    simp -implicitDefEqProofs [e1, e2, sizeLine]
/-! ### the law's numbers -/
def numV (w : List Nat) : Int := if w ≠ [] ∧ w.all dig = true ∧ ¬ (1 < w.length ∧ w.headD 0 = 48) ∧ w.length ≤ 9 then (NumText.digitsVal w : Nat) else -1
theorem compL_F {α : Type} {f : PV → Store → Res (Option PV)} {g : α → PV} {h : α → PV} {p : α → Bool} {S : Store} : ∀ {as : List α}, (∀ a ∈ as, f (g a) S = .ok (if p a = true then some (h a) else none) S) → compL f none (as.map g) S = .ok ((as.filter p).map h) S
  | [], _ => by rw [List.map_nil]; unfold compL; rfl
  | a :: as, hx => by
    rw [List.map_cons]
    unfold compL
    rw [hx a (List.mem_cons_self ..), Res.bind_ok, if_pos (show Grd none S from trivial), compL_F fun y hy => hx y (List.mem_cons_of_mem _ hy), Res.bind_ok]
    cases q : p a <;> simp [q]
theorem comp_F {C : Cxt} {own : List Nat} {t : TGT} {it : IT} {e : ME} {cn : MEo} {r : PEnv} {α : Type} {as : List α} {g h : α → PV} {p : α → Bool} {S : Store} (hi : evalI C it r S = .ok (as.map g, none) S) (hl : as.length < sizeLine) (hx : ∀ a ∈ as, turnF C own t cn e r (g a) S = .ok (if p a = true then some (h a) else none) S) : evalE C (.comp false own t it cn e) r S = .ok (.lst ((as.filter p).map h)) S := by
  rw [eE_comp, hi, Res.bind_ok]
  dsimp only
  rw [if_pos (by simpa using hl), compL_F hx, Res.bind_ok, if_neg Bool.false_ne_true]
theorem ne_nilL {xs : List Int} {S : Store} : op2 .ne (.lst (xs.map PV.int)) (.lst []) S = .ok (.bl (!xs.isEmpty)) S := by
  show eqD true (.lst (xs.map PV.int)) (.lst []) S = _
  unfold eqD
  rw [if_neg (by simp [scalP])]
  have e1 : toD1 S (.lst (xs.map PV.int)) = some (.list (xs.map PyData.int)) := by
    rw [toD1, toD, toDs_map (d := PyData.int) (fun x => by rw [toD])]; rfl
    all_goals simp
  have e2 : toD1 S (.lst []) = some (.list []) := by
    rw [toD1, toD, toDs]; rfl
    all_goals simp
  rw [e1, e2]
  have s1 : SeqAt.shaped (.list (xs.map PyData.int)) = true := by
    unfold SeqAt.shaped
    rw [PyData.canLay0, canAll_map (fun x => by rw [PyData.canLay0]), PyData.depth]
    have := depthAll_map (n := 0) (d := PyData.int) (xs := xs) (fun x => by rw [PyData.depth]; omega)
    simp; omega
  have s2 : SeqAt.shaped (.list []) = true := by decide +kernel
  dsimp only
  rw [if_pos ⟨s1, s2⟩]
  unfold okB
  cases xs with
  | nil => simp [PyData.eqv, PyData.eqvAll]
  | cons a b => simp [PyData.eqv, PyData.eqvAll]
theorem ne_ones {α : Type} {xs : List α} {S : Store} : op2 .ne (.lst (xs.map fun _ => PV.int 1)) (.lst []) S = .ok (.bl (!xs.isEmpty)) S := by
  have := ne_nilL (xs := xs.map fun _ => (1 : Int)) (S := S)
  rw [List.map_map] at this
  have e : (xs.map fun _ => (1 : Int)).isEmpty = xs.isEmpty := by cases xs <;> rfl
  rw [e] at this
  exact this
theorem op_negI {i : Int} {S : Store} : op1 .neg (.int i) S = .ok (.int (-i)) S := rfl
theorem law_number_ok {k : Nat} {w : List Nat} {S : Store} (hS : Wf S) (hl : w.length < 16777216) : GG (k + 1) 23 [tx w] S = .ok (.int (numV w)) S := by
  rw [show GG (k + 1) 23 [tx w] S = _ from Gp_succ (d := d__law_number) rfl]
  refine evalD_ret hS ?_ rfl
  show evalSs (CC k) m__law_number [some (tx w), none, none] S = _
  unfold m__law_number
  have s00 : PV.str (Str.ofString "") = tx [] := by rfl
  have s0 : PV.str (Str.ofString "0") = tx [48] := by rfl
  have e1 := len_SS (St := S) (a := w) (by omega)
  have e2 := eq_SS (a := w) (b := []) (S := S)
  have hc := comp_F (C := CC k) (S := S) (own := [1, 2]) (t := .name 2) (it := .of (.var 0)) (cn := (.some (.bin .nin (.var 2) (.k (.str (Str.ofString "0123456789")))))) (e := (.k (.int (1)))) (r := [some (tx w), none, none]) (as := w) (g := fun c => tx [c]) (h := fun c => .int 1) (p := fun c => !dig c)
    (eI_ofS (by simp)) hl (fun c hc => by
      unfold turnF
      rw [s_digs]
      cases q : dig c <;> simp -implicitDefEqProofs [bindT, wipeP, nin_digs, q])
  have hf := ne_ones (xs := w.filter fun c => !dig c) (S := S)
  rw [s00, s0]
  by_cases h0 : w = []
  · subst h0
    have : numV [] = -1 := rfl
    rw [this]
    simp -implicitDefEqProofs [e2, op_negI]
  · have e3 : (w == []) = false := by simpa using h0
    rw [e3] at e2
    have e4 : (w.filter fun c => !dig c).isEmpty = w.all dig := by
      rw [Bool.eq_iff_iff]
      simp [List.all_eq_true]
    rw [e4] at hf
    unfold numV
    cases q : w.all dig <;> rw [q] at hf
    · simp -implicitDefEqProofs [e2, hc, hf, op_negI]
    · obtain ⟨c, w', rfl⟩ : ∃ c w', w = c :: w' := by
        cases w with
        | nil => exact absurd rfl h0
        | cons c w' => exact ⟨c, w', rfl⟩
      have e5 : op2 .ix (tx (c :: w')) (.int 0) S = .ok (tx [c]) S := ix_SS (w := c :: w') (i := 0) (c := c) (S := S) (by simp only [List.length_cons] at hl ⊢; omega) rfl
      have e6 := eq_SS (a := [c]) (b := [48]) (S := S)
      have e7 : ([c] == [48]) = (c == 48) := by simp
      rw [e7] at e6
      have e8 : (c :: w').headD 0 = c := rfl
      rw [e8]
      have e9 : (c :: w').length ≤ 9 → opn .int_ [tx (c :: w')] S = .ok (.int (NumText.digitsVal (c :: w') : Nat)) S := fun h => int_SS (S := S) q h0 (by omega)
      clear e8 e7
      generalize c :: w' = w at *
      by_cases q1 : 1 < w.length
      · have q1' : (1 : Int) < (w.length : Int) := by omega
        by_cases q2 : c = 48
        · subst q2
          simp -implicitDefEqProofs [e2, hc, hf, op_negI, e1, e5, e6, q1, q1']
        · have q3 : (c == 48) = false := by simpa using q2
          rw [q3] at e6
          by_cases q4 : w.length ≤ 9
          · have q4' : ¬ ((9 : Int) < (w.length : Int)) := by omega
            simp -implicitDefEqProofs [e2, hc, hf, op_negI, e1, e5, e6, q1, q1', q2, q4, q4', e9, h0]
          · have q4' : ((9 : Int) < (w.length : Int)) := by omega
            simp -implicitDefEqProofs [e2, hc, hf, op_negI, e1, e5, e6, q1, q1', q2, q4, q4', e9, h0]
      · have q1' : ¬ (1 : Int) < (w.length : Int) := by omega
        have q4' : ¬ ((9 : Int) < (w.length : Int)) := by omega
        have q4 : w.length ≤ 9 := by omega
        simp -implicitDefEqProofs [e2, hc, hf, op_negI, e1, e5, e6, q1, q1', q4, q4', e9, h0]
end Dg
end

section
set_option Elab.async false
set_option linter.all false
set_option maxRecDepth 100000
set_option maxHeartbeats 1000000
namespace Dg
open PySem L2
def isYN (w : List Nat) : Bool := (yesL == w) || (noL == w)
theorem any_yn {w : List Nat} : ([tx yesL, tx noL]).any (eqP · (tx w)) = isYN w := by
  simp only [List.any_cons, List.any_nil, eqP, Bool.or_false, SX.S_beq]
  rfl
theorem nin_ynT {w : List Nat} {S : Store} : op2 .nin (tx w) (.tup [tx yesL, tx noL]) S = .ok (.bl (!isYN w)) S := by
  show okB (!(([tx yesL, tx noL]).any (eqP · (tx w)))) S = _
  rw [any_yn]
  rfl
theorem nin_ynL {w : List Nat} {S : Store} : op2 .nin (tx w) (.lst [tx yesL, tx noL]) S = .ok (.bl (!isYN w)) S := by
  show okB (!(([tx yesL, tx noL]).any (eqP · (tx w)))) S = _
  rw [any_yn]
  rfl
theorem flat_fig {ws : List (List Nat)} : (ws.map figV).all flatP = true := by
  rw [List.all_eq_true]
  intro x hx
  obtain ⟨w, _, rfl⟩ := List.mem_map.mp hx
  unfold figV
  split <;> rfl
theorem non_in_figs {ws : List (List Nat)} {S : Store} : op2 .inn .non (.tup (ws.map figV)) S = .ok (.bl (!ws.all goodW)) S := by
  show (if (flatP .non && (ws.map figV).all flatP) = true then okB (if false = true then !(ws.map figV).any (eqP · .non) else (ws.map figV).any (eqP · .non)) S else .bad) = _
  rw [if_pos (by rw [flat_fig]; rfl), if_neg Bool.false_ne_true]
  have e : (ws.map figV).any (eqP · .non) = !ws.all goodW := by
    induction ws with
    | nil => rfl
    | cons w ws ih =>
      rw [List.map_cons, List.any_cons, List.all_cons, ih]
      unfold figV
      cases q : goodW w <;> simp [eqP]
  rw [e]
  rfl
def valI (w : List Nat) : Int := (NumText.digitsVal w : Nat)
theorem figs_val {ws : List (List Nat)} (h : ws.all goodW = true) : ws.map figV = (ws.map valI).map PV.int := by
  rw [List.map_map]
  refine List.map_congr_left fun w hw => ?_
  have := List.all_eq_true.mp h w hw
  unfold figV
  rw [if_pos this]
  rfl
def rowG (l : List Nat) : Bool := isYN ((sp 32 l).headD []) && (sp 32 l).tail.all goodW
def rowN (l : List Nat) : List Int := (sp 32 l).tail.map valI
def rowB (l : List Nat) : Bool := (sp 32 l).headD [] == yesL
def rowV (l : List Nat) : PV := if rowG l = true then .tup [rowP (rowN l), .bl (rowB l)] else .non
theorem read_row_ok {k : Nat} {l : List Nat} {S : Store} (hS : Wf S) (hl : l.length < 16777210) : GG (k + 2) 10 [tx l] S = .ok (rowV l) S := by
  rw [show GG (k + 2) 10 [tx l] S = _ from Gp_succ (k := k + 1) (d := d_read_row) rfl]
  refine evalD_ret hS ?_ (by unfold rowV; split; · simp [below, belows, below_row]
                             · rfl)
  show evalSs (CC (k + 1)) m_read_row [some (tx l), none, none, none, none] S = _
  unfold m_read_row rowV
  have hsp := split_sp (St := S) (c := 32) (l := l) (by decide) (by omega)
  have hle := sp_len (c := 32) (l := l)
  have hpt : ∀ y ∈ sp 32 l, y.length ≤ l.length := fun y hy => sp_part hy
  obtain ⟨p, ps, e⟩ := sp_cons 32 l
  have g1 : rowG l = (isYN p && ps.all goodW) := by unfold rowG; rw [e]; rfl
  have g2 : rowN l = ps.map valI := by unfold rowN; rw [e]; rfl
  have g3 : rowB l = (p == yesL) := by unfold rowB; rw [e]; rfl
  rw [g1, g2, g3]
  rw [e] at hsp hpt hle
  rw [List.map_cons] at hsp
  have hc := comp_A (C := CC (k + 1)) (S := S) (own := [3, 4]) (t := .name 4) (it := .of (.slice (.var 1) (.some (.k (.int (1)))) .none)) (e := (.call 9 [(.inl 0)] (.cons (.var 4) .nil))) (r := [some (tx l), some (.lst (tx p :: ps.map tx)), none, none, none]) (as := ps) (g := tx) (h := figV)
    (eI_ofL (by simp -implicitDefEqProofs [slice1])) (by simp only [List.length_cons] at hle; unfold sizeLine; omega) (fun y hy => by
      have := hpt y (List.mem_cons_of_mem _ hy)
      have := read_figures_ok (k := k) (w := y) hS (by omega)
      unfold turnF
      simp -implicitDefEqProofs [bindT, wipeP, permP, this])
  have h1 := non_in_figs (ws := ps) (S := S)
  have h2 := nin_ynT (w := p) (S := S)
  have h3 := eq_SS (a := p) (b := yesL) (S := S)
  have h4 := ix0_lst (x := tx p) (xs := ps.map tx) (St := S)
  rw [s_sp, s_yes, s_no]
  cases q1 : isYN p <;> rw [q1] at h2
  · simp -implicitDefEqProofs [hsp, bindT, hc, h1, h2, h3, h4, sizeLine]
  · cases q2 : ps.all goodW
    · rw [q2] at h1
      simp -implicitDefEqProofs [hsp, bindT, hc, h1, h2, h3, h4, sizeLine]
    · rw [q2] at h1
      rw [figs_val q2] at hc h1
      simp -implicitDefEqProofs [hsp, bindT, hc, h1, h2, h3, h4, sizeLine, rowP, -List.map_map]
/-- the head's two words -/
def headG (l : List Nat) : Bool := (sp 32 l).length == 4 && ((sp 32 l).getD 0 [] == [98, 97, 115, 101]) && ((sp 32 l).getD 2 [] == [116, 114, 97, 99, 107, 115])
theorem read_head_ok {k : Nat} {l : List Nat} {S : Store} (hS : Wf S) (hl : l.length < 16777210) : GG (k + 2) 11 [tx l] S = .ok (if headG l = true then .tup [figV ((sp 32 l).getD 1 []), figV ((sp 32 l).getD 3 [])] else .non) S := by
  have bf : ∀ w, below S.length (figV w) = true := fun w => by unfold figV; split <;> rfl
  rw [show GG (k + 2) 11 [tx l] S = _ from Gp_succ (k := k + 1) (d := d_read_head) rfl]
  refine evalD_ret hS ?_ (by split; · simp [below, belows, bf]
                             · rfl)
  show evalSs (CC (k + 1)) m_read_head [some (tx l), none] S = _
  unfold m_read_head headG
  have hsp := split_sp (St := S) (c := 32) (l := l) (by decide) (by omega)
  have hpt : ∀ y ∈ sp 32 l, y.length ≤ l.length := fun y hy => sp_part hy
  have sb : PV.str (Str.ofString "base") = tx [98, 97, 115, 101] := by rfl
  have st : PV.str (Str.ofString "tracks") = tx [116, 114, 97, 99, 107, 115] := by rfl
  rw [s_sp, sb, st]
  generalize sp 32 l = ws at hsp hpt ⊢
  by_cases q : ws.length = 4
  · obtain ⟨a, b, c, d, rfl⟩ : ∃ a b c d, ws = [a, b, c, d] := by
      match ws, q with
      | [a, b, c, d], _ => exact ⟨a, b, c, d, rfl⟩
    have e0 : op2 .ix (.lst [tx a, tx b, tx c, tx d]) (.int 0) S = .ok (tx a) S := rfl
    have e1 : op2 .ix (.lst [tx a, tx b, tx c, tx d]) (.int 1) S = .ok (tx b) S := rfl
    have e2 : op2 .ix (.lst [tx a, tx b, tx c, tx d]) (.int 2) S = .ok (tx c) S := rfl
    have e3 : op2 .ix (.lst [tx a, tx b, tx c, tx d]) (.int 3) S = .ok (tx d) S := rfl
    have h1 := ne_SS (a := a) (b := [98, 97, 115, 101]) (S := S)
    have h2 := ne_SS (a := c) (b := [116, 114, 97, 99, 107, 115]) (S := S)
    have hb := hpt b (by simp)
    have hd := hpt d (by simp)
    have f1 := read_figures_ok (k := k) (w := b) hS (by omega)
    have f2 := read_figures_ok (k := k) (w := d) hS (by omega)
    simp only [List.map_cons, List.map_nil] at hsp
    cases q1 : (a == [98, 97, 115, 101]) <;> cases q2 : (c == [116, 114, 97, 99, 107, 115]) <;> rw [q1] at h1 <;> rw [q2] at h2 <;>
      simp -implicitDefEqProofs [hsp, bindT, h1, h2, e0, e1, e2, e3, permP, f1, f2, sizeLine, q1, q2, -beq_iff_eq]
  · have q' : ¬ ((ws.length : Int) = 4) := by omega
    simp -implicitDefEqProofs [hsp, bindT, q, q']
end Dg
end

section
set_option Elab.async false
set_option linter.all false
set_option maxRecDepth 100000
set_option maxHeartbeats 1000000
namespace Dg
open PySem L2
def rowVD (l : List Nat) : PyData := if rowG l = true then .tuple [rowD (rowN l), .bool (rowB l)] else .none
theorem toD_rowV {S : Store} {l : List Nat} : toD S (rowV l) = some (rowVD l) := by
  unfold rowV rowVD
  split
  · rw [toD, toDs, toD_row, toDs, toD, toDs]; rfl
  · rw [toD]
theorem can_rowV {l : List Nat} : PyData.canLay0 (rowVD l) = true := by
  unfold rowVD
  split
  · rw [PyData.canLay0, PyData.canLayAll0, can_row, PyData.canLayAll0, PyData.canLay0, PyData.canLayAll0]; rfl
  · rw [PyData.canLay0]
theorem depth_rowV {l : List Nat} : PyData.depth (rowVD l) ≤ 2 := by
  unfold rowVD
  split
  · rw [PyData.depth, PyData.depthAll, PyData.depthAll, PyData.depthAll, PyData.depth]
    have := depth_row (row := rowN l)
    omega
  · rw [PyData.depth]; omega
theorem non_in_rows {ls : List (List Nat)} {S : Store} : op2 .inn .non (.lst (ls.map rowV)) S = .ok (.bl (!ls.all rowG)) S := by
  show (if (flatP .non && (ls.map rowV).all flatP) = true then okB (if false = true then !(ls.map rowV).any (eqP · .non) else (ls.map rowV).any (eqP · .non)) S else deepP false .non (ls.map rowV) S) = _
  by_cases h : (flatP .non && (ls.map rowV).all flatP) = true
  · rw [if_pos h, if_neg Bool.false_ne_true]
    have h2 : (ls.map rowV).all flatP = true := by rw [Bool.and_eq_true] at h; exact h.2
    have e : (ls.map rowV).any (eqP · .non) = !ls.all rowG := by
      clear h
      induction ls with
      | nil => rfl
      | cons w ws ih =>
        rw [List.map_cons, List.all_cons, Bool.and_eq_true] at h2
        rw [List.map_cons, List.any_cons, List.all_cons, ih h2.2]
        have h3 := h2.1
        unfold rowV at h3 ⊢
        cases q : rowG w
        · simp [eqP]
        · rw [q] at h3; simp [flatP] at h3
    rw [e]; rfl
  · rw [if_neg h]
    unfold deepP
    have e1 : toD S .non = some .none := by rw [toD]
    rw [e1, toDs_map (fun x => toD_rowV)]
    have s1 : SeqAt.shaped .none = true := by decide +kernel
    have s2 : SeqAt.shaped (.list (ls.map rowVD)) = true := by
      unfold SeqAt.shaped
      rw [PyData.canLay0, canAll_map (fun x => can_rowV), PyData.depth]
      have := depthAll_map (n := 2) (d := rowVD) (xs := ls) (fun x => depth_rowV)
      simp; omega
    dsimp only
    rw [if_pos ⟨s1, s2⟩, if_neg Bool.false_ne_true]
    have e : (ls.map rowVD).any (fun z => PyData.eqv z .none) = !ls.all rowG := by
      clear s2 h
      induction ls with
      | nil => rfl
      | cons w ws ih =>
        rw [List.map_cons, List.any_cons, List.all_cons, ih]
        unfold rowVD
        cases q : rowG w <;> simp [PyData.eqv]
    rw [e]; rfl
theorem okF_ne {f : PV} {S : Store} (h : okF f) : op2 .ne (.tup [f]) (.tup []) S = .ok (.bl true) S := by
  rcases h with ⟨p, rfl⟩ | rfl | rfl | rfl
  · exact ne_nil_one (d := .int p) (by rw [toD]) (by simp [SeqAt.shaped, PyData.canLay0, PyData.canLayAll0, PyData.depth, PyData.depthAll])
  · exact ne_nil_one (d := .str (Str.ofString "form")) (by rw [toD]) (by decide +kernel)
  · exact ne_nil_one (d := .str (Str.ofString "many")) (by rw [toD]) (by decide +kernel)
  · exact ne_nil_one (d := .str (Str.ofString "zeros")) (by rw [toD]) (by decide +kernel)
/-- what a text says -/
def tHead (l : List Nat) : List Nat := (sp 10 l).headD []
def tLines (l : List Nat) : List (List Nat) := (sp 10 l).tail
def tB (l : List Nat) : PV := figV ((sp 32 (tHead l)).getD 1 [])
def tT (l : List Nat) : PV := figV ((sp 32 (tHead l)).getD 3 [])
def readG (l : List Nat) : Bool := headG (tHead l) && ((tLines l).all rowG && validB (tB l) (tT l) ((tLines l).map rowN) ((tLines l).map rowB))
theorem okW_fig {w : List Nat} : okW (figV w) := by unfold figV; split <;> trivial
theorem rowN_len {l : List Nat} : (rowN l).length ≤ l.length := by
  unfold rowN
  have := sp_len (c := 32) (l := l)
  rw [List.length_map, List.length_tail]
  omega
theorem read_reader_ok {k : Nat} {l : List Nat} {S : Store} (hS : Wf S) (hl : l.length < 16777200) : GG (k + 5) 12 [tx l] S = if readG l = true then .ok (rdP (tB l) (tT l) ((tLines l).map rowN) ((tLines l).map rowB)) S else .exc 1 (.int 0) S := by
  have bf : ∀ w, below S.length (figV w) = true := fun w => by unfold figV; split <;> rfl
  rw [show GG (k + 5) 12 [tx l] S = _ from Gp_succ (k := k + 4) (d := d_read_reader) rfl]
  have key : (readG l = true ∧ evalSs (CC (k + 4)) m_read_reader [some (tx l), none, none, none, none, none, none, none, none] S = .ret (rdP (tB l) (tT l) ((tLines l).map rowN) ((tLines l).map rowB)) S) ∨ (readG l = false ∧ ∃ r', evalSs (CC (k + 4)) m_read_reader [some (tx l), none, none, none, none, none, none, none, none] S = .exc 1 (.int 0) r' S) := by
    unfold m_read_reader readG
    have hsp := split_sp (St := S) (c := 10) (l := l) (by decide) (by omega)
    have hle := sp_len (c := 10) (l := l)
    have hpt : ∀ y ∈ sp 10 l, y.length ≤ l.length := fun y hy => sp_part hy
    have e0 : sp 10 l = tHead l :: tLines l := by
      obtain ⟨p, ps, e⟩ := sp_cons 10 l
      unfold tHead tLines
      rw [e]; rfl
    rw [e0] at hsp hle hpt
    unfold tB tT
    generalize tHead l = h0 at *
    generalize tLines l = ls at *
    rw [List.map_cons] at hsp
    have hh := read_head_ok (k := k + 2) (l := h0) (S := S) hS (by have := hpt h0 (by simp); omega)
    have hc := comp_A (C := CC (k + 4)) (S := S) (own := [5, 6]) (t := .name 6) (it := .of (.slice (.var 1) (.some (.k (.int (1)))) .none)) (e := (.call 10 [(.inl 0)] (.cons (.var 6) .nil))) (r := [some (tx l), some (.lst (tx h0 :: ls.map tx)), none, none, none, none, none, none, none]) (as := ls) (g := tx) (h := rowV)
      (eI_ofL (by simp -implicitDefEqProofs [slice1])) (by simp only [List.length_cons] at hle; unfold sizeLine; omega) (fun y hy => by
        have := hpt y (List.mem_cons_of_mem _ hy)
        have := read_row_ok (k := k + 2) (l := y) hS (by omega)
        unfold turnF
        simp -implicitDefEqProofs [bindT, wipeP, permP, this])
    have h4 := ix0_lst (x := tx h0) (xs := ls.map tx) (St := S)
    have h5 := non_in_rows (ls := ls) (S := S)
    rw [s_nl]
    cases q1 : headG h0
    · rw [q1, if_neg Bool.false_ne_true] at hh
      refine .inr ⟨by simp, [some (tx l), some (.lst (tx h0 :: ls.map tx)), some .non, some (.lst (ls.map rowV)), none, none, none, none, none], ?_⟩
      simp -implicitDefEqProofs [hsp, bindT, hc, h4, hh, permP, sizeLine]
    rw [q1, if_pos rfl] at hh
    generalize hx : figV ((sp 32 h0).getD 1 []) = x at hh ⊢
    generalize hy : figV ((sp 32 h0).getD 3 []) = y at hh ⊢
    cases q2 : ls.all rowG
    · rw [q2] at h5
      refine .inr ⟨by simp, [some (tx l), some (.lst (tx h0 :: ls.map tx)), some (.tup [x, y]), some (.lst (ls.map rowV)), none, none, none, none, none], ?_⟩
      simp -implicitDefEqProofs [hsp, bindT, hc, h4, hh, permP, sizeLine, h5]
    rw [q2] at h5
    have hr : ls.map rowV = ls.map fun l => PV.tup [rowP (rowN l), .bl (rowB l)] := List.map_congr_left fun l hl => by
      unfold rowV
      rw [if_pos (List.all_eq_true.mp q2 l hl)]
    have hl1 : ls.length < sizeLine := by simp only [List.length_cons] at hle; unfold sizeLine; omega
    have hcA := comp_A (C := CC (k + 4)) (S := S) (own := [5, 7, 8]) (t := .tup [7, 8]) (it := .of (.var 3)) (e := .var 7) (r := [some (tx l), some (.lst (tx h0 :: ls.map tx)), some (.tup [x, y]), some (.lst (ls.map rowV)), none, none, none, none, none]) (as := ls) (g := fun l => PV.tup [rowP (rowN l), .bl (rowB l)]) (h := fun l => rowP (rowN l))
      (eI_ofL (by rw [hr]; simp)) hl1 (fun y hy => by
        unfold turnF
        simp -implicitDefEqProofs [bindT, wipeP])
    have hcB := comp_A (C := CC (k + 4)) (S := S) (own := [5, 7, 8]) (t := .tup [7, 8]) (it := .of (.var 3)) (e := .var 8) (r := [some (tx l), some (.lst (tx h0 :: ls.map tx)), some (.tup [x, y]), some (.lst (ls.map rowV)), none, none, none, none, none]) (as := ls) (g := fun l => PV.tup [rowP (rowN l), .bl (rowB l)]) (h := fun l => .bl (rowB l))
      (eI_ofL (by rw [hr]; simp)) hl1 (fun y hy => by
        unfold turnF
        simp -implicitDefEqProofs [bindT, wipeP])
    have eA : (ls.map fun l => rowP (rowN l)) = (ls.map rowN).map rowP := by rw [List.map_map]; rfl
    have eB : (ls.map fun l => PV.bl (rowB l)) = (ls.map rowB).map PV.bl := by rw [List.map_map]; rfl
    rw [eA] at hcA
    rw [eB] at hcB
    have hadd := add_TT (St := S) (xs := [x, y]) (ys := [.tup ((ls.map rowN).map rowP), .tup ((ls.map rowB).map PV.bl)]) (by simp)
    have hrd : [x, y] ++ [PV.tup ((ls.map rowN).map rowP), .tup ((ls.map rowB).map PV.bl)] = [x, y, PV.tup ((ls.map rowN).map rowP), .tup ((ls.map rowB).map PV.bl)] := rfl
    rw [hrd] at hadd
    have hf := reader_fault_ok (k := k) (x := x) (y := y) (rows := ls.map rowN) (lets := ls.map rowB) hS (by rw [← hx]; exact okW_fig) (by rw [← hy]; exact okW_fig) (by simp) (by simpa using hl1) (fun row hrow => by
      obtain ⟨z, hz, rfl⟩ := List.mem_map.mp hrow
      have := hpt z (List.mem_cons_of_mem _ hz)
      have := rowN_len (l := z)
      unfold sizeLine; omega)
    clear hr
    unfold rdP at hf
    rcases hf with ⟨v, hf⟩ | ⟨v, f, hF, hf⟩
    · refine .inl ⟨by rw [v]; rfl, ?_⟩
      unfold rdP
      simp -implicitDefEqProofs [hsp, bindT, hc, h4, hh, permP, sizeLine, h5, hcA, hcB, hadd, hf, -List.map_map]
    · refine .inr ⟨by rw [v]; rfl, [some (tx l), some (.lst (tx h0 :: ls.map tx)), some (.tup [x, y]), some (.lst (ls.map rowV)), some (rdP x y (ls.map rowN) (ls.map rowB)), none, none, none, none], ?_⟩
      unfold rdP
      simp -implicitDefEqProofs [hsp, bindT, hc, h4, hh, permP, sizeLine, h5, hcA, hcB, hadd, hf, okF_ne hF, -List.map_map]
  rcases key with ⟨v, e⟩ | ⟨v, r', e⟩
  · rw [v, if_pos rfl]
    exact evalD_ret hS e (below_rd (bf _) (bf _))
  · rw [v, if_neg Bool.false_ne_true]
    exact evalD_exc hS e rfl
end Dg
end

section
set_option Elab.async false
set_option linter.all false
set_option maxRecDepth 100000
set_option maxHeartbeats 1000000
namespace Dg
open PySem L2
mutual
theorem below_mono {n m : Nat} (h : n ≤ m) : ∀ {x : PV}, below n x = true → below m x = true
  | .non, _ => rfl
  | .bl _, _ => rfl
  | .int _, _ => rfl
  | .str _, _ => rfl
  | .ty _, _ => rfl
  | .scr _, q => by simp [below] at q
  | .ref k, q => by
    have hk : k < n := by simpa [below] using q
    have : k < m := by omega
    simpa [below] using this
  | .tup xs, q => by
    rw [below] at q ⊢; exact belows_mono h q
  | .lst xs, q => by
    rw [below] at q ⊢; exact belows_mono h q
theorem belows_mono {n m : Nat} (h : n ≤ m) : ∀ {xs : List PV}, belows n xs = true → belows m xs = true
  | [], _ => rfl
  | x :: xs, q => by
    rw [belows, Bool.and_eq_true] at q ⊢
    exact ⟨below_mono h q.1, belows_mono h q.2⟩
end
theorem belowM_mono {n m : Nat} (h : n ≤ m) {o : MO} (q : belowM n o = true) : belowM m o = true := by
  cases o with
  | lst xs => exact belows_mono h q
  | dct kvs => unfold belowM at q ⊢; rw [List.all_eq_true] at q ⊢; exact fun p hp => below_mono h (q p hp)
  | dctT kvs => unfold belowM at q ⊢; rw [List.all_eq_true] at q ⊢; exact fun p hp => below_mono h (q p hp)
theorem Wf_app {S R : Store} (hS : Wf S) (hR : R.all (belowM (S ++ R).length) = true) : Wf (S ++ R) := by
  unfold Wf at hS ⊢
  rw [List.all_append, Bool.and_eq_true]
  refine ⟨?_, hR⟩
  rw [List.all_eq_true] at hS ⊢
  exact fun o ho => belowM_mono (by simp) (hS o ho)
theorem law_power_ok {k : Nat} {b t : Nat} {S : Store} (hS : Wf S) (hb : b ≤ 10) (ht : t ≤ 6) : GG (k + 1) 19 [.int b, .int t] S = .ok (.int ((b ^ t : Nat) : Int)) S := by
  have h := power_of_ok (k := k) (b := b) (t := t) hS hb ht
  rw [show GG (k + 1) 3 [.int b, .int t] S = _ from Gp_succ (d := d_power_of) rfl] at h
  rw [show GG (k + 1) 19 [.int b, .int t] S = _ from Gp_succ (d := d__law_power) rfl]
  exact h
def rowM (l : List Nat) : List Int := (sp 32 l).tail.map numV
def inR (n : Nat) (i : Int) : Bool := decide (0 ≤ i) && decide (i < n)
def dRow (n c : Nat) (l : List Nat) : Bool := isYN ((sp 32 l).headD []) && ((rowM l).length == c && (rowM l).all (inR n))
def dueBody : MSs := (.cons (.asg (.name 2) (.mt .splitV (.var 7) (.k (.str (Str.ofString " "))))) (.cons (.asg (.name 8) (.bi .tuple_ (.cons (.comp false [9, 10] (.name 10) (.of (.slice (.var 2) (.some (.k (.int (1)))) .none)) .none (.call 23 [(.inl 0)] (.cons (.var 10) .nil))) .nil))) (.cons (.ifS (.or_ (.bin .nin (.bin .ix (.var 2) (.k (.int (0)))) (.lst (.cons (.k (.str (Str.ofString "yes"))) (.cons (.k (.str (Str.ofString "no"))) .nil)))) (.or_ (.bin .ne (.bi .len (.cons (.var 8) .nil)) (.call 19 [(.inl 0), (.inl 1)] (.cons (.var 3) (.cons (.var 4) .nil)))) (.bin .ne (.comp false [9, 11] (.name 11) (.of (.var 8)) (.some (.not_ (.chain .le .lt (.k (.int (0))) (.var 11) (.bin .sub (.bi .len (.cons (.var 1) .nil)) (.k (.int (1))))))) (.k (.int (1)))) (.lst .nil)))) (.cons (.ret (.k .non)) .nil) .nil) (.cons (.ex (.app 5 (.var 8))) (.cons (.ex (.app 6 (.bin .eq (.bin .ix (.var 2) (.k (.int (0)))) (.k (.str (Str.ofString "yes")))))) .nil)))))
theorem app_ok {C : Cxt} {i n : Nat} {e : ME} {r : PEnv} {T : Store} {xs : List PV} {x : PV} (hi : r[i]? = some (some (.ref n))) (h0 : T[n]? = some (.lst xs)) (he : evalE C e r T = .ok x T) (hl : xs.length < 16777216) : evalS C (.ex (.app i e)) r T = .nx r (T.set n (.lst (xs ++ [x]))) := by
  rw [eS_ex, eE_app, hi]
  dsimp only
  rw [h0]
  dsimp only
  rw [he, Res.bind_ok, h0]
  dsimp only
  rw [if_pos (show xs.length < sizeLine from hl), Res.to_ok]
theorem due_body {k b t : Nat} {v0 v2 v8 : Option PV} {h0 line : List Nat} {ls : List (List Nat)} {S : Store} {A B : List PV} (hS : Wf S) (hA : belows S.length A = true) (hB : belows S.length B = true) (lA : A.length < 16777216) (lB : B.length < 16777216) (hb : b ≤ 10) (ht : t ≤ 6) (hl : line.length < 16777210) :
    evalSs (CC (k + 2)) dueBody [v0, some (.lst (tx h0 :: ls.map tx)), v2, some (.int b), some (.int t), some (.ref S.length), some (.ref (S.length + 1)), some (tx line), v8, none, none, none, none] (S ++ [.lst A, .lst B]) =
      if dRow ls.length (b ^ t) line = true then .nx [v0, some (.lst (tx h0 :: ls.map tx)), some (.lst ((sp 32 line).map tx)), some (.int b), some (.int t), some (.ref S.length), some (.ref (S.length + 1)), some (tx line), some (rowP (rowM line)), none, none, none, none] (S ++ [.lst (A ++ [rowP (rowM line)]), .lst (B ++ [.bl (rowB line)])])
      else .ret .non (S ++ [.lst A, .lst B]) := by
  have hW : Wf (S ++ [.lst A, .lst B]) := Wf_app hS (by
    have h1 := belows_mono (m := (S ++ [MO.lst A, .lst B]).length) (by simp) hA
    have h2 := belows_mono (m := (S ++ [MO.lst A, .lst B]).length) (by simp) hB
    rw [List.all_cons, List.all_cons, List.all_nil]
    show (belows _ A && (belows _ B && true)) = true
    rw [h1, h2]; rfl)
  have g0 : (S ++ [MO.lst A, .lst B])[S.length]? = some (.lst A) := by simp
  have g1 : ∀ A', (S ++ [MO.lst A', .lst B])[S.length + 1]? = some (.lst B) := fun A' => by
    rw [List.getElem?_append_right (by omega), Nat.add_sub_cancel_left]; rfl
  have g2 : ∀ x, (S ++ [MO.lst A, .lst B]).set S.length x = S ++ [x, .lst B] := fun x => by simp
  have g3 : ∀ A' x, (S ++ [MO.lst A', .lst B]).set (S.length + 1) x = S ++ [.lst A', x] := fun A' x => by
    rw [List.set_append_right _ _ (by omega), Nat.add_sub_cancel_left]; rfl
  generalize hT : S ++ [MO.lst A, .lst B] = T at hW g0 g2 ⊢
  unfold dueBody dRow rowM
  have hsp := split_sp (St := T) (c := 32) (l := line) (by decide) (by omega)
  have hle := sp_len (c := 32) (l := line)
  have hpt : ∀ y ∈ sp 32 line, y.length ≤ line.length := fun y hy => sp_part hy
  have hrb : rowB line = ((sp 32 line).headD [] == yesL) := rfl
  rw [hrb]
  obtain ⟨p, ps, e⟩ := sp_cons 32 line
  rw [e] at hsp hpt hle ⊢
  rw [List.map_cons] at hsp ⊢
  have hd : (p :: ps).headD [] = p := rfl
  have htl : (p :: ps).tail = ps := rfl
  rw [hd, htl]
  have hpl : ps.length < 16777216 := by simp only [List.length_cons] at hle; omega
  have hc := comp_A (C := CC (k + 2)) (S := T) (own := [9, 10]) (t := .name 10) (it := .of (.slice (.var 2) (.some (.k (.int (1)))) .none)) (e := (.call 23 [(.inl 0)] (.cons (.var 10) .nil))) (r := [v0, some (.lst (tx h0 :: ls.map tx)), some (.lst (tx p :: ps.map tx)), some (.int b), some (.int t), some (.ref S.length), some (.ref (S.length + 1)), some (tx line), v8, none, none, none, none]) (as := ps) (g := tx) (h := fun w => .int (numV w))
    (eI_ofL (by simp -implicitDefEqProofs [slice1])) hpl (fun y hy => by
      have := hpt y (List.mem_cons_of_mem _ hy)
      have := law_number_ok (k := k + 1) (w := y) hW (by omega)
      unfold turnF
      simp -implicitDefEqProofs [bindT, wipeP, permP, this])
  have em : (ps.map fun w => PV.int (numV w)) = (ps.map numV).map PV.int := by rw [List.map_map]; rfl
  rw [em] at hc
  have hlr : (ps.map numV).length = ps.length := List.length_map ..
  generalize ps.map numV = row at hc hlr ⊢
  have hf := comp_F (C := CC (k + 2)) (S := T) (own := [9, 11]) (t := .name 11) (it := .of (.var 8)) (cn := (.some (.not_ (.chain .le .lt (.k (.int (0))) (.var 11) (.bin .sub (.bi .len (.cons (.var 1) .nil)) (.k (.int (1)))))))) (e := (.k (.int (1)))) (r := [v0, some (.lst (tx h0 :: ls.map tx)), some (.lst (tx p :: ps.map tx)), some (.int b), some (.int t), some (.ref S.length), some (.ref (S.length + 1)), some (tx line), some (.tup (row.map PV.int)), none, none, none, none]) (as := row) (g := PV.int) (h := fun c => .int 1) (p := fun i => !inR ls.length i)
    (eI_ofT (by simp)) (by unfold sizeLine; omega) (fun i hi => by
      unfold turnF inR
      by_cases z1 : 0 ≤ i <;> by_cases z2 : i < (ls.length : Int) <;> simp -implicitDefEqProofs [bindT, wipeP, z1, z2])
  have hne := ne_ones (xs := row.filter fun i => !inR ls.length i) (S := T)
  have e4 : (row.filter fun i => !inR ls.length i).isEmpty = row.all (inR ls.length) := by
    rw [Bool.eq_iff_iff]
    simp [List.all_eq_true]
  rw [e4] at hne
  have h1 := nin_ynL (w := p) (S := T)
  have h2 := law_power_ok (k := k + 1) (b := b) (t := t) hW hb ht
  generalize b ^ t = cs at h2 ⊢
  have h3 := eq_SS (a := p) (b := yesL) (S := T)
  have h4 := ix0_lst (x := tx p) (xs := ps.map tx) (St := T)
  have eA : evalS (CC (k + 2)) (.asg (.name 2) (.mt .splitV (.var 7) (.k (tx [32])))) [v0, some (.lst (tx h0 :: ls.map tx)), v2, some (.int b), some (.int t), some (.ref S.length), some (.ref (S.length + 1)), some (tx line), v8, none, none, none, none] T = .nx [v0, some (.lst (tx h0 :: ls.map tx)), some (.lst (tx p :: ps.map tx)), some (.int b), some (.int t), some (.ref S.length), some (.ref (S.length + 1)), some (tx line), v8, none, none, none, none] T := by
    simp -implicitDefEqProofs [hsp, bindT]
  rw [s_sp, s_yes, s_no, eSs_cons, eA, SRes.seq_nx]
  rw [eSs_cons, eS_asg, eE_bi, eEs_cons, hc, Res.bind_ok, eEs_nil, Res.bind_ok, Res.bind_ok, opn_tup_lst, Res.to_ok]
  dsimp only [bindT]
  simp only [List.set]
  rw [SRes.seq_nx]
  have hif : evalS (CC (k + 2)) (.ifS (.or_ (.bin .nin (.bin .ix (.var 2) (.k (.int (0)))) (.lst (.cons (.k (tx yesL)) (.cons (.k (tx noL)) .nil)))) (.or_ (.bin .ne (.bi .len (.cons (.var 8) .nil)) (.call 19 [(.inl 0), (.inl 1)] (.cons (.var 3) (.cons (.var 4) .nil)))) (.bin .ne (.comp false [9, 11] (.name 11) (.of (.var 8)) (.some (.not_ (.chain .le .lt (.k (.int (0))) (.var 11) (.bin .sub (.bi .len (.cons (.var 1) .nil)) (.k (.int (1))))))) (.k (.int (1)))) (.lst .nil)))) (.cons (.ret (.k .non)) .nil) .nil) [v0, some (.lst (tx h0 :: ls.map tx)), some (.lst (tx p :: ps.map tx)), some (.int b), some (.int t), some (.ref S.length), some (.ref (S.length + 1)), some (tx line), some (.tup (row.map PV.int)), none, none, none, none] T =
      if (isYN p && (row.length == cs && row.all (inR ls.length))) = true then .nx [v0, some (.lst (tx h0 :: ls.map tx)), some (.lst (tx p :: ps.map tx)), some (.int b), some (.int t), some (.ref S.length), some (.ref (S.length + 1)), some (tx line), some (.tup (row.map PV.int)), none, none, none, none] T else .ret .non T := by
    cases q1 : isYN p <;> rw [q1] at h1
    · simp -implicitDefEqProofs [h1, h4, sizeLine]
    · by_cases q2 : row.length = cs
      · have q2' : (row.length : Int) = (cs : Int) := by omega
        cases q3 : row.all (inR ls.length) <;> rw [q3] at hne <;>
          simp -implicitDefEqProofs [h1, h4, sizeLine, permP, h2, q2, q2', hf, hne]
      · have q2' : ¬ (row.length : Int) = (cs : Int) := by omega
        simp -implicitDefEqProofs [h1, h4, sizeLine, permP, h2, q2, q2']
  rw [eSs_cons, hif]
  by_cases q : (isYN p && (row.length == cs && row.all (inR ls.length))) = true
  · rw [if_pos q, if_pos q, SRes.seq_nx]
    have ea := app_ok (C := CC (k + 2)) (i := 5) (n := S.length) (e := .var 8) (r := [v0, some (.lst (tx h0 :: ls.map tx)), some (.lst (tx p :: ps.map tx)), some (.int b), some (.int t), some (.ref S.length), some (.ref (S.length + 1)), some (tx line), some (.tup (row.map PV.int)), none, none, none, none]) (T := T) (xs := A) (x := rowP row) rfl g0 (by unfold rowP; simp) lA
    rw [g2] at ea
    rw [eSs_cons, ea, SRes.seq_nx]
    have h3' := eq_SS (a := p) (b := yesL) (S := S ++ [.lst (A ++ [rowP row]), .lst B])
    have h4' := ix0_lst (x := tx p) (xs := ps.map tx) (St := S ++ [.lst (A ++ [rowP row]), .lst B])
    generalize hU : S ++ [MO.lst (A ++ [rowP row]), .lst B] = U at *
    have eb := app_ok (C := CC (k + 2)) (i := 6) (n := S.length + 1) (e := (.bin .eq (.bin .ix (.var 2) (.k (.int (0)))) (.k (tx yesL)))) (r := [v0, some (.lst (tx h0 :: ls.map tx)), some (.lst (tx p :: ps.map tx)), some (.int b), some (.int t), some (.ref S.length), some (.ref (S.length + 1)), some (tx line), some (.tup (row.map PV.int)), none, none, none, none]) (T := U) (xs := B) (x := .bl (p == yesL)) rfl (by rw [← hU]; exact g1 _) (by simp -implicitDefEqProofs [h3', h4']) lB
    rw [eSs_cons, eb, SRes.seq_nx, eSs_nil, ← hU, g3]
    rfl
  · rw [if_neg q, if_neg q, SRes.seq_ret]
end Dg
end

section
set_option Elab.async false
set_option linter.all false
set_option maxRecDepth 100000
set_option maxHeartbeats 1000000
namespace Dg
open PySem L2
abbrev dEnv (l : List Nat) (W : PV) (v2 : Option PV) (b t n : Nat) (v7 v8 : Option PV) : PEnv := [some (tx l), some W, v2, some (.int (b : Int)), some (.int (t : Int)), some (.ref n), some (.ref (n + 1)), v7, v8, none, none, none, none]
theorem due_loop {k b t : Nat} {l h0 : List Nat} {ls : List (List Nat)} {v2 : Option PV} {S : Store} (hS : Wf S) (hb : b ≤ 10) (ht : t ≤ 6) (hn : ls.length < 16777200) (hls : ∀ y ∈ ls, y.length < 16777210) :
    (∃ v2' v7 v8, ls.all (dRow ls.length (b ^ t)) = true ∧ forL (.name 7) (fun r2 S2 => evalSs (CC (k + 2)) dueBody r2 S2) none (ls.map tx) (dEnv l (.lst (tx h0 :: ls.map tx)) v2 b t S.length none none) (S ++ [.lst [], .lst []]) = .nx (dEnv l (.lst (tx h0 :: ls.map tx)) v2' b t S.length v7 v8) (S ++ [.lst ((ls.map rowM).map rowP), .lst ((ls.map rowB).map PV.bl)])) ∨
    (∃ R, ls.all (dRow ls.length (b ^ t)) = false ∧ forL (.name 7) (fun r2 S2 => evalSs (CC (k + 2)) dueBody r2 S2) none (ls.map tx) (dEnv l (.lst (tx h0 :: ls.map tx)) v2 b t S.length none none) (S ++ [.lst [], .lst []]) = .ret .non (S ++ R)) := by
  have hl := forL_k (t := .name 7) (g := none) (f := fun r2 S2 => evalSs (CC (k + 2)) dueBody r2 S2) (xs := ls.map tx) (r := dEnv l (.lst (tx h0 :: ls.map tx)) v2 b t S.length none none) (S := S ++ [.lst [], .lst []])
    (fun n r S' => S' = S ++ [.lst (((ls.take n).map rowM).map rowP), .lst (((ls.take n).map rowB).map PV.bl)] ∧ (∀ i < n, ∀ y, ls[i]? = some y → dRow ls.length (b ^ t) y = true) ∧ ∃ v2' v7 v8, r = dEnv l (.lst (tx h0 :: ls.map tx)) v2' b t S.length v7 v8)
    (fun v S' => v = .non ∧ ls.all (dRow ls.length (b ^ t)) = false ∧ ∃ R, S' = S ++ R)
    (fun n hn' r S' hI => by
      obtain ⟨rfl, hd, v2', v7, v8, rfl⟩ := hI
      have hq : n < ls.length := by simpa using hn'
      have hg : ls[n]? = some ls[n] := by simp [hq]
      refine ⟨dEnv l (.lst (tx h0 :: ls.map tx)) v2' b t S.length (some (tx ls[n])) v8, by simp [bindT], ?_⟩
      have hbd := due_body (k := k) (v0 := some (tx l)) (v2 := v2') (v8 := v8) (h0 := h0) (line := ls[n]) (ls := ls) (S := S) (A := ((ls.take n).map rowM).map rowP) (B := ((ls.take n).map rowB).map PV.bl) (b := b) (t := t) hS (below_map (fun x => below_row)) (below_map (g := PV.bl) (fun x => rfl)) (by simp; omega) (by simp; omega) hb ht (hls _ (List.getElem_mem hq))
      cases q : dRow ls.length (b ^ t) ls[n]
      · rw [q, if_neg Bool.false_ne_true] at hbd
        refine .inr ⟨_, _, hbd, rfl, ?_, _, rfl⟩
        rw [Bool.eq_false_iff]
        intro z
        have := List.all_eq_true.mp z _ (List.getElem_mem hq)
        rw [q] at this; cases this
      · rw [q, if_pos rfl] at hbd
        refine .inl ⟨_, _, .inl hbd, trivial, ?_, ?_, _, _, _, rfl⟩
        · rw [List.take_add_one, hg]
          simp only [Option.toList_some, List.map_append, List.map_cons, List.map_nil]
        · intro i hi y hy
          rcases Nat.lt_succ_iff_lt_or_eq.mp hi with h | rfl
          · exact hd i h y hy
          · rw [hg] at hy; cases hy; exact q) ⟨by simp, fun i hi => absurd hi (by omega), v2, none, none, rfl⟩
  rcases hl with ⟨r', S', e, rfl, hd, v2', v7, v8, rfl⟩ | ⟨v, S', e, rfl, hf, R, rfl⟩
  · refine .inl ⟨v2', v7, v8, ?_, ?_⟩
    · rw [List.all_eq_true]
      intro y hy
      obtain ⟨i, hi, rfl⟩ := List.getElem_of_mem hy
      exact hd i (by simpa using hi) _ (by simp [hi])
    · rw [e, List.length_map, List.take_length]
  · exact .inr ⟨R, hf, e⟩
def nB (l : List Nat) : Int := numV ((sp 32 (tHead l)).getD 1 [])
def nT (l : List Nat) : Int := numV ((sp 32 (tHead l)).getD 3 [])
def dueG (l : List Nat) : Bool := headG (tHead l) && (decide (2 ≤ nB l) && decide (nB l ≤ 10) && decide (0 ≤ nT l) && decide (nT l ≤ 6) && decide (1 ≤ (tLines l).length)) && ((tLines l).all (dRow (tLines l).length ((nB l).toNat ^ (nT l).toNat)) && zerosB ((tLines l).map rowM) ((tLines l).map rowB))
def dueV (l : List Nat) : PV := if dueG l = true then rdP (.int (nB l)) (.int (nT l)) ((tLines l).map rowM) ((tLines l).map rowB) else .non
theorem ones_zero {rows : List (List Int)} {lets : List Bool} : ((List.range rows.length).filter fun p => !zeroAt rows lets p).isEmpty = zerosB rows lets := by
  unfold zerosB
  rw [Bool.eq_iff_iff]
  simp [List.all_eq_true]
theorem ix_ref {T : Store} {n i : Nat} {xs : List PV} {v : PV} (hT : T[n]? = some (.lst xs)) (h : xs[i]? = some v) : op2 .ix (.ref n) (.int (i : Int)) T = .ok v T := by
  show (match T[n]? with
    | some (.lst xs) => (match atI xs (i : Int) with
        | some v => Res.ok v T
        | none => (.bad : Res PV))
    | some (.dct kvs) => (match keyP (.int (i : Int)) with
      | some k => match lookK k kvs with
        | some v => Res.ok v T
        | none => (.bad : Res PV)
      | none => (.bad : Res PV))
    | _ => (.bad : Res PV)) = _
  rw [hT]
  dsimp only
  rw [atI_nat h]
theorem len_ref {T : Store} {n : Nat} {xs : List PV} (hT : T[n]? = some (.lst xs)) : opn .len [.ref n] T = .ok (.int xs.length) T := by
  show (match T[n]? with
    | some (.lst xs) => Res.ok (PV.int xs.length) T
    | some (.dct xs) => Res.ok (PV.int xs.length) T
    | _ => (.bad : Res PV)) = _
  rw [hT]
theorem tup_ref {T : Store} {n : Nat} {xs : List PV} (hT : T[n]? = some (.lst xs)) : opn .tuple_ [.ref n] T = .ok (.tup xs) T := by
  show (match (match T[n]? with
    | some (.lst xs) => some xs
    | _ => none) with
    | some xs => Res.ok (PV.tup xs) T
    | none => (.bad : Res PV)) = _
  rw [hT]
theorem due_zero {C : Cxt} {r : PEnv} {T : Store} {n cs : Nat} {rows : List (List Int)} {lets : List Bool} (h5 : T[n]? = some (.lst (rows.map rowP))) (h6 : T[n + 1]? = some (.lst (lets.map PV.bl))) (r5 : ∀ x, ((wipeP r [9, 12]).set 12 x)[5]? = some (some (.ref n))) (r6 : ∀ x, ((wipeP r [9, 12]).set 12 x)[6]? = some (some (.ref (n + 1)))) (r12 : ∀ x, ((wipeP r [9, 12]).set 12 (some x))[12]? = some (some x)) (r5' : r[5]? = some (some (.ref n)))
    (hl : rows.length < 16777216) (hll : rows.length = lets.length) (hv : ∀ row ∈ rows, row.length = cs ∧ ∀ i ∈ row, 0 ≤ i ∧ i < rows.length) (hc : 0 < cs) :
    evalE C (.comp false [9, 12] (.name 12) (.range (.cons (.bi .len (.cons (.var 5) .nil)) .nil)) (.some (.bin .ne (.bin .ix (.var 6) (.var 12)) (.bin .ix (.var 6) (.bin .ix (.bin .ix (.var 5) (.var 12)) (.k (.int (0))))))) (.k (.int (1)))) r T = .ok (.lst (((List.range rows.length).filter fun p => !zeroAt rows lets p).map fun _ => .int 1)) T := by
  have hle := len_ref h5
  rw [List.length_map] at hle
  refine comp_F (g := fun k : Nat => .int (k : Int)) (h := fun _ => .int 1) (p := fun p => !zeroAt rows lets p) (eI_rng (by simp -implicitDefEqProofs [r5', hle]) (by omega)) (by simpa [sizeLine] using hl) (fun p hp => ?_)
  have hp' : p < rows.length := by simpa using hp
  obtain ⟨q1, q2⟩ := hv _ (List.getElem_mem hp')
  unfold turnF
  cases hq : rows[p] with
  | nil => rw [hq] at q1; simp at q1; omega
  | cons z zs =>
    have hz := q2 z (by rw [hq]; simp)
    obtain ⟨m, rfl⟩ := Int.eq_ofNat_of_zero_le hz.1
    have hm : m < lets.length := by omega
    have e1 : op2 .ix (.ref (n + 1)) (.int (p : Int)) T = .ok (.bl (lets.getD p false)) T := ix_ref h6 (by simp [show p < lets.length by omega])
    have e2 : op2 .ix (.ref (n + 1)) (.int (m : Int)) T = .ok (.bl (lets.getD m false)) T := ix_ref h6 (by simp [hm])
    have e3 : op2 .ix (rowP ((m : Int) :: zs)) (.int 0) T = .ok (.int (m : Int)) T := ix_tup (i := 0) (by simp)
    have e4 : zeroAt rows lets p = (lets.getD p false == lets.getD m false) := by
      unfold zeroAt
      simp [hp', hq]
    have e5 : op2 .ix (.ref n) (.int (p : Int)) T = .ok (rowP ((m : Int) :: zs)) T := ix_ref h5 (by simp [hp', hq])
    rw [e4]
    have e6 := op_neB (S := T) (i := lets.getD p false) (j := lets.getD m false)
    generalize lets.getD p false = u at *
    generalize lets.getD m false = w at *
    cases hq2 : (u == w) <;> rw [hq2] at e6 <;>
      simp -implicitDefEqProofs [bindT, r5, r6, r12, e1, e2, e3, e5, e6, hq2, -op_neB]
theorem law_due_ok {k : Nat} {l : List Nat} {S : Store} (hS : Wf S) (hl : l.length < 16777100) : GG (k + 3) 24 [tx l] S = .ok (dueV l) S := by
  rw [show GG (k + 3) 24 [tx l] S = _ from Gp_succ (k := k + 2) (d := d__law_due) rfl]
  have hfr : ∀ R, frz (S ++ R) S.length 8 (dueV l) = some (dueV l) := fun R => frzG_below (by
    unfold dueV
    split
    · exact below_rd rfl rfl
    · rfl)
  have key : (∃ R, evalSs (CC (k + 2)) m__law_due [some (tx l), none, none, none, none, none, none, none, none, none, none, none, none] S = .ret (dueV l) (S ++ R)) := by
    have hsp := split_sp (St := S) (c := 10) (l := l) (by decide) (by omega)
    have hle := sp_len (c := 10) (l := l)
    have hpt : ∀ y ∈ sp 10 l, y.length ≤ l.length := fun y hy => sp_part hy
    have e0 : sp 10 l = tHead l :: tLines l := by
      obtain ⟨p, ps, e⟩ := sp_cons 10 l
      unfold tHead tLines
      rw [e]; rfl
    rw [e0] at hsp hle hpt
    unfold dueV dueG nB nT headG
    generalize tHead l = h0 at *
    generalize tLines l = ls at *
    rw [List.map_cons] at hsp
    have hh0 := hpt h0 (by simp)
    have hsp2 := split_sp (St := S) (c := 32) (l := h0) (by decide) (by omega)
    have hpt2 : ∀ y ∈ sp 32 h0, y.length ≤ h0.length := fun y hy => sp_part hy
    have h4 := ix0_lst (x := tx h0) (xs := ls.map tx) (St := S)
    have sb : PV.str (Str.ofString "base") = tx [98, 97, 115, 101] := by rfl
    have st : PV.str (Str.ofString "tracks") = tx [116, 114, 97, 99, 107, 115] := by rfl
    unfold m__law_due
    rw [s_nl, s_sp, sb, st]
    generalize sp 32 h0 = ws at hsp2 hpt2 ⊢
    have eA : evalS (CC (k + 2)) (.asg (.name 1) (.mt .splitV (.var 0) (.k (tx [10])))) [some (tx l), none, none, none, none, none, none, none, none, none, none, none, none] S = .nx [some (tx l), some (.lst (tx h0 :: ls.map tx)), none, none, none, none, none, none, none, none, none, none, none] S := by
      simp -implicitDefEqProofs [hsp, bindT]
    have eB : evalS (CC (k + 2)) (.asg (.name 2) (.mt .splitV (.bin .ix (.var 1) (.k (.int (0)))) (.k (tx [32])))) [some (tx l), some (.lst (tx h0 :: ls.map tx)), none, none, none, none, none, none, none, none, none, none, none] S = .nx [some (tx l), some (.lst (tx h0 :: ls.map tx)), some (.lst (ws.map tx)), none, none, none, none, none, none, none, none, none, none] S := by
      simp -implicitDefEqProofs [hsp2, h4, bindT]
    rw [eSs_cons, eA, SRes.seq_nx, eSs_cons, eB, SRes.seq_nx]
    by_cases q : ws.length = 4
    case neg =>
      have q' : ¬ ((ws.length : Int) = 4) := by omega
      refine ⟨[], ?_⟩
      rw [List.append_nil]
      simp -implicitDefEqProofs [q, q']
    obtain ⟨a, b, c, d, rfl⟩ : ∃ a b c d, ws = [a, b, c, d] := by
      match ws, q with
      | [a, b, c, d], _ => exact ⟨a, b, c, d, rfl⟩
    have i0 : op2 .ix (.lst [tx a, tx b, tx c, tx d]) (.int 0) S = .ok (tx a) S := rfl
    have i1 : op2 .ix (.lst [tx a, tx b, tx c, tx d]) (.int 1) S = .ok (tx b) S := rfl
    have i2 : op2 .ix (.lst [tx a, tx b, tx c, tx d]) (.int 2) S = .ok (tx c) S := rfl
    have i3 : op2 .ix (.lst [tx a, tx b, tx c, tx d]) (.int 3) S = .ok (tx d) S := rfl
    have h1 := ne_SS (a := a) (b := [98, 97, 115, 101]) (S := S)
    have h2 := ne_SS (a := c) (b := [116, 114, 97, 99, 107, 115]) (S := S)
    have hb := hpt2 b (by simp)
    have hd := hpt2 d (by simp)
    have f1 := law_number_ok (k := k + 1) (w := b) hS (by omega)
    have f2 := law_number_ok (k := k + 1) (w := d) hS (by omega)
    have eC : evalS (CC (k + 2)) (.ifS (.or_ (.bin .ne (.bi .len (.cons (.var 2) .nil)) (.k (.int (4)))) (.or_ (.bin .ne (.bin .ix (.var 2) (.k (.int (0)))) (.k (tx [98, 97, 115, 101]))) (.bin .ne (.bin .ix (.var 2) (.k (.int (2)))) (.k (tx [116, 114, 97, 99, 107, 115]))))) (.cons (.ret (.k .non)) .nil) .nil) [some (tx l), some (.lst (tx h0 :: ls.map tx)), some (.lst ([a, b, c, d].map tx)), none, none, none, none, none, none, none, none, none, none] S = if (a == [98, 97, 115, 101] && c == [116, 114, 97, 99, 107, 115]) = true then .nx [some (tx l), some (.lst (tx h0 :: ls.map tx)), some (.lst ([a, b, c, d].map tx)), none, none, none, none, none, none, none, none, none, none] S else .ret .non S := by
      simp only [List.map_cons, List.map_nil]
      cases q1 : (a == [98, 97, 115, 101]) <;> cases q2 : (c == [116, 114, 97, 99, 107, 115]) <;> rw [q1] at h1 <;> rw [q2] at h2 <;>
        simp -implicitDefEqProofs [h1, h2, i0, i2, q1, q2, -beq_iff_eq]
    have hgd : ([a, b, c, d].length == 4 && ([a, b, c, d].getD 0 [] == [98, 97, 115, 101]) && ([a, b, c, d].getD 2 [] == [116, 114, 97, 99, 107, 115])) = (a == [98, 97, 115, 101] && c == [116, 114, 97, 99, 107, 115]) := by
      simp
    have hg1 : [a, b, c, d].getD 1 [] = b := rfl
    have hg3 : [a, b, c, d].getD 3 [] = d := rfl
    rw [hgd, hg1, hg3, eSs_cons, eC]
    by_cases q1 : (a == [98, 97, 115, 101] && c == [116, 114, 97, 99, 107, 115]) = true
    case neg =>
      refine ⟨[], ?_⟩
      rw [if_neg q1, SRes.seq_ret, if_neg (by simp [q1]), List.append_nil]
    rw [if_pos q1, SRes.seq_nx, q1, Bool.true_and]
    have eD : evalS (CC (k + 2)) (.unp [(.name 3), (.name 4), (.name 5), (.name 6)] (.tup (.cons (.call 23 [(.inl 0)] (.cons (.bin .ix (.var 2) (.k (.int (1)))) .nil)) (.cons (.call 23 [(.inl 0)] (.cons (.bin .ix (.var 2) (.k (.int (3)))) .nil)) (.cons (.lstR .nil) (.cons (.lstR .nil) .nil)))))) [some (tx l), some (.lst (tx h0 :: ls.map tx)), some (.lst ([a, b, c, d].map tx)), none, none, none, none, none, none, none, none, none, none] S = .nx [some (tx l), some (.lst (tx h0 :: ls.map tx)), some (.lst ([a, b, c, d].map tx)), some (.int (numV b)), some (.int (numV d)), some (.ref S.length), some (.ref (S.length + 1)), none, none, none, none, none, none] (S ++ [.lst [], .lst []]) := by
      simp only [List.map_cons, List.map_nil]
      simp -implicitDefEqProofs [i1, i3, f1, f2, permP, sizeLine, evalGs]
    rw [eSs_cons, eD, SRes.seq_nx]
    have eE : ∀ T, evalS (CC (k + 2)) (.ifS (.or_ (.not_ (.chain .le .le (.k (.int (2))) (.var 3) (.k (.int (10))))) (.or_ (.not_ (.chain .le .le (.k (.int (0))) (.var 4) (.k (.int (6))))) (.bin .lt (.bi .len (.cons (.var 1) .nil)) (.k (.int (2)))))) (.cons (.ret (.k .non)) .nil) .nil) [some (tx l), some (.lst (tx h0 :: ls.map tx)), some (.lst ([a, b, c, d].map tx)), some (.int (numV b)), some (.int (numV d)), some (.ref S.length), some (.ref (S.length + 1)), none, none, none, none, none, none] T = if (decide (2 ≤ numV b) && decide (numV b ≤ 10) && decide (0 ≤ numV d) && decide (numV d ≤ 6) && decide (1 ≤ ls.length)) = true then .nx [some (tx l), some (.lst (tx h0 :: ls.map tx)), some (.lst ([a, b, c, d].map tx)), some (.int (numV b)), some (.int (numV d)), some (.ref S.length), some (.ref (S.length + 1)), none, none, none, none, none, none] T else .ret .non T := by
      intro T
      generalize numV b = x
      generalize numV d = y
      by_cases z1 : 2 ≤ x
      · by_cases z2 : x ≤ 10
        · by_cases z3 : 0 ≤ y
          · by_cases z4 : y ≤ 6
            · by_cases z5 : 1 ≤ ls.length
              · have z6 : ¬ ((ls.length : Int) + 1 < 2) := by omega
                simp -implicitDefEqProofs [z1, z2, z3, z4, z5, z6]
              · have z6 : ((ls.length : Int) + 1 < 2) := by omega
                simp -implicitDefEqProofs [z1, z2, z3, z4, z5, z6]
            · simp -implicitDefEqProofs [z1, z2, z3, z4]
          · simp -implicitDefEqProofs [z1, z2, z3]
        · simp -implicitDefEqProofs [z1, z2]
      · simp -implicitDefEqProofs [z1]
    rw [eSs_cons, eE]
    by_cases q2 : (decide (2 ≤ numV b) && decide (numV b ≤ 10) && decide (0 ≤ numV d) && decide (numV d ≤ 6) && decide (1 ≤ ls.length)) = true
    case neg =>
      refine ⟨[.lst [], .lst []], ?_⟩
      rw [if_neg q2, SRes.seq_ret, if_neg (by simp only [Bool.and_eq_true]; intro z; exact q2 (by simp only [Bool.and_eq_true]; exact z.1))]
    rw [if_pos q2, SRes.seq_nx, q2, Bool.true_and]
    simp only [Bool.and_eq_true, decide_eq_true_eq] at q2
    obtain ⟨⟨⟨⟨z1, z2⟩, z3⟩, z4⟩, z5⟩ := q2
    obtain ⟨x, hx⟩ := Int.eq_ofNat_of_zero_le (show 0 ≤ numV b by omega)
    obtain ⟨y, hy⟩ := Int.eq_ofNat_of_zero_le z3
    rw [hx] at z1 z2
    rw [hy] at z4
    rw [hx, hy]
    rw [Int.toNat_natCast, Int.toNat_natCast]
    have hi := eI_ofL (C := CC (k + 2)) (S := S ++ [.lst [], .lst []]) (e := .slice (.var 1) (.some (.k (.int (1)))) .none) (r := dEnv l (.lst (tx h0 :: ls.map tx)) (some (.lst ([a, b, c, d].map tx))) x y S.length none none) (xs := ls.map tx) (by simp -implicitDefEqProofs [slice1])
    rw [eSs_cons, eS_for]
    have hi' := hi
    unfold dEnv at hi'
    rw [hi', Res.to_ok]
    have hx10 : x ≤ 10 := by omega
    have hy6 : y ≤ 6 := by omega
    have hlen : ls.length < 16777200 := by simp only [List.length_cons] at hle; omega
    rcases due_loop (k := k) (b := x) (t := y) (l := l) (h0 := h0) (ls := ls) (v2 := some (.lst ([a, b, c, d].map tx))) hS hx10 hy6 hlen (fun z hz => by have := hpt z (List.mem_cons_of_mem _ hz); omega) with ⟨v2', v7, v8, hall, hlp⟩ | ⟨R, hall, hlp⟩
    case inr =>
      refine ⟨R, ?_⟩
      show ((forL (.name 7) (fun r2 S2 => evalSs (CC (k + 2)) dueBody r2 S2) none (ls.map tx) (dEnv l (.lst (tx h0 :: ls.map tx)) (some (.lst ([a, b, c, d].map tx))) x y S.length none none) (S ++ [.lst [], .lst []])).seq _) = _
      rw [hlp, SRes.seq_ret, hall, Bool.false_and, if_neg Bool.false_ne_true]
    refine ⟨[.lst ((ls.map rowM).map rowP), .lst ((ls.map rowB).map PV.bl)], ?_⟩
    show ((forL (.name 7) (fun r2 S2 => evalSs (CC (k + 2)) dueBody r2 S2) none (ls.map tx) (dEnv l (.lst (tx h0 :: ls.map tx)) (some (.lst ([a, b, c, d].map tx))) x y S.length none none) (S ++ [.lst [], .lst []])).seq _) = _
    rw [hlp, SRes.seq_nx, hall, Bool.true_and]
    have t5 : (S ++ [MO.lst ((ls.map rowM).map rowP), .lst ((ls.map rowB).map PV.bl)])[S.length]? = some (.lst ((ls.map rowM).map rowP)) := by simp
    have t6 : (S ++ [MO.lst ((ls.map rowM).map rowP), .lst ((ls.map rowB).map PV.bl)])[S.length + 1]? = some (.lst ((ls.map rowB).map PV.bl)) := by
      rw [List.getElem?_append_right (by omega), Nat.add_sub_cancel_left]; rfl
    have hpp : 0 < x ^ y := Nat.pow_pos (by omega)
    have hz := due_zero (C := CC (k + 2)) (r := dEnv l (.lst (tx h0 :: ls.map tx)) v2' x y S.length v7 v8) (cs := x ^ y) t5 t6 (fun _ => rfl) (fun _ => rfl) (fun _ => rfl) rfl (by rw [List.length_map]; omega) (by simp) (fun row hrow => by
      obtain ⟨z, hz, rfl⟩ := List.mem_map.mp hrow
      have := List.all_eq_true.mp hall z hz
      unfold dRow at this
      simp only [Bool.and_eq_true, beq_iff_eq] at this
      refine ⟨this.2.1, fun i hi => ?_⟩
      have q := List.all_eq_true.mp this.2.2 i hi
      unfold inR at q
      simp only [Bool.and_eq_true, decide_eq_true_eq] at q
      rw [List.length_map]
      exact q) hpp
    have hne := ne_ones (xs := (List.range (ls.map rowM).length).filter fun p => !zeroAt (ls.map rowM) (ls.map rowB) p) (S := S ++ [MO.lst ((ls.map rowM).map rowP), .lst ((ls.map rowB).map PV.bl)])
    rw [ones_zero] at hne
    have u5 := tup_ref t5
    have u6 := tup_ref t6
    clear hi hi' hlp eD eE eC eB eA
    generalize S ++ [MO.lst ((ls.map rowM).map rowP), .lst ((ls.map rowB).map PV.bl)] = T at *
    unfold rdP
    clear hall
    generalize ls.map rowM = rows at *
    generalize ls.map rowB = lets at *
    unfold dEnv at hz
    cases q5 : zerosB rows lets <;> rw [q5] at hne
    · simp -implicitDefEqProofs [hz, hne]
    · simp -implicitDefEqProofs [hz, hne, u5, u6, sizeLine]
  obtain ⟨R, key⟩ := key
  exact evalD_new (S' := S) hS rfl key (hfr R)
end Dg
end

section
set_option Elab.async false
set_option linter.all false
set_option maxRecDepth 100000
set_option maxHeartbeats 1000000
namespace Dg
open PySem L2
theorem fold_ge : ∀ (l : List Nat) (a : Nat), a * 10 ^ l.length ≤ l.foldl (fun acc c => acc * 10 + (c - 48)) a
  | [], a => by simp
  | c :: r, a => by
    rw [List.foldl_cons, List.length_cons, Nat.pow_succ]
    have ih := fold_ge r (a * 10 + (c - 48))
    have h : a * (10 ^ r.length * 10) ≤ (a * 10 + (c - 48)) * 10 ^ r.length := by
      rw [Nat.add_mul, Nat.mul_comm (10 ^ r.length) 10, ← Nat.mul_assoc]
      omega
    omega
theorem fig_num (w : List Nat) : (goodW w = true ∧ numV w = (NumText.digitsVal w : Nat)) ∨ (goodW w = false ∧ (numV w = -1 ∨ 100000 ≤ numV w)) := by
  cases q : goodW w
  · refine .inr ⟨rfl, ?_⟩
    unfold numV
    by_cases h : w ≠ [] ∧ w.all dig = true ∧ ¬ (1 < w.length ∧ w.headD 0 = 48) ∧ w.length ≤ 9
    · rw [if_pos h]
      obtain ⟨h1, h2, h3, h4⟩ := h
      right
      cases w with
      | nil => exact absurd rfl h1
      | cons c r =>
        simp only [List.headD_cons, List.length_cons] at h3
        have hd : dig c = true := List.all_eq_true.mp h2 c (List.mem_cons_self ..)
        unfold dig at hd
        simp only [Bool.and_eq_true, decide_eq_true_eq] at hd
        by_cases h5 : r.length + 1 ≤ 5
        · exfalso
          unfold goodW at q
          rw [h2] at q
          simp only [List.length_cons, List.headD_cons] at q
          have e1 : decide (1 ≤ r.length + 1) = true := by simp
          have e2 : decide (r.length + 1 ≤ 5) = true := by simpa using h5
          rw [e1, e2] at q
          simp at q
          obtain ⟨q1, q2⟩ := q
          cases r with
          | nil => exact q1 q2 rfl
          | cons d r => exact h3 ⟨by simp, q2⟩
        · have h6 : c ≠ 48 := fun e => h3 ⟨by omega, e⟩
          have g := fold_ge r (0 * 10 + (c - 48))
          have e : NumText.digitsVal (c :: r) = r.foldl (fun acc c => acc * 10 + (c - 48)) (0 * 10 + (c - 48)) := rfl
          rw [e]
          have p : 10 ^ 5 ≤ 10 ^ r.length := Nat.pow_le_pow_right (by decide) (by omega)
          have p2 : 1 * 10 ^ r.length ≤ (0 * 10 + (c - 48)) * 10 ^ r.length := Nat.mul_le_mul_right _ (by omega)
          omega
    · rw [if_neg h]; exact .inl rfl
  · refine .inl ⟨rfl, ?_⟩
    unfold goodW at q
    simp only [Bool.and_eq_true, decide_eq_true_eq, Bool.or_eq_true, beq_iff_eq, Bool.not_eq_true'] at q
    obtain ⟨⟨⟨h1, h2⟩, h3⟩, h4⟩ := q
    unfold numV
    rw [if_pos]
    refine ⟨?_, h3, ?_, by omega⟩
    · rintro rfl; simp at h1
    · rintro ⟨h5, h6⟩
      rcases h4 with rfl | h4
      · simp at h5
      · rw [h6] at h4; exact absurd h4 (by decide)
theorem isWh_int {i l m : Int} : isWh (.int i) l (.int m) = (decide (l ≤ i) && decide (i ≤ m)) := rfl
theorem wh_fig {w : List Nat} {lo hi : Int} (h0 : 0 ≤ lo) (h1 : hi < 100000) : isWh (figV w) lo (.int hi) = (decide (lo ≤ numV w) && decide (numV w ≤ hi)) := by
  unfold figV
  rcases fig_num w with ⟨q, e⟩ | ⟨q, e⟩
  · rw [if_pos q, e]; rfl
  · rw [q, if_neg Bool.false_ne_true]
    show false = _
    symm
    rw [Bool.and_eq_false_iff]
    rcases e with e | e
    · left; simp; omega
    · right; simp; omega
theorem row_eq {n c : Nat} {l : List Nat} (hn : n ≤ 100000) : dRow n c l = (rowG l && rowOk n c (rowN l)) ∧ (dRow n c l = true → rowN l = rowM l) := by
  have key : ∀ ws : List (List Nat), (ws.map numV).all (inR n) = (ws.all goodW && (ws.map valI).all fun x => isWh (.int x) 0 (.int ((n : Int) - 1))) ∧ (ws.all goodW = true → ws.map valI = ws.map numV) := by
    intro ws
    induction ws with
    | nil => exact ⟨rfl, fun _ => rfl⟩
    | cons w ws ih =>
      rcases fig_num w with ⟨q, e⟩ | ⟨q, e⟩
      · refine ⟨?_, fun h => ?_⟩
        · rw [List.map_cons, List.all_cons, ih.1, List.all_cons, q, Bool.true_and, List.map_cons, List.all_cons, e]
          have : inR n ((NumText.digitsVal w : Nat) : Int) = isWh (.int (valI w)) 0 (.int ((n : Int) - 1)) := by
            unfold inR valI
            rw [isWh_int]
            congr 1
            rw [decide_eq_decide]
            omega
          rw [this]
          cases isWh (.int (valI w)) 0 (.int ((n : Int) - 1)) <;> cases ws.all goodW <;> simp
        · rw [List.all_cons, Bool.and_eq_true] at h
          rw [List.map_cons, List.map_cons, ih.2 h.2, e]; rfl
      · refine ⟨?_, fun h => ?_⟩
        · rw [List.map_cons, List.all_cons, List.all_cons, q]
          have : inR n (numV w) = false := by
            unfold inR
            rw [Bool.and_eq_false_iff]
            rcases e with e | e
            · left; simp; omega
            · right; simp; omega
          rw [this]
          simp
        · rw [List.all_cons, q] at h; simp at h
  obtain ⟨k1, k2⟩ := key (sp 32 l).tail
  unfold dRow rowG rowOk rowN rowM
  rw [k1]
  refine ⟨?_, fun h => ?_⟩
  · simp only [List.length_map]
    cases isYN ((sp 32 l).headD []) <;> cases (sp 32 l).tail.all goodW <;> cases ((sp 32 l).tail.length == c) <;> simp
  · simp only [Bool.and_eq_true] at h
    exact k2 h.2.2.1
end Dg
end

section
set_option Elab.async false
set_option linter.all false
set_option maxRecDepth 100000
set_option maxHeartbeats 1000000
namespace Dg
open PySem L2
theorem lines_cols {c n : Nat} : ∀ {ls : List (List Nat)}, ls.all (dRow n c) = true → c * ls.length ≤ (ls.map fun y => y.length).sum
  | [], _ => by simp
  | y :: ls, h => by
    rw [List.all_cons, Bool.and_eq_true] at h
    have ih := lines_cols h.2
    have h1 := h.1
    unfold dRow at h1
    simp only [Bool.and_eq_true, beq_iff_eq] at h1
    have h2 : (rowM y).length ≤ y.length := by
      unfold rowM
      have := sp_len (c := 32) (l := y)
      rw [List.length_map, List.length_tail]
      omega
    rw [List.length_cons, List.map_cons, List.sum_cons, Nat.mul_succ]
    omega
theorem map_eq_of {α β : Type} {f g : α → β} {xs : List α} (h : ∀ x ∈ xs, f x = g x) : xs.map f = xs.map g := List.map_congr_left h
/-- the program's reading and the law's -/
theorem read_due {l : List Nat} (hl : l.length ≤ 20000) : readG l = dueG l ∧ (dueG l = true → rdP (tB l) (tT l) ((tLines l).map rowN) ((tLines l).map rowB) = rdP (.int (nB l)) (.int (nT l)) ((tLines l).map rowM) ((tLines l).map rowB)) := by
  have hsum := sp_sum (c := 10) (l := l)
  have e0 : sp 10 l = tHead l :: tLines l := by
    obtain ⟨p, ps, e⟩ := sp_cons 10 l
    unfold tHead tLines
    rw [e]; rfl
  rw [e0] at hsum
  simp only [List.map_cons, List.sum_cons, List.length_cons] at hsum
  unfold readG dueG validB formB tB tT nB nT
  have hn : (tLines l).length ≤ 100000 := by omega
  generalize tLines l = ls at *
  generalize tHead l = h0 at *
  generalize (sp 32 h0).getD 1 [] = wb
  generalize (sp 32 h0).getD 3 [] = wt
  rw [wh_fig (by decide) (by decide), wh_fig (by decide) (by decide)]
  have hem : (!(ls.map rowN).isEmpty) = decide (1 ≤ ls.length) := by
    cases ls <;> simp
  rw [hem]
  rw [List.length_map]
  by_cases q0 : headG h0 = true
  case neg => 
    have q0' : headG h0 = false := by simpa using q0
    rw [q0']
    exact ⟨rfl, fun h => by simp at h⟩
  rw [q0, Bool.true_and, Bool.true_and]
  have hassoc : ∀ a b c d e : Bool, (a && b && (c && d) && e) = (a && b && c && d && e) := by decide
  by_cases q1 : (decide (2 ≤ numV wb) && decide (numV wb ≤ 10) && decide (0 ≤ numV wt) && decide (numV wt ≤ 6) && decide (1 ≤ ls.length)) = true
  case neg =>
    have q1' : (decide (2 ≤ numV wb) && decide (numV wb ≤ 10) && decide (0 ≤ numV wt) && decide (numV wt ≤ 6) && decide (1 ≤ ls.length)) = false := by simpa using q1
    rw [hassoc, q1', Bool.false_and, Bool.and_false, Bool.false_and]
    exact ⟨rfl, fun h => by simp at h⟩
  rw [hassoc, q1, Bool.true_and, Bool.true_and]
  simp only [Bool.and_eq_true, decide_eq_true_eq] at q1
  obtain ⟨⟨⟨⟨z1, z2⟩, z3⟩, z4⟩, z5⟩ := q1
  have fb : figV wb = .int (numV wb) := by
    rcases fig_num wb with ⟨q, e⟩ | ⟨q, e⟩
    · unfold figV; rw [if_pos q, e]
    · omega
  have ft : figV wt = .int (numV wt) := by
    rcases fig_num wt with ⟨q, e⟩ | ⟨q, e⟩
    · unfold figV; rw [if_pos q, e]
    · omega
  rw [fb, ft]
  have hpw : pw (.int (numV wb)) (.int (numV wt)) = (numV wb).toNat ^ (numV wt).toNat := rfl
  rw [hpw]
  generalize (numV wb).toNat ^ (numV wt).toNat = c
  have hrow : ls.all (dRow ls.length c) = (ls.all rowG && (ls.map rowN).all (rowOk ls.length c)) := by
    have : ∀ n ≤ 100000, ∀ xs : List (List Nat), xs.all (dRow n c) = (xs.all rowG && (xs.map rowN).all (rowOk n c)) := by
      intro n hn xs
      induction xs with
      | nil => rfl
      | cons x xs ih =>
        rw [List.all_cons, List.all_cons, List.map_cons, List.all_cons, ih, (row_eq hn).1]
        cases rowG x <;> cases rowOk n c (rowN x) <;> cases xs.all rowG <;> simp
    exact this _ hn ls
  by_cases q2 : ls.all (dRow ls.length c) = true
  case neg =>
    have q2' : ls.all (dRow ls.length c) = false := by simpa using q2
    rw [q2'] at hrow ⊢
    refine ⟨?_, fun h => by simp at h⟩
    rw [Bool.false_and]
    cases h1 : ls.all rowG
    · rfl
    · rw [h1, Bool.true_and] at hrow
      rw [← hrow]
      simp
  have hmul := lines_cols q2
  have hmn : ls.map rowN = ls.map rowM := List.map_congr_left fun y hy => (row_eq hn).2 (List.all_eq_true.mp q2 y hy)
  rw [q2] at hrow ⊢
  have hrow' := hrow.symm
  rw [Bool.and_eq_true] at hrow'
  rw [hrow'.1, hrow'.2, hmn]
  have hsz : decide (c * ls.length ≤ 20000) = true := by
    rw [decide_eq_true_eq]
    omega
  rw [hsz]
  exact ⟨rfl, fun _ => rfl⟩
end Dg
end

section
set_option Elab.async false
set_option linter.all false
set_option maxRecDepth 100000
set_option maxHeartbeats 1000000
namespace Dg
open PySem L2
theorem num_head : ∀ (n : Nat), 1 ≤ n → (TL.numL n).headD 0 ≠ 48 := by
  intro n
  induction n using Nat.strongRecOn with
  | _ n ih =>
    intro h
    by_cases h1 : n < 10
    · rw [TL.numL_lt h1]
      simp; omega
    · rw [TL.numL_step (by omega)]
      have := ih (n / 10) (by omega) (by omega)
      cases hq : TL.numL (n / 10) with
      | nil => exact absurd hq (TL.numL_ne _)
      | cons c r => rw [hq] at this; exact this
theorem num_dig (n : Nat) : (TL.numL n).all dig = true := by
  rw [List.all_eq_true]
  intro c hc
  have := TL.numL_digits n c hc
  unfold dig
  simp; omega
theorem good_num {n : Nat} (h : n < 100000) : goodW (TL.numL n) = true := by
  have h1 : (TL.numL n).length ≤ 5 := TL.numL_len (by decide) (by omega)
  have h2 : 1 ≤ (TL.numL n).length := List.length_pos_iff.mpr (TL.numL_ne n)
  unfold goodW
  rw [num_dig]
  simp only [Bool.and_eq_true, decide_eq_true_eq, Bool.or_eq_true, beq_iff_eq, Bool.not_eq_true', beq_eq_false_iff_ne, ne_eq]
  refine ⟨⟨⟨h2, h1⟩, trivial⟩, ?_⟩
  by_cases hz : n = 0
  · subst hz; left; decide +kernel
  · right; exact num_head n (by omega)
theorem fig_of_num {n : Nat} (h : n < 100000) : figV (TL.numL n) = .int (n : Int) := by
  unfold figV
  rw [if_pos (good_num h), TL.numL_val]
theorem val_num {n : Nat} : valI (TL.numL n) = (n : Int) := by
  unfold valI
  rw [TL.numL_val]
theorem head_join {b t : Nat} : headL b t = TL.joinL [32] [[98, 97, 115, 101], TL.numL b, [116, 114, 97, 99, 107, 115], TL.numL t] := by
  simp [headL, TL.joinL]
theorem sp_head {b t : Nat} : sp 32 (headL b t) = [[98, 97, 115, 101], TL.numL b, [116, 114, 97, 99, 107, 115], TL.numL t] := by
  rw [head_join]
  refine sp_join (by simp) (fun p hp => ?_)
  simp only [List.mem_cons, List.not_mem_nil, or_false] at hp
  rcases hp with rfl | rfl | rfl | rfl
  · decide
  · exact TL.numL_free (by omega)
  · decide
  · exact TL.numL_free (by omega)
theorem word_free {b : Bool} {c : Nat} (h : c < 100) : c ∉ wordL b := by
  cases b <;> simp [wordL, yesL, noL] <;> omega
theorem sp_line {b : Bool} {row : List Int} : sp 32 (lineL b row) = wordL b :: row.map fun i => TL.numL i.toNat := by
  unfold lineL
  refine sp_join (by simp) (fun p hp => ?_)
  rcases List.mem_cons.mp hp with rfl | hp
  · exact word_free (by omega)
  · obtain ⟨i, _, rfl⟩ := List.mem_map.mp hp
    exact TL.numL_free (by omega)
theorem join_free {c s : Nat} (hs : c ≠ s) : ∀ {ys : List (List Nat)}, (∀ y ∈ ys, c ∉ y) → c ∉ TL.joinL [s] ys
  | [], _ => by simp [TL.joinL]
  | [y], h => by simpa [TL.joinL] using h y (by simp)
  | y :: z :: r, h => by
    have ih := join_free hs (ys := z :: r) fun p hp => h p (List.mem_cons_of_mem _ hp)
    have h1 := h y (by simp)
    show c ∉ y ++ ([s] ++ TL.joinL [s] (z :: r))
    simp only [List.mem_append, List.mem_singleton]
    rintro (q | q | q)
    · exact h1 q
    · exact hs q
    · exact ih q
theorem line_free {b : Bool} {row : List Int} : 10 ∉ lineL b row := by
  unfold lineL
  refine join_free (by decide) (fun p hp => ?_)
  rcases List.mem_cons.mp hp with rfl | hp
  · exact word_free (by omega)
  · obtain ⟨i, _, rfl⟩ := List.mem_map.mp hp
    exact TL.numL_free (by omega)
theorem head_free {b t : Nat} : 10 ∉ headL b t := by
  rw [head_join]
  refine join_free (by decide) (fun p hp => ?_)
  simp only [List.mem_cons, List.not_mem_nil, or_false] at hp
  rcases hp with rfl | rfl | rfl | rfl
  · decide
  · exact TL.numL_free (by omega)
  · decide
  · exact TL.numL_free (by omega)
theorem sp_text {b t : Nat} {rows : List (List Int)} {lets : List Bool} : sp 10 (textL b t rows lets) = linesL b t rows lets := by
  unfold textL
  refine sp_join (by simp [linesL]) (fun p hp => ?_)
  unfold linesL at hp
  rcases List.mem_cons.mp hp with rfl | hp
  · exact head_free
  · obtain ⟨i, _, rfl⟩ := List.mem_map.mp hp
    exact line_free
theorem zip_rows {rows : List (List Int)} {lets : List Bool} (h : rows.length = lets.length) : (rows.zip lets).map (fun p => p.1) = rows ∧ (rows.zip lets).map (fun p => p.2) = lets := by
  constructor
  · exact List.map_fst_zip (by omega)
  · exact List.map_snd_zip (by omega)
/-- a reader's text, read -/
theorem read_text {b t : Nat} {rows : List (List Int)} {lets : List Bool} (h : VR b t rows lets) : readG (textL b t rows lets) = true ∧ rdP (tB (textL b t rows lets)) (tT (textL b t rows lets)) ((tLines (textL b t rows lets)).map rowN) ((tLines (textL b t rows lets)).map rowB) = rdP (.int b) (.int t) rows lets := by
  have e1 : tHead (textL b t rows lets) = headL b t := by unfold tHead; rw [sp_text]; rfl
  have e2 : tLines (textL b t rows lets) = (rows.zip lets).map fun p => lineL p.2 p.1 := by unfold tLines; rw [sp_text]; rfl
  have e3 : tB (textL b t rows lets) = .int b := by
    unfold tB; rw [e1, sp_head]
    exact fig_of_num (by have := h.b10; omega)
  have e4 : tT (textL b t rows lets) = .int t := by
    unfold tT; rw [e1, sp_head]
    exact fig_of_num (by have := h.t6; omega)
  have e5 : headG (headL b t) = true := by
    unfold headG; rw [sp_head]; rfl
  have e6 : ((rows.zip lets).map fun p => lineL p.2 p.1).map rowN = rows := by
    rw [List.map_map]
    refine Eq.trans (List.map_congr_left (g := fun p => p.1) fun p hp => ?_) (zip_rows h.ll).1
    have hm := (List.of_mem_zip (show (p.1, p.2) ∈ rows.zip lets from hp)).1
    have hs := h.small _ hm
    show rowN (lineL p.2 p.1) = p.1
    unfold rowN
    rw [sp_line, List.tail_cons, List.map_map]
    refine Eq.trans (List.map_congr_left (g := id) fun i hi => ?_) (List.map_id _)
    have := hs.2 i hi
    show valI (TL.numL i.toNat) = i
    rw [val_num]; omega
  have e7 : ((rows.zip lets).map fun p => lineL p.2 p.1).map rowB = lets := by
    rw [List.map_map]
    refine Eq.trans (List.map_congr_left (g := fun p => p.2) fun p hp => ?_) (zip_rows h.ll).2
    show rowB (lineL p.2 p.1) = p.2
    unfold rowB
    rw [sp_line, List.headD_cons]
    cases p.2 <;> decide
  have e8 : ((rows.zip lets).map fun p => lineL p.2 p.1).all rowG = true := by
    rw [List.all_eq_true]
    intro y hy
    obtain ⟨p, hp, rfl⟩ := List.mem_map.mp hy
    have hm := (List.of_mem_zip (show (p.1, p.2) ∈ rows.zip lets from hp)).1
    have hs := h.small _ hm
    unfold rowG
    rw [sp_line, List.headD_cons, List.tail_cons, Bool.and_eq_true]
    refine ⟨by cases p.2 <;> decide, ?_⟩
    rw [List.all_eq_true]
    intro w hw
    obtain ⟨i, hi, rfl⟩ := List.mem_map.mp hw
    have := hs.2 i hi
    exact good_num (by omega)
  unfold readG
  rw [e1, e2, e3, e4, e5, e6, e7, e8, h.valid]
  exact ⟨rfl, rfl⟩
end Dg
end

section
set_option Elab.async false
set_option linter.all false
set_option maxRecDepth 100000
set_option maxHeartbeats 1000000
namespace Dg
open PySem L2
@[simp] theorem CC_sub {k c c' : Nat} : (CC k).sub c c' = T0.subs.lookup (c, c') := rfl
theorem sub11 : T0.subs.lookup (1, 1) = some true := by decide +kernel
theorem sub00 : T0.subs.lookup (0, 0) = some true := by decide +kernel
theorem sub20 : T0.subs.lookup (2, 0) = some false := by decide +kernel
theorem sub22 : T0.subs.lookup (2, 2) = some true := by decide +kernel
theorem law_read_val {k : Nat} {v x : PV} {S : Store} (hS : Wf S) (hb : below S.length x = true) (h : GG k 12 [v] S = .ok x S) : GG (k + 1) 26 [v] S = .ok x S := by
  rw [show GG (k + 1) 26 [v] S = _ from Gp_succ (d := d__law_read) rfl]
  refine evalD_ret hS ?_ hb
  show evalSs (CC k) m__law_read [some v, none, none] S = _
  unfold m__law_read
  simp -implicitDefEqProofs [eS_try, permP, h, bindT]
theorem law_read_exc {k : Nat} {v a : PV} {S : Store} (hS : Wf S) (hb : below S.length a = true) (h : GG k 12 [v] S = .exc 1 a S) : GG (k + 1) 26 [v] S = .ok (.lst [a]) S := by
  rw [show GG (k + 1) 26 [v] S = _ from Gp_succ (d := d__law_read) rfl]
  refine evalD_ret hS ?_ (by simp [below, belows, hb])
  show evalSs (CC k) m__law_read [some v, none, none] S = _
  unfold m__law_read
  simp -implicitDefEqProofs [eS_try, permP, h, bindT, handle, sub11, sizeLine]
theorem law_written_val {k : Nat} {v x : PV} {S : Store} (hS : Wf S) (hb : below S.length x = true) (h : GG k 8 [v] S = .ok x S) : GG (k + 1) 27 [v] S = .ok (.lst [.str (Str.ofString "told"), x]) S := by
  rw [show GG (k + 1) 27 [v] S = _ from Gp_succ (d := d__law_written) rfl]
  refine evalD_ret hS ?_ (by simp [below, belows, hb])
  show evalSs (CC k) m__law_written [some v, none, none] S = _
  unfold m__law_written
  simp -implicitDefEqProofs [eS_try, permP, h, bindT, sizeLine]
theorem law_written_many {k : Nat} {v a : PV} {S : Store} (hS : Wf S) (hb : below S.length a = true) (h : GG k 8 [v] S = .exc 2 a S) : GG (k + 1) 27 [v] S = .ok (.lst [.str (Str.ofString "many"), a]) S := by
  rw [show GG (k + 1) 27 [v] S = _ from Gp_succ (d := d__law_written) rfl]
  refine evalD_ret hS ?_ (by simp [below, belows, hb])
  show evalSs (CC k) m__law_written [some v, none, none] S = _
  unfold m__law_written
  simp -implicitDefEqProofs [eS_try, permP, h, bindT, handle, sub20, sub22, sizeLine]
theorem law_written_non {k : Nat} {v a : PV} {S : Store} (hS : Wf S) (hb : below S.length a = true) (h : GG k 8 [v] S = .exc 0 a S) : GG (k + 1) 27 [v] S = .ok (.lst [.str (Str.ofString "reader"), a]) S := by
  rw [show GG (k + 1) 27 [v] S = _ from Gp_succ (d := d__law_written) rfl]
  refine evalD_ret hS ?_ (by simp [below, belows, hb])
  show evalSs (CC k) m__law_written [some v, none, none] S = _
  unfold m__law_written
  simp -implicitDefEqProofs [eS_try, permP, h, bindT, handle, sub00, sizeLine]
theorem reader_text_non {k : Nat} {S : Store} (hS : Wf S) : GG (k + 6) 8 [.non] S = .exc 0 (.str (Str.ofString "form")) S := by
  rw [show GG (k + 6) 8 [.non] S = _ from Gp_succ (k := k + 5) (d := d_reader_text) rfl]
  have e : evalSs (CC (k + 5)) m_reader_text [some .non, none, none, none, none, none, none] S = .exc 0 (.str (Str.ofString "form")) [some .non, none, none, none, none, none, none] S := by
    unfold m_reader_text
    have h := need_reader_non (k := k) hS
    simp -implicitDefEqProofs [permP, h]
  exact evalD_exc hS e rfl
theorem read_odd {k : Nat} {v : PV} {S : Store} (hS : Wf S) (hv : v = .non ∨ (∃ i, v = .int i) ∨ v = .lst []) : GG (k + 1) 12 [v] S = .exc 1 .non S := by
  rw [show GG (k + 1) 12 [v] S = _ from Gp_succ (d := d_read_reader) rfl]
  have e : evalSs (CC k) m_read_reader [some v, none, none, none, none, none, none, none, none] S = .exc 1 .non [some v, none, none, none, none, none, none, none, none] S := by
    unfold m_read_reader
    rcases hv with rfl | ⟨i, rfl⟩ | rfl <;> simp -implicitDefEqProofs
  exact evalD_exc hS e rfl
/-- the law's reading of a text of moderate length -/
theorem law_read_text {k : Nat} {l : List Nat} {S : Store} (hS : Wf S) (hl : l.length ≤ 20000) : GG (k + 6) 26 [tx l] S = .ok (if dueG l = true then dueV l else .lst [.int 0]) S := by
  have h := read_reader_ok (k := k) (l := l) (S := S) hS (by omega)
  obtain ⟨e1, e2⟩ := read_due hl
  rw [e1] at h
  unfold dueV
  by_cases q : dueG l = true
  · rw [if_pos q] at h ⊢
    rw [if_pos q, ← e2 q]
    exact law_read_val hS (below_rd (by unfold tB figV; split <;> rfl) (by unfold tT figV; split <;> rfl)) h
  · rw [if_neg q] at h ⊢
    exact law_read_exc hS rfl h
end Dg
end

section
set_option Elab.async false
set_option linter.all false
set_option maxRecDepth 100000
set_option maxHeartbeats 1000000
namespace Dg
open PySem L2
theorem op_mulR {i j : Int} {S : Store} (h : -18446744073709551616 < j ∧ j < 18446744073709551616) : op2 .mul (.int i) (.int j) S = .ok (.int (i * j)) S := op_mulS (.inr (by rw [p64]; exact h))
theorem op_mulL {i j : Int} {S : Store} (h : -18446744073709551616 < i ∧ i < 18446744073709551616) : op2 .mul (.int i) (.int j) S = .ok (.int (i * j)) S := op_mulS (.inl (by rw [p64]; exact h))
theorem log2_lt {n : Nat} (h : n < 18446744073709551616) : n.log2 < 9000 := by
  have := log2_small h; omega
theorem op_fdivS {i j : Int} {S : Store} (h0 : 0 < j) (h1 : j < 18446744073709551616) : op2 .fdiv (.int i) (.int j) S = .ok (.int (i / j)) S := op_fdivI ⟨h0, log2_lt (by omega)⟩
theorem mixed_ok {k : Nat} {c : Int} {n : Nat} {S : Store} (hS : Wf S) (hn : n < 1099511627776) : ∃ r : Nat, GG (k + 1) 13 [.int c, .int n] S = .ok (.int r) S := by
  rw [show GG (k + 1) 13 [.int c, .int n] S = _ from Gp_succ (d := d__law_mixed) rfl]
  have m1 := op_mulL (S := S) (i := 2) (j := n) (by omega)
  have m2 := op_mulR (S := S) (i := c) (j := 1 + 2 * n) (by omega)
  have m3 := op_mulR (S := S) (i := c * (1 + 2 * n)) (j := 48271) (by omega)
  have m4 := op_modI (S := S) (i := c * (1 + 2 * n) * 48271) (j := 2147483647) (by omega)
  have m5 := op_mulL (S := S) (i := 7919) (j := n) (by omega)
  have m6 := op_mulR (S := S) (i := 7919 * n) (j := n) (by omega)
  have m7 := op_mulL (S := S) (i := 104729) (j := n) (by omega)
  generalize hbl : c * (1 + 2 * (n : Int)) * 48271 % 2147483647 + 7919 * n * n + 104729 * n = bl
  have m8 := op_mulR (S := S) (i := bl) (j := 69621) (by omega)
  have m9 := op_modI (S := S) (i := bl * 69621) (j := 2147483629) (by omega)
  have m10 := op_fdivS (S := S) (i := bl * 69621 % 2147483629) (j := 7) (by omega) (by omega)
  have h0 : 0 ≤ bl * 69621 % 2147483629 := Int.emod_nonneg _ (by omega)
  have h1 : 0 ≤ bl * 69621 % 2147483629 / 7 := by omega
  obtain ⟨r, hr⟩ := Int.eq_ofNat_of_zero_le h1
  refine ⟨r, evalD_ret hS ?_ rfl⟩
  show evalSs (CC k) m__law_mixed [some (.int c), some (.int n), none] S = _
  unfold m__law_mixed
  rw [← hr]
  simp -implicitDefEqProofs [m1, m2, m3, m4, m5, m6, m7, m8, m9, m10, hbl, bindT]
end Dg
end

section
set_option Elab.async false
set_option linter.all false
set_option maxRecDepth 100000
set_option maxHeartbeats 1000000
namespace Dg
open PySem L2
def kC : Key := .inr (Str.ofString "cells")
def kG : Key := .inr (Str.ofString "great")
def kS : Key := .inr (Str.ofString "spot")
def dS (R : Store) (c g : List Int) (n : Nat) : Store := .dct [(kC, .lst (c.map PV.int)), (kG, .ref 1), (kS, .int (n : Int))] :: .lst (g.map PV.int) :: R
def Rok (R : Store) : Prop := R.all (belowM (R.length + 2)) = true
theorem kCG : (kC = kG) = False := eq_false (by decide +kernel)
theorem kCS : (kC = kS) = False := eq_false (by decide +kernel)
theorem kGS : (kG = kS) = False := eq_false (by decide +kernel)
theorem kGC : (kG = kC) = False := eq_false (by decide +kernel)
theorem kSC : (kS = kC) = False := eq_false (by decide +kernel)
theorem kSG : (kS = kG) = False := eq_false (by decide +kernel)
theorem ix_key {S : Store} {n : Nat} {kvs : List (Key × PV)} {s : Str} {v : PV} (h : S[n]? = some (.dct kvs)) (hk : lookK (.inr s) kvs = some v) : op2 .ix (.ref n) (.str s) S = .ok v S := by
  show (match S[n]? with
    | some (.lst xs) => (match (PV.str s) with
      | .int i => (match atI xs i with
        | some v => Res.ok v S
        | none => (.bad : Res PV))
      | _ => (.bad : Res PV))
    | some (.dct kvs) => (match keyP (.str s) with
      | some k => match lookK k kvs with
        | some v => Res.ok v S
        | none => (.bad : Res PV)
      | none => (.bad : Res PV))
    | _ => (.bad : Res PV)) = _
  rw [h]
  dsimp only [keyP]
  rw [hk]
theorem ix_cells {R : Store} {c g : List Int} {n : Nat} : op2 .ix (.ref 0) (.str (Str.ofString "cells")) (dS R c g n) = .ok (.lst (c.map PV.int)) (dS R c g n) := ix_key rfl (by show lookK kC _ = _; simp [lookK])
theorem ix_great {R : Store} {c g : List Int} {n : Nat} : op2 .ix (.ref 0) (.str (Str.ofString "great")) (dS R c g n) = .ok (.ref 1) (dS R c g n) := ix_key rfl (by show lookK kG _ = _; simp [lookK, kCG])
theorem ix_spot {R : Store} {c g : List Int} {n : Nat} : op2 .ix (.ref 0) (.str (Str.ofString "spot")) (dS R c g n) = .ok (.int n) (dS R c g n) := ix_key rfl (by show lookK kS _ = _; simp [lookK, kCS, kGS])
theorem set_spot {R : Store} {c g : List Int} {n m : Nat} : setP (.ref 0) (.str (Str.ofString "spot")) (.int (m : Int)) (dS R c g n) = some (dS R c g m) := by
  have e : putK kS (.int (m : Int)) [(kC, .lst (c.map PV.int)), (kG, .ref 1), (kS, .int (n : Int))] = [(kC, .lst (c.map PV.int)), (kG, .ref 1), (kS, .int (m : Int))] := by
    simp [putK, kCS, kGS]
  show (if (3 : Nat) < sizeLine then some ((dS R c g n).set 0 (.dct (putK kS (.int (m : Int)) [(kC, .lst (c.map PV.int)), (kG, .ref 1), (kS, .int (n : Int))]))) else none) = _
  rw [if_pos (by decide), e]
  rfl
theorem Wf_dS {R : Store} {c g : List Int} {n : Nat} (hR : Rok R) : Wf (dS R c g n) := by
  unfold Wf dS
  unfold Rok at hR
  have e : (MO.dct [(kC, .lst (c.map PV.int)), (kG, .ref 1), (kS, .int (n : Int))] :: MO.lst (g.map PV.int) :: R).length = R.length + 2 := rfl
  rw [e, List.all_cons, List.all_cons, hR]
  simp [belowM, below, below_ints]
end Dg
end

section
set_option Elab.async false
set_option linter.all false
set_option maxRecDepth 100000
set_option maxHeartbeats 1000000
namespace Dg
open PySem L2
theorem ne_nilR {xs : List Int} {n : Nat} {S : Store} (hn : S[n]? = some (.lst (xs.map PV.int))) : op2 .ne (.ref n) (.lst []) S = .ok (.bl (!xs.isEmpty)) S := by
  have h := ne_nilL (xs := xs) (S := S)
  have e1 : toD1 S (.lst (xs.map PV.int)) = some (.list (xs.map PyData.int)) := by
    rw [toD1, toD, toDs_map (d := PyData.int) (fun x => by rw [toD])]; rfl
    all_goals simp
  have e3 : toD1 S (.ref n) = some (.list (xs.map PyData.int)) := by
    show (match S[n]? with
      | some (.lst xs) => (toDs S xs).map PyData.list
      | _ => none) = _
    rw [hn]
    dsimp only
    rw [toDs_map (d := PyData.int) (fun x => by rw [toD])]; rfl
  rw [← h]
  show eqD true (.ref n) (.lst []) S = eqD true (.lst (xs.map PV.int)) (.lst []) S
  unfold eqD
  rw [if_neg (by simp [scalP]), if_neg (by simp [scalP]), e1, e3]
theorem set_great {R : Store} {c g : List Int} {n i : Nat} {x : Int} (h : i < g.length) : setP (.ref 1) (.int (i : Int)) (.int x) (dS R c g n) = some (dS R c (g.set i x) n) := by
  show (match ixN (g.map PV.int).length (i : Int) with
    | some j => some ((dS R c g n).set 1 (.lst ((g.map PV.int).set j (.int x))))
    | none => none) = _
  have e : ixN (g.map PV.int).length (i : Int) = some i := by
    unfold ixN
    rw [List.length_map, if_pos (by omega), if_pos (by omega), Int.toNat_natCast]
  rw [e]
  dsimp only
  rw [← List.map_set]
  rfl
def tailS : MSs := (.cons (.asg (.name 3) (.bin .ix (.var 0) (.k (.str (Str.ofString "cells"))))) (.cons (.ret (.bin .mod (.bi .int_ (.cons (.call 13 [(.inl 0), (.inl 1)] (.cons (.call 13 [(.inl 0), (.inl 1)] (.cons (.bin .add (.bin .ix (.var 3) (.bin .mod (.bi .int_ (.cons (.var 2) .nil)) (.k (.int (64))))) (.bin .mul (.k (.int (31))) (.bin .fdiv (.var 2) (.k (.int (64)))))) (.cons (.var 2) .nil))) (.cons (.bin .add (.var 2) (.k (.int (7)))) .nil))) .nil)) (.var 1))) .nil))
theorem draw_tail {k n N L : Nat} {R : Store} {c g : List Int} {v3 v4 v5 : Option PV} (hR : Rok R) (hc : c.length = 64) (hn : n < 1000000000) (hL : 1 ≤ L) : ∃ v : Nat, v < L ∧ evalSs (CC (k + 1)) tailS [some (.ref 0), some (.int L), some (.int n), v3, v4, v5] (dS R c g N) = .ret (.int v) (dS R c g N) := by
  have hW := Wf_dS (c := c) (g := g) (n := N) hR
  have e1 := ix_cells (R := R) (c := c) (g := g) (n := N)
  generalize dS R c g N = S at *
  have m1 := op_modI (S := S) (i := n) (j := 64) (by omega)
  have hm : n % 64 < c.length := by omega
  have m2 : op2 .ix (.lst (c.map PV.int)) (.int ((n : Int) % 64)) S = .ok (.int c[n % 64]) S := by
    have := ix_lst (S := S) (xs := c.map PV.int) (i := n % 64) (x := .int c[n % 64]) (by simp [hm])
    rw [Int.natCast_emod] at this
    exact this
  have m3 := op_fdivS (S := S) (i := n) (j := 64) (by omega) (by omega)
  have m4 := op_mulL (S := S) (i := 31) (j := (n : Int) / 64) (by omega)
  obtain ⟨r1, h1⟩ := mixed_ok (k := k) (c := c[n % 64] + 31 * ((n : Int) / 64)) (n := n) hW (by omega)
  obtain ⟨r2, h2⟩ := mixed_ok (k := k) (c := (r1 : Int)) (n := n + 7) hW (by omega)
  have m5 := op_modI (S := S) (i := r2) (j := L) (by omega)
  refine ⟨r2 % L, Nat.mod_lt _ (by omega), ?_⟩
  rw [Int.natCast_add] at h2
  have h2' : GG (k + 1) 13 [.int (r1 : Int), .int ((n : Int) + 7)] S = .ok (.int r2) S := h2
  rw [Int.natCast_emod]
  generalize c[n % 64] = cc at *
  unfold tailS
  simp -implicitDefEqProofs [e1, m1, m2, m3, m4, h1, h2', m5, permP, bindT]
end Dg
end

section
set_option Elab.async false
set_option linter.all false
set_option maxRecDepth 100000
set_option maxHeartbeats 1000000
namespace Dg
open PySem L2
theorem draw_ok {k n L : Nat} {R : Store} {c g : List Int} (hR : Rok R) (hc : c.length = 64) (hg : g.length ≤ 1000000) (hn : n < 1000000000) (hL : 1 ≤ L) (hL2 : L < 1000000000) : ∃ (v : Nat) (g' : List Int), v < L ∧ g'.length = g.length ∧ GG (k + 2) 15 [.ref 0, .int L] (dS R c g n) = .ok (.int v) (dS R c g' (n + 1)) := by
  have key : ∃ (v : Nat) (g' : List Int), v < L ∧ g'.length = g.length ∧ evalSs (CC (k + 1)) m__law_draw [some (.ref 0), some (.int L), none, none, none, none] (dS R c g n) = .ret (.int v) (dS R c g' (n + 1)) := by
    unfold m__law_draw
    have e1 := ix_spot (R := R) (c := c) (g := g) (n := n)
    have e2 := set_spot (R := R) (c := c) (g := g) (n := n) (m := n + 1)
    rw [Int.natCast_add] at e2
    have e2' : setP (.ref 0) (.str (Str.ofString "spot")) (.int ((n : Int) + 1)) (dS R c g n) = some (dS R c g (n + 1)) := e2
    have eA : evalS (CC (k + 1)) (.asg (.name 2) (.bin .ix (.var 0) (.k (.str (Str.ofString "spot"))))) [some (.ref 0), some (.int L), none, none, none, none] (dS R c g n) = .nx [some (.ref 0), some (.int L), some (.int n), none, none, none] (dS R c g n) := by
      generalize dS R c g n = S at *
      simp -implicitDefEqProofs [e1, bindT]
    have eB : evalS (CC (k + 1)) (.setix (.var 0) (.k (.str (Str.ofString "spot"))) (.bin .add (.var 2) (.k (.int (1))))) [some (.ref 0), some (.int L), some (.int n), none, none, none] (dS R c g n) = .nx [some (.ref 0), some (.int L), some (.int n), none, none, none] (dS R c g (n + 1)) := by
      generalize dS R c g (n + 1) = T at *
      generalize dS R c g n = S at *
      simp -implicitDefEqProofs [e2', bindT]
    rw [eSs_cons, eA, SRes.seq_nx, eSs_cons, eB, SRes.seq_nx]
    have e3 := ix_great (R := R) (c := c) (g := g) (n := n + 1)
    have hT : (dS R c g (n + 1))[1]? = some (.lst (g.map PV.int)) := rfl
    have e4 := ne_nilR hT
    have e5 := len_ref hT
    rw [List.length_map] at e5
    rw [eSs_cons]
    by_cases q : g = []
    · subst q
      have eC : ∀ A, evalS (CC (k + 1)) (.ifS (.bin .ne (.bin .ix (.var 0) (.k (.str (Str.ofString "great")))) (.lst .nil)) A .nil) [some (.ref 0), some (.int L), some (.int n), none, none, none] (dS R c [] (n + 1)) = .nx [some (.ref 0), some (.int L), some (.int n), none, none, none] (dS R c [] (n + 1)) := by
        intro A
        generalize dS R c [] (n + 1) = T at *
        simp -implicitDefEqProofs [e3, e4]
      rw [eC, SRes.seq_nx]
      obtain ⟨v, h1, h2⟩ := draw_tail (R := R) (k := k) (N := n + 1) (g := []) (v3 := none) (v4 := none) (v5 := none) hR hc hn hL
      exact ⟨v, [], h1, rfl, h2⟩
    · have hgl : 0 < g.length := List.length_pos_iff.mpr q
      have hi : n % g.length < g.length := Nat.mod_lt _ hgl
      have m1 := op_modI (S := dS R c g (n + 1)) (i := n) (j := g.length) (by omega)
      have m2 : op2 .ix (.ref 1) (.int ((n : Int) % (g.length : Int))) (dS R c g (n + 1)) = .ok (.int g[n % g.length]) (dS R c g (n + 1)) := by
        have := ix_ref (i := n % g.length) (v := .int g[n % g.length]) hT (by simp [hi])
        rw [Int.natCast_emod] at this
        exact this
      have hem : g.isEmpty = false := by cases g with
        | nil => exact absurd rfl q
        | cons _ _ => rfl
      rw [hem] at e4
      have m3 := op_fdivS (S := dS R c g (n + 1)) (i := g[n % g.length]) (j := L) (by omega) (by omega)
      have m4 := set_great (R := R) (c := c) (g := g) (n := n + 1) (i := n % g.length) (x := g[n % g.length] / L) hi
      rw [Int.natCast_emod] at m4
      have m5 := op_modI (S := dS R c (g.set (n % g.length) (g[n % g.length] / L)) (n + 1)) (i := g[n % g.length]) (j := L) (by omega)
      by_cases z : 0 < g[n % g.length]
      · have h0 : 0 ≤ g[n % g.length] % (L : Int) := Int.emod_nonneg _ (by omega)
        have h1 : g[n % g.length] % (L : Int) < L := Int.emod_lt_of_pos _ (by omega)
        obtain ⟨v, hv⟩ := Int.eq_ofNat_of_zero_le h0
        refine ⟨v, g.set (n % g.length) (g[n % g.length] / L), by omega, by simp, ?_⟩
        rw [← hv]
        clear eA eB e1 e2 e2' hT
        generalize dS R c (g.set (n % g.length) (g[n % g.length] / L)) (n + 1) = U at *
        generalize dS R c g (n + 1) = T at *
        generalize g[n % g.length] = cc at *
        simp -implicitDefEqProofs [e3, e4, e5, m1, m2, m3, m4, m5, z, bindT]
      · obtain ⟨v, h1, h2⟩ := draw_tail (R := R) (k := k) (N := n + 1) (g := g) (v3 := some (.ref 1)) (v4 := some (.int ((n : Int) % (g.length : Int)))) (v5 := some (.int g[n % g.length])) hR hc hn hL
        refine ⟨v, g, h1, rfl, ?_⟩
        rw [← h2]
        unfold tailS
        clear eA eB e1 e2 e2' hT h2
        generalize dS R c (g.set (n % g.length) (g[n % g.length] / L)) (n + 1) = U at *
        generalize dS R c g (n + 1) = T at *
        generalize g[n % g.length] = cc at *
        simp -implicitDefEqProofs [e3, e4, e5, m1, m2, z, bindT]
  obtain ⟨v, g', h1, h2, h3⟩ := key
  refine ⟨v, g', h1, h2, ?_⟩
  rw [show GG (k + 2) 15 [.ref 0, .int L] (dS R c g n) = _ from Gp_succ (k := k + 1) (d := d__law_draw) rfl]
  exact evalD_new (S' := dS R c g' (n + 1)) (R := []) (Wf_dS hR) rfl (by rw [List.append_nil]; exact h3) rfl
end Dg
end

section
set_option Elab.async false
set_option linter.all false
set_option maxRecDepth 100000
set_option maxHeartbeats 1000000
namespace Dg
open PySem L2
/-- a state of the draws: at most N draws so far -/
def Dst (N : Nat) (R S : Store) : Prop := Rok R ∧ ∃ (c g : List Int) (n : Nat), S = dS R c g n ∧ c.length = 64 ∧ g.length ≤ 1000000 ∧ n ≤ N
theorem Dst.wf {N : Nat} {R S : Store} (h : Dst N R S) : Wf S := by
  obtain ⟨hR, c, g, n, rfl, _⟩ := h
  exact Wf_dS hR
theorem Dst.len {N : Nat} {R S : Store} (h : Dst N R S) : S.length = R.length + 2 := by
  obtain ⟨hR, c, g, n, rfl, _⟩ := h
  rfl
theorem Dst.mono {N M : Nat} {R S : Store} (h : Dst N R S) (hm : N ≤ M) : Dst M R S := by
  obtain ⟨hR, c, g, n, rfl, h1, h2, h3⟩ := h
  exact ⟨hR, c, g, n, rfl, h1, h2, by omega⟩
theorem draw {k N L : Nat} {R S : Store} (h : Dst N R S) (hN : N < 1000000000) (hL : 1 ≤ L) (hL2 : L < 1000000000) : ∃ (v : Nat) (S' : Store), v < L ∧ Dst (N + 1) R S' ∧ GG (k + 2) 15 [.ref 0, .int L] S = .ok (.int v) S' := by
  obtain ⟨hR, c, g, n, rfl, h1, h2, h3⟩ := h
  obtain ⟨v, g', q1, q2, q3⟩ := draw_ok (k := k) (n := n) (L := L) hR h1 h2 (by omega) hL hL2
  exact ⟨v, dS R c g' (n + 1), q1, ⟨hR, c, g', n + 1, rfl, h1, by omega, by omega⟩, q3⟩
theorem law_of_ok {k N : Nat} {R S : Store} {xs : List PV} (h : Dst N R S) (hN : N < 1000000000) (hx : xs ≠ []) (hl : xs.length < 1000000) (hb : ∀ n, belows n xs = true) : ∃ (v : PV) (S' : Store), v ∈ xs ∧ Dst (N + 1) R S' ∧ GG (k + 3) 17 [.ref 0, .lst xs] S = .ok v S' := by
  have hxl : 0 < xs.length := List.length_pos_iff.mpr hx
  obtain ⟨v, S', q1, q2, q3⟩ := draw (k := k) (L := xs.length) h hN (by omega) (by omega)
  have hm := List.getElem_mem q1
  refine ⟨xs[v], S', hm, q2, ?_⟩
  rw [show GG (k + 3) 17 [.ref 0, .lst xs] S = _ from Gp_succ (k := k + 2) (d := d__law_of) rfl]
  have hbl : ∀ {ys : List PV} {n : Nat} {y : PV}, belows n ys = true → y ∈ ys → below n y = true := by
    intro ys n y hh hy
    induction ys with
    | nil => simp at hy
    | cons z zs ih =>
      rw [belows, Bool.and_eq_true] at hh
      rcases List.mem_cons.mp hy with rfl | hy
      · exact hh.1
      · exact ih hh.2 hy
  refine evalD_new (S' := S') (R := []) (v := xs[v]) ?_ (by rw [q2.len, h.len]) ?_ ?_
  · rw [h.len, ← q2.len]; exact q2.wf
  · show evalSs (CC (k + 2)) m__law_of [some (.ref 0), some (.lst xs)] S = _
    unfold m__law_of
    have e := ix_lst (S := S') (xs := xs) (i := v) (x := xs[v]) (by simp [q1])
    simp -implicitDefEqProofs [permP, q3, e]
  · unfold frz
    exact frzG_below (hbl (hb _) hm)
end Dg
end

section
set_option Elab.async false
set_option linter.all false
set_option maxRecDepth 100000
set_option maxHeartbeats 1000000
namespace Dg
open PySem L2
/-- values that _law_like finds like themselves -/
def Lk0 (v : PV) : Prop := v = .non ∨ (∃ b, v = .bl b) ∨ (∃ i, v = .int i) ∨ ∃ s, v = .str s
def Lk : Nat → PV → Prop
  | 0, v => Lk0 v
  | n + 1, v => Lk0 v ∨ ∃ xs, (v = .tup xs ∨ v = .lst xs) ∧ xs.length < 1000000 ∧ ∀ x ∈ xs, Lk n x
theorem Lk_zero {v : PV} : Lk 0 v = (v = .non ∨ (∃ b, v = .bl b) ∨ (∃ i, v = .int i) ∨ ∃ s, v = .str s) := by rw [Lk]; rfl
theorem Lk_succ {n : Nat} {v : PV} : Lk (n + 1) v = (Lk 0 v ∨ ∃ xs, (v = .tup xs ∨ v = .lst xs) ∧ xs.length < 1000000 ∧ ∀ x ∈ xs, Lk n x) := by rw [Lk, Lk]
theorem like_scal {k : Nat} {v : PV} {S : Store} (hS : Wf S) (h : Lk 0 v) : GG (k + 1) 18 [v, v] S = .ok (.bl true) S := by
  rw [show GG (k + 1) 18 [v, v] S = _ from Gp_succ (d := d__law_like) rfl]
  refine evalD_ret hS ?_ rfl
  show evalSs (CC k) m__law_like [some v, some v, none] S = _
  unfold m__law_like
  rw [Lk_zero] at h
  rcases h with rfl | ⟨b, rfl⟩ | ⟨i, rfl⟩ | ⟨s, rfl⟩ <;> simp -implicitDefEqProofs
abbrev likeBody : MSs := (.cons (.ifS (.not_ (.call 18 [(.inl 0), (.inl 1)] (.cons (.bin .ix (.var 0) (.var 2)) (.cons (.bin .ix (.var 1) (.var 2)) .nil)))) (.cons (.ret (.k (.bl false))) .nil) .nil) .nil)
theorem like_loop {k : Nat} {v : PV} {xs : List PV} {S : Store} (hv : ∀ (i : Nat) (h : i < xs.length), op2 .ix v (.int (i : Int)) S = .ok xs[i] S) (hx : ∀ x ∈ xs, GG k 18 [x, x] S = .ok (.bl true) S) :
    ∃ x, forL (.name 2) (fun r2 S2 => evalSs (CC k) likeBody r2 S2) none ((List.range xs.length).map fun (k : Nat) => .int (k : Int)) [some v, some v, none] S = .nx [some v, some v, x] S := by
  have hl := forL_k (t := .name 2) (g := none) (f := fun r2 S2 => evalSs (CC k) likeBody r2 S2) (xs := (List.range xs.length).map fun (k : Nat) => .int (k : Int)) (r := [some v, some v, none]) (S := S)
    (fun n r S' => S' = S ∧ ∃ x, r = [some v, some v, x]) (fun _ _ => False)
    (fun n hn r S' hI => by
      obtain ⟨rfl, x, rfl⟩ := hI
      have hn' : n < xs.length := by simpa using hn
      refine ⟨[some v, some v, some (.int (n : Int))], by simp [bindT], .inl ⟨_, _, .inl ?_, trivial, rfl, some (.int (n : Int)), rfl⟩⟩
      have h1 := hv n hn'
      have h2 := hx _ (List.getElem_mem hn')
      unfold likeBody
      generalize xs[n] = y at *
      simp -implicitDefEqProofs [h1, h2, permP]) ⟨rfl, none, rfl⟩
  rcases hl with ⟨r', S', e, rfl, x, rfl⟩ | ⟨_, _, _, h⟩
  · exact ⟨x, e⟩
  · exact h.elim
theorem like_seq {k : Nat} {v : PV} {xs : List PV} {S : Store} (hS : Wf S) (hv : v = .tup xs ∨ v = .lst xs) (hl : xs.length < 1000000) (hx : ∀ x ∈ xs, GG k 18 [x, x] S = .ok (.bl true) S) : GG (k + 1) 18 [v, v] S = .ok (.bl true) S := by
  rw [show GG (k + 1) 18 [v, v] S = _ from Gp_succ (d := d__law_like) rfl]
  refine evalD_ret hS ?_ rfl
  show evalSs (CC k) m__law_like [some v, some v, none] S = _
  unfold m__law_like
  have hi : ∀ (i : Nat) (h : i < xs.length), op2 .ix v (.int (i : Int)) S = .ok xs[i] S := fun i h => by
    rcases hv with rfl | rfl
    · exact ix_tup (by simp [h])
    · exact ix_lst (by simp [h])
  obtain ⟨x, hlp⟩ := like_loop hi hx
  have hlen : evalE (CC k) (.bi .len (.cons (.var 1) .nil)) [some v, some v, none] S = .ok (.int (xs.length : Int)) S := by
    rcases hv with rfl | rfl <;> simp
  have hr := eI_rng (C := CC k) (S := S) (r := [some v, some v, none]) hlen (by omega)
  have hf : evalS (CC k) (.forS (.name 2) (.range (.cons (.bi .len (.cons (.var 1) .nil)) .nil)) likeBody) [some v, some v, none] S = .nx [some v, some v, x] S := by
    rw [eS_for, hr, Res.to_ok]
    exact hlp
  unfold likeBody at hf
  rcases hv with rfl | rfl <;> simp -implicitDefEqProofs [hf]
theorem like_ok {n k : Nat} {v : PV} {S : Store} (hS : Wf S) (h : Lk n v) : GG (k + n + 1) 18 [v, v] S = .ok (.bl true) S := by
  induction n generalizing v with
  | zero => exact like_scal hS h
  | succ n ih =>
    rw [Lk_succ] at h
    rcases h with h | ⟨xs, hv, hl, hx⟩
    · exact like_scal hS h
    · exact like_seq (k := k + n + 1) hS hv hl fun x hm => ih (hx x hm)
theorem Lk_map {n : Nat} {α : Type} {g : α → PV} {xs : List α} (h : ∀ x ∈ xs, Lk n (g x)) : ∀ y ∈ xs.map g, Lk n y := by
  intro y hy
  obtain ⟨x, hx, rfl⟩ := List.mem_map.mp hy
  exact h x hx
theorem Lk_lift {n : Nat} {v : PV} (h : Lk 0 v) : Lk n v := by
  cases n
  · exact h
  · rw [Lk_succ]; exact .inl h
theorem Lk_int {n : Nat} {i : Int} : Lk n (.int i) := Lk_lift (by rw [Lk_zero]; exact .inr (.inr (.inl ⟨_, rfl⟩)))
theorem Lk_bl {n : Nat} {i : Bool} : Lk n (.bl i) := Lk_lift (by rw [Lk_zero]; exact .inr (.inl ⟨_, rfl⟩))
theorem Lk_str {n : Nat} {i : Str} : Lk n (.str i) := Lk_lift (by rw [Lk_zero]; exact .inr (.inr (.inr ⟨_, rfl⟩)))
theorem Lk_non {n : Nat} : Lk n .non := Lk_lift (by rw [Lk_zero]; exact .inl rfl)
theorem Lk_tup {n : Nat} {xs : List PV} (hl : xs.length < 1000000) (h : ∀ x ∈ xs, Lk n x) : Lk (n + 1) (.tup xs) := by rw [Lk_succ]; exact .inr ⟨xs, .inl rfl, hl, h⟩
theorem Lk_lst {n : Nat} {xs : List PV} (hl : xs.length < 1000000) (h : ∀ x ∈ xs, Lk n x) : Lk (n + 1) (.lst xs) := by rw [Lk_succ]; exact .inr ⟨xs, .inr rfl, hl, h⟩
theorem Lk_rd {n : Nat} {b t : Int} {rows : List (List Int)} {lets : List Bool} (h1 : rows.length < 1000000) (h2 : lets.length < 1000000) (h3 : ∀ row ∈ rows, row.length < 1000000) : Lk (n + 3) (rdP (.int b) (.int t) rows lets) := by
  refine Lk_tup (by simp) ?_
  intro x hx
  simp only [List.mem_cons, List.not_mem_nil, or_false] at hx
  rcases hx with rfl | rfl | rfl | rfl
  · exact Lk_int
  · exact Lk_int
  · refine Lk_tup (by simpa using h1) (Lk_map fun row hr => ?_)
    exact Lk_tup (by simpa using h3 row hr) (Lk_map fun i _ => Lk_int)
  · exact Lk_tup (by simpa using h2) (Lk_map fun i _ => Lk_bl)
end Dg
end

section
set_option Elab.async false
set_option linter.all false
set_option maxRecDepth 100000
set_option maxHeartbeats 1000000
namespace Dg
open PySem L2
theorem evalD_raw {C : Cxt} {n : Nat} {b : MSs} {vs : List PV} {S S' : Store} {v : PV} (h : evalSs C b (startP n vs) S = .ret v S') : evalD C true n b vs S = .ok v S' := by
  unfold evalD
  rw [h]
  rfl
theorem comp_R {C : Cxt} {own : List Nat} {t : TGT} {it : IT} {e : ME} {r : PEnv} {α : Type} {as : List α} {g h : α → PV} {S : Store} (hi : evalI C it r S = .ok (as.map g, none) S) (hl : as.length < sizeLine) (hx : ∀ a ∈ as, turnF C own t .none e r (g a) S = .ok (some (h a)) S) : evalE C (.comp true own t it .none e) r S = .ok (.ref S.length) (S ++ [.lst (as.map h)]) := by
  rw [eE_comp, hi, Res.bind_ok]
  dsimp only
  rw [if_pos (by simpa using hl), compL_A hx, Res.bind_ok, if_pos rfl]
theorem rangeP_two {i j : Nat} (hi : i < 4611686018427387904) (hj : j < 4611686018427387904) : rangeP [.int i, .int j] = some ((List.range (j - i)).map fun (k : Nat) => .int ((i + k : Nat) : Int)) := by
  rw [rangeP, if_pos ⟨(rng1 hi).1, (rng1 hi).2, rng1 hj⟩]
  rw [show ((j : Int) - (i : Int)).toNat = j - i by omega]
  simp
theorem ixN_nat {n i : Nat} (h : i < n) : ixN n (i : Int) = some i := by
  unfold ixN
  rw [if_pos (by omega), if_pos (by omega), Int.toNat_natCast]
theorem setP_lst {S : Store} {n i : Nat} {xs : List PV} {x : PV} (hS : S[n]? = some (.lst xs)) (h : i < xs.length) : setP (.ref n) (.int (i : Int)) x S = some (S.set n (.lst (xs.set i x))) := by
  show (match S[n]? with
    | some (.lst xs) => (match (PV.int (i : Int)) with
      | .int i => (match ixN xs.length i with
        | some j => some (S.set n (.lst (xs.set j x)))
        | none => none)
      | _ => none)
    | some (.dct kvs) => (match keyP (.int (i : Int)) with
      | some k => if kvs.length < sizeLine then some (S.set n (.dct (putK k x kvs))) else none
      | none => none)
    | _ => none) = _
  rw [hS]
  dsimp only
  rw [ixN_nat h]
abbrev cS (c : List Int) : Store := [.lst (c.map PV.int)]
theorem cS_ix {c : List Int} {i : Nat} (h : i < c.length) : op2 .ix (.ref 0) (.int (i : Int)) (cS c) = .ok (.int c[i]) (cS c) := ix_ref (xs := c.map PV.int) rfl (by simp [h])
theorem cS_set {c : List Int} {i : Nat} {x : Int} (h : i < c.length) : setP (.ref 0) (.int (i : Int)) (.int x) (cS c) = some (cS (c.set i x)) := by
  rw [setP_lst (xs := c.map PV.int) rfl (by simpa using h), ← List.map_set]
  rfl
theorem ofInt64 : (64 : Int) = ((64 : Nat) : Int) := rfl
abbrev fold1 : MSs := (.cons (.setix (.var 2) (.bin .mod (.bi .int_ (.cons (.var 1) .nil)) (.k (.int (64)))) (.bin .mod (.bi .int_ (.cons (.bin .add (.bin .mul (.bin .ix (.var 2) (.bin .mod (.bi .int_ (.cons (.var 1) .nil)) (.k (.int (64))))) (.k (.int (48271)))) (.var 3)) .nil)) (.k (.int (2147483647))))) .nil)
theorem fold1_ok {k n : Nat} {s : PV} {z : Int} {d : Option PV} {c : List Int} (hc : c.length = 64) : ∃ c' : List Int, c'.length = 64 ∧ evalSs (CC k) fold1 [some s, some (.int (n : Int)), some (.ref 0), some (.int z), d] (cS c) = .nx [some s, some (.int (n : Int)), some (.ref 0), some (.int z), d] (cS c') := by
  have hi : n % 64 < c.length := by omega
  have m0 := op_modI (S := cS c) (i := n) (j := 64) (by omega)
  have e1 := cS_ix hi
  rw [Int.natCast_emod] at e1
  have e1' : op2 .ix (.ref 0) (.int ((n : Int) % 64)) (cS c) = .ok (.int c[n % 64]) (cS c) := e1
  have m1 := op_mulR (S := cS c) (i := c[n % 64]) (j := 48271) (by omega)
  have m2 := op_modI (S := cS c) (i := c[n % 64] * 48271 + z) (j := 2147483647) (by omega)
  have e2 := cS_set (x := (c[n % 64] * 48271 + z) % 2147483647) hi
  rw [Int.natCast_emod] at e2
  have e2' : setP (.ref 0) (.int ((n : Int) % 64)) (.int ((c[n % 64] * 48271 + z) % 2147483647)) (cS c) = some (cS (c.set (n % 64) ((c[n % 64] * 48271 + z) % 2147483647))) := e2
  refine ⟨c.set (n % 64) ((c[n % 64] * 48271 + z) % 2147483647), by simp [hc], ?_⟩
  clear e1 e2
  unfold fold1
  generalize cS (c.set (n % 64) ((c[n % 64] * 48271 + z) % 2147483647)) = T at *
  generalize cS c = U at *
  generalize c[n % 64] = y at *
  simp -implicitDefEqProofs [m0, e1', m1, m2, e2']
abbrev fold2 : MSs := (.cons (.setix (.var 2) (.var 1) (.bin .mod (.bi .int_ (.cons (.bin .add (.bin .ix (.var 2) (.var 1)) (.bin .mul (.bin .ix (.var 2) (.bin .sub (.var 1) (.k (.int (1))))) (.k (.int (16807))))) .nil)) (.k (.int (2147483647))))) .nil)
theorem fold2_ok {k n : Nat} {s : PV} {b d : Option PV} {c : List Int} (hc : c.length = 64) (hn : n + 1 < 64) : ∃ c' : List Int, c'.length = 64 ∧ evalSs (CC k) fold2 [some s, some (.int ((n + 1 : Nat) : Int)), some (.ref 0), b, d] (cS c) = .nx [some s, some (.int ((n + 1 : Nat) : Int)), some (.ref 0), b, d] (cS c') := by
  have e1 := cS_ix (c := c) (i := n + 1) (by omega)
  have e3 := cS_ix (c := c) (i := n) (by omega)
  have m1 := op_mulR (S := cS c) (i := c[n]) (j := 16807) (by omega)
  have m2 := op_modI (S := cS c) (i := c[n + 1] + c[n] * 16807) (j := 2147483647) (by omega)
  have e2 := cS_set (c := c) (i := n + 1) (x := (c[n + 1] + c[n] * 16807) % 2147483647) (by omega)
  refine ⟨c.set (n + 1) ((c[n + 1] + c[n] * 16807) % 2147483647), by simp [hc], ?_⟩
  unfold fold2
  generalize cS (c.set (n + 1) ((c[n + 1] + c[n] * 16807) % 2147483647)) = T at *
  generalize cS c = U at *
  generalize c[n] = y at *
  generalize c[n + 1] = w at *
  have hs : (((n + 1 : Nat) : Int) - 1) = (n : Int) := by omega
  generalize ((n + 1 : Nat) : Int) = N at *
  simp -implicitDefEqProofs [hs, e1, e3, m1, m2, e2]
theorem folded_ok {k : Nat} {ns : List Int} (hl : ns.length ≤ 1000) : ∃ c : List Int, c.length = 64 ∧ GG (k + 1) 14 [.scr (ns.map PV.int)] [] = .ok (.lst (c.map PV.int)) [] := by
  have key : ∃ c : List Int, c.length = 64 ∧ evalSs (CC k) m__law_folded [some (.scr (ns.map PV.int)), none, none, none, none] [] = .ret (.ref 0) (cS c) := by
    unfold m__law_folded
    have hr := eI_rng (C := CC k) (S := []) (r := [some (.scr (ns.map PV.int)), none, none, none, none]) (e := .k (.int 64)) (n := 64) (by simp) (by omega)
    have hc := comp_R (C := CC k) (S := []) (own := [4, 1]) (t := .name 1) (e := (.bin .add (.k (.int (17))) (.var 1))) (r := [some (.scr (ns.map PV.int)), none, none, none, none]) (as := List.range 64) (g := fun (k : Nat) => .int (k : Int)) (h := fun (k : Nat) => .int (17 + (k : Int))) hr (by decide) (fun a _ => by
      unfold turnF
      simp [bindT, wipeP])
    have hc0 : (List.range 64).map (fun (k : Nat) => PV.int (17 + (k : Int))) = ((List.range 64).map fun (k : Nat) => (17 + (k : Int))).map PV.int := by rw [List.map_map]; rfl
    rw [hc0] at hc
    obtain ⟨c0, hc1⟩ : ∃ c0, c0 = (List.range 64).map fun (k : Nat) => (17 + (k : Int)) := ⟨_, rfl⟩
    have hc2 : c0.length = 64 := by rw [hc1]; simp
    rw [← hc1] at hc
    rw [eSs_cons, eS_asg, hc]
    simp only [Res.to_ok, bindT, List.set, SRes.seq_nx, List.length_nil, List.nil_append]
    -- first loop
    have l1 := forL_k (t := .tup [1, 3]) (g := none) (f := fun r2 S2 => evalSs (CC k) fold1 r2 S2) (xs := enumL (ns.map PV.int)) (r := [some (.scr (ns.map PV.int)), none, some (.ref 0), none, none]) (S := cS c0)
      (fun n r S' => ∃ c a b, c.length = 64 ∧ S' = cS c ∧ r = [some (.scr (ns.map PV.int)), a, some (.ref 0), b, none]) (fun _ _ => False)
      (fun n hn r S' hI => by
        obtain ⟨c, a, b, hcl, rfl, rfl⟩ := hI
        have hn' : n < ns.length := by simpa [enumL] using hn
        obtain ⟨c', q1, q2⟩ := fold1_ok (k := k) (n := n) (s := .scr (ns.map PV.int)) (z := ns[n]) (d := none) hcl
        refine ⟨[some (.scr (ns.map PV.int)), some (.int (n : Int)), some (.ref 0), some (.int ns[n]), none], by simp [bindT, hn', enumL], .inl ⟨_, _, .inl q2, trivial, c', _, _, q1, rfl, rfl⟩⟩) ⟨c0, none, none, hc2, rfl, rfl⟩
    rcases l1 with ⟨r', S', e, c1, a, b, q1, rfl, rfl⟩ | ⟨_, _, _, h⟩
    · have he : evalI (CC k) (.enum (.var 0)) [some (.scr (ns.map PV.int)), none, some (.ref 0), none, none] (cS c0) = .ok (enumL (ns.map PV.int), none) (cS c0) := by
        rw [eI_enum, eE_var]
        show Res.ok (enumP 0 (ns.map PV.int), none) (cS c0) = _
        rw [enumP_eq]; rfl
      rw [eSs_cons, eS_for, he, Res.to_ok, e, SRes.seq_nx]
      -- second loop
      have l2 := forL_k (t := .name 1) (g := none) (f := fun r2 S2 => evalSs (CC k) fold2 r2 S2) (xs := (List.range (64 - 1)).map fun (k : Nat) => .int ((1 + k : Nat) : Int)) (r := [some (.scr (ns.map PV.int)), a, some (.ref 0), b, none]) (S := cS c1)
        (fun n r S' => ∃ c a, c.length = 64 ∧ S' = cS c ∧ r = [some (.scr (ns.map PV.int)), a, some (.ref 0), b, none]) (fun _ _ => False)
        (fun n hn r S' hI => by
          obtain ⟨c, a, hcl, rfl, rfl⟩ := hI
          have hn' : n < 63 := by simpa using hn
          obtain ⟨c', q1, q2⟩ := fold2_ok (k := k) (n := n) (s := .scr (ns.map PV.int)) (b := b) (d := none) hcl (by omega)
          refine ⟨[some (.scr (ns.map PV.int)), some (.int ((n + 1 : Nat) : Int)), some (.ref 0), b, none], by simp [bindT, Nat.add_comm, Int.add_comm], .inl ⟨_, _, .inl q2, trivial, c', _, q1, rfl, rfl⟩⟩) ⟨c1, a, q1, rfl, rfl⟩
      rcases l2 with ⟨r', S', e, c2, a2, q2, rfl, rfl⟩ | ⟨_, _, _, h⟩
      · have he2 : evalI (CC k) (.range (.cons (.k (.int (1))) (.cons (.k (.int (64))) .nil))) [some (.scr (ns.map PV.int)), a, some (.ref 0), b, none] (cS c1) = .ok ((List.range (64 - 1)).map fun (k : Nat) => .int ((1 + k : Nat) : Int), none) (cS c1) := by
          rw [eI_range]
          simp only [eEs_cons, eEs_nil, eE_k, Res.bind_ok]
          rw [show rangeP [.int 1, .int 64] = _ from rangeP_two (i := 1) (j := 64) (by omega) (by omega)]
        refine ⟨c2, q2, ?_⟩
        rw [eSs_cons, eS_for, he2, Res.to_ok]
        dsimp only
        rw [e, SRes.seq_nx]
        simp
      · exact h.elim
    · exact h.elim
  obtain ⟨c, h1, h2⟩ := key
  refine ⟨c, h1, ?_⟩
  rw [show GG (k + 1) 14 [.scr (ns.map PV.int)] [] = _ from Gp_succ (d := d__law_folded) rfl]
  exact evalD_new (S := []) (S' := []) (R := cS c) (v := .ref 0) rfl rfl h2 (by
    show gz (cS c) 0 8 0 = _
    unfold gz
    show ((frzGs 0 (gz (cS c) 0 7) (c.map PV.int)).map PV.lst) = _
    rw [frzGs_below below_ints]; rfl)
theorem begun_ok {k : Nat} {ns : List Int} (hl : ns.length ≤ 1000) : ∃ S, Dst 0 [] S ∧ GG (k + 2) 16 [.scr (ns.map PV.int)] [] = .ok (.ref 0) S := by
  obtain ⟨c, hc, hf⟩ := folded_ok (k := k) hl
  refine ⟨dS [] c (ns.map fun z => if 1000000000000000000 ≤ z then z else 0) 0, ⟨rfl, c, _, 0, rfl, hc, by simp; omega, Nat.le_refl _⟩, ?_⟩
  rw [show GG (k + 2) 16 [.scr (ns.map PV.int)] [] = _ from Gp_succ (k := k + 1) (d := d__law_begun) rfl]
  refine evalD_raw ?_
  show evalSs (CC (k + 1)) m__law_begun [some (.scr (ns.map PV.int)), none, none, none] [] = _
  unfold m__law_begun
  have hk : [kC, kG, kS].Nodup := by
    simp [kCG, kCS, kGS]
  obtain ⟨D0, hD0⟩ : ∃ D0 : Store, D0 = [.dct [(kC, .lst (c.map PV.int)), (kG, .lst []), (kS, .int 0)]] := ⟨_, rfl⟩
  have e1 : evalE (CC (k + 1)) (.dctR [(.inr (Str.ofString "cells")), (.inr (Str.ofString "great")), (.inr (Str.ofString "spot"))] (.cons (.call 14 [(.inl 0)] (.cons (.var 0) .nil)) (.cons (.lst .nil) (.cons (.k (.int (0))) .nil)))) [some (.scr (ns.map PV.int)), none, none, none] [] = .ok (.ref 0) D0 := by
    rw [eE_dctR]
    simp -implicitDefEqProofs only [eEs_cons, eE_call, eE_var, List.getElem?_cons_zero, eEs_nil, Res.bind_ok, permP, hf, eE_lst, eE_k, CC_G, List.length_nil]
    rw [if_pos (by decide), Res.bind_ok, Res.bind_ok, Res.bind_ok, if_pos ⟨rfl, by simp, hk⟩, hD0]
    rfl
  have hp : op2 .pow (.int 10) (.int 18) D0 = .ok (.int 1000000000000000000) D0 := by
    show okI (CPow 10 18) _ _ = _
    unfold okI
    rw [if_pos (by decide +kernel)]
    rfl
  have e2 := comp_R (C := CC (k + 1)) (S := D0) (own := [2, 3]) (t := .name 3) (it := .of (.var 0)) (e := (.ite (.bin .ge (.var 3) (.bin .pow (.k (.int (10))) (.k (.int (18))))) (.var 3) (.k (.int (0))))) (r := [some (.scr (ns.map PV.int)), some (.ref 0), none, none]) (as := ns) (g := PV.int) (h := fun z => .int (if 1000000000000000000 ≤ z then z else 0)) (by simp [seqOf]) (by
      have : sizeLine = 16777216 := rfl
      omega) (fun a _ => by
    unfold turnF
    simp -implicitDefEqProofs [bindT, wipeP, hp]
    split <;> simp_all)
  have e3 : setP (.ref 0) (.str (Str.ofString "great")) (.ref D0.length) (D0 ++ [.lst (ns.map fun z => .int (if 1000000000000000000 ≤ z then z else 0))]) = some (dS [] c (ns.map fun z => if 1000000000000000000 ≤ z then z else 0) 0) := by
    rw [hD0]
    have e : putK kG (.ref 1) [(kC, .lst (c.map PV.int)), (kG, .lst []), (kS, .int 0)] = [(kC, .lst (c.map PV.int)), (kG, .ref 1), (kS, .int 0)] := by
      simp [putK, kCG, kSG, kCS]
    show (if (3 : Nat) < sizeLine then some (([.dct [(kC, .lst (c.map PV.int)), (kG, .lst []), (kS, .int 0)]] ++ [.lst (ns.map fun z => .int (if 1000000000000000000 ≤ z then z else 0))] : Store).set 0 (.dct (putK kG (.ref 1) [(kC, .lst (c.map PV.int)), (kG, .lst []), (kS, .int 0)]))) else none) = _
    rw [if_pos (by decide), e]
    show some [_, _] = some [_, _]
    rw [List.map_map]
    rfl
  rw [eSs_cons, eS_asg, e1]
  simp only [Res.to_ok, bindT, List.set, SRes.seq_nx]
  rw [eSs_cons, eS_setix, e2, Res.to_ok]
  simp -implicitDefEqProofs only [eE_var, eE_k, List.getElem?_cons_succ, List.getElem?_cons_zero, Res.to_ok]
  rw [e3]
  simp
end Dg
end

section
set_option Elab.async false
set_option linter.all false
set_option maxRecDepth 100000
set_option maxHeartbeats 1000000
namespace Dg
open PySem L2
/-! ways of a function -/
def it (F : Nat → Nat) : Nat → Nat → Nat
  | 0, a => a
  | k + 1, a => F (it F k a)
theorem it_add {F : Nat → Nat} : ∀ {i j a : Nat}, it F (i + j) a = it F i (it F j a)
  | 0, j, a => by rw [Nat.zero_add]; rfl
  | i + 1, j, a => by
    rw [Nat.add_right_comm]
    show F (it F (i + j) a) = F (it F i (it F j a))
    rw [it_add]
theorem it_lt {F : Nat → Nat} {N : Nat} (hF : ∀ s < N, F s < N) : ∀ {k a : Nat}, a < N → it F k a < N
  | 0, a, h => h
  | k + 1, a, h => hF _ (it_lt hF h)
/-- on a ring of at most M -/
def Rg (F : Nat → Nat) (a : Nat) : Prop := ∃ d, 1 ≤ d ∧ it F d a = a
theorem Rg.mul {F : Nat → Nat} {a d : Nat} (h : it F d a = a) : ∀ m, it F (m * d) a = a
  | 0 => by rw [Nat.zero_mul]; rfl
  | m + 1 => by rw [Nat.succ_mul, it_add, h, Rg.mul h m]
/-- ahead on a ring one comes back -/
theorem Rg.back {F : Nat → Nat} {a : Nat} (h : Rg F a) (i : Nat) : ∃ j, it F j (it F i a) = a := by
  obtain ⟨d, h1, h2⟩ := h
  refine ⟨i * d - i, ?_⟩
  rw [← it_add, show i * d - i + i = i * d by
    have : i * 1 ≤ i * d := Nat.mul_le_mul_left i h1
    omega]
  exact Rg.mul h2 i
/-- the least one of those ahead -/
def Mn (F : Nat → Nat) (a m : Nat) : Prop := (∃ t, it F t a = m) ∧ ∀ t, m ≤ it F t a
theorem Mn.uniq {F : Nat → Nat} {a m m' : Nat} (h : Mn F a m) (h' : Mn F a m') : m = m' := by
  obtain ⟨⟨t, ht⟩, h2⟩ := h
  obtain ⟨⟨t', ht'⟩, h2'⟩ := h'
  have q1 := h2 t'
  have q2 := h2' t
  omega
theorem Mn.ahead {F : Nat → Nat} {a m i : Nat} (hr : Rg F a) (h : Mn F a m) : Mn F (it F i a) m := by
  obtain ⟨⟨t, ht⟩, h2⟩ := h
  obtain ⟨j, hj⟩ := hr.back i
  refine ⟨⟨t + j, by rw [it_add, hj, ht]⟩, fun s => ?_⟩
  rw [← it_add]; exact h2 _
/-- the told let of a state -/
def TV (F : Nat → Nat) (lets : List Bool) (s : Nat) (v : Bool) : Prop := ∃ i m, Rg F (it F i s) ∧ Mn F (it F i s) m ∧ lets[m]? = some v
theorem TV.next {F : Nat → Nat} {lets : List Bool} {s : Nat} {v v' : Bool} (h : TV F lets s v) (h' : TV F lets (F s) v') : v = v' := by
  obtain ⟨i, m, hr, hm, hv⟩ := h
  obtain ⟨j, m', hr', hm', hv'⟩ := h'
  have e : it F j (F s) = it F (j + 1) s := by rw [it_add]; rfl
  rw [e] at hr' hm'
  have : m = m' := by
    rcases Nat.le_total i (j + 1) with h | h
    · have z := hm.ahead (i := j + 1 - i) hr
      rw [← it_add, Nat.sub_add_cancel h] at z
      exact z.uniq hm'
    · have z := hm'.ahead (i := i - (j + 1)) hr'
      rw [← it_add, Nat.sub_add_cancel h] at z
      exact hm.uniq z
  subst this
  rw [hv] at hv'; cases hv'; rfl
/-! dicts by numbers -/
theorem lookK_app {κ : Type} [DecidableEq κ] {k : κ} {v : PV} {k' : κ} : ∀ {kvs : List (κ × PV)}, lookK k' (kvs ++ [(k, v)]) = match lookK k' kvs with
    | some x => some x
    | none => if k = k' then some v else none
  | [] => by simp [lookK]
  | (a, x) :: r => by
    rw [List.cons_append, lookK, lookK]
    split
    · rfl
    · exact lookK_app
theorem lookK_any {κ : Type} [DecidableEq κ] {k : κ} : ∀ {kvs : List (κ × PV)}, (kvs.any fun kv => decide (kv.1 = k)) = (lookK k kvs).isSome
  | [] => rfl
  | (a, x) :: r => by
    rw [List.any_cons, lookK]
    by_cases h : a = k
    · simp [h]
    · simp [h, lookK_any]
def has (kvs : List (Key × PV)) (a : Nat) : Bool := (lookK (.inl (a : Int)) kvs).isSome
theorem put_fresh {kvs : List (Key × PV)} {a : Nat} {v : PV} (h : has kvs a = false) : putK (.inl (a : Int)) v kvs = kvs ++ [(.inl (a : Int), v)] := by
  unfold putK
  rw [if_neg]
  rw [lookK_any]
  unfold has at h
  rw [h]; decide
theorem has_app {kvs : List (Key × PV)} {a b : Nat} {v : PV} : has (kvs ++ [(.inl (a : Int), v)]) b = (has kvs b || decide (a = b)) := by
  unfold has
  rw [lookK_app]
  cases lookK (.inl (b : Int)) kvs with
  | some x => simp
  | none =>
    by_cases h : a = b
    · subst h; simp
    · have : ¬ ((Sum.inl (a : Int) : Key) = Sum.inl (b : Int)) := by
        intro z
        have := Sum.inl.inj z
        omega
      simp [h, this]
theorem filter_lt {α : Type} {p q : α → Bool} {a : α} : ∀ {l : List α}, (∀ x, q x = true → p x = true) → a ∈ l → p a = true → q a = false → (l.filter q).length < (l.filter p).length
  | [], _, h, _, _ => by simp at h
  | x :: l, hi, h, hp, hq => by
    have hle : ∀ {l : List α}, (l.filter q).length ≤ (l.filter p).length := by
      intro l
      induction l with
      | nil => simp
      | cons y l ih =>
        rw [List.filter_cons, List.filter_cons]
        cases e : q y with
        | true => rw [hi y e]; simpa using ih
        | false =>
          cases p y with
          | true => simp; omega
          | false => simpa using ih
    rw [List.filter_cons, List.filter_cons]
    rcases List.mem_cons.mp h with rfl | h
    · rw [hp, hq]
      simp
      have := hle (l := l)
      omega
    · have ih := filter_lt (l := l) hi h hp hq
      cases e : q x with
      | true => rw [hi x e]; simpa using ih
      | false =>
        cases p x with
        | true => simp; omega
        | false => simpa using ih
/-- how many are not in -/
def mu (N : Nat) (kvs : List (Key × PV)) : Nat := ((List.range N).filter fun x => !has kvs x).length
theorem mu_app {N a : Nat} {kvs : List (Key × PV)} {v : PV} (ha : a < N) (h : has kvs a = false) : mu N (kvs ++ [(.inl (a : Int), v)]) < mu N kvs := by
  unfold mu
  refine filter_lt (a := a) (fun x => ?_) (by simpa using ha) (by simp [h]) (by simp [has_app])
  rw [has_app]
  cases has kvs x <;> simp
theorem nin_dct {S : Store} {n a : Nat} {kvs : List (Key × PV)} (h : S[n]? = some (.dct kvs)) : op2 .nin (.int (a : Int)) (.ref n) S = .ok (.bl (!has kvs a)) S := by
  show (match S[n]? with
    | some (.dct kvs) => (match keyP (.int (a : Int)) with
      | some k => okB (if true then !(lookK k kvs).isSome else (lookK k kvs).isSome) S
      | none => (.bad : Res PV))
    | some (.lst xs) => _
    | _ => (.bad : Res PV)) = _
  rw [h]
  rfl
theorem setP_dct {S : Store} {n a : Nat} {x : PV} {kvs : List (Key × PV)} (h : S[n]? = some (.dct kvs)) (hl : kvs.length < 16777216) : setP (.ref n) (.int (a : Int)) x S = some (S.set n (.dct (putK (.inl (a : Int)) x kvs))) := by
  show (match S[n]? with
    | some (.lst xs) => (match (PV.int (a : Int)) with
      | .int i => (match ixN xs.length i with
        | some j => some (S.set n (.lst (xs.set j x)))
        | none => none)
      | _ => none)
    | some (.dct kvs) => (match keyP (.int (a : Int)) with
      | some k => if kvs.length < sizeLine then some (S.set n (.dct (putK k x kvs))) else none
      | none => none)
    | _ => none) = _
  rw [h]
  dsimp only [keyP]
  rw [if_pos (show kvs.length < sizeLine from hl)]
theorem len_dct {S : Store} {n : Nat} {kvs : List (Key × PV)} (h : S[n]? = some (.dct kvs)) : opn .len [.ref n] S = .ok (.int kvs.length) S := by
  show (match S[n]? with
    | some (.lst xs) => Res.ok (PV.int xs.length) S
    | some (.dct xs) => .ok (.int xs.length) S
    | _ => (.bad : Res PV)) = _
  rw [h]
theorem minL_mem : ∀ (is : List Int) (i : Int), minL i is ∈ i :: is
  | [], i => by simp [minL]
  | x :: xs, i => by
    rw [minL]
    have := minL_mem xs (if x < i then x else i)
    rcases List.mem_cons.mp this with h | h
    · rw [h]; split <;> simp
    · simp [h]
theorem minL_le : ∀ (is : List Int) (i : Int), ∀ y ∈ i :: is, minL i is ≤ y
  | [], i, y, h => by simp at h; subst h; simp [minL]
  | x :: xs, i, y, h => by
    rw [minL]
    have ih := minL_le xs (if x < i then x else i)
    have i1 := ih _ (List.mem_cons_self ..)
    generalize minL (if x < i then x else i) xs = q at *
    have i2 : q ≤ x ∧ q ≤ i := by split at i1 <;> omega
    rcases List.mem_cons.mp h with rfl | h
    · exact i2.2
    · rcases List.mem_cons.mp h with rfl | h
      · exact i2.1
      · exact ih y (List.mem_cons_of_mem _ h)
theorem min_ref {S : Store} {n : Nat} {i : Int} {is : List Int} (h : S[n]? = some (.lst ((i :: is).map PV.int))) : opn .min1 [.ref n] S = .ok (.int (minL i is)) S := by
  have e : lstOf (.ref n) S = some ((i :: is).map PV.int) := by
    show (match S[n]? with
      | some (.lst xs) => some xs
      | _ => none) = _
    rw [h]
  show (match (lstOf (.ref n) S).bind (allOf isIn) with
    | some (i :: is) => Res.ok (PV.int (minL i is)) S
    | _ => (.bad : Res PV)) = _
  rw [e, Option.bind_some, allOf_map (f := isIn) (g := PV.int) (h := id) (fun _ => rfl), List.map_id]
end Dg
end

section
set_option Elab.async false
set_option linter.all false
set_option maxRecDepth 100000
set_option maxHeartbeats 1000000
namespace Dg
open PySem L2
def rowL (row : List Int) : PV := .lst (row.map PV.int)
/-- the rows of a drawn reader, and the way that noughts lead -/
structure RW (N : Nat) (F : Nat → Nat) (rows : List (List Int)) : Prop where
  n : rows.length = N
  small : N ≤ 1000
  f : ∀ s < N, F s < N
  row : ∀ s < N, ∃ rest, rows[s]? = some ((F s : Int) :: rest)
abbrev nextE (v : Nat) : ME := (.bin .ix (.bin .ix (.var 2) (.var v)) (.k (.int (0))))
theorem next_ok {C : Cxt} {N v s j : Nat} {F : Nat → Nat} {rows : List (List Int)} {r : PEnv} {T : Store} (h : RW N F rows) (hT : T[j]? = some (.lst (rows.map rowL))) (r2 : r[2]? = some (some (.ref j))) (rv : r[v]? = some (some (.int (s : Int)))) (hs : s < N) : evalE C (nextE v) r T = .ok (.int (F s : Int)) T := by
  obtain ⟨rest, hr⟩ := h.row s hs
  have e1 : op2 .ix (.ref j) (.int (s : Int)) T = .ok (rowL ((F s : Int) :: rest)) T := ix_ref hT (by simp [hr])
  have e2 : op2 .ix (rowL ((F s : Int) :: rest)) (.int 0) T = .ok (.int (F s : Int)) T := by
    unfold rowL
    rw [List.map_cons]; exact ix0_lst
  unfold nextE
  simp -implicitDefEqProofs [r2, rv, e1, e2]
abbrev while1 : MSs := (.cons (.setix (.var 7) (.var 6) (.bi .len (.cons (.var 7) .nil))) (.cons (.asg (.name 6) (nextE 6)) .nil))
abbrev pEnv (a b : PV) (j : Nat) (l : PV) (t : Nat) (st : PV) (v6 v7 v8 v9 v10 v11 : Option PV) : PEnv := [some a, some b, some (.ref j), some l, some (.ref t), some st, v6, v7, v8, v9, v10, v11]
theorem while1_ok {C : Cxt} {N j t : Nat} {F : Nat → Nat} {rows : List (List Int)} {a b l st : PV} {v8 v9 v10 v11 : Option PV} {T : Store} (h : RW N F rows) (hT : T[j]? = some (.lst (rows.map rowL))) :
    ∀ (M : Nat) (kvs : List (Key × PV)) (s : Nat), mu N kvs < M → s < N → kvs.length + mu N kvs ≤ N → (∀ x, has kvs x = true → ∃ d, 1 ≤ d ∧ d ≤ kvs.length ∧ it F d x = s) →
      ∃ i d kvs', 1 ≤ d ∧ d ≤ N ∧ it F d (it F i s) = it F i s ∧ whileN (fun r2 S2 => evalT C (.bin .nin (.var 6) (.var 7)) r2 S2) (fun r2 S2 => evalSs C while1 r2 S2) M (pEnv a b j l t st (some (.int (s : Int))) (some (.ref T.length)) v8 v9 v10 v11) (T ++ [.dct kvs]) = .nx (pEnv a b j l t st (some (.int (it F i s : Int))) (some (.ref T.length)) v8 v9 v10 v11) (T ++ [.dct kvs'])
  | 0, _, _, hM, _, _, _ => absurd hM (by omega)
  | M + 1, kvs, s, hM, hs, hc, hk => by
    have hd : (T ++ [MO.dct kvs])[T.length]? = some (.dct kvs) := get_end
    have e0 : evalT C (.bin .nin (.var 6) (.var 7)) (pEnv a b j l t st (some (.int (s : Int))) (some (.ref T.length)) v8 v9 v10 v11) (T ++ [.dct kvs]) = .ok (!has kvs s) (T ++ [.dct kvs]) := by
      have e := nin_dct (a := s) hd
      generalize T ++ [MO.dct kvs] = U at *
      simp -implicitDefEqProofs [e]
    cases q : has kvs s with
    | true =>
      obtain ⟨d, d1, d2, d3⟩ := hk s q
      refine ⟨0, d, kvs, d1, by omega, d3, ?_⟩
      unfold whileN
      rw [e0, q]
      rfl
    | false =>
      have hx : putK (.inl (s : Int)) (.int kvs.length) kvs = kvs ++ [(.inl (s : Int), .int kvs.length)] := put_fresh q
      have hm := mu_app (v := .int kvs.length) hs q
      have hsm := h.small
      obtain ⟨i, d, kvs', d1, d2, d3, ih⟩ := while1_ok (C := C) (a := a) (b := b) (l := l) (t := t) (st := st) (v8 := v8) (v9 := v9) (v10 := v10) (v11 := v11) h hT M (kvs ++ [(.inl (s : Int), .int kvs.length)]) (F s) (by omega) (h.f s hs) (by
          rw [List.length_append, List.length_singleton]; omega) (fun x hx => by
        rw [has_app, Bool.or_eq_true] at hx
        rw [List.length_append, List.length_singleton]
        rcases hx with hx | hx
        · obtain ⟨d, d1, d2, d3⟩ := hk x hx
          exact ⟨d + 1, by omega, by omega, by show F (it F d x) = _; rw [d3]⟩
        · have : s = x := of_decide_eq_true hx
          subst this
          exact ⟨1, by omega, by omega, rfl⟩)
      have eF : it F i (F s) = it F (i + 1) s := by rw [it_add]; rfl
      rw [eF] at d3 ih
      refine ⟨i + 1, d, kvs', d1, d2, d3, ?_⟩
      have eb : evalSs C while1 (pEnv a b j l t st (some (.int (s : Int))) (some (.ref T.length)) v8 v9 v10 v11) (T ++ [.dct kvs]) = .nx (pEnv a b j l t st (some (.int (F s : Int))) (some (.ref T.length)) v8 v9 v10 v11) (T ++ [.dct (kvs ++ [(.inl (s : Int), .int kvs.length)])]) := by
        have e1 := len_dct hd
        have e2 := setP_dct (a := s) (x := .int kvs.length) hd (by omega)
        rw [hx, set_end] at e2
        have e3 := next_ok (C := C) (v := 6) (s := s) (j := j) (r := pEnv a b j l t st (some (.int (s : Int))) (some (.ref T.length)) v8 v9 v10 v11) (T := T ++ [.dct (kvs ++ [(.inl (s : Int), .int kvs.length)])]) h (by
          rw [List.getElem?_append_left (List.getElem?_eq_some_iff.mp hT).1]; exact hT) rfl rfl hs
        unfold while1
        rw [eSs_cons, eS_setix]
        generalize T ++ [MO.dct kvs] = U at *
        generalize T ++ [MO.dct (kvs ++ [(.inl (s : Int), .int kvs.length)])] = W at *
        generalize nextE 6 = ne at *
        simp -implicitDefEqProofs [e1, e2, e3, bindT]
      unfold whileN
      rw [e0, q]
      simp only [Bool.not_false, Res.to_ok, if_true]
      rw [eb]
      exact ih
abbrev while2 : MSs := (.cons (.ex (.app 8 (.var 9))) (.cons (.asg (.name 9) (nextE 9)) .nil))
theorem while2_ok {C : Cxt} {N j t c : Nat} {F : Nat → Nat} {rows : List (List Int)} {a b l st v7 : PV} {v10 v11 : Option PV} {T : Store} (h : RW N F rows) (hT : T[j]? = some (.lst (rows.map rowL))) (hc : c < N) {d : Nat} (hd : d ≤ N) (hdc : it F d c = c) :
    ∀ (M q : Nat), d - q < M → 1 ≤ q → q ≤ d →
      ∃ q', 1 ≤ q' ∧ it F q' c = c ∧ whileN (fun r2 S2 => evalT C (.bin .ne (.var 9) (.var 6)) r2 S2) (fun r2 S2 => evalSs C while2 r2 S2) M (pEnv a b j l t st (some (.int (c : Int))) (some v7) (some (.ref T.length)) (some (.int (it F q c : Int))) v10 v11) (T ++ [.lst (((List.range q).map fun i => (it F i c : Int)).map PV.int)]) = .nx (pEnv a b j l t st (some (.int (c : Int))) (some v7) (some (.ref T.length)) (some (.int (c : Int))) v10 v11) (T ++ [.lst (((List.range q').map fun i => (it F i c : Int)).map PV.int)])
  | 0, _, hM, _, _ => absurd hM (by omega)
  | M + 1, q, hM, h1, h2 => by
    have hsm := h.small
    have e0 : ∀ U, evalT C (.bin .ne (.var 9) (.var 6)) (pEnv a b j l t st (some (.int (c : Int))) (some v7) (some (.ref T.length)) (some (.int (it F q c : Int))) v10 v11) U = .ok (!((it F q c : Int) == (c : Int))) U := by
      intro U
      simp -implicitDefEqProofs
    by_cases z : it F q c = c
    · refine ⟨q, h1, z, ?_⟩
      unfold whileN
      rw [e0, z]
      simp
    · have hq : q < d := by
        rcases Nat.lt_or_ge q d with w | w
        · exact w
        · have : q = d := by omega
          subst this; exact absurd hdc z
      obtain ⟨q', p1, p2, ih⟩ := while2_ok (C := C) (a := a) (b := b) (l := l) (t := t) (st := st) (v7 := v7) (v10 := v10) (v11 := v11) h hT hc hd hdc M (q + 1) (by omega) (by omega) (by omega)
      refine ⟨q', p1, p2, ?_⟩
      have hlt := it_lt h.f (k := q) hc
      have hl : (T ++ [MO.lst (((List.range q).map fun i => (it F i c : Int)).map PV.int)])[T.length]? = some (.lst (((List.range q).map fun i => (it F i c : Int)).map PV.int)) := get_end
      have eb : evalSs C while2 (pEnv a b j l t st (some (.int (c : Int))) (some v7) (some (.ref T.length)) (some (.int (it F q c : Int))) v10 v11) (T ++ [.lst (((List.range q).map fun i => (it F i c : Int)).map PV.int)]) = .nx (pEnv a b j l t st (some (.int (c : Int))) (some v7) (some (.ref T.length)) (some (.int (it F (q + 1) c : Int))) v10 v11) (T ++ [.lst (((List.range (q + 1)).map fun i => (it F i c : Int)).map PV.int)]) := by
        have e1 := app_ok (C := C) (i := 8) (n := T.length) (e := .var 9) (r := pEnv a b j l t st (some (.int (c : Int))) (some v7) (some (.ref T.length)) (some (.int (it F q c : Int))) v10 v11) (x := .int (it F q c : Int)) rfl hl (by simp) (by simp; omega)
        have er : (((List.range q).map fun i => (it F i c : Int)).map PV.int) ++ [.int (it F q c : Int)] = (((List.range (q + 1)).map fun i => (it F i c : Int)).map PV.int) := by
          rw [List.range_succ]; simp
        rw [er, set_end] at e1
        have e3 := next_ok (C := C) (v := 9) (s := it F q c) (j := j) (r := pEnv a b j l t st (some (.int (c : Int))) (some v7) (some (.ref T.length)) (some (.int (it F q c : Int))) v10 v11) (T := T ++ [.lst (((List.range (q + 1)).map fun i => (it F i c : Int)).map PV.int)]) h (by
          rw [List.getElem?_append_left (List.getElem?_eq_some_iff.mp hT).1]; exact hT) rfl rfl hlt
        unfold while2
        rw [eSs_cons, e1, SRes.seq_nx]
        generalize T ++ [MO.lst (((List.range (q + 1)).map fun i => (it F i c : Int)).map PV.int)] = W at *
        generalize nextE 9 = ne at *
        rw [eSs_cons, eS_asg, e3]
        simp -implicitDefEqProofs [bindT]
        rfl
      unfold whileN
      rw [e0, show ((it F q c : Int) == (c : Int)) = false by
        have z2 : ¬ ((it F q c : Int) = (c : Int)) := by omega
        simpa using z2]
      simp only [Bool.not_false, Res.to_ok, if_true]
      rw [eb]
      exact ih
end Dg
end

section
set_option Elab.async false
set_option linter.all false
set_option maxRecDepth 100000
set_option maxHeartbeats 1000000
namespace Dg
open PySem L2
abbrev proofBody : MSs := (.cons (.asg (.tup [6, 7]) (.tup (.cons (.var 5) (.cons (.dctR [] .nil) .nil)))) (.cons (.whileS (.bin .nin (.var 6) (.var 7)) while1) (.cons (.asg (.tup [8, 9]) (.tup (.cons (.lstR (.cons (.var 6) .nil)) (.cons (nextE 6) .nil)))) (.cons (.whileS (.bin .ne (.var 9) (.var 6)) while2) (.cons (.ex (.app 4 (.bin .ix (.var 3) (.bi .min1 (.cons (.var 8) .nil))))) .nil)))))
theorem proof_body {C : Cxt} {N j t s : Nat} {F : Nat → Nat} {rows : List (List Int)} {lets : List Bool} {told : List PV} {a b : PV} {v6 v7 v8 v9 v10 v11 : Option PV} {U : Store} (h : RW N F rows) (hj : U[j]? = some (.lst (rows.map rowL))) (ht : U[t]? = some (.lst told)) (hl : told.length < 16777216) (hlets : lets.length = N) (hs : s < N) :
    ∃ v x6 x7 x8 x9 Y, TV F lets s v ∧ evalSs C proofBody (pEnv a b j (.lst (lets.map PV.bl)) t (.int (s : Int)) v6 v7 v8 v9 v10 v11) U = .nx (pEnv a b j (.lst (lets.map PV.bl)) t (.int (s : Int)) x6 x7 x8 x9 v10 v11) (U.set t (.lst (told ++ [.bl v])) ++ Y) := by
  have hsm := h.small
  obtain ⟨i, d, kvs', d1, d2, d3, w1⟩ := while1_ok (C := C) (a := a) (b := b) (l := .lst (lets.map PV.bl)) (t := t) (st := .int (s : Int)) (v8 := v8) (v9 := v9) (v10 := v10) (v11 := v11) h hj (mu N [] + 1) [] s (by omega) hs (by
    have : mu N [] ≤ N := by
      unfold mu
      have := List.length_filter_le (fun x => !has [] x) (List.range N)
      simpa using this
    simpa using this) (fun x hx => by simp [has, lookK] at hx)
  generalize hcd : it F i s = c at *
  have hc : c < N := by rw [← hcd]; exact it_lt h.f hs
  have hj2 : (U ++ [MO.dct kvs'])[j]? = some (.lst (rows.map rowL)) := by
    rw [List.getElem?_append_left (List.getElem?_eq_some_iff.mp hj).1]; exact hj
  obtain ⟨q, q1, q2, w2⟩ := while2_ok (C := C) (a := a) (b := b) (l := .lst (lets.map PV.bl)) (t := t) (st := .int (s : Int)) (v7 := .ref U.length) (v10 := v10) (v11 := v11) h hj2 hc d2 d3 (d + 1) 1 (by omega) (by omega) (by omega)
  -- the ring's least
  obtain ⟨is, his⟩ : ∃ is : List Int, (List.range q).map (fun i => (it F i c : Int)) = (c : Int) :: is := by
    obtain ⟨q', rfl⟩ : ∃ q', q = q' + 1 := ⟨q - 1, by omega⟩
    rw [List.range_succ_eq_map, List.map_cons]
    exact ⟨_, rfl⟩
  have hmem := minL_mem is (c : Int)
  have hle := minL_le is (c : Int)
  rw [← his] at hmem hle
  obtain ⟨x, hx, hx2⟩ := List.mem_map.mp hmem
  have hxN := it_lt h.f (k := x) hc
  have hMn : Mn F c (it F x c) := by
    refine ⟨⟨x, rfl⟩, fun u => ?_⟩
    have hu : it F u c = it F (u % q) c := by
      have e : u = u % q + u / q * q := by
        have := Nat.mod_add_div u q
        rw [Nat.mul_comm (u / q) q]
        omega
      rw [e, it_add, Rg.mul q2]
      rw [Nat.add_mul_mod_self_right, Nat.mod_mod]
    have := hle (it F (u % q) c : Int) (List.mem_map.mpr ⟨u % q, by simpa using Nat.mod_lt _ q1, rfl⟩)
    rw [← hx2] at this
    rw [hu]; omega
  have hv : lets[it F x c]? = some (lets[it F x c]'(by omega)) := by simp [hlets, hxN]
  generalize hvd : lets[it F x c]'(by omega) = v at hv
  refine ⟨v, some (.int (c : Int)), some (.ref U.length), some (.ref (U ++ [MO.dct kvs']).length), some (.int (c : Int)), [.dct kvs', .lst (((List.range q).map fun i => (it F i c : Int)).map PV.int)], ⟨i, it F x c, by rw [hcd]; exact ⟨d, d1, d3⟩, by rw [hcd]; exact hMn, hv⟩, ?_⟩
  -- the walk
  have s1 : evalS C (.asg (.tup [6, 7]) (.tup (.cons (.var 5) (.cons (.dctR [] .nil) .nil)))) (pEnv a b j (.lst (lets.map PV.bl)) t (.int (s : Int)) v6 v7 v8 v9 v10 v11) U = .nx (pEnv a b j (.lst (lets.map PV.bl)) t (.int (s : Int)) (some (.int (s : Int))) (some (.ref U.length)) v8 v9 v10 v11) (U ++ [.dct []]) := by
    simp [bindT, sizeLine]
  rw [eSs_cons, s1, SRes.seq_nx, eSs_cons, eS_while, whileR_eq w1 (by simp), SRes.seq_nx]
  have e3 := next_ok (C := C) (v := 6) (s := c) (j := j) (r := pEnv a b j (.lst (lets.map PV.bl)) t (.int (s : Int)) (some (.int (c : Int))) (some (.ref U.length)) v8 v9 v10 v11) (T := (U ++ [MO.dct kvs']) ++ [.lst [.int (c : Int)]]) h (by
    rw [List.getElem?_append_left (List.getElem?_eq_some_iff.mp hj2).1]; exact hj2) rfl rfl hc
  have s3 : evalS C (.asg (.tup [8, 9]) (.tup (.cons (.lstR (.cons (.var 6) .nil)) (.cons (nextE 6) .nil)))) (pEnv a b j (.lst (lets.map PV.bl)) t (.int (s : Int)) (some (.int (c : Int))) (some (.ref U.length)) v8 v9 v10 v11) (U ++ [.dct kvs']) = .nx (pEnv a b j (.lst (lets.map PV.bl)) t (.int (s : Int)) (some (.int (c : Int))) (some (.ref U.length)) (some (.ref (U ++ [MO.dct kvs']).length)) (some (.int (F c : Int))) v10 v11) ((U ++ [.dct kvs']) ++ [.lst [.int (c : Int)]]) := by
    generalize nextE 6 = ne at *
    generalize U ++ [MO.dct kvs'] = W at *
    simp -implicitDefEqProofs [bindT, sizeLine, e3]
  rw [eSs_cons, s3, SRes.seq_nx]
  have w2' : whileN (fun r2 S2 => evalT C (.bin .ne (.var 9) (.var 6)) r2 S2) (fun r2 S2 => evalSs C while2 r2 S2) (d + 1) (pEnv a b j (.lst (lets.map PV.bl)) t (.int (s : Int)) (some (.int (c : Int))) (some (.ref U.length)) (some (.ref (U ++ [MO.dct kvs']).length)) (some (.int (F c : Int))) v10 v11) ((U ++ [.dct kvs']) ++ [.lst [.int (c : Int)]]) = _ := w2
  rw [eSs_cons, eS_while, whileR_eq w2' (by simp), SRes.seq_nx]
  have h8 : ((U ++ [MO.dct kvs']) ++ [MO.lst (((List.range q).map fun i => (it F i c : Int)).map PV.int)])[(U ++ [MO.dct kvs']).length]? = some (.lst (((c : Int) :: is).map PV.int)) := by
    rw [get_end, his]
  have e5 := min_ref h8
  have e6 : ∀ Z, op2 .ix (.lst (lets.map PV.bl)) (.int (minL (c : Int) is)) Z = .ok (.bl v) Z := by
    intro Z
    rw [← hx2]
    exact ix_lst (by simp [hv])
  have ht3 : ((U ++ [MO.dct kvs']) ++ [MO.lst (((List.range q).map fun i => (it F i c : Int)).map PV.int)])[t]? = some (.lst told) := by
    rw [List.append_assoc, List.getElem?_append_left (List.getElem?_eq_some_iff.mp ht).1]; exact ht
  have e7 := app_ok (C := C) (i := 4) (n := t) (e := (.bin .ix (.var 3) (.bi .min1 (.cons (.var 8) .nil)))) (r := pEnv a b j (.lst (lets.map PV.bl)) t (.int (s : Int)) (some (.int (c : Int))) (some (.ref U.length)) (some (.ref (U ++ [MO.dct kvs']).length)) (some (.int (c : Int))) v10 v11) (x := .bl v) rfl ht3 (by
    clear ht3 h8 w2' w2 s3 e3
    generalize (U ++ [MO.dct kvs']) ++ [MO.lst (((List.range q).map fun i => (it F i c : Int)).map PV.int)] = W at *
    generalize (U ++ [MO.dct kvs']).length = z at *
    simp -implicitDefEqProofs [e5, e6]) hl
  have hset : ((U ++ [MO.dct kvs']) ++ [MO.lst (((List.range q).map fun i => (it F i c : Int)).map PV.int)]).set t (.lst (told ++ [.bl v])) = U.set t (.lst (told ++ [.bl v])) ++ [.dct kvs', .lst (((List.range q).map fun i => (it F i c : Int)).map PV.int)] := by
    rw [List.append_assoc, List.set_append_left _ _ (List.getElem?_eq_some_iff.mp ht).1]; rfl
  rw [eSs_cons, e7, SRes.seq_nx, hset, eSs_nil]
theorem zeros_of {N : Nat} {F : Nat → Nat} {rows : List (List Int)} {lets told : List Bool} (h : RW N F rows) (hl : told.length = N) (ht : ∀ s (hs : s < told.length), TV F lets s told[s]) : zerosB rows told = true := by
  unfold zerosB
  rw [List.all_eq_true]
  intro p hp
  have hp' : p < N := by rw [← h.n]; simpa using hp
  obtain ⟨rest, hr⟩ := h.row p hp'
  unfold zeroAt
  have e : (rows.getD p []).headD 0 = (F p : Int) := by simp [hr]
  rw [e, Int.toNat_natCast]
  have h1 := ht p (by omega)
  have h2 := ht (F p) (by have := h.f p hp'; omega)
  have e1 : told.getD p false = told[p]'(by omega) := by simp [hl, hp']
  have e2 : told.getD (F p) false = told[F p]'(by have := h.f p hp'; omega) := by
    have := h.f p hp'
    simp [hl, this]
  rw [e1, e2, h1.next h2]
  simp
theorem comp_G {C : Cxt} {own : List Nat} {t : TGT} {itt : IT} {e : ME} {r : PEnv} {α : Type} {as : List α} {g h : α → PV} {S : Store} {gd : Option (Nat × List PV)} (hg : Grd gd S) (hi : evalI C itt r S = .ok (as.map g, gd) S) (hl : as.length < sizeLine) (hx : ∀ a ∈ as, turnF C own t .none e r (g a) S = .ok (some (h a)) S) : evalE C (.comp false own t itt .none e) r S = .ok (.lst (as.map h)) S := by
  rw [eE_comp, hi, Res.bind_ok]
  dsimp only
  have hA : ∀ {as : List α}, (∀ a ∈ as, turnF C own t .none e r (g a) S = .ok (some (h a)) S) → compL (turnF C own t .none e r) gd (as.map g) S = .ok (as.map h) S := by
    intro as
    induction as with
    | nil => intro _; unfold compL; rfl
    | cons a as ih =>
      intro hh
      rw [List.map_cons]
      unfold compL
      rw [hh a (List.mem_cons_self ..), Res.bind_ok, if_pos hg, ih fun y hy => hh y (List.mem_cons_of_mem _ hy), Res.bind_ok]
      rfl
  rw [if_pos (by simpa using hl), hA hx, Res.bind_ok, if_neg Bool.false_ne_true]
theorem law_proof_ok {k N j : Nat} {F : Nat → Nat} {rows : List (List Int)} {lets : List Bool} {a b : Int} {S : Store} (hS : Wf S) (h : RW N F rows) (hj : S[j]? = some (.lst (rows.map rowL))) (hlets : lets.length = N) :
    ∃ told : List Bool, told.length = N ∧ zerosB rows told = true ∧ GG (k + 1) 20 [.int a, .int b, .ref j, .lst (lets.map PV.bl)] S = .ok (rdP (.int a) (.int b) rows told) S := by
  have hsm := h.small
  have hjl := (List.getElem?_eq_some_iff.mp hj).1
  have key : ∃ (told : List Bool) (Y : Store), told.length = N ∧ (∀ s (hs : s < told.length), TV F lets s told[s]) ∧ evalSs (CC k) m__law_proof [some (.int a), some (.int b), some (.ref j), some (.lst (lets.map PV.bl)), none, none, none, none, none, none, none, none] S = .ret (rdP (.int a) (.int b) rows told) (S ++ Y) := by
    unfold m__law_proof
    have s0 : evalS (CC k) (.asg (.name 4) (.lstR .nil)) [some (.int a), some (.int b), some (.ref j), some (.lst (lets.map PV.bl)), none, none, none, none, none, none, none, none] S = .nx [some (.int a), some (.int b), some (.ref j), some (.lst (lets.map PV.bl)), some (.ref S.length), none, none, none, none, none, none, none] (S ++ [.lst []]) := by
      simp [bindT, sizeLine]
    rw [eSs_cons, s0, SRes.seq_nx]
    have hl := forL_k (t := .name 5) (g := none) (f := fun r2 S2 => evalSs (CC k) proofBody r2 S2) (xs := (List.range N).map fun (k : Nat) => .int (k : Int)) (r := [some (.int a), some (.int b), some (.ref j), some (.lst (lets.map PV.bl)), some (.ref S.length), none, none, none, none, none, none, none]) (S := S ++ [.lst []])
      (fun n r S' => ∃ (told : List Bool) (Y : Store) (v5 v6 v7 v8 v9 : Option PV), told.length = n ∧ (∀ s (hs : s < told.length), TV F lets s told[s]) ∧ S' = S ++ .lst (told.map PV.bl) :: Y ∧ r = [some (.int a), some (.int b), some (.ref j), some (.lst (lets.map PV.bl)), some (.ref S.length), v5, v6, v7, v8, v9, none, none]) (fun _ _ => False)
      (fun n hn r S' hI => by
        obtain ⟨told, Y, v5, v6, v7, v8, v9, h1, h2, rfl, rfl⟩ := hI
        have hn' : n < N := by simpa using hn
        obtain ⟨v, x6, x7, x8, x9, Y2, hv, hb⟩ := proof_body (C := CC k) (s := n) (j := j) (t := S.length) (told := told.map PV.bl) (a := .int a) (b := .int b) (v6 := v6) (v7 := v7) (v8 := v8) (v9 := v9) (v10 := none) (v11 := none) (U := S ++ .lst (told.map PV.bl) :: Y) h (by
          rw [List.getElem?_append_left hjl]; exact hj) (by simp) (by simp; omega) hlets hn'
        refine ⟨_, by simp only [List.getElem_map, List.getElem_range, bindT, List.set], .inl ⟨_, _, .inl hb, trivial, told ++ [v], Y ++ Y2, _, _, _, _, _, by simp [h1], ?_, ?_, rfl⟩⟩
        · intro s hs
          rw [List.length_append, List.length_singleton] at hs
          rcases Nat.lt_or_ge s told.length with w | w
          · rw [List.getElem_append_left w]; exact h2 s w
          · have e : s = n := by omega
            subst e
            rw [List.getElem_append_right (by omega)]
            simpa using hv
        · rw [List.set_append_right _ _ (Nat.le_refl _), Nat.sub_self, List.set_cons_zero, List.map_append, List.append_assoc]
          rfl) ⟨[], [], none, none, none, none, none, rfl, fun s hs => absurd hs (by simp), rfl, rfl⟩
    rcases hl with ⟨r', S', e, told, Y, v5, v6, v7, v8, v9, h1, h2, rfl, rfl⟩ | ⟨_, _, _, h⟩
    · have hj2 : (S ++ [MO.lst []])[j]? = some (.lst (rows.map rowL)) := by rw [List.getElem?_append_left hjl]; exact hj
      have hlen := len_ref hj2
      rw [List.length_map, h.n] at hlen
      have hr := eI_rng (C := CC k) (S := S ++ [.lst []]) (r := [some (.int a), some (.int b), some (.ref j), some (.lst (lets.map PV.bl)), some (.ref S.length), none, none, none, none, none, none, none]) (e := .bi .len (.cons (.var 2) .nil)) (n := N) (by
        generalize S ++ [MO.lst []] = W at *
        simp [hlen]) (by omega)
      rw [eSs_cons, eS_for, hr, Res.to_ok]
      have e' : forL (.name 5) (fun r2 S2 => evalSs (CC k) proofBody r2 S2) none ((List.range N).map fun (k : Nat) => .int (k : Int)) [some (.int a), some (.int b), some (.ref j), some (.lst (lets.map PV.bl)), some (.ref S.length), none, none, none, none, none, none, none] (S ++ [.lst []]) = _ := e
      dsimp only
      rw [e', SRes.seq_nx]
      have h1' : told.length = N := by simpa using h1
      refine ⟨told, .lst (told.map PV.bl) :: Y, h1', h2, ?_⟩
      have hj3 : (S ++ MO.lst (told.map PV.bl) :: Y)[j]? = some (.lst (rows.map rowL)) := by rw [List.getElem?_append_left hjl]; exact hj
      have ht3 : (S ++ MO.lst (told.map PV.bl) :: Y)[S.length]? = some (.lst (told.map PV.bl)) := by simp
      have et := tup_ref ht3
      have hc := comp_G (C := CC k) (own := [10, 11]) (t := .name 11) (itt := .of (.var 2)) (e := .bi .tuple_ (.cons (.var 11) .nil)) (r := [some (.int a), some (.int b), some (.ref j), some (.lst (lets.map PV.bl)), some (.ref S.length), v5, v6, v7, v8, v9, none, none]) (as := rows) (g := rowL) (h := rowP) (S := S ++ MO.lst (told.map PV.bl) :: Y) (gd := some (j, rows.map rowL)) hj3 (by
        rw [eI_of, eE_var]
        simp only [List.getElem?_cons_succ, List.getElem?_cons_zero, Res.bind_ok]
        rw [hj3]) (by
        have : sizeLine = 16777216 := rfl
        rw [h.n]; omega) (fun row _ => by
        unfold turnF rowL rowP
        generalize S ++ MO.lst (told.map PV.bl) :: Y = W at *
        simp [bindT, wipeP])
      unfold rdP
      generalize S ++ MO.lst (told.map PV.bl) :: Y = W at *
      simp -implicitDefEqProofs [hc, et, sizeLine]
    · exact h.elim
  obtain ⟨told, Y, h1, h2, h3⟩ := key
  refine ⟨told, h1, zeros_of h h1 h2, ?_⟩
  rw [show GG (k + 1) 20 [.int a, .int b, .ref j, .lst (lets.map PV.bl)] S = _ from Gp_succ (d := d__law_proof) rfl]
  exact evalD_new hS rfl h3 (frzG_below (below_rd rfl rfl))
end Dg
end

section
set_option Elab.async false
set_option linter.all false
set_option maxRecDepth 100000
set_option maxHeartbeats 1000000
namespace Dg
open PySem L2
theorem Dst.app {N : Nat} {R S : Store} {x : MO} (h : Dst N R S) (hx : Rok (R ++ [x])) : Dst N (R ++ [x]) (S ++ [x]) := by
  obtain ⟨hR, c, g, n, rfl, h1⟩ := h
  exact ⟨hx, c, g, n, rfl, h1⟩
theorem Dst.unapp {N : Nat} {S : Store} {x : MO} (h : Dst N [x] S) : ∃ S', S = S' ++ [x] ∧ Dst N [] S' := by
  obtain ⟨hR, c, g, n, rfl, h1⟩ := h
  exact ⟨dS [] c g n, rfl, rfl, c, g, n, rfl, h1⟩
theorem Dst.get {N : Nat} {S : Store} {x : MO} (h : Dst N [x] S) : S[2]? = some x := by
  obtain ⟨hR, c, g, n, rfl, h1⟩ := h
  rfl
theorem Dst.set {N : Nat} {S : Store} {x y : MO} (h : Dst N [x] S) (hy : Rok [y]) : Dst N [y] (S.set 2 y) := by
  obtain ⟨hR, c, g, n, rfl, h1⟩ := h
  exact ⟨hy, c, g, n, rfl, h1⟩
theorem belows_app {n : Nat} {ys : List PV} : ∀ {xs : List PV}, belows n (xs ++ ys) = (belows n xs && belows n ys)
  | [] => rfl
  | x :: xs => by
    show (below n x && belows n (xs ++ ys)) = ((below n x && belows n xs) && belows n ys)
    rw [belows_app, Bool.and_assoc]
theorem rok_lst {xs : List PV} (h : belows 0 xs = true) : Rok [.lst xs] := by
  unfold Rok
  have := belows_mono (m := 3) (Nat.zero_le _) h
  show (belows 3 xs && true) = true
  rw [this]; rfl
/-- a comprehension of draws -/
theorem compL_draws {α : Type} {f : PV → Store → Res (Option PV)} {g : α → PV} {P : α → Prop} {R : Store} : ∀ {xs : List PV} {M : Nat} {S : Store}, Dst M R S → M + xs.length ≤ 900000000 → (∀ x ∈ xs, ∀ M' S', Dst M' R S' → M' < 900000000 → ∃ z S'', P z ∧ Dst (M' + 1) R S'' ∧ f x S' = .ok (some (g z)) S'') →
    ∃ (zs : List α) (S' : Store), zs.length = xs.length ∧ (∀ z ∈ zs, P z) ∧ Dst (M + xs.length) R S' ∧ compL f none xs S = .ok (zs.map g) S'
  | [], M, S, h, _, _ => ⟨[], S, rfl, by simp, h, by unfold compL; rfl⟩
  | x :: xs, M, S, h, hM, hx => by
    rw [List.length_cons] at hM
    obtain ⟨z, S1, hz, h1, e1⟩ := hx x (List.mem_cons_self ..) M S h (by omega)
    obtain ⟨zs, S2, hl, hP, h2, e2⟩ := compL_draws (xs := xs) h1 (by omega) fun y hy => hx y (List.mem_cons_of_mem _ hy)
    refine ⟨z :: zs, S2, by simp [hl], ?_, ?_, ?_⟩
    · intro y hy
      rcases List.mem_cons.mp hy with rfl | hy
      · exact hz
      · exact hP y hy
    · rw [List.length_cons, show M + (xs.length + 1) = M + 1 + xs.length by omega]; exact h2
    · unfold compL
      rw [e1, Res.bind_ok, if_pos (show Grd none S1 from trivial), e2, Res.bind_ok]
      rfl
theorem comp_draws {α : Type} {C : Cxt} {own : List Nat} {t : TGT} {itt : IT} {e : ME} {r : PEnv} {g : α → PV} {P : α → Prop} {R S : Store} {xs : List PV} {M : Nat} (hi : evalI C itt r S = .ok (xs, none) S) (hl : xs.length < 16777216) (h : Dst M R S) (hM : M + xs.length ≤ 900000000) (hx : ∀ x ∈ xs, ∀ M' S', Dst M' R S' → M' < 900000000 → ∃ z S'', P z ∧ Dst (M' + 1) R S'' ∧ turnF C own t .none e r x S' = .ok (some (g z)) S'') :
    ∃ (zs : List α) (S' : Store), zs.length = xs.length ∧ (∀ z ∈ zs, P z) ∧ Dst (M + xs.length) R S' ∧ evalE C (.comp false own t itt .none e) r S = .ok (.lst (zs.map g)) S' := by
  obtain ⟨zs, S', h1, h2, h3, h4⟩ := compL_draws h hM hx
  refine ⟨zs, S', h1, h2, h3, ?_⟩
  rw [eE_comp, hi, Res.bind_ok]
  dsimp only
  rw [if_pos (show xs.length < sizeLine from hl), h4, Res.bind_ok, if_neg Bool.false_ne_true]
theorem app_ok2 {C : Cxt} {i n : Nat} {e : ME} {r : PEnv} {T T1 : Store} {xs : List PV} {x : PV} (hi : r[i]? = some (some (.ref n))) (h0 : T[n]? = some (.lst xs)) (he : evalE C e r T = .ok x T1) (h1 : T1[n]? = some (.lst xs)) (hl : xs.length < 16777216) : evalS C (.ex (.app i e)) r T = .nx r (T1.set n (.lst (xs ++ [x]))) := by
  rw [eS_ex, eE_app, hi]
  dsimp only
  rw [h0]
  dsimp only
  rw [he, Res.bind_ok, h1]
  dsimp only
  rw [if_pos (show xs.length < sizeLine from hl), Res.to_ok]
abbrev rEnv (b t n c th : Nat) (v7 v8 : Option PV) : PEnv := [some (.ref 0), some (.int (b : Int)), some (.int (t : Int)), some (.int (n : Int)), some (.int (c : Int)), some (.int (th : Int)), some (.ref 2), v7, v8, none, none, none]
abbrev nearE : ME := (.comp false [9, 10] (.name 10) (.range (.cons (.k (.int (2))) .nil)) .none (.call 15 [(.inl 0), (.inl 1)] (.cons (.var 0) (.cons (.var 3) .nil))))
abbrev row1E : ME := (.comp false [9, 11] (.name 11) (.range (.cons (.var 4) .nil)) .none (.bin .ix (.var 8) (.call 15 [(.inl 0), (.inl 1)] (.cons (.var 0) (.cons (.k (.int (2))) .nil)))))
abbrev row2E : ME := (.comp false [9, 11] (.name 11) (.range (.cons (.var 4) .nil)) .none (.call 15 [(.inl 0), (.inl 1)] (.cons (.var 0) (.cons (.var 3) .nil))))
abbrev stateBody : MSs := (.cons (.ifS (.bin .eq (.var 5) (.k (.int (0)))) (.cons (.asg (.name 8) nearE) (.cons (.ex (.app 6 row1E)) .nil)) (.cons (.ex (.app 6 row2E)) .nil)) .nil)
abbrev inN (n : Nat) (z : Int) : Prop := 0 ≤ z ∧ z < n
theorem rng_len {m : Nat} : ((List.range m).map fun (k : Nat) => PV.int (k : Int)).length = m := by simp
theorem state_body {k b t n c th M : Nat} {v7 v8 : Option PV} {xs : List PV} {S : Store} (h : Dst M [.lst xs] S) (hM : M + 100 ≤ 900000000) (hn : 1 ≤ n) (hn2 : n ≤ 1000) (hc : c ≤ 50) (hx : belows 0 xs = true) (hxl : xs.length ≤ 1000) :
    ∃ (row : List Int) (S' : Store) (v8' : Option PV), row.length = c ∧ (∀ z ∈ row, inN n z) ∧ Dst (M + 2 + c) [.lst (xs ++ [rowL row])] S' ∧ evalSs (CC (k + 2)) stateBody (rEnv b t n c th v7 v8) S = .nx (rEnv b t n c th v7 v8') S' := by
  have fin : ∀ {M' : Nat} {row : List Int} {T : Store}, Dst M' [.lst xs] T → M' ≤ M + 2 + c → Dst (M + 2 + c) [.lst (xs ++ [rowL row])] (T.set 2 (.lst (xs ++ [rowL row]))) := by
    intro M' row T hT hle
    refine (hT.mono hle).set (rok_lst ?_)
    rw [belows_app, hx]
    unfold rowL
    simp [belows, below, below_ints]
  have hd : ∀ (r : PEnv) (own : List Nat) (i : Nat) (x : PV) (M' : Nat) (S' : Store), (own = [9, 10] ∧ i = 10 ∨ own = [9, 11] ∧ i = 11) → (∃ v8, r = rEnv b t n c th v7 v8) → Dst M' [.lst xs] S' → M' < 900000000 → ∃ z S'', inN n z ∧ Dst (M' + 1) [.lst xs] S'' ∧ turnF (CC (k + 2)) own (.name i) .none (.call 15 [(.inl 0), (.inl 1)] (.cons (.var 0) (.cons (.var 3) .nil))) r x S' = .ok (some (.int z)) S'' := by
    intro r own i x M' S' ho hr hS' hM'
    obtain ⟨v8, rfl⟩ := hr
    obtain ⟨v, S'', q1, q2, q3⟩ := draw (k := k) (L := n) hS' (by omega) hn (by omega)
    refine ⟨(v : Int), S'', ⟨by omega, by omega⟩, q2, ?_⟩
    unfold turnF
    rcases ho with ⟨rfl, rfl⟩ | ⟨rfl, rfl⟩ <;> simp -implicitDefEqProofs [bindT, wipeP, permP, q3]
  have hr4 : ∀ (v8 : Option PV) (T : Store), evalI (CC (k + 2)) (.range (.cons (.var 4) .nil)) (rEnv b t n c th v7 v8) T = .ok ((List.range c).map fun (k : Nat) => .int (k : Int), none) T := fun v8 T => eI_rng (by simp) (by omega)
  unfold stateBody
  by_cases z : th = 0
  · subst z
    have hr2 : evalI (CC (k + 2)) (.range (.cons (.k (.int (2))) .nil)) (rEnv b t n c 0 v7 v8) S = .ok ((List.range 2).map fun (k : Nat) => .int (k : Int), none) S := eI_rng (n := 2) (by simp) (by omega)
    obtain ⟨zs, S1, a1, a2, a3, a4⟩ := comp_draws (C := CC (k + 2)) (own := [9, 10]) (t := .name 10) (e := (.call 15 [(.inl 0), (.inl 1)] (.cons (.var 0) (.cons (.var 3) .nil)))) (g := PV.int) (P := inN n) hr2 (by simp) h (by simp; omega) (fun x _ M' S' q1 q2 => hd _ _ _ x M' S' (.inl ⟨rfl, rfl⟩) ⟨v8, rfl⟩ q1 q2)
    simp only [rng_len] at a1 a3
    obtain ⟨ws, S2, b1, b2, b3, b4⟩ := comp_draws (C := CC (k + 2)) (own := [9, 11]) (t := .name 11) (e := (.bin .ix (.var 8) (.call 15 [(.inl 0), (.inl 1)] (.cons (.var 0) (.cons (.k (.int (2))) .nil))))) (g := PV.int) (P := inN n) (hr4 (some (.lst (zs.map PV.int))) S1) (by simp; omega) a3 (by simp; omega) (fun x _ M' S' q1 q2 => by
      obtain ⟨v, S'', p1, p2, p3⟩ := draw (k := k) (L := 2) q1 (by omega) (by omega) (by omega)
      have hvz : v < zs.length := by omega
      have e := ix_lst (S := S'') (xs := zs.map PV.int) (i := v) (x := .int zs[v]) (by simp [hvz])
      refine ⟨zs[v], S'', a2 _ (List.getElem_mem hvz), p2, ?_⟩
      have p3' : GG (k + 2) 15 [PV.ref 0, PV.int 2] S' = .ok (.int (v : Int)) S'' := p3
      unfold turnF
      generalize zs[v] = y at *
      simp -implicitDefEqProofs [bindT, wipeP, permP, p3', e])
    simp only [rng_len] at b1 b3
    have e1 : evalS (CC (k + 2)) (.asg (.name 8) nearE) (rEnv b t n c 0 v7 v8) S = .nx (rEnv b t n c 0 v7 (some (.lst (zs.map PV.int)))) S1 := by
      rw [eS_asg, a4]; rfl
    have e2 := app_ok2 (C := CC (k + 2)) (i := 6) (n := 2) (e := row1E) (r := rEnv b t n c 0 v7 (some (.lst (zs.map PV.int)))) (T := S1) rfl a3.get b4 b3.get (by omega)
    refine ⟨ws, S2.set 2 (.lst (xs ++ [rowL ws])), some (.lst (zs.map PV.int)), b1, b2, fin b3 (by omega), ?_⟩
    rw [eSs_cons, eS_if]
    have e0 : evalT (CC (k + 2)) (.bin .eq (.var 5) (.k (.int (0)))) (rEnv b t n c 0 v7 v8) S = .ok true S := by simp
    rw [e0, Res.to_ok, if_pos rfl, eSs_cons, e1, SRes.seq_nx, eSs_cons, e2, SRes.seq_nx, eSs_nil, SRes.seq_nx, eSs_nil]
    rfl
  · obtain ⟨ws, S2, b1, b2, b3, b4⟩ := comp_draws (C := CC (k + 2)) (own := [9, 11]) (t := .name 11) (e := (.call 15 [(.inl 0), (.inl 1)] (.cons (.var 0) (.cons (.var 3) .nil)))) (g := PV.int) (P := inN n) (hr4 v8 S) (by simp; omega) h (by simp; omega) (fun x _ M' S' q1 q2 => hd _ _ _ x M' S' (.inr ⟨rfl, rfl⟩) ⟨v8, rfl⟩ q1 q2)
    simp only [rng_len] at b1 b3
    have e2 := app_ok2 (C := CC (k + 2)) (i := 6) (n := 2) (e := row2E) (r := rEnv b t n c th v7 v8) (T := S) rfl h.get b4 b3.get (by omega)
    refine ⟨ws, S2.set 2 (.lst (xs ++ [rowL ws])), v8, b1, b2, fin b3 (by omega), ?_⟩
    rw [eSs_cons, eS_if]
    have z2 : ¬ ((th : Int) = 0) := by omega
    have e0 : evalT (CC (k + 2)) (.bin .eq (.var 5) (.k (.int (0)))) (rEnv b t n c th v7 v8) S = .ok false S := by simp [z]
    rw [e0, Res.to_ok, if_neg (by simp), eSs_cons, e2, SRes.seq_nx, eSs_nil, SRes.seq_nx, eSs_nil]
    rfl
end Dg
end

section
set_option Elab.async false
set_option linter.all false
set_option maxRecDepth 100000
set_option maxHeartbeats 1000000
namespace Dg
open PySem L2
theorem belows_rowL {n : Nat} {rows : List (List Int)} : belows n (rows.map rowL) = true := below_map fun row => by
  unfold rowL
  rw [below]; exact below_ints
theorem rw_of {n c : Nat} {rows : List (List Int)} (hl : rows.length = n) (hn : n ≤ 1000) (hc : 1 ≤ c) (hr : ∀ row ∈ rows, row.length = c ∧ ∀ z ∈ row, inN n z) : RW n (fun s => ((rows.getD s []).headD 0).toNat) rows := by
  have key : ∀ s < n, ∃ (x : Int) (rest : List Int), rows[s]? = some (x :: rest) ∧ 0 ≤ x ∧ x < n := by
    intro s hs
    have hs' : s < rows.length := by omega
    obtain ⟨h1, h2⟩ := hr _ (List.getElem_mem hs')
    cases q : rows[s] with
    | nil => rw [q] at h1; simp at h1; omega
    | cons x rest =>
      rw [q] at h2
      have := h2 x (List.mem_cons_self ..)
      exact ⟨x, rest, by rw [List.getElem?_eq_getElem hs', q], this.1, this.2⟩
  refine ⟨hl, hn, fun s hs => ?_, fun s hs => ?_⟩
  · obtain ⟨x, rest, e, h1, h2⟩ := key s hs
    simp only [List.getD_eq_getElem?_getD, e, Option.getD_some, List.headD_cons]
    omega
  · obtain ⟨x, rest, e, h1, h2⟩ := key s hs
    refine ⟨rest, ?_⟩
    simp only [List.getD_eq_getElem?_getD, e, Option.getD_some, List.headD_cons]
    rw [Int.toNat_of_nonneg h1]
theorem law_reader_ok {k N b t n : Nat} {S : Store} (h : Dst N [] S) (hN : N + 5000 ≤ 900000000) (hb : 2 ≤ b) (hb2 : b ≤ 10) (ht : t ≤ 6) (hc : b ^ t ≤ 10) (hn : 1 ≤ n) (hn2 : n ≤ 12) :
    ∃ (rows : List (List Int)) (lets : List Bool) (S' : Store), Dst (N + 500) [] S' ∧ rows.length = n ∧ (∀ row ∈ rows, row.length ≤ 10) ∧ VR b t rows lets ∧ GG (k + 3) 21 [.ref 0, .int (b : Int), .int (t : Int), .int (n : Int)] S = .ok (rdP (.int b) (.int t) rows lets) S' := by
  have hpos : 1 ≤ b ^ t := Nat.pow_pos (by omega)
  have key : ∃ (rows : List (List Int)) (lets : List Bool) (S' R : Store), Dst (N + 500) [] S' ∧ rows.length = n ∧ (∀ row ∈ rows, row.length = b ^ t ∧ ∀ z ∈ row, inN n z) ∧ lets.length = n ∧ zerosB rows lets = true ∧ evalSs (CC (k + 2)) m__law_reader [some (.ref 0), some (.int (b : Int)), some (.int (t : Int)), some (.int (n : Int)), none, none, none, none, none, none, none, none] S = .ret (rdP (.int b) (.int t) rows lets) (S' ++ R) := by
    unfold m__law_reader
    have hp := law_power_ok (k := k + 1) (b := b) (t := t) h.wf hb2 ht
    generalize hcd : b ^ t = c at *
    have s1 : evalS (CC (k + 2)) (.asg (.name 4) (.call 19 [(.inl 0), (.inl 1)] (.cons (.var 1) (.cons (.var 2) .nil)))) [some (.ref 0), some (.int (b : Int)), some (.int (t : Int)), some (.int (n : Int)), none, none, none, none, none, none, none, none] S = .nx [some (.ref 0), some (.int (b : Int)), some (.int (t : Int)), some (.int (n : Int)), some (.int (c : Int)), none, none, none, none, none, none, none] S := by
      simp -implicitDefEqProofs [permP, hp, bindT]
    rw [eSs_cons, s1, SRes.seq_nx]
    obtain ⟨th, S1, q1, q2, q3⟩ := draw (k := k) (L := 3) h (by omega) (by omega) (by omega)
    have q3' : GG (k + 2) 15 [PV.ref 0, PV.int 3] S = .ok (.int (th : Int)) S1 := q3
    have hl1 := q2.len
    have s2 : evalS (CC (k + 2)) (.asg (.tup [5, 6]) (.tup (.cons (.call 15 [(.inl 0), (.inl 1)] (.cons (.var 0) (.cons (.k (.int (3))) .nil))) (.cons (.lstR .nil) .nil)))) [some (.ref 0), some (.int (b : Int)), some (.int (t : Int)), some (.int (n : Int)), some (.int (c : Int)), none, none, none, none, none, none, none] S = .nx (rEnv b t n c th none none) (S1 ++ [.lst []]) := by
      simp -implicitDefEqProofs [permP, q3', bindT, sizeLine]
      rw [hl1]; rfl
    rw [eSs_cons, s2, SRes.seq_nx]
    have hI0 : Dst (N + 1) [.lst []] (S1 ++ [.lst []]) := q2.app (rok_lst rfl)
    have hl := forL_k (t := .name 7) (g := none) (f := fun r2 S2 => evalSs (CC (k + 2)) stateBody r2 S2) (xs := (List.range n).map fun (k : Nat) => .int (k : Int)) (r := rEnv b t n c th none none) (S := S1 ++ [.lst []])
      (fun i r S' => ∃ (rows : List (List Int)) (v7 v8 : Option PV), rows.length = i ∧ (∀ row ∈ rows, row.length = c ∧ ∀ z ∈ row, inN n z) ∧ Dst (N + 1 + i * 20) [.lst (rows.map rowL)] S' ∧ r = rEnv b t n c th v7 v8) (fun _ _ => False)
      (fun i hi r S' hI => by
        obtain ⟨rows, v7, v8, a1, a2, a3, rfl⟩ := hI
        have hi' : i < n := by simpa using hi
        obtain ⟨row, S2, v8', c1, c2, c3, c4⟩ := state_body (k := k) (b := b) (t := t) (n := n) (c := c) (th := th) (v7 := some (.int (i : Int))) (v8 := v8) a3 (by omega) hn (by omega) (by omega) belows_rowL (by simp; omega)
        refine ⟨rEnv b t n c th (some (.int (i : Int))) v8, by simp [bindT], .inl ⟨_, _, .inl c4, trivial, rows ++ [row], _, _, by simp [a1], ?_, ?_, rfl⟩⟩
        · intro y hy
          rcases List.mem_append.mp hy with hy | hy
          · exact a2 y hy
          · rw [List.mem_singleton] at hy; subst hy; exact ⟨c1, c2⟩
        · rw [List.map_append]
          exact c3.mono (by rw [Nat.succ_mul]; omega)) ⟨[], none, none, rfl, by simp, by simpa using hI0, rfl⟩
    rcases hl with ⟨r', S', e, rows, v7, v8, a1, a2, a3, rfl⟩ | ⟨_, _, _, hf⟩
    · have hr := eI_rng (C := CC (k + 2)) (S := S1 ++ [.lst []]) (r := rEnv b t n c th none none) (e := .var 3) (n := n) (by simp) (by omega)
      rw [eSs_cons, eS_for, hr, Res.to_ok]
      dsimp only
      have e' : forL (.name 7) (fun r2 S2 => evalSs (CC (k + 2)) stateBody r2 S2) none ((List.range n).map fun (k : Nat) => .int (k : Int)) (rEnv b t n c th none none) (S1 ++ [.lst []]) = _ := e
      rw [e', SRes.seq_nx]
      rw [rng_len] at a1 a3
      have hr2 := eI_rng (C := CC (k + 2)) (S := S') (r := rEnv b t n c th v7 v8) (e := .var 3) (n := n) (by simp) (by omega)
      obtain ⟨lets, S2, b1, b2, b3, b4⟩ := comp_draws (α := Bool) (C := CC (k + 2)) (own := [9, 7]) (t := .name 7) (e := (.bin .eq (.call 15 [(.inl 0), (.inl 1)] (.cons (.var 0) (.cons (.k (.int (2))) .nil))) (.k (.int (0))))) (g := PV.bl) (P := fun _ => True) hr2 (by simp; omega) a3 (by simp; omega) (fun x _ M' S' p1 p2 => by
        obtain ⟨v, S'', w1, w2, w3⟩ := draw (k := k) (L := 2) p1 (by omega) (by omega) (by omega)
        have w3' : GG (k + 2) 15 [PV.ref 0, PV.int 2] S' = .ok (.int (v : Int)) S'' := w3
        refine ⟨(v : Int) == 0, S'', trivial, w2, ?_⟩
        unfold turnF
        simp -implicitDefEqProofs [bindT, wipeP, permP, w3'])
      rw [rng_len] at b1 b3
      obtain ⟨told, d1, d2, d3⟩ := law_proof_ok (k := k + 1) (a := (b : Int)) (b := (t : Int)) b3.wf (rw_of a1 (by omega) hpos a2) b3.get b1
      obtain ⟨S3, f1, f2⟩ := b3.unapp
      have d3' : GG (k + 2) 20 [.int (b : Int), .int (t : Int), .ref 2, .lst (lets.map PV.bl)] S2 = .ok (rdP (.int b) (.int t) rows told) S2 := d3
      refine ⟨rows, told, S3, [.lst (rows.map rowL)], f2.mono (by omega), a1, a2, d1, d2, ?_⟩
      rw [← f1, eSs_cons, eS_ret, eE_call, eEs_cons, eE_var]
      simp -implicitDefEqProofs only [List.getElem?_cons_succ, List.getElem?_cons_zero, Res.bind_ok, eEs_cons, eE_var, b4, eEs_nil, permP, d3', CC_G, Res.to_ok, SRes.seq_ret]
    · exact hf.elim
  obtain ⟨rows, lets, S', R, h1, h2, h3, h4, h5, h6⟩ := key
  refine ⟨rows, lets, S', h1, h2, fun row hr => by rw [(h3 row hr).1]; exact hc, ⟨hb, hb2, ht, ?_, by omega, ?_, fun row hr => ?_, h5⟩, ?_⟩
  · intro e; subst e; simp at h2; omega
  · rw [h2]
    calc b ^ t * n ≤ 10 * 12 := Nat.mul_le_mul hc hn2
      _ ≤ 20000 := by decide
  · refine ⟨(h3 row hr).1, fun i hi => ?_⟩
    have := (h3 row hr).2 i hi
    unfold inN at this
    omega
  · rw [show GG (k + 3) 21 [.ref 0, .int (b : Int), .int (t : Int), .int (n : Int)] S = _ from Gp_succ (k := k + 2) (d := d__law_reader) rfl]
    refine evalD_new (S' := S') (R := R) ?_ (by rw [h1.len, h.len]) h6 (frzG_below (below_rd rfl rfl))
    rw [h.len, ← h1.len]; exact h1.wf
end Dg
end

section
set_option Elab.async false
set_option linter.all false
set_option maxRecDepth 100000
set_option maxHeartbeats 1000000
namespace Dg
open PySem L2
/-! slices and splits -/
theorem slS_to {l : List Nat} {i : Nat} {S : Store} (h : l.length ≤ 16777216) : slP (tx l) none (some (i : Int)) S = .ok (tx (l.take i)) S := by
  show (if (SX.S l).length ≤ sizeLine then (Res.ok (.str (cutS (SX.S l) none (some (i : Int)))) S : Res PV) else .bad) = _
  rw [SX.S_len, if_pos (show _ ≤ sizeLine from h), C8.cutS_slice, SX.slice_to (by omega), Int.toNat_natCast]
theorem slS_from {l : List Nat} {i : Nat} {S : Store} (h : l.length ≤ 16777216) : slP (tx l) (some (i : Int)) none S = .ok (tx (l.drop i)) S := by
  show (if (SX.S l).length ≤ sizeLine then (Res.ok (.str (cutS (SX.S l) (some (i : Int)) none)) S : Res PV) else .bad) = _
  rw [SX.S_len, if_pos (show _ ≤ sizeLine from h), C8.cutS_slice, SX.slice_from (by omega), Int.toNat_natCast]
theorem sIx_none {n d : Nat} : HT.sIx n d none = d := rfl
theorem sIx_nat {n d i : Nat} : HT.sIx n d (some (i : Int)) = min i n := by
  unfold HT.sIx
  simp
  omega
theorem slL_to {xs : List PV} {i : Nat} {S : Store} : slP (.lst xs) none (some (i : Int)) S = .ok (.lst (xs.take i)) S := by
  show Res.ok (PV.lst ((xs.drop (HT.sIx xs.length 0 none)).take (HT.sIx xs.length xs.length (some (i : Int)) - HT.sIx xs.length 0 none))) S = _
  rw [sIx_none, sIx_nat, List.drop_zero, Nat.sub_zero]
  congr 2
  rw [← List.take_eq_take_min]
theorem slL_from {xs : List PV} {i : Nat} {S : Store} : slP (.lst xs) (some (i : Int)) none S = .ok (.lst (xs.drop i)) S := by
  show Res.ok (PV.lst ((xs.drop (HT.sIx xs.length 0 (some (i : Int)))).take (HT.sIx xs.length xs.length none - HT.sIx xs.length 0 (some (i : Int))))) S = _
  rw [sIx_none, sIx_nat]
  congr 2
  rcases Nat.le_total i xs.length with h | h
  · rw [Nat.min_eq_left h, List.take_of_length_le (by simp)]
  · rw [Nat.min_eq_right h, Nat.sub_self, List.take_zero, List.drop_eq_nil_of_le h]
theorem slR_to {xs : List PV} {i n : Nat} {S : Store} (h : S[n]? = some (.lst xs)) : slP (.ref n) none (some (i : Int)) S = .ok (.lst (xs.take i)) S := by
  rw [← slL_to (xs := xs)]
  show (match (match S[n]? with
    | some (.lst xs) => some xs
    | _ => none) with
    | some xs => Res.ok (PV.lst ((xs.drop (HT.sIx xs.length 0 none)).take (HT.sIx xs.length xs.length (some (i : Int)) - HT.sIx xs.length 0 none))) S
    | none => (.bad : Res PV)) = _
  rw [h]; rfl
theorem slR_from {xs : List PV} {i n : Nat} {S : Store} (h : S[n]? = some (.lst xs)) : slP (.ref n) (some (i : Int)) none S = .ok (.lst (xs.drop i)) S := by
  rw [← slL_from (xs := xs)]
  show (match (match S[n]? with
    | some (.lst xs) => some xs
    | _ => none) with
    | some xs => Res.ok (PV.lst ((xs.drop (HT.sIx xs.length 0 (some (i : Int)))).take (HT.sIx xs.length xs.length none - HT.sIx xs.length 0 (some (i : Int))))) S
    | none => (.bad : Res PV)) = _
  rw [h]; rfl
theorem split_R {c : Nat} {l : List Nat} {S : Store} (hc : c < 256) (hl : l.length + 2 ≤ 16777216) : opn .splitR [tx l, tx [c]] S = .ok (.ref S.length) (S ++ [.lst ((sp c l).map tx)]) := by
  have hb2 : ((SX.S [c]).length == 0) = false := by
    rw [SX.S_len]; rfl
  show (if ((SX.S [c]).length == 0) = false ∧ (SX.S l).length + 2 ≤ sizeLine then (Res.ok (.ref S.length) (S ++ [.lst ((Txt.split (SX.S l) (SX.S [c])).map .str)]) : Res PV) else .bad) = _
  rw [if_pos ⟨hb2, by rw [SX.S_len]; exact hl⟩, SX.split_S (by simp) (by simpa using hc), List.map_map]
  rfl
/-! weights -/
def Wg (ys : List (List Nat)) : Nat := (ys.map fun y => y.length).sum + ys.length
theorem Wg_app {xs ys : List (List Nat)} : Wg (xs ++ ys) = Wg xs + Wg ys := by
  unfold Wg
  simp only [List.map_append, List.sum_append, List.length_append]
  omega
theorem Wg_one {y : List Nat} : Wg [y] = y.length + 1 := by simp [Wg]
theorem Wg_cut {ys : List (List Nat)} (i : Nat) : Wg (ys.take i) + Wg (ys.drop i) = Wg ys := by
  rw [← Wg_app, List.take_append_drop]
theorem Wg_take {ys : List (List Nat)} (i : Nat) : Wg (ys.take i) ≤ Wg ys := by
  have := Wg_cut (ys := ys) i
  omega
theorem Wg_drop {ys : List (List Nat)} (i : Nat) : Wg (ys.drop i) ≤ Wg ys := by
  have := Wg_cut (ys := ys) i
  omega
theorem Wg_sp {c : Nat} {l : List Nat} : Wg (sp c l) = l.length + 1 := sp_sum
theorem Wg_mem {ys : List (List Nat)} {y : List Nat} (h : y ∈ ys) : y.length ≤ Wg ys := by
  have := mem_sum h
  unfold Wg
  omega
theorem Wg_len {ys : List (List Nat)} : ys.length ≤ Wg ys := Nat.le_add_left _ _
theorem Wg_set {z : List Nat} : ∀ {ys : List (List Nat)} {i : Nat}, Wg (ys.set i z) ≤ Wg ys + z.length
  | [], i => by simp [Wg]
  | y :: ys, 0 => by
    unfold Wg
    simp only [List.set_cons_zero, List.map_cons, List.sum_cons, List.length_cons]
    omega
  | y :: ys, i + 1 => by
    have ih := Wg_set (z := z) (ys := ys) (i := i)
    unfold Wg at ih ⊢
    simp only [List.set_cons_succ, List.map_cons, List.sum_cons, List.length_cons] at ih ⊢
    omega
theorem join_W {c : Nat} {ys : List (List Nat)} : (TL.joinL [c] ys).length ≤ Wg ys := by
  have := joinL_len (a := [c]) (ys := ys)
  unfold Wg
  simpa using this
theorem join_L1 {c : Nat} {ys : List (List Nat)} {S : Store} (h : Wg ys ≤ 16777216) : opn .join [tx [c], .lst (ys.map tx)] S = .ok (tx (TL.joinL [c] ys)) S := join_SS (by unfold Wg at h; simpa using h)
theorem join_R1 {c n : Nat} {ys : List (List Nat)} {S : Store} (hn : S[n]? = some (.lst (ys.map tx))) (h : Wg ys ≤ 16777216) : opn .join [tx [c], .ref n] S = .ok (tx (TL.joinL [c] ys)) S := join_RS hn (by unfold Wg at h; simpa using h)
def oddL : List PV := [.str (Str.ofString ""), .str (Str.ofString "0"), .str (Str.ofString "1"), .str (Str.ofString "-1"), .str (Str.ofString " "), .str (Str.ofString "00"), .str (Str.ofString "yes"), .str (Str.ofString "no"), .str (Str.ofString "x"), .str (Str.ofString "\n"), .str (Str.ofString "+1"), .str (Str.ofString "1_0"), .str (Str.ofString "True"), .str (Str.ofString "base 2 tracks 1")]
theorem tx_of (x : Str) : PV.str x = tx x.cps.toList := by
  unfold tx
  rw [SX.S_tl]
theorem odd_tx : ∀ v ∈ oddL, ∃ o : List Nat, v = tx o ∧ o.length ≤ 20 := by
  intro v hv
  simp only [oddL, List.mem_cons, List.not_mem_nil, or_false] at hv
  rcases hv with rfl | rfl | rfl | rfl | rfl | rfl | rfl | rfl | rfl | rfl | rfl | rfl | rfl | rfl <;> exact ⟨_, tx_of _, by decide +kernel⟩
theorem below_odd : ∀ n, belows n oddL = true := fun n => by
  simp [oddL, belows, below]
end Dg
end

section
set_option Elab.async false
set_option linter.all false
set_option maxRecDepth 100000
set_option maxHeartbeats 1000000
namespace Dg
open PySem L2
abbrev bEnv (l0 : List Nat) (v2 : PV) (pick : Nat) (o : List Nat) (place spot : Nat) (ws : List (List Nat)) (wat : Nat) (v9 : Option PV) : PEnv := [some (.ref 0), some (tx l0), some v2, some (.int (pick : Int)), some (tx o), some (.int (place : Int)), some (.int (spot : Int)), some (.lst (ws.map tx)), some (.int (wat : Int)), v9]
def bentTail : MSs := (.cons (.ifS (.bin .eq (.var 3) (.k (.int (0)))) (.cons (.ret (.bin .add (.bin .add (.slice (.var 1) .none (.some (.var 6))) (.var 4)) (.slice (.var 1) (.some (.var 6)) .none))) .nil) .nil) (.cons (.ifS (.bin .eq (.var 3) (.k (.int (1)))) (.cons (.ret (.bin .add (.slice (.var 1) .none (.some (.var 6))) (.slice (.var 1) (.some (.bin .add (.var 6) (.k (.int (1))))) .none))) .nil) .nil) (.cons (.ifS (.bin .eq (.var 3) (.k (.int (2)))) (.cons (.asg (.name 2) (.bin .add (.slice (.var 2) .none (.some (.var 5))) (.slice (.var 2) (.some (.bin .add (.var 5) (.k (.int (1))))) .none))) .nil) (.cons (.ifS (.bin .eq (.var 3) (.k (.int (3)))) (.cons (.asg (.name 2) (.bin .add (.bin .add (.slice (.var 2) .none (.some (.var 5))) (.lst (.cons (.var 4) .nil))) (.slice (.var 2) (.some (.var 5)) .none))) .nil) (.cons (.ifS (.bin .eq (.var 3) (.k (.int (4)))) (.cons (.setix (.var 2) (.var 5) (.mt .join (.k (.str (Str.ofString " "))) (.bin .add (.bin .add (.slice (.var 7) .none (.some (.var 8))) (.lst (.cons (.var 4) .nil))) (.slice (.var 7) (.some (.bin .add (.var 8) (.k (.int (1))))) .none)))) .nil) (.cons (.ifS (.bin .eq (.var 3) (.k (.int (5)))) (.cons (.setix (.var 2) (.var 5) (.mt .join (.k (.str (Str.ofString " "))) (.bin .add (.bin .add (.slice (.var 7) .none (.some (.var 8))) (.lst (.cons (.bin .add (.k (.str (Str.ofString "0"))) (.bin .ix (.var 7) (.var 8))) .nil))) (.slice (.var 7) (.some (.bin .add (.var 8) (.k (.int (1))))) .none)))) .nil) (.cons (.asg (.name 9) (.call 15 [(.inl 0), (.inl 1)] (.cons (.var 0) (.cons (.bi .len (.cons (.var 2) .nil)) .nil)))) (.cons (.unp [(.sub (.var 2) (.var 5)), (.sub (.var 2) (.var 9))] (.tup (.cons (.bin .ix (.var 2) (.var 9)) (.cons (.bin .ix (.var 2) (.var 5)) .nil)))) .nil))) .nil)) .nil)) .nil)) (.cons (.ret (.mt .join (.k (.str (Str.ofString "\n"))) (.var 2))) .nil))))
theorem s_zero : PV.str (Str.ofString "0") = tx [48] := by rfl
theorem rok_tx {ys : List (List Nat)} : Rok [.lst (ys.map tx)] := rok_lst (below_map fun _ => rfl)
theorem sub_LL {xs ys : List (List Nat)} {W : Store} (h : xs.length + ys.length ≤ 16777216) : op2 .add (.lst (xs.map tx)) (.lst (ys.map tx)) W = .ok (.lst ((xs ++ ys).map tx)) W := by
  rw [add_LL (by simpa using h), List.map_append]
theorem len_take {α : Type} {l : List α} (i : Nat) : (l.take i).length ≤ l.length := List.length_take_le' i l
theorem len_drop {α : Type} {l : List α} (i : Nat) : (l.drop i).length ≤ l.length := by
  rw [List.length_drop]; omega
theorem bent_tail {k N pick place spot wat : Nat} {l0 o : List Nat} {ys ws : List (List Nat)} {W : Store} (h : Dst N [.lst (ys.map tx)] W) (hN : N ≤ 900000000) (hl : l0.length ≤ 2000) (ho : o.length ≤ 20) (hW : Wg ys ≤ 2001) (hw : Wg ws ≤ 2001) (hp : pick < 7) (hpl : place < ys.length) (hat : wat < ws.length) :
    ∃ (l : List Nat) (zs : List (List Nat)) (W' : Store), l.length ≤ 20000 ∧ Dst (N + 1) [.lst (zs.map tx)] W' ∧ evalSs (CC (k + 3)) bentTail (bEnv l0 (.ref 2) pick o place spot ws wat none) W = .ret (tx l) W' := by
  have h2 := h.get
  have hyl := Wg_len (ys := ys)
  have hwl := Wg_len (ys := ws)
  unfold bentTail
  have hc : pick = 0 ∨ pick = 1 ∨ pick = 2 ∨ pick = 3 ∨ pick = 4 ∨ pick = 5 ∨ pick = 6 := by omega
  have t1 := len_take (l := l0) spot
  have t2 := len_drop (l := l0) spot
  have t3 := len_drop (l := l0) (spot + 1)
  have y1 := len_take (l := ys) place
  have y2 := len_drop (l := ys) place
  have y3 := len_drop (l := ys) (place + 1)
  have w1 := len_take (l := ws) wat
  have w3 := len_drop (l := ws) (wat + 1)
  have W1 := Wg_take (ys := ys) place
  have W2 := Wg_drop (ys := ys) place
  have W3 := Wg_drop (ys := ys) (place + 1)
  have V1 := Wg_take (ys := ws) wat
  have V3 := Wg_drop (ys := ws) (wat + 1)
  have c1 : ((spot : Int) + 1) = ((spot + 1 : Nat) : Int) := by omega
  have c2 : ((place : Int) + 1) = ((place + 1 : Nat) : Int) := by omega
  have c3 : ((wat : Int) + 1) = ((wat + 1 : Nat) : Int) := by omega
  have sl5 := slR_to (i := place) h2
  have sl5d := slR_from (i := place) h2
  have sl5e := slR_from (i := place + 1) h2
  rw [← List.map_take] at sl5
  rw [← List.map_drop] at sl5d sl5e
  have sw1 := slL_to (xs := ws.map tx) (i := wat) (S := W)
  have sw2 := slL_from (xs := ws.map tx) (i := wat + 1) (S := W)
  rw [← List.map_take] at sw1
  rw [← List.map_drop] at sw2
  have one : ∀ z : List Nat, PV.lst [tx z] = .lst ([z].map tx) := fun z => rfl
  -- the joined words
  have jw : ∀ z : List Nat, z.length ≤ 2100 → (TL.joinL [32] (ws.take wat ++ [z] ++ ws.drop (wat + 1))).length ≤ 6200 ∧ opn .join [tx [32], .lst ((ws.take wat ++ [z] ++ ws.drop (wat + 1)).map tx)] W = .ok (tx (TL.joinL [32] (ws.take wat ++ [z] ++ ws.drop (wat + 1)))) W := by
    intro z hz
    have hwg : Wg (ws.take wat ++ [z] ++ ws.drop (wat + 1)) ≤ 6200 := by
      rw [Wg_app, Wg_app, Wg_one]; omega
    exact ⟨Nat.le_trans join_W hwg, join_L1 (by omega)⟩
  rcases hc with rfl | rfl | rfl | rfl | rfl | rfl | rfl
  · have a1 := slS_to (l := l0) (i := spot) (S := W) (by omega)
    have a2 := slS_from (l := l0) (i := spot) (S := W) (by omega)
    have a3 := add_SS (a := l0.take spot) (b := o) (St := W) (by omega)
    have a4 := add_SS (a := l0.take spot ++ o) (b := l0.drop spot) (St := W) (by simp only [List.length_append]; omega)
    refine ⟨l0.take spot ++ o ++ l0.drop spot, ys, W, by simp only [List.length_append]; omega, h.mono (by omega), ?_⟩
    generalize l0.take spot ++ o ++ l0.drop spot = q at *
    generalize l0.take spot ++ o = q1 at *
    simp -implicitDefEqProofs [a1, a2, a3, a4]
  · have a1 := slS_to (l := l0) (i := spot) (S := W) (by omega)
    have a2 := slS_from (l := l0) (i := spot + 1) (S := W) (by omega)
    have a4 := add_SS (a := l0.take spot) (b := l0.drop (spot + 1)) (St := W) (by omega)
    rw [← c1] at a2
    refine ⟨l0.take spot ++ l0.drop (spot + 1), ys, W, by simp only [List.length_append]; omega, h.mono (by omega), ?_⟩
    generalize l0.take spot ++ l0.drop (spot + 1) = q at *
    simp -implicitDefEqProofs [a1, a2, a4]
  · have a1 := sub_LL (xs := ys.take place) (ys := ys.drop (place + 1)) (W := W) (by omega)
    rw [← c2] at sl5e
    have hwg : Wg (ys.take place ++ ys.drop (place + 1)) ≤ 4002 := by rw [Wg_app]; omega
    have a2 := join_L1 (c := 10) (S := W) (ys := ys.take place ++ ys.drop (place + 1)) (by omega)
    have a3 := join_W (c := 10) (ys := ys.take place ++ ys.drop (place + 1))
    refine ⟨TL.joinL [10] (ys.take place ++ ys.drop (place + 1)), ys, W, by omega, h.mono (by omega), ?_⟩
    generalize ys.take place ++ ys.drop (place + 1) = q at *
    rw [← s_nl] at a2
    generalize (ys.take place).map tx = A at *
    generalize (ys.drop (place + 1)).map tx = B at *
    generalize q.map tx = C at *
    simp -implicitDefEqProofs [sl5, sl5e, a1, a2, bindT]
  · have a1 := sub_LL (xs := ys.take place) (ys := [o]) (W := W) (by simp; omega)
    have a1b := sub_LL (xs := ys.take place ++ [o]) (ys := ys.drop place) (W := W) (by simp only [List.length_append, List.length_singleton]; omega)
    have hwg : Wg (ys.take place ++ [o] ++ ys.drop place) ≤ 4100 := by rw [Wg_app, Wg_app, Wg_one]; omega
    have a2 := join_L1 (c := 10) (S := W) (ys := ys.take place ++ [o] ++ ys.drop place) (by omega)
    have a3 := join_W (c := 10) (ys := ys.take place ++ [o] ++ ys.drop place)
    refine ⟨TL.joinL [10] (ys.take place ++ [o] ++ ys.drop place), ys, W, by omega, h.mono (by omega), ?_⟩
    generalize ys.take place ++ [o] ++ ys.drop place = q at *
    generalize ys.take place ++ [o] = q1 at *
    rw [← s_nl] at a2
    rw [← one] at a1
    generalize (ys.take place).map tx = A at *
    generalize (ys.drop place).map tx = B at *
    generalize q.map tx = C at *
    generalize q1.map tx = D at *
    simp -implicitDefEqProofs [sl5, sl5d, a1, a1b, a2, bindT, sizeLine]
  · obtain ⟨j1, j2⟩ := jw o (by omega)
    have a1 := sub_LL (xs := ws.take wat) (ys := [o]) (W := W) (by simp; omega)
    have a1b := sub_LL (xs := ws.take wat ++ [o]) (ys := ws.drop (wat + 1)) (W := W) (by simp only [List.length_append, List.length_singleton]; omega)
    rw [← c3] at sw2
    rw [← one] at a1
    rw [← s_sp] at j2
    generalize TL.joinL [32] (ws.take wat ++ [o] ++ ws.drop (wat + 1)) = z at *
    have a5 := setP_lst (S := W) (n := 2) (i := place) (xs := ys.map tx) (x := tx z) h2 (by simpa using hpl)
    rw [← List.map_set] at a5
    have hwg : Wg (ys.set place z) ≤ 8300 := Nat.le_trans Wg_set (by omega)
    have hD := h.set (y := .lst ((ys.set place z).map tx)) rok_tx
    have a2 := join_R1 (c := 10) hD.get (by omega)
    have a3 := join_W (c := 10) (ys := ys.set place z)
    refine ⟨TL.joinL [10] (ys.set place z), ys.set place z, _, by omega, hD.mono (by omega), ?_⟩
    generalize W.set 2 (.lst ((ys.set place z).map tx)) = W' at *
    rw [← s_nl] at a2
    generalize ws.take wat ++ [o] ++ ws.drop (wat + 1) = q at *
    generalize ws.take wat ++ [o] = q1 at *
    generalize (ws.take wat).map tx = A at *
    generalize (ws.drop (wat + 1)).map tx = B at *
    generalize q.map tx = C at *
    generalize q1.map tx = D at *
    simp -implicitDefEqProofs [sw1, sw2, a1, a1b, j2, a5, a2, bindT, sizeLine]
  · have hm := Wg_mem (List.getElem_mem hat)
    obtain ⟨j1, j2⟩ := jw ([48] ++ ws[wat]) (by simp; omega)
    have a0 := add_SS (a := [48]) (b := ws[wat]) (St := W) (by simp; omega)
    have a00 := ix_lst (S := W) (xs := ws.map tx) (i := wat) (x := tx ws[wat]) (by simp [hat])
    generalize [48] ++ ws[wat] = y at *
    have a1 := sub_LL (xs := ws.take wat) (ys := [y]) (W := W) (by simp; omega)
    have a1b := sub_LL (xs := ws.take wat ++ [y]) (ys := ws.drop (wat + 1)) (W := W) (by simp only [List.length_append, List.length_singleton]; omega)
    rw [← c3] at sw2
    rw [← one] at a1
    rw [← s_sp] at j2
    rw [← s_zero] at a0
    generalize TL.joinL [32] (ws.take wat ++ [y] ++ ws.drop (wat + 1)) = z at *
    have a5 := setP_lst (S := W) (n := 2) (i := place) (xs := ys.map tx) (x := tx z) h2 (by simpa using hpl)
    rw [← List.map_set] at a5
    have hwg : Wg (ys.set place z) ≤ 8300 := Nat.le_trans Wg_set (by omega)
    have hD := h.set (y := .lst ((ys.set place z).map tx)) rok_tx
    have a2 := join_R1 (c := 10) hD.get (by omega)
    have a3 := join_W (c := 10) (ys := ys.set place z)
    refine ⟨TL.joinL [10] (ys.set place z), ys.set place z, _, by omega, hD.mono (by omega), ?_⟩
    generalize W.set 2 (.lst ((ys.set place z).map tx)) = W' at *
    rw [← s_nl] at a2
    generalize ws.take wat ++ [y] ++ ws.drop (wat + 1) = q at *
    generalize ws.take wat ++ [y] = q1 at *
    generalize ws[wat] = q2 at *
    generalize (ws.take wat).map tx = A at *
    generalize (ws.drop (wat + 1)).map tx = B at *
    generalize q.map tx = C at *
    generalize q1.map tx = D at *
    simp -implicitDefEqProofs [sw1, sw2, a0, a00, a1, a1b, j2, a5, a2, bindT, sizeLine]
  · obtain ⟨v, S1, q1, q2, q3⟩ := draw (k := k + 1) (L := ys.length) h (by omega) (by omega) (by omega)
    have hln := len_ref h2
    rw [List.length_map] at hln
    have g2 := q2.get
    have i1 : op2 .ix (.ref 2) (.int (v : Int)) S1 = .ok (tx ys[v]) S1 := ix_ref g2 (by simp [q1])
    have i2 : op2 .ix (.ref 2) (.int (place : Int)) S1 = .ok (tx ys[place]) S1 := ix_ref g2 (by simp [hpl])
    have m1 := Wg_mem (List.getElem_mem q1)
    have m2 := Wg_mem (List.getElem_mem hpl)
    have a5 := setP_lst (S := S1) (n := 2) (i := place) (xs := ys.map tx) (x := tx ys[v]) g2 (by simpa using hpl)
    rw [← List.map_set] at a5
    have hD := q2.set (y := .lst ((ys.set place ys[v]).map tx)) rok_tx
    have a6 := setP_lst (n := 2) (i := v) (xs := (ys.set place ys[v]).map tx) (x := tx ys[place]) hD.get (by simpa using q1)
    rw [← List.map_set] at a6
    have hE := hD.set (y := .lst (((ys.set place ys[v]).set v ys[place]).map tx)) rok_tx
    have hwg : Wg ((ys.set place ys[v]).set v ys[place]) ≤ 8300 := by
      have z1 := Wg_set (z := ys[place]) (ys := ys.set place ys[v]) (i := v)
      have z2 := Wg_set (z := ys[v]) (ys := ys) (i := place)
      omega
    have a2 := join_R1 (c := 10) hE.get (by omega)
    have a3 := join_W (c := 10) (ys := (ys.set place ys[v]).set v ys[place])
    refine ⟨TL.joinL [10] ((ys.set place ys[v]).set v ys[place]), (ys.set place ys[v]).set v ys[place], _, by omega, hE, ?_⟩
    generalize hX : ((S1.set 2 (.lst ((ys.set place ys[v]).map tx))).set 2 (.lst (((ys.set place ys[v]).set v ys[place]).map tx))) = X at *
    generalize S1.set 2 (.lst ((ys.set place ys[v]).map tx)) = W' at *
    rw [← s_nl] at a2
    have q3' : GG (k + 3) 15 [PV.ref 0, PV.int (ys.length : Int)] W = .ok (.int (v : Int)) S1 := q3
    generalize TL.joinL [10] ((ys.set place ys[v]).set v ys[place]) = jj at *
    generalize ys[v] = yv at *
    generalize ys[place] = yp at *
    simp -implicitDefEqProofs [permP, hln, q3', i1, i2, a5, a6, a2, bindT, evalGs, sizeLine]
end Dg
end

section
set_option Elab.async false
set_option linter.all false
set_option maxRecDepth 100000
set_option maxHeartbeats 1000000
namespace Dg
open PySem L2
theorem law_bent_ok {k N : Nat} {l0 : List Nat} {S : Store} (h : Dst N [] S) (hN : N + 100 ≤ 900000000) (hl : l0.length ≤ 2000) :
    ∃ (l : List Nat) (S' : Store), l.length ≤ 20000 ∧ Dst (N + 10) [] S' ∧ GG (k + 4) 25 [.ref 0, tx l0] S = .ok (tx l) S' := by
  have key : ∃ (l : List Nat) (zs : List (List Nat)) (W' : Store), l.length ≤ 20000 ∧ Dst (N + 10) [.lst (zs.map tx)] W' ∧ evalSs (CC (k + 3)) m__law_bent [some (.ref 0), some (tx l0), none, none, none, none, none, none, none, none] S = .ret (tx l) W' := by
    have b1 := split_R (c := 10) (l := l0) (S := S) (by omega) (by omega)
    rw [h.len] at b1
    have hD := h.app (x := .lst ((sp 10 l0).map tx)) rok_tx
    generalize hys : sp 10 l0 = ys at *
    have hW : Wg ys ≤ 2001 := by rw [← hys, Wg_sp]; omega
    have hyl := Wg_len (ys := ys)
    have hy1 : 1 ≤ ys.length := by
      rw [← hys]
      obtain ⟨p, ps, e⟩ := sp_cons 10 l0
      rw [e]; simp
    obtain ⟨pick, S1, p1, p2, p3⟩ := draw (k := k + 1) (L := 7) hD (by omega) (by omega) (by omega)
    have p3' : GG (k + 3) 15 [PV.ref 0, PV.int 7] (S ++ [.lst (ys.map tx)]) = .ok (.int (pick : Int)) S1 := p3
    have s1 : evalS (CC (k + 3)) (.asg (.tup [2, 3]) (.tup (.cons (.mt .splitR (.var 1) (.k (.str (Str.ofString "\n")))) (.cons (.call 15 [(.inl 0), (.inl 1)] (.cons (.var 0) (.cons (.k (.int (7))) .nil))) .nil)))) [some (.ref 0), some (tx l0), none, none, none, none, none, none, none, none] S = .nx [some (.ref 0), some (tx l0), some (.ref 2), some (.int (pick : Int)), none, none, none, none, none, none] S1 := by
      rw [← s_nl] at b1
      have b1' : opn BI.splitR [tx l0, .str (Str.ofString "\n")] S = .ok (.ref 2) (S ++ [.lst (ys.map tx)]) := b1
      generalize S ++ [MO.lst (ys.map tx)] = T at *
      simp -implicitDefEqProofs [permP, b1', p3', bindT, sizeLine]
    obtain ⟨v, S2, q1, q2, q3⟩ := law_of_ok (k := k) (xs := oddL) p2 (by omega) (by simp [oddL]) (by simp [oddL]) below_odd
    obtain ⟨o, rfl, ho⟩ := odd_tx v q1
    have s2 : evalS (CC (k + 3)) (.asg (.name 4) (.call 17 [(.inl 0), (.inl 1)] (.cons (.var 0) (.cons (.lst (.cons (.k (.str (Str.ofString ""))) (.cons (.k (.str (Str.ofString "0"))) (.cons (.k (.str (Str.ofString "1"))) (.cons (.k (.str (Str.ofString "-1"))) (.cons (.k (.str (Str.ofString " "))) (.cons (.k (.str (Str.ofString "00"))) (.cons (.k (.str (Str.ofString "yes"))) (.cons (.k (.str (Str.ofString "no"))) (.cons (.k (.str (Str.ofString "x"))) (.cons (.k (.str (Str.ofString "\n"))) (.cons (.k (.str (Str.ofString "+1"))) (.cons (.k (.str (Str.ofString "1_0"))) (.cons (.k (.str (Str.ofString "True"))) (.cons (.k (.str (Str.ofString "base 2 tracks 1"))) .nil))))))))))))))) .nil)))) [some (.ref 0), some (tx l0), some (.ref 2), some (.int (pick : Int)), none, none, none, none, none, none] S1 = .nx [some (.ref 0), some (tx l0), some (.ref 2), some (.int (pick : Int)), some (tx o), none, none, none, none, none] S2 := by
      unfold oddL at q3
      generalize tx o = vo at *
      simp -implicitDefEqProofs [permP, q3, bindT, sizeLine]
    have g2 := q2.get
    have hln := len_ref g2
    rw [List.length_map] at hln
    obtain ⟨place, S3, r1, r2, r3⟩ := draw (k := k + 1) (L := ys.length) q2 (by omega) (by omega) (by omega)
    have hlt := len_SS (a := l0) (St := S3) (by omega)
    obtain ⟨spot, S4, u1, u2, u3⟩ := draw (k := k + 1) (L := l0.length + 1) r2 (by omega) (by omega) (by omega)
    have u3' : GG (k + 3) 15 [PV.ref 0, PV.int ((l0.length : Int) + 1)] S3 = .ok (.int (spot : Int)) S4 := u3
    have r3' : GG (k + 3) 15 [PV.ref 0, PV.int (ys.length : Int)] S2 = .ok (.int (place : Int)) S3 := r3
    have s3 : evalS (CC (k + 3)) (.asg (.tup [5, 6]) (.tup (.cons (.call 15 [(.inl 0), (.inl 1)] (.cons (.var 0) (.cons (.bi .len (.cons (.var 2) .nil)) .nil))) (.cons (.call 15 [(.inl 0), (.inl 1)] (.cons (.var 0) (.cons (.bin .add (.bi .len (.cons (.var 1) .nil)) (.k (.int (1)))) .nil))) .nil)))) [some (.ref 0), some (tx l0), some (.ref 2), some (.int (pick : Int)), some (tx o), none, none, none, none, none] S2 = .nx [some (.ref 0), some (tx l0), some (.ref 2), some (.int (pick : Int)), some (tx o), some (.int (place : Int)), some (.int (spot : Int)), none, none, none] S4 := by
      simp -implicitDefEqProofs [permP, hln, r3', hlt, u3', bindT, sizeLine]
    have g4 := u2.get
    have i1 : op2 .ix (.ref 2) (.int (place : Int)) S4 = .ok (tx ys[place]) S4 := ix_ref g4 (by simp [r1])
    have hyp := Wg_mem (List.getElem_mem r1)
    have b2 := split_sp (c := 32) (l := ys[place]) (St := S4) (by omega) (by omega)
    have hws : Wg (sp 32 ys[place]) ≤ 2001 := by
      rw [Wg_sp]
      have := mem_sum (List.getElem_mem r1)
      unfold Wg at hW
      omega
    have hw1 : 1 ≤ (sp 32 ys[place]).length := by
      obtain ⟨p, ps, e⟩ := sp_cons 32 ys[place]
      rw [e]; simp
    generalize hwd : sp 32 ys[place] = ws at *
    have hwl := Wg_len (ys := ws)
    have s4 : evalS (CC (k + 3)) (.asg (.name 7) (.mt .splitV (.bin .ix (.var 2) (.var 5)) (.k (.str (Str.ofString " "))))) [some (.ref 0), some (tx l0), some (.ref 2), some (.int (pick : Int)), some (tx o), some (.int (place : Int)), some (.int (spot : Int)), none, none, none] S4 = .nx [some (.ref 0), some (tx l0), some (.ref 2), some (.int (pick : Int)), some (tx o), some (.int (place : Int)), some (.int (spot : Int)), some (.lst (ws.map tx)), none, none] S4 := by
      rw [← s_sp] at b2
      generalize ys[place] = yp at *
      simp -implicitDefEqProofs [i1, b2, bindT]
    obtain ⟨wat, S5, x1, x2, x3⟩ := draw (k := k + 1) (L := ws.length) u2 (by omega) (by omega) (by omega)
    have x3' : GG (k + 3) 15 [PV.ref 0, PV.int (ws.length : Int)] S4 = .ok (.int (wat : Int)) S5 := x3
    have s5 : evalS (CC (k + 3)) (.asg (.name 8) (.call 15 [(.inl 0), (.inl 1)] (.cons (.var 0) (.cons (.bi .len (.cons (.var 7) .nil)) .nil)))) [some (.ref 0), some (tx l0), some (.ref 2), some (.int (pick : Int)), some (tx o), some (.int (place : Int)), some (.int (spot : Int)), some (.lst (ws.map tx)), none, none] S4 = .nx (bEnv l0 (.ref 2) pick o place spot ws wat none) S5 := by
      simp -implicitDefEqProofs [permP, x3', bindT]
    obtain ⟨l, zs, W', z1, z2, z3⟩ := bent_tail (k := k) (l0 := l0) (o := o) (spot := spot) x2 (by omega) hl ho hW hws p1 r1 x1
    refine ⟨l, zs, W', z1, z2.mono (by omega), ?_⟩
    show evalSs (CC (k + 3)) (.cons _ (.cons _ (.cons _ (.cons _ (.cons _ bentTail))))) _ _ = _
    rw [eSs_cons, s1, SRes.seq_nx, eSs_cons, s2, SRes.seq_nx, eSs_cons, s3, SRes.seq_nx, eSs_cons, s4, SRes.seq_nx, eSs_cons, s5, SRes.seq_nx]
    exact z3
  obtain ⟨l, zs, W', h1, h2, h3⟩ := key
  obtain ⟨S', rfl, hD⟩ := h2.unapp
  refine ⟨l, S', h1, hD, ?_⟩
  rw [show GG (k + 4) 25 [.ref 0, tx l0] S = _ from Gp_succ (k := k + 3) (d := d__law_bent) rfl]
  refine evalD_new (S' := S') (R := [.lst (zs.map tx)]) ?_ (by rw [hD.len, h.len]) h3 rfl
  rw [h.len, ← hD.len]; exact hD.wf
end Dg
end

section
set_option Elab.async false
set_option linter.all false
set_option maxRecDepth 100000
set_option maxHeartbeats 1000000
namespace Dg
open PySem L2
/-! ### what read texts are, and that they are like themselves -/
def readX (l : List Nat) : PV := if dueG l = true then dueV l else .lst [.int 0]
theorem read_x {k : Nat} {l : List Nat} {S : Store} (hS : Wf S) (hl : l.length ≤ 20000) : GG (k + 6) 26 [tx l] S = .ok (readX l) S := law_read_text hS hl
theorem tLines_len {l : List Nat} : (tLines l).length ≤ l.length := by
  unfold tLines
  have := sp_len (c := 10) (l := l)
  rw [List.length_tail]; omega
theorem tLines_part {l y : List Nat} (h : y ∈ tLines l) : y.length ≤ l.length := sp_part (List.mem_of_mem_tail h)
theorem rowM_len {l : List Nat} : (rowM l).length ≤ l.length := by
  unfold rowM
  have := sp_len (c := 32) (l := l)
  rw [List.length_map, List.length_tail]; omega
theorem Lk_readX {n : Nat} {l : List Nat} (hl : l.length ≤ 20000) : Lk (n + 3) (readX l) := by
  unfold readX
  split
  · rename_i h
    unfold dueV
    rw [if_pos h]
    have h1 := tLines_len (l := l)
    refine Lk_rd (by simp; omega) (by simp; omega) fun row hr => ?_
    obtain ⟨y, hy, rfl⟩ := List.mem_map.mp hr
    have h2 := tLines_part hy
    have h3 := rowM_len (l := y)
    omega
  · refine Lk_lst (by simp) fun x hx => ?_
    simp at hx; subst hx; exact Lk_int
/-! ### texts that are none -/
theorem due_bad_line {l : List Nat} {h0 w : List Nat} (h1 : 10 ∉ h0) (h2 : 10 ∉ w) (h3 : 32 ∉ w) (hw : inR 1 (numV w) = false) : dueG (h0 ++ (10 :: (yesL ++ (32 :: w)))) = false := by
  have e : h0 ++ (10 :: (yesL ++ (32 :: w))) = TL.joinL [10] [h0, yesL ++ (32 :: w)] := by simp [TL.joinL]
  have hs : sp 10 (h0 ++ (10 :: (yesL ++ (32 :: w)))) = [h0, yesL ++ (32 :: w)] := by
    rw [e]
    refine sp_join (by simp) fun p hp => ?_
    simp only [List.mem_cons, List.not_mem_nil, or_false] at hp
    rcases hp with rfl | rfl
    · exact h1
    · simp [yesL, h2]
  have e2 : yesL ++ (32 :: w) = TL.joinL [32] [yesL, w] := by simp [TL.joinL]
  have hs2 : sp 32 (yesL ++ (32 :: w)) = [yesL, w] := by
    rw [e2]
    refine sp_join (by simp) fun p hp => ?_
    simp only [List.mem_cons, List.not_mem_nil, or_false] at hp
    rcases hp with rfl | rfl
    · decide
    · exact h3
  have ht : tLines (h0 ++ (10 :: (yesL ++ (32 :: w)))) = [yesL ++ (32 :: w)] := by
    unfold tLines; rw [hs]; rfl
  have hr : ∀ c, dRow 1 c (yesL ++ (32 :: w)) = false := by
    intro c
    unfold dRow rowM
    rw [hs2]
    simp [hw]
  unfold dueG
  rw [ht]
  simp [hr]
theorem numV_long {w : List Nat} (h : 9 < w.length) : numV w = -1 := by
  unfold numV
  rw [if_neg]
  rintro ⟨_, _, _, h4⟩
  omega
theorem due_bad_base {w r : List Nat} (hw : 9 < w.length) (h1 : 10 ∉ w) (h2 : 32 ∉ w) : dueG ([98, 97, 115, 101, 32] ++ w ++ ([32, 116, 114, 97, 99, 107, 115, 32, 48, 10, 121, 101, 115, 32, 48])) = false := by
  have e : [98, 97, 115, 101, 32] ++ w ++ ([32, 116, 114, 97, 99, 107, 115, 32, 48, 10, 121, 101, 115, 32, 48]) = TL.joinL [10] [[98, 97, 115, 101, 32] ++ (w ++ [32, 116, 114, 97, 99, 107, 115, 32, 48]), [121, 101, 115, 32, 48]] := by simp [TL.joinL]
  have hs : tHead ([98, 97, 115, 101, 32] ++ w ++ ([32, 116, 114, 97, 99, 107, 115, 32, 48, 10, 121, 101, 115, 32, 48])) = [98, 97, 115, 101, 32] ++ (w ++ [32, 116, 114, 97, 99, 107, 115, 32, 48]) := by
    unfold tHead
    rw [e, sp_join (by simp)]
    · rfl
    · intro p hp
      simp only [List.mem_cons, List.not_mem_nil, or_false] at hp
      rcases hp with rfl | rfl
      · simp [h1]
      · decide
  have e2 : [98, 97, 115, 101, 32] ++ (w ++ [32, 116, 114, 97, 99, 107, 115, 32, 48]) = TL.joinL [32] [[98, 97, 115, 101], w, [116, 114, 97, 99, 107, 115], [48]] := by simp [TL.joinL]
  have hs2 : sp 32 ([98, 97, 115, 101, 32] ++ (w ++ [32, 116, 114, 97, 99, 107, 115, 32, 48])) = [[98, 97, 115, 101], w, [116, 114, 97, 99, 107, 115], [48]] := by
    rw [e2]
    refine sp_join (by simp) fun p hp => ?_
    simp only [List.mem_cons, List.not_mem_nil, or_false] at hp
    rcases hp with rfl | rfl | rfl | rfl
    · decide
    · exact h2
    · decide
    · decide
  have hB : nB ([98, 97, 115, 101, 32] ++ w ++ ([32, 116, 114, 97, 99, 107, 115, 32, 48, 10, 121, 101, 115, 32, 48])) = -1 := by
    unfold nB
    rw [hs, hs2]
    exact numV_long hw
  unfold dueG
  rw [hB]
  simp
theorem due_nil : dueG [] = false := by decide +kernel
theorem due_head : dueG [98, 97, 115, 101, 32, 50, 32, 116, 114, 97, 99, 107, 115, 32, 48] = false := by decide +kernel
/-! ### readers of one let -/
theorem VR_true {t : Nat} {rows : List (List Int)} (ht : t ≤ 1) (hne : rows ≠ []) (hn : rows.length ≤ 5000) (hr : ∀ row ∈ rows, row.length = 2 ^ t ∧ ∀ i ∈ row, 0 ≤ i ∧ i < rows.length) : VR 2 t rows (List.replicate rows.length true) := by
  refine ⟨by decide, by decide, by omega, hne, by simp, ?_, hr, ?_⟩
  · have : 2 ^ t ≤ 2 := by
      rcases Nat.le_one_iff_eq_zero_or_eq_one.mp ht with rfl | rfl <;> decide
    calc 2 ^ t * rows.length ≤ 2 * 5000 := Nat.mul_le_mul this hn
      _ ≤ 20000 := by decide
  · unfold zerosB
    rw [List.all_eq_true]
    intro p hp
    have hp' : p < rows.length := by simpa using hp
    obtain ⟨h1, h2⟩ := hr _ (List.getElem_mem hp')
    unfold zeroAt
    have hpos : 0 < 2 ^ t := Nat.pow_pos (by decide)
    have e : rows.getD p [] = rows[p] := by simp [hp']
    rw [e]
    cases q : rows[p] with
    | nil => rw [q] at h1; simp at h1; omega
    | cons x r =>
      rw [q] at h2
      have := h2 x (List.mem_cons_self ..)
      have hx : x.toNat < rows.length := by omega
      simp [hp', hx]
theorem written_ok {k b t : Nat} {rows : List (List Int)} {lets : List Bool} {S : Store} (hS : Wf S) (h : VR b t rows lets) : GG (k + 7) 27 [rdP (.int b) (.int t) rows lets] S = .ok (if (textL b t rows lets).length ≤ 20000 then .lst [.str (Str.ofString "told"), tx (textL b t rows lets)] else .lst [.str (Str.ofString "many"), .int 20000]) S := by
  have e := reader_text_ok (k := k) hS h
  split
  · rename_i q
    rw [if_pos q] at e
    exact law_written_val hS rfl e
  · rename_i q
    rw [if_neg q] at e
    exact law_written_many hS rfl e
theorem Lk_told {n : Nat} {c : Prop} [Decidable c] {l : List Nat} : Lk (n + 1) (if c then .lst [.str (Str.ofString "told"), tx l] else .lst [.str (Str.ofString "many"), .int 20000]) := by
  split <;> refine Lk_lst (by simp) fun x hx => ?_ <;> simp at hx <;> rcases hx with rfl | rfl
  · exact Lk_str
  · exact Lk_str
  · exact Lk_str
  · exact Lk_int
theorem mul_tup {x : PV} {n : Nat} {S : Store} (h : 2 ≤ n) (h2 : n ≤ 10000) : op2 .mul (.tup [x]) (.int (n : Int)) S = .ok (.tup (List.replicate n x)) S := by
  show (if [x] ≠ [] ∧ 2 ≤ (n : Int) ∧ (([x].length : Nat) : Int) * (n : Int) ≤ 10000000 then (Res.ok (.tup (List.replicate (n : Int).toNat [x]).flatten) S : Res PV) else .bad) = _
  rw [if_pos ⟨by simp, by omega, by simp; omega⟩, Int.toNat_natCast]
  congr 2
  clear h h2
  induction n with
  | zero => rfl
  | succ n ih => rw [List.replicate_succ, List.flatten_cons, ih, List.replicate_succ]; rfl
theorem mul_str {c n : Nat} {S : Store} (h : 2 ≤ n) (h2 : n ≤ 100000) : op2 .mul (tx [c]) (.int (n : Int)) S = .ok (tx (List.replicate n c)) S := by
  show (if (SX.S [c]).length = 1 ∧ 2 ≤ (n : Int) ∧ (n : Int) ≤ 100000 then (Res.ok (.str ⟨(List.replicate (n : Int).toNat (SX.S [c]).cps.toList).flatten.toArray⟩) S : Res PV) else .bad) = _
  rw [if_pos ⟨by rw [SX.S_len]; rfl, by omega, by omega⟩, Int.toNat_natCast]
  have e : (List.replicate n (SX.S [c]).cps.toList).flatten = List.replicate n c := by
    clear h h2
    show (List.replicate n [c]).flatten = _
    induction n with
    | zero => rfl
    | succ n ih => rw [List.replicate_succ, List.flatten_cons, ih, List.replicate_succ]; rfl
  rw [e]
end Dg
end

section
set_option Elab.async false
set_option linter.all false
set_option maxRecDepth 100000
set_option maxHeartbeats 1000000
namespace Dg
open PySem L2
abbrev lEnv (s : PV) (v2 v3 v4 v5 v6 v7 v8 v9 : Option PV) : PEnv := [some s, some (.ref 0), v2, v3, v4, v5, v6, v7, v8, v9, none, none, none, none, none, none, none, none, none]
abbrev bentBody : MSs := (.cons (.asg (.name 8) (.call 25 [(.inl 0), (.inl 1)] (.cons (.var 1) (.cons (.var 6) .nil)))) (.cons (.asg (.name 9) (.call 24 [(.inl 0)] (.cons (.var 8) .nil))) (.cons (.ifS (.not_ (.call 18 [(.inl 0), (.inl 1)] (.cons (.call 26 [(.inl 0)] (.cons (.var 8) .nil)) (.cons (.ite (.un .isN (.var 9)) (.lst (.cons (.k (.int (0))) .nil)) (.var 9)) .nil)))) (.cons (.ret (.k (.bl false))) .nil) .nil) .nil)))
theorem bent_body {N : Nat} {s : PV} {v2 v3 v4 v5 v7 v8 v9 : Option PV} {l0 : List Nat} {S : Store} (h : Dst N [] S) (hN : N + 100 ≤ 900000000) (hl : l0.length ≤ 2000) :
    ∃ v8' v9' S', Dst (N + 10) [] S' ∧ evalSs (CC 19) bentBody (lEnv s v2 v3 v4 v5 (some (tx l0)) v7 v8 v9) S = .nx (lEnv s v2 v3 v4 v5 (some (tx l0)) v7 v8' v9') S' := by
  obtain ⟨l, S', h1, h2, h3⟩ := law_bent_ok (k := 15) h hN hl
  have hw := h2.wf
  have e2 := law_due_ok (k := 16) (l := l) hw (by omega)
  have e3 := read_x (k := 13) hw h1
  have e4 := like_ok (n := 4) (k := 14) hw (Lk_readX (n := 1) h1)
  have h3' : GG 19 25 [.ref 0, tx l0] S = .ok (tx l) S' := h3
  have e2' : GG 19 24 [tx l] S' = .ok (dueV l) S' := e2
  have e3' : GG 19 26 [tx l] S' = .ok (readX l) S' := e3
  have e4' : GG 19 18 [readX l, readX l] S' = .ok (.bl true) S' := e4
  refine ⟨some (tx l), some (dueV l), S', h2, ?_⟩
  have e5 : evalE (CC 19) (.ite (.un .isN (.var 9)) (.lst (.cons (.k (.int (0))) .nil)) (.var 9)) (lEnv s v2 v3 v4 v5 (some (tx l0)) v7 (some (tx l)) (some (dueV l))) S' = .ok (readX l) S' := by
    unfold readX dueV
    by_cases q : dueG l = true
    · rw [if_pos q]
      simp [rdP, q]
    · rw [if_neg q]
      have q' : dueG l = false := by simpa using q
      simp [sizeLine, q']
  generalize tx l = tl at *
  generalize dueV l = dv at *
  generalize readX l = rx at *
  unfold bentBody
  rw [eSs_cons, eS_asg]
  simp -implicitDefEqProofs only [eE_call, eEs_cons, eE_var, List.getElem?_cons_succ, List.getElem?_cons_zero, Res.bind_ok, eEs_nil, permP, h3', CC_G, Res.to_ok, bindT, List.set, SRes.seq_nx, eSs_cons, eS_asg, e2', eS_if, eT_not, eT_call, e3', e5, e4', tru_bl', Bool.not_true, eSs_nil]
  simp
theorem text_small {b t : Nat} {rows : List (List Int)} {lets : List Bool} (h : VR b t rows lets) (hr : ∀ row ∈ rows, row.length ≤ 10) (hn : rows.length ≤ 12) : (textL b t rows lets).length ≤ 2000 := by
  have h1 := join_W (c := 10) (ys := linesL b t rows lets)
  have h2 : ∀ ys : List (List Nat), (∀ y ∈ ys, y.length ≤ 64) → Wg ys ≤ 65 * ys.length := by
    intro ys hy
    have := sum_le hy
    unfold Wg
    omega
  have h3 := h2 ((rows.zip lets).map fun p => lineL p.2 p.1) (fun y hy => by
    obtain ⟨p, hp, rfl⟩ := List.mem_map.mp hy
    have hm : p.1 ∈ rows := (List.of_mem_zip (show (p.1, p.2) ∈ rows.zip lets from hp)).1
    have := line_len (b := p.2) (h.small _ hm)
    have := hr _ hm
    omega)
  have h4 := head_len (b := b) (t := t) h.b10 h.t6
  have h5 : Wg (linesL b t rows lets) = Wg [headL b t] + Wg ((rows.zip lets).map fun p => lineL p.2 p.1) := by
    rw [← Wg_app]; rfl
  rw [Wg_one] at h5
  have h6 : ((rows.zip lets).map fun p => lineL p.2 p.1).length ≤ 12 := by
    rw [List.length_map, List.length_zip]; omega
  unfold textL
  omega
abbrev turnBody : MSs := (.cons (.asg (.tup [3, 4]) (.tup (.cons (.bin .add (.k (.int (2))) (.call 15 [(.inl 0), (.inl 1)] (.cons (.var 1) (.cons (.k (.int (9))) .nil)))) (.cons (.call 15 [(.inl 0), (.inl 1)] (.cons (.var 1) (.cons (.k (.int (3))) .nil))) .nil)))) (.cons (.asg (.name 5) (.call 21 [(.inl 0), (.inl 1), (.inl 2), (.inl 3)] (.cons (.var 1) (.cons (.var 3) (.cons (.ite (.bin .lt (.var 3) (.k (.int (4)))) (.var 4) (.bi .min2 (.cons (.var 4) (.cons (.k (.int (1))) .nil)))) (.cons (.bin .add (.k (.int (1))) (.call 15 [(.inl 0), (.inl 1)] (.cons (.var 1) (.cons (.k (.int (12))) .nil)))) .nil)))))) (.cons (.asg (.name 6) (.call 22 [(.inl 0)] (.cons (.var 5) .nil))) (.cons (.ifS (.not_ (.call 18 [(.inl 0), (.inl 1)] (.cons (.lst (.cons (.call 8 [(.inl 0)] (.cons (.var 5) .nil)) (.cons (.call 12 [(.inl 0)] (.cons (.var 6) .nil)) (.cons (.call 8 [(.inl 0)] (.cons (.var 5) .nil)) (.cons (.call 12 [(.inl 0)] (.cons (.var 6) .nil)) .nil))))) (.cons (.lst (.cons (.var 6) (.cons (.var 5) (.cons (.var 6) (.cons (.var 5) .nil))))) .nil)))) (.cons (.ret (.k (.bl false))) .nil) .nil) (.cons (.forS (.name 7) (.range (.cons (.k (.int (8))) .nil)) bentBody) .nil)))))
theorem min2_nat {a b : Nat} {S : Store} : opn .min2 [.int (a : Int), .int (b : Int)] S = .ok (.int ((min a b : Nat) : Int)) S := by
  show Res.ok (PV.int (if (b : Int) < (a : Int) then (b : Int) else (a : Int))) S = _
  congr 2
  split <;> omega
theorem turn_body {N : Nat} {s : PV} {v2 v3 v4 v5 v6 v7 v8 v9 : Option PV} {S : Store} (h : Dst N [] S) (hN : N + 20000 ≤ 900000000) :
    ∃ v3' v4' v5' v6' v7' v8' v9' S', Dst (N + 1000) [] S' ∧ evalSs (CC 19) turnBody (lEnv s v2 v3 v4 v5 v6 v7 v8 v9) S = .nx (lEnv s v2 v3' v4' v5' v6' v7' v8' v9') S' := by
  obtain ⟨b0, S1, p1, p2, p3⟩ := draw (k := 17) (L := 9) h (by omega) (by omega) (by omega)
  obtain ⟨t0, S2, q1, q2, q3⟩ := draw (k := 17) (L := 3) p2 (by omega) (by omega) (by omega)
  obtain ⟨n0, S3, r1, r2, r3⟩ := draw (k := 17) (L := 12) q2 (by omega) (by omega) (by omega)
  have p3' : GG 19 15 [PV.ref 0, PV.int 9] S = .ok (.int (b0 : Int)) S1 := p3
  have q3' : GG 19 15 [PV.ref 0, PV.int 3] S1 = .ok (.int (t0 : Int)) S2 := q3
  have r3' : GG 19 15 [PV.ref 0, PV.int 12] S2 = .ok (.int (n0 : Int)) S3 := r3
  obtain ⟨t, ht, hbt, ht2, ht3⟩ : ∃ t : Nat, t ≤ 6 ∧ (2 + b0) ^ t ≤ 10 ∧ ((2 + b0 < 4 → t = t0) ∧ (¬ 2 + b0 < 4 → t = min t0 1)) ∧ t ≤ 2 := by
    by_cases q : 2 + b0 < 4
    · refine ⟨t0, by omega, ?_, ⟨fun _ => rfl, fun z => absurd q z⟩, by omega⟩
      have hb : 2 + b0 = 2 ∨ 2 + b0 = 3 := by omega
      have ht : t0 = 0 ∨ t0 = 1 ∨ t0 = 2 := by omega
      rcases hb with e | e <;> rw [e] <;> rcases ht with rfl | rfl | rfl <;> decide
    · refine ⟨min t0 1, by omega, ?_, ⟨fun z => absurd z q, fun _ => rfl⟩, by omega⟩
      have ht : min t0 1 = 0 ∨ min t0 1 = 1 := by omega
      rcases ht with e | e <;> rw [e]
      · simp
      · rw [Nat.pow_one]; omega
  obtain ⟨rows, lets, S4, u1, u2, u3, u4, u5⟩ := law_reader_ok (k := 16) (b := 2 + b0) (t := t) (n := 1 + n0) r2 (by omega) (by omega) (by omega) ht hbt (by omega) (by omega)
  have u5' : GG 19 21 [.ref 0, .int ((2 : Int) + (b0 : Int)), .int (t : Int), .int ((1 : Int) + (n0 : Int))] S3 = .ok (rdP (.int ((2 + b0 : Nat) : Int)) (.int t) rows lets) S4 := u5
  have hsm := text_small u4 u3 (by omega)
  have hw := u1.wf
  have e1 := law_text_ok (k := 18) hw u4
  have e2 := reader_text_ok (k := 13) hw u4
  rw [if_pos (by omega)] at e2
  obtain ⟨g1, g2⟩ := read_text u4
  have e3 := read_reader_ok (k := 14) (l := textL (2 + b0) t rows lets) hw (by omega)
  rw [if_pos g1, g2] at e3
  have hlk : Lk 4 (.lst [tx (textL (2 + b0) t rows lets), rdP (.int ((2 + b0 : Nat) : Int)) (.int t) rows lets, tx (textL (2 + b0) t rows lets), rdP (.int ((2 + b0 : Nat) : Int)) (.int t) rows lets]) := by
    have hrd : Lk 3 (rdP (.int ((2 + b0 : Nat) : Int)) (.int t) rows lets) := Lk_rd (n := 0) (by omega) (by have := u4.ll; omega) fun row hr => by have := u3 row hr; omega
    refine Lk_lst (by simp) fun x hx => ?_
    simp only [List.mem_cons, List.not_mem_nil, or_false] at hx
    rcases hx with rfl | rfl | rfl | rfl
    · exact Lk_str
    · exact hrd
    · exact Lk_str
    · exact hrd
  have e4 := like_ok (n := 4) (k := 14) hw hlk
  generalize textL (2 + b0) t rows lets = l0 at *
  generalize hrd : rdP (.int ((2 + b0 : Nat) : Int)) (.int t) rows lets = rd at *
  have e1' : GG 19 22 [rd] S4 = .ok (tx l0) S4 := e1
  have e2' : GG 19 8 [rd] S4 = .ok (tx l0) S4 := e2
  have e3' : GG 19 12 [tx l0] S4 = .ok rd S4 := e3
  have e4' : GG 19 18 [.lst [tx l0, rd, tx l0, rd], .lst [tx l0, rd, tx l0, rd]] S4 = .ok (.bl true) S4 := e4
  have s1 : evalS (CC 19) (.asg (.tup [3, 4]) (.tup (.cons (.bin .add (.k (.int (2))) (.call 15 [(.inl 0), (.inl 1)] (.cons (.var 1) (.cons (.k (.int (9))) .nil)))) (.cons (.call 15 [(.inl 0), (.inl 1)] (.cons (.var 1) (.cons (.k (.int (3))) .nil))) .nil)))) (lEnv s v2 v3 v4 v5 v6 v7 v8 v9) S = .nx (lEnv s v2 (some (.int ((2 : Int) + (b0 : Int)))) (some (.int (t0 : Int))) v5 v6 v7 v8 v9) S2 := by
    simp -implicitDefEqProofs [permP, p3', q3', bindT, sizeLine]
  have c1 : evalE (CC 19) (.ite (.bin .lt (.var 3) (.k (.int (4)))) (.var 4) (.bi .min2 (.cons (.var 4) (.cons (.k (.int (1))) .nil)))) (lEnv s v2 (some (.int ((2 : Int) + (b0 : Int)))) (some (.int (t0 : Int))) v5 v6 v7 v8 v9) S2 = .ok (.int (t : Int)) S2 := by
    by_cases q : 2 + b0 < 4
    · have z : ((2 : Int) + (b0 : Int) < 4) := by omega
      have e : t = t0 := ht2.1 q
      simp [z, e]
    · have z : ¬ ((2 : Int) + (b0 : Int) < 4) := by omega
      have e := ht2.2 q
      have m : opn .min2 [.int (t0 : Int), .int 1] S2 = .ok (.int ((min t0 1 : Nat) : Int)) S2 := min2_nat (b := 1)
      rw [← e] at m
      simp [z, m]
  have s2 : evalS (CC 19) (.asg (.name 5) (.call 21 [(.inl 0), (.inl 1), (.inl 2), (.inl 3)] (.cons (.var 1) (.cons (.var 3) (.cons (.ite (.bin .lt (.var 3) (.k (.int (4)))) (.var 4) (.bi .min2 (.cons (.var 4) (.cons (.k (.int (1))) .nil)))) (.cons (.bin .add (.k (.int (1))) (.call 15 [(.inl 0), (.inl 1)] (.cons (.var 1) (.cons (.k (.int (12))) .nil)))) .nil)))))) (lEnv s v2 (some (.int ((2 : Int) + (b0 : Int)))) (some (.int (t0 : Int))) v5 v6 v7 v8 v9) S2 = .nx (lEnv s v2 (some (.int ((2 : Int) + (b0 : Int)))) (some (.int (t0 : Int))) (some rd) v6 v7 v8 v9) S4 := by
    rw [eS_asg, eE_call, eEs_cons, eE_var]
    simp only [List.getElem?_cons_succ, List.getElem?_cons_zero, Res.bind_ok]
    rw [eEs_cons, eE_var]
    simp only [List.getElem?_cons_succ, List.getElem?_cons_zero, Res.bind_ok]
    rw [eEs_cons, c1]
    simp -implicitDefEqProofs [permP, r3', u5', bindT]
  have s3 : evalS (CC 19) (.asg (.name 6) (.call 22 [(.inl 0)] (.cons (.var 5) .nil))) (lEnv s v2 (some (.int ((2 : Int) + (b0 : Int)))) (some (.int (t0 : Int))) (some rd) v6 v7 v8 v9) S4 = .nx (lEnv s v2 (some (.int ((2 : Int) + (b0 : Int)))) (some (.int (t0 : Int))) (some rd) (some (tx l0)) v7 v8 v9) S4 := by
    simp -implicitDefEqProofs [permP, e1', bindT]
  have s4 : evalS (CC 19) (.ifS (.not_ (.call 18 [(.inl 0), (.inl 1)] (.cons (.lst (.cons (.call 8 [(.inl 0)] (.cons (.var 5) .nil)) (.cons (.call 12 [(.inl 0)] (.cons (.var 6) .nil)) (.cons (.call 8 [(.inl 0)] (.cons (.var 5) .nil)) (.cons (.call 12 [(.inl 0)] (.cons (.var 6) .nil)) .nil))))) (.cons (.lst (.cons (.var 6) (.cons (.var 5) (.cons (.var 6) (.cons (.var 5) .nil))))) .nil)))) (.cons (.ret (.k (.bl false))) .nil) .nil) (lEnv s v2 (some (.int ((2 : Int) + (b0 : Int)))) (some (.int (t0 : Int))) (some rd) (some (tx l0)) v7 v8 v9) S4 = .nx (lEnv s v2 (some (.int ((2 : Int) + (b0 : Int)))) (some (.int (t0 : Int))) (some rd) (some (tx l0)) v7 v8 v9) S4 := by
    simp -implicitDefEqProofs [permP, e2', e3', e4', bindT, sizeLine]
  have hl := forL_k (t := .name 7) (g := none) (f := fun r2 S2 => evalSs (CC 19) bentBody r2 S2) (xs := (List.range 8).map fun (k : Nat) => .int (k : Int)) (r := lEnv s v2 (some (.int ((2 : Int) + (b0 : Int)))) (some (.int (t0 : Int))) (some rd) (some (tx l0)) v7 v8 v9) (S := S4)
    (fun i r S' => ∃ (v7 v8 v9 : Option PV), Dst (N + 600 + i * 10) [] S' ∧ r = lEnv s v2 (some (.int ((2 : Int) + (b0 : Int)))) (some (.int (t0 : Int))) (some rd) (some (tx l0)) v7 v8 v9) (fun _ _ => False)
    (fun i hi r S' hI => by
      obtain ⟨w7, w8, w9, a1, rfl⟩ := hI
      have hi' : i < 8 := by simpa using hi
      obtain ⟨x8, x9, S5, c1, c2⟩ := bent_body (s := s) (v2 := v2) (v3 := some (.int ((2 : Int) + (b0 : Int)))) (v4 := some (.int (t0 : Int))) (v5 := some rd) (v7 := some (.int (i : Int))) (v8 := w8) (v9 := w9) a1 (by omega) hsm
      exact ⟨lEnv s v2 (some (.int ((2 : Int) + (b0 : Int)))) (some (.int (t0 : Int))) (some rd) (some (tx l0)) (some (.int (i : Int))) w8 w9, by simp [bindT], .inl ⟨_, _, .inl c2, trivial, _, _, _, c1.mono (by omega), rfl⟩⟩) ⟨v7, v8, v9, u1.mono (by omega), rfl⟩
  rcases hl with ⟨r', S', e, w7, w8, w9, a1, rfl⟩ | ⟨_, _, _, hf⟩
  · have hr := eI_rng (C := CC 19) (S := S4) (r := lEnv s v2 (some (.int ((2 : Int) + (b0 : Int)))) (some (.int (t0 : Int))) (some rd) (some (tx l0)) v7 v8 v9) (e := .k (.int 8)) (n := 8) (by simp) (by omega)
    rw [rng_len] at a1
    refine ⟨some (.int ((2 : Int) + (b0 : Int))), some (.int (t0 : Int)), some rd, some (tx l0), w7, w8, w9, S', a1.mono (by omega), ?_⟩
    unfold turnBody
    rw [eSs_cons, s1, SRes.seq_nx, eSs_cons, s2, SRes.seq_nx, eSs_cons, s3, SRes.seq_nx, eSs_cons, s4, SRes.seq_nx, eSs_cons, eS_for, hr, Res.to_ok]
    dsimp only
    rw [e, SRes.seq_nx, eSs_nil]
  · exact hf.elim
end Dg
end

section
set_option Elab.async false
set_option linter.all false
set_option maxRecDepth 100000
set_option maxHeartbeats 2000000
namespace Dg
open PySem L2
abbrev lst3 : MS := (.asg (.name 10) (.bin .add (.k (.int (3330))) (.call 15 [(.inl 0), (.inl 1)] (.cons (.var 1) (.cons (.k (.int (2))) .nil)))))
abbrev lst4 : MS := (.asg (.name 11) (.tup (.cons (.k (.int (2))) (.cons (.k (.int (0))) (.cons (.bin .mul (.tup (.cons (.tup (.cons (.k (.int (0))) .nil)) .nil)) (.var 10)) (.cons (.bin .mul (.tup (.cons (.k (.bl true)) .nil)) (.var 10)) .nil))))))
abbrev lst5 : MS := (.asg (.name 6) (.call 22 [(.inl 0)] (.cons (.tup (.cons (.k (.int (2))) (.cons (.k (.int (0))) (.cons (.bin .mul (.tup (.cons (.tup (.cons (.k (.int (0))) .nil)) .nil)) (.var 10)) (.cons (.bin .mul (.tup (.cons (.k (.bl true)) .nil)) (.var 10)) .nil))))) .nil)))
abbrev lst6 : MS := (.asg (.name 12) (.bin .add (.k (.int (2498))) (.call 15 [(.inl 0), (.inl 1)] (.cons (.var 1) (.cons (.k (.int (2))) .nil)))))
abbrev lst7 : MS := (.asg (.name 13) (.tup (.cons (.k (.int (2))) (.cons (.k (.int (1))) (.cons (.bin .mul (.tup (.cons (.tup (.cons (.k (.int (0))) (.cons (.k (.int (0))) .nil))) .nil)) (.var 12)) (.cons (.bin .mul (.tup (.cons (.k (.bl true)) .nil)) (.var 12)) .nil))))))
abbrev lst8 : MS := (.asg (.name 14) (.bin .add (.k (.int (5))) (.call 15 [(.inl 0), (.inl 1)] (.cons (.var 1) (.cons (.k (.int (2))) .nil)))))
abbrev lst9 : MS := (.asg (.name 15) (.tup (.cons (.k (.int (2))) (.cons (.k (.int (0))) (.cons (.bin .add (.bin .mul (.tup (.cons (.tup (.cons (.k (.int (0))) .nil)) .nil)) (.bin .sub (.k (.int (3330))) (.var 14))) (.bin .mul (.tup (.cons (.tup (.cons (.k (.int (10))) .nil)) .nil)) (.var 14))) (.cons (.bin .mul (.tup (.cons (.k (.bl true)) .nil)) (.k (.int (3330)))) .nil))))))
abbrev lst10 : MS := (.asg (.name 9) (.ite (.bin .le (.bi .len (.cons (.call 22 [(.inl 0)] (.cons (.var 15) .nil)) .nil)) (.k (.int (20000)))) (.lst (.cons (.k (.str (Str.ofString "told"))) (.cons (.call 22 [(.inl 0)] (.cons (.var 15) .nil)) .nil))) (.lst (.cons (.k (.str (Str.ofString "many"))) (.cons (.k (.int (20000))) .nil)))))
abbrev lst11 : MS := (.ifS (.not_ (.call 18 [(.inl 0), (.inl 1)] (.cons (.call 27 [(.inl 0)] (.cons (.var 15) .nil)) (.cons (.var 9) .nil)))) (.cons (.ret (.k (.bl false))) .nil) .nil)
abbrev lst12 : MS := (.asg (.name 16) (.bin .add (.k (.str (Str.ofString "base 2 tracks 0\nyes "))) (.bin .mul (.call 17 [(.inl 0), (.inl 1)] (.cons (.var 1) (.cons (.lst (.cons (.k (.str (Str.ofString "1"))) (.cons (.k (.str (Str.ofString "9"))) .nil))) .nil))) (.call 17 [(.inl 0), (.inl 1)] (.cons (.var 1) (.cons (.lst (.cons (.k (.int (6))) (.cons (.k (.int (1001))) (.cons (.k (.int (4300))) (.cons (.k (.int (4301))) (.cons (.k (.int (15000))) .nil)))))) .nil))))))
abbrev lst13 : MS := (.ifS (.not_ (.call 18 [(.inl 0), (.inl 1)] (.cons (.lst (.cons (.call 26 [(.inl 0)] (.cons (.var 16) .nil)) (.cons (.call 26 [(.inl 0)] (.cons (.bin .add (.bin .add (.k (.str (Str.ofString "base "))) (.bin .mul (.k (.str (Str.ofString "2"))) (.k (.int (4301))))) (.k (.str (Str.ofString " tracks 0\nyes 0")))) .nil)) .nil))) (.cons (.lst (.cons (.lst (.cons (.k (.int (0))) .nil)) (.cons (.lst (.cons (.k (.int (0))) .nil)) .nil))) .nil)))) (.cons (.ret (.k (.bl false))) .nil) .nil)
abbrev lst14 : MS := (.asg (.name 17) (.lst (.cons (.call 27 [(.inl 0)] (.cons (.var 11) .nil)) (.cons (.call 27 [(.inl 0)] (.cons (.var 13) .nil)) .nil))))
abbrev lst15 : MS := (.asg (.name 18) (.lst (.cons (.ite (.bin .le (.bi .len (.cons (.var 6) .nil)) (.k (.int (20000)))) (.lst (.cons (.k (.str (Str.ofString "told"))) (.cons (.var 6) .nil))) (.lst (.cons (.k (.str (Str.ofString "many"))) (.cons (.k (.int (20000))) .nil)))) (.cons (.ite (.bin .le (.bi .len (.cons (.call 22 [(.inl 0)] (.cons (.var 13) .nil)) .nil)) (.k (.int (20000)))) (.lst (.cons (.k (.str (Str.ofString "told"))) (.cons (.call 22 [(.inl 0)] (.cons (.var 13) .nil)) .nil))) (.lst (.cons (.k (.str (Str.ofString "many"))) (.cons (.k (.int (20000))) .nil)))) .nil))))
abbrev lst16 : MS := (.ifS (.not_ (.call 18 [(.inl 0), (.inl 1)] (.cons (.var 17) (.cons (.var 18) .nil)))) (.cons (.ret (.k (.bl false))) .nil) .nil)
abbrev lst17 : MS := (.asg (.name 17) (.lst (.cons (.call 26 [(.inl 0)] (.cons (.k .non) .nil)) (.cons (.call 26 [(.inl 0)] (.cons (.k (.int (5))) .nil)) (.cons (.call 26 [(.inl 0)] (.cons (.lst .nil) .nil)) (.cons (.call 26 [(.inl 0)] (.cons (.k (.str (Str.ofString ""))) .nil)) (.cons (.call 26 [(.inl 0)] (.cons (.k (.str (Str.ofString "base 2 tracks 0"))) .nil)) (.cons (.call 27 [(.inl 0)] (.cons (.k .non) .nil)) .nil))))))))
abbrev lst18 : MS := (.ret (.call 18 [(.inl 0), (.inl 1)] (.cons (.var 17) (.cons (.lst (.cons (.lst (.cons (.k .non) .nil)) (.cons (.lst (.cons (.k .non) .nil)) (.cons (.lst (.cons (.k .non) .nil)) (.cons (.lst (.cons (.k (.int (0))) .nil)) (.cons (.lst (.cons (.k (.int (0))) .nil)) (.cons (.lst (.cons (.k (.str (Str.ofString "reader"))) (.cons (.k (.str (Str.ofString "form"))) .nil))) .nil))))))) .nil))))

def XX (l : List Nat) : PV := if l.length ≤ 20000 then .lst [.str (Str.ofString "told"), tx l] else .lst [.str (Str.ofString "many"), .int 20000]
def rd2 (t : Nat) (rows : List (List Int)) : PV := rdP (.int ((2 : Nat) : Int)) (.int (t : Int)) rows (List.replicate rows.length true)
def tl2 (t : Nat) (rows : List (List Int)) : List Nat := textL 2 t rows (List.replicate rows.length true)
theorem xx_len {l : List Nat} (h : l.length ≤ 16777216) {C : Cxt} {r : PEnv} {S : Store} {e : ME} (he : evalE C e r S = .ok (tx l) S) : evalE C (.ite (.bin .le (.bi .len (.cons e .nil)) (.k (.int (20000)))) (.lst (.cons (.k (.str (Str.ofString "told"))) (.cons e .nil))) (.lst (.cons (.k (.str (Str.ofString "many"))) (.cons (.k (.int (20000))) .nil)))) r S = .ok (XX l) S := by
  have hl := len_SS (St := S) h
  unfold XX
  by_cases q : l.length ≤ 20000
  · rw [if_pos q]
    have q2 : ((l.length : Int) ≤ 20000) := by omega
    generalize tx l = tl at *
    simp -implicitDefEqProofs [he, hl, q2, sizeLine]
  · rw [if_neg q]
    have q2 : ¬ ((l.length : Int) ≤ 20000) := by omega
    generalize tx l = tl at *
    simp -implicitDefEqProofs [he, hl, q2, sizeLine]
theorem rd2_of {t n : Nat} {rows : List (List Int)} (h : rows.length = n) : rd2 t rows = .tup [.int 2, .int (t : Int), .tup (rows.map rowP), .tup (List.replicate n (.bl true))] := by
  unfold rd2 rdP
  rw [h, List.map_replicate]
  rfl
structure Good2 (t : Nat) (rows : List (List Int)) : Prop where
  t1 : t ≤ 1
  ne : rows ≠ []
  n : rows.length ≤ 5000
  r : ∀ row ∈ rows, row.length = 2 ^ t ∧ ∀ i ∈ row, 0 ≤ i ∧ i < rows.length
theorem Good2.vr {t : Nat} {rows : List (List Int)} (h : Good2 t rows) : VR 2 t rows (List.replicate rows.length true) := VR_true h.t1 h.ne h.n h.r
theorem good_text {t : Nat} {rows : List (List Int)} {S : Store} (h : Good2 t rows) (hS : Wf S) : GG 19 22 [rd2 t rows] S = .ok (tx (tl2 t rows)) S := law_text_ok (k := 18) hS h.vr
theorem good_written {t : Nat} {rows : List (List Int)} {S : Store} (h : Good2 t rows) (hS : Wf S) : GG 19 27 [rd2 t rows] S = .ok (XX (tl2 t rows)) S := written_ok (k := 12) hS h.vr
theorem good_len {t : Nat} {rows : List (List Int)} (h : Good2 t rows) : (tl2 t rows).length ≤ 16777216 := text_len h.vr
theorem good_rep {t n : Nat} {row : List Int} (ht : t ≤ 1) (hn : 2 ≤ n) (hn2 : n ≤ 5000) (hr : row.length = 2 ^ t ∧ ∀ i ∈ row, i = 0) : Good2 t (List.replicate n row) := by
  refine ⟨ht, ?_, by simpa using hn2, fun r hm => ?_⟩
  · intro e
    have := congrArg List.length e
    simp at this; omega
  · rw [List.mem_replicate] at hm
    obtain ⟨_, rfl⟩ := hm
    refine ⟨hr.1, fun i hi => ?_⟩
    rw [hr.2 i hi, List.length_replicate]
    omega
theorem good_just {f : Nat} (h : f < 2) : Good2 0 (List.replicate (3325 - f) [0] ++ List.replicate (5 + f) [10]) := by
  have hl : (List.replicate (3325 - f) [(0 : Int)] ++ List.replicate (5 + f) [10]).length = 3330 := by simp; omega
  refine ⟨by omega, ?_, by rw [hl]; decide, fun r hm => ?_⟩
  · intro e
    rw [e] at hl; simp at hl
  · rw [hl]
    rcases List.mem_append.mp hm with hm | hm <;> rw [List.mem_replicate] at hm <;> obtain ⟨_, rfl⟩ := hm
    · exact ⟨rfl, fun i hi => by simp at hi; subst hi; omega⟩
    · exact ⟨rfl, fun i hi => by simp at hi; subst hi; omega⟩
theorem Lk_XX {n : Nat} {l : List Nat} : Lk (n + 1) (XX l) := Lk_told
theorem s_far : PV.str (Str.ofString "base 2 tracks 0\nyes ") = tx [98, 97, 115, 101, 32, 50, 32, 116, 114, 97, 99, 107, 115, 32, 48, 10, 121, 101, 115, 32] := by rfl
theorem s_bad : PV.str (Str.ofString " tracks 0\nyes 0") = tx [32, 116, 114, 97, 99, 107, 115, 32, 48, 10, 121, 101, 115, 32, 48] := by rfl
theorem s_two : PV.str (Str.ofString "2") = tx [50] := by rfl
theorem s_head : PV.str (Str.ofString "base 2 tracks 0") = tx [98, 97, 115, 101, 32, 50, 32, 116, 114, 97, 99, 107, 115, 32, 48] := by rfl
theorem s_none : PV.str (Str.ofString "") = tx [] := by rfl
theorem s_1 : PV.str (Str.ofString "1") = tx [49] := by rfl
theorem s_9 : PV.str (Str.ofString "9") = tx [57] := by rfl
def farM (m : Nat) : Prop := m = 6 ∨ m = 1001 ∨ m = 4300 ∨ m = 4301 ∨ m = 15000
theorem far_bad {d m : Nat} (hd : d = 49 ∨ d = 57) (hm : farM m) : readX ([98, 97, 115, 101, 32, 50, 32, 116, 114, 97, 99, 107, 115, 32, 48, 10, 121, 101, 115, 32] ++ List.replicate m d) = .lst [.int 0] := by
  have h10 : 10 ∉ List.replicate m d := by
    rw [List.mem_replicate]; omega
  have h32 : 32 ∉ List.replicate m d := by
    rw [List.mem_replicate]; omega
  have hn : inR 1 (numV (List.replicate m d)) = false := by
    rcases hm with rfl | hm
    · rcases hd with rfl | rfl <;> decide +kernel
    · rw [numV_long]
      · rfl
      · rw [List.length_replicate]; omega
  have e := due_bad_line (l := []) (h0 := [98, 97, 115, 101, 32, 50, 32, 116, 114, 97, 99, 107, 115, 32, 48]) (w := List.replicate m d) (by decide) h10 h32 hn
  have e2 : [98, 97, 115, 101, 32, 50, 32, 116, 114, 97, 99, 107, 115, 32, 48] ++ (10 :: (yesL ++ (32 :: List.replicate m d))) = [98, 97, 115, 101, 32, 50, 32, 116, 114, 97, 99, 107, 115, 32, 48, 10, 121, 101, 115, 32] ++ List.replicate m d := rfl
  rw [e2] at e
  unfold readX
  rw [e]
  rfl
theorem bad_bad : readX ([98, 97, 115, 101, 32] ++ List.replicate 4301 50 ++ [32, 116, 114, 97, 99, 107, 115, 32, 48, 10, 121, 101, 115, 32, 48]) = .lst [.int 0] := by
  unfold readX
  rw [due_bad_base (r := []) (by rw [List.length_replicate]; decide) (by rw [List.mem_replicate]; omega) (by rw [List.mem_replicate]; omega)]
  rfl
abbrev gEnv (s : PV) (v2 v3 v4 v5 v6 v7 v8 v9 v10 v11 v12 v13 v14 v15 v16 v17 v18 : Option PV) : PEnv := [some s, some (.ref 0), v2, v3, v4, v5, v6, v7, v8, v9, v10, v11, v12, v13, v14, v15, v16, v17, v18]
variable {s : PV} {v2 v3 v4 v5 v6 v7 v8 v9 v10 v11 v12 v13 v14 v15 v16 v17 v18 : Option PV} {S : Store} {N : Nat}
theorem st3 (h : Dst N [] S) (hN : N ≤ 900000000) : ∃ n S', (n = 3330 ∨ n = 3331) ∧ Dst (N + 1) [] S' ∧ evalS (CC 19) lst3 (gEnv s v2 v3 v4 v5 v6 v7 v8 v9 v10 v11 v12 v13 v14 v15 v16 v17 v18) S = .nx (gEnv s v2 v3 v4 v5 v6 v7 v8 v9 (some (.int ((n : Nat) : Int))) v11 v12 v13 v14 v15 v16 v17 v18) S' := by
  obtain ⟨v, S', p1, p2, p3⟩ := draw (k := 17) (L := 2) h (by omega) (by omega) (by omega)
  have p3' : GG 19 15 [PV.ref 0, PV.int 2] S = .ok (.int (v : Int)) S' := p3
  refine ⟨3330 + v, S', by omega, p2, ?_⟩
  simp -implicitDefEqProofs [permP, p3', bindT]
theorem st6 (h : Dst N [] S) (hN : N ≤ 900000000) : ∃ n S', (n = 2498 ∨ n = 2499) ∧ Dst (N + 1) [] S' ∧ evalS (CC 19) lst6 (gEnv s v2 v3 v4 v5 v6 v7 v8 v9 v10 v11 v12 v13 v14 v15 v16 v17 v18) S = .nx (gEnv s v2 v3 v4 v5 v6 v7 v8 v9 v10 v11 (some (.int ((n : Nat) : Int))) v13 v14 v15 v16 v17 v18) S' := by
  obtain ⟨v, S', p1, p2, p3⟩ := draw (k := 17) (L := 2) h (by omega) (by omega) (by omega)
  have p3' : GG 19 15 [PV.ref 0, PV.int 2] S = .ok (.int (v : Int)) S' := p3
  refine ⟨2498 + v, S', by omega, p2, ?_⟩
  simp -implicitDefEqProofs [permP, p3', bindT]
theorem st8 (h : Dst N [] S) (hN : N ≤ 900000000) : ∃ f S', f < 2 ∧ Dst (N + 1) [] S' ∧ evalS (CC 19) lst8 (gEnv s v2 v3 v4 v5 v6 v7 v8 v9 v10 v11 v12 v13 v14 v15 v16 v17 v18) S = .nx (gEnv s v2 v3 v4 v5 v6 v7 v8 v9 v10 v11 v12 v13 (some (.int ((5 + f : Nat) : Int))) v15 v16 v17 v18) S' := by
  obtain ⟨v, S', p1, p2, p3⟩ := draw (k := 17) (L := 2) h (by omega) (by omega) (by omega)
  have p3' : GG 19 15 [PV.ref 0, PV.int 2] S = .ok (.int (v : Int)) S' := p3
  refine ⟨v, S', by omega, p2, ?_⟩
  simp -implicitDefEqProofs [permP, p3', bindT]
theorem rd2_rep {t n : Nat} {row : List Int} : rd2 t (List.replicate n row) = .tup [.int 2, .int (t : Int), .tup (List.replicate n (rowP row)), .tup (List.replicate n (.bl true))] := by
  rw [rd2_of (n := n) (by simp), List.map_replicate]
theorem st4 {n : Nat} (hn : n = 3330 ∨ n = 3331) : evalS (CC 19) lst4 (gEnv s v2 v3 v4 v5 v6 v7 v8 v9 (some (.int ((n : Nat) : Int))) v11 v12 v13 v14 v15 v16 v17 v18) S = .nx (gEnv s v2 v3 v4 v5 v6 v7 v8 v9 (some (.int ((n : Nat) : Int))) (some (rd2 0 (List.replicate n [0]))) v12 v13 v14 v15 v16 v17 v18) S := by
  have m1 := mul_tup (x := .tup [.int 0]) (n := n) (S := S) (by omega) (by omega)
  have m2 := mul_tup (x := .bl true) (n := n) (S := S) (by omega) (by omega)
  rw [rd2_rep]
  unfold rowP
  generalize (n : Int) = z at *
  simp -implicitDefEqProofs [m1, m2, bindT, sizeLine]
theorem st5 {n : Nat} (hn : n = 3330 ∨ n = 3331) (hS : Wf S) : evalS (CC 19) lst5 (gEnv s v2 v3 v4 v5 v6 v7 v8 v9 (some (.int ((n : Nat) : Int))) v11 v12 v13 v14 v15 v16 v17 v18) S = .nx (gEnv s v2 v3 v4 v5 (some (tx (tl2 0 (List.replicate n [0])))) v7 v8 v9 (some (.int ((n : Nat) : Int))) v11 v12 v13 v14 v15 v16 v17 v18) S := by
  have m1 := mul_tup (x := .tup [.int 0]) (n := n) (S := S) (by omega) (by omega)
  have m2 := mul_tup (x := .bl true) (n := n) (S := S) (by omega) (by omega)
  have e := good_text (good_rep (t := 0) (n := n) (row := [0]) (by omega) (by omega) (by omega) (by simp)) hS
  rw [rd2_rep] at e
  unfold rowP at e
  generalize tl2 0 (List.replicate n [0]) = q at *
  generalize (n : Int) = z at *
  have e' : GG 19 22 [.tup [.int 2, .int 0, .tup (List.replicate n (.tup [.int 0])), .tup (List.replicate n (.bl true))]] S = .ok (tx q) S := e
  clear e
  simp -implicitDefEqProofs [permP, m1, m2, bindT, sizeLine, e']
theorem st7 {n : Nat} (hn : n = 2498 ∨ n = 2499) : evalS (CC 19) lst7 (gEnv s v2 v3 v4 v5 v6 v7 v8 v9 v10 v11 (some (.int ((n : Nat) : Int))) v13 v14 v15 v16 v17 v18) S = .nx (gEnv s v2 v3 v4 v5 v6 v7 v8 v9 v10 v11 (some (.int ((n : Nat) : Int))) (some (rd2 1 (List.replicate n [0, 0]))) v14 v15 v16 v17 v18) S := by
  have m1 := mul_tup (x := .tup [.int 0, .int 0]) (n := n) (S := S) (by omega) (by omega)
  have m2 := mul_tup (x := .bl true) (n := n) (S := S) (by omega) (by omega)
  rw [rd2_rep]
  unfold rowP
  generalize (n : Int) = z at *
  simp -implicitDefEqProofs [m1, m2, bindT, sizeLine]
theorem st9 {f : Nat} (hf : f < 2) : evalS (CC 19) lst9 (gEnv s v2 v3 v4 v5 v6 v7 v8 v9 v10 v11 v12 v13 (some (.int ((5 + f : Nat) : Int))) v15 v16 v17 v18) S = .nx (gEnv s v2 v3 v4 v5 v6 v7 v8 v9 v10 v11 v12 v13 (some (.int ((5 + f : Nat) : Int))) (some (rd2 0 (List.replicate (3325 - f) [0] ++ List.replicate (5 + f) [10]))) v16 v17 v18) S := by
  have m1 := mul_tup (x := .tup [.int 0]) (n := 3325 - f) (S := S) (by omega) (by omega)
  have m2 := mul_tup (x := .tup [.int 10]) (n := 5 + f) (S := S) (by omega) (by omega)
  have m3 : op2 .mul (.tup [.bl true]) (.int 3330) S = _ := mul_tup (x := .bl true) (n := 3330) (S := S) (by omega) (by omega)
  have m4 := add_TT (xs := List.replicate (3325 - f) (.tup [.int 0])) (ys := List.replicate (5 + f) (.tup [.int 10])) (St := S) (by simp; omega)
  have hz : ((3325 - f : Nat) : Int) = 3330 - ((5 + f : Nat) : Int) := by omega
  rw [hz] at m1
  rw [rd2_of (n := 3330) (by simp; omega), List.map_append, List.map_replicate, List.map_replicate]
  unfold rowP
  generalize ((5 + f : Nat) : Int) = z at *
  generalize hA : List.replicate (3325 - f) (PV.tup [.int 0]) = A at *
  generalize hB : List.replicate (5 + f) (PV.tup [.int 10]) = B at *
  generalize hC : List.replicate 3330 (PV.bl true) = D at *
  simp -implicitDefEqProofs only [List.map_cons, List.map_nil, hA, hB]
  simp -implicitDefEqProofs [m1, m2, m3, m4, bindT, sizeLine]
theorem st10 {f : Nat} (hf : f < 2) (hS : Wf S) {rd : PV} {l : List Nat} (hrd : GG 19 22 [rd] S = .ok (tx l) S) (hl : l.length ≤ 16777216) : evalS (CC 19) lst10 (gEnv s v2 v3 v4 v5 v6 v7 v8 v9 v10 v11 v12 v13 v14 (some rd) v16 v17 v18) S = .nx (gEnv s v2 v3 v4 v5 v6 v7 v8 (some (XX l)) v10 v11 v12 v13 v14 (some rd) v16 v17 v18) S := by
  have e := xx_len (C := CC 19) (r := gEnv s v2 v3 v4 v5 v6 v7 v8 v9 v10 v11 v12 v13 v14 (some rd) v16 v17 v18) (S := S) (e := .call 22 [(.inl 0)] (.cons (.var 15) .nil)) hl (by
    generalize tx l = tl at *
    simp -implicitDefEqProofs [permP, hrd])
  rw [eS_asg, e]
  rfl
theorem st11 (hS : Wf S) {rd : PV} {l : List Nat} (hrd : GG 19 27 [rd] S = .ok (XX l) S) : evalS (CC 19) lst11 (gEnv s v2 v3 v4 v5 v6 v7 v8 (some (XX l)) v10 v11 v12 v13 v14 (some rd) v16 v17 v18) S = .nx (gEnv s v2 v3 v4 v5 v6 v7 v8 (some (XX l)) v10 v11 v12 v13 v14 (some rd) v16 v17 v18) S := by
  have e : GG 19 18 [XX l, XX l] S = .ok (.bl true) S := like_ok (n := 1) (k := 17) hS Lk_XX
  generalize XX l = x at *
  simp -implicitDefEqProofs [permP, hrd, e]
theorem st12 (h : Dst N [] S) (hN : N + 10 ≤ 900000000) : ∃ d m S', (d = 49 ∨ d = 57) ∧ farM m ∧ Dst (N + 2) [] S' ∧ evalS (CC 19) lst12 (gEnv s v2 v3 v4 v5 v6 v7 v8 v9 v10 v11 v12 v13 v14 v15 v16 v17 v18) S = .nx (gEnv s v2 v3 v4 v5 v6 v7 v8 v9 v10 v11 v12 v13 v14 v15 (some (tx ([98, 97, 115, 101, 32, 50, 32, 116, 114, 97, 99, 107, 115, 32, 48, 10, 121, 101, 115, 32] ++ List.replicate m d))) v17 v18) S' := by
  obtain ⟨v, S1, p1, p2, p3⟩ := law_of_ok (k := 16) (xs := [.str (Str.ofString "1"), .str (Str.ofString "9")]) h (by omega) (by simp) (by simp) (fun n => by simp [belows, below])
  obtain ⟨w, S2, q1, q2, q3⟩ := law_of_ok (k := 16) (xs := [.int 6, .int 1001, .int 4300, .int 4301, .int 15000]) p2 (by omega) (by simp) (by simp) (fun n => by simp [belows, below])
  have hd : ∃ d : Nat, (d = 49 ∨ d = 57) ∧ v = tx [d] := by
    simp only [List.mem_cons, List.not_mem_nil, or_false] at p1
    rcases p1 with rfl | rfl
    · exact ⟨49, .inl rfl, s_1⟩
    · exact ⟨57, .inr rfl, s_9⟩
  have hm : ∃ m : Nat, farM m ∧ w = .int (m : Int) := by
    simp only [List.mem_cons, List.not_mem_nil, or_false] at q1
    rcases q1 with rfl | rfl | rfl | rfl | rfl
    · exact ⟨6, .inl rfl, rfl⟩
    · exact ⟨1001, .inr (.inl rfl), rfl⟩
    · exact ⟨4300, .inr (.inr (.inl rfl)), rfl⟩
    · exact ⟨4301, .inr (.inr (.inr (.inl rfl))), rfl⟩
    · exact ⟨15000, .inr (.inr (.inr (.inr rfl))), rfl⟩
  obtain ⟨d, hd, rfl⟩ := hd
  obtain ⟨m, hm, rfl⟩ := hm
  have hm2 : 2 ≤ m ∧ m ≤ 15000 := by unfold farM at hm; omega
  have m1 := mul_str (c := d) (n := m) (S := S2) hm2.1 (by omega)
  have m2 := add_SS (a := [98, 97, 115, 101, 32, 50, 32, 116, 114, 97, 99, 107, 115, 32, 48, 10, 121, 101, 115, 32]) (b := List.replicate m d) (St := S2) (by simp; omega)
  rw [← s_far] at m2
  have p3' : GG 19 17 [PV.ref 0, .lst [.str (Str.ofString "1"), .str (Str.ofString "9")]] S = .ok (tx [d]) S1 := p3
  have q3' : GG 19 17 [PV.ref 0, .lst [.int 6, .int 1001, .int 4300, .int 4301, .int 15000]] S1 = .ok (.int (m : Int)) S2 := q3
  refine ⟨d, m, S2, hd, hm, q2, ?_⟩
  generalize tx ([98, 97, 115, 101, 32, 50, 32, 116, 114, 97, 99, 107, 115, 32, 48, 10, 121, 101, 115, 32] ++ List.replicate m d) = far at *
  generalize tx (List.replicate m d) = q at *
  generalize tx [d] = q0 at *
  generalize (m : Int) = q4 at *
  simp -implicitDefEqProofs [permP, p3', q3', m1, m2, bindT, sizeLine]
theorem st13 (hS : Wf S) {d m : Nat} (hd : d = 49 ∨ d = 57) (hm : farM m) : evalS (CC 19) lst13 (gEnv s v2 v3 v4 v5 v6 v7 v8 v9 v10 v11 v12 v13 v14 v15 (some (tx ([98, 97, 115, 101, 32, 50, 32, 116, 114, 97, 99, 107, 115, 32, 48, 10, 121, 101, 115, 32] ++ List.replicate m d))) v17 v18) S = .nx (gEnv s v2 v3 v4 v5 v6 v7 v8 v9 v10 v11 v12 v13 v14 v15 (some (tx ([98, 97, 115, 101, 32, 50, 32, 116, 114, 97, 99, 107, 115, 32, 48, 10, 121, 101, 115, 32] ++ List.replicate m d))) v17 v18) S := by
  have hm2 : 2 ≤ m ∧ m ≤ 15000 := by unfold farM at hm; omega
  have e1 := read_x (k := 13) (S := S) (l := [98, 97, 115, 101, 32, 50, 32, 116, 114, 97, 99, 107, 115, 32, 48, 10, 121, 101, 115, 32] ++ List.replicate m d) hS (by simp; omega)
  rw [far_bad hd hm] at e1
  have e2 := read_x (k := 13) (S := S) (l := [98, 97, 115, 101, 32] ++ List.replicate 4301 50 ++ [32, 116, 114, 97, 99, 107, 115, 32, 48, 10, 121, 101, 115, 32, 48]) hS (by simp)
  rw [bad_bad] at e2
  have m1 : op2 .mul (tx [50]) (.int 4301) S = _ := mul_str (c := 50) (n := 4301) (S := S) (by omega) (by omega)
  have m2 := add_SS (a := [98, 97, 115, 101, 32]) (b := List.replicate 4301 50) (St := S) (by simp)
  have m3 := add_SS (a := [98, 97, 115, 101, 32] ++ List.replicate 4301 50) (b := [32, 116, 114, 97, 99, 107, 115, 32, 48, 10, 121, 101, 115, 32, 48]) (St := S) (by simp)
  rw [← s_two] at m1
  rw [← s_base] at m2
  rw [← s_bad] at m3
  have hlk : Lk 2 (.lst [.lst [.int 0], .lst [.int 0]]) := by
    refine Lk_lst (by simp) fun x hx => ?_
    simp only [List.mem_cons, List.not_mem_nil, or_false] at hx
    rcases hx with rfl | rfl <;> exact Lk_lst (by simp) fun y hy => by simp at hy; subst hy; exact Lk_int
  have e3 := like_ok (n := 2) (k := 16) hS hlk
  have e1' : GG 19 26 [tx ([98, 97, 115, 101, 32, 50, 32, 116, 114, 97, 99, 107, 115, 32, 48, 10, 121, 101, 115, 32] ++ List.replicate m d)] S = .ok (.lst [.int 0]) S := e1
  have e2' : GG 19 26 [tx ([98, 97, 115, 101, 32] ++ List.replicate 4301 50 ++ [32, 116, 114, 97, 99, 107, 115, 32, 48, 10, 121, 101, 115, 32, 48])] S = .ok (.lst [.int 0]) S := e2
  have e3' : GG 19 18 [.lst [.lst [.int 0], .lst [.int 0]], .lst [.lst [.int 0], .lst [.int 0]]] S = .ok (.bl true) S := e3
  clear e1 e2 e3
  generalize tx ([98, 97, 115, 101, 32, 50, 32, 116, 114, 97, 99, 107, 115, 32, 48, 10, 121, 101, 115, 32] ++ List.replicate m d) = far at *
  generalize tx ([98, 97, 115, 101, 32] ++ List.replicate 4301 50 ++ [32, 116, 114, 97, 99, 107, 115, 32, 48, 10, 121, 101, 115, 32, 48]) = bad at *
  generalize tx ([98, 97, 115, 101, 32] ++ List.replicate 4301 50) = bad1 at *
  generalize tx (List.replicate 4301 50) = bad2 at *
  simp -implicitDefEqProofs [permP, e1', e2', e3', m1, m2, m3, sizeLine]
theorem st14 {r1 r2 : PV} {x1 x2 : PV} (h1 : GG 19 27 [r1] S = .ok x1 S) (h2 : GG 19 27 [r2] S = .ok x2 S) : evalS (CC 19) lst14 (gEnv s v2 v3 v4 v5 v6 v7 v8 v9 v10 (some r1) v12 (some r2) v14 v15 v16 v17 v18) S = .nx (gEnv s v2 v3 v4 v5 v6 v7 v8 v9 v10 (some r1) v12 (some r2) v14 v15 v16 (some (.lst [x1, x2])) v18) S := by
  simp -implicitDefEqProofs [permP, h1, h2, bindT, sizeLine]
theorem st15 {r2 : PV} {l1 l2 : List Nat} (hl1 : l1.length ≤ 16777216) (hl2 : l2.length ≤ 16777216) (h2 : GG 19 22 [r2] S = .ok (tx l2) S) : evalS (CC 19) lst15 (gEnv s v2 v3 v4 v5 (some (tx l1)) v7 v8 v9 v10 v11 v12 (some r2) v14 v15 v16 v17 v18) S = .nx (gEnv s v2 v3 v4 v5 (some (tx l1)) v7 v8 v9 v10 v11 v12 (some r2) v14 v15 v16 v17 (some (.lst [XX l1, XX l2]))) S := by
  have e1 := xx_len (C := CC 19) (r := gEnv s v2 v3 v4 v5 (some (tx l1)) v7 v8 v9 v10 v11 v12 (some r2) v14 v15 v16 v17 v18) (S := S) (e := .var 6) hl1 (by
    generalize tx l1 = tl at *
    simp)
  have e2 := xx_len (C := CC 19) (r := gEnv s v2 v3 v4 v5 (some (tx l1)) v7 v8 v9 v10 v11 v12 (some r2) v14 v15 v16 v17 v18) (S := S) (e := .call 22 [(.inl 0)] (.cons (.var 13) .nil)) hl2 (by
    generalize tx l1 = tl at *
    generalize tx l2 = tl2 at *
    simp -implicitDefEqProofs [permP, h2])
  rw [eS_asg, eE_lst, eEs_cons, e1, Res.bind_ok, eEs_cons, e2, Res.bind_ok, eEs_nil, Res.bind_ok, Res.bind_ok, Res.bind_ok, if_pos (show [XX l1, XX l2].length ≤ sizeLine from show 2 ≤ sizeLine by decide), Res.to_ok]
  rfl
theorem st16 (hS : Wf S) {l1 l2 : List Nat} : evalS (CC 19) lst16 (gEnv s v2 v3 v4 v5 v6 v7 v8 v9 v10 v11 v12 v13 v14 v15 v16 (some (.lst [XX l1, XX l2])) (some (.lst [XX l1, XX l2]))) S = .nx (gEnv s v2 v3 v4 v5 v6 v7 v8 v9 v10 v11 v12 v13 v14 v15 v16 (some (.lst [XX l1, XX l2])) (some (.lst [XX l1, XX l2]))) S := by
  have hlk : Lk 2 (.lst [XX l1, XX l2]) := by
    refine Lk_lst (by simp) fun x hx => ?_
    simp only [List.mem_cons, List.not_mem_nil, or_false] at hx
    rcases hx with rfl | rfl <;> exact Lk_XX
  have e : GG 19 18 [.lst [XX l1, XX l2], .lst [XX l1, XX l2]] S = .ok (.bl true) S := like_ok (n := 2) (k := 16) hS hlk
  generalize XX l1 = x1 at *
  generalize XX l2 = x2 at *
  simp -implicitDefEqProofs [permP, e]
def endV : PV := .lst [.lst [.non], .lst [.non], .lst [.non], .lst [.int 0], .lst [.int 0], .lst [.str (Str.ofString "reader"), .str (Str.ofString "form")]]
theorem st17 (hS : Wf S) : evalS (CC 19) lst17 (gEnv s v2 v3 v4 v5 v6 v7 v8 v9 v10 v11 v12 v13 v14 v15 v16 v17 v18) S = .nx (gEnv s v2 v3 v4 v5 v6 v7 v8 v9 v10 v11 v12 v13 v14 v15 v16 (some endV) v18) S := by
  have e1 : GG 19 26 [.non] S = .ok (.lst [.non]) S := law_read_exc (k := 18) hS rfl (read_odd (k := 17) hS (.inl rfl))
  have e2 : GG 19 26 [.int 5] S = .ok (.lst [.non]) S := law_read_exc (k := 18) hS rfl (read_odd (k := 17) hS (.inr (.inl ⟨_, rfl⟩)))
  have e3 : GG 19 26 [.lst []] S = .ok (.lst [.non]) S := law_read_exc (k := 18) hS rfl (read_odd (k := 17) hS (.inr (.inr rfl)))
  have e4 : GG 19 26 [.str (Str.ofString "")] S = .ok (.lst [.int 0]) S := by
    have e := read_x (k := 13) (S := S) (l := []) hS (by simp)
    unfold readX at e
    rw [due_nil, if_neg Bool.false_ne_true, ← s_none] at e
    exact e
  have e5 : GG 19 26 [.str (Str.ofString "base 2 tracks 0")] S = .ok (.lst [.int 0]) S := by
    have e := read_x (k := 13) (S := S) (l := [98, 97, 115, 101, 32, 50, 32, 116, 114, 97, 99, 107, 115, 32, 48]) hS (by simp)
    unfold readX at e
    rw [due_head, if_neg Bool.false_ne_true, ← s_head] at e
    exact e
  have e6 : GG 19 27 [.non] S = .ok (.lst [.str (Str.ofString "reader"), .str (Str.ofString "form")]) S := law_written_non (k := 18) hS rfl (reader_text_non (k := 12) hS)
  unfold endV
  simp -implicitDefEqProofs [permP, e1, e2, e3, e4, e5, e6, bindT, sizeLine]
theorem st18 (hS : Wf S) : evalS (CC 19) lst18 (gEnv s v2 v3 v4 v5 v6 v7 v8 v9 v10 v11 v12 v13 v14 v15 v16 (some endV) v18) S = .ret (.bl true) S := by
  have hlk : Lk 2 endV := by
    refine Lk_lst (by simp) fun x hx => ?_
    simp only [List.mem_cons, List.not_mem_nil, or_false] at hx
    rcases hx with rfl | rfl | rfl | rfl | rfl | rfl
    · exact Lk_lst (by simp) fun y hy => by simp at hy; subst hy; exact Lk_non
    · exact Lk_lst (by simp) fun y hy => by simp at hy; subst hy; exact Lk_non
    · exact Lk_lst (by simp) fun y hy => by simp at hy; subst hy; exact Lk_non
    · exact Lk_lst (by simp) fun y hy => by simp at hy; subst hy; exact Lk_int
    · exact Lk_lst (by simp) fun y hy => by simp at hy; subst hy; exact Lk_int
    · refine Lk_lst (by simp) fun y hy => ?_
      simp only [List.mem_cons, List.not_mem_nil, or_false] at hy
      rcases hy with rfl | rfl <;> exact Lk_str
  have e : GG 19 18 [endV, endV] S = .ok (.bl true) S := like_ok (n := 2) (k := 16) hS hlk
  unfold endV at *
  simp -implicitDefEqProofs [permP, e, sizeLine]
end Dg
end

section
set_option Elab.async false
set_option linter.all false
set_option maxRecDepth 100000
set_option maxHeartbeats 2000000
namespace Dg
open PySem L2
abbrev restS : MSs := .cons lst3 (.cons lst4 (.cons lst5 (.cons lst6 (.cons lst7 (.cons lst8 (.cons lst9 (.cons lst10 (.cons lst11 (.cons lst12 (.cons lst13 (.cons lst14 (.cons lst15 (.cons lst16 (.cons lst17 (.cons lst18 .nil)))))))))))))))
theorem rest_ok {s : PV} {v2 v3 v4 v5 v6 v7 v8 v9 : Option PV} {S : Store} {N : Nat} (h : Dst N [] S) (hN : N + 100 ≤ 900000000) : ∃ S', Dst (N + 20) [] S' ∧ evalSs (CC 19) restS (gEnv s v2 v3 v4 v5 v6 v7 v8 v9 none none none none none none none none none) S = .ret (.bl true) S' := by
  obtain ⟨n, S1, hn, h1, e3⟩ := st3 (s := s) (v2 := v2) (v3 := v3) (v4 := v4) (v5 := v5) (v6 := v6) (v7 := v7) (v8 := v8) (v9 := v9) (v10 := none) (v11 := none) (v12 := none) (v13 := none) (v14 := none) (v15 := none) (v16 := none) (v17 := none) (v18 := none) h (by omega)
  have g1 : Good2 0 (List.replicate n [0]) := good_rep (by omega) (by omega) (by omega) (by simp)
  have e4 := st4 (s := s) (v2 := v2) (v3 := v3) (v4 := v4) (v5 := v5) (v6 := v6) (v7 := v7) (v8 := v8) (v9 := v9) (v11 := none) (v12 := none) (v13 := none) (v14 := none) (v15 := none) (v16 := none) (v17 := none) (v18 := none) (S := S1) hn
  have e5 := st5 (s := s) (v2 := v2) (v3 := v3) (v4 := v4) (v5 := v5) (v6 := v6) (v7 := v7) (v8 := v8) (v9 := v9) (v11 := some (rd2 0 (List.replicate n [0]))) (v12 := none) (v13 := none) (v14 := none) (v15 := none) (v16 := none) (v17 := none) (v18 := none) (S := S1) hn h1.wf
  have L1 := good_len g1
  have W1 : ∀ {T : Store}, Wf T → _ := fun {T} hT => good_written (S := T) g1 hT
  generalize hr1 : rd2 0 (List.replicate n [0]) = r1 at *
  generalize hl1 : tl2 0 (List.replicate n [0]) = l1 at *
  obtain ⟨n2, S2, hn2, h2, e6⟩ := st6 (s := s) (v2 := v2) (v3 := v3) (v4 := v4) (v5 := v5) (v6 := some (tx l1)) (v7 := v7) (v8 := v8) (v9 := v9) (v10 := some (.int (n : Int))) (v11 := some r1) (v12 := none) (v13 := none) (v14 := none) (v15 := none) (v16 := none) (v17 := none) (v18 := none) h1 (by omega)
  have g2 : Good2 1 (List.replicate n2 [0, 0]) := good_rep (by omega) (by omega) (by omega) (by simp)
  have e7 := st7 (s := s) (v2 := v2) (v3 := v3) (v4 := v4) (v5 := v5) (v6 := some (tx l1)) (v7 := v7) (v8 := v8) (v9 := v9) (v10 := some (.int (n : Int))) (v11 := some r1) (v13 := none) (v14 := none) (v15 := none) (v16 := none) (v17 := none) (v18 := none) (S := S2) hn2
  have L2' := good_len g2
  have W2 : ∀ {T : Store}, Wf T → _ := fun {T} hT => good_written (S := T) g2 hT
  have T2 : ∀ {T : Store}, Wf T → _ := fun {T} hT => good_text (S := T) g2 hT
  generalize hr2 : rd2 1 (List.replicate n2 [0, 0]) = r2 at *
  generalize hl2 : tl2 1 (List.replicate n2 [0, 0]) = l2 at *
  obtain ⟨f, S3, hf, h3, e8⟩ := st8 (s := s) (v2 := v2) (v3 := v3) (v4 := v4) (v5 := v5) (v6 := some (tx l1)) (v7 := v7) (v8 := v8) (v9 := v9) (v10 := some (.int (n : Int))) (v11 := some r1) (v12 := some (.int (n2 : Int))) (v13 := some r2) (v14 := none) (v15 := none) (v16 := none) (v17 := none) (v18 := none) h2 (by omega)
  have g3 := good_just hf
  have e9 := st9 (s := s) (v2 := v2) (v3 := v3) (v4 := v4) (v5 := v5) (v6 := some (tx l1)) (v7 := v7) (v8 := v8) (v9 := v9) (v10 := some (.int (n : Int))) (v11 := some r1) (v12 := some (.int (n2 : Int))) (v13 := some r2) (v15 := none) (v16 := none) (v17 := none) (v18 := none) (S := S3) hf
  have e10 := st10 (s := s) (v2 := v2) (v3 := v3) (v4 := v4) (v5 := v5) (v6 := some (tx l1)) (v7 := v7) (v8 := v8) (v9 := v9) (v10 := some (.int (n : Int))) (v11 := some r1) (v12 := some (.int (n2 : Int))) (v13 := some r2) (v14 := some (.int ((5 + f : Nat) : Int))) (v16 := none) (v17 := none) (v18 := none) (S := S3) hf h3.wf (good_text g3 h3.wf) (good_len g3)
  have e11 := st11 (s := s) (v2 := v2) (v3 := v3) (v4 := v4) (v5 := v5) (v6 := some (tx l1)) (v7 := v7) (v8 := v8) (v10 := some (.int (n : Int))) (v11 := some r1) (v12 := some (.int (n2 : Int))) (v13 := some r2) (v14 := some (.int ((5 + f : Nat) : Int))) (v16 := none) (v17 := none) (v18 := none) (S := S3) h3.wf (good_written g3 h3.wf)
  generalize hr3 : rd2 0 (List.replicate (3325 - f) [0] ++ List.replicate (5 + f) [10]) = r3 at *
  generalize hl3 : XX (tl2 0 (List.replicate (3325 - f) [0] ++ List.replicate (5 + f) [10])) = x3 at *
  obtain ⟨d, m, S4, hd, hm, h4, e12⟩ := st12 (s := s) (v2 := v2) (v3 := v3) (v4 := v4) (v5 := v5) (v6 := some (tx l1)) (v7 := v7) (v8 := v8) (v9 := some x3) (v10 := some (.int (n : Int))) (v11 := some r1) (v12 := some (.int (n2 : Int))) (v13 := some r2) (v14 := some (.int ((5 + f : Nat) : Int))) (v15 := some r3) (v16 := none) (v17 := none) (v18 := none) h3 (by omega)
  have e13 := st13 (s := s) (v2 := v2) (v3 := v3) (v4 := v4) (v5 := v5) (v6 := some (tx l1)) (v7 := v7) (v8 := v8) (v9 := some x3) (v10 := some (.int (n : Int))) (v11 := some r1) (v12 := some (.int (n2 : Int))) (v13 := some r2) (v14 := some (.int ((5 + f : Nat) : Int))) (v15 := some r3) (v17 := none) (v18 := none) (S := S4) h4.wf hd hm
  generalize tx ([98, 97, 115, 101, 32, 50, 32, 116, 114, 97, 99, 107, 115, 32, 48, 10, 121, 101, 115, 32] ++ List.replicate m d) = far at *
  have e14 := st14 (s := s) (v2 := v2) (v3 := v3) (v4 := v4) (v5 := v5) (v6 := some (tx l1)) (v7 := v7) (v8 := v8) (v9 := some x3) (v10 := some (.int (n : Int))) (v12 := some (.int (n2 : Int))) (v14 := some (.int ((5 + f : Nat) : Int))) (v15 := some r3) (v16 := some far) (v17 := none) (v18 := none) (S := S4) (W1 h4.wf) (W2 h4.wf)
  have e15 := st15 (s := s) (v2 := v2) (v3 := v3) (v4 := v4) (v5 := v5) (v7 := v7) (v8 := v8) (v9 := some x3) (v10 := some (.int (n : Int))) (v11 := some r1) (v12 := some (.int (n2 : Int))) (v14 := some (.int ((5 + f : Nat) : Int))) (v15 := some r3) (v16 := some far) (v17 := some (.lst [XX l1, XX l2])) (v18 := none) (S := S4) L1 L2' (T2 h4.wf)
  have e16 := st16 (s := s) (v2 := v2) (v3 := v3) (v4 := v4) (v5 := v5) (v6 := some (tx l1)) (v7 := v7) (v8 := v8) (v9 := some x3) (v10 := some (.int (n : Int))) (v11 := some r1) (v12 := some (.int (n2 : Int))) (v13 := some r2) (v14 := some (.int ((5 + f : Nat) : Int))) (v15 := some r3) (v16 := some far) (S := S4) (l1 := l1) (l2 := l2) h4.wf
  have e17 := st17 (s := s) (v2 := v2) (v3 := v3) (v4 := v4) (v5 := v5) (v6 := some (tx l1)) (v7 := v7) (v8 := v8) (v9 := some x3) (v10 := some (.int (n : Int))) (v11 := some r1) (v12 := some (.int (n2 : Int))) (v13 := some r2) (v14 := some (.int ((5 + f : Nat) : Int))) (v15 := some r3) (v16 := some far) (v17 := some (.lst [XX l1, XX l2])) (v18 := some (.lst [XX l1, XX l2])) (S := S4) h4.wf
  have e18 := st18 (s := s) (v2 := v2) (v3 := v3) (v4 := v4) (v5 := v5) (v6 := some (tx l1)) (v7 := v7) (v8 := v8) (v9 := some x3) (v10 := some (.int (n : Int))) (v11 := some r1) (v12 := some (.int (n2 : Int))) (v13 := some r2) (v14 := some (.int ((5 + f : Nat) : Int))) (v15 := some r3) (v16 := some far) (v18 := some (.lst [XX l1, XX l2])) (S := S4) h4.wf
  refine ⟨S4, h4.mono (by omega), ?_⟩
  unfold restS
  rw [eSs_cons, e3, SRes.seq_nx, eSs_cons, e4, SRes.seq_nx, eSs_cons, e5, SRes.seq_nx, eSs_cons, e6, SRes.seq_nx, eSs_cons, e7, SRes.seq_nx, eSs_cons, e8, SRes.seq_nx, eSs_cons, e9, SRes.seq_nx, eSs_cons, e10, SRes.seq_nx, eSs_cons, e11, SRes.seq_nx, eSs_cons, e12, SRes.seq_nx, eSs_cons, e13, SRes.seq_nx, eSs_cons, e14, SRes.seq_nx, eSs_cons, e15, SRes.seq_nx, eSs_cons, e16, SRes.seq_nx, eSs_cons, e17, SRes.seq_nx, eSs_cons, e18, SRes.seq_ret]
theorem law_ok {ns : List Int} (hl : ns.length ≤ 63) : ∃ S', GG 20 28 [.scr (ns.map PV.int)] [] = .ok (.bl true) S' := by
  have key : ∃ S', evalSs (CC 19) m_law [some (.scr (ns.map PV.int)), none, none, none, none, none, none, none, none, none, none, none, none, none, none, none, none, none, none] [] = .ret (.bl true) S' := by
    obtain ⟨S0, h0, e0⟩ := begun_ok (k := 17) (ns := ns) (by omega)
    have e0' : GG 19 16 [.scr (ns.map PV.int)] [] = .ok (.ref 0) S0 := e0
    have s1 : evalS (CC 19) (.asg (.name 1) (.call 16 [(.inl 0)] (.cons (.var 0) .nil))) [some (.scr (ns.map PV.int)), none, none, none, none, none, none, none, none, none, none, none, none, none, none, none, none, none, none] [] = .nx (lEnv (.scr (ns.map PV.int)) none none none none none none none none) S0 := by
      simp -implicitDefEqProofs [permP, e0', bindT]
    have hlp := forL_k (t := .name 2) (g := none) (f := fun r2 S2 => evalSs (CC 19) turnBody r2 S2) (xs := (List.range 3).map fun (k : Nat) => .int (k : Int)) (r := lEnv (.scr (ns.map PV.int)) none none none none none none none none) (S := S0)
      (fun i r S' => ∃ (v2 v3 v4 v5 v6 v7 v8 v9 : Option PV), Dst (0 + i * 1000) [] S' ∧ r = lEnv (.scr (ns.map PV.int)) v2 v3 v4 v5 v6 v7 v8 v9) (fun _ _ => False)
      (fun i hi r S' hI => by
        obtain ⟨v2, v3, v4, v5, v6, v7, v8, v9, a1, rfl⟩ := hI
        have hi' : i < 3 := by simpa using hi
        obtain ⟨x3, x4, x5, x6, x7, x8, x9, S5, c1, c2⟩ := turn_body (s := .scr (ns.map PV.int)) (v2 := some (.int (i : Int))) (v3 := v3) (v4 := v4) (v5 := v5) (v6 := v6) (v7 := v7) (v8 := v8) (v9 := v9) a1 (by omega)
        exact ⟨lEnv (.scr (ns.map PV.int)) (some (.int (i : Int))) v3 v4 v5 v6 v7 v8 v9, by simp [bindT], .inl ⟨_, _, .inl c2, trivial, _, _, _, _, _, _, _, _, c1.mono (by omega), rfl⟩⟩) ⟨none, none, none, none, none, none, none, none, h0, rfl⟩
    rcases hlp with ⟨r', S', e, v2, v3, v4, v5, v6, v7, v8, v9, a1, rfl⟩ | ⟨_, _, _, hf⟩
    · have hr := eI_rng (C := CC 19) (S := S0) (r := lEnv (.scr (ns.map PV.int)) none none none none none none none none) (e := .k (.int 3)) (n := 3) (by simp) (by omega)
      rw [rng_len] at a1
      obtain ⟨S2, b1, b2⟩ := rest_ok (s := .scr (ns.map PV.int)) (v2 := v2) (v3 := v3) (v4 := v4) (v5 := v5) (v6 := v6) (v7 := v7) (v8 := v8) (v9 := v9) a1 (by omega)
      refine ⟨S2, ?_⟩
      show evalSs (CC 19) (.cons (.asg (.name 1) (.call 16 [(.inl 0)] (.cons (.var 0) .nil))) (.cons (.forS (.name 2) (.range (.cons (.k (.int (3))) .nil)) turnBody) restS)) _ _ = _
      rw [eSs_cons, s1, SRes.seq_nx, eSs_cons, eS_for, hr, Res.to_ok]
      dsimp only
      rw [e, SRes.seq_nx]
      exact b2
    · exact hf.elim
  obtain ⟨S', h⟩ := key
  refine ⟨[], ?_⟩
  rw [show GG 20 28 [.scr (ns.map PV.int)] [] = _ from Gp_succ (k := 19) (d := d_law) rfl]
  exact evalD_new (S' := []) (R := S') rfl rfl h rfl
end Dg
end

section
set_option Elab.async false
set_option linter.all false
set_option maxRecDepth 100000
set_option maxHeartbeats 0
namespace Dg
theorem plain : Plain := fun ns hl _ => law_ok hl
end Dg
theorem PySem.Challenge.cw_digitsay_k04_texts_of_readers_holds : PySem.Challenge.rw_digitsay_k04_texts_of_readers.Holds := by
  exact Dg.holds_of Dg.plain
end
