import PyProof.Rows.All
import Wide.All
import OpenK.AllK
import Wide.FinOn
import HandS.ForMost
import HandS.Exc
import HandS.ExcOwn
import HandS.WordsExc
import HandS.CallSlots
import HandS.IsInst
import HandS.Flow
import HandS.Iter
import PyProof.ListStr
import HandS.TupAny
import HandS.RaiseMore
import HandS.Ends
import HandS.Comp
import KE.GoesRaise
import HandS.ExcInit
import HandS.ExcField
import KE.KExcIs
import HandS.SetKeys
import HandS.SetBool
import KE.DatumOrd
import HandS.More
import HandS.Dict
import KE.GoesEnum
import HandS.TupMul
import PyProof.TupleOfStr
import HandS.ExcValue
import PyProof.ReprLen
import PyProof.StrLawsRepr
import PyProof.FitsInt
import PySem.Challenge.RW_formsacross_k02_forms_looked_at
set_option Elab.async false
set_option linter.all false
set_option maxRecDepth 100000
set_option maxHeartbeats 4000000
/-! DLa: data without addresses, how it lies in the heap, what a piece of syntax computes on it. -/
namespace DL
open PySem L2

/-- data: loc n is the n-th object of the store, which may change -/
inductive D where
  | non | bl (b : Bool) | int (i : Int) | str (x : Str)
  | lst (xs : List D) | tup (xs : List D) | dct (ks : List Key) (xs : List D) | loc (n : Nat)
  /-- the script -/
  | scr (xs : List D)
  /-- a caught exception: its class's name, its fields -/
  | exn (cls : Str) (ns : List Str) (ds : List D)

/-- a tuple of the written part -/
def TupK (K : PySem.W.Frag) (a : Addr) (xs : List V) : Prop :=
  ∃ (o : Obj) (its : Array Value) (n : Nat), K.lookup a = some o ∧ o.cls = .type "tuple" ∧ o.data = .seq its n ∧ its.size ≤ sizeLine ∧ Vals xs its.toList

/-- the addresses of the store's objects, in order; and of objects that are being made -/
structure Rg where
  l : List Addr
  t : List Addr
def Rg.has (ρ : Rg) (a : Addr) : Prop := a ∈ ρ.l ∨ a ∈ ρ.t

/-- an object, whether a dict is locked or not -/
def unf : HO → HO
  | .frz _ (.dK kvs) => .dK kvs
  | o => o
def At (H : Hp) (a : Addr) (u : HO) : Prop := ∃ o, H a = some o ∧ unf o = u
theorem At.of {H : Hp} {a : Addr} {o : HO} (h : H a = some o) (hu : unf o = o := by rfl) : At H a o := ⟨o, h, hu⟩
theorem At.lst {H : Hp} {a : Addr} {vs : List V} (h : At H a (.lst vs)) : H a = some (.lst vs) := by
  obtain ⟨o, h, e⟩ := h
  unfold unf at e
  split at e
  · cases e
  · rw [h, e]
theorem At.tup {H : Hp} {a : Addr} {vs : List V} (h : At H a (.tup vs)) : H a = some (.tup vs) := by
  obtain ⟨o, h, e⟩ := h
  unfold unf at e
  split at e
  · cases e
  · rw [h, e]
theorem At.frz {H : Hp} {a : Addr} {o : Obj} {vs : List V} (h : At H a (.frz o (.lst vs))) : H a = some (.frz o (.lst vs)) := by
  obtain ⟨o, h, e⟩ := h
  unfold unf at e
  split at e
  · cases e
  · rw [h, e]
theorem At.dK {H : Hp} {a : Addr} {kvs : List (Key × V)} (h : At H a (.dK kvs)) : Rd H a (.dK kvs) := by
  obtain ⟨o, h, e⟩ := h
  unfold unf at e
  split at e
  · cases e; exact .inr ⟨_, h⟩
  · exact .inl (by rw [h, e])
/-- a list of the written part -/
def LstK (K : PySem.W.Frag) (a : Addr) (xs : List V) : Prop :=
  ∃ (o : Obj) (its : Array Value) (n : Nat), K.lookup a = some o ∧ o.cls = .type "list" ∧ o.dict = none ∧ o.data = .seq its n ∧ its.size ≤ sizeLine ∧ Vals xs its.toList
/-- at a: a caught exception of the class cls, its dict at d -/
def exK (a : Addr) (cls : Value) (d : Option Addr) : HO := .ext fun h => ∃ (oe : Obj) (vs : Array Value), h.get? a = some oe ∧ Zc cls d oe ∧ oe.data = .fields vs
def clsNm (K : PySem.W.Frag) (C : Addr) : Option Str := (PySem.W.clsIn K C).map (·.name)
theorem At.exK {H : Hp} {a : Addr} {cls : Value} {d : Option Addr} (h : At H a (exK a cls d)) : H a = some (DL.exK a cls d) := by
  obtain ⟨o, h, e⟩ := h
  unfold unf at e
  split at e
  · cases e
  · rw [h, e]
theorem At.xd {H : Hp} {a : Addr} {fs : List (Str × V)} (h : At H a (.xd fs)) : H a = some (.xd fs) := by
  obtain ⟨o, h, e⟩ := h
  unfold unf at e
  split at e
  · cases e
  · rw [h, e]

mutual
def Rep (K : PySem.W.Frag) (ρ : Rg) (H : Hp) : D → V → Prop
  | .non, v => v = .non
  | .bl b, v => v = .bl b
  | .int i, v => v = .int i
  | .str x, v => v = .str x
  | .lst xs, v => ∃ a vs, v = .ref a ∧ At H a (.lst vs) ∧ ¬ ρ.has a ∧ Reps K ρ H xs vs
  | .tup xs, v => ∃ a vs, v = .ref a ∧ ((At H a (.tup vs) ∧ ¬ ρ.has a) ∨ TupK K a vs) ∧ Reps K ρ H xs vs
  | .dct ks xs, v => ∃ a vs, v = .ref a ∧ At H a (.dK (ks.zip vs)) ∧ ks.length = vs.length ∧ ¬ ρ.has a ∧ Reps K ρ H xs vs
  | .loc n, v => ∃ a, v = .ref a ∧ ρ.l[n]? = some a
  | .scr xs, v => ∃ a vs, v = .ref a ∧ ((∃ o, At H a (.frz o (.lst vs)) ∧ ¬ ρ.has a) ∨ LstK K a vs) ∧ Reps K ρ H xs vs
  | .exn cls ns ds, v => ∃ a C dd vs, v = .ref a ∧ (At H a (exK a (.ref C) dd) ∧ ¬ ρ.has a) ∧ clsNm K C = some cls ∧ ((dd = none ∧ ns = []) ∨ ∃ d, dd = some d ∧ At H d (.xd (ns.zip vs)) ∧ ¬ ρ.has d) ∧ ns.length = vs.length ∧ Reps K ρ H ds vs
def Reps (K : PySem.W.Frag) (ρ : Rg) (H : Hp) : List D → List V → Prop
  | [], vs => vs = []
  | x :: xs, vs => ∃ v r, vs = v :: r ∧ Rep K ρ H x v ∧ Reps K ρ H xs r
end

/-- an object that may change -/
inductive Ob where
  | lst (xs : List D) | dct (ks : List Key) (xs : List D)
abbrev Sto := List Ob

def RepO (K : PySem.W.Frag) (ρ : Rg) (H : Hp) (a : Addr) : Ob → Prop
  | .lst xs => ∃ vs, H a = some (.lst vs) ∧ Reps K ρ H xs vs
  | .dct ks xs => ∃ vs, H a = some (.dK (ks.zip vs)) ∧ ks.length = vs.length ∧ Reps K ρ H xs vs
structure RepS (K : PySem.W.Frag) (ρ : Rg) (H : Hp) (s : Sto) : Prop where
  len : s.length = ρ.l.length
  nd : ρ.l.Nodup
  obj : ∀ (n : Nat) a ob, ρ.l[n]? = some a → s[n]? = some ob → RepO K ρ H a ob
  tmp : ∀ a ∈ ρ.t, H a ≠ none ∧ a ∉ ρ.l

/-- what was stays, but the store's objects -/
structure Ext (ρ : Rg) (H : Hp) (ρ' : Rg) (H' : Hp) : Prop where
  pre : ∃ e, ρ'.l = ρ.l ++ e
  tm : ρ'.t = ρ.t
  keep : ∀ a o, H a = some o → a ∉ ρ.l → H' a = some o
  new : ∀ a, a ∈ ρ'.l → a ∈ ρ.l ∨ H a = none
  dom : ∀ a, H' a = none → H a = none
theorem Ext.refl {ρ : Rg} {H : Hp} : Ext ρ H ρ H := ⟨⟨[], by simp⟩, rfl, fun _ _ h _ => h, fun _ h => .inl h, fun _ h => h⟩
theorem Ext.trans {ρ ρ1 ρ2 : Rg} {H H1 H2 : Hp} (a : Ext ρ H ρ1 H1) (b : Ext ρ1 H1 ρ2 H2) : Ext ρ H ρ2 H2 := by
  obtain ⟨e1, p1⟩ := a.pre
  obtain ⟨e2, p2⟩ := b.pre
  refine ⟨⟨e1 ++ e2, by rw [p2, p1, List.append_assoc]⟩, b.tm.trans a.tm, fun x o h hn => ?_, fun x hx => ?_, fun x h => a.dom _ (b.dom _ h)⟩
  · refine b.keep x o (a.keep x o h hn) fun hm => ?_
    rcases a.new x hm with h1 | h1
    · exact hn h1
    · rw [h1] at h; cases h
  · rcases b.new x hx with h1 | h1
    · exact a.new x h1
    · exact .inr (a.dom x h1)
theorem Ext.get {ρ ρ' : Rg} {H H' : Hp} (e : Ext ρ H ρ' H') {n : Nat} {a : Addr} (h : ρ.l[n]? = some a) : ρ'.l[n]? = some a := by
  obtain ⟨x, hx⟩ := e.pre
  rw [hx, List.getElem?_append_left (List.getElem?_eq_some_iff.mp h).1]
  exact h
theorem At.ne {H : Hp} {a : Addr} {o : HO} (h : At H a o) : H a ≠ none := by
  obtain ⟨_, h, _⟩ := h
  rw [h]; exact fun z => by cases z
theorem Ext.rd {ρ ρ' : Rg} {H H' : Hp} (e : Ext ρ H ρ' H') {a : Addr} {o : HO} (h : At H a o) (hn : ¬ ρ.has a) : At H' a o ∧ ¬ ρ'.has a := by
  have hl : a ∉ ρ.l := fun z => hn (.inl z)
  refine ⟨?_, fun hm => ?_⟩
  · obtain ⟨u, h, hu⟩ := h
    exact ⟨u, e.keep _ _ h hl, hu⟩
  · rcases hm with hm | hm
    · rcases e.new a hm with h1 | h1
      · exact hl h1
      · exact At.ne h h1
    · rw [e.tm] at hm
      exact hn (.inr hm)
mutual
theorem Rep.mono {K : PySem.W.Frag} {ρ ρ' : Rg} {H H' : Hp} (hf : ∀ a o, At H a o → ¬ ρ.has a → At H' a o ∧ ¬ ρ'.has a) (hg : ∀ (n : Nat) (a : Addr), ρ.l[n]? = some a → ρ'.l[n]? = some a) : ∀ (d : D) (v : V), Rep K ρ H d v → Rep K ρ' H' d v
  | .non, _, h => h
  | .bl _, _, h => h
  | .int _, _, h => h
  | .str _, _, h => h
  | .lst xs, _, h => by
    obtain ⟨a, vs, rfl, h1, h2, h3⟩ := h
    obtain ⟨q1, q2⟩ := hf _ _ h1 h2
    exact ⟨a, vs, rfl, q1, q2, Reps.mono hf hg xs vs h3⟩
  | .tup xs, _, h => by
    obtain ⟨a, vs, rfl, h1, h3⟩ := h
    refine ⟨a, vs, rfl, ?_, Reps.mono hf hg xs vs h3⟩
    rcases h1 with ⟨h1, h2⟩ | h1
    · exact .inl (hf _ _ h1 h2)
    · exact .inr h1
  | .dct ks xs, _, h => by
    obtain ⟨a, vs, rfl, h1, hl, h2, h3⟩ := h
    obtain ⟨q1, q2⟩ := hf _ _ h1 h2
    exact ⟨a, vs, rfl, q1, hl, q2, Reps.mono hf hg xs vs h3⟩
  | .loc n, _, h => by
    obtain ⟨a, rfl, h⟩ := h
    exact ⟨a, rfl, hg _ _ h⟩
  | .scr xs, _, h => by
    obtain ⟨a, vs, rfl, h1, h3⟩ := h
    refine ⟨a, vs, rfl, ?_, Reps.mono hf hg xs vs h3⟩
    rcases h1 with ⟨o, h1, h2⟩ | h1
    · exact .inl ⟨o, hf _ _ h1 h2⟩
    · exact .inr h1
  | .exn cls ns ds, _, h => by
    obtain ⟨a, C, d, vs, rfl, h1, h2, h3, h4, h5⟩ := h
    refine ⟨a, C, d, vs, rfl, hf _ _ h1.1 h1.2, h2, ?_, h4, Reps.mono hf hg ds vs h5⟩
    rcases h3 with h3 | ⟨d, rfl, h3, h6⟩
    · exact .inl h3
    · exact .inr ⟨d, rfl, hf _ _ h3 h6⟩
theorem Reps.mono {K : PySem.W.Frag} {ρ ρ' : Rg} {H H' : Hp} (hf : ∀ a o, At H a o → ¬ ρ.has a → At H' a o ∧ ¬ ρ'.has a) (hg : ∀ (n : Nat) (a : Addr), ρ.l[n]? = some a → ρ'.l[n]? = some a) : ∀ (ds : List D) (vs : List V), Reps K ρ H ds vs → Reps K ρ' H' ds vs
  | [], _, h => h
  | x :: xs, _, h => by
    obtain ⟨v, r, rfl, h1, h2⟩ := h
    exact ⟨v, r, rfl, Rep.mono hf hg x v h1, Reps.mono hf hg xs r h2⟩
end
theorem Rep.ext {K : PySem.W.Frag} {ρ ρ' : Rg} {H H' : Hp} (e : Ext ρ H ρ' H') {d : D} {v : V} (h : Rep K ρ H d v) : Rep K ρ' H' d v := Rep.mono (fun _ _ => e.rd) (fun _ _ => e.get) d v h
theorem Reps.ext {K : PySem.W.Frag} {ρ ρ' : Rg} {H H' : Hp} (e : Ext ρ H ρ' H') {ds : List D} {vs : List V} (h : Reps K ρ H ds vs) : Reps K ρ' H' ds vs := Reps.mono (fun _ _ => e.rd) (fun _ _ => e.get) ds vs h

section
variable {K : PySem.W.Frag} {ρ : Rg} {H : Hp} {s : Sto}
theorem Reps.length : ∀ {ds : List D} {vs : List V}, Reps K ρ H ds vs → ds.length = vs.length
  | [], _, h => by cases h; rfl
  | _ :: _, _, h => by
    obtain ⟨v, r, rfl, _, h2⟩ := h
    rw [List.length_cons, List.length_cons, Reps.length h2]
theorem Reps.get : ∀ {ds : List D} {vs : List V} {i : Nat} {d : D}, Reps K ρ H ds vs → ds[i]? = some d → ∃ v, vs[i]? = some v ∧ Rep K ρ H d v
  | [], _, _, _, _, e => by simp at e
  | _ :: _, _, 0, _, h, e => by
    obtain ⟨v, r, rfl, h1, _⟩ := h
    simp at e; subst e
    exact ⟨v, rfl, h1⟩
  | _ :: _, _, i + 1, _, h, e => by
    obtain ⟨v, r, rfl, _, h2⟩ := h
    obtain ⟨u, q1, q2⟩ := Reps.get (i := i) h2 (by simpa using e)
    exact ⟨u, by simpa using q1, q2⟩
theorem Reps.append : ∀ {ds es : List D} {vs us : List V}, Reps K ρ H ds vs → Reps K ρ H es us → Reps K ρ H (ds ++ es) (vs ++ us)
  | [], _, _, _, h, h' => by cases h; exact h'
  | _ :: _, _, _, _, h, h' => by
    obtain ⟨v, r, rfl, h1, h2⟩ := h
    exact ⟨v, _, rfl, h1, Reps.append h2 h'⟩
theorem Reps.set : ∀ {ds : List D} {vs : List V} {d : D} {v : V} (i : Nat), Reps K ρ H ds vs → Rep K ρ H d v → Reps K ρ H (ds.set i d) (vs.set i v)
  | [], _, _, _, _, h, _ => by cases h; rfl
  | _ :: _, _, _, _, 0, h, h' => by
    obtain ⟨v, r, rfl, h1, h2⟩ := h
    exact ⟨_, _, rfl, h', h2⟩
  | _ :: _, _, _, _, i + 1, h, h' => by
    obtain ⟨v, r, rfl, h1, h2⟩ := h
    exact ⟨_, _, rfl, h1, Reps.set i h2 h'⟩
theorem Reps.drop : ∀ {ds : List D} {vs : List V} (i : Nat), Reps K ρ H ds vs → Reps K ρ H (ds.drop i) (vs.drop i)
  | _, _, 0, h => h
  | [], _, _ + 1, h => by cases h; rfl
  | _ :: _, _, i + 1, h => by
    obtain ⟨v, r, rfl, h1, h2⟩ := h
    exact Reps.drop i h2
theorem Reps.take : ∀ {ds : List D} {vs : List V} (i : Nat), Reps K ρ H ds vs → Reps K ρ H (ds.take i) (vs.take i)
  | _, _, 0, _ => rfl
  | [], _, _ + 1, h => by cases h; rfl
  | _ :: _, _, i + 1, h => by
    obtain ⟨v, r, rfl, h1, h2⟩ := h
    exact ⟨_, _, rfl, h1, Reps.take i h2⟩
theorem Rep.sqL {xs : List D} {v : V} (h : Rep K ρ H (.lst xs) v) : ∃ a vs, v = .ref a ∧ SqL K H a vs ∧ Reps K ρ H xs vs := by
  obtain ⟨a, vs, rfl, h1, h2, h3⟩ := h
  exact ⟨a, vs, rfl, SqL.of h1.lst, h3⟩
theorem Rep.scrL {xs : List D} {v : V} (h : Rep K ρ H (.scr xs) v) : ∃ a vs, v = .ref a ∧ SqL K H a vs ∧ Reps K ρ H xs vs := by
  obtain ⟨a, vs, rfl, h1, h3⟩ := h
  refine ⟨a, vs, rfl, ?_, h3⟩
  rcases h1 with ⟨o, h1, _⟩ | h1
  · exact .inl (.inr ⟨o, h1.frz⟩)
  · exact .inr h1
theorem Rep.sqT {xs : List D} {v : V} (h : Rep K ρ H (.tup xs) v) : ∃ a vs, v = .ref a ∧ SqT K H a vs ∧ Reps K ρ H xs vs := by
  obtain ⟨a, vs, rfl, h1, h3⟩ := h
  refine ⟨a, vs, rfl, ?_, h3⟩
  rcases h1 with ⟨h1, _⟩ | h1
  · exact SqT.of h1.tup
  · exact .inr h1
theorem RepS.at (r : RepS K ρ H s) {n : Nat} {a : Addr} (h : ρ.l[n]? = some a) : ∃ ob, s[n]? = some ob ∧ RepO K ρ H a ob := by
  have hl : n < s.length := by rw [r.len]; exact (List.getElem?_eq_some_iff.mp h).1
  exact ⟨s[n], List.getElem?_eq_getElem hl, r.obj n a _ h (List.getElem?_eq_getElem hl)⟩
theorem RepO.some' {a : Addr} {ob : Ob} (h : RepO K ρ H a ob) : H a ≠ none := by
  cases ob with
  | lst xs => obtain ⟨vs, e, _⟩ := h; rw [e]; exact fun z => by cases z
  | dct ks xs => obtain ⟨vs, e, _⟩ := h; rw [e]; exact fun z => by cases z
theorem RepS.mem (r : RepS K ρ H s) {a : Addr} (h : a ∈ ρ.l) : H a ≠ none := by
  obtain ⟨n, hn⟩ := List.getElem?_of_mem h
  obtain ⟨ob, _, q⟩ := r.at hn
  exact q.some'
theorem RepS.nil : RepS K ⟨[], []⟩ H [] := ⟨rfl, List.nodup_nil, fun n a ob h => by simp at h, fun a h => by cases h⟩
theorem RepS.fresh (r : RepS K ρ H s) {p : Addr} (h : H p = none) : ¬ ρ.has p := fun hm => hm.elim (fun hm => r.mem hm h) fun hm => (r.tmp p hm).1 h
theorem upd_none {H : Hp} {a p : Addr} {o : HO} (e : upd H p o a = none) : H a = none := by
  unfold upd at e
  split at e
  · cases e
  · exact e
theorem upd_some {H : Hp} {a p : Addr} {o : HO} (e : H a ≠ none) : upd H p o a ≠ none := fun z => e (upd_none z)
/-- a new object that doesn't change -/
theorem Ext.alloc {p : Addr} {o : HO} (h : H p = none) : Ext ρ H ρ (upd H p o) :=
  ⟨⟨[], by simp⟩, rfl, fun a u e _ => by rw [upd_ne (ne_of_none e h)]; exact e, fun a h => .inl h, fun a e => upd_none e⟩
theorem RepO.mono {ρ' : Rg} {H' : Hp} (hf : ∀ a o, At H a o → ¬ ρ.has a → At H' a o ∧ ¬ ρ'.has a) (hg : ∀ (n : Nat) (a : Addr), ρ.l[n]? = some a → ρ'.l[n]? = some a) {a : Addr} {ob : Ob} (h : RepO K ρ H a ob) (ha : H' a = H a) : RepO K ρ' H' a ob := by
  cases ob with
  | lst xs => obtain ⟨vs, q, h2⟩ := h; exact ⟨vs, by rw [ha]; exact q, Reps.mono hf hg _ _ h2⟩
  | dct ks xs => obtain ⟨vs, q, hl, h2⟩ := h; exact ⟨vs, by rw [ha]; exact q, hl, Reps.mono hf hg _ _ h2⟩
theorem RepS.alloc (r : RepS K ρ H s) {p : Addr} {o : HO} (h : H p = none) : RepS K ρ (upd H p o) s :=
  ⟨r.len, r.nd, fun n a ob h1 h2 => (r.obj n a ob h1 h2).mono (fun _ _ => (Ext.alloc h).rd) (fun _ _ z => z) (upd_ne fun z => r.mem (List.mem_of_getElem? h1) (by rw [z]; exact h)), fun a ha => ⟨upd_some (r.tmp a ha).1, (r.tmp a ha).2⟩⟩
/-- a new object of the store -/
theorem Ext.allocL {p : Addr} {o : HO} (h : H p = none) : Ext ρ H ⟨ρ.l ++ [p], ρ.t⟩ (upd H p o) := by
  refine ⟨⟨[p], rfl⟩, rfl, fun a u e _ => by rw [upd_ne (ne_of_none e h)]; exact e, fun a hm => ?_, fun a e => upd_none e⟩
  rcases List.mem_append.mp hm with hm | hm
  · exact .inl hm
  · rw [List.mem_singleton.mp hm]; exact .inr h
theorem RepS.allocO (r : RepS K ρ H s) {p : Addr} {o : HO} {ob : Ob} (h : H p = none) (q : RepO K ⟨ρ.l ++ [p], ρ.t⟩ (upd H p o) p ob) : RepS K ⟨ρ.l ++ [p], ρ.t⟩ (upd H p o) (s ++ [ob]) := by
  have e := Ext.allocL (ρ := ρ) (o := o) h
  refine ⟨by simp [r.len], ?_, fun n a ob' h1 h2 => ?_, fun a ha => ⟨upd_some (r.tmp a ha).1, fun hm => ?_⟩⟩
  · show (ρ.l ++ [p]).Nodup
    rw [List.nodup_append]
    refine ⟨r.nd, by simp, fun a ha b hb => ?_⟩
    rw [List.mem_singleton.mp hb]
    exact fun z => r.mem ha (by rw [z]; exact h)
  · by_cases hn : n < ρ.l.length
    · have h1 : (ρ.l ++ [p])[n]? = some a := h1
      rw [List.getElem?_append_left hn] at h1
      rw [List.getElem?_append_left (by rw [r.len]; exact hn)] at h2
      exact (r.obj n a ob' h1 h2).mono (fun _ _ => e.rd) (fun _ _ => e.get) (upd_ne fun z => r.mem (List.mem_of_getElem? h1) (by rw [z]; exact h))
    · have h1 : (ρ.l ++ [p])[n]? = some a := h1
      have hn' : n = ρ.l.length := by
        have := (List.getElem?_eq_some_iff.mp h1).1
        simp at this; omega
      subst hn'
      rw [List.getElem?_append_right (Nat.le_refl _)] at h1
      rw [List.getElem?_append_right (by rw [r.len]; exact Nat.le_refl _)] at h2
      simp [r.len] at h1 h2
      subst h1 h2
      exact q
  · rcases List.mem_append.mp hm with hm | hm
    · exact (r.tmp a ha).2 hm
    · exact (r.tmp a ha).1 (by rw [List.mem_singleton.mp hm]; exact h)
theorem RepS.allocL (r : RepS K ρ H s) {p : Addr} {vs : List V} {ds : List D} (h : H p = none) (q : Reps K ρ H ds vs) : RepS K ⟨ρ.l ++ [p], ρ.t⟩ (upd H p (.lst vs)) (s ++ [.lst ds]) :=
  r.allocO h ⟨vs, upd_same, Reps.ext (Ext.allocL h) q⟩
/-- an object of the store is changed -/
theorem Ext.write {n : Nat} {a : Addr} {o : HO} (h : ρ.l[n]? = some a) : Ext ρ H ρ (upd H a o) :=
  ⟨⟨[], by simp⟩, rfl, fun b u e hb => by rw [upd_ne fun z => hb (by rw [z]; exact List.mem_of_getElem? h)]; exact e, fun a h => .inl h, fun b e => upd_none e⟩
theorem nodup_ixA {l : List Addr} (nd : l.Nodup) {i j : Nat} {x : Addr} (a : l[i]? = some x) (b : l[j]? = some x) : i = j := by
  exact (List.getElem?_inj (List.getElem?_eq_some_iff.mp a).1 nd).mp (a.trans b.symm)
theorem RepS.writeO (r : RepS K ρ H s) {n : Nat} {a : Addr} {o : HO} {ob : Ob} (h : ρ.l[n]? = some a) (q : RepO K ρ (upd H a o) a ob) : RepS K ρ (upd H a o) (s.set n ob) := by
  have e := Ext.write (H := H) (o := o) h
  refine ⟨by simp [r.len], r.nd, fun m b ob' h1 h2 => ?_, fun b hb => ⟨upd_some (r.tmp b hb).1, (r.tmp b hb).2⟩⟩
  by_cases hm : n = m
  · subst hm
    rw [h] at h1; cases h1
    rw [List.getElem?_set_self (by rw [r.len]; exact (List.getElem?_eq_some_iff.mp h).1)] at h2
    cases h2
    exact q
  · rw [List.getElem?_set_ne hm] at h2
    refine (r.obj m b ob' h1 h2).mono (fun _ _ => e.rd) (fun _ _ => e.get) (upd_ne fun z => hm ?_)
    exact nodup_ixA r.nd h (by rw [h1, z])
theorem RepS.write (r : RepS K ρ H s) {n : Nat} {a : Addr} {vs : List V} {ds : List D} (h : ρ.l[n]? = some a) (q : Reps K ρ H ds vs) : RepS K ρ (upd H a (.lst vs)) (s.set n (.lst ds)) :=
  r.writeO h ⟨vs, upd_same, Reps.ext (Ext.write h) q⟩
end
end DL
set_option Elab.async false
set_option linter.all false
set_option maxRecDepth 100000
set_option maxHeartbeats 4000000
/-! DLb: what a piece of syntax computes on data; the judgements and the rules for expressions. -/
namespace DL
open PySem L2
abbrev Lo := List (Option D)
structure Xn where
  cls : Str
  ns : List Str
  ds : List D
inductive R (α : Type) where
  | ok (a : α) (s : Sto)
  | exc (x : Xn) (s : Sto)
  | bad
abbrev M (α : Type) := Sto → R α
def R.bind {α β : Type} : R α → (α → M β) → R β
  | .ok a s, f => f a s
  | .exc x s, _ => .exc x s
  | .bad, _ => .bad
def ret {α : Type} (a : α) : M α := fun s => .ok a s
def liftP {α : Type} (g : Sto → Option α) : M α := fun s => match g s with
  | some d => .ok d s
  | none => .bad
/-- a class's name to its value -/
abbrev ClsM := Str → Value

def RepX (K : PySem.W.Frag) (c : ClsM) (ρ : Rg) (H : Hp) (v : Value) (dd : Option Addr) (x : Xn) : Prop :=
  v = c x.cls ∧ match dd with
    | none => x.ns = [] ∧ x.ds = []
    | some d => ∃ vs, (H d = some (.xd (x.ns.zip vs)) ∧ ¬ ρ.has d) ∧ x.ns.length = vs.length ∧ Reps K ρ H x.ds vs
structure RepLo (K : PySem.W.Frag) (ρ : Rg) (H : Hp) (σ : St) (lo : Lo) : Prop where
  len : σ.length = lo.length
  get : ∀ (i : Nat) d, lo[i]? = some (some d) → ∃ v, σ[i]? = some (some v) ∧ Rep K ρ H d v
theorem RepLo.ext {K : PySem.W.Frag} {ρ ρ' : Rg} {H H' : Hp} {σ : St} {lo : Lo} (e : Ext ρ H ρ' H') (r : RepLo K ρ H σ lo) : RepLo K ρ' H' σ lo :=
  ⟨r.len, fun i d h => let ⟨v, h1, h2⟩ := r.get i d h; ⟨v, h1, h2.ext e⟩⟩
theorem RepLo.set {K : PySem.W.Frag} {ρ : Rg} {H : Hp} {σ : St} {lo : Lo} {d : D} {v : V} (r : RepLo K ρ H σ lo) (i : Nat) (h : Rep K ρ H d v) : RepLo K ρ H (σ.set i (some v)) (lo.set i (some d)) := by
  refine ⟨by simp [r.len], fun j e hj => ?_⟩
  by_cases hi : i = j
  · subst hi
    by_cases hl : i < lo.length
    · rw [List.getElem?_set_self hl] at hj
      cases hj
      exact ⟨v, by rw [List.getElem?_set_self (by rw [r.len]; exact hl)], h⟩
    · rw [List.getElem?_eq_none (by simp; omega)] at hj
      cases hj
  · rw [List.getElem?_set_ne hi] at hj ⊢
    exact r.get j e hj
theorem RepLo.setNone {K : PySem.W.Frag} {ρ : Rg} {H : Hp} {σ : St} {lo : Lo} (r : RepLo K ρ H σ lo) (i : Nat) (x : Option V) : RepLo K ρ H (σ.set i x) (lo.set i none) := by
  refine ⟨by simp [r.len], fun j e hj => ?_⟩
  by_cases hi : i = j
  · subst hi
    by_cases hl : i < lo.length
    · rw [List.getElem?_set_self hl] at hj; cases hj
    · rw [List.getElem?_eq_none (by simp; omega)] at hj
      cases hj
  · rw [List.getElem?_set_ne hi] at hj ⊢
    exact r.get j e hj

abbrev RepT (α β : Type) := Rg → Hp → α → β → Prop
def rD (K : PySem.W.Frag) : RepT D V := fun ρ H d v => Rep K ρ H d v
def rDs (K : PySem.W.Frag) : RepT (List D) (List V) := fun ρ H d v => Reps K ρ H d v
def rB : RepT Bool Bool := fun _ _ a b => a = b

section
variable {K : PySem.W.Frag} {c : ClsM} {W : WX} {σ : St} {ρ ρ1 : Rg} {H H1 : Hp} {α β α' β' : Type} {rep : RepT α β} {rep' : RepT α' β'}
def okR (K : PySem.W.Frag) (c : ClsM) (W : WX) (σ : St) (ρ : Rg) (H : Hp) {α β : Type} (rep : RepT α β) (Q : β → Hp → Prop) : R α → Prop
  | .ok a s' => ∀ b ρ' H', Ext ρ H ρ' H' → rep ρ' H' a b → RepS K ρ' H' s' → Q b H'
  | .exc x s' => ∀ v dd ρ' H', Ext ρ H ρ' H' → RepX K c ρ' H' v dd x → RepS K ρ' H' s' → W v dd σ H'
  | .bad => False
theorem okR.mono {Q : β → Hp → Prop} {r : R α} (e : Ext ρ H ρ1 H1) (h : okR K c W σ ρ H rep Q r) : okR K c W σ ρ1 H1 rep Q r := by
  cases r with
  | ok a s => exact fun b ρ' H' e' => h b ρ' H' (e.trans e')
  | exc x s => exact fun v dd ρ' H' e' => h v dd ρ' H' (e.trans e')
  | bad => exact h
theorem okR.imp {Q Q' : β → Hp → Prop} {r : R α} (h : okR K c W σ ρ H rep Q r) (q : ∀ b H, Q b H → Q' b H) : okR K c W σ ρ H rep Q' r := by
  cases r with
  | ok a s => exact fun b ρ' H' e' h1 h2 => q _ _ (h b ρ' H' e' h1 h2)
  | exc x s => exact h
  | bad => exact h
/-- behind a first part: what is known there, and what is left -/
theorem okR.bind {Q : β' → Hp → Prop} {r : R α} {f : α → M α'} (h : okR K c W σ ρ H rep' Q (r.bind f)) :
    okR K c W σ ρ H rep (fun b H1 => ∃ ρ1 s1 a, Ext ρ H ρ1 H1 ∧ RepS K ρ1 H1 s1 ∧ rep ρ1 H1 a b ∧ okR K c W σ ρ1 H1 rep' Q (f a s1)) r := by
  cases r with
  | ok a s => exact fun b ρ' H' e' rb rs => ⟨ρ', s, a, e', rs, rb, okR.mono e' h⟩
  | exc x s => exact h
  | bad => exact h
end

/-- the reading that a meaning gives -/
def tG (K : PySem.W.Frag) (c : ClsM) (W : WX) {α β : Type} (rep : RepT α β) (m : Lo → M α) : St → Hp → (β → Hp → Prop) → Prop := fun σ H Q =>
  ∃ ρ lo s, RepLo K ρ H σ lo ∧ RepS K ρ H s ∧ okR K c W σ ρ H rep Q (m lo s)
abbrev tM (K : PySem.W.Frag) (c : ClsM) (W : WX) (m : Lo → M D) : TE := tG K c W (rD K) m
abbrev tMB (K : PySem.W.Frag) (c : ClsM) (W : WX) (m : Lo → M Bool) : TT := tG K c W rB m
abbrev tMA (K : PySem.W.Frag) (c : ClsM) (W : WX) (m : Lo → M (List D)) : TA := tG K c W (rDs K) m

theorem PE_imp {X : Cx} {e : Expr} {t t' : TE} (h : PE X e t) (q : ∀ σ H Q, t' σ H Q → t σ H Q) : PE X e t' := ⟨fun pins s σ H Q I hw => h.run pins s σ H Q I (q σ H Q hw)⟩
theorem PT_imp {X : Cx} {e : Expr} {t t' : TT} (h : PT X e t) (q : ∀ σ H Q, t' σ H Q → t σ H Q) : PT X e t' := ⟨fun pins s σ H Q I hw => h.run pins s σ H Q I (q σ H Q hw)⟩
theorem PW_imp {X : Cx} {e : Expr} {t t' : TT} (h : PW X e t) (q : ∀ σ H Q, t' σ H Q → t σ H Q) : PW X e t' := ⟨fun whole pins s σ H Q I hw => h.run whole pins s σ H Q I (q σ H Q hw)⟩
theorem PA_imp {X : Cx} {e : List Expr} {t t' : TA} (h : PA X e t) (q : ∀ σ H Q, t' σ H Q → t σ H Q) : PA X e t' := ⟨fun pos pins s σ H Q I hw => h.run pos pins s σ H Q I (q σ H Q hw)⟩
theorem PS_imp {X : Cx} {e : Stmt} {t t' : TS} (h : PS X e t) (q : ∀ D σ H, t' D σ H → t D σ H) : PS X e t' := ⟨fun pins s σ H D I hw => h.run pins s σ H D I (q D σ H hw)⟩
theorem PSs_imp {X : Cx} {e : List Stmt} {t t' : TS} (h : PSs X e t) (q : ∀ D σ H, t' D σ H → t D σ H) : PSs X e t' := ⟨fun pins s σ H D I hw => h.run pins s σ H D I (q D σ H hw)⟩
theorem OpR_imp {X : Cx} {f : Value → Value → Sem Value} {r r' : R2} (h : OpR X f r) (q : ∀ x y H Q, r' x y H Q → r x y H Q) : OpR X f r' := fun pins s σ H x y v u Q I rx ry hw => h pins s σ H x y v u Q I rx ry (q x y H Q hw)

/-! ### names, constants -/
def getV (i : Nat) : Lo → M D := fun lo s => match lo[i]? with
  | some (some d) => .ok d s
  | _ => .bad
section
variable {X : Cx} {c : ClsM} {W : WX} {pos : Pos}
theorem pd_var (i : Nat) {x : Str} {pos : Pos} (hN : X.N[i]? = some x := by rfl) (hv : Vis X.env.scope x := by first | exact Or.inl rfl | exact Or.inr (Or.inl rfl) | exact Or.inr (Or.inr rfl)) (hd : (x == ("__debug__" : Str)) = false := by decide)
    (hcd : (x == ("__classdict__" : Str)) = false := by decide) : PE X (.Name x pos) (tM X.K c W (getV i)) := by
  refine PE_imp (pe_var hN hv hd hcd) fun σ H Q h => ?_
  obtain ⟨ρ, lo, s, hl, hs, h⟩ := h
  unfold getV at h
  split at h
  · rename_i d e
    obtain ⟨v, h1, h2⟩ := hl.get i d e
    exact ⟨v, h1, h v ρ H Ext.refl h2 hs⟩
  · exact h.elim
/-- a constant: v is what stands for it -/
theorem pd_cst {e : Expr} {v : V} {d : D} (h : PE X e (tC v)) (hr : ∀ ρ H, Rep X.K ρ H d v) : PE X e (tM X.K c W fun _ => ret d) := by
  refine PE_imp h fun σ H Q h => ?_
  obtain ⟨ρ, lo, s, hl, hs, h⟩ := h
  exact h v ρ H Ext.refl (hr ρ H) hs
theorem pd_int {i j} : PE X (.Constant (.int i) j pos) (tM X.K c W fun _ => ret (.int i)) := pd_cst pe_int fun _ _ => rfl
theorem pd_bl {b j} : PE X (.Constant (.bool b) j pos) (tM X.K c W fun _ => ret (.bl b)) := pd_cst pe_bl fun _ _ => rfl
theorem pd_non {j} : PE X (.Constant .none j pos) (tM X.K c W fun _ => ret .non) := pd_cst pe_non fun _ _ => rfl
theorem pd_str {x j} : PE X (.Constant (.str x) j pos) (tM X.K c W fun _ => ret (.str x)) := pd_cst pe_str fun _ _ => rfl
/-- a name of the module that holds an int, a text, a tuple -/
structure GlobD (K : PySem.W.Frag) (mg : Str → Option Value) (x : Str) (d : D) : Prop where
  ex : ∃ v u, mg x = some u ∧ RelV v u ∧ ∀ ρ H, Rep K ρ H d v
theorem pd_glob {x : Str} {d : D} (g : GlobD X.K X.mg x d) (hg : Gl X x) (hd : (x == ("__debug__" : Str)) = false := by decide) : PE X (.Name x pos) (tM X.K c W fun _ => ret d) := by
  obtain ⟨v, u, hm, r, hr⟩ := g.ex
  exact pd_cst (pe_glob hg hm r hd) hr

/-! ### operators -/
/-- an operator by data -/
def rP (K : PySem.W.Frag) (f : D → D → Sto → Option D) : R2 := fun x y H Q => ∃ ρ s a b d, Rep K ρ H a x ∧ Rep K ρ H b y ∧ RepS K ρ H s ∧ f a b s = some d ∧
  ∀ v H', Ext ρ H ρ H' → Rep K ρ H' d v → RepS K ρ H' s → Q v H'
def mBin (f : D → D → Sto → Option D) (ma mb : Lo → M D) : Lo → M D := fun lo s => (ma lo s).bind fun x s1 => (mb lo s1).bind fun y s2 => liftP (f x y) s2
theorem okR.lift {Q : V → Hp → Prop} {K : PySem.W.Frag} {σ : St} {ρ : Rg} {H : Hp} {g : Sto → Option D} {s : Sto} (h : okR K c W σ ρ H (rD K) Q (liftP g s)) : ∃ d, g s = some d ∧ ∀ v ρ' H', Ext ρ H ρ' H' → Rep K ρ' H' d v → RepS K ρ' H' s → Q v H' := by
  unfold liftP at h
  split at h
  · rename_i d e
    exact ⟨d, e, h⟩
  · exact h.elim
/-- two parts, by their reading -/
theorem bin_run {ma mb : Lo → M D} {f : D → D → Sto → Option D} {σ : St} {H : Hp} {Q : VK} (h : tM X.K c W (mBin f ma mb) σ H Q) : tM X.K c W ma σ H fun x H1 => tM X.K c W mb σ H1 fun y H2 => rP X.K f x y H2 Q := by
  obtain ⟨ρ, lo, s, hl, hs, h⟩ := h
  refine ⟨ρ, lo, s, hl, hs, (okR.bind h).imp fun x H1 q => ?_⟩
  obtain ⟨ρ1, s1, a, e1, rs1, ra, h1⟩ := q
  refine ⟨ρ1, lo, s1, hl.ext e1, rs1, (okR.bind h1).imp fun y H2 q => ?_⟩
  obtain ⟨ρ2, s2, b, e2, rs2, rb, h2⟩ := q
  obtain ⟨d, e, q⟩ := h2.lift
  exact ⟨ρ2, s2, a, b, d, Rep.ext e2 ra, rb, rs2, e, fun v H' e' => q v ρ2 H' e'⟩
theorem pd_bin {a b : Expr} {op : Operator} {f : D → D → Sto → Option D} {ma mb : Lo → M D} (ho : OpR X (binaryOp op) (rP X.K f)) (ha : PE X a (tM X.K c W ma)) (hb : PE X b (tM X.K c W mb)) : PE X (.BinOp a op b pos) (tM X.K c W (mBin f ma mb)) :=
  PE_imp (pe_op ho ha hb) fun _ _ _ h => bin_run h
theorem pd_cmp {a b : Expr} {op : CmpOp} {f : D → D → Sto → Option D} {ma mb : Lo → M D} (ho : OpR X (compareOp op) (rP X.K f)) (ha : PE X a (tM X.K c W ma)) (hb : PE X b (tM X.K c W mb)) (hm : behindInMarks op b = false := by first | exact nomark _ | rfl) : PE X (.Compare a [op] [b] pos) (tM X.K c W (mBin f ma mb)) :=
  PE_imp (pe_cmpR ho ha hb hm) fun _ _ _ h => bin_run h
theorem pd_ix {a b : Expr} {f : D → D → Sto → Option D} {ma mb : Lo → M D} (ho : IxR X (rP X.K f)) (ha : PE X a (tM X.K c W ma)) (hb : PE X b (tM X.K c W mb)) (hs : PlainIx b := by exact fun _ _ => rfl) : PE X (.Subscript a b pos) (tM X.K c W (mBin f ma mb)) :=
  PE_imp (pe_ix ho ha hb hs) fun _ _ _ h => bin_run h

/-! ### tests -/
def asB : D → M Bool
  | .bl b => ret b
  | _ => fun _ => .bad
def mB (m : Lo → M D) : Lo → M Bool := fun lo s => (m lo s).bind asB
theorem rB_iff {ρ : Rg} {H : Hp} {a b : Bool} (h : rB ρ H a b) : a = b := h
theorem asB_run {Q : Bool → Hp → Prop} {K : PySem.W.Frag} {σ : St} {ρ : Rg} {H : Hp} {s : Sto} {a : D} {x : V} (rs : RepS K ρ H s) (ra : Rep K ρ H a x) (h : okR K c W σ ρ H rB Q (asB a s)) : ∃ k, x = .bl k ∧ Q k H := by
  cases a <;> first
    | exact h.elim
    | (rename_i b; exact ⟨b, ra, h b ρ H Ext.refl rfl rs⟩)
theorem pdt_cmp {a b : Expr} {op : CmpOp} {f : D → D → Sto → Option D} {ma mb : Lo → M D} (ho : OpR X (compareOp op) (rP X.K f)) (ha : PE X a (tM X.K c W ma)) (hb : PE X b (tM X.K c W mb)) (hm : behindInMarks op b = false := by first | exact nomark _ | rfl) :
    PT X (.Compare a [op] [b] pos) (tMB X.K c W (mB (mBin f ma mb))) := by
  refine PT_imp (pt_cmpR ho ha hb hm) fun σ H Q h => ?_
  refine bin_run (c := c) (W := W) (ma := ma) (mb := mb) (f := f) ?_
  obtain ⟨ρ, lo, s, hl, hs, h⟩ := h
  refine ⟨ρ, lo, s, hl, hs, (okR.bind h).imp fun x H1 q => ?_⟩
  obtain ⟨ρ1, s1, a, e1, rs1, ra, h1⟩ := q
  exact asB_run rs1 ra h1
/-- a value's truth -/
def truD : D → Sto → Option Bool
  | .non, _ => some false
  | .bl b, _ => some b
  | .int i, _ => some (i != 0)
  | .str x, _ => if x.length ≤ sizeLine then some ((x.length : Int) != 0) else none
  | .lst xs, _ => some (!xs.isEmpty)
  | .tup xs, _ => some (!xs.isEmpty)
  | .scr xs, _ => some (!xs.isEmpty)
  | .loc n, s => match s[n]? with
    | some (.lst xs) => some (!xs.isEmpty)
    | some (.dct ks _) => some (!ks.isEmpty)
    | none => none
  | _, _ => none
def mTru (m : Lo → M D) : Lo → M Bool := fun lo s => (m lo s).bind fun d => liftP (truD d)
theorem isEmpty_reps {K : PySem.W.Frag} {ρ : Rg} {H : Hp} {ds : List D} {vs : List V} (h : Reps K ρ H ds vs) : ds.isEmpty = vs.isEmpty := by
  have := h.length
  cases ds <;> cases vs <;> simp_all
theorem zip_isEmpty {α β : Type} : ∀ {ks : List α} {vs : List β}, ks.length = vs.length → (ks.zip vs).isEmpty = ks.isEmpty
  | [], [], _ => rfl
  | _ :: _, _ :: _, _ => rfl
theorem truD_ok {K : PySem.W.Frag} {ρ : Rg} {H : Hp} {s : Sto} {d : D} {x : V} {k : Bool} (rs : RepS K ρ H s) (rd : Rep K ρ H d x) (h : truD d s = some k) : TruV K x H k := by
  cases d with
  | non => cases rd; exact (Option.some.inj h).symm
  | bl b => cases rd; exact (Option.some.inj h).symm
  | int i => cases rd; exact (Option.some.inj h).symm
  | str y =>
    cases rd
    unfold truD at h
    by_cases hl : y.length ≤ sizeLine
    · simp only [hl, if_true] at h
      exact ⟨hl, (Option.some.inj h).symm⟩
    · simp only [hl, if_false] at h; cases h
  | lst xs =>
    obtain ⟨a, vs, rfl, h1, h2⟩ := Rep.sqL rd
    exact .inl ⟨vs, h1, by rw [← Option.some.inj h, isEmpty_reps h2]⟩
  | tup xs =>
    obtain ⟨a, vs, rfl, h1, h2⟩ := Rep.sqT rd
    exact .inr (.inl ⟨vs, h1, by rw [← Option.some.inj h, isEmpty_reps h2]⟩)
  | dct ks xs => cases h
  | exn _ _ _ => cases h
  | scr xs =>
    obtain ⟨a, vs, rfl, h1, h2⟩ := Rep.scrL rd
    exact .inl ⟨vs, h1, by rw [← Option.some.inj h, isEmpty_reps h2]⟩
  | loc n =>
    obtain ⟨a, rfl, ha⟩ := rd
    obtain ⟨ob, e1, e2⟩ := rs.at ha
    unfold truD at h
    simp only [e1] at h
    cases ob with
    | lst xs =>
      obtain ⟨vs, q1, q2⟩ := e2
      exact .inl ⟨vs, SqL.of q1, by rw [← Option.some.inj h, isEmpty_reps q2]⟩
    | dct ks xs =>
      obtain ⟨vs, q1, q2, q3⟩ := e2
      exact .inr (.inr ⟨_, q1, by rw [← Option.some.inj h, zip_isEmpty q2]⟩)
theorem okR.liftB {Q : Bool → Hp → Prop} {K : PySem.W.Frag} {σ : St} {ρ : Rg} {H : Hp} {g : Sto → Option Bool} {s : Sto} (rs : RepS K ρ H s) (h : okR K c W σ ρ H rB Q (liftP g s)) : ∃ d, g s = some d ∧ Q d H := by
  unfold liftP at h
  split at h
  · rename_i d e
    exact ⟨d, e, h d ρ H Ext.refl rfl rs⟩
  · exact h.elim
/-- an expression as a test: no comparison, no and, or, not -/
theorem pdt_val {a : Expr} {ma : Lo → M D} (ha : PE X a (tM X.K c W ma)) (he : ∀ whole, isTrue a X.env whole = (do let v ← whole; standAt a.pos; holding [v] (truthy v)) := by intro _; rfl) : PT X a (tMB X.K c W (mTru ma)) := by
  refine PT_imp (pt_truth ha he) fun σ H Q h => ?_
  obtain ⟨ρ, lo, s, hl, hs, h⟩ := h
  refine ⟨ρ, lo, s, hl, hs, (okR.bind h).imp fun x H1 q => ?_⟩
  obtain ⟨ρ1, s1, a, e1, rs1, ra, h1⟩ := q
  obtain ⟨k, e, q⟩ := h1.liftB rs1
  exact ⟨k, truD_ok rs1 ra e, q⟩
def mAndB (ma mb : Lo → M Bool) : Lo → M Bool := fun lo s => (ma lo s).bind fun x s1 => if x = true then mb lo s1 else .ok false s1
def mOrB (ma mb : Lo → M Bool) : Lo → M Bool := fun lo s => (ma lo s).bind fun x s1 => if x = true then .ok true s1 else mb lo s1
def mNotB (ma : Lo → M Bool) : Lo → M Bool := fun lo s => (ma lo s).bind fun x s1 => .ok (!x) s1
theorem pdw_and {a b : Expr} {rest : List Expr} {ma mb : Lo → M Bool} (ha : PT X a (tMB X.K c W ma)) (hb : PW X (.BoolOp .And (b :: rest) pos) (tMB X.K c W mb)) : PW X (.BoolOp .And (a :: b :: rest) pos) (tMB X.K c W (mAndB ma mb)) := by
  refine PW_imp (pw_and ha hb) fun σ H Q h => ?_
  obtain ⟨ρ, lo, s, hl, hs, h⟩ := h
  refine ⟨ρ, lo, s, hl, hs, (okR.bind h).imp fun x H1 q => ?_⟩
  obtain ⟨ρ1, s1, k, e1, rs1, ra, h1⟩ := q
  obtain rfl : k = x := ra
  cases k with
  | true => exact iteT ⟨ρ1, lo, s1, hl.ext e1, rs1, h1⟩
  | false => exact iteF (h1 false ρ1 H1 Ext.refl rfl rs1)
theorem pdw_or {a b : Expr} {rest : List Expr} {ma mb : Lo → M Bool} (ha : PT X a (tMB X.K c W ma)) (hb : PW X (.BoolOp .Or (b :: rest) pos) (tMB X.K c W mb)) : PW X (.BoolOp .Or (a :: b :: rest) pos) (tMB X.K c W (mOrB ma mb)) := by
  refine PW_imp (pw_or ha hb) fun σ H Q h => ?_
  obtain ⟨ρ, lo, s, hl, hs, h⟩ := h
  refine ⟨ρ, lo, s, hl, hs, (okR.bind h).imp fun x H1 q => ?_⟩
  obtain ⟨ρ1, s1, k, e1, rs1, ra, h1⟩ := q
  obtain rfl : k = x := ra
  cases k with
  | true => exact iteT (h1 true ρ1 H1 Ext.refl rfl rs1)
  | false => exact iteF ⟨ρ1, lo, s1, hl.ext e1, rs1, h1⟩
theorem pdw_and1 {a : Expr} {ma : Lo → M Bool} (ha : PT X a (tMB X.K c W ma)) : PW X (.BoolOp .And [a] pos) (tMB X.K c W ma) := pw_and1 ha
theorem pdw_or1 {a : Expr} {ma : Lo → M Bool} (ha : PT X a (tMB X.K c W ma)) : PW X (.BoolOp .Or [a] pos) (tMB X.K c W ma) := pw_or1 ha
theorem pdt_not {a : Expr} {ma : Lo → M Bool} (ha : PT X a (tMB X.K c W ma)) : PT X (.UnaryOp .Not a pos) (tMB X.K c W (mNotB ma)) := by
  refine PT_imp (pt_not ha) fun σ H Q h => ?_
  obtain ⟨ρ, lo, s, hl, hs, h⟩ := h
  refine ⟨ρ, lo, s, hl, hs, (okR.bind h).imp fun x H1 q => ?_⟩
  obtain ⟨ρ1, s1, k, e1, rs1, ra, h1⟩ := q
  obtain rfl : k = x := ra
  exact h1 _ ρ1 H1 Ext.refl rfl rs1
/-- and, or, not as values -/
def mAnd (ma mb : Lo → M D) : Lo → M D := fun lo s => (ma lo s).bind fun x s1 => match truD x s1 with
  | some true => mb lo s1
  | some false => .ok x s1
  | none => .bad
def mOr (ma mb : Lo → M D) : Lo → M D := fun lo s => (ma lo s).bind fun x s1 => match truD x s1 with
  | some true => .ok x s1
  | some false => mb lo s1
  | none => .bad
def mNot (ma : Lo → M D) : Lo → M D := fun lo s => (ma lo s).bind fun x s1 => match truD x s1 with
  | some b => .ok (.bl (!b)) s1
  | none => .bad

theorem pd_and {a b : Expr} {rest : List Expr} {ma mb : Lo → M D} (ha : PE X a (tM X.K c W ma)) (hb : PE X (.BoolOp .And (b :: rest) pos) (tM X.K c W mb)) : PE X (.BoolOp .And (a :: b :: rest) pos) (tM X.K c W (mAnd ma mb)) := by
  refine PE_imp (pe_andT ha hb) fun σ H Q h => ?_
  obtain ⟨ρ, lo, s, hl, hs, h⟩ := h
  refine ⟨ρ, lo, s, hl, hs, (okR.bind h).imp fun x H1 q => ?_⟩
  obtain ⟨ρ1, s1, d, e1, rs1, rd, h1⟩ := q
  cases e : truD d s1 with
  | none => simp only [e] at h1; exact h1.elim
  | some k =>
    refine ⟨k, truD_ok rs1 rd e, ?_⟩
    simp only [e] at h1
    cases k with
    | true => exact iteT ⟨ρ1, lo, s1, hl.ext e1, rs1, h1⟩
    | false => exact iteF (h1 x ρ1 H1 Ext.refl rd rs1)
theorem pd_or {a b : Expr} {rest : List Expr} {ma mb : Lo → M D} (ha : PE X a (tM X.K c W ma)) (hb : PE X (.BoolOp .Or (b :: rest) pos) (tM X.K c W mb)) : PE X (.BoolOp .Or (a :: b :: rest) pos) (tM X.K c W (mOr ma mb)) := by
  refine PE_imp (pe_orT ha hb) fun σ H Q h => ?_
  obtain ⟨ρ, lo, s, hl, hs, h⟩ := h
  refine ⟨ρ, lo, s, hl, hs, (okR.bind h).imp fun x H1 q => ?_⟩
  obtain ⟨ρ1, s1, d, e1, rs1, rd, h1⟩ := q
  cases e : truD d s1 with
  | none => simp only [e] at h1; exact h1.elim
  | some k =>
    refine ⟨k, truD_ok rs1 rd e, ?_⟩
    simp only [e] at h1
    cases k with
    | true => exact iteT (h1 x ρ1 H1 Ext.refl rd rs1)
    | false => exact iteF ⟨ρ1, lo, s1, hl.ext e1, rs1, h1⟩
theorem pd_not {a : Expr} {ma : Lo → M D} (ha : PE X a (tM X.K c W ma)) : PE X (.UnaryOp .Not a pos) (tM X.K c W (mNot ma)) := by
  refine PE_imp (pe_notT ha) fun σ H Q h => ?_
  obtain ⟨ρ, lo, s, hl, hs, h⟩ := h
  refine ⟨ρ, lo, s, hl, hs, (okR.bind h).imp fun x H1 q => ?_⟩
  obtain ⟨ρ1, s1, d, e1, rs1, rd, h1⟩ := q
  cases e : truD d s1 with
  | none => simp only [e] at h1; exact h1.elim
  | some k =>
    simp only [e] at h1
    exact ⟨k, truD_ok rs1 rd e, h1 _ ρ1 H1 Ext.refl rfl rs1⟩
def mIfE (mt : Lo → M Bool) (ma mb : Lo → M D) : Lo → M D := fun lo s => (mt lo s).bind fun k s1 => if k = true then ma lo s1 else mb lo s1
theorem pd_ifExp {t a b : Expr} {mt : Lo → M Bool} {ma mb : Lo → M D} (ht : PT X t (tMB X.K c W mt)) (ha : PE X a (tM X.K c W ma)) (hb : PE X b (tM X.K c W mb)) : PE X (.IfExp t a b pos) (tM X.K c W (mIfE mt ma mb)) := by
  refine PE_imp (pe_ifExp ht ha hb) fun σ H Q h => ?_
  obtain ⟨ρ, lo, s, hl, hs, h⟩ := h
  refine ⟨ρ, lo, s, hl, hs, (okR.bind h).imp fun x H1 q => ?_⟩
  obtain ⟨ρ1, s1, k, e1, rs1, ra, h1⟩ := q
  obtain rfl : k = x := ra
  cases k with
  | true => exact iteT ⟨ρ1, lo, s1, hl.ext e1, rs1, h1⟩
  | false => exact iteF ⟨ρ1, lo, s1, hl.ext e1, rs1, h1⟩
/-- a op b op' c -/
def mChain (f f' : D → D → Sto → Option D) (ma mb mc : Lo → M D) : Lo → M D := fun lo s => (ma lo s).bind fun x s1 => (mb lo s1).bind fun y s2 => match f x y s2 with
  | some (.bl true) => (mc lo s2).bind fun z s3 => liftP (f' y z) s3
  | some (.bl false) => .ok (.bl false) s2
  | _ => .bad
theorem chain_run {f f' : D → D → Sto → Option D} {ma mb mc : Lo → M D} {σ : St} {H : Hp} {Q : VK} (h : tM X.K c W (mChain f f' ma mb mc) σ H Q) : tChain (rP X.K f) (rP X.K f') (tM X.K c W ma) (tM X.K c W mb) (tM X.K c W mc) σ H Q := by
  obtain ⟨ρ, lo, s, hl, hs, h⟩ := h
  refine ⟨ρ, lo, s, hl, hs, (okR.bind h).imp fun x H1 q => ?_⟩
  obtain ⟨ρ1, s1, a, e1, rs1, ra, h1⟩ := q
  refine ⟨ρ1, lo, s1, hl.ext e1, rs1, (okR.bind h1).imp fun y H2 q => ?_⟩
  obtain ⟨ρ2, s2, b, e2, rs2, rb, h2⟩ := q
  cases e : f a b s2 with
  | none => simp only [e] at h2; exact h2.elim
  | some d =>
    cases d <;> (try (simp only [e] at h2; exact h2.elim))
    rename_i k
    refine ⟨ρ2, s2, a, b, .bl k, Rep.ext e2 ra, rb, rs2, e, fun v H' e3 rv rs3 => ⟨k, rv, ?_⟩⟩
    cases k with
    | false =>
      simp only [e] at h2
      exact iteF (h2 _ ρ2 H' e3 rfl rs3)
    | true =>
      simp only [e] at h2
      refine iteT ⟨ρ2, lo, s2, ((hl.ext e1).ext e2).ext e3, rs3, (okR.bind (okR.mono e3 h2)).imp fun z H4 q => ?_⟩
      obtain ⟨ρ4, s4, dz, e4, rs4, rz, h4⟩ := q
      obtain ⟨d, ed, q⟩ := h4.lift
      exact ⟨ρ4, s4, b, dz, d, Rep.ext e4 (Rep.ext e3 rb), rz, rs4, ed, fun v H' e' => q v ρ4 H' e'⟩
theorem pd_chain {a b d : Expr} {op op' : CmpOp} {f f' : D → D → Sto → Option D} {ma mb mc : Lo → M D} (ho : OpR X (compareOp op) (rP X.K f)) (ho' : OpR X (compareOp op') (rP X.K f')) (ha : PE X a (tM X.K c W ma)) (hb : PE X b (tM X.K c W mb)) (hc : PE X d (tM X.K c W mc))
    (hm : lastMarks [op, op'] [b, d] = false := by with_unfolding_all rfl) : PE X (.Compare a [op, op'] [b, d] pos) (tM X.K c W (mChain f f' ma mb mc)) :=
  PE_imp (pe_chain ho ho' ha hb hc hm) fun _ _ _ h => chain_run h
theorem pdt_chain {a b d : Expr} {op op' : CmpOp} {f f' : D → D → Sto → Option D} {ma mb mc : Lo → M D} (ho : OpR X (compareOp op) (rP X.K f)) (ho' : OpR X (compareOp op') (rP X.K f')) (ha : PE X a (tM X.K c W ma)) (hb : PE X b (tM X.K c W mb)) (hc : PE X d (tM X.K c W mc))
    (hm : lastMarks [op, op'] [b, d] = false := by with_unfolding_all rfl) : PT X (.Compare a [op, op'] [b, d] pos) (tMB X.K c W (mB (mChain f f' ma mb mc))) := by
  refine PT_imp (pt_chain ho ho' ha hb hc hm) fun σ H Q h => ?_
  refine chain_run (c := c) (W := W) (ma := ma) (mb := mb) (mc := mc) (f := f) (f' := f') ?_
  obtain ⟨ρ, lo, s, hl, hs, h⟩ := h
  refine ⟨ρ, lo, s, hl, hs, (okR.bind h).imp fun x H1 q => ?_⟩
  obtain ⟨ρ1, s1, a, e1, rs1, ra, h1⟩ := q
  exact asB_run rs1 ra h1

/-! ### lists of expressions, displays, calls -/
def mNil : Lo → M (List D) := fun _ => ret []
def mCons (ma : Lo → M D) (mr : Lo → M (List D)) : Lo → M (List D) := fun lo s => (ma lo s).bind fun x s1 => (mr lo s1).bind fun xs s2 => .ok (x :: xs) s2
theorem pda_nil : PA X [] (tMA X.K c W mNil) := by
  refine PA_imp pa_nil fun σ H Q h => ?_
  obtain ⟨ρ, lo, s, hl, hs, h⟩ := h
  exact h [] ρ H Ext.refl rfl hs
theorem pda_cons {e : Expr} {es : List Expr} {ma : Lo → M D} {mr : Lo → M (List D)} (ha : PE X e (tM X.K c W ma)) (hr : PA X es (tMA X.K c W mr)) (hs : starEach (e :: es) X.env = (false, eval e X.env) :: starEach es X.env := by rfl) : PA X (e :: es) (tMA X.K c W (mCons ma mr)) := by
  refine PA_imp (pa_cons ha hr hs) fun σ H Q h => ?_
  obtain ⟨ρ, lo, s, hl, hs, h⟩ := h
  refine ⟨ρ, lo, s, hl, hs, (okR.bind h).imp fun x H1 q => ?_⟩
  obtain ⟨ρ1, s1, a, e1, rs1, ra, h1⟩ := q
  refine ⟨ρ1, lo, s1, hl.ext e1, rs1, (okR.bind h1).imp fun y H2 q => ?_⟩
  obtain ⟨ρ2, s2, b, e2, rs2, rb, h2⟩ := q
  exact h2 _ ρ2 H2 Ext.refl ⟨x, y, rfl, Rep.ext e2 ra, rb⟩ rs2
/-- a tuple -/
def mTup (ma : Lo → M (List D)) : Lo → M D := fun lo s => (ma lo s).bind fun xs s1 => if xs.length ≤ sizeLine then .ok (.tup xs) s1 else .bad
theorem pd_tup {es : List Expr} {x1} {ma : Lo → M (List D)} (ha : PA X es (tMA X.K c W ma)) : PE X (.Tuple es x1 pos) (tM X.K c W (mTup ma)) := by
  refine PE_imp (pe_tup ha) fun σ H Q h => ?_
  obtain ⟨ρ, lo, s, hl, hs, h⟩ := h
  refine ⟨ρ, lo, s, hl, hs, (okR.bind h).imp fun x H1 q => ?_⟩
  obtain ⟨ρ1, s1, a, e1, rs1, ra, h1⟩ := q
  split at h1
  · rename_i hz
    refine ⟨by rw [← ra.length]; exact hz, fun p hp => ?_⟩
    exact h1 _ ρ1 _ (Ext.alloc hp) ⟨p, x, rfl, .inl ⟨At.of upd_same, rs1.fresh hp⟩, Reps.ext (Ext.alloc hp) ra⟩ (rs1.alloc hp)
  · exact h1.elim
/-- a list that stays as it is -/
def mLst (ma : Lo → M (List D)) : Lo → M D := fun lo s => (ma lo s).bind fun xs s1 => if xs.length ≤ sizeLine then .ok (.lst xs) s1 else .bad
theorem pd_lst {es : List Expr} {ma : Lo → M (List D)} (ha : PA X es (tMA X.K c W ma)) : PE X (.List es pos) (tM X.K c W (mLst ma)) := by
  refine PE_imp (pe_lst ha) fun σ H Q h => ?_
  obtain ⟨ρ, lo, s, hl, hs, h⟩ := h
  refine ⟨ρ, lo, s, hl, hs, (okR.bind h).imp fun x H1 q => ?_⟩
  obtain ⟨ρ1, s1, a, e1, rs1, ra, h1⟩ := q
  split at h1
  · rename_i hz
    refine ⟨by rw [← ra.length]; exact hz, fun p hp => ?_⟩
    exact h1 _ ρ1 _ (Ext.alloc hp) ⟨p, x, rfl, At.of upd_same, rs1.fresh hp, Reps.ext (Ext.alloc hp) ra⟩ (rs1.alloc hp)
  · exact h1.elim
/-- a list that may change: a new object of the store -/
def newL (xs : List D) : M D := fun s => .ok (.loc s.length) (s ++ [.lst xs])
def mLstL (ma : Lo → M (List D)) : Lo → M D := fun lo s => (ma lo s).bind fun xs s1 => if xs.length ≤ sizeLine then newL xs s1 else .bad
theorem pd_lstL {es : List Expr} {ma : Lo → M (List D)} (ha : PA X es (tMA X.K c W ma)) : PE X (.List es pos) (tM X.K c W (mLstL ma)) := by
  refine PE_imp (pe_lst ha) fun σ H Q h => ?_
  obtain ⟨ρ, lo, s, hl, hs, h⟩ := h
  refine ⟨ρ, lo, s, hl, hs, (okR.bind h).imp fun x H1 q => ?_⟩
  obtain ⟨ρ1, s1, a, e1, rs1, ra, h1⟩ := q
  split at h1
  · rename_i hz
    refine ⟨by rw [← ra.length]; exact hz, fun p hp => ?_⟩
    exact h1 _ _ _ (Ext.allocL hp) ⟨p, rfl, by show (ρ1.l ++ [p])[s1.length]? = some p; rw [rs1.len]; simp⟩ (rs1.allocL hp ra)
  · exact h1.elim
/-- a dict without entries -/
theorem pd_dnew : PE X (.Dict [] [] pos) (tM X.K c W fun _ => ret (.dct [] [])) := by
  refine PE_imp pe_dnewK fun σ H Q h => ?_
  obtain ⟨ρ, lo, s, hl, hs, h⟩ := h
  exact fun p hp => h _ ρ _ (Ext.alloc hp) ⟨p, [], rfl, At.of upd_same, rfl, hs.fresh hp, rfl⟩ (hs.alloc hp)
/-- a built-in that reads -/
def rC (K : PySem.W.Frag) (f : List D → Sto → Option D) : List V → Hp → VK → Prop := fun vs H Q => ∃ ρ s ds d, Reps K ρ H ds vs ∧ RepS K ρ H s ∧ f ds s = some d ∧
  ∀ v H', Ext ρ H ρ H' → Rep K ρ H' d v → RepS K ρ H' s → Q v H'
def mCB (f : List D → Sto → Option D) (ma : Lo → M (List D)) : Lo → M D := fun lo s => (ma lo s).bind fun xs s1 => liftP (f xs) s1
theorem callB_run {f : List D → Sto → Option D} {ma : Lo → M (List D)} {σ : St} {H : Hp} {Q : VK} (h : tM X.K c W (mCB f ma) σ H Q) : tCB (rC X.K f) (tMA X.K c W ma) σ H Q := by
  obtain ⟨ρ, lo, s, hl, hs, h⟩ := h
  refine ⟨ρ, lo, s, hl, hs, (okR.bind h).imp fun x H1 q => ?_⟩
  obtain ⟨ρ1, s1, a, e1, rs1, ra, h1⟩ := q
  obtain ⟨d, e, q⟩ := h1.lift
  exact ⟨ρ1, s1, a, d, ra, rs1, e, fun v H' e' => q v ρ1 H' e'⟩
theorem pd_callB {x : Str} {p : Pos} {e : Expr} {es : List Expr} {id : String} {f : List D → Sto → Option D} {ma : Lo → M (List D)} (hc : CallR X (.builtin id) (rC X.K f)) (ha : PA X (e :: es) (tMA X.K c W ma)) (hm : X.mg x = none) (hg : Gl X x := by rfl) (hv : bootBuiltins x = some (.builtin id) := by decide +kernel) (hn : x ≠ "__name__" := by decide)
    (hdb : (x == ("__debug__" : Str)) = false := by decide) (he : starEach (e :: es) X.env = (false, eval e X.env) :: starEach es X.env := by rfl) (hpl : (backTo pos (starEach es X.env)).any (·.1) = false := by rfl) : PE X (.Call (.Name x p) (e :: es) [] pos) (tM X.K c W (mCB f ma)) :=
  PE_imp (pe_callB hc hg hm hv ha hn hdb he hpl) fun _ _ _ h => callB_run h
theorem pd_callT {x : Str} {p : Pos} {e : Expr} {es : List Expr} {T : String} {f : List D → Sto → Option D} {ma : Lo → M (List D)} (hc : CallR X (.type T) (rC X.K f)) (ha : PA X (e :: es) (tMA X.K c W ma)) (hm : X.mg x = none) (hg : Gl X x := by rfl) (hv : bootBuiltins x = some (.type T) := by decide +kernel) (hn : x ≠ "__name__" := by decide)
    (hdb : (x == ("__debug__" : Str)) = false := by decide) (he : starEach (e :: es) X.env = (false, eval e X.env) :: starEach es X.env := by rfl) (hpl : (backTo pos (starEach es X.env)).any (·.1) = false := by rfl) : PE X (.Call (.Name x p) (e :: es) [] pos) (tM X.K c W (mCB f ma)) :=
  PE_imp (pe_callTy hc hg hm hv ha hn hdb he hpl) fun _ _ _ h => callB_run h
end
end DL
set_option Elab.async false
set_option linter.all false
set_option maxRecDepth 100000
set_option maxHeartbeats 4000000
/-! DLc: statements, calls of defs, loops, comprehensions. -/
namespace DL
open PySem L2

/-! ### what a statement does -/
inductive SR where
  | nx (lo : Lo) (s : Sto)
  | rt (d : D) (s : Sto)
  | bk (lo : Lo) (s : Sto)
  | ct (lo : Lo) (s : Sto)
  | exc (x : Xn) (lo : Lo) (s : Sto)
  | bad
def okS (K : PySem.W.Frag) (c : ClsM) (W : WX) (E : Ends) (ρ : Rg) (H : Hp) : SR → Prop
  | .nx lo s => ∀ σ ρ' H', Ext ρ H ρ' H' → RepLo K ρ' H' σ lo → RepS K ρ' H' s → E.nx σ H'
  | .rt d s => ∀ v ρ' H', Ext ρ H ρ' H' → Rep K ρ' H' d v → RepS K ρ' H' s → E.rt v H'
  | .bk lo s => ∀ σ ρ' H', Ext ρ H ρ' H' → RepLo K ρ' H' σ lo → RepS K ρ' H' s → E.bk σ H'
  | .ct lo s => ∀ σ ρ' H', Ext ρ H ρ' H' → RepLo K ρ' H' σ lo → RepS K ρ' H' s → E.ct σ H'
  | .exc x lo s => ∀ v dd σ ρ' H', Ext ρ H ρ' H' → RepX K c ρ' H' v dd x → RepLo K ρ' H' σ lo → RepS K ρ' H' s → W v dd σ H'
  | .bad => False
def tMS (K : PySem.W.Frag) (c : ClsM) (W : WX) (m : Lo → Sto → SR) : TS := fun E σ H => ∃ ρ lo s, RepLo K ρ H σ lo ∧ RepS K ρ H s ∧ okS K c W E ρ H (m lo s)
def bindS {α : Type} (r : R α) (lo : Lo) (f : α → Sto → SR) : SR := match r with
  | .ok a s => f a s
  | .exc x s => .exc x lo s
  | .bad => .bad
section
variable {K : PySem.W.Frag} {c : ClsM} {W : WX} {σ : St} {ρ ρ1 : Rg} {H H1 : Hp} {E : Ends} {α β : Type} {rep : RepT α β}
theorem okS.mono {r : SR} (e : Ext ρ H ρ1 H1) (h : okS K c W E ρ H r) : okS K c W E ρ1 H1 r := by
  cases r with
  | nx lo s => exact fun σ ρ' H' e' => h σ ρ' H' (e.trans e')
  | rt d s => exact fun σ ρ' H' e' => h σ ρ' H' (e.trans e')
  | bk lo s => exact fun σ ρ' H' e' => h σ ρ' H' (e.trans e')
  | ct lo s => exact fun σ ρ' H' e' => h σ ρ' H' (e.trans e')
  | exc x lo s => exact fun v dd σ ρ' H' e' => h v dd σ ρ' H' (e.trans e')
  | bad => exact h
theorem okS.bind {r : R α} {lo : Lo} {f : α → Sto → SR} (hl : RepLo K ρ H σ lo) (h : okS K c W E ρ H (bindS r lo f)) :
    okR K c W σ ρ H rep (fun b H1 => ∃ ρ1 s1 a, Ext ρ H ρ1 H1 ∧ RepS K ρ1 H1 s1 ∧ rep ρ1 H1 a b ∧ okS K c W E ρ1 H1 (f a s1)) r := by
  cases r with
  | ok a s => exact fun b ρ' H' e' rb rs => ⟨ρ', s, a, e', rs, rb, okS.mono e' h⟩
  | exc x s => exact fun v dd ρ' H' e' hx rs => h v dd σ ρ' H' e' hx (hl.ext e') rs
  | bad => exact h
end

section
variable {X : Cx} {c : ClsM} {W : WX} {pos : Pos}
def mSeq (m1 m2 : Lo → Sto → SR) : Lo → Sto → SR := fun lo s => match m1 lo s with
  | .nx lo' s' => m2 lo' s'
  | r => r
theorem pds_nil : PSs X [] (tMS X.K c W .nx) := by
  refine PSs_imp pss_nil fun E σ H h => ?_
  obtain ⟨ρ, lo, s, hl, hs, h⟩ := h
  exact h σ ρ H Ext.refl hl hs
theorem pds_cons {st : Stmt} {rest : List Stmt} {m1 m2 : Lo → Sto → SR} (h1 : PS X st (tMS X.K c W m1)) (h2 : PSs X rest (tMS X.K c W m2)) : PSs X (st :: rest) (tMS X.K c W (mSeq m1 m2)) := by
  refine PSs_imp (pss_cons h1 h2) fun E σ H h => ?_
  obtain ⟨ρ, lo, s, hl, hs, h⟩ := h
  refine ⟨ρ, lo, s, hl, hs, ?_⟩
  unfold mSeq at h
  cases e : m1 lo s with
  | nx lo' s' =>
    simp only [e] at h
    exact fun σ' ρ' H' e' r1 r2 => ⟨ρ', lo', s', r1, r2, okS.mono e' h⟩
  | rt d s' => simp only [e] at h; exact h
  | bk d s' => simp only [e] at h; exact h
  | ct d s' => simp only [e] at h; exact h
  | exc d s' => simp only [e] at h; exact h
  | bad => simp only [e] at h; exact h
theorem pds_one {st : Stmt} {m1 : Lo → Sto → SR} (h1 : PS X st (tMS X.K c W m1)) : PSs X [st] (tMS X.K c W m1) := pss_one h1
theorem pd_pass : PS X (.Pass pos) (tMS X.K c W .nx) := by
  refine PS_imp ps_pass fun E σ H h => ?_
  obtain ⟨ρ, lo, s, hl, hs, h⟩ := h
  exact h σ ρ H Ext.refl hl hs
theorem pd_break : PS X (.Break pos) (tMS X.K c W .bk) := by
  refine PS_imp ps_break fun E σ H h => ?_
  obtain ⟨ρ, lo, s, hl, hs, h⟩ := h
  exact h σ ρ H Ext.refl hl hs
theorem pd_cont : PS X (.Continue pos) (tMS X.K c W .ct) := by
  refine PS_imp ps_continue fun E σ H h => ?_
  obtain ⟨ρ, lo, s, hl, hs, h⟩ := h
  exact h σ ρ H Ext.refl hl hs
def mRet (m : Lo → M D) : Lo → Sto → SR := fun lo s => bindS (m lo s) lo .rt
theorem pd_ret {e : Expr} {m : Lo → M D} (he : PE X e (tM X.K c W m)) : PS X (.Return (some e) pos) (tMS X.K c W (mRet m)) := by
  refine PS_imp (ps_ret he) fun E σ H h => ?_
  obtain ⟨ρ, lo, s, hl, hs, h⟩ := h
  refine ⟨ρ, lo, s, hl, hs, (okS.bind hl h).imp fun x H1 q => ?_⟩
  obtain ⟨ρ1, s1, a, e1, rs1, ra, h1⟩ := q
  exact h1 x ρ1 H1 Ext.refl ra rs1
def mExpr (m : Lo → M D) : Lo → Sto → SR := fun lo s => bindS (m lo s) lo fun _ s1 => .nx lo s1
theorem pd_expr {e : Expr} {m : Lo → M D} (he : PE X e (tM X.K c W m)) (hs : swapsWith e none pos.line X.env = pure false := by rfl) : PS X (.Expr e pos) (tMS X.K c W (mExpr m)) := by
  refine PS_imp (ps_expr he hs) fun E σ H h => ?_
  obtain ⟨ρ, lo, s, hl, hs, h⟩ := h
  refine ⟨ρ, lo, s, hl, hs, (okS.bind hl h).imp fun x H1 q => ?_⟩
  obtain ⟨ρ1, s1, a, e1, rs1, ra, h1⟩ := q
  exact h1 σ ρ1 H1 Ext.refl (hl.ext e1) rs1
def mIf (mt : Lo → M Bool) (ma mb : Lo → Sto → SR) : Lo → Sto → SR := fun lo s => bindS (mt lo s) lo fun k s1 => if k = true then ma lo s1 else mb lo s1
theorem pd_if {t : Expr} {a b : List Stmt} {mt : Lo → M Bool} {ma mb : Lo → Sto → SR} (ht : PT X t (tMB X.K c W mt)) (ha : PSs X a (tMS X.K c W ma)) (hb : PSs X b (tMS X.K c W mb)) : PS X (.If t a b pos) (tMS X.K c W (mIf mt ma mb)) := by
  refine PS_imp (ps_if ht ha hb) fun E σ H h => ?_
  obtain ⟨ρ, lo, s, hl, hs, h⟩ := h
  refine ⟨ρ, lo, s, hl, hs, (okS.bind hl h).imp fun x H1 q => ?_⟩
  obtain ⟨ρ1, s1, k, e1, rs1, ra, h1⟩ := q
  obtain rfl : k = x := ra
  cases k with
  | true => exact iteT ⟨ρ1, lo, s1, hl.ext e1, rs1, h1⟩
  | false => exact iteF ⟨ρ1, lo, s1, hl.ext e1, rs1, h1⟩

/-! ### targets -/
inductive Tg where
  | nm (i : Nat)
  | tp (is : List Nat)
def setAll : List Nat → List D → Lo → Option Lo
  | [], [], lo => some lo
  | i :: is, d :: ds, lo => setAll is ds (lo.set i (some d))
  | _, _, _ => none
def setT : Tg → D → Lo → Option Lo
  | .nm i, d, lo => some (lo.set i (some d))
  | .tp is, .tup ds, lo => setAll is ds lo
  | _, _, _ => none
def gAll : List Nat → TGs
  | [] => gNil
  | i :: is => gCons (gName i) (gAll is)
def gT (K : PySem.W.Frag) : Tg → TG
  | .nm i => gName i
  | .tp is => gTup K is.length (gAll is)
def Tg.slots : Tg → List Nat
  | .nm i => [i]
  | .tp is => is
theorem wipe_set : ∀ {vs : List Nat} {i : Nat} {x : Option V} {σ : St}, i ∈ vs → wipe (σ.set i x) vs = wipe σ vs
  | v :: vs, i, x, σ, h => by
    unfold wipe
    by_cases hi : i ∈ vs
    · rw [wipe_set hi]
    · have e : i = v := by
        rcases List.mem_cons.mp h with h | h
        · exact h
        · exact absurd h hi
      subst e
      have go : ∀ {us : List Nat} {σ : St}, i ∉ us → wipe (σ.set i x) us = (wipe σ us).set i x := by
        intro us
        induction us with
        | nil => intro σ _; rfl
        | cons u us ih =>
          intro σ hu
          rw [List.mem_cons, not_or] at hu
          unfold wipe
          rw [ih hu.2, List.set_comm _ _ hu.1]
      rw [go hi, List.set_set]
theorem gAll_run {K : PySem.W.Frag} {ρ : Rg} {H : Hp} : ∀ {is : List Nat} {ds : List D} {vs : List V} {lo lo' : Lo} {σ : St} {Q : St → Hp → Prop}, Reps K ρ H ds vs → setAll is ds lo = some lo' → RepLo K ρ H σ lo →
    (∀ σ', RepLo K ρ H σ' lo' → (∀ us : List Nat, (∀ i ∈ is, i ∈ us) → wipe σ' us = wipe σ us) → Q σ' H) → gAll is vs σ H Q
  | [], [], _, lo, lo', σ, Q, h, e, hl, q => by
    cases h
    cases e
    exact ⟨rfl, q σ hl fun _ _ => rfl⟩
  | i :: is, d :: ds, _, lo, lo', σ, Q, h, e, hl, q => by
    obtain ⟨v, r, rfl, h1, h2⟩ := h
    refine ⟨v, r, rfl, ?_⟩
    refine gAll_run (ρ := ρ) h2 e (hl.set i h1) fun σ' r' w => q σ' r' fun us hu => ?_
    rw [w us fun j hj => hu j (List.mem_cons_of_mem _ hj), wipe_set (hu i List.mem_cons_self)]
  | [], _ :: _, _, _, _, _, _, _, e, _, _ => by cases e
  | _ :: _, [], _, _, _, _, _, _, e, _, _ => by cases e
theorem setAll_len : ∀ {is : List Nat} {ds : List D} {lo lo' : Lo}, setAll is ds lo = some lo' → is.length = ds.length
  | [], [], _, _, _ => rfl
  | i :: is, d :: ds, lo, lo', e => by
    rw [List.length_cons, List.length_cons, setAll_len (is := is) (ds := ds) e]
  | [], _ :: _, _, _, e => by cases e
  | _ :: _, [], _, _, e => by cases e
theorem gT_run {K : PySem.W.Frag} {ρ : Rg} {H : Hp} {T : Tg} {d : D} {x : V} {lo lo' : Lo} {σ : St} {Q : St → Hp → Prop} (h : Rep K ρ H d x) (e : setT T d lo = some lo') (hl : RepLo K ρ H σ lo)
    (q : ∀ σ', RepLo K ρ H σ' lo' → (∀ us : List Nat, (∀ i ∈ T.slots, i ∈ us) → wipe σ' us = wipe σ us) → Q σ' H) : gT K T x σ H Q := by
  cases T with
  | nm i =>
    cases e
    exact q _ (hl.set i h) fun us hu => wipe_set (hu i List.mem_cons_self)
  | tp is =>
    cases d <;> try (cases e)
    rename_i ds
    obtain ⟨a, vs, rfl, h1, h2⟩ := Rep.sqT h
    refine ⟨a, vs, rfl, h1, ?_, gAll_run h2 e hl q⟩
    rw [← h2.length]
    exact (setAll_len e).symm
/-- e stored at a target -/
def mSet (T : Tg) (m : Lo → M D) : Lo → Sto → SR := fun lo s => bindS (m lo s) lo fun d s1 => match setT T d lo with
  | some lo' => .nx lo' s1
  | none => .bad
theorem pd_asg {tg e : Expr} {T : Tg} {m : Lo → M D} (he : PE X e (tM X.K c W m)) (hg : PG X tg (gT X.K T)) (hs : swapsWithSole [tg] e pos.line X.env = pure false := by rfl) (hw : swappedStores [tg] e X.env = pure none := by rfl) (h1 : (assignEach [tg] X.env).map (·.2) = [assign tg X.env] := by rfl) : PS X (.Assign [tg] e pos) (tMS X.K c W (mSet T m)) := by
  refine PS_imp (ps_asg he hg hs hw h1) fun E σ H h => ?_
  obtain ⟨ρ, lo, s, hl, hs, h⟩ := h
  refine ⟨ρ, lo, s, hl, hs, (okS.bind hl h).imp fun x H1 q => ?_⟩
  obtain ⟨ρ1, s1, a, e1, rs1, ra, h1⟩ := q
  split at h1
  · rename_i lo' el
    exact gT_run ra el (hl.ext e1) fun σ' r' _ => h1 σ' ρ1 H1 Ext.refl r' rs1
  · exact h1.elim
theorem pd_set (i : Nat) {x : Str} {e : Expr} {m : Lo → M D} {pos' : Pos} (hN : X.N.Nodup) (he : PE X e (tM X.K c W m)) (hi : X.N[i]? = some x := by rfl) (hx : Loc X.env.scope x := by first | exact .inl rfl | exact .inr rfl) (hs : swapsWith e (some (.Name x pos')) pos.line X.env = pure false := by rfl)
    (hf : X.fn x = true ∨ X.env.scope.names.lookup x = some .local := by first | exact .inl rfl | exact .inr rfl) : PS X (.Assign [.Name x pos'] e pos) (tMS X.K c W (mSet (.nm i) m)) := by
  refine PS_imp (ps_set hN hi hx he hs hf) fun E σ H h => ?_
  obtain ⟨ρ, lo, s, hl, hs, h⟩ := h
  refine ⟨ρ, lo, s, hl, hs, (okS.bind hl h).imp fun x H1 q => ?_⟩
  obtain ⟨ρ1, s1, a, e1, rs1, ra, h1⟩ := q
  exact h1 _ ρ1 H1 Ext.refl ((hl.ext e1).set i ra) rs1
theorem pg_nm (i : Nat) {x : Str} (hN : X.N.Nodup) (hi : X.N[i]? = some x := by rfl) (hx : Loc X.env.scope x := by first | exact .inl rfl | exact .inr rfl)
    (hf : X.fn x = true ∨ X.env.scope.names.lookup x = some .local := by first | exact .inl rfl | exact .inr rfl) : PG X (.Name x pos) (gT X.K (.nm i)) := pg_name hN hi hx hf
theorem pg_cons (i : Nat) {x : Str} {p : Pos} {es : List Expr} {is : List Nat} (hN : X.N.Nodup) (hr : PGs X es (gAll is)) (hi : X.N[i]? = some x := by rfl) (hx : Loc X.env.scope x := by first | exact .inl rfl | exact .inr rfl)
    (hf : X.fn x = true ∨ X.env.scope.names.lookup x = some .local := by first | exact .inl rfl | exact .inr rfl) : PGs X (.Name x p :: es) (gAll (i :: is)) := pgs_cons (pg_name hN hi hx hf) hr
theorem pg_nil : PGs X [] (gAll []) := pgs_nil
theorem pg_tp {es : List Expr} {is : List Nat} {k : Nat} (hc : X.calm = true) (h : PGs X es (gAll is)) (hn : (assignEach es X.env).length = is.length := by rfl) (hst : (assignEach es X.env).findIdx? (·.1) = none := by rfl) : PG X (.Tuple es k pos) (gT X.K (.tp is)) :=
  pg_tup hc h hn hst
end
end DL
set_option Elab.async false
set_option linter.all false
set_option maxRecDepth 100000
set_option maxHeartbeats 4000000
/-! DLd: defs and their calls. -/
namespace DL
open PySem PySem.Spec PyProof.Rows L2

/-- a def's promise, where no repr is under way -/
structure FnG (P : Program) (w : World) (K : PySem.W.Frag) (mg : Str → Option Value) (base : Heap) (k : Nat) (f : Addr) (fd : FuncData) (ps : List Str) (sp : Sp) : Prop where
  len : ∀ {vs H Q E}, sp vs H Q E → vs.length = ps.length
  run : ∀ {A : Around} {outer : List Env} {s : Shared} {H : Hp} {args : Args} {us : List Value} {vs : List V} {Q : VK} {E : XK}, Room k A → A.guards = some [] → Env0 P w K mg base A outer s H →
    BindsTo s fd args (ps.zip us) → Vals vs us → sp vs H Q E → codeAny (model P w) A (.call (.ref f) args) (CR (L2.CX P w) outer P w H s Q E) s
section
variable {P : Program} {w : World} {K : PySem.W.Frag} {mg : Str → Option Value} {base : Heap} {k : Nat} {f : Addr}
theorem FnG.mono {j : Nat} {fd : FuncData} {ps : List Str} {sp : Sp} (F : FnG P w K mg base j f fd ps sp) (h : j ≤ k) : FnG P w K mg base k f fd ps sp :=
  ⟨F.len, fun hr => F.run (hr.mono h)⟩
/-- by its body -/
theorem FnG.body {x qual : Str} {st : Stmt} {fd : FuncData} {N ps : List Str} {sp : Sp} (F : Fun K x qual st f fd) (S : FnScope N ps (defScope st)) (hlen : ∀ {vs H Q E}, sp vs H Q E → vs.length = ps.length)
    (hb : ∀ {cdv : Value} {A : Around} {outer : List Env} {s : Shared} {H : Hp} {vs : List V} {Q : VK} {E : XK}, Room k (A.deeper (envOfC qual (defScope st) s.heap.objs.size f cdv)) → A.guards = some [] → sp vs H Q E →
      ∃ t, PSs (cxOf (L2.CX P w) P w K mg base N qual (defScope st) f cdv A outer s H E) (defBody st) t ∧ t { nx := fun _ H' => Q .non H', rt := Q } (start N vs) H) : FnG P w K mg base (k + 1) f fd ps sp := by
  obtain ⟨oc, od, kV, doc, pm, an, cdv, ct, osl, hfd, lk, hcd⟩ := F.ex
  subst hfd
  constructor
  · exact hlen
  intro A outer s H args us vs Q E hr hgd e0 hbi rv hsp
  have up : ∀ {b o}, base.get? b = some o → s.heap.get? b = some o := fun e => (e0.bs _ _ e).1
  have inK : K.In s.heap := e0.mod.kin.keeps fun _ _ e => up e
  have noLim : s.heap.NoLimit := e0.mod.nolimit.keeps fun _ _ e => up e
  have kinds : ∀ y ∈ ps.zip us, (defScope st).names.lookup y.1 = some .local ∨ ((defScope st).names.lookup y.1 = some .cell ∧ ((cellsFrom (s.heap.objs.size + 1) (defScope st).names []).lookup y.1).isSome = true) := by
    intro y hy
    obtain ⟨n, v⟩ := y
    cases S.par n (List.of_mem_zip hy).1 with
    | inl q => exact Or.inl q
    | inr q => exact Or.inr (And.intro q (PySem.W.cellsFrom_some _ _ _ (Or.inl q)))
  apply codeAny_call_function hr.depth (inK _ _ lk) rfl S.co S.gen rfl (PySem.W.codeRec_of inK hcd)
  apply hbi
  apply wpAny_newFunctionEnv_cells S.kind kinds
  intro env henv s1 inCall
  subst henv
  constructor
  · exact noLim.keeps inCall.toInCall.keep
  apply codeAny_func
  obtain ⟨t, ht, hq⟩ := hb (cdv := cdv) (outer := outer) (s := s) (hr.deeper _) hgd hsp
  have J := inv_start (CX := L2.CX P w) (P := P) (w := w) (K := K) (mg := mg) (base := base) (N := N) (cd := cdv) (E := E) S hr.hd e0 (hlen hsp) rv inCall
  apply wpAny_mono (ht.run [] s1 (start N vs) H _ J hq)
  · intro fl s' hs
    cases fl with
    | next => let ⟨_, H', J', q⟩ := hs; exact ⟨V.non, H', J'.os, J'.bare, J'.base, J'.hok, rfl, q⟩
    | brk => let ⟨_, _, _, q⟩ := hs; exact q.elim
    | cont => let ⟨_, _, _, q⟩ := hs; exact q.elim
    | ret u => let ⟨v, _, H', J', r', q⟩ := hs; exact ⟨v, H', J'.os, J'.bare, J'.base, J'.hok, r', q⟩
  · exact fun _ _ h => h
end

/-- what a def promises by its meaning -/
def spM (K : PySem.W.Frag) (c : ClsM) (n : Nat) (m : List D → M D) : Sp := fun vs H Q E => vs.length = n ∧ ∃ ρ ds s, Reps K ρ H ds vs ∧ RepS K ρ H s ∧ okR K c (fun v d _ H => E v d H) [] ρ H (rD K) Q (m ds s)
/-- the def x of the module has the meaning m -/
structure FnD (P : Program) (w : World) (K : PySem.W.Frag) (mg : Str → Option Value) (base : Heap) (c : ClsM) (k : Nat) (x : Str) (ps : List Str) (m : List D → M D) : Prop where
  ex : ∃ f fd, mg x = some (.ref f) ∧ PySem.W.keepIn K (.ref f) = true ∧ Binds K fd ps [] ∧ FnG P w K mg base k f fd ps (spM K c ps.length m)
def callF (N n : Nat) (body : Lo → Sto → SR) : List D → M D := fun ds s => match body (ds.map some ++ List.replicate (N - n) none) s with
  | .nx _ s' => .ok .non s'
  | .rt d s' => .ok d s'
  | .exc x _ s' => .exc x s'
  | _ => .bad
theorem reps_lo {K : PySem.W.Frag} {ρ : Rg} {H : Hp} {ds : List D} {vs : List V} (h : Reps K ρ H ds vs) (j : Nat) : RepLo K ρ H (vs.map some ++ List.replicate j none) (ds.map some ++ List.replicate j none) := by
  refine ⟨by simp [h.length], fun i d e => ?_⟩
  by_cases hi : i < ds.length
  · rw [List.getElem?_append_left (by simpa using hi), List.getElem?_map] at e
    rw [List.getElem?_append_left (by rw [List.length_map, ← h.length]; exact hi), List.getElem?_map]
    cases e' : ds[i]? with
    | none => rw [e'] at e; cases e
    | some d' =>
      rw [e'] at e
      cases e
      obtain ⟨v, h1, h2⟩ := h.get e'
      exact ⟨v, by rw [h1]; rfl, h2⟩
  · rw [List.getElem?_append_right (by simpa using hi), List.getElem?_replicate] at e
    split at e <;> cases e
section
variable {P : Program} {w : World} {K : PySem.W.Frag} {mg : Str → Option Value} {base : Heap} {c : ClsM} {k : Nat}
theorem FnG.of {x qual : Str} {st : Stmt} {f : Addr} {fd : FuncData} {N ps : List Str} {body : Lo → Sto → SR} (F : Fun K x qual st f fd) (S : FnScope N ps (defScope st))
    (hb : ∀ {cdv : Value} {A : Around} {outer : List Env} {s : Shared} {H : Hp} {E : XK}, Room k (A.deeper (envOfC qual (defScope st) s.heap.objs.size f cdv)) → A.guards = some [] →
      PSs (cxOf (L2.CX P w) P w K mg base N qual (defScope st) f cdv A outer s H E) (defBody st) (tMS K c (fun v d _ H => E v d H) body)) : FnG P w K mg base (k + 1) f fd ps (spM K c ps.length (callF N.length ps.length body)) := by
  refine FnG.body F S (fun h => h.1) ?_
  intro cdv A outer s H vs Q E hr hgd hsp
  obtain ⟨hl, ρ, ds, s', h1, h2, h3⟩ := hsp
  refine ⟨_, hb hr hgd, ρ, ds.map some ++ List.replicate (N.length - ps.length) none, s', ?_, h2, ?_⟩
  · show RepLo K ρ H (start N vs) (ds.map some ++ List.replicate (N.length - ps.length) none)
    unfold L2.start
    rw [hl]
    exact reps_lo h1 _
  · unfold callF at h3
    cases e : body (ds.map some ++ List.replicate (N.length - ps.length) none) s' with
    | nx lo s2 => rw [e] at h3; exact fun σ ρ' H' e' _ rs => h3 V.non ρ' H' e' rfl rs
    | rt d s2 => rw [e] at h3; exact h3
    | bk lo s2 => rw [e] at h3; exact h3.elim
    | ct lo s2 => rw [e] at h3; exact h3.elim
    | exc xn lo s2 => rw [e] at h3; exact fun v dd σ ρ' H' e' hx _ rs => h3 v dd ρ' H' e' hx rs
    | bad => rw [e] at h3; exact h3.elim
theorem FnD.of {x qual : Str} {st : Stmt} {f : Addr} {fd : FuncData} {N ps : List Str} {body : Lo → Sto → SR} (F : Fun K x qual st f fd) (hm : mg x = some (.ref f)) (b : Binds K fd ps []) (S : FnScope N ps (defScope st))
    (hb : ∀ {cdv : Value} {A : Around} {outer : List Env} {s : Shared} {H : Hp} {E : XK}, Room k (A.deeper (envOfC qual (defScope st) s.heap.objs.size f cdv)) → A.guards = some [] →
      PSs (cxOf (L2.CX P w) P w K mg base N qual (defScope st) f cdv A outer s H E) (defBody st) (tMS K c (fun v d _ H => E v d H) body)) : FnD P w K mg base c (k + 1) x ps (callF N.length ps.length body) :=
  ⟨f, fd, hm, F.kp, b, FnG.of F S hb⟩
theorem FnD.mono {j : Nat} {x : Str} {ps : List Str} {m : List D → M D} (F : FnD P w K mg base c j x ps m) (h : j ≤ k) : FnD P w K mg base c k x ps m := by
  obtain ⟨f, fd, h1, h2, h3, h4⟩ := F.ex
  exact ⟨f, fd, h1, h2, h3, h4.mono h⟩
/-- a def that may not be called yet -/
theorem FnD.none {x : Str} {ps : List Str} (h : ∃ f fd, mg x = some (.ref f) ∧ PySem.W.keepIn K (.ref f) = true ∧ Binds K fd ps []) : FnD P w K mg base c k x ps (fun _ _ => .bad) := by
  obtain ⟨f, fd, h1, h2, h3⟩ := h
  exact ⟨f, fd, h1, h2, h3, fun h => h.1, fun _ _ _ _ _ h => let ⟨_, _, _, _, _, _, z⟩ := h; z.elim⟩
end

section
variable {X : Cx} {c : ClsM} {W : WX} {pos : Pos} {k : Nat}
def mCall (n : Nat) (m : List D → M D) (ma : Lo → M (List D)) : Lo → M D := fun lo s => (ma lo s).bind fun ds s1 => if ds.length = n then m ds s1 else .bad
/-- the callee's wish at the caller's slots -/
theorem okR_call {K : PySem.W.Frag} {W : WX} {σ : L2.St} {ρ : Rg} {H : Hp} {Q : VK} {r : R D} (h : okR K c W σ ρ H (rD K) Q r) : okR K c (fun v d _ H => W v d σ H) [] ρ H (rD K) Q r := by
  cases r with
  | ok a s => exact h
  | exc x s => exact h
  | bad => exact h
theorem runG {f : Addr} {fd : FuncData} {ps : List Str} {sp : Sp} {pins : List (Addr × Obj)} {σ : L2.St} {H : Hp} {s : Shared} {Q : VK} {us : List Value} {vs : List V} (F : FnG X.prog X.w X.K X.mg X.base k f fd ps sp) (hr : Room k X.A) (hgd : X.A.guards = some []) (hb : Binds X.K fd ps []) (tk : Takes X W)
    (J : Inv X pins σ H s) (r : Vals vs us) (h : sp vs H Q (fun v d H => W v d σ H)) : wpAny (model X.prog X.w) X.A (call (.ref f) us) (EP X pins σ Q) X.xe s := by
  have hl : us.length = ps.length := r.length.symm.trans (F.len h)
  have bb := hb s us J.kIn (by rw [List.append_nil]; exact hl)
  rw [List.append_nil] at bb
  apply wpAny_call
  apply codeAny_mono (F.run hr hgd J.env0 bb r h)
  intro res s' hq
  cases res with
  | ok fl =>
    cases fl <;> first
      | exact False.elim hq
      | exact J.after hq
  | error e => exact passAt tk σ pins H s e s' J hq
theorem pd_call {n : Nat} {x : Str} {p : Pos} {e : Expr} {es : List Expr} {ps : List Str} {m : List D → M D} {ma : Lo → M (List D)} (F : FnD X.prog X.w X.K X.mg X.base c k x ps m) (hr : Room k X.A) (hgd : X.A.guards = some []) (tk : Takes X W) (ha : PA X (e :: es) (tMA X.K c W ma)) (hg : Gl X x := by rfl)
    (hdb : (x == ("__debug__" : Str)) = false := by decide) (he : starEach (e :: es) X.env = (false, eval e X.env) :: starEach es X.env := by rfl) (hpl : (backTo pos (starEach es X.env)).any (·.1) = false := by rfl) (hps : ps.length = n := by rfl) :
    PE X (.Call (.Name x p) (e :: es) [] pos) (tM X.K c W (mCall n m ma)) := by
  subst hps
  obtain ⟨f, fd, hm, hk, hb, F⟩ := F.ex
  constructor
  intro pins s σ H Q J h
  apply wpAny_Call_Name_kw
  apply ld_glob J hg hm _ hdb
  refine PySem.W.callWith_K (h₀ := X.base) J.ok.mod.kin hk ?_ he hpl
  obtain ⟨ρ, lo, st, hl, hs, h⟩ := h
  refine thn (ha.run pos pins s σ H _ J ⟨ρ, lo, st, hl, hs, okR.bind h⟩) ?_
  intro us s1 q
  obtain ⟨vs, H1, J1, rv, ρ1, st1, ds, e1, rs1, rds, h1⟩ := q
  refine ⟨J1.kIn, ?_⟩
  split at h1
  · rename_i hn
    exact runG F hr hgd hb tk J1 rv ⟨rds.length.symm.trans hn, ρ1, ds, st1, rds, rs1, okR_call h1⟩
  · exact h1.elim
/-- f() -/
theorem pd_call0 {n : Nat} {x : Str} {p : Pos} {ps : List Str} {m : List D → M D} (F : FnD X.prog X.w X.K X.mg X.base c k x ps m) (hr : Room k X.A) (hgd : X.A.guards = some []) (tk : Takes X W) (hg : Gl X x := by rfl)
    (hdb : (x == ("__debug__" : Str)) = false := by decide) (hps : ps.length = n := by rfl) : PE X (.Call (.Name x p) [] [] pos) (tM X.K c W (mCall n m mNil)) := by
  subst hps
  obtain ⟨f, fd, hm, hk, hb, F⟩ := F.ex
  constructor
  intro pins s σ H Q J h
  apply wpAny_Call_Name_kw
  apply ld_glob J hg hm _ hdb
  refine PySem.W.callWith_K0 J.kIn hk ?_
  obtain ⟨ρ, lo, st, hl, hs, h⟩ := h
  have h1 : okR X.K c W σ ρ H (rD X.K) Q (if ([] : List D).length = ps.length then m [] st else .bad) := h
  split at h1
  · rename_i hn
    exact runG (us := []) (vs := []) F hr hgd hb tk J .nil ⟨hn, ρ, [], st, rfl, hs, okR_call h1⟩
  · exact h1.elim
end
end DL
set_option Elab.async false
set_option linter.all false
set_option maxRecDepth 100000
set_option maxHeartbeats 4000000
/-! DLe: what is walked, for, comprehensions. -/
namespace DL
open PySem L2
mutual
def D.beq : D → D → Bool
  | .non, .non => true
  | .bl a, .bl b => a == b
  | .int a, .int b => a == b
  | .str a, .str b => a == b
  | .lst a, .lst b => D.beqs a b
  | .tup a, .tup b => D.beqs a b
  | .dct k a, .dct l b => decide (k = l) && D.beqs a b
  | .loc a, .loc b => a == b
  | .scr a, .scr b => D.beqs a b
  | .exn c n a, .exn d m b => decide (c = d ∧ n = m) && D.beqs a b
  | _, _ => false
def D.beqs : List D → List D → Bool
  | [], [] => true
  | a :: as, b :: bs => D.beq a b && D.beqs as bs
  | _, _ => false
end
mutual
theorem D.beq_ok : ∀ (a b : D), D.beq a b = true → a = b := by
  intro a b h
  cases a <;> cases b <;> unfold D.beq at h <;> first
    | rfl
    | exact absurd h (by decide)
    | (rw [eq_of_beq h])
    | (rw [D.beqs_ok _ _ h])
    | (rw [Bool.and_eq_true] at h; rw [of_decide_eq_true h.1, D.beqs_ok _ _ h.2])
    | (rw [Bool.and_eq_true] at h; rw [(of_decide_eq_true h.1).1, (of_decide_eq_true h.1).2, D.beqs_ok _ _ h.2])
theorem D.beqs_ok : ∀ (a b : List D), D.beqs a b = true → a = b := by
  intro a b h
  cases a <;> cases b <;> unfold D.beqs at h <;> first
    | rfl
    | exact absurd h (by decide)
    | (rw [Bool.and_eq_true] at h; rw [D.beq_ok _ _ h.1, D.beqs_ok _ _ h.2])
end
mutual
theorem D.beq_self : ∀ a : D, D.beq a a = true := by
  intro a
  cases a <;> unfold D.beq <;> first
    | rfl
    | exact beq_self_eq_true _
    | exact D.beqs_self _
    | (rw [Bool.and_eq_true]; exact ⟨decide_eq_true rfl, D.beqs_self _⟩)
    | (rw [Bool.and_eq_true]; exact ⟨decide_eq_true ⟨rfl, rfl⟩, D.beqs_self _⟩)
theorem D.beqs_self : ∀ a : List D, D.beqs a a = true := by
  intro a
  cases a <;> unfold D.beqs <;> first
    | rfl
    | (rw [Bool.and_eq_true]; exact ⟨D.beq_self _, D.beqs_self _⟩)
end

structure Mon (ρ : Rg) (H : Hp) (ρ' : Rg) (H' : Hp) : Prop where
  f : ∀ a o, At H a o → ¬ ρ.has a → At H' a o ∧ ¬ ρ'.has a
  g : ∀ (n : Nat) (a : Addr), ρ.l[n]? = some a → ρ'.l[n]? = some a
theorem Ext.mon {ρ ρ' : Rg} {H H' : Hp} (e : Ext ρ H ρ' H') : Mon ρ H ρ' H' := ⟨fun _ _ => e.rd, fun _ _ => e.get⟩
theorem Mon.trans {ρ ρ1 ρ2 : Rg} {H H1 H2 : Hp} (a : Mon ρ H ρ1 H1) (b : Mon ρ1 H1 ρ2 H2) : Mon ρ H ρ2 H2 :=
  ⟨fun x o h n => let ⟨h1, n1⟩ := a.f x o h n; b.f x o h1 n1, fun n x h => b.g n x (a.g n x h)⟩
theorem Rep.mon {K : PySem.W.Frag} {ρ ρ' : Rg} {H H' : Hp} (e : Mon ρ H ρ' H') {d : D} {v : V} (h : Rep K ρ H d v) : Rep K ρ' H' d v := Rep.mono e.f e.g d v h
theorem Reps.mon {K : PySem.W.Frag} {ρ ρ' : Rg} {H H' : Hp} (e : Mon ρ H ρ' H') {d : List D} {v : List V} (h : Reps K ρ H d v) : Reps K ρ' H' d v := Reps.mono e.f e.g d v h
theorem RepLo.mon {K : PySem.W.Frag} {ρ ρ' : Rg} {H H' : Hp} {σ : L2.St} {lo : Lo} (e : Mon ρ H ρ' H') (r : RepLo K ρ H σ lo) : RepLo K ρ' H' σ lo :=
  ⟨r.len, fun i d h => let ⟨v, h1, h2⟩ := r.get i d h; ⟨v, h1, h2.mon e⟩⟩

abbrev Cnd := Option (Nat × List D)
def cndB : Cnd → Sto → Bool
  | none, _ => true
  | some (n, xs), s => match s[n]? with
    | some (.lst ys) => D.beqs xs ys
    | _ => false
theorem cnd_ok {n : Nat} {xs : List D} {s : Sto} (h : cndB (some (n, xs)) s = true) : s[n]? = some (.lst xs) := by
  simp only [cndB] at h
  cases e : s[n]? with
  | none => rw [e] at h; cases h
  | some o =>
    rw [e] at h
    cases o with
    | lst ys => rw [D.beqs_ok _ _ h]
    | dct ks ys => cases h
structure Src where
  items : List D
  cnd : Cnd
def ItD (K : PySem.W.Frag) (ρ0 : Rg) (H0 : Hp) (S : Src) (J : It) : Prop := ∀ ρ H s, Mon ρ0 H0 ρ H → RepS K ρ H s → cndB S.cnd s = true →
  (∀ i d, S.items[i]? = some d → J.go i H ∧ ∀ x H', J.yld i H x H' → ∃ ρ', Ext ρ H ρ' H' ∧ RepS K ρ' H' s ∧ Rep K ρ' H' d x) ∧ J.stop S.items.length H
abbrev tMI (K : PySem.W.Frag) (c : ClsM) (W : WX) (m : Lo → M Src) : TI := tG K c W (ItD K) m
def locItems (n : Nat) (s : Sto) : Option Src := match s[n]? with
  | some (.lst xs) => some ⟨xs, some (n, xs)⟩
  | _ => none
theorem locItems_ok {n : Nat} {s : Sto} {S : Src} (h : locItems n s = some S) : ∃ xs, s[n]? = some (.lst xs) ∧ S = ⟨xs, some (n, xs)⟩ := by
  unfold locItems at h
  cases e : s[n]? with
  | none => rw [e] at h; cases h
  | some o =>
    rw [e] at h
    cases o with
    | lst ys => cases h; exact ⟨ys, rfl, rfl⟩
    | dct ks ys => cases h
def itemsD : D → Sto → Option Src
  | .lst xs, _ => some ⟨xs, none⟩
  | .tup xs, _ => some ⟨xs, none⟩
  | .scr xs, _ => some ⟨xs, none⟩
  | .str x, _ => some ⟨x.cps.toList.map fun c => .str ⟨#[c]⟩, none⟩
  | .loc n, s => locItems n s
  | _, _ => none
def mIter (m : Lo → M D) : Lo → M Src := fun lo s => (m lo s).bind fun d s1 => match itemsD d s1 with
  | some S => .ok S s1
  | none => .bad
section
variable {K : PySem.W.Frag} {ρ : Rg} {H : Hp} {s : Sto} {v : V}
theorem itd_lst {xs : List D} {a : Addr} {vs : List V} (h1 : (At H a (.lst vs) ∧ ¬ ρ.has a) ∨ (∃ o, At H a (.frz o (.lst vs)) ∧ ¬ ρ.has a) ∨ LstK K a vs) (h3 : Reps K ρ H xs vs) : ItD K ρ H ⟨xs, none⟩ (Itl K a) := by
  intro ρ1 H1 s1 mo rs _
  have q1 : SqL K H1 a vs := by
    rcases h1 with ⟨h1, h2⟩ | ⟨o, h1, h2⟩ | h1
    · exact SqL.of (mo.f _ _ h1 h2).1.lst
    · exact .inl (.inr ⟨o, (mo.f _ _ h1 h2).1.frz⟩)
    · exact .inr h1
  have q3 := Reps.mon mo h3
  refine ⟨fun i d hd => ?_, ⟨vs, q1, by rw [h3.length]; exact Nat.le_refl _⟩⟩
  obtain ⟨u, hu, ru⟩ := q3.get hd
  refine ⟨⟨vs, u, q1, hu⟩, fun x H' hy => ?_⟩
  obtain ⟨rfl, hy⟩ := hy
  have e := hy vs q1
  rw [hu] at e
  cases e
  exact ⟨ρ1, Ext.refl, rs, ru⟩
theorem itd_tup {xs : List D} {a : Addr} {vs : List V} (h1 : (At H a (.tup vs) ∧ ¬ ρ.has a) ∨ TupK K a vs) (h3 : Reps K ρ H xs vs) : ItD K ρ H ⟨xs, none⟩ (Itt K a) := by
  intro ρ1 H1 s1 mo rs _
  have q1 : SqT K H1 a vs := by
    rcases h1 with ⟨h1, h2⟩ | h1
    · exact SqT.of (mo.f _ _ h1 h2).1.tup
    · exact .inr h1
  have q3 := Reps.mon mo h3
  refine ⟨fun i d hd => ?_, ⟨vs, q1, by rw [h3.length]; exact Nat.le_refl _⟩⟩
  obtain ⟨u, hu, ru⟩ := q3.get hd
  refine ⟨⟨vs, u, q1, hu⟩, fun x H' hy => ?_⟩
  obtain ⟨rfl, hy⟩ := hy
  have e := hy vs q1
  rw [hu] at e
  cases e
  exact ⟨ρ1, Ext.refl, rs, ru⟩
theorem itd_loc {xs : List D} {n : Nat} {a : Addr} (ha : ρ.l[n]? = some a) : ItD K ρ H ⟨xs, some (n, xs)⟩ (Itl K a) := by
  intro ρ1 H1 s1 mo rs hc
  have e := cnd_ok hc
  obtain ⟨vs, q1, q3⟩ := (rs.obj n a _ (mo.g _ _ ha) e : RepO K ρ1 H1 a (.lst xs))
  refine ⟨fun i d hd => ?_, ⟨vs, SqL.of q1, by rw [q3.length]; exact Nat.le_refl _⟩⟩
  obtain ⟨u, hu, ru⟩ := q3.get hd
  refine ⟨⟨vs, u, SqL.of q1, hu⟩, fun x H' hy => ?_⟩
  obtain ⟨rfl, hy⟩ := hy
  have e := hy vs (SqL.of q1)
  rw [hu] at e
  cases e
  exact ⟨ρ1, Ext.refl, rs, ru⟩
theorem itd_str {x : Str} : ItD K ρ H ⟨x.cps.toList.map fun c => .str ⟨#[c]⟩, none⟩ (Its x) := by
  intro ρ1 H1 s1 mo rs _
  refine ⟨fun i d hd => ?_, by show x.cps.size ≤ _; simp⟩
  rw [List.getElem?_map] at hd
  cases e : x.cps.toList[i]? with
  | none => rw [e] at hd; cases hd
  | some k =>
    rw [e] at hd
    cases hd
    have hi := (List.getElem?_eq_some_iff.mp e).1
    refine ⟨by show i < x.cps.size; simpa using hi, fun v H' hy => ?_⟩
    obtain ⟨rfl, k', e', rfl⟩ := hy
    have e2 : x.cps[i]? = some k := by simpa using e
    rw [e2] at e'
    cases e'
    exact ⟨ρ1, Ext.refl, rs, rfl⟩
theorem itd_range {lo : Int} {n : Nat} : ItD K ρ H ⟨(List.range n).map fun (i : Nat) => .int (lo + (i : Int)), none⟩ (Itr lo n) := by
  intro ρ1 H1 s1 mo rs _
  refine ⟨fun i d hd => ?_, by show n ≤ _; simp⟩
  rw [List.getElem?_map] at hd
  by_cases hi : i < n
  · rw [List.getElem?_range hi] at hd
    cases hd
    refine ⟨hi, fun v H' hy => ?_⟩
    obtain ⟨rfl, rfl⟩ := hy
    exact ⟨ρ1, Ext.refl, rs, rfl⟩
  · rw [List.getElem?_eq_none (by simpa using hi)] at hd
    cases hd
end
section
variable {X : Cx} {c : ClsM} {W : WX} {pos : Pos} {tg : Expr}
theorem pdi_val {l : Expr} {m : Lo → M D} (hl : PE X l (tM X.K c W m)) : PI X tg l (tMI X.K c W (mIter m)) := by
  refine ⟨fun pins s σ H R J h => ?_⟩
  obtain ⟨ρ, lo, st, h1, h2, h⟩ := h
  have hb := okR.bind (rep := rD X.K) h
  have use : ∀ {wi : TI}, PI X tg l wi → (∀ (_ : tM X.K c W m σ H fun x H1 => ∃ ρ1 s1 a, Ext ρ H ρ1 H1 ∧ RepS X.K ρ1 H1 s1 ∧ rD X.K ρ1 H1 a x ∧ okR X.K c W σ ρ1 H1 (ItD X.K) R (match itemsD a s1 with | some S => .ok S s1 | none => .bad)), wi σ H R) → _ := fun {wi} p q => p.run pins s σ H R J (q ⟨ρ, lo, st, h1, h2, hb⟩)
  cases e : m lo st with
  | bad => rw [e] at hb; exact hb.elim
  | exc x s' =>
    refine (pi_list hl).run pins s σ H R J ⟨ρ, lo, st, h1, h2, ?_⟩
    rw [e]; rw [e] at hb; exact hb
  | ok d s' =>
    unfold mIter at h
    rw [e] at h
    cases ei : itemsD d s' with
    | none =>
      have h' : okR X.K c W σ ρ H (ItD X.K) R (match itemsD d s' with | some S => .ok S s' | none => .bad) := h
      rw [ei] at h'; exact h'.elim
    | some S =>
      have h' : okR X.K c W σ ρ H (ItD X.K) R (match itemsD d s' with | some S => .ok S s' | none => .bad) := h
      rw [ei] at h'
      cases d with
      | lst xs =>
        cases ei
        refine (pi_list hl).run pins s σ H R J ⟨ρ, lo, st, h1, h2, ?_⟩
        rw [e]
        intro v ρ' H' e' rv rs
        obtain ⟨a, vs, rfl, q1, q2, q3⟩ := rv
        exact ⟨a, rfl, ⟨vs, SqL.of q1.lst⟩, h' _ ρ' H' e' (itd_lst (.inl ⟨q1, q2⟩) q3) rs⟩
      | scr xs =>
        cases ei
        refine (pi_list hl).run pins s σ H R J ⟨ρ, lo, st, h1, h2, ?_⟩
        rw [e]
        intro v ρ' H' e' rv rs
        obtain ⟨a', vs', e1, q4, _⟩ := Rep.scrL rv
        obtain ⟨a, vs, e2, q1, q3⟩ := rv
        obtain rfl : a = a' := by rw [e2] at e1; cases e1; rfl
        subst e2
        exact ⟨a, rfl, ⟨vs', q4⟩, h' _ ρ' H' e' (itd_lst (.inr q1) q3) rs⟩
      | tup xs =>
        cases ei
        refine (pi_tup hl).run pins s σ H R J ⟨ρ, lo, st, h1, h2, ?_⟩
        rw [e]
        intro v ρ' H' e' rv rs
        obtain ⟨a, vs, rfl, q1, q3⟩ := rv
        refine ⟨a, rfl, ⟨vs, ?_⟩, h' _ ρ' H' e' (itd_tup q1 q3) rs⟩
        rcases q1 with ⟨q1, _⟩ | q1
        · exact SqT.of q1.tup
        · exact .inr q1
      | str x =>
        cases ei
        refine (pi_str hl).run pins s σ H R J ⟨ρ, lo, st, h1, h2, ?_⟩
        rw [e]
        intro v ρ' H' e' rv rs
        exact ⟨x, rv, h' _ ρ' H' e' itd_str rs⟩
      | loc n =>
        obtain ⟨xs, el, rfl⟩ := locItems_ok ei
        refine (pi_list hl).run pins s σ H R J ⟨ρ, lo, st, h1, h2, ?_⟩
        rw [e]
        intro v ρ' H' e' rv rs
        obtain ⟨a, rfl, ha⟩ := rv
        obtain ⟨vs, q1, q3⟩ := (rs.obj n a _ ha el : RepO X.K ρ' H' a (.lst xs))
        exact ⟨a, rfl, ⟨vs, SqL.of q1⟩, h' _ ρ' H' e' (itd_loc ha) rs⟩
      | non => cases ei
      | bl b => cases ei
      | int i => cases ei
      | dct ks xs => cases ei
      | exn _ _ _ => cases ei
/-- range(a), range(a, b) -/
def rng1 : List D → M Src := fun ds s => match ds with
  | [.int j] => if -(2 ^ 62) ≤ j ∧ j < 2 ^ 62 then .ok ⟨(List.range j.toNat).map fun (i : Nat) => .int (0 + (i : Int)), none⟩ s else .bad
  | _ => .bad
def rng2 : List D → M Src := fun ds s => match ds with
  | [.int i, .int j] => if -(2 ^ 62) ≤ i ∧ i < 2 ^ 62 ∧ -(2 ^ 62) ≤ j ∧ j < 2 ^ 62 then .ok ⟨(List.range (j - i).toNat).map fun (k : Nat) => .int (i + (k : Int)), none⟩ s else .bad
  | _ => .bad
def mRng1 (m : Lo → M (List D)) : Lo → M Src := fun lo s => (m lo s).bind rng1
def mRng2 (m : Lo → M (List D)) : Lo → M Src := fun lo s => (m lo s).bind rng2
theorem reps_int {K : PySem.W.Frag} {ρ : Rg} {H : Hp} {i : Int} {vs : List V} (h : Reps K ρ H [.int i] vs) : vs = [.int i] := by
  obtain ⟨v, r, rfl, h1, h2⟩ := h
  cases h1; cases h2; rfl
theorem reps_int2 {K : PySem.W.Frag} {ρ : Rg} {H : Hp} {i j : Int} {vs : List V} (h : Reps K ρ H [.int i, .int j] vs) : vs = [.int i, .int j] := by
  obtain ⟨v, r, rfl, h1, h2⟩ := h
  rw [reps_int h2]
  cases h1; rfl
theorem pdi_range1 {a : Expr} {p : Pos} {m : Lo → M (List D)} (ha : PA X [a] (tMA X.K c W m)) (hm : X.mg "range" = none) (hg : Gl X "range" := by rfl) (hs : starEach [a] X.env = [(false, eval a X.env)] := by rfl) : PI X tg (.Call (.Name "range" p) [a] [] pos) (tMI X.K c W (mRng1 m)) := by
  refine ⟨fun pins s σ H R J h => (pi_range1 hg hm ha hs).run pins s σ H R J ?_⟩
  obtain ⟨ρ, lo, st, h1, h2, h⟩ := h
  refine ⟨ρ, lo, st, h1, h2, (okR.bind h).imp fun vs H1 q => ?_⟩
  obtain ⟨ρ1, s1, ds, e1, rs1, rds, h1⟩ := q
  unfold rng1 at h1
  split at h1
  · rename_i j
    split at h1
    · rename_i hj
      exact ⟨j, reps_int rds, hj.1, hj.2, h1 _ ρ1 H1 Ext.refl itd_range rs1⟩
    · exact h1.elim
  · exact h1.elim
theorem pdi_range2 {a b : Expr} {p : Pos} {m : Lo → M (List D)} (ha : PA X [a, b] (tMA X.K c W m)) (hm : X.mg "range" = none) (hg : Gl X "range" := by rfl) (hs : starEach [a, b] X.env = [(false, eval a X.env), (false, eval b X.env)] := by rfl) (hs2 : starEach [b] X.env = [(false, eval b X.env)] := by rfl) : PI X tg (.Call (.Name "range" p) [a, b] [] pos) (tMI X.K c W (mRng2 m)) := by
  refine ⟨fun pins s σ H R J h => (pi_range2 hg hm ha hs hs2).run pins s σ H R J ?_⟩
  obtain ⟨ρ, lo, st, h1, h2, h⟩ := h
  refine ⟨ρ, lo, st, h1, h2, (okR.bind h).imp fun vs H1 q => ?_⟩
  obtain ⟨ρ1, s1, ds, e1, rs1, rds, h1⟩ := q
  unfold rng2 at h1
  split at h1
  · rename_i i j
    split at h1
    · rename_i hj
      exact ⟨i, j, reps_int2 rds, hj, h1 _ ρ1 H1 Ext.refl itd_range rs1⟩
    · exact h1.elim
  · exact h1.elim

/-! ### for -/
def forS (T : Tg) (body : Lo → Sto → SR) (cnd : Cnd) : List D → Lo → Sto → SR
  | [], lo, s => if cndB cnd s = true then .nx lo s else .bad
  | d :: ds, lo, s => if cndB cnd s = true then (match setT T d lo with
    | none => .bad
    | some lo1 => match body lo1 s with
      | .nx lo2 s2 => forS T body cnd ds lo2 s2
      | .ct lo2 s2 => forS T body cnd ds lo2 s2
      | .bk lo2 s2 => .nx lo2 s2
      | .rt d s2 => .rt d s2
      | .exc x lo2 s2 => .exc x lo2 s2
      | .bad => .bad) else .bad
def mFor (T : Tg) (mi : Lo → M Src) (mb : Lo → Sto → SR) : Lo → Sto → SR := fun lo s => bindS (mi lo s) lo fun S s1 => forS T mb S.cnd S.items lo s1
theorem pd_for {iter : Expr} {body : List Stmt} {T : Tg} {mi : Lo → M Src} {mb : Lo → Sto → SR} (hp : PassesOwn (model X.prog X.w) X.A X.env X.xe) (hc : X.calm = true) (hi : PI X tg iter (tMI X.K c W mi)) (hg : PG X tg (gT X.K T)) (hb : PSs X body (tMS X.K c W mb))
    (hs : ∀ x, foldedSetIterable iter X.env x = pure x := by intro _; rfl) : PS X (.For tg iter body [] pos) (tMS X.K c W (mFor T mi mb)) := by
  refine PS_imp (ps_for hp hc hi hg hb hs) fun E σ H h => ?_
  obtain ⟨ρ, lo, s, hl, hs, h⟩ := h
  refine ⟨ρ, lo, s, hl, hs, (okS.bind hl h).imp fun J H1 q => ?_⟩
  obtain ⟨ρ1, s1, S, e1, rs1, rJ, h1⟩ := q
  refine ⟨fun i m σ H => m = S.items.length - i ∧ i ≤ S.items.length ∧ ∃ ρ lo s, RepLo X.K ρ H σ lo ∧ RepS X.K ρ H s ∧ Ext ρ1 H1 ρ H ∧ okS X.K c W E ρ H (forS T mb S.cnd (S.items.drop i) lo s),
    ⟨_, rfl, Nat.zero_le _, ρ1, lo, s1, hl.ext e1, rs1, Ext.refl, h1⟩, ?_⟩
  rintro i m σ2 H2 ⟨rfl, hi2, ρ2, lo2, s2, hl2, hs2, e2, h2⟩
  by_cases hlt : i < S.items.length
  · rw [List.drop_eq_getElem_cons hlt] at h2
    unfold forS at h2
    split at h2
    · rename_i hc2
      obtain ⟨go, yl⟩ := (rJ ρ2 H2 s2 e2.mon hs2 hc2).1 i _ (List.getElem?_eq_getElem hlt)
      refine .inr ⟨go, fun σ' H' => ∃ ρ lo s, RepLo X.K ρ H' σ' lo ∧ RepS X.K ρ H' s ∧ Ext ρ1 H1 ρ H' ∧ okS X.K c W E ρ H' (forS T mb S.cnd (S.items.drop (i + 1)) lo s), fun σ' H' q => ⟨S.items.length - (i + 1), by omega, rfl, hlt, q⟩, fun x H' hy => ?_⟩
      obtain ⟨ρ3, e3, rs3, rx⟩ := yl x H' hy
      split at h2
      · exact h2.elim
      · rename_i lo3 et
        refine gT_run rx et (hl2.ext e3) fun σ' r' _ => ⟨ρ3, lo3, s2, r', rs3, ?_⟩
        have h3 := okS.mono e3 h2
        cases eb : mb lo3 s2 with
        | nx lo4 s4 => simp only [eb] at h3; exact fun σ4 ρ4 H4 e4 r4 rs4 => ⟨ρ4, lo4, s4, r4, rs4, (e2.trans e3).trans e4, okS.mono e4 h3⟩
        | ct lo4 s4 => simp only [eb] at h3; exact fun σ4 ρ4 H4 e4 r4 rs4 => ⟨ρ4, lo4, s4, r4, rs4, (e2.trans e3).trans e4, okS.mono e4 h3⟩
        | bk lo4 s4 => simp only [eb] at h3; exact h3
        | rt d4 s4 => simp only [eb] at h3; exact h3
        | exc x4 lo4 s4 => simp only [eb] at h3; exact h3
        | bad => simp only [eb] at h3; exact h3
    · exact h2.elim
  · have ei : i = S.items.length := by omega
    subst ei
    rw [List.drop_length] at h2
    unfold forS at h2
    split at h2
    · rename_i hc2
      exact .inl ⟨(rJ ρ2 H2 s2 e2.mon hs2 hc2).2, h2 σ2 ρ2 H2 Ext.refl hl2 hs2⟩
    · exact h2.elim
end
end DL
set_option Elab.async false
set_option linter.all false
set_option maxRecDepth 100000
set_option maxHeartbeats 4000000
/-! DLf: list comprehensions whose parts raise nothing. -/
namespace DL
open PySem L2
abbrev WF : WX := fun _ _ _ _ => False
def noX {α : Type} : R α → R α
  | .ok a s => .ok a s
  | _ => .bad
def wipeD (lo : Lo) : List Nat → Lo
  | [] => lo
  | v :: vs => (wipeD lo vs).set v none
theorem RepLo.wipe {K : PySem.W.Frag} {ρ : Rg} {H : Hp} {σ : L2.St} {lo : Lo} (r : RepLo K ρ H σ lo) : ∀ vs : List Nat, RepLo K ρ H (L2.wipe σ vs) (wipeD lo vs)
  | [] => r
  | v :: vs => (RepLo.wipe r vs).setNone v none
def compR (T : Tg) (mt : Lo → M Bool) (me : Lo → M D) (cnd : Cnd) (lo : Lo) : List D → List D → M (List D)
  | [], acc => fun s => if cndB cnd s = true then .ok acc s else .bad
  | d :: ds, acc => fun s => if cndB cnd s = true then (match setT T d lo with
    | none => .bad
    | some lo1 => (noX (mt lo1 s)).bind fun b s1 => if b = true then (noX (me lo1 s1)).bind fun y s2 => (if acc.length < sizeLine then compR T mt me cnd lo ds (acc ++ [y]) s2 else .bad) else compR T mt me cnd lo ds acc s1) else .bad
def finD (fr : Bool) (ys : List D) : M D := if fr = true then ret (.lst ys) else newL ys
def mComp (fr : Bool) (own : List Nat) (T : Tg) (mi : Lo → M Src) (mt : Lo → M Bool) (me : Lo → M D) : Lo → M D := fun lo s => (mi lo s).bind fun S s1 => (compR T mt me S.cnd (wipeD lo own) S.items [] s1).bind fun ys s2 => finD fr ys s2
section
variable {K : PySem.W.Frag} {c : ClsM} {W : WX} {σ : L2.St} {ρ ρ1 ρ2 : Rg} {H H1 H2 : Hp} {α β α' β' : Type} {rep : RepT α β} {rep' : RepT α' β'}
theorem okR.bindN {Q : β' → Hp → Prop} {Q' : β → Hp → Prop} {r : R α} {f : α → M α'} {ρx : Rg} {Hx : Hp} (h : okR K c W σ ρx Hx rep' Q ((noX r).bind f))
    (q : ∀ a s b ρ' H', okR K c W σ ρx Hx rep' Q (f a s) → Ext ρ H ρ' H' → rep ρ' H' a b → RepS K ρ' H' s → Q' b H') {σ' : L2.St} : okR K c WF σ' ρ H rep Q' r := by
  cases r with
  | ok a s => exact fun b ρ' H' e' rb rs => q a s b ρ' H' h e' rb rs
  | exc x s => exact h.elim
  | bad => exact h.elim
/-- without what is being made -/
theorem Ext.low {t : List Addr} (e : Ext ρ H ρ2 H2) : Ext ⟨ρ.l, t⟩ H ⟨ρ2.l, t⟩ H2 := ⟨e.pre, rfl, e.keep, e.new, e.dom⟩
end
section
variable {X : Cx} {c : ClsM} {W : WX} {pos : Pos}
theorem mon_tmp {K : PySem.W.Frag} {ρ : Rg} {H : Hp} {Da : Addr} {o : HO} (hDa : H Da = none) : Mon ρ H ⟨ρ.l, Da :: ρ.t⟩ (upd H Da o) := by
  refine ⟨fun a u ha hn => ?_, fun _ _ z => z⟩
  have hne : a ≠ Da := fun z => At.ne ha (by rw [z]; exact hDa)
  refine ⟨?_, fun z => ?_⟩
  · obtain ⟨x, ha, hu⟩ := ha
    exact ⟨x, by rw [upd_ne hne]; exact ha, hu⟩
  · rcases z with z | z
    · exact hn (.inl z)
    · rcases List.mem_cons.mp z with z | z
      · exact hne z
      · exact hn (.inr z)
theorem reps_tmp {K : PySem.W.Frag} {ρ : Rg} {H : Hp} {s : Sto} {Da : Addr} {o : HO} (rs : RepS K ρ H s) (hDa : H Da = none) : RepS K ⟨ρ.l, Da :: ρ.t⟩ (upd H Da o) s := by
  have m := mon_tmp (K := K) (ρ := ρ) (o := o) hDa
  refine ⟨rs.len, rs.nd, fun n a ob q1 q2 => ?_, fun a ha => ?_⟩
  · exact (rs.obj n a ob q1 q2).mono m.f m.g (upd_ne fun z => rs.mem (List.mem_of_getElem? q1) (by rw [z]; exact hDa))
  · rcases List.mem_cons.mp ha with ha | ha
    · subst ha
      exact ⟨by rw [upd_same]; exact fun z => (nomatch z), fun z => rs.fresh hDa (.inl z)⟩
    · exact ⟨upd_some (rs.tmp a ha).1, (rs.tmp a ha).2⟩
/-- what is being made is written -/
theorem mon_wr {ρ : Rg} {H : Hp} {Da : Addr} {o : HO} (hD : Da ∈ ρ.t) : Mon ρ H ρ (upd H Da o) := by
  refine ⟨fun a u ha hn => ⟨?_, hn⟩, fun _ _ z => z⟩
  have hne : a ≠ Da := fun z => hn (.inr (by rw [z]; exact hD))
  obtain ⟨x, ha, hu⟩ := ha
  exact ⟨x, by rw [upd_ne hne]; exact ha, hu⟩
theorem reps_wr {K : PySem.W.Frag} {ρ : Rg} {H : Hp} {s : Sto} {Da : Addr} {o : HO} (rs : RepS K ρ H s) (hD : Da ∈ ρ.t) : RepS K ρ (upd H Da o) s := by
  have m := mon_wr (H := H) (o := o) hD
  exact ⟨rs.len, rs.nd, fun n a ob q1 q2 => (rs.obj n a ob q1 q2).mono m.f m.g (upd_ne fun z => (rs.tmp Da hD).2 (by rw [← z]; exact List.mem_of_getElem? q1)), fun a ha => ⟨upd_some (rs.tmp a ha).1, (rs.tmp a ha).2⟩⟩
theorem wipe_idem (σ : L2.St) (vs : List Nat) : wipe (wipe σ vs) vs = wipe σ vs := by
  have go : ∀ (us ws : List Nat), (∀ u ∈ us, u ∈ ws) → wipe (wipe σ us) ws = wipe σ ws := by
    intro us
    induction us with
    | nil => intro ws _; rfl
    | cons u us ih =>
      intro ws hu
      show wipe ((wipe σ us).set u none) ws = _
      rw [wipe_set (hu u List.mem_cons_self)]
      exact ih ws fun z hz => hu z (List.mem_cons_of_mem _ hz)
  exact go vs vs fun _ h => h
theorem comp_run {fr : Bool} {own : List Nat} {T : Tg} {mi : Lo → M Src} {mt : Lo → M Bool} {me : Lo → M D} {σ : L2.St} {H : Hp} {Q : VK} (hT : ∀ i ∈ T.slots, i ∈ own) (h : tM X.K c W (mComp fr own T mi mt me) σ H Q) :
    tLc (tMI X.K c W mi) (gT X.K T) (tMB X.K c WF mt) (tM X.K c WF me) own σ H Q := by
  obtain ⟨ρ, lo, s, hl, hs, h⟩ := h
  refine ⟨ρ, lo, s, hl, hs, (okR.bind h).imp fun J H1 q => ?_⟩
  obtain ⟨ρ1, s1, S, e1, rs1, rJ, h1⟩ := q
  intro Da hDa
  have hl1 : RepLo X.K ρ1 H1 (wipe σ own) (wipeD lo own) := (hl.ext e1).wipe own
  refine ⟨fun i m H => m = S.items.length - i ∧ i ≤ S.items.length ∧ ∃ ρ s acc vs, ρ.t = Da :: ρ1.t ∧ Ext ρ1 H1 ⟨ρ.l, ρ1.t⟩ H ∧ Mon ρ1 H1 ρ H ∧ RepS X.K ρ H s ∧ H Da = some (.lst vs) ∧ Reps X.K ρ H acc vs ∧
      okR X.K c W σ ρ1 H1 (rD X.K) Q ((compR T mt me S.cnd (wipeD lo own) (S.items.drop i) acc s).bind fun ys s2 => finD fr ys s2), ⟨_, rfl, Nat.zero_le _, ⟨ρ1.l, Da :: ρ1.t⟩, s1, [], [], rfl, Ext.alloc hDa, mon_tmp (K := X.K) hDa, reps_tmp rs1 hDa, upd_same, rfl, h1⟩, ?_⟩
  rintro i m H2 ⟨rfl, hi2, ρ2, s2, acc, vs, ht, e2, mo2, rs2, hD, racc, h2⟩
  have DaT : Da ∈ ρ2.t := by rw [ht]; exact List.mem_cons_self
  have DaL : Da ∉ ρ2.l := (rs2.tmp Da DaT).2
  by_cases hlt : i < S.items.length
  · rw [List.drop_eq_getElem_cons hlt] at h2
    unfold compR at h2
    by_cases hc2 : cndB S.cnd s2 = true
    · rw [if_pos hc2] at h2
      obtain ⟨go, yl⟩ := (rJ ρ2 H2 s2 mo2 rs2 hc2).1 i _ (List.getElem?_eq_getElem hlt)
      refine .inr ⟨go, fun H => ∃ ρ s acc vs, ρ.t = Da :: ρ1.t ∧ Ext ρ1 H1 ⟨ρ.l, ρ1.t⟩ H ∧ Mon ρ1 H1 ρ H ∧ RepS X.K ρ H s ∧ H Da = some (.lst vs) ∧ Reps X.K ρ H acc vs ∧
        okR X.K c W σ ρ1 H1 (rD X.K) Q ((compR T mt me S.cnd (wipeD lo own) (S.items.drop (i + 1)) acc s).bind fun ys s2 => finD fr ys s2), fun H' q => ⟨S.items.length - (i + 1), by omega, rfl, hlt, q⟩, fun x H' hy => ?_⟩
      obtain ⟨ρ3, e3, rs3, rx⟩ := yl x H' hy
      cases et : setT T S.items[i] (wipeD lo own) with
      | none => rw [et] at h2; exact h2.elim
      | some lo3 =>
        rw [et] at h2
        refine gT_run rx et (hl1.mon (mo2.trans e3.mon)) fun σ' r' hw => ⟨?_, ρ3, lo3, s2, r', rs3, ?_⟩
        · rw [hw own hT, wipe_idem]
        have h3 : okR X.K c W σ ρ1 H1 (rD X.K) Q ((noX (mt lo3 s2)).bind fun b s1 => (if b = true then (noX (me lo3 s1)).bind fun y s2 => (if acc.length < sizeLine then compR T mt me S.cnd (wipeD lo own) (S.items.drop (i + 1)) (acc ++ [y]) s2 else .bad) else compR T mt me S.cnd (wipeD lo own) (S.items.drop (i + 1)) acc s1).bind fun ys s2 => finD fr ys s2) := by
          cases eb : mt lo3 s2 with
          | ok b s' => simp only [eb] at h2; exact h2
          | exc x s' => simp only [eb] at h2; exact h2
          | bad => simp only [eb] at h2; exact h2
        refine okR.bindN h3 fun b s4 b' ρ4 H4 h4 e4 rb rs4 => ?_
        obtain rfl : b = b' := rb
        have e24 := e3.trans e4
        have t4 : ρ4.t = Da :: ρ1.t := by rw [e4.tm, e3.tm, ht]
        have hD4 : H4 Da = some (.lst vs) := e24.keep _ _ hD DaL
        have L4 : Ext ρ1 H1 ⟨ρ4.l, ρ1.t⟩ H4 := e2.trans (e24.low (t := ρ1.t))
        have M4 : Mon ρ1 H1 ρ4 H4 := mo2.trans e24.mon
        cases b with
        | false => exact iteF ⟨ρ4, s4, acc, vs, t4, L4, M4, rs4, hD4, Reps.ext e24 racc, h4⟩
        | true =>
          refine iteT ⟨ρ4, lo3, s4, r'.ext e4, rs4, ?_⟩
          have h5 : okR X.K c W σ ρ1 H1 (rD X.K) Q ((noX (me lo3 s4)).bind fun y s2 => (if acc.length < sizeLine then compR T mt me S.cnd (wipeD lo own) (S.items.drop (i + 1)) (acc ++ [y]) s2 else .bad).bind fun ys s2 => finD fr ys s2) := by
            rw [if_pos rfl] at h4
            cases eb : me lo3 s4 with
            | ok b s' => simp only [eb] at h4; exact h4
            | exc x s' => simp only [eb] at h4; exact h4
            | bad => simp only [eb] at h4; exact h4
          refine okR.bindN h5 fun y s5 yv ρ5 H5 h6 e5 ry rs5 => ?_
          by_cases hz : acc.length < sizeLine
          · rw [if_pos hz] at h6
            have e25 := e24.trans e5
            have hD5 : H5 Da = some (.lst vs) := e25.keep _ _ hD DaL
            have t5 : ρ5.t = Da :: ρ1.t := by rw [e5.tm, t4]
            have DaT5 : Da ∈ ρ5.t := by rw [t5]; exact List.mem_cons_self
            have e1u : Ext ρ1 H1 ⟨ρ5.l, ρ1.t⟩ (upd H5 Da (.lst (vs ++ [yv]))) := by
              have z := L4.trans (e5.low (t := ρ1.t))
              refine ⟨z.pre, rfl, fun a o ha hn => ?_, z.new, fun a ha => z.dom a (upd_none ha)⟩
              rw [upd_ne (ne_of_none ha hDa)]
              exact z.keep a o ha hn
            exact ⟨vs, hD5, by rw [← racc.length]; exact hz, ρ5, s5, acc ++ [y], vs ++ [yv], t5, e1u, (M4.trans e5.mon).trans (mon_wr DaT5), reps_wr rs5 DaT5, upd_same,
              Reps.append (Reps.mon (mon_wr DaT5) (Reps.ext e25 racc)) ⟨yv, [], rfl, Rep.mon (mon_wr DaT5) ry, rfl⟩, h6⟩
          · rw [if_neg hz] at h6; exact h6.elim
    · rw [if_neg hc2] at h2; exact h2.elim
  · have ei : i = S.items.length := by omega
    subst ei
    rw [List.drop_length] at h2
    unfold compR at h2
    by_cases hc2 : cndB S.cnd s2 = true
    · rw [if_pos hc2] at h2
      refine .inl ⟨(rJ ρ2 H2 s2 mo2 rs2 hc2).2, ?_⟩
      have DaT1 : Da ∉ ρ1.t := fun z => (rs1.tmp Da z).1 hDa
      have hlow : ∀ a, ¬ ρ2.has a → ¬ (⟨ρ2.l, ρ1.t⟩ : Rg).has a := fun a hn z => hn (z.elim .inl fun z => .inr (by rw [ht]; exact List.mem_cons_of_mem _ z))
      have ml : Mon ρ2 H2 ⟨ρ2.l, ρ1.t⟩ H2 := ⟨fun a o ha hn => ⟨ha, hlow a hn⟩, fun _ _ z => z⟩
      have rsl : RepS X.K ⟨ρ2.l, ρ1.t⟩ H2 s2 := ⟨rs2.len, rs2.nd, fun n a ob q1 q2 => (rs2.obj n a ob q1 q2).mono ml.f ml.g rfl, fun a ha => rs2.tmp a (by rw [ht]; exact List.mem_cons_of_mem _ ha)⟩
      cases fr with
      | true => exact h2 (.ref Da) ⟨ρ2.l, ρ1.t⟩ H2 e2 ⟨Da, vs, rfl, At.of hD, fun z => z.elim DaL DaT1, Reps.mon ml racc⟩ rsl
      | false =>
        have eL : Ext ρ1 H1 ⟨ρ2.l ++ [Da], ρ1.t⟩ H2 := by
          obtain ⟨x, hx⟩ := e2.pre
          refine ⟨⟨x ++ [Da], by show ρ2.l ++ [Da] = _; rw [show ρ2.l = ρ1.l ++ x from hx, List.append_assoc]⟩, rfl, e2.keep, fun a ha => ?_, e2.dom⟩
          rcases List.mem_append.mp ha with ha | ha
          · exact e2.new a ha
          · rw [List.mem_singleton.mp ha]; exact .inr hDa
        have hl2 : ∀ a, ¬ ρ2.has a → ¬ (⟨ρ2.l ++ [Da], ρ1.t⟩ : Rg).has a := fun a hn z => by
          rcases z with z | z
          · rcases List.mem_append.mp z with z | z
            · exact hn (.inl z)
            · rw [List.mem_singleton.mp z] at hn; exact hn (.inr DaT)
          · exact hn (.inr (by rw [ht]; exact List.mem_cons_of_mem _ z))
        have m2 : Mon ρ2 H2 ⟨ρ2.l ++ [Da], ρ1.t⟩ H2 := ⟨fun a o ha hn => ⟨ha, hl2 a hn⟩, fun n a hg => by
          show (ρ2.l ++ [Da])[n]? = some a
          rw [List.getElem?_append_left (List.getElem?_eq_some_iff.mp hg).1]; exact hg⟩
        refine h2 (.ref Da) ⟨ρ2.l ++ [Da], ρ1.t⟩ H2 eL ⟨Da, rfl, by show (ρ2.l ++ [Da])[s2.length]? = some Da; rw [rs2.len]; simp⟩ ⟨by simp [rs2.len], ?_, fun n a ob q1 q2 => ?_, fun a ha => ?_⟩
        · show (ρ2.l ++ [Da]).Nodup
          rw [List.nodup_append]
          refine ⟨rs2.nd, by simp, fun a ha b hb => ?_⟩
          rw [List.mem_singleton.mp hb]
          exact fun z => DaL (by rw [← z]; exact ha)
        · have q1 : (ρ2.l ++ [Da])[n]? = some a := q1
          by_cases hn : n < ρ2.l.length
          · rw [List.getElem?_append_left hn] at q1
            rw [List.getElem?_append_left (by rw [rs2.len]; exact hn)] at q2
            exact (rs2.obj n a ob q1 q2).mono m2.f m2.g rfl
          · have hn' : n = ρ2.l.length := by
              have := (List.getElem?_eq_some_iff.mp q1).1
              simp at this; omega
            subst hn'
            rw [List.getElem?_append_right (Nat.le_refl _)] at q1
            rw [List.getElem?_append_right (by rw [rs2.len]; exact Nat.le_refl _)] at q2
            simp [rs2.len] at q1 q2
            subst q1 q2
            exact ⟨vs, hD, Reps.mon m2 racc⟩
        · have z := rs2.tmp a (by rw [ht]; exact List.mem_cons_of_mem _ ha)
          refine ⟨z.1, fun hm => ?_⟩
          rcases List.mem_append.mp hm with hm | hm
          · exact z.2 hm
          · exact DaT1 (by rw [← List.mem_singleton.mp hm]; exact ha)
    · rw [if_neg hc2] at h2; exact h2.elim

theorem pts_any : PTs X [] (tMB X.K c W fun _ => ret true) := ⟨fun pins s σ H Q I h => by
  obtain ⟨ρ, lo, st, h1, h2, h⟩ := h
  exact pts_nil.run pins s σ H Q I (h true ρ H Ext.refl rfl h2)⟩
theorem pts_1 {e : Expr} {m : Lo → M Bool} (h : PT X e (tMB X.K c W m)) : PTs X [e] (tMB X.K c W m) := pts_one h
theorem pd_lc (fr : Bool) {elt tg iter : Expr} {ifs : List Expr} {scope : Scope} {T : Tg} (own : List (Str × Nat)) {mi : Lo → M Src} {mt : Lo → M Bool} {me : Lo → M D} (hc : X.calm = true) (hN : X.N.Nodup) (hi : PI X tg iter (tMI X.K c W mi)) (ok : BlkOk X.N X.env.scope scope own)
    (hg : ∀ (s : Shared) (H : Hp) (C : Addr) (cl : List (Str × Addr)) (fp : List Addr), PG (X.blk s H scope (compEnvC scope cl C X.env) fp) tg (gT X.K T)) (ht : ∀ (s : Shared) (H : Hp) (C : Addr) (cl : List (Str × Addr)) (fp : List Addr), PTs (X.blk s H scope (compEnvC scope cl C X.env) fp) ifs (tMB X.K c WF mt))
    (he : ∀ (s : Shared) (H : Hp) (C : Addr) (cl : List (Str × Addr)) (fp : List Addr), PE (X.blk s H scope (compEnvC scope cl C X.env) fp) elt (tM X.K c WF me)) (hT : ∀ i ∈ T.slots, i ∈ own.map (·.2) := by decide) (hs : ∀ x, foldedSetIterable iter X.env x = pure x := by intro _; rfl) :
    PE X (.ListComp elt [⟨tg, iter, ifs, 0⟩] scope pos) (tM X.K c W (mComp fr (own.map (·.2)) T mi mt me)) :=
  PE_imp (pe_lc hc hN hi ok hg ht he hs) fun _ _ _ h => comp_run hT h
theorem pd_setLc (fr : Bool) (i : Nat) {y : Str} {py : Pos} {elt tg iter : Expr} {ifs : List Expr} {scope : Scope} {lpos : Pos} {T : Tg} (own : List (Str × Nat)) {mi : Lo → M Src} {mt : Lo → M Bool} {me : Lo → M D} (hc : X.calm = true) (hN : X.N.Nodup) (hsw : swapsWith (.ListComp elt [⟨tg, iter, ifs, 0⟩] scope lpos) (some (.Name y py)) pos.line X.env = pure true)
    (hi : PI X tg iter (tMI X.K c W mi)) (ok : BlkOk X.N X.env.scope scope own)
    (hg : ∀ (s : Shared) (H : Hp) (C : Addr) (cl : List (Str × Addr)) (fp : List Addr), PG (X.blk s H scope (compEnvC scope cl C X.env) fp) tg (gT X.K T)) (ht : ∀ (s : Shared) (H : Hp) (C : Addr) (cl : List (Str × Addr)) (fp : List Addr), PTs (X.blk s H scope (compEnvC scope cl C X.env) fp) ifs (tMB X.K c WF mt))
    (he : ∀ (s : Shared) (H : Hp) (C : Addr) (cl : List (Str × Addr)) (fp : List Addr), PE (X.blk s H scope (compEnvC scope cl C X.env) fp) elt (tM X.K c WF me)) (hT : ∀ i ∈ T.slots, i ∈ own.map (·.2) := by decide) (hy : X.N[i]? = some y := by rfl) (hyl : X.env.scope.names.lookup y = some .local := by rfl) (hs : ∀ x, foldedSetIterable iter X.env x = pure x := by intro _; rfl) :
    PS X (.Assign [.Name y py] (.ListComp elt [⟨tg, iter, ifs, 0⟩] scope lpos) pos) (tMS X.K c W (mSet (.nm i) (mComp fr (own.map (·.2)) T mi mt me))) := by
  refine PS_imp (ps_setLc hc hN hy hyl hsw hi ok hg ht he hs) fun E σ H h => ?_
  refine comp_run (X := X) (c := c) (W := W) (fr := fr) hT ?_
  obtain ⟨ρ, lo, s, hl, hs, h⟩ := h
  refine ⟨ρ, lo, s, hl, hs, (okS.bind hl h).imp fun x H1 q => ?_⟩
  obtain ⟨ρ1, s1, a, e1, rs1, ra, h1⟩ := q
  exact h1 _ ρ1 H1 Ext.refl ((hl.ext e1).set i ra) rs1
end
end DL
set_option Elab.async false
set_option linter.all false
set_option maxRecDepth 100000
set_option maxHeartbeats 4000000
/-! DLg: operators and built-ins on data. -/
namespace DL
open PySem L2
/-- the items of a list -/
def listOf : D → Sto → Option (List D)
  | .lst xs, _ => some xs
  | .scr xs, _ => some xs
  | .loc n, s => match s[n]? with
    | some (.lst xs) => some xs
    | _ => none
  | _, _ => none
section
variable {K : PySem.W.Frag} {ρ : Rg} {H : Hp} {s : Sto}
theorem listOf_loc {n : Nat} {s : Sto} {xs : List D} (h : listOf (.loc n) s = some xs) : s[n]? = some (.lst xs) := by
  simp only [listOf] at h
  cases e : s[n]? with
  | none => rw [e] at h; cases h
  | some o =>
    rw [e] at h
    cases o with
    | lst ys => cases h; rfl
    | dct ks ys => cases h
theorem listOf_ok {d : D} {v : V} {xs : List D} (rs : RepS K ρ H s) (rd : Rep K ρ H d v) (h : listOf d s = some xs) : ∃ a vs, v = .ref a ∧ SqL K H a vs ∧ Reps K ρ H xs vs := by
  cases d with
  | lst ys => cases h; exact Rep.sqL rd
  | scr ys => cases h; exact Rep.scrL rd
  | loc n =>
    obtain ⟨a, rfl, ha⟩ := rd
    obtain ⟨vs, q1, q2⟩ := (rs.obj n a _ ha (listOf_loc h) : RepO K ρ H a (.lst xs))
    exact ⟨a, vs, rfl, SqL.of q1, q2⟩
  | _ => cases h
/-- the items of a list that is tracked as it is -/
def plOf : D → Sto → Option (List D)
  | .scr _, _ => none
  | d, s => listOf d s
theorem plOf_ok {d : D} {v : V} {xs : List D} (rs : RepS K ρ H s) (rd : Rep K ρ H d v) (h : plOf d s = some xs) : ∃ a vs, v = .ref a ∧ H a = some (.lst vs) ∧ Reps K ρ H xs vs := by
  cases d with
  | lst ys => cases h; obtain ⟨a, vs, h1, h2, _, h3⟩ := rd; exact ⟨a, vs, h1, h2.lst, h3⟩
  | loc n =>
    obtain ⟨a, rfl, ha⟩ := rd
    obtain ⟨vs, q1, q2⟩ := (rs.obj n a _ ha (listOf_loc h) : RepO K ρ H a (.lst xs))
    exact ⟨a, vs, rfl, q1, q2⟩
  | _ => cases h
/-- the items of a list or a tuple -/
def seqOf : D → Sto → Option (List D)
  | .tup xs, _ => some xs
  | d, s => listOf d s
theorem seqOf_ok {d : D} {v : V} {xs : List D} (rs : RepS K ρ H s) (rd : Rep K ρ H d v) (h : seqOf d s = some xs) : ∃ a vs, v = .ref a ∧ (SqL K H a vs ∨ SqT K H a vs) ∧ Reps K ρ H xs vs := by
  cases d with
  | tup ys => cases h; obtain ⟨a, vs, h1, h2, h3⟩ := Rep.sqT rd; exact ⟨a, vs, h1, .inr h2, h3⟩
  | lst ys => obtain ⟨a, vs, h1, h2, h3⟩ := listOf_ok rs rd h; exact ⟨a, vs, h1, .inl h2, h3⟩
  | scr ys => obtain ⟨a, vs, h1, h2, h3⟩ := listOf_ok rs rd h; exact ⟨a, vs, h1, .inl h2, h3⟩
  | loc n => obtain ⟨a, vs, h1, h2, h3⟩ := listOf_ok rs rd h; exact ⟨a, vs, h1, .inl h2, h3⟩
  | _ => cases h
/-- flat data as a value -/
def D.toV : D → V
  | .non => .non
  | .bl b => .bl b
  | .int i => .int i
  | .str x => .str x
  | _ => .ty ""
theorem flat_v {d : D} {v : V} (rd : Rep K ρ H d v) (h : flatV d.toV = true) : v = d.toV := by
  cases d <;> first
    | exact rd
    | exact absurd (show flatV (.ty "") = true from h) (by decide)
theorem flat_vs : ∀ {xs : List D} {vs : List V}, Reps K ρ H xs vs → (xs.map D.toV).all flatV = true → vs = xs.map D.toV
  | [], _, h, _ => h
  | x :: xs, _, h, f => by
    obtain ⟨v, r, rfl, h1, h2⟩ := h
    rw [List.map_cons, List.all_cons, Bool.and_eq_true] at f
    rw [List.map_cons, flat_v h1 f.1, flat_vs h2 f.2]
/- as the library's data -/
mutual
def toPy (s : Sto) : Nat → D → Option PyData
  | _, .non => some .none
  | _, .bl b => some (.bool b)
  | _, .int i => some (.int i)
  | _, .str x => some (.str x)
  | 0, _ => none
  | n + 1, .lst xs => (toPys s n xs).map .list
  | n + 1, .tup xs => (toPys s n xs).map .tuple
  | n + 1, .scr xs => (toPys s n xs).map .list
  | n + 1, .loc k => match s[k]? with
    | some (.lst xs) => (toPys s n xs).map .list
    | _ => none
  | _, .dct _ _ => none
  | _, .exn _ _ _ => none
def toPys (s : Sto) : Nat → List D → Option (List PyData)
  | _, [] => some []
  | n, x :: xs => match toPy s n x, toPys s n xs with
    | some p, some ps => some (p :: ps)
    | _, _ => none
end
mutual
theorem toPy_ok (rs : RepS K ρ H s) : ∀ (n : Nat) (d : D) (v : V) (p : PyData), Rep K ρ H d v → toPy s n d = some p → Dp K H v p
  | n, .non, _, _, r, h => by cases r; simp only [toPy] at h; cases h; exact .non
  | n, .bl b, _, _, r, h => by cases r; simp only [toPy] at h; cases h; exact .bl b
  | n, .int b, _, _, r, h => by cases r; simp only [toPy] at h; cases h; exact .int b
  | n, .str b, _, _, r, h => by cases r; simp only [toPy] at h; cases h; exact .str b
  | 0, .lst _, _, _, _, h => by simp only [toPy] at h; cases h
  | 0, .tup _, _, _, _, h => by simp only [toPy] at h; cases h
  | 0, .loc _, _, _, _, h => by simp only [toPy] at h; cases h
  | 0, .dct _ _, _, _, _, h => by simp only [toPy] at h; cases h
  | 0, .scr _, _, _, _, h => by simp only [toPy] at h; cases h
  | _ + 1, .dct _ _, _, _, _, h => by simp only [toPy] at h; cases h
  | 0, .exn _ _ _, _, _, _, h => by simp only [toPy] at h; cases h
  | _ + 1, .exn _ _ _, _, _, _, h => by simp only [toPy] at h; cases h
  | n + 1, .lst xs, _, _, r, h => by
    simp only [toPy] at h
    obtain ⟨ps, h1, rfl⟩ := Option.map_eq_some_iff.mp h
    obtain ⟨a, vs, rfl, q1, q2⟩ := Rep.sqL r
    exact .lst q1 (toPys_ok rs n xs vs ps q2 h1)
  | n + 1, .scr xs, _, _, r, h => by
    simp only [toPy] at h
    obtain ⟨ps, h1, rfl⟩ := Option.map_eq_some_iff.mp h
    obtain ⟨a, vs, rfl, q1, q2⟩ := Rep.scrL r
    exact .lst q1 (toPys_ok rs n xs vs ps q2 h1)
  | n + 1, .tup xs, _, _, r, h => by
    simp only [toPy] at h
    obtain ⟨ps, h1, rfl⟩ := Option.map_eq_some_iff.mp h
    obtain ⟨a, vs, rfl, q1, q2⟩ := Rep.sqT r
    exact .tup q1 (toPys_ok rs n xs vs ps q2 h1)
  | n + 1, .loc k, _, _, r, h => by
    simp only [toPy] at h
    obtain ⟨a, rfl, ha⟩ := r
    cases e : s[k]? with
    | none => rw [e] at h; cases h
    | some o =>
      rw [e] at h
      cases o with
      | dct ks ys => cases h
      | lst xs =>
        obtain ⟨ps, h1, rfl⟩ := Option.map_eq_some_iff.mp h
        obtain ⟨vs, q1, q2⟩ := (rs.obj k a _ ha e : RepO K ρ H a (.lst xs))
        exact .lst (SqL.of q1) (toPys_ok rs n xs vs ps q2 h1)
theorem toPys_ok (rs : RepS K ρ H s) : ∀ (n : Nat) (ds : List D) (vs : List V) (ps : List PyData), Reps K ρ H ds vs → toPys s n ds = some ps → DpAll K H vs ps
  | _, [], _, _, r, h => by cases r; simp only [toPys] at h; cases h; exact .nil
  | n, x :: xs, _, _, r, h => by
    obtain ⟨v, q, rfl, h1, h2⟩ := r
    simp only [toPys] at h
    cases e1 : toPy s n x with
    | none => rw [e1] at h; cases h
    | some p =>
      cases e2 : toPys s n xs with
      | none => rw [e1, e2] at h; cases h
      | some ps =>
        rw [e1, e2] at h
        cases h
        exact .cons (toPy_ok rs n x v p h1 e1) (toPys_ok rs n xs q ps h2 e2)
end
end

/-! ### the operators -/
abbrev Op2 := D → D → Sto → Option D
def fAdd : Op2 := fun a b s => match a, b with
  | .int i, .int j => some (.int (i + j))
  | .str x, .str y => if x.length + y.length ≤ sizeLine then some (.str (x ++ y)) else none
  | .tup xs, .tup ys => if xs.length + ys.length ≤ sizeLine then some (.tup (xs ++ ys)) else none
  | a, b => match plOf a s, plOf b s with
    | some xs, some ys => if xs.length + ys.length ≤ sizeLine then some (.lst (xs ++ ys)) else none
    | _, _ => none
def fSub : Op2 := fun a b _ => match a, b with
  | .int i, .int j => some (.int (i - j))
  | _, _ => none
def fMul : Op2 := fun a b _ => match a, b with
  | .int i, .int j => if (-(2 ^ 64) < i ∧ i < 2 ^ 64) ∨ (-(2 ^ 64) < j ∧ j < 2 ^ 64) then some (.int (i * j)) else none
  | .str x, .int n => if 2 ≤ n ∧ n ≤ 1000 ∧ 1 ≤ x.length ∧ x.length ≤ 1000 then some (.str ⟨(List.replicate n.toNat x.cps).foldl (· ++ ·) #[]⟩) else none
  | _, _ => none
def fMod : Op2 := fun a b _ => match a, b with
  | .int i, .int j => if 0 < j then some (.int (i % j)) else none
  | _, _ => none
def fDiv : Op2 := fun a b _ => match a, b with
  | .int i, .int j => if 0 < j ∧ j < 1073741824 then some (.int (i / j)) else none
  | _, _ => none
def fPow : Op2 := fun a b _ => match a, b with
  | .int i, .int j => if 0 ≤ j ∧ j ≤ 1000000 ∧ i.natAbs < 2 ^ 64 then some (.int (i ^ j.toNat)) else none
  | _, _ => none
def fLt : Op2 := fun a b _ => match a, b with
  | .int i, .int j => some (.bl (decide (i < j)))
  | .str i, .str j => some (.bl (decide (i.cps.toList < j.cps.toList)))
  | _, _ => none
def fGt : Op2 := fun a b _ => match a, b with
  | .int i, .int j => some (.bl (decide (j < i)))
  | .str i, .str j => some (.bl (decide (j.cps.toList < i.cps.toList)))
  | _, _ => none
def fLe : Op2 := fun a b _ => match a, b with
  | .int i, .int j => some (.bl (decide (i ≤ j)))
  | .str i, .str j => some (.bl (!decide (j.cps.toList < i.cps.toList)))
  | _, _ => none
def fGe : Op2 := fun a b _ => match a, b with
  | .int i, .int j => some (.bl (decide (j ≤ i)))
  | .str i, .str j => some (.bl (!decide (i.cps.toList < j.cps.toList)))
  | _, _ => none
/-- ==, of scalars by value, else by data -/
def eqP (a b : D) (s : Sto) : Option Bool := if scal a.toV b.toV = true then some (decide (a.toV = b.toV)) else match toPy s 64 a, toPy s 64 b with
  | some p, some q => if (SeqAt.shaped p && SeqAt.shaped q) = true then some (PyData.eqv p q) else none
  | _, _ => none
def fEq : Op2 := fun a b s => (eqP a b s).map .bl
def fNe : Op2 := fun a b s => (eqP a b s).map fun k => .bl (!k)
def inP (a b : D) (s : Sto) : Option Bool := match a, b with
  | .str x, .str z => (match x.cps.toList with
    | [k] => some (decide (k ∈ z.cps.toList))
    | _ => some (!(Builtin.Str.occurrences z x 0 z.length 1).isEmpty))
  | a, b => match seqOf b s with
    | some xs => if (flatV a.toV && (xs.map D.toV).all flatV) = true then some (inV a.toV (xs.map D.toV)) else none
    | none => none
def fIn : Op2 := fun a b s => (inP a b s).map .bl
def fNotIn : Op2 := fun a b s => (inP a b s).map fun k => .bl (!k)
def fIx : Op2 := fun a b s => match b with
  | .int j => (match a with
    | .str x => if x.length ≤ sizeLine then (atI x.cps.toList j).map fun k => .str ⟨#[k]⟩ else none
    | a => match seqOf a s with
      | some xs => atI xs j
      | none => none)
  | _ => none
theorem atI_reps {K : PySem.W.Frag} {ρ : Rg} {H : Hp} {xs : List D} {vs : List V} {j : Int} {d : D} (h : Reps K ρ H xs vs) (e : atI xs j = some d) : ∃ v, atI vs j = some v ∧ Rep K ρ H d v := by
  unfold atI at e ⊢
  rw [← h.length]
  cases q : ixN xs.length j with
  | none => rw [q] at e; cases e
  | some k =>
    rw [q] at e
    obtain ⟨v, h1, h2⟩ := h.get (i := k) e
    exact ⟨v, h1, h2⟩
section
variable {X : Cx}
theorem od_add : OpR X (binaryOp .Add) (rP X.K fAdd) := by
  intro pins s σ H x y v u Q I rx ry h
  obtain ⟨ρ, st, a, b, d, ra, rb, rs, e, q⟩ := h
  have lists : (match plOf a st, plOf b st with | some xs, some ys => if xs.length + ys.length ≤ sizeLine then some (D.lst (xs ++ ys)) else none | _, _ => none) = some d → wpAny (model X.prog X.w) X.A (binaryOp .Add v u) (EP X pins σ Q) X.xe s := by
    intro e
    cases e1 : plOf a st with
    | none => rw [e1] at e; cases e
    | some xs =>
      cases e2 : plOf b st with
      | none => rw [e1, e2] at e; cases e
      | some ys =>
        rw [e1, e2] at e
        simp only at e
        split at e
        · rename_i hz
          cases e
          obtain ⟨p, vs, rfl, q1, q2⟩ := plOf_ok rs ra e1
          obtain ⟨p', us, rfl, q1', q2'⟩ := plOf_ok rs rb e2
          refine op_cat pins s σ H _ _ v u Q I rx ry ⟨p, p', vs, us, rfl, rfl, q1, q1', by rw [← q2.length, ← q2'.length]; exact hz, fun t ht => ?_⟩
          exact q _ _ (Ext.alloc ht) ⟨t, _, rfl, At.of upd_same, rs.fresh ht, Reps.ext (Ext.alloc ht) (Reps.append q2 q2')⟩ (rs.alloc ht)
        · cases e
  have hInt : ∀ {i j : Int}, a = .int i → b = .int j → wpAny (model X.prog X.w) X.A (binaryOp .Add v u) (EP X pins σ Q) X.xe s := by
    rintro i j rfl rfl
    cases e; cases ra; cases rb
    exact op_add pins s σ H _ _ v u Q I rx ry ⟨i, j, rfl, rfl, q _ H Ext.refl rfl rs⟩
  have hStr : ∀ {i j : Str}, a = .str i → b = .str j → wpAny (model X.prog X.w) X.A (binaryOp .Add v u) (EP X pins σ Q) X.xe s := by
    rintro i j rfl rfl
    simp only [fAdd] at e
    split at e
    · rename_i hz
      cases e; cases ra; cases rb
      exact op_add_str pins s σ H _ _ v u Q I rx ry ⟨i, j, rfl, rfl, hz, q _ H Ext.refl rfl rs⟩
    · cases e
  have hTup : ∀ {i j : List D}, a = .tup i → b = .tup j → wpAny (model X.prog X.w) X.A (binaryOp .Add v u) (EP X pins σ Q) X.xe s := by
    rintro xs ys rfl rfl
    simp only [fAdd] at e
    split at e
    · rename_i hz
      cases e
      obtain ⟨p, vs, rfl, q1, q2⟩ := Rep.sqT ra
      obtain ⟨p', us, rfl, q1', q2'⟩ := Rep.sqT rb
      refine op_catA pins s σ H _ _ v u Q I rx ry ⟨p, p', vs, us, rfl, rfl, q1, q1', by rw [← q2.length, ← q2'.length]; exact hz, fun z => ?_, fun z z' => ?_, fun z z' t ht => ?_⟩
      · subst z
        have := q2.length
        obtain rfl : xs = [] := List.length_eq_zero_iff.mp this
        exact q _ H Ext.refl rb rs
      · subst z'
        have := q2'.length
        obtain rfl : ys = [] := List.length_eq_zero_iff.mp this
        rw [List.append_nil] at q
        exact q _ H Ext.refl ra rs
      · exact q _ _ (Ext.alloc ht) ⟨t, _, rfl, .inl ⟨At.of upd_same, rs.fresh ht⟩, Reps.ext (Ext.alloc ht) (Reps.append q2 q2')⟩ (rs.alloc ht)
    · cases e
  cases a <;> cases b <;> first
    | exact hInt rfl rfl
    | exact hStr rfl rfl
    | exact hTup rfl rfl
    | exact lists e
theorem od_sub : OpR X (binaryOp .Sub) (rP X.K fSub) := by
  intro pins s σ H x y v u Q I rx ry h
  obtain ⟨ρ, st, a, b, d, ra, rb, rs, e, q⟩ := h
  cases a <;> cases b <;> simp only [fSub] at e <;> cases e
  cases ra; cases rb
  exact op_sub pins s σ H _ _ v u Q I rx ry ⟨_, _, rfl, rfl, q _ H Ext.refl rfl rs⟩
theorem od_mod : OpR X (binaryOp .Mod) (rP X.K fMod) := by
  intro pins s σ H x y v u Q I rx ry h
  obtain ⟨ρ, st, a, b, d, ra, rb, rs, e, q⟩ := h
  cases a <;> cases b <;> simp only [fMod] at e <;> try (cases e; done)
  split at e
  · rename_i hc
    cases e; cases ra; cases rb
    exact op_mod pins s σ H _ _ v u Q I rx ry ⟨_, _, rfl, rfl, hc, q _ H Ext.refl rfl rs⟩
  · cases e
theorem od_div : OpR X (binaryOp .FloorDiv) (rP X.K fDiv) := by
  intro pins s σ H x y v u Q I rx ry h
  obtain ⟨ρ, st, a, b, d, ra, rb, rs, e, q⟩ := h
  cases a <;> cases b <;> simp only [fDiv] at e <;> try (cases e; done)
  split at e
  · rename_i hc
    cases e; cases ra; cases rb
    exact op_fdiv pins s σ H _ _ v u Q I rx ry ⟨_, _, rfl, rfl, hc, q _ H Ext.refl rfl rs⟩
  · cases e
theorem od_pow : OpR X (binaryOp .Pow) (rP X.K fPow) := by
  intro pins s σ H x y v u Q I rx ry h
  obtain ⟨ρ, st, a, b, d, ra, rb, rs, e, q⟩ := h
  cases a <;> cases b <;> simp only [fPow] at e <;> try (cases e; done)
  split at e
  · rename_i hc
    cases e; cases ra; cases rb
    exact op_pow pins s σ H _ _ v u Q I rx ry ⟨_, _, rfl, rfl, hc, q _ H Ext.refl rfl rs⟩
  · cases e
theorem rep_size (a : Array Nat) : ∀ (n : Nat) (acc : Array Nat), ((List.replicate n a).foldl (· ++ ·) acc).size = acc.size + n * a.size
  | 0, acc => by simp
  | n + 1, acc => by
    rw [List.replicate_succ, List.foldl_cons, rep_size a n, Array.size_append, Nat.succ_mul]
    omega
theorem od_mul : OpR X (binaryOp .Mult) (rP X.K fMul) := by
  intro pins s σ H x y v u Q I rx ry h
  obtain ⟨ρ, st, a, b, d, ra, rb, rs, e, q⟩ := h
  cases a <;> cases b <;> simp only [fMul] at e <;> try (cases e; done)
  · split at e
    · rename_i hc
      cases e; cases ra; cases rb
      exact op_mul pins s σ H _ _ v u Q I rx ry ⟨_, _, rfl, rfl, hc, q _ H Ext.refl rfl rs⟩
    · cases e
  · split at e
    · rename_i x n hc
      cases e; cases ra; cases rb
      obtain ⟨t, rfl⟩ := rx
      obtain ⟨t', rfl⟩ := ry
      have n1 : ¬ n < 1 := by omega
      have n2 : (n == 1 || x.length == 0) = false := by
        rw [Bool.or_eq_false_iff]
        exact ⟨by simp; omega, by simp; omega⟩
      refine PySem.P.mul_str (by rw [decide_eq_false (by omega), decide_eq_false (by omega)]; rfl) (fun _ _ => ?_) (fun _ _ => ?_) ?_
      · have h1 : (1 : Int) ≤ (2 ^ 63 - 1) / 1000 := by decide
        have h2 : ((2 : Int) ^ 63 - 1) / 1000 ≤ (2 ^ 63 - 1) / n := by
          apply Int.le_ediv_of_mul_le (by omega)
          have : ((2 : Int) ^ 63 - 1) / 1000 * n ≤ ((2 : Int) ^ 63 - 1) / 1000 * 1000 := Int.mul_le_mul_of_nonneg_left hc.2.1 (by decide)
          exact Int.le_trans this (by decide)
        have h3 : (1000 : Int) ≤ (2 ^ 63 - 1) / 1000 := by decide
        omega
      · have h1 : x.length * n.toNat ≤ 1000 * 1000 := Nat.mul_le_mul hc.2.2.2 (by omega)
        unfold Builtin.Str.tooLong
        first
          | exact decide_eq_false (by have := sizeLine_eq; omega)
          | (simp; have := sizeLine_eq; omega)
      · rw [if_neg n1, if_neg (by rw [n2]; decide)]
        refine ⟨?_, ?_⟩
        · show Array.size _ ≤ sizeLine
          rw [rep_size]
          have h1 : x.cps.size * n.toNat ≤ 1000 * 1000 := Nat.mul_le_mul hc.2.2.2 (by omega)
          have := sizeLine_eq
          rw [Nat.mul_comm] at h1
          simp only [Array.size_empty, Nat.zero_add]
          omega
        · exact ⟨.str _, H, I.tok _, ⟨_, rfl⟩, q _ H Ext.refl rfl rs⟩
    · cases e
theorem od_lt : OpR X (compareOp .Lt) (rP X.K fLt) := by
  intro pins s σ H x y v u Q I rx ry h
  obtain ⟨ρ, st, a, b, d, ra, rb, rs, e, q⟩ := h
  cases a <;> cases b <;> simp only [fLt] at e <;> cases e <;> cases ra <;> cases rb
  · exact op_lt pins s σ H _ _ v u Q I rx ry ⟨_, _, rfl, rfl, q _ H Ext.refl rfl rs⟩
  · exact op_lt_str pins s σ H _ _ v u Q I rx ry ⟨_, _, rfl, rfl, q _ H Ext.refl rfl rs⟩
theorem od_gt : OpR X (compareOp .Gt) (rP X.K fGt) := by
  intro pins s σ H x y v u Q I rx ry h
  obtain ⟨ρ, st, a, b, d, ra, rb, rs, e, q⟩ := h
  cases a <;> cases b <;> simp only [fGt] at e <;> cases e <;> cases ra <;> cases rb
  · exact op_gt pins s σ H _ _ v u Q I rx ry ⟨_, _, rfl, rfl, q _ H Ext.refl rfl rs⟩
  · exact op_gt_str pins s σ H _ _ v u Q I rx ry ⟨_, _, rfl, rfl, q _ H Ext.refl rfl rs⟩
theorem od_le : OpR X (compareOp .LtE) (rP X.K fLe) := by
  intro pins s σ H x y v u Q I rx ry h
  obtain ⟨ρ, st, a, b, d, ra, rb, rs, e, q⟩ := h
  cases a <;> cases b <;> simp only [fLe] at e <;> cases e <;> cases ra <;> cases rb
  · exact op_le pins s σ H _ _ v u Q I rx ry ⟨_, _, rfl, rfl, q _ H Ext.refl rfl rs⟩
  · exact op_le_str pins s σ H _ _ v u Q I rx ry ⟨_, _, rfl, rfl, q _ H Ext.refl rfl rs⟩
theorem od_ge : OpR X (compareOp .GtE) (rP X.K fGe) := by
  intro pins s σ H x y v u Q I rx ry h
  obtain ⟨ρ, st, a, b, d, ra, rb, rs, e, q⟩ := h
  cases a <;> cases b <;> simp only [fGe] at e <;> cases e <;> cases ra <;> cases rb
  · exact op_ge pins s σ H _ _ v u Q I rx ry ⟨_, _, rfl, rfl, q _ H Ext.refl rfl rs⟩
  · exact op_ge_str pins s σ H _ _ v u Q I rx ry ⟨_, _, rfl, rfl, q _ H Ext.refl rfl rs⟩
theorem scal_v {K : PySem.W.Frag} {ρ : Rg} {H : Hp} {a b : D} {x y : V} (ra : Rep K ρ H a x) (rb : Rep K ρ H b y) (h : scal a.toV b.toV = true) : x = a.toV ∧ y = b.toV := by
  cases a <;> cases b <;> first
    | exact ⟨ra, rb⟩
    | exact absurd h (by simp [D.toV, scal])
theorem od_eq (hu : X.A.units + 64 < cLine) : OpR X (compareOp .Eq) (rP X.K fEq) := by
  intro pins s σ H x y v u Q I rx ry h
  obtain ⟨ρ, st, a, b, d, ra, rb, rs, e, q⟩ := h
  unfold fEq eqP at e
  split at e
  · rename_i hs
    cases e
    obtain ⟨rfl, rfl⟩ := scal_v ra rb hs
    exact op_eq pins s σ H _ _ v u Q I rx ry ⟨hs, q _ H Ext.refl rfl rs⟩
  · cases e1 : toPy st 64 a with
    | none => rw [e1] at e; cases e
    | some p =>
      cases e2 : toPy st 64 b with
      | none => rw [e1, e2] at e; cases e
      | some p' =>
        rw [e1, e2] at e
        simp only at e
        split at e
        · rename_i hz
          rw [Bool.and_eq_true] at hz
          cases e
          exact op_eqD hu pins s σ H _ _ v u Q I rx ry ⟨p, p', toPy_ok rs _ _ _ _ ra e1, toPy_ok rs _ _ _ _ rb e2, hz.1, hz.2, q _ H Ext.refl rfl rs⟩
        · cases e
theorem od_ne (hu : X.A.units + 64 < cLine) : OpR X (compareOp .NotEq) (rP X.K fNe) := by
  intro pins s σ H x y v u Q I rx ry h
  obtain ⟨ρ, st, a, b, d, ra, rb, rs, e, q⟩ := h
  unfold fNe eqP at e
  split at e
  · rename_i hs
    cases e
    obtain ⟨rfl, rfl⟩ := scal_v ra rb hs
    exact op_ne pins s σ H _ _ v u Q I rx ry ⟨hs, q _ H Ext.refl rfl rs⟩
  · cases e1 : toPy st 64 a with
    | none => rw [e1] at e; cases e
    | some p =>
      cases e2 : toPy st 64 b with
      | none => rw [e1, e2] at e; cases e
      | some p' =>
        rw [e1, e2] at e
        simp only at e
        split at e
        · rename_i hz
          rw [Bool.and_eq_true] at hz
          cases e
          exact op_neD hu pins s σ H _ _ v u Q I rx ry ⟨p, p', toPy_ok rs _ _ _ _ ra e1, toPy_ok rs _ _ _ _ rb e2, hz.1, hz.2, q _ H Ext.refl rfl rs⟩
        · cases e
theorem in_seq_run {neg : Bool} {pins : List (Addr × Obj)} {s : Shared} {σ : L2.St} {H : Hp} {x y : V} {v u : Value} {Q : VK} {op : CmpOp} (ho : OpR X (compareOp op) (rIn X.K neg)) (I : Inv X pins σ H s) (rx : RelV x v) (ry : RelV y u) {ρ : Rg} {st : Sto} {a b d : D} (ra : Rep X.K ρ H a x) (rb : Rep X.K ρ H b y) (rs : RepS X.K ρ H st)
    (e : (match seqOf b st with | some xs => if (flatV a.toV && (xs.map D.toV).all flatV) = true then some (inV a.toV (xs.map D.toV)) else none | none => none).map (fun k => D.bl (if neg then !k else k)) = some d)
    (q : ∀ v H', Ext ρ H ρ H' → Rep X.K ρ H' d v → RepS X.K ρ H' st → Q v H') : wpAny (model X.prog X.w) X.A (compareOp op v u) (EP X pins σ Q) X.xe s := by
  cases e1 : seqOf b st with
  | none => rw [e1] at e; cases e
  | some xs =>
    rw [e1] at e
    simp only at e
    by_cases hz : (flatV a.toV && (xs.map D.toV).all flatV) = true
    · rw [if_pos hz] at e
      rw [Bool.and_eq_true] at hz
      cases e
      obtain ⟨p, vs, rfl, q1, q2⟩ := seqOf_ok rs rb e1
      obtain rfl := flat_v ra hz.1
      obtain rfl := flat_vs q2 hz.2
      refine ho pins s σ H _ _ v u Q I rx ry ⟨p, _, rfl, q1, hz.1, hz.2, ?_⟩
      cases neg <;> exact q _ H Ext.refl rfl rs
    · rw [if_neg hz] at e; cases e
theorem sign_of {x : Str} {k : Nat} (h : x.cps.toList = [k]) : x = ⟨#[k]⟩ := by
  obtain ⟨a⟩ := x
  simp only at h
  rw [show a = #[k] from by rw [← Array.toArray_toList (xs := a), h]]
theorem od_in : OpR X (compareOp .In) (rP X.K fIn) := by
  intro pins s σ H x y v u Q I rx ry h
  obtain ⟨ρ, st, a, b, d, ra, rb, rs, e, q⟩ := h
  have txt : ∀ {i j : Str}, a = .str i → b = .str j → wpAny (model X.prog X.w) X.A (compareOp .In v u) (EP X pins σ Q) X.xe s := by
    rintro i j rfl rfl
    simp only [fIn, inP] at e
    split at e
    · rename_i k hk
      cases e; cases ra; cases rb
      exact op_in_sign pins s σ H _ _ v u Q I rx ry ⟨k, j, by rw [sign_of hk], rfl, q _ H Ext.refl rfl rs⟩
    · cases e; cases ra; cases rb
      exact op_in_str pins s σ H _ _ v u Q I rx ry ⟨i, j, rfl, rfl, q _ H Ext.refl rfl rs⟩
  cases a <;> cases b <;> first
    | exact txt rfl rfl
    | exact in_seq_run op_in_seq I rx ry ra rb rs e q
theorem od_notIn : OpR X (compareOp .NotIn) (rP X.K fNotIn) := by
  intro pins s σ H x y v u Q I rx ry h
  obtain ⟨ρ, st, a, b, d, ra, rb, rs, e, q⟩ := h
  have txt : ∀ {i j : Str}, a = .str i → b = .str j → wpAny (model X.prog X.w) X.A (compareOp .NotIn v u) (EP X pins σ Q) X.xe s := by
    rintro i j rfl rfl
    simp only [fNotIn, inP] at e
    split at e
    · rename_i k hk
      cases e; cases ra; cases rb
      exact op_notIn_sign pins s σ H _ _ v u Q I rx ry ⟨k, j, by rw [sign_of hk], rfl, q _ H Ext.refl rfl rs⟩
    · cases e; cases ra; cases rb
      exact op_notIn_str pins s σ H _ _ v u Q I rx ry ⟨i, j, rfl, rfl, q _ H Ext.refl rfl rs⟩
  cases a <;> cases b <;> first
    | exact txt rfl rfl
    | exact in_seq_run op_notIn_seq I rx ry ra rb rs e q
theorem od_ix : IxR X (rP X.K fIx) := by
  intro value slice pins s σ H x y v u Q I rx ry h hs
  obtain ⟨ρ, st, a, b, d, ra, rb, rs, e, q⟩ := h
  cases b <;> simp only [fIx] at e <;> try (cases e; done)
  cases rb
  rename_i j
  have seqs : ∀ (_ : (match seqOf a st with | some xs => atI xs j | none => none) = some d), wpAny (model X.prog X.w) X.A (PyProof.Rows.subscriptTail value slice v u) (EP X pins σ Q) X.xe s := by
    intro e
    cases e1 : seqOf a st with
    | none => rw [e1] at e; cases e
    | some xs =>
      rw [e1] at e
      obtain ⟨p, vs, rfl, q1, q2⟩ := seqOf_ok rs ra e1
      obtain ⟨w, h1, h2⟩ := atI_reps q2 e
      rcases q1 with q1 | q1
      · exact ix_list value slice pins s σ H _ _ v u Q I rx ry ⟨p, vs, j, w, rfl, rfl, q1, h1, q _ H Ext.refl h2 rs⟩ hs
      · exact ix_tup value slice pins s σ H _ _ v u Q I rx ry ⟨p, vs, j, w, rfl, rfl, q1, h1, q _ H Ext.refl h2 rs⟩ hs
  cases a with
  | str z =>
    simp only at e
    split at e
    · rename_i hz
      cases e1 : atI z.cps.toList j with
      | none => rw [e1] at e; cases e
      | some k =>
        rw [e1] at e
        cases e; cases ra
        exact ix_str value slice pins s σ H _ _ v u Q I rx ry ⟨z, j, k, rfl, rfl, hz, e1, q _ H Ext.refl rfl rs⟩ hs
    · cases e
  | _ => exact seqs e

def mNeg (m : Lo → M D) : Lo → M D := fun lo s => (m lo s).bind fun d s1 => match d with
  | .int i => .ok (.int (-i)) s1
  | _ => .bad
theorem pd_neg {c : ClsM} {W : WX} {a : Expr} {pos : Pos} {m : Lo → M D} (ha : PE X a (tM X.K c W m)) : PE X (.UnaryOp .USub a pos) (tM X.K c W (mNeg m)) := by
  refine PE_imp (pe_un un_neg ha) fun σ H Q h => ?_
  obtain ⟨ρ, lo, s, hl, hs, h⟩ := h
  refine ⟨ρ, lo, s, hl, hs, (okR.bind h).imp fun x H1 q => ?_⟩
  obtain ⟨ρ1, s1, d, e1, rs1, rd, h1⟩ := q
  cases d <;> try exact h1.elim
  rename_i i
  exact ⟨i, rd, h1 _ ρ1 H1 Ext.refl rfl rs1⟩
end
end DL
set_option Elab.async false
set_option linter.all false
set_option maxRecDepth 100000
set_option maxHeartbeats 4000000
/-! DLh: built-in functions, methods, stores, slices. -/
namespace DL
open PySem L2
section
variable {X : Cx} {c : ClsM} {W : WX} {pos : Pos}
theorem GlobD.int {K : PySem.W.Frag} {mg : Str → Option Value} {x : Str} {i : Int} {t : Tok} (h : mg x = some (.int i t)) : GlobD K mg x (.int i) := ⟨⟨.int i, _, h, ⟨t, rfl⟩, fun _ _ => rfl⟩⟩
theorem GlobD.str {K : PySem.W.Frag} {mg : Str → Option Value} {x y : Str} {t : Tok} (h : mg x = some (.str y t)) : GlobD K mg x (.str y) := ⟨⟨.str y, _, h, ⟨t, rfl⟩, fun _ _ => rfl⟩⟩

/-! ### one argument -/
theorem reps1 {K : PySem.W.Frag} {ρ : Rg} {H : Hp} {d : D} {vs : List V} (h : Reps K ρ H [d] vs) : ∃ v, vs = [v] ∧ Rep K ρ H d v := by
  obtain ⟨v, r, rfl, h1, h2⟩ := h
  cases h2
  exact ⟨v, rfl, h1⟩
theorem reps2 {K : PySem.W.Frag} {ρ : Rg} {H : Hp} {d e : D} {vs : List V} (h : Reps K ρ H [d, e] vs) : ∃ v u, vs = [v, u] ∧ Rep K ρ H d v ∧ Rep K ρ H e u := by
  obtain ⟨v, r, rfl, h1, h2⟩ := h
  obtain ⟨u, rfl, h3⟩ := reps1 h2
  exact ⟨v, u, rfl, h1, h3⟩
abbrev Fn1 := List D → Sto → Option D
def fLen : Fn1 := fun ds s => match ds with
  | [.str x] => if x.length ≤ sizeLine then some (.int x.length) else none
  | [d] => (seqOf d s).map fun xs => .int xs.length
  | _ => none
theorem cd_len : CallR X (.builtin "len") (rC X.K fLen) := by
  intro pins s σ H xs us Q I r h
  obtain ⟨ρ, st, ds, d, rd, rs, e, q⟩ := h
  have seqs : ∀ {a : D}, ds = [a] → (seqOf a st).map (fun xs => D.int xs.length) = some d → wpAny (model X.prog X.w) X.A (call (.builtin "len") us) (EP X pins σ Q) X.xe s := by
    rintro a rfl e
    obtain ⟨ys, e1, rfl⟩ := Option.map_eq_some_iff.mp e
    obtain ⟨v, rfl, r1⟩ := reps1 rd
    obtain ⟨p, vs, rfl, q1, q2⟩ := seqOf_ok rs r1 e1
    refine call_len_seq pins s σ H _ us Q I r ⟨p, vs, rfl, q1, ?_⟩
    rw [← q2.length]
    exact q _ H Ext.refl rfl rs
  unfold fLen at e
  split at e
  · rename_i z
    split at e
    · rename_i hz
      cases e
      obtain ⟨v, rfl, r1⟩ := reps1 rd
      cases r1
      exact call_len_str pins s σ H _ us Q I r ⟨z, rfl, hz, q _ H Ext.refl rfl rs⟩
    · cases e
  · exact seqs rfl e
  · cases e
def fMax : Fn1 := fun ds _ => match ds with
  | [.int i, .int j] => some (.int (if j > i then j else i))
  | _ => none
def fMin : Fn1 := fun ds _ => match ds with
  | [.int i, .int j] => some (.int (if j < i then j else i))
  | _ => none
theorem cd_max (hc : X.calm = true) : CallR X (.builtin "max") (rC X.K fMax) := by
  intro pins s σ H xs us Q I r h
  obtain ⟨ρ, st, ds, d, rd, rs, e, q⟩ := h
  unfold fMax at e
  split at e
  · rename_i i j
    cases e
    exact call_max2 hc pins s σ H _ us Q I r ⟨i, j, reps_int2 rd, q _ H Ext.refl rfl rs⟩
  · cases e
theorem cd_min (hc : X.calm = true) : CallR X (.builtin "min") (rC X.K fMin) := by
  intro pins s σ H xs us Q I r h
  obtain ⟨ρ, st, ds, d, rd, rs, e, q⟩ := h
  unfold fMin at e
  split at e
  · rename_i i j
    cases e
    exact call_min2 hc pins s σ H _ us Q I r ⟨i, j, reps_int2 rd, q _ H Ext.refl rfl rs⟩
  · cases e
def fInt : Fn1 := fun ds _ => match ds with
  | [.int i] => some (.int i)
  | [.bl k] => some (.int (if k then 1 else 0))
  | _ => none
theorem cd_int : CallR X (.type "int") (rC X.K fInt) := by
  intro pins s σ H xs us Q I r h
  obtain ⟨ρ, st, ds, d, rd, rs, e, q⟩ := h
  unfold fInt at e
  split at e
  · rename_i i
    cases e
    exact call_int1 pins s σ H _ us Q I r (.inl ⟨i, reps_int rd, q _ H Ext.refl rfl rs⟩)
  · rename_i k
    cases e
    obtain ⟨v, rfl, r1⟩ := reps1 rd
    cases r1
    exact call_int1 pins s σ H _ us Q I r (.inr ⟨k, rfl, q _ H Ext.refl rfl rs⟩)
  · cases e
def blsOf : List D → Option (List Bool)
  | [] => some []
  | .bl b :: r => (blsOf r).map (b :: ·)
  | _ => none
theorem bls_vs {K : PySem.W.Frag} {ρ : Rg} {H : Hp} : ∀ {ds : List D} {vs : List V} {bs : List Bool}, Reps K ρ H ds vs → blsOf ds = some bs → vs = bs.map V.bl
  | [], _, _, h, e => by cases h; cases e; rfl
  | d :: ds, _, _, h, e => by
    obtain ⟨v, r, rfl, h1, h2⟩ := h
    cases d <;> simp only [blsOf] at e <;> try (cases e; done)
    obtain ⟨bs, e1, rfl⟩ := Option.map_eq_some_iff.mp e
    cases h1
    rw [bls_vs h2 e1]; rfl
def fAll : Fn1 := fun ds s => match ds with
  | [d] => ((listOf d s).bind blsOf).map fun bs => .bl (bs.all id)
  | _ => none
def fAny : Fn1 := fun ds s => match ds with
  | [d] => ((listOf d s).bind blsOf).map fun bs => .bl (bs.any id)
  | _ => none
theorem cd_all (hc : X.calm = true) : CallR X (.builtin "all") (rC X.K fAll) := by
  intro pins s σ H xs us Q I r h
  obtain ⟨ρ, st, ds, d, rd, rs, e, q⟩ := h
  unfold fAll at e
  split at e
  · obtain ⟨bs, e1, rfl⟩ := Option.map_eq_some_iff.mp e
    obtain ⟨ys, e2, e3⟩ := Option.bind_eq_some_iff.mp e1
    obtain ⟨v, rfl, r1⟩ := reps1 rd
    obtain ⟨p, vs, rfl, q1, q2⟩ := listOf_ok rs r1 e2
    exact cr_all hc pins s σ H _ us Q I r ⟨p, bs, rfl, by rw [← bls_vs q2 e3]; exact q1, q _ H Ext.refl rfl rs⟩
  · cases e
theorem cd_any (hc : X.calm = true) : CallR X (.builtin "any") (rC X.K fAny) := by
  intro pins s σ H xs us Q I r h
  obtain ⟨ρ, st, ds, d, rd, rs, e, q⟩ := h
  unfold fAny at e
  split at e
  · obtain ⟨bs, e1, rfl⟩ := Option.map_eq_some_iff.mp e
    obtain ⟨ys, e2, e3⟩ := Option.bind_eq_some_iff.mp e1
    obtain ⟨v, rfl, r1⟩ := reps1 rd
    obtain ⟨p, vs, rfl, q1, q2⟩ := listOf_ok rs r1 e2
    exact cr_any hc pins s σ H _ us Q I r ⟨p, bs, rfl, by rw [← bls_vs q2 e3]; exact q1, q _ H Ext.refl rfl rs⟩
  · cases e

/-! ### types -/
inductive Ty where
  | non | bl | int | str | lst | tup | dct
  deriving DecidableEq
def Ty.name : Ty → String
  | .non => "NoneType" | .bl => "bool" | .int => "int" | .str => "str" | .lst => "list" | .tup => "tuple" | .dct => "dict"
def tyD : D → Sto → Option Ty
  | .non, _ => some .non
  | .bl _, _ => some .bl
  | .int _, _ => some .int
  | .str _, _ => some .str
  | .lst _, _ => some .lst
  | .scr _, _ => some .lst
  | .tup _, _ => some .tup
  | .dct _ _, _ => some .dct
  | .exn _ _ _, _ => none
  | .loc n, s => match s[n]? with
    | some (.lst _) => some .lst
    | some (.dct _ _) => some .dct
    | none => none
def isTy (t u : Ty) : Bool := decide (t = u) || (decide (t = .bl) && decide (u = .int))
theorem kit_isTy (t u : Ty) (hu : u ≠ .non) : kitB t.name u.name = some (isTy t u) := by
  cases u <;> first
    | exact absurd rfl hu
    | (cases t <;> decide +kernel)
theorem tyD_ok {K : PySem.W.Frag} {ρ : Rg} {H : Hp} {s : Sto} {d : D} {v : V} {t : Ty} (rs : RepS K ρ H s) (rd : Rep K ρ H d v) (h : tyD d s = some t) : TyX K H v (.type t.name) := by
  cases d with
  | non => cases h; cases rd; exact .base .non
  | bl b => cases h; cases rd; exact .base (.bl b)
  | int b => cases h; cases rd; exact .base (.int b)
  | str b => cases h; cases rd; exact .base (.str b)
  | lst xs => cases h; obtain ⟨a, vs, rfl, h1, _⟩ := rd; exact .base (.lst h1.lst)
  | scr xs =>
    cases h
    obtain ⟨a, vs, rfl, h1, _⟩ := rd
    rcases h1 with ⟨o, h1, _⟩ | ⟨o, _, _, h1, h2, _⟩
    · exact .base (.frz h1.frz)
    · exact .kList h1 h2
  | tup xs =>
    cases h
    obtain ⟨a, vs, rfl, h1, _⟩ := rd
    rcases h1 with ⟨h1, _⟩ | ⟨o, _, _, h1, h2, _⟩
    · exact .base (.tup h1.tup)
    · exact .kTuple h1 h2
  | dct ks xs =>
    cases h
    obtain ⟨a, vs, rfl, h1, _⟩ := rd
    rcases h1.dK with h1 | ⟨o, h1⟩
    · exact .base (.dK h1)
    · exact .fDict h1
  | loc n =>
    obtain ⟨a, rfl, ha⟩ := rd
    obtain ⟨ob, e1, e2⟩ := rs.at ha
    simp only [tyD, e1] at h
    cases ob with
    | lst xs => cases h; obtain ⟨vs, q1, _⟩ := e2; exact .base (.lst q1)
    | dct ks xs => cases h; obtain ⟨vs, q1, _⟩ := e2; exact .base (.dK q1)
  | exn cls ns ds => cases h
def mIsi (u : Ty) (m : Lo → M D) : Lo → M D := fun lo s => (m lo s).bind fun d s1 => match tyD d s1 with
  | some t => .ok (.bl (isTy t u)) s1
  | none => .bad
/-- isinstance(e, T), T a built-in class -/
theorem pd_isi (u : Ty) {e : Expr} {p p2 : Pos} {m : Lo → M D} {T : Str} (he : PE X e (tM X.K c W m)) (hm : X.mg "isinstance" = none) (hmT : X.mg T = none) (hu : u ≠ .non := by decide) (hT : bootBuiltins T = some (.type u.name) := by decide +kernel) (hg : Gl X "isinstance" := by rfl) (hgT : Gl X T := by rfl)
    (hn : T ≠ "__name__" := by decide) (hd : (T == ("__debug__" : Str)) = false := by decide) (h1 : starEach [e, .Name T p2] X.env = (false, eval e X.env) :: starEach [.Name T p2] X.env := by rfl) (h2 : starEach [.Name T p2] X.env = (false, eval (.Name T p2) X.env) :: starEach [] X.env := by rfl)
    (hpl : (backTo pos (starEach [.Name T p2] X.env)).any (·.1) = false := by rfl) : PE X (.Call (.Name "isinstance" p) [e, .Name T p2] [] pos) (tM X.K c W (mIsi u m)) := by
  refine PE_imp (pe_callB call_isi hg hm (by decide +kernel) (pa_cons he (pa_cons (pe_bltn (v := .ty u.name) hgT hmT hT rfl hn hd) pa_nil h2) h1) (by decide) (by decide) h1 hpl) fun σ H Q h => ?_
  obtain ⟨ρ, lo, s, hl, hs, h⟩ := h
  refine ⟨ρ, lo, s, hl, hs, (okR.bind h).imp fun x H1 q => ?_⟩
  obtain ⟨ρ1, s1, a, e1, rs1, ra, h1⟩ := q
  cases et : tyD a s1 with
  | none => rw [et] at h1; exact h1.elim
  | some t =>
    rw [et] at h1
    exact ⟨x, .ty u.name, .type t.name, .type u.name, isTy t u, rfl, .ty _, tyD_ok rs1 ra et, kit_ty (kit_isTy t u hu), h1 _ ρ1 H1 Ext.refl rfl rs1⟩

/-! ### repr -/
def fRepr : Fn1 := fun ds s => match ds with
  | [d] => match toPy s 60 d with
    | some p => if (p.showable && !p.hasDict && decide (p.shown.length ≤ sizeLine) && decide (p.depth ≤ 60)) = true then some (.str p.shown) else none
    | none => none
  | _ => none
theorem cd_repr (hg : X.A.guards = some []) (hu : X.A.units + 64 < cLine) : CallR X (.builtin "repr") (rC X.K fRepr) := by
  intro pins s σ H xs us Q I r h
  obtain ⟨ρ, st, ds, d, rd, rs, e, q⟩ := h
  unfold fRepr at e
  split at e
  · rename_i a
    cases e1 : toPy st 60 a with
    | none => rw [e1] at e; cases e
    | some p =>
      rw [e1] at e
      simp only at e
      split at e
      · rename_i hz
        simp only [Bool.and_eq_true, Bool.not_eq_true', decide_eq_true_eq] at hz
        obtain ⟨⟨⟨z1, z2⟩, z3⟩, z4⟩ := hz
        cases e
        obtain ⟨v, rfl, r1⟩ := reps1 rd
        obtain ⟨u, rfl, r2⟩ := vals1 r
        have D1 := toPy_ok rs _ _ _ _ r1 e1
        have fin : ∀ h' t tk, (∀ b o, s.heap.get? b = some o → h'.get? b = some o) → EP X pins σ Q (.str p.shown t) { s with heap := h', toks := tk } := fun h' t tk hk => ⟨.str p.shown, H, I.kept hk, ⟨t, rfl⟩, q _ H Ext.refl rfl rs⟩
        cases D1 with
        | non => cases r2; exact PySem.P.repr_of_none (fin _ _ _ fun _ _ h => h)
        | bl b => cases r2; exact PySem.P.repr_of_bool (fin _ _ _ fun _ _ h => h)
        | int i => obtain ⟨t, rfl⟩ := r2; exact PySem.P.repr_of_int (of_decide_eq_true z1) (fin _ _ _ fun _ _ h => h)
        | str y => obtain ⟨t, rfl⟩ := r2; exact PySem.P.repr_of_str (fin _ _ _ fun _ _ h => h) z3
        | lst q1 q2 =>
          cases r2
          obtain ⟨as, hr⟩ := Dp.reads I _ _ _ (Dp.lst q1 q2) (show RelV (.ref _) (.ref _) from rfl)
          exact repr_of_reads' hr z1 (PyData.noDict_hsm z2) hg (by omega) (fun _ _ h => h) fin z3
        | tup q1 q2 =>
          cases r2
          obtain ⟨as, hr⟩ := Dp.reads I _ _ _ (Dp.tup q1 q2) (show RelV (.ref _) (.ref _) from rfl)
          exact repr_of_reads' hr z1 (PyData.noDict_hsm z2) hg (by omega) (fun _ _ h => h) fin z3
      · cases e
  · cases e

/-! ### what makes a list -/
def rCM (K : PySem.W.Frag) (g : List D → M D) : List V → Hp → VK → Prop := fun vs H Q => ∃ ρ s ds d s', Reps K ρ H ds vs ∧ RepS K ρ H s ∧ g ds s = .ok d s' ∧ ∀ v ρ' H', Ext ρ H ρ' H' → Rep K ρ' H' d v → RepS K ρ' H' s' → Q v H'
def mCM (g : List D → M D) (ma : Lo → M (List D)) : Lo → M D := fun lo s => (ma lo s).bind fun ds s1 => noX (g ds s1)
theorem okR.noX {K : PySem.W.Frag} {σ : L2.St} {ρ : Rg} {H : Hp} {Q : V → Hp → Prop} {r : R D} (h : okR K c W σ ρ H (rD K) Q (noX r)) : ∃ d s', r = .ok d s' ∧ ∀ v ρ' H', Ext ρ H ρ' H' → Rep K ρ' H' d v → RepS K ρ' H' s' → Q v H' := by
  cases r with
  | ok d s' => exact ⟨d, s', rfl, h⟩
  | exc x s' => exact h.elim
  | bad => exact h.elim
theorem callM_run {g : List D → M D} {ma : Lo → M (List D)} {σ : L2.St} {H : Hp} {Q : VK} (h : tM X.K c W (mCM g ma) σ H Q) : tCB (rCM X.K g) (tMA X.K c W ma) σ H Q := by
  obtain ⟨ρ, lo, s, hl, hs, h⟩ := h
  refine ⟨ρ, lo, s, hl, hs, (okR.bind h).imp fun x H1 q => ?_⟩
  obtain ⟨ρ1, s1, a, e1, rs1, ra, h1⟩ := q
  obtain ⟨d, s', e, q⟩ := h1.noX
  exact ⟨ρ1, s1, a, d, s', ra, rs1, e, q⟩
theorem pd_callTM {x : Str} {p : Pos} {e : Expr} {es : List Expr} {T : String} {g : List D → M D} {ma : Lo → M (List D)} (hc : CallR X (.type T) (rCM X.K g)) (ha : PA X (e :: es) (tMA X.K c W ma)) (hm : X.mg x = none) (hg : Gl X x := by rfl) (hv : bootBuiltins x = some (.type T) := by decide +kernel) (hn : x ≠ "__name__" := by decide)
    (hdb : (x == ("__debug__" : Str)) = false := by decide) (he : starEach (e :: es) X.env = (false, eval e X.env) :: starEach es X.env := by rfl) (hpl : (backTo pos (starEach es X.env)).any (·.1) = false := by rfl) : PE X (.Call (.Name x p) (e :: es) [] pos) (tM X.K c W (mCM g ma)) :=
  PE_imp (pe_callTy hc hg hm hv ha hn hdb he hpl) fun _ _ _ h => callM_run h
/-- a new list at p -/
theorem fin_new {fr : Bool} {ys : List D} {vs : List V} {ρ : Rg} {H : Hp} {s s' : Sto} {d : D} {Q : VK} (rs : RepS X.K ρ H s) (rv : Reps X.K ρ H ys vs) (e : finD fr ys s = .ok d s') (q : ∀ v ρ' H', Ext ρ H ρ' H' → Rep X.K ρ' H' d v → RepS X.K ρ' H' s' → Q v H') {p : Addr} (hp : H p = none) : Q (.ref p) (upd H p (.lst vs)) := by
  cases fr with
  | true =>
    cases e
    exact q _ ρ _ (Ext.alloc hp) ⟨p, vs, rfl, At.of upd_same, rs.fresh hp, Reps.ext (Ext.alloc hp) rv⟩ (rs.alloc hp)
  | false =>
    cases e
    exact q _ _ _ (Ext.allocL hp) ⟨p, rfl, by show (ρ.l ++ [p])[s.length]? = some p; rw [rs.len]; simp⟩ (rs.allocL hp rv)
def gList (fr : Bool) : List D → M D := fun ds s => match ds with
  | [.str x] => if x.length ≤ sizeLine then finD fr (x.cps.toList.map fun k => .str ⟨#[k]⟩) s else .bad
  | [d] => match seqOf d s with
    | some xs => finD fr xs s
    | none => .bad
  | _ => .bad
theorem cd_list (fr : Bool) (hc : X.calm = true) : CallR X (.type "list") (rCM X.K (gList fr)) := by
  intro pins s σ H xs us Q I r h
  obtain ⟨ρ, st, ds, d, st', rd, rs, e, q⟩ := h
  unfold gList at e
  split at e
  · rename_i x
    split at e
    · rename_i hz
      obtain ⟨v, rfl, r1⟩ := reps1 rd
      cases r1
      obtain ⟨u, rfl, t, rfl⟩ := vals1 r
      refine PySem.call_list_str (I.ok.hd hc) x t (fun h' tk acc' c' hk hS' hacc => ?_) hz
      have rv : Vals (x.cps.toList.map fun k => V.str ⟨#[k]⟩) acc'.toList := by
        have go : ∀ (l : List Nat) (us : List Value), us.length = l.length → (∀ (j : Nat) v, us[j]? = some v → ∃ k u, l[j]? = some k ∧ v = .str ⟨#[k]⟩ u) → Vals (l.map fun k => V.str ⟨#[k]⟩) us := by
          intro l
          induction l with
          | nil => intro us hl _; rw [List.length_eq_zero_iff.mp hl]; exact .nil
          | cons k l ih =>
            intro us hl hj
            cases us with
            | nil => simp at hl
            | cons v us =>
              obtain ⟨k', u, h1, h2⟩ := hj 0 v rfl
              cases h1
              exact .cons ⟨u, h2⟩ (ih us (by simpa using hl) fun j v hv => hj (j + 1) v hv)
        refine go _ _ (by rw [Array.length_toList, Array.length_toList]; exact hacc.1) fun j v hv => ?_
        obtain ⟨k, u, h1, h2⟩ := hacc.2 j v (by simpa using hv)
        exact ⟨k, u, by simpa using h1, h2⟩
      have hp : H s.heap.objs.size = none := I.hok.fresh (Nat.le_refl _)
      refine ⟨.ref s.heap.objs.size, _, I.laid (t' := tk) hk (Nat.le_refl _) (show ObjOk X.prog X.w _ h' _ (.lst (x.cps.toList.map fun k => V.str ⟨#[k]⟩)) from ⟨by rw [List.length_map, Array.length_toList]; exact hz, acc'.toList, c', rv, by rw [Array.toArray_toList]; exact hS'⟩), rfl, ?_⟩
      refine fin_new rs ?_ e q hp
      have go : ∀ l : List Nat, Reps X.K ρ H (l.map fun k => D.str ⟨#[k]⟩) (l.map fun k => V.str ⟨#[k]⟩) := by
        intro l
        induction l with
        | nil => rfl
        | cons k l ih => exact ⟨_, _, rfl, rfl, ih⟩
      exact go _
    · cases e
  · rename_i a _
    cases e1 : seqOf a st with
    | none => rw [e1] at e; cases e
    | some ys =>
      rw [e1] at e
      obtain ⟨v, rfl, r1⟩ := reps1 rd
      obtain ⟨p, vs, rfl, q1, q2⟩ := seqOf_ok rs r1 e1
      exact call_list_of pins s σ H _ us Q I r ⟨p, vs, rfl, q1, fun l hl => fin_new rs q2 e q hl⟩
  · cases e
def fTuple : Fn1 := fun ds s => match ds with
  | [.tup xs] => some (.tup xs)
  | [d] => (listOf d s).map .tup
  | _ => none
theorem cd_tuple : CallR X (.type "tuple") (rC X.K fTuple) := by
  intro pins s σ H xs us Q I r h
  obtain ⟨ρ, st, ds, d, rd, rs, e, q⟩ := h
  unfold fTuple at e
  split at e
  · rename_i ys
    cases e
    obtain ⟨v, rfl, r1⟩ := reps1 rd
    obtain ⟨p, vs, rfl, q1, q2⟩ := Rep.sqT r1
    exact call_tuple_of pins s σ H _ us Q I r ⟨p, vs, rfl, .inr ⟨q1, q _ H Ext.refl r1 rs⟩⟩
  · obtain ⟨ys, e1, rfl⟩ := Option.map_eq_some_iff.mp e
    obtain ⟨v, rfl, r1⟩ := reps1 rd
    obtain ⟨p, vs, rfl, q1, q2⟩ := listOf_ok rs r1 e1
    exact call_tuple_of pins s σ H _ us Q I r ⟨p, vs, rfl, .inl ⟨q1, fun l hl => q _ _ (Ext.alloc hl) ⟨l, _, rfl, .inl ⟨At.of upd_same, rs.fresh hl⟩, Reps.ext (Ext.alloc hl) q2⟩ (rs.alloc hl)⟩⟩
  · cases e
end
end DL
set_option Elab.async false
set_option linter.all false
set_option maxRecDepth 100000
set_option maxHeartbeats 4000000
/-! DLi: slices, join, stores by place, methods of lists. -/
namespace DL
open PySem L2
section
variable {X : Cx} {c : ClsM} {W : WX} {pos : Pos}
/-! ### slices -/
def rO : RepT (Option Int) (Option Int) := fun _ _ a b => a = b
abbrev tMO (K : PySem.W.Frag) (c : ClsM) (W : WX) (m : Lo → M (Option Int)) : TO := tG K c W rO m
def asI : D → M (Option Int)
  | .int i => ret (some i)
  | _ => fun _ => .bad
def mPart (m : Lo → M D) : Lo → M (Option Int) := fun lo s => (m lo s).bind asI
theorem pdo_none : PO X none (tMO X.K c W fun _ => ret none) := ⟨fun pins s σ H Q I h => by
  obtain ⟨ρ, lo, st, h1, h2, h⟩ := h
  exact po_none.run pins s σ H Q I (h none ρ H Ext.refl rfl h2)⟩
theorem pdo_some {e : Expr} {m : Lo → M D} (he : PE X e (tM X.K c W m)) : PO X (some e) (tMO X.K c W (mPart m)) := ⟨fun pins s σ H Q I h => by
  obtain ⟨ρ, lo, st, h1, h2, h⟩ := h
  refine (po_some he).run pins s σ H Q I ⟨ρ, lo, st, h1, h2, (okR.bind h).imp fun x H1 q => ?_⟩
  obtain ⟨ρ1, s1, a, e1, rs1, ra, h3⟩ := q
  cases a <;> try exact h3.elim
  rename_i i
  exact ⟨i, ra, h3 (some i) ρ1 H1 Ext.refl rfl rs1⟩⟩
def cutD {α : Type} (xs : List α) (lo hi : Option Int) : List α := (xs.drop (HT.sIx xs.length 0 lo)).take (HT.sIx xs.length xs.length hi - HT.sIx xs.length 0 lo)
def fCut (d : D) (lo hi : Option Int) (s : Sto) : Option D := match d with
  | .str x => if x.length ≤ sizeLine then some (.str (cutS x lo hi)) else none
  | .tup xs => some (.tup (cutD xs lo hi))
  | d => (listOf d s).map fun xs => .lst (cutD xs lo hi)
def mCut (m : Lo → M D) (ml mh : Lo → M (Option Int)) : Lo → M D := fun lo s => (m lo s).bind fun d s1 => (ml lo s1).bind fun l s2 => (mh lo s2).bind fun h s3 => liftP (fCut d l h) s3
theorem cut_reps {K : PySem.W.Frag} {ρ : Rg} {H : Hp} {xs : List D} {vs : List V} (h : Reps K ρ H xs vs) (lo hi : Option Int) : Reps K ρ H (cutD xs lo hi) (cutV vs lo hi) := by
  unfold cutD cutV
  rw [h.length]
  exact (h.drop _).take _
theorem cut_whole {xs : List D} {lo hi : Option Int} (h : HT.sIx xs.length 0 lo = 0 ∧ HT.sIx xs.length xs.length hi = xs.length) : cutD xs lo hi = xs := by
  unfold cutD
  rw [h.1, h.2, List.drop_zero, Nat.sub_zero, List.take_length]
theorem pd_slice {e : Expr} {lo hi : Option Expr} {p2 : Pos} {m : Lo → M D} {ml mh : Lo → M (Option Int)} (he : PE X e (tM X.K c W m)) (hl : PO X lo (tMO X.K c W ml)) (hh : PO X hi (tMO X.K c W mh)) : PE X (.Subscript e (.Slice lo hi none p2) pos) (tM X.K c W (mCut m ml mh)) := by
  refine PE_imp (pe_slice (SlR.or sl_str (SlR.or sl_tupA sl_list)) he hl hh) fun σ H Q h => ?_
  obtain ⟨ρ, lo, s, hl, hs, h⟩ := h
  refine ⟨ρ, lo, s, hl, hs, (okR.bind h).imp fun x H1 q => ?_⟩
  obtain ⟨ρ1, s1, d, e1, rs1, rd, h1⟩ := q
  refine ⟨ρ1, lo, s1, hl.ext e1, rs1, (okR.bind h1).imp fun l H2 q => ?_⟩
  obtain ⟨ρ2, s2, l', e2, rs2, rl, h2⟩ := q
  refine ⟨ρ2, lo, s2, (hl.ext e1).ext e2, rs2, (okR.bind h2).imp fun u H3 q => ?_⟩
  obtain ⟨ρ3, s3, u', e3, rs3, ru, h3⟩ := q
  obtain rfl : l' = l := rl
  obtain rfl : u' = u := ru
  obtain ⟨r, er, q⟩ := h3.lift
  have rd3 := Rep.ext e3 (Rep.ext e2 rd)
  have lists : (listOf d s3).map (fun xs => D.lst (cutD xs l' u')) = some r → rSlL X.K x l' u' H3 Q := by
    intro er
    obtain ⟨xs, ex, rfl⟩ := Option.map_eq_some_iff.mp er
    obtain ⟨a, vs, rfl, q1, q2⟩ := listOf_ok rs3 rd3 ex
    exact ⟨a, vs, rfl, q1, fun p hp => q _ _ _ (Ext.alloc hp) ⟨p, _, rfl, At.of upd_same, rs3.fresh hp, Reps.ext (Ext.alloc hp) (cut_reps q2 l' u')⟩ (rs3.alloc hp)⟩
  cases d with
  | str z =>
    simp only [fCut] at er
    split at er
    · rename_i hz
      cases er; cases rd3
      exact .inl ⟨z, rfl, hz, q _ ρ3 H3 Ext.refl rfl rs3⟩
    · cases er
  | tup xs =>
    cases er
    obtain ⟨a, vs, rfl, q1, q2⟩ := Rep.sqT rd3
    refine .inr (.inl ⟨a, vs, rfl, q1, fun hw => ?_, fun hw p hp => ?_⟩)
    · rw [← q2.length] at hw
      rw [cut_whole hw] at q
      exact q _ ρ3 H3 Ext.refl rd3 rs3
    · exact q _ ρ3 _ (Ext.alloc hp) ⟨p, _, rfl, .inl ⟨At.of upd_same, rs3.fresh hp⟩, Reps.ext (Ext.alloc hp) (cut_reps q2 l' u')⟩ (rs3.alloc hp)
  | _ => exact .inr (.inr (lists er))

/-! ### join -/
def strsOf : List D → Option (List Str)
  | [] => some []
  | .str b :: r => (strsOf r).map (b :: ·)
  | _ => none
theorem strs_vs {K : PySem.W.Frag} {ρ : Rg} {H : Hp} : ∀ {ds : List D} {vs : List V} {bs : List Str}, Reps K ρ H ds vs → strsOf ds = some bs → vs = bs.map V.str
  | [], _, _, h, e => by cases h; cases e; rfl
  | d :: ds, _, _, h, e => by
    obtain ⟨v, r, rfl, h1, h2⟩ := h
    cases d <;> simp only [strsOf] at e <;> try (cases e; done)
    obtain ⟨bs, e1, rfl⟩ := Option.map_eq_some_iff.mp e
    cases h1
    rw [strs_vs h2 e1]; rfl
def fJoin (a d : D) (s : Sto) : Option D := match a, (seqOf d s).bind strsOf with
  | .str x, some ys => if (ys.map (·.length)).sum + ys.length * x.length ≤ 16777216 then some (.str (Txt.join x ys)) else none
  | _, _ => none
def isStr : D → Bool
  | .str _ => true
  | _ => false
def mJoin (mo ma : Lo → M D) : Lo → M D := fun lo s => (mo lo s).bind fun a s1 => if isStr a = true then (ma lo s1).bind fun d s2 => liftP (fJoin a d) s2 else .bad
theorem isStr_ok {K : PySem.W.Frag} {ρ : Rg} {H : Hp} {d : D} {v : V} (rd : Rep K ρ H d v) (h : isStr d = true) : ∃ x, d = .str x ∧ v = .str x := by
  cases d <;> try (cases h; done)
  exact ⟨_, rfl, rd⟩
theorem pd_join {o e : Expr} {apos : Pos} {mo ma : Lo → M D} (ho : PE X o (tM X.K c W mo)) (he : PE X e (tM X.K c W ma)) (hs : starEach [e] X.env = [(false, eval e X.env)] := by rfl) (hbase : attributeBase o "join" X.env (eval o X.env) = eval o X.env := by rfl) (hline : (apos.endLine == pos.line) = true := by rfl) :
    PE X (.Call (.Attribute o "join" apos) [e] [] pos) (tM X.K c W (mJoin mo ma)) := by
  refine PE_imp (pe_join ho he hs hbase hline) fun σ H Q h => ?_
  obtain ⟨ρ, lo, s, hl, hs, h⟩ := h
  refine ⟨ρ, lo, s, hl, hs, (okR.bind h).imp fun x H1 q => ?_⟩
  obtain ⟨ρ1, s1, a, e1, rs1, ra, h1⟩ := q
  split at h1
  · rename_i hi
    obtain ⟨z, rfl, rfl⟩ := isStr_ok ra hi
    refine ⟨⟨z, rfl⟩, ρ1, lo, s1, hl.ext e1, rs1, (okR.bind h1).imp fun y H2 q => ?_⟩
    obtain ⟨ρ2, s2, b, e2, rs2, rb, h2⟩ := q
    obtain ⟨r, er, q⟩ := h2.lift
    simp only [fJoin] at er
    cases e3 : (seqOf b s2).bind strsOf with
    | none => rw [e3] at er; cases er
    | some ys =>
      rw [e3] at er
      simp only at er
      split at er
      · rename_i hz
        cases er
        obtain ⟨ds, e4, e5⟩ := Option.bind_eq_some_iff.mp e3
        obtain ⟨p, vs, rfl, q1, q2⟩ := seqOf_ok rs2 rb e4
        rw [strs_vs q2 e5] at q1
        exact ⟨z, p, ys, rfl, rfl, q1, hz, q _ ρ2 H2 Ext.refl rfl rs2⟩
      · cases er
  · exact h1.elim

/-! ### stores -/
def storeD (o i v : D) (s : Sto) : Option Sto := match o, i with
  | .loc n, .int k => match s[n]? with
    | some (.lst xs) => (ixN xs.length k).map fun j => s.set n (.lst (xs.set j v))
    | _ => none
  | _, _ => none
def mStore (mo mi me : Lo → M D) : Lo → Sto → SR := fun lo s => bindS (me lo s) lo fun v s1 => bindS (mo lo s1) lo fun o s2 => bindS (mi lo s2) lo fun i s3 => match storeD o i v s3 with
  | some s4 => .nx lo s4
  | none => .bad
theorem pd_store {o i e : Expr} {p2 : Pos} {mo mi me : Lo → M D} (ho : PE X o (tM X.K c W mo)) (hi : PE X i (tM X.K c W mi)) (he : PE X e (tM X.K c W me)) (hg : PG X (.Subscript o i p2) (gSub (tM X.K c W mo) (tM X.K c W mi) rSetL))
    (hs : swapsWithSole [.Subscript o i p2] e pos.line X.env = pure false := by rfl) (hw : swappedStores [.Subscript o i p2] e X.env = pure none := by rfl) (h1 : (assignEach [.Subscript o i p2] X.env).map (·.2) = [assign (.Subscript o i p2) X.env] := by rfl) :
    PS X (.Assign [.Subscript o i p2] e pos) (tMS X.K c W (mStore mo mi me)) := by
  refine PS_imp (ps_asg he hg hs hw h1) fun E σ H h => ?_
  obtain ⟨ρ, lo, s, hl, hs, h⟩ := h
  refine ⟨ρ, lo, s, hl, hs, (okS.bind hl h).imp fun x H1 q => ?_⟩
  obtain ⟨ρ1, s1, v, e1, rs1, rv, h1⟩ := q
  have hl1 := hl.ext e1
  refine ⟨ρ1, lo, s1, hl1, rs1, (okS.bind hl1 h1).imp fun y H2 q => ?_⟩
  obtain ⟨ρ2, s2, ov, e2, rs2, ro, h2⟩ := q
  have hl2 := hl1.ext e2
  refine ⟨ρ2, lo, s2, hl2, rs2, (okS.bind hl2 h2).imp fun z H3 q => ?_⟩
  obtain ⟨ρ3, s3, iv, e3, rs3, ri, h3⟩ := q
  have hl3 := hl2.ext e3
  cases est : storeD ov iv v s3 with
  | none => rw [est] at h3; exact h3.elim
  | some s4 =>
    rw [est] at h3
    cases ov <;> cases iv <;> simp only [storeD] at est <;> try (cases est; done)
    rename_i n k
    cases eo : s3[n]? with
    | none => rw [eo] at est; cases est
    | some ob =>
      rw [eo] at est
      cases ob with
      | dct ks ys => cases est
      | lst ys =>
        obtain ⟨j, ej, rfl⟩ := Option.map_eq_some_iff.mp est
        obtain ⟨a, rfl, ha⟩ := Rep.ext e3 ro
        cases ri
        obtain ⟨vs, q1, q2⟩ := (rs3.obj n a _ ha eo : RepO X.K ρ3 H3 a (.lst ys))
        refine ⟨a, vs, k, j, rfl, rfl, q1, by rw [← q2.length]; exact ej, ?_⟩
        have e4 : Ext ρ3 H3 ρ3 (upd H3 a (.lst (vs.set j x))) := Ext.write ha
        exact h3 σ ρ3 _ e4 (hl3.ext e4) (rs3.write ha (q2.set j (Rep.ext e3 (Rep.ext e2 rv))))

/-! ### methods of lists -/
def isLst (d : D) (s : Sto) : Bool := (listOf d s).isSome
def mMeth (g : D → List D → M D) (mo : Lo → M D) (ma : Lo → M (List D)) : Lo → M D := fun lo s => (mo lo s).bind fun d s1 => if isLst d s1 = true then (ma lo s1).bind fun ds s2 => noX (g d ds s2) else .bad
def rMt (K : PySem.W.Frag) (g : D → List D → M D) : V → List V → Hp → VK → Prop := fun x vs H Q => ∃ ρ s a ds d s', Rep K ρ H a x ∧ Reps K ρ H ds vs ∧ RepS K ρ H s ∧ g a ds s = .ok d s' ∧
  ∀ v ρ' H', Ext ρ H ρ' H' → Rep K ρ' H' d v → RepS K ρ' H' s' → Q v H'
theorem MtR_imp {id : String} {r r' : V → List V → Hp → VK → Prop} (h : MtR X id r) (q : ∀ x xs H Q, r' x xs H Q → r x xs H Q) : MtR X id r' := fun pins s σ H x xs v us Q I rx rs hw => h pins s σ H x xs v us Q I rx rs (q x xs H Q hw)
theorem pd_meth {o e : Expr} {es : List Expr} {name : Str} {apos : Pos} {id : String} {g : D → List D → M D} {mo : Lo → M D} {ma : Lo → M (List D)} (hm : MtR X id (rMt X.K g)) (ho : PE X o (tM X.K c W mo)) (ha : PA X (e :: es) (tMA X.K c W ma)) (slot : Slot "list" name id) (hty : typeOf (.builtin id) = pure (.type "method_descriptor"))
    (hbase : attributeBase o name X.env (eval o X.env) = eval o X.env := by rfl)
    (hfew : ((backTo pos (starEach (e :: es) X.env)).all (fun x => !x.1) && (backToKw pos (keywordEach [] X.env)).all (fun x => x.1.isSome)
      && decide ((e :: es).length + ([] : List Keyword).length + (if ([] : List Keyword).isEmpty then 0 else 1) < 30)) = true := by rfl)
    (hline : (apos.endLine == pos.line) = true := by rfl) (hs : starEach (e :: es) X.env = (false, eval e X.env) :: starEach es X.env := by rfl) (hplain : (backTo pos (starEach es X.env)).any (·.1) = false := by rfl) :
    PE X (.Call (.Attribute o name apos) (e :: es) [] pos) (tM X.K c W (mMeth g mo ma)) := by
  refine PE_imp (pe_bm F.plainAttrs_list slot hty hm ho ha hbase hfew hline hs hplain) fun σ H Q h => ?_
  obtain ⟨ρ, lo, s, hl, hs, h⟩ := h
  refine ⟨ρ, lo, s, hl, hs, (okR.bind h).imp fun x H1 q => ?_⟩
  obtain ⟨ρ1, s1, a, e1, rs1, ra, h1⟩ := q
  split at h1
  · rename_i hi
    obtain ⟨ys, ey⟩ := Option.isSome_iff_exists.mp hi
    obtain ⟨p, vs, hx, q1, q2⟩ := listOf_ok rs1 ra ey
    refine ⟨by rw [hx]; exact .inl ⟨rfl, vs, q1⟩, ρ1, lo, s1, hl.ext e1, rs1, (okR.bind h1).imp fun us H2 q => ?_⟩
    obtain ⟨ρ2, s2, ds, e2, rs2, rd, h2⟩ := q
    obtain ⟨d, s', ed, q⟩ := h2.noX
    exact ⟨ρ2, s2, a, ds, d, s', Rep.ext e2 ra, rd, rs2, ed, q⟩
  · exact h1.elim
def gAppend : D → List D → M D := fun d ds s => match d, ds with
  | .loc n, [x] => match s[n]? with
    | some (.lst xs) => if xs.length < sizeLine then .ok .non (s.set n (.lst (xs ++ [x]))) else .bad
    | _ => .bad
  | _, _ => .bad
theorem md_append : MtR X "list.append" (rMt X.K gAppend) := by
  refine MtR_imp mt_append fun x xs H Q h => ?_
  obtain ⟨ρ, s, a, ds, d, s', ra, rds, rs, e, q⟩ := h
  unfold gAppend at e
  split at e
  · rename_i n y
    cases eo : s[n]? with
    | none => rw [eo] at e; cases e
    | some ob =>
      rw [eo] at e
      cases ob with
      | dct ks ys => cases e
      | lst ys =>
        simp only at e
        split at e
        · rename_i hz
          cases e
          obtain ⟨p, rfl, ha⟩ := ra
          obtain ⟨v, rfl, rv⟩ := reps1 rds
          obtain ⟨vs, q1, q2⟩ := (rs.obj n p _ ha eo : RepO X.K ρ H p (.lst ys))
          exact ⟨p, vs, v, rfl, rfl, q1, by rw [← q2.length]; exact hz, q _ ρ _ (Ext.write ha) rfl (rs.write ha (q2.append ⟨v, [], rfl, rv, rfl⟩))⟩
        · cases e
  · cases e
theorem pd_append {o e : Expr} {apos : Pos} {mo : Lo → M D} {ma : Lo → M (List D)} (ho : PE X o (tM X.K c W mo)) (ha : PA X [e] (tMA X.K c W ma))
    (hbase : attributeBase o "append" X.env (eval o X.env) = eval o X.env := by rfl)
    (hfew : ((backTo pos (starEach [e] X.env)).all (fun x => !x.1) && (backToKw pos (keywordEach [] X.env)).all (fun x => x.1.isSome)
      && decide ([e].length + ([] : List Keyword).length + (if ([] : List Keyword).isEmpty then 0 else 1) < 30)) = true := by rfl)
    (hline : (apos.endLine == pos.line) = true := by rfl) (hs : starEach [e] X.env = (false, eval e X.env) :: starEach [] X.env := by rfl) (hplain : (backTo pos (starEach [] X.env)).any (·.1) = false := by rfl) :
    PE X (.Call (.Attribute o "append" apos) [e] [] pos) (tM X.K c W (mMeth gAppend mo ma)) :=
  pd_meth md_append ho ha PySem.F.slot_list_append PySem.F.type_list_append hbase hfew hline hs hplain
end
end DL
set_option Elab.async false
set_option linter.all false
set_option maxRecDepth 100000
set_option maxHeartbeats 4000000
/-! DLj: the end of a law's row. -/
namespace DL
open PySem PySem.Spec PyProof.Rows L2
theorem reps_ints {K : PySem.W.Frag} {ρ : Rg} {H : Hp} : ∀ ns : List Int, Reps K ρ H (ns.map D.int) (ns.map V.int)
  | [] => rfl
  | n :: ns => ⟨_, _, rfl, rfl, reps_ints ns⟩
section
variable {P : Program} {w : World} {K : PySem.W.Frag} {mg mb : Str → Option Value} {c : ClsM} {k : Nat} {fa a : Addr} {fd : FuncData} {x : Str} {s₁ : Shared} {vs : List Value} {ns : List Int} {m : List D → M D} {st : Sto}
/-- from an abstract heap that knows at most the script -/
theorem end_core {H : Hp} (inK : K.In s₁.heap) (hns : s₁.heap.Ns mainGlobals mg) (hb : s₁.heap.Ns builtinsNs mb) (hbb : ∀ x : Str, x ≠ "__name__" → mb x = bootBuiltins x) (hlim : s₁.heap.NoLimit) (hg : s₁.gens = #[])
    (ha : s₁.heap.get? a = some { cls := .type "list", data := .seq vs.toArray }) (hr : Room k callerA)
    (F : ∀ base : Heap, K.In base → base.Ns mainGlobals mg → FnG P w K mg base k fa fd [x] (spM K c 1 m)) (hbind : ∀ (s : Shared) (u : Value), BindsTo s fd ⟨[u], []⟩ [(x, u)])
    (hm : m [.scr (ns.map D.int)] [] = .ok (.bl true) st) (hrep : Rep K ⟨[], []⟩ H (.scr (ns.map D.int)) (.ref a)) (hok : HOk P w H s₁.heap) (only : ∀ b u, H b = some u → b = a ∧ ∃ o xs, u = .frz o (.lst xs)) (apart : H a ≠ none → K.lookup a = none) :
    codeAny (model P w) callerA (.call (.ref fa) ⟨[.ref a], []⟩) (fun r s' => r = .ok (.ret (.bool true)) ∧ OldK s₁.heap s'.heap ∧ s'.os = s₁.os ∧ AllBare s'.gens) s₁ := by
  let B := hidT s₁.heap H
  have unseen : ∀ {b : Addr} {o : Obj}, s₁.heap.get? b = some o → (b = a → H a = none) → B.get? b = some o := by
    intro b o e hn
    apply hidT_get e
    cases q : H b with
    | none => rfl
    | some u =>
      have hba := (only b u q).1
      have := hn hba
      rw [← hba, q] at this
      cases this
  have dictB : ∀ {b : Addr} {f : Str → Option Value}, s₁.heap.Ns b f → B.Ns b f := by
    rintro b f ⟨o, es, ep, e, d, r⟩
    refine ⟨o, es, ep, unseen e fun hba => ?_, d, r⟩
    subst hba
    rw [ha] at e
    cases e
    cases d
  have inB : K.In B := by
    intro b o e
    apply unseen (inK b o e)
    intro hba
    subst hba
    cases q : H b with
    | none => rfl
    | some u =>
      have := apart (by rw [q]; exact fun z => nomatch z)
      rw [this] at e
      cases e
  have md : Mod K mg B := ⟨inB, dictB hns, ⟨mb, dictB hb, hbb⟩, hlim.elim fun mc h => ⟨mc, dictB h.1, h.2⟩⟩
  have env : Env0 P w K mg B callerA [] s₁ H := by
    constructor
    · rfl
    · exact md
    · exact fun b o e => of_hidT e
    · exact Nat.le_of_eq (hidT_size _ _)
    · trivial
    · exact fun b hb => nomatch (show b ∈ ([] : List Addr) from hb)
    · exact hok
    · exact AllBare.of_eq hg
  have promise : spM K c 1 m [.ref a] H (fun v _ => v = .bl true) (fun _ _ _ => False) := by
    refine ⟨rfl, ⟨[], []⟩, [.scr (ns.map D.int)], [], ⟨_, _, rfl, hrep, rfl⟩, RepS.nil, ?_⟩
    rw [hm]
    exact fun v ρ' H' _ rv _ => rv
  apply codeAny_mono ((F B inB (dictB hns)).run (us := [.ref a]) (vs := [.ref a]) hr rfl env (hbind s₁ (.ref a)) (.cons rfl .nil) promise)
  intro r s' h
  cases r with
  | error e => let ⟨_, _, _, _, _, _, _, _, _, _, _, _, z⟩ := h; exact z.elim
  | ok fl =>
    cases fl <;> try exact False.elim h
    rename_i u
    obtain ⟨v, H', os, bare, un, hok', rv, hv⟩ := h
    have hv : v = .bl true := hv
    subst hv
    have hu : u = Value.bool true := rv
    subst hu
    refine ⟨rfl, OldK.of_keep fun b o e => ?_, os, bare⟩
    cases q : H b with
    | none => exact un.keep b o e q (fun z => nomatch (show b ∈ ([] : List Addr) from z)) (by simp)
    | some t =>
      obtain ⟨_, ob, xs, rfl⟩ := only b t q
      have e1 : s₁.heap.get? b = some ob := (hok b _ q).1
      have e2 : s'.heap.get? b = some ob := (hok' b _ (un.frzs b ob _ q)).1
      rw [e2, ← e1, e]
theorem end_call (inK : K.In s₁.heap) (hns : s₁.heap.Ns mainGlobals mg) (hb : s₁.heap.Ns builtinsNs mb) (hbb : ∀ x : Str, x ≠ "__name__" → mb x = bootBuiltins x) (hlim : s₁.heap.NoLimit) (hg : s₁.gens = #[])
    (ha : s₁.heap.get? a = some { cls := .type "list", data := .seq vs.toArray }) (hi : IntsAre vs ns) (hl : ns.length ≤ sizeLine) (hr : Room k callerA)
    (F : ∀ base : Heap, K.In base → base.Ns mainGlobals mg → FnG P w K mg base k fa fd [x] (spM K c 1 m)) (hbind : ∀ (s : Shared) (u : Value), BindsTo s fd ⟨[u], []⟩ [(x, u)])
    (hm : ∃ st, m [.scr (ns.map D.int)] [] = .ok (.bl true) st) :
    codeAny (model P w) callerA (.call (.ref fa) ⟨[.ref a], []⟩) (fun r s' => r = .ok (.ret (.bool true)) ∧ OldK s₁.heap s'.heap ∧ s'.os = s₁.os ∧ AllBare s'.gens) s₁ := by
  obtain ⟨st, hm⟩ := hm
  have rv := vals_ints hi
  have len := hi.length
  by_cases hk : K.lookup a = none
  · let H : Hp := fun b => if b = a then some (.frz { cls := .type "list", data := .seq vs.toArray } (.lst (ns.map V.int))) else none
    have Ha : H a = some (.frz { cls := .type "list", data := .seq vs.toArray } (.lst (ns.map V.int))) := if_pos rfl
    have Hb : ∀ {b u}, H b = some u → b = a ∧ u = .frz { cls := .type "list", data := .seq vs.toArray } (.lst (ns.map V.int)) := by
      intro b u e
      by_cases hba : b = a
      · subst hba
        rw [Ha] at e
        cases e
        exact ⟨rfl, rfl⟩
      · have : H b = none := if_neg hba
        rw [this] at e
        cases e
    refine end_core (H := H) inK hns hb hbb hlim hg ha hr F hbind hm ⟨a, ns.map V.int, rfl, .inl ⟨_, ⟨_, Ha, rfl⟩, fun z => by rcases z with z | z <;> cases z⟩, reps_ints ns⟩ ?_ (fun b u e => ⟨(Hb e).1, _, _, (Hb e).2⟩) (fun _ => hk)
    intro b u e
    obtain ⟨rfl, rfl⟩ := Hb e
    exact ⟨ha, by rw [List.length_map]; exact hl, vs, _, rv, ha⟩
  · obtain ⟨o, ho⟩ := Option.ne_none_iff_exists'.mp hk
    have e := inK a o ho
    rw [ha] at e
    cases e
    refine end_core (H := fun _ => none) inK hns hb hbb hlim hg ha hr F hbind hm ⟨a, ns.map V.int, rfl, .inr ⟨_, vs.toArray, _, ho, rfl, rfl, rfl, ?_, by rw [List.toList_toArray]; exact rv⟩, reps_ints ns⟩ (fun b u e => nomatch (show (none : Option HO) = some u from e)) (fun b u e => nomatch (show (none : Option HO) = some u from e)) (fun z => absurd rfl z)
    rw [List.size_toArray]
    omega
end
/-- what k_head leaves, from the law's meaning -/
theorem end_walk {l : PySem.W.OpenLaw} {n k : Nat} {q : Program} {loose : List Str} {XP : (Str → Option Value) → Heap → Prop} {YP : World → Heap → Prop} {d : DefRec} {K : Params → PySem.W.Frag} {x : Str} {m : List D → M D} {c : World → (Str → Option Value) → ClsM}
    (hn : l.most = some n) (hn2 : n ≤ sizeLine) (hdf : d.params.defaults = []) (hr : Room k callerA) (hY : ∀ (w : World) (h : Heap), YP w h → (K w.params).In h)
    (F : ∀ (w : World) (mg : Str → Option Value) (fa : Addr) (h : Heap), (K w.params).In h → h.Ns mainGlobals mg → mg d.name = some (.ref fa) →
      ∃ fd : FuncData, (∀ (s : Shared) (u : Value), BindsTo s fd ⟨[u], []⟩ [(x, u)]) ∧ ∀ base : Heap, (K w.params).In base → base.Ns mainGlobals mg → FnG l.prog w (K w.params) mg base k fa fd [x] (spM (K w.params) (c w mg) 1 m))
    (hm : ∀ ns : List Int, ns.length ≤ n → ∃ st, m [.scr (ns.map D.int)] [] = .ok (.bl true) st) : PySem.W.WalkO q loose XP YP l.row.toRowW d [] (fun f vs => PySem.call f vs) := by
  apply Att.attach_call hn hdf
  intro w s₀ s₁ mg mb fa o pm cd doc a vs ns G Y ho hd hcd hmg hobj hi hlen hg
  have inK := hY w _ Y
  obtain ⟨fd, hb, hF⟩ := F w mg fa _ inK G.T.g hmg
  exact end_call inK G.T.g G.T.b G.T.builtins G.T.nolimit hg hobj hi (Nat.le_trans hlen hn2) hr hF hb (hm ns hlen)
end DL
set_option Elab.async false
set_option linter.all false
set_option maxRecDepth 100000
set_option maxHeartbeats 4000000
/-! DLm: what holds behind a meaning's run (plain Lean, no program in sight). -/
namespace DL
open PySem L2
/-- behind a value: Q; behind an exception: E -/
def Wr {α : Type} (r : R α) (Q : α → Sto → Prop) (E : Xn → Sto → Prop) : Prop := match r with
  | .ok a s => Q a s
  | .exc x s => E x s
  | .bad => False
abbrev NoE : Xn → Sto → Prop := fun _ _ => False
/-- behind a statement -/
structure Po where
  nx : Lo → Sto → Prop := fun _ _ => False
  rt : D → Sto → Prop := fun _ _ => False
  bk : Lo → Sto → Prop := fun _ _ => False
  ct : Lo → Sto → Prop := fun _ _ => False
  ex : Xn → Lo → Sto → Prop := fun _ _ _ => False
def Ws (r : SR) (p : Po) : Prop := match r with
  | .nx lo s => p.nx lo s
  | .rt d s => p.rt d s
  | .bk lo s => p.bk lo s
  | .ct lo s => p.ct lo s
  | .exc x lo s => p.ex x lo s
  | .bad => False
section
variable {α β : Type} {r : R α} {Q Q' : α → Sto → Prop} {E E' : Xn → Sto → Prop} {lo : Lo} {s : Sto}
theorem Wr.mono (h : Wr r Q E) (q : ∀ a s, Q a s → Q' a s) (e : ∀ a s, E a s → E' a s) : Wr r Q' E' := by
  cases r with
  | ok a s => exact q a s h
  | exc x s => exact e x s h
  | bad => exact h
theorem Wr.then (h : Wr r Q NoE) (q : ∀ a s, Q a s → Q' a s) : Wr r Q' E' := h.mono q fun _ _ z => z.elim
theorem Wr.eq (h : Wr r Q NoE) : ∃ a s, r = .ok a s ∧ Q a s := by
  cases r with
  | ok a s => exact ⟨a, s, rfl, h⟩
  | exc x s => exact h.elim
  | bad => exact h.elim
@[simp] theorem wr_ok {a : α} : Wr (.ok a s) Q E ↔ Q a s := Iff.rfl
@[simp] theorem wr_exc {x : Xn} : Wr (.exc x s : R α) Q E ↔ E x s := Iff.rfl
@[simp] theorem wr_bad : Wr (.bad : R α) Q E ↔ False := Iff.rfl
@[simp] theorem wr_ret {a : α} : Wr (ret a s) Q E ↔ Q a s := Iff.rfl
@[simp] theorem wr_bind {f : α → M β} {Q : β → Sto → Prop} : Wr (r.bind f) Q E ↔ Wr r (fun a s => Wr (f a s) Q E) E := by cases r <;> exact Iff.rfl
@[simp] theorem wr_lift {g : Sto → Option α} : Wr (liftP g s) Q E ↔ ∃ d, g s = some d ∧ Q d s := by
  unfold liftP
  cases e : g s with
  | none => exact ⟨fun z => z.elim, fun ⟨_, z, _⟩ => nomatch z⟩
  | some d => exact ⟨fun z => ⟨d, rfl, z⟩, fun ⟨_, z, q⟩ => by cases z; exact q⟩
@[simp] theorem wr_noX : Wr (noX r) Q E ↔ Wr r Q NoE := by cases r <;> exact Iff.rfl
theorem wr_ite {c : Prop} [Decidable c] {r r' : R α} : Wr (if c then r else r') Q E ↔ (c → Wr r Q E) ∧ (¬ c → Wr r' Q E) := by
  by_cases h : c <;> simp [h]
theorem getV_at {i : Nat} {d : D} (h : lo[i]? = some (some d)) : getV i lo s = .ok d s := by unfold getV; rw [h]
@[simp] theorem getV_cons (x : Option D) (n : Nat) : getV (n + 1) (x :: lo) s = getV n lo s := rfl
@[simp] theorem getV_zero (d : D) : getV 0 (some d :: lo) s = .ok d s := rfl
end
section
variable {Q : D → Sto → Prop} {E : Xn → Sto → Prop} {lo : Lo} {s : Sto} {f f' : D → D → Sto → Option D} {ma mb mc : Lo → M D} {mt mt' : Lo → M Bool} {ml : Lo → M (List D)} {QB : Bool → Sto → Prop} {QL : List D → Sto → Prop}
@[simp] theorem w_bin : Wr (mBin f ma mb lo s) Q E ↔ Wr (ma lo s) (fun x s1 => Wr (mb lo s1) (fun y s2 => ∃ d, f x y s2 = some d ∧ Q d s2) E) E := by
  unfold mBin; simp only [wr_bind, wr_lift]
@[simp] theorem w_asB {d : D} : Wr (asB d s) QB E ↔ ∃ b, d = .bl b ∧ QB b s := by
  cases d <;> simp [asB, Wr, ret]
@[simp] theorem w_B : Wr (mB ma lo s) QB E ↔ Wr (ma lo s) (fun x s1 => ∃ b, x = .bl b ∧ QB b s1) E := by
  unfold mB; simp only [wr_bind, w_asB]
@[simp] theorem w_Tru : Wr (mTru ma lo s) QB E ↔ Wr (ma lo s) (fun x s1 => ∃ b, truD x s1 = some b ∧ QB b s1) E := by
  unfold mTru; simp only [wr_bind, wr_lift]
@[simp] theorem w_AndB : Wr (mAndB mt mt' lo s) QB E ↔ Wr (mt lo s) (fun b s1 => if b = true then Wr (mt' lo s1) QB E else QB false s1) E := by
  unfold mAndB; simp only [wr_bind]
  constructor <;> intro h <;> refine h.mono (fun b s1 q => ?_) (fun _ _ z => z) <;> cases b <;> exact q
@[simp] theorem w_OrB : Wr (mOrB mt mt' lo s) QB E ↔ Wr (mt lo s) (fun b s1 => if b = true then QB true s1 else Wr (mt' lo s1) QB E) E := by
  unfold mOrB; simp only [wr_bind]
  constructor <;> intro h <;> refine h.mono (fun b s1 q => ?_) (fun _ _ z => z) <;> cases b <;> exact q
@[simp] theorem w_NotB : Wr (mNotB mt lo s) QB E ↔ Wr (mt lo s) (fun b s1 => QB (!b) s1) E := by
  unfold mNotB; simp only [wr_bind, wr_ok]
@[simp] theorem w_And : Wr (mAnd ma mb lo s) Q E ↔ Wr (ma lo s) (fun x s1 => ∃ b, truD x s1 = some b ∧ if b = true then Wr (mb lo s1) Q E else Q x s1) E := by
  unfold mAnd; simp only [wr_bind]
  constructor <;> intro h <;> refine h.mono (fun x s1 q => ?_) (fun _ _ z => z)
  · cases e : truD x s1 with
    | none => rw [e] at q; exact q.elim
    | some b => rw [e] at q; cases b <;> exact ⟨_, rfl, q⟩
  · obtain ⟨b, e, q⟩ := q
    rw [e]
    cases b <;> exact q
@[simp] theorem w_Or : Wr (mOr ma mb lo s) Q E ↔ Wr (ma lo s) (fun x s1 => ∃ b, truD x s1 = some b ∧ if b = true then Q x s1 else Wr (mb lo s1) Q E) E := by
  unfold mOr; simp only [wr_bind]
  constructor <;> intro h <;> refine h.mono (fun x s1 q => ?_) (fun _ _ z => z)
  · cases e : truD x s1 with
    | none => rw [e] at q; exact q.elim
    | some b => rw [e] at q; cases b <;> exact ⟨_, rfl, q⟩
  · obtain ⟨b, e, q⟩ := q
    rw [e]
    cases b <;> exact q
@[simp] theorem w_Not : Wr (mNot ma lo s) Q E ↔ Wr (ma lo s) (fun x s1 => ∃ b, truD x s1 = some b ∧ Q (.bl (!b)) s1) E := by
  unfold mNot; simp only [wr_bind]
  constructor <;> intro h <;> refine h.mono (fun x s1 q => ?_) (fun _ _ z => z)
  · cases e : truD x s1 with
    | none => rw [e] at q; exact q.elim
    | some b => rw [e] at q; exact ⟨_, rfl, q⟩
  · obtain ⟨b, e, q⟩ := q
    rw [e]
    exact q
@[simp] theorem w_IfE : Wr (mIfE mt ma mb lo s) Q E ↔ Wr (mt lo s) (fun b s1 => if b = true then Wr (ma lo s1) Q E else Wr (mb lo s1) Q E) E := by
  unfold mIfE; simp only [wr_bind]
  constructor <;> intro h <;> refine h.mono (fun b s1 q => ?_) (fun _ _ z => z) <;> cases b <;> exact q
@[simp] theorem w_Chain : Wr (mChain f f' ma mb mc lo s) Q E ↔ Wr (ma lo s) (fun x s1 => Wr (mb lo s1) (fun y s2 => ∃ b, f x y s2 = some (.bl b) ∧ if b = true then Wr (mc lo s2) (fun z s3 => ∃ d, f' y z s3 = some d ∧ Q d s3) E else Q (.bl false) s2) E) E := by
  unfold mChain; simp only [wr_bind]
  constructor <;> intro h <;> refine h.mono (fun x s1 h => h.mono (fun y s2 q => ?_) (fun _ _ z => z)) (fun _ _ z => z)
  · cases e : f x y s2 with
    | none => rw [e] at q; exact q.elim
    | some d =>
      rw [e] at q
      cases d <;> try exact q.elim
      rename_i b
      cases b
      · exact ⟨false, rfl, q⟩
      · exact ⟨true, rfl, by simpa using q⟩
  · obtain ⟨b, e, q⟩ := q
    rw [e]
    cases b
    · exact q
    · simpa using q
@[simp] theorem w_Nil : Wr (mNil lo s) QL E ↔ QL [] s := Iff.rfl
@[simp] theorem w_Cons : Wr (mCons ma ml lo s) QL E ↔ Wr (ma lo s) (fun x s1 => Wr (ml lo s1) (fun xs s2 => QL (x :: xs) s2) E) E := by
  unfold mCons; simp only [wr_bind, wr_ok]
@[simp] theorem w_Tup : Wr (mTup ml lo s) Q E ↔ Wr (ml lo s) (fun xs s1 => xs.length ≤ sizeLine ∧ Q (.tup xs) s1) E := by
  unfold mTup; simp only [wr_bind]
  constructor <;> intro h <;> refine h.mono (fun x s1 q => ?_) (fun _ _ z => z)
  · split at q
    · exact ⟨by assumption, q⟩
    · exact q.elim
  · rw [if_pos q.1]; exact q.2
@[simp] theorem w_Lst : Wr (mLst ml lo s) Q E ↔ Wr (ml lo s) (fun xs s1 => xs.length ≤ sizeLine ∧ Q (.lst xs) s1) E := by
  unfold mLst; simp only [wr_bind]
  constructor <;> intro h <;> refine h.mono (fun x s1 q => ?_) (fun _ _ z => z)
  · split at q
    · exact ⟨by assumption, q⟩
    · exact q.elim
  · rw [if_pos q.1]; exact q.2
@[simp] theorem w_LstL : Wr (mLstL ml lo s) Q E ↔ Wr (ml lo s) (fun xs s1 => xs.length ≤ sizeLine ∧ Q (.loc s1.length) (s1 ++ [.lst xs])) E := by
  unfold mLstL; simp only [wr_bind]
  constructor <;> intro h <;> refine h.mono (fun x s1 q => ?_) (fun _ _ z => z)
  · split at q
    · exact ⟨by assumption, q⟩
    · exact q.elim
  · rw [if_pos q.1]; exact q.2
@[simp] theorem w_CB {g : List D → Sto → Option D} : Wr (mCB g ml lo s) Q E ↔ Wr (ml lo s) (fun xs s1 => ∃ d, g xs s1 = some d ∧ Q d s1) E := by
  unfold mCB; simp only [wr_bind, wr_lift]
@[simp] theorem w_CM {g : List D → M D} : Wr (mCM g ml lo s) Q E ↔ Wr (ml lo s) (fun xs s1 => Wr (g xs s1) Q NoE) E := by
  unfold mCM; simp only [wr_bind, wr_noX]
@[simp] theorem w_Isi {u : Ty} : Wr (mIsi u ma lo s) Q E ↔ Wr (ma lo s) (fun d s1 => ∃ t, tyD d s1 = some t ∧ Q (.bl (isTy t u)) s1) E := by
  unfold mIsi; simp only [wr_bind]
  constructor <;> intro h <;> refine h.mono (fun x s1 q => ?_) (fun _ _ z => z)
  · cases e : tyD x s1 with
    | none => rw [e] at q; exact q.elim
    | some b => rw [e] at q; exact ⟨_, rfl, q⟩
  · obtain ⟨b, e, q⟩ := q
    rw [e]
    exact q
@[simp] theorem w_Neg : Wr (mNeg ma lo s) Q E ↔ Wr (ma lo s) (fun d s1 => ∃ i, d = .int i ∧ Q (.int (-i)) s1) E := by
  unfold mNeg; simp only [wr_bind]
  constructor <;> intro h <;> refine h.mono (fun x s1 q => ?_) (fun _ _ z => z)
  · cases x <;> try exact q.elim
    exact ⟨_, rfl, q⟩
  · obtain ⟨i, rfl, q⟩ := q
    exact q
@[simp] theorem w_Call {n : Nat} {m : List D → M D} : Wr (mCall n m ml lo s) Q E ↔ Wr (ml lo s) (fun ds s1 => ds.length = n ∧ Wr (m ds s1) Q E) E := by
  unfold mCall; simp only [wr_bind]
  constructor <;> intro h <;> refine h.mono (fun x s1 q => ?_) (fun _ _ z => z)
  · split at q
    · exact ⟨by assumption, q⟩
    · exact q.elim
  · rw [if_pos q.1]; exact q.2
@[simp] theorem w_Part {QO : Option Int → Sto → Prop} : Wr (mPart ma lo s) QO E ↔ Wr (ma lo s) (fun d s1 => ∃ i, d = .int i ∧ QO (some i) s1) E := by
  unfold mPart; simp only [wr_bind]
  constructor <;> intro h <;> refine h.mono (fun x s1 q => ?_) (fun _ _ z => z)
  · cases x <;> try exact q.elim
    exact ⟨_, rfl, q⟩
  · obtain ⟨i, rfl, q⟩ := q
    exact q
@[simp] theorem w_Cut {l h : Lo → M (Option Int)} : Wr (mCut ma l h lo s) Q E ↔ Wr (ma lo s) (fun d s1 => Wr (l lo s1) (fun a s2 => Wr (h lo s2) (fun b s3 => ∃ r, fCut d a b s3 = some r ∧ Q r s3) E) E) E := by
  unfold mCut; simp only [wr_bind, wr_lift]
@[simp] theorem w_Join : Wr (mJoin ma mb lo s) Q E ↔ Wr (ma lo s) (fun a s1 => isStr a = true ∧ Wr (mb lo s1) (fun d s2 => ∃ r, fJoin a d s2 = some r ∧ Q r s2) E) E := by
  unfold mJoin; simp only [wr_bind]
  constructor <;> intro h <;> refine h.mono (fun x s1 q => ?_) (fun _ _ z => z)
  · split at q
    · exact ⟨by assumption, by simpa using q⟩
    · exact q.elim
  · rw [if_pos q.1]; simpa using q.2
@[simp] theorem w_Meth {g : D → List D → M D} : Wr (mMeth g ma ml lo s) Q E ↔ Wr (ma lo s) (fun a s1 => isLst a s1 = true ∧ Wr (ml lo s1) (fun ds s2 => Wr (g a ds s2) Q NoE) E) E := by
  unfold mMeth; simp only [wr_bind]
  constructor <;> intro h <;> refine h.mono (fun x s1 q => ?_) (fun _ _ z => z)
  · split at q
    · exact ⟨by assumption, by simpa using q⟩
    · exact q.elim
  · rw [if_pos q.1]; simpa using q.2
end

/-! ### statements -/
section
variable {p : Po} {lo : Lo} {s : Sto} {ma mb mc : Lo → M D} {mt : Lo → M Bool} {m1 m2 : Lo → Sto → SR}
theorem Ws.mono {r : SR} {p p' : Po} (h : Ws r p) (h1 : ∀ l s, p.nx l s → p'.nx l s) (h2 : ∀ l s, p.rt l s → p'.rt l s) (h3 : ∀ l s, p.bk l s → p'.bk l s) (h4 : ∀ l s, p.ct l s → p'.ct l s) (h5 : ∀ x l s, p.ex x l s → p'.ex x l s) : Ws r p' := by
  cases r with
  | nx l s => exact h1 _ _ h
  | rt l s => exact h2 _ _ h
  | bk l s => exact h3 _ _ h
  | ct l s => exact h4 _ _ h
  | exc x l s => exact h5 _ _ _ h
  | bad => exact h
@[simp] theorem ws_nx : Ws (.nx lo s) p ↔ p.nx lo s := Iff.rfl
@[simp] theorem ws_bad : Ws .bad p ↔ False := Iff.rfl
@[simp] theorem ws_rt {d : D} : Ws (.rt d s) p ↔ p.rt d s := Iff.rfl
@[simp] theorem ws_bk : Ws (.bk lo s) p ↔ p.bk lo s := Iff.rfl
@[simp] theorem ws_ct : Ws (.ct lo s) p ↔ p.ct lo s := Iff.rfl
@[simp] theorem ws_bindS {α : Type} {r : R α} {f : α → Sto → SR} : Ws (bindS r lo f) p ↔ Wr r (fun a s => Ws (f a s) p) (fun x s => p.ex x lo s) := by cases r <;> exact Iff.rfl
@[simp] theorem ws_seq : Ws (mSeq m1 m2 lo s) p ↔ Ws (m1 lo s) { p with nx := fun l s => Ws (m2 l s) p } := by
  unfold mSeq
  cases m1 lo s <;> exact Iff.rfl
@[simp] theorem ws_if : Ws (mIf mt m1 m2 lo s) p ↔ Wr (mt lo s) (fun b s1 => if b = true then Ws (m1 lo s1) p else Ws (m2 lo s1) p) (fun x s => p.ex x lo s) := by
  unfold mIf; simp only [ws_bindS]
  constructor <;> intro h <;> refine h.mono (fun b s1 q => ?_) (fun _ _ z => z) <;> cases b <;> exact q
@[simp] theorem ws_ret : Ws (mRet ma lo s) p ↔ Wr (ma lo s) p.rt (fun x s => p.ex x lo s) := by
  unfold mRet; simp only [ws_bindS, ws_rt]
@[simp] theorem ws_expr : Ws (mExpr ma lo s) p ↔ Wr (ma lo s) (fun _ s1 => p.nx lo s1) (fun x s => p.ex x lo s) := by
  unfold mExpr; simp only [ws_bindS, ws_nx]
@[simp] theorem ws_set {T : Tg} : Ws (mSet T ma lo s) p ↔ Wr (ma lo s) (fun d s1 => ∃ l, setT T d lo = some l ∧ p.nx l s1) (fun x s => p.ex x lo s) := by
  unfold mSet; simp only [ws_bindS]
  constructor <;> intro h <;> refine h.mono (fun b s1 q => ?_) (fun _ _ z => z)
  · cases e : setT T b lo with
    | none => rw [e] at q; exact q.elim
    | some l => rw [e] at q; exact ⟨l, rfl, q⟩
  · obtain ⟨l, e, q⟩ := q
    rw [e]; exact q
@[simp] theorem ws_store : Ws (mStore ma mb mc lo s) p ↔ Wr (mc lo s) (fun v s1 => Wr (ma lo s1) (fun o s2 => Wr (mb lo s2) (fun i s3 => ∃ s4, storeD o i v s3 = some s4 ∧ p.nx lo s4) (fun x s => p.ex x lo s)) (fun x s => p.ex x lo s)) (fun x s => p.ex x lo s) := by
  unfold mStore; simp only [ws_bindS]
  constructor <;> intro h <;> refine h.mono (fun v s1 h => h.mono (fun o s2 h => h.mono (fun i s3 q => ?_) (fun _ _ z => z)) (fun _ _ z => z)) (fun _ _ z => z)
  · cases e : storeD o i v s3 with
    | none => rw [e] at q; exact q.elim
    | some l => rw [e] at q; exact ⟨l, rfl, q⟩
  · obtain ⟨l, e, q⟩ := q
    rw [e]; exact q
@[simp] theorem ws_for {T : Tg} {mi : Lo → M Src} : Ws (mFor T mi m1 lo s) p ↔ Wr (mi lo s) (fun S s1 => Ws (forS T m1 S.cnd S.items lo s1) p) (fun x s => p.ex x lo s) := by
  unfold mFor; simp only [ws_bindS]
/-- a def's run -/
theorem w_callF {N n : Nat} {b : Lo → Sto → SR} {ds : List D} {Q : D → Sto → Prop} {E : Xn → Sto → Prop} : Wr (callF N n b ds s) Q E ↔ Ws (b (ds.map some ++ List.replicate (N - n) none) s) { nx := fun _ s => Q .non s, rt := Q, ex := fun x _ s => E x s } := by
  unfold callF
  cases b (ds.map some ++ List.replicate (N - n) none) s <;> exact Iff.rfl
/-- a loop by its invariant: I of what is left, the names, the store -/
theorem ws_forS {T : Tg} {cnd : Cnd} (I : List D → Lo → Sto → Prop) (step : ∀ d ds lo s, I (d :: ds) lo s → cndB cnd s = true ∧ ∃ l, setT T d lo = some l ∧ Ws (m1 l s) { p with nx := I ds, ct := I ds, bk := p.nx }) (done : ∀ lo s, I [] lo s → cndB cnd s = true ∧ p.nx lo s) :
    ∀ (ds : List D) (lo : Lo) (s : Sto), I ds lo s → Ws (forS T m1 cnd ds lo s) p
  | [], lo, s, h => by
    unfold forS
    rw [if_pos (done lo s h).1]
    exact (done lo s h).2
  | d :: ds, lo, s, h => by
    obtain ⟨h1, l, h2, h3⟩ := step d ds lo s h
    unfold forS
    rw [if_pos h1, h2]
    show Ws (match m1 l s with | .nx lo2 s2 => forS T m1 cnd ds lo2 s2 | .ct lo2 s2 => forS T m1 cnd ds lo2 s2 | .bk lo2 s2 => .nx lo2 s2 | .rt d s2 => .rt d s2 | .exc x lo2 s2 => .exc x lo2 s2 | .bad => .bad) p
    cases e : m1 l s with
    | nx lo2 s2 => rw [e] at h3; exact ws_forS I step done ds lo2 s2 h3
    | ct lo2 s2 => rw [e] at h3; exact ws_forS I step done ds lo2 s2 h3
    | bk lo2 s2 => rw [e] at h3; exact h3
    | rt d s2 => rw [e] at h3; exact h3
    | exc x lo2 s2 => rw [e] at h3; exact h3
    | bad => rw [e] at h3; exact h3
end

/-! ### comprehensions -/
section
variable {E : Xn → Sto → Prop} {T : Tg} {mt : Lo → M Bool} {me : Lo → M D} {cnd : Cnd} {lo : Lo}
/-- by an invariant: I of the items that are left, what is made, the store -/
theorem wr_compR {Q : List D → Sto → Prop} (I : List D → List D → Sto → Prop) (step : ∀ d ds acc s, I (d :: ds) acc s → cndB cnd s = true ∧ acc.length < sizeLine ∧ ∃ l, setT T d lo = some l ∧ Wr (mt l s) (fun b s1 => if b = true then Wr (me l s1) (fun y s2 => I ds (acc ++ [y]) s2) NoE else I ds acc s1) NoE)
    (done : ∀ acc s, I [] acc s → cndB cnd s = true ∧ Q acc s) : ∀ (ds acc : List D) (s : Sto), I ds acc s → Wr (compR T mt me cnd lo ds acc s) Q E
  | [], acc, s, h => by
    unfold compR
    rw [if_pos (done acc s h).1]
    exact (done acc s h).2
  | d :: ds, acc, s, h => by
    obtain ⟨h1, hz, l, h2, h3⟩ := step d ds acc s h
    unfold compR
    rw [if_pos h1, h2]
    show Wr ((noX (mt l s)).bind fun b s1 => if b = true then (noX (me l s1)).bind fun y s2 => (if acc.length < sizeLine then compR T mt me cnd lo ds (acc ++ [y]) s2 else .bad) else compR T mt me cnd lo ds acc s1) Q E
    rw [wr_bind, wr_noX]
    refine h3.mono (fun b s1 q => ?_) fun _ _ z => z
    cases b with
    | false => exact wr_compR I step done ds acc s1 q
    | true =>
      show Wr ((noX (me l s1)).bind fun y s2 => (if acc.length < sizeLine then compR T mt me cnd lo ds (acc ++ [y]) s2 else .bad)) Q E
      rw [wr_bind, wr_noX]
      refine Wr.mono (show Wr (me l s1) (fun y s2 => I ds (acc ++ [y]) s2) NoE from q) (fun y s2 q => ?_) fun _ _ z => z
      show Wr (if acc.length < sizeLine then compR T mt me cnd lo ds (acc ++ [y]) s2 else .bad) Q E
      rw [if_pos hz]
      exact wr_compR I step done ds (acc ++ [y]) s2 q
/-- where the parts are pure: f tells what becomes of an item -/
theorem compR_pure (f : D → Option D) (s : Sto) (hc : cndB cnd s = true) : ∀ (ds acc : List D), acc.length + ds.length ≤ sizeLine → (∀ d ∈ ds, ∃ l, setT T d lo = some l ∧ ((mt l s = .ok true s ∧ ∃ y, me l s = .ok y s ∧ f d = some y) ∨ (mt l s = .ok false s ∧ f d = none))) →
    compR T mt me cnd lo ds acc s = .ok (acc ++ ds.filterMap f) s
  | [], acc, _, _ => by
    unfold compR
    rw [if_pos hc, List.filterMap_nil, List.append_nil]
  | d :: ds, acc, hz, h => by
    obtain ⟨l, h1, h2⟩ := h d List.mem_cons_self
    rw [List.length_cons] at hz
    unfold compR
    rw [if_pos hc, h1]
    simp only
    rcases h2 with ⟨h2, y, h3, h4⟩ | ⟨h2, h4⟩
    · rw [h2]
      show (noX (me l s)).bind (fun y s2 => if acc.length < sizeLine then compR T mt me cnd lo ds (acc ++ [y]) s2 else .bad) = _
      rw [h3]
      show (if acc.length < sizeLine then compR T mt me cnd lo ds (acc ++ [y]) s else .bad) = _
      rw [if_pos (by omega), compR_pure f s hc ds (acc ++ [y]) (by rw [List.length_append, List.length_singleton]; omega) fun d hd => h d (List.mem_cons_of_mem _ hd)]
      rw [List.filterMap_cons_some h4, List.append_assoc]
      rfl
    · rw [h2]
      show compR T mt me cnd lo ds acc s = _
      rw [compR_pure f s hc ds acc (by omega) fun d hd => h d (List.mem_cons_of_mem _ hd), List.filterMap_cons_none h4]
@[simp] theorem w_Comp {Q : D → Sto → Prop} {lo : Lo} {s : Sto} {fr : Bool} {own : List Nat} {mi : Lo → M Src} : Wr (mComp fr own T mi mt me lo s) Q E ↔ Wr (mi lo s) (fun S s1 => Wr (compR T mt me S.cnd (wipeD lo own) S.items [] s1) (fun ys s2 => Wr (finD fr ys s2) Q E) E) E := by
  unfold mComp; simp only [wr_bind]
@[simp] theorem w_fin {Q : D → Sto → Prop} {s : Sto} {ys : List D} : Wr (finD true ys s) Q E ↔ Q (.lst ys) s := Iff.rfl
@[simp] theorem w_finL {Q : D → Sto → Prop} {s : Sto} {ys : List D} : Wr (finD false ys s) Q E ↔ Q (.loc s.length) (s ++ [.lst ys]) := Iff.rfl
@[simp] theorem w_Iter {Q : Src → Sto → Prop} {s : Sto} {lo : Lo} {ma : Lo → M D} : Wr (mIter ma lo s) Q E ↔ Wr (ma lo s) (fun d s1 => ∃ S, itemsD d s1 = some S ∧ Q S s1) E := by
  unfold mIter; simp only [wr_bind]
  constructor <;> intro h <;> refine h.mono (fun x s1 q => ?_) (fun _ _ z => z)
  · cases e : itemsD x s1 with
    | none => rw [e] at q; exact q.elim
    | some b => rw [e] at q; exact ⟨_, rfl, q⟩
  · obtain ⟨b, e, q⟩ := q
    rw [e]
    exact q
@[simp] theorem w_Rng1 {Q : Src → Sto → Prop} {s : Sto} {lo : Lo} {ml : Lo → M (List D)} : Wr (mRng1 ml lo s) Q E ↔ Wr (ml lo s) (fun ds s1 => ∃ j, ds = [.int j] ∧ (-(2 ^ 62) ≤ j ∧ j < 2 ^ 62) ∧ Q ⟨(List.range j.toNat).map fun (i : Nat) => .int (0 + (i : Int)), none⟩ s1) E := by
  unfold mRng1; simp only [wr_bind]
  constructor <;> intro h <;> refine h.mono (fun x s1 q => ?_) (fun _ _ z => z)
  · unfold rng1 at q
    split at q
    · split at q
      · exact ⟨_, rfl, by assumption, q⟩
      · exact q.elim
    · exact q.elim
  · obtain ⟨j, rfl, h, q⟩ := q
    unfold rng1
    simp only
    rw [if_pos h]
    exact q
end
end DL
set_option Elab.async false
set_option linter.all false
set_option maxRecDepth 100000
set_option maxHeartbeats 4000000
/-! DLn: the laws' own pools and draws. -/
namespace DL
open PySem L2
/-! ### operators by their kinds -/
section
variable {s : Sto} {i j : Int} {x y : Str}
@[simp] theorem fAdd_int : fAdd (.int i) (.int j) s = some (.int (i + j)) := rfl
@[simp] theorem fSub_int : fSub (.int i) (.int j) s = some (.int (i - j)) := rfl
theorem fMul_int (h : (-(2 ^ 64) < i ∧ i < 2 ^ 64) ∨ (-(2 ^ 64) < j ∧ j < 2 ^ 64)) : fMul (.int i) (.int j) s = some (.int (i * j)) := by unfold fMul; simp only; rw [if_pos h]
theorem fMod_int (h : 0 < j) : fMod (.int i) (.int j) s = some (.int (i % j)) := by unfold fMod; simp only; rw [if_pos h]
theorem fDiv_int (h : 0 < j) (h2 : j < 1073741824) : fDiv (.int i) (.int j) s = some (.int (i / j)) := by unfold fDiv; simp only; rw [if_pos ⟨h, h2⟩]
theorem fPow_int (h : 0 ≤ j) (h2 : j ≤ 1000000) (h3 : i.natAbs < 2 ^ 64) : fPow (.int i) (.int j) s = some (.int (i ^ j.toNat)) := by unfold fPow; simp only; rw [if_pos ⟨h, h2, h3⟩]
@[simp] theorem fLt_int : fLt (.int i) (.int j) s = some (.bl (decide (i < j))) := rfl
@[simp] theorem fLe_int : fLe (.int i) (.int j) s = some (.bl (decide (i ≤ j))) := rfl
@[simp] theorem fGt_int : fGt (.int i) (.int j) s = some (.bl (decide (j < i))) := rfl
@[simp] theorem fGe_int : fGe (.int i) (.int j) s = some (.bl (decide (j ≤ i))) := rfl
@[simp] theorem fEq_int : fEq (.int i) (.int j) s = some (.bl (decide (i = j))) := by
  unfold fEq eqP
  simp [D.toV, scal]
@[simp] theorem fNe_int : fNe (.int i) (.int j) s = some (.bl (!decide (i = j))) := by
  unfold fNe eqP
  simp [D.toV, scal]
@[simp] theorem fEq_str : fEq (.str x) (.str y) s = some (.bl (decide (x = y))) := by
  unfold fEq eqP
  simp [D.toV, scal]
@[simp] theorem fNe_str : fNe (.str x) (.str y) s = some (.bl (!decide (x = y))) := by
  unfold fNe eqP
  simp [D.toV, scal]
@[simp] theorem truD_bl {b : Bool} : truD (.bl b) s = some b := rfl
@[simp] theorem fMax_int : fMax [.int i, .int j] s = some (.int (if j > i then j else i)) := rfl
@[simp] theorem fMin_int : fMin [.int i, .int j] s = some (.int (if j < i then j else i)) := rfl
@[simp] theorem fInt_bl {b : Bool} : fInt [.bl b] s = some (.int (if b then 1 else 0)) := rfl
theorem fIx_seq {d : D} {xs : List D} (h : seqOf d s = some xs) : fIx d (.int j) s = atI xs j := by
  unfold fIx
  cases d <;> simp only [seqOf, listOf] at h <;> try (cases h; done)
  all_goals simp only [seqOf, listOf, h]
  all_goals cases h
  all_goals rfl
@[simp] theorem seqOf_lst {xs : List D} : seqOf (.lst xs) s = some xs := rfl
@[simp] theorem seqOf_tup {xs : List D} : seqOf (.tup xs) s = some xs := rfl
@[simp] theorem seqOf_scr {xs : List D} : seqOf (.scr xs) s = some xs := rfl
theorem seqOf_loc {n : Nat} {xs : List D} (h : s[n]? = some (.lst xs)) : seqOf (.loc n) s = some xs := by simp only [seqOf, listOf, h]
@[simp] theorem fIx_lst {xs : List D} : fIx (.lst xs) (.int j) s = atI xs j := rfl
@[simp] theorem fIx_tup {xs : List D} : fIx (.tup xs) (.int j) s = atI xs j := rfl
@[simp] theorem fIx_scr {xs : List D} : fIx (.scr xs) (.int j) s = atI xs j := rfl
@[simp] theorem atI_0 {α : Type} {a : α} {l : List α} : atI (a :: l) 0 = some a := by
  unfold atI ixN
  rw [if_pos (by decide), if_pos (by rw [List.length_cons]; omega)]
  rfl
@[simp] theorem atI_1 {α : Type} {a b : α} {l : List α} : atI (a :: b :: l) 1 = some b := by
  unfold atI ixN
  rw [if_pos (by decide), if_pos (by rw [List.length_cons, List.length_cons]; omega)]
  rfl
theorem atI_in {α : Type} {l : List α} {j : Int} (h0 : 0 ≤ j) (h1 : j < l.length) : ∃ a, atI l j = some a ∧ a ∈ l := by
  have hj : j.toNat < l.length := by omega
  refine ⟨l[j.toNat], ?_, List.getElem_mem hj⟩
  unfold atI ixN
  rw [if_pos h0, if_pos h1]
  exact List.getElem?_eq_getElem hj
theorem fLen_seq {d : D} {xs : List D} (h : seqOf d s = some xs) : fLen [d] s = some (.int xs.length) := by
  unfold fLen
  cases d <;> simp only [seqOf, listOf] at h <;> try (cases h; done)
  all_goals simp only [seqOf, listOf, h]
  all_goals (try (cases h; done))
  all_goals rfl
theorem fLen_str (h : x.length ≤ sizeLine) : fLen [.str x] s = some (.int x.length) := by unfold fLen; simp only; rw [if_pos h]
end

/-- the pool of numbers that are drawn from -/
def PoolAt (s : Sto) (p : Nat) : Prop := ∃ a b : Int, s[p]? = some (.lst [.int a, .int b]) ∧ 0 ≤ a
/-- from the pool at p was drawn, nothing else was changed -/
structure Lk (p : Nat) (s s' : Sto) : Prop where
  pool : PoolAt s' p
  len : s.length ≤ s'.length
  oth : ∀ q, q < s.length → q ≠ p → s'[q]? = s[q]?
theorem Lk.refl {p : Nat} {s : Sto} (h : PoolAt s p) : Lk p s s := ⟨h, Nat.le_refl _, fun _ _ _ => rfl⟩
theorem Lk.trans {p : Nat} {s s1 s2 : Sto} (a : Lk p s s1) (b : Lk p s1 s2) : Lk p s s2 :=
  ⟨b.pool, Nat.le_trans a.len b.len, fun q h1 h2 => (b.oth q (Nat.lt_of_lt_of_le h1 a.len) h2).trans (a.oth q h1 h2)⟩
theorem Lk.set {p : Nat} {s : Sto} {a b a' b' : Int} (h : s[p]? = some (.lst [.int a, .int b])) (h0 : 0 ≤ a') : Lk p s (s.set p (.lst [.int a', .int b'])) := by
  have hp := (List.getElem?_eq_some_iff.mp h).1
  exact ⟨⟨a', b', by rw [List.getElem?_set_self hp], h0⟩, by simp, fun q _ hq => List.getElem?_set_ne (Ne.symm hq)⟩

def gDraw : List D → M D := callF 3 2
    (mSeq (mIf (mB (mBin fGt (mBin fIx (getV 0) (fun _ => ret (.int 0))) (fun _ => ret (.int 0)))) (mSeq (mSet (.nm 2) (mBin fMod (mBin fIx (getV 0) (fun _ => ret (.int 0))) (getV 1)))
    (mSeq (mStore (getV 0) (fun _ => ret (.int 0)) (mBin fDiv (mBin fIx (getV 0) (fun _ => ret (.int 0))) (getV 1)))
    (mRet (getV 2)))) .nx)
    (mSeq (mStore (getV 0) (fun _ => ret (.int 1)) (mBin fMod (mBin fAdd (mBin fMul (mBin fIx (getV 0) (fun _ => ret (.int 1))) (fun _ => ret (.int 69621))) (fun _ => ret (.int 7))) (fun _ => ret (.int 2147483647))))
    (mRet (mBin fMod (mBin fDiv (mBin fMod (mBin fMul (mBin fIx (getV 0) (fun _ => ret (.int 1))) (mBin fIx (getV 0) (fun _ => ret (.int 1)))) (fun _ => ret (.int 2147483629))) (fun _ => ret (.int 32))) (getV 1)))))
theorem draw_ok {p : Nat} {n : Int} {s : Sto} (h : PoolAt s p) (h0 : 0 < n) (h1 : n < 1073741824) : Wr (gDraw [.loc p, .int n] s) (fun d s' => ∃ r, d = .int r ∧ 0 ≤ r ∧ r < n ∧ Lk p s s') NoE := by
  obtain ⟨a, b, hs, ha⟩ := h
  have hp := (List.getElem?_eq_some_iff.mp hs).1
  have ix : ∀ {a b : Int} {s : Sto} (j : Int), s[p]? = some (.lst [.int a, .int b]) → fIx (.loc p) (.int j) s = atI [.int a, .int b] j := fun j h => fIx_seq (seqOf_loc h)
  have st0 : ∀ v, storeD (.loc p) (.int 0) v s = some (s.set p (.lst [v, .int b])) := fun v => by
    simp only [storeD, hs]
    rfl
  have st1 : ∀ v, storeD (.loc p) (.int 1) v s = some (s.set p (.lst [.int a, v])) := fun v => by
    simp only [storeD, hs]
    rfl
  unfold gDraw
  rw [w_callF]
  simp only [List.map_cons, List.map_nil, List.cons_append, List.nil_append, List.replicate, Nat.reduceSub, ws_seq, ws_if, w_B, w_bin, getV_zero, getV_cons, wr_ok, wr_ret, ix _ hs, atI_0, atI_1, Option.some.injEq, exists_eq_left', fGt_int, D.bl.injEq, fMod_int h0, fDiv_int h0 h1, ws_set, setT, ws_store, st0, st1, ws_ret, ws_nx]
  by_cases hpos : 0 < a
  · rw [if_pos (by simpa using hpos)]
    simp only [List.set_cons_succ, List.set_cons_zero, getV_cons, getV_zero, wr_ok, ix _ hs, atI_0, Option.some.injEq, exists_eq_left', fDiv_int h0 h1, st0]
    exact ⟨_, rfl, Int.emod_nonneg _ (by omega), Int.emod_lt_of_pos _ h0, Lk.set hs (Int.ediv_nonneg ha (by omega))⟩
  · rw [if_neg (by simpa using hpos)]
    rw [fMul_int (.inr ⟨by decide, by decide⟩)]
    simp only [Option.some.injEq, exists_eq_left', fAdd_int, fMod_int (show (0 : Int) < 2147483647 by decide), st1]
    have he0 : 0 ≤ (b * 69621 + 7) % 2147483647 := Int.emod_nonneg _ (by decide)
    have he1 : (b * 69621 + 7) % 2147483647 < 2147483647 := Int.emod_lt_of_pos _ (by decide)
    generalize (b * 69621 + 7) % 2147483647 = e at *
    have hs' : (s.set p (.lst [.int a, .int e]))[p]? = some (.lst [.int a, .int e]) := List.getElem?_set_self hp
    simp only [ix _ hs', atI_1, Option.some.injEq, exists_eq_left']
    rw [fMul_int (.inl ⟨by omega, by omega⟩)]
    simp only [Option.some.injEq, exists_eq_left', fMod_int (show (0 : Int) < 2147483629 by decide), fDiv_int (show (0 : Int) < 32 by decide) (by decide), fMod_int h0]
    exact ⟨_, rfl, Int.emod_nonneg _ (by omega), Int.emod_lt_of_pos _ h0, Lk.set hs ha⟩

def gPoolR : Lo → Sto → SR :=
    (mSeq (mSet (.nm 3) (mCB fMax (mCons (getV 2) (mCons (mBin fSub (mNeg (fun _ => ret (.int 1))) (getV 2)) mNil))))
    (mSeq (mSet (.nm 4) (mBin fMod (mBin fMul (mBin fAdd (mBin fAdd (mBin fAdd (mBin fMod (getV 3) (fun _ => ret (.int 2147483629))) (mBin fMul (mBin fMul (fun _ => ret (.int 7919)) (getV 1)) (getV 1))) (mBin fMul (fun _ => ret (.int 31)) (getV 1))) (fun _ => ret (.int 17))) (fun _ => ret (.int 48271))) (fun _ => ret (.int 2147483647))))
    (mRet (mLstL (mCons (mBin fMul (getV 3) (mCB fInt (mCons (mBin fGe (getV 3) (mBin fPow (fun _ => ret (.int 10)) (fun _ => ret (.int 18)))) mNil))) (mCons (getV 4) mNil))))))
def gPool : List D → M D := callF 5 2
    (mSeq (mSet (.nm 2) (fun _ => ret (.int 0)))
    (mSeq (mIf (mB (mBin fLt (getV 1) (mCB fLen (mCons (getV 0) mNil)))) (mSet (.nm 2) (mBin fIx (getV 0) (getV 1))) .nx) gPoolR))
theorem pool_ok {ns : List Int} {k : Int} {s : Sto} (h0 : 0 ≤ k) (h1 : k < 1000) : Wr (gPool [.scr (ns.map D.int), .int k] s) (fun d s' => ∃ a b : Int, d = .loc s.length ∧ s' = s ++ [.lst [.int a, .int b]] ∧ 0 ≤ a) NoE := by
  have rest : ∀ i : Int, Ws (gPoolR [some (.scr (ns.map D.int)), some (.int k), some (.int i), none, none] s)
      { nx := fun _ s' => ∃ a b : Int, D.non = .loc s.length ∧ s' = s ++ [.lst [.int a, .int b]] ∧ 0 ≤ a, rt := fun d s' => ∃ a b : Int, d = .loc s.length ∧ s' = s ++ [.lst [.int a, .int b]] ∧ 0 ≤ a, ex := fun _ _ _ => False } := by
    intro i
    unfold gPoolR
    simp only [ws_seq, ws_set, w_CB, w_Cons, w_Nil, w_bin, w_Neg, getV_zero, getV_cons, wr_ok, wr_ret, setT, D.int.injEq, exists_eq_left', fSub_int, Option.some.injEq, fMax_int, List.set_cons_succ, List.set_cons_zero, fMod_int (show (0 : Int) < 2147483629 by decide), fMod_int (show (0 : Int) < 2147483647 by decide), fAdd_int, fGe_int, fInt_bl, ws_ret, w_LstL, ws_nx,
      fMul_int (.inl (show -(2 ^ 64) < (7919 : Int) ∧ (7919 : Int) < 2 ^ 64 by decide)), fMul_int (.inl (show -(2 ^ 64) < (31 : Int) ∧ (31 : Int) < 2 ^ 64 by decide)), fMul_int (.inr (show -(2 ^ 64) < (48271 : Int) ∧ (48271 : Int) < 2 ^ 64 by decide)), fMul_int (.inr (show -(2 ^ 64) < k ∧ k < 2 ^ 64 by omega)), fPow_int (show (0 : Int) ≤ 18 by decide) (by decide) (show (10 : Int).natAbs < 2 ^ 64 by decide)]
    generalize hm : (if -1 - i > i then -1 - i else i) = e
    have he : 0 ≤ e := by
      rw [← hm]
      split <;> omega
    generalize hd : decide ((10 : Int) ^ Int.toNat 18 ≤ e) = q
    cases q with
    | true =>
      simp only [if_true, fMul_int (.inr (show -(2 ^ 64) < (1 : Int) ∧ (1 : Int) < 2 ^ 64 by decide)), Option.some.injEq, exists_eq_left']
      exact ⟨by show 2 ≤ sizeLine; decide, _, _, trivial, rfl, by omega⟩
    | false =>
      simp only [Bool.false_eq_true, if_false, fMul_int (.inr (show -(2 ^ 64) < (0 : Int) ∧ (0 : Int) < 2 ^ 64 by decide)), Option.some.injEq, exists_eq_left']
      exact ⟨by show 2 ≤ sizeLine; decide, _, _, trivial, rfl, by omega⟩
  unfold gPool
  rw [w_callF]
  simp only [List.map_cons, List.map_nil, List.cons_append, List.nil_append, List.replicate, Nat.reduceSub, ws_seq, ws_if, w_B, w_bin, getV_zero, getV_cons, wr_ok, wr_ret, Option.some.injEq, exists_eq_left', D.bl.injEq, ws_set, setT, ws_nx, List.set_cons_succ, List.set_cons_zero, w_CB, w_Cons, w_Nil, fLen_seq seqOf_scr, fLt_int, fIx_scr]
  by_cases hk : k < ((ns.map D.int).length : Int)
  · rw [if_pos (by simpa using hk)]
    obtain ⟨d, hd, hm⟩ := atI_in h0 hk
    rw [hd]
    simp only [Option.some.injEq, exists_eq_left']
    obtain ⟨i, _, rfl⟩ := List.mem_map.mp hm
    exact rest i
  · rw [if_neg (by simpa using hk)]
    exact rest 0

/-! ### texts -/
theorem join_nil : ∀ ys : List Str, (Str.join ("" : Str) ys).cps.toList = (ys.map fun y => y.cps.toList).flatten
  | [] => rfl
  | [y] => by simp [Str.join]
  | x :: z :: r => by
    show (x ++ ("" : Str) ++ Str.join "" (z :: r)).cps.toList = _
    rw [show (x ++ ("" : Str) ++ Str.join "" (z :: r)).cps = x.cps ++ ("" : Str).cps ++ (Str.join "" (z :: r)).cps from rfl, Array.toList_append, Array.toList_append, join_nil (z :: r)]
    have : (("" : Str).cps).toList = [] := rfl
    rw [this, List.append_nil]
    rfl
end DL
set_option Elab.async false
set_option linter.all false
set_option maxRecDepth 100000
set_option maxHeartbeats 4000000
/-! DLo: list comprehensions whose element may raise (by a call). -/
namespace DL
open PySem PySem.Spec PyProof.Rows L2
/-- frames are frames over a smaller ground -/
theorem frames_less {h B G : Heap} (le : ∀ b o, G.get? b = some o → B.get? b = some o) : ∀ {l : List Env}, h.FunFrames B l → h.FunFrames G l := by
  intro l
  induction l with
  | nil => intro z; exact z
  | cons e l ih =>
    rintro ⟨h1, ⟨L, o, h2, h3, h4, h5⟩, h6⟩
    refine ⟨h1, ⟨L, o, h2, ?_, h4, h5⟩, ih h6⟩
    cases q : G.get? L with
    | none => rfl
    | some o' => rw [le _ _ q] at h3; cases h3
theorem held_less {h B G : Heap} {l : List Env} {a L : Addr} {Z : Obj → Prop} (le : ∀ b o, G.get? b = some o → B.get? b = some o) (x : HandSPX.HeldZ B l a Z L h) : HandSPX.HeldZ G l a Z L h := by
  have no : ∀ {b}, B.get? b = none → G.get? b = none := fun {b} n => by
    cases q : G.get? b with
    | none => rfl
    | some o' => rw [le _ _ q] at n; cases n
  obtain ⟨x1, x2, x3, oe, vs, T, oT, ts, y1, y2, y3, y4, y5, y6⟩ := x
  exact ⟨fun b o q => x1 b o (le b o q), no x2, frames_less le x3, oe, vs, T, oT, ts, y1, y2, y3, y4, no y5, y6⟩
/-- an exception that a call let out, over the frames -/
def XF (X : Cx) (W : WX) (u : Value) (s' : Shared) : Prop :=
  ∃ (a : Addr) (B : Heap) (sI : Shared) (pins : List (Addr × Obj)) (σ : L2.St) (H : Hp) (cls : Value) (d : Option Addr), u = .ref a ∧ Inv X pins σ H sI ∧ (∀ b o, sI.heap.get? b = some o → b ∉ frs X.stack → B.get? b = some o) ∧
    sI.heap.UpToSlots s'.heap ∧ HandSPX.FlyingZ B X.stack a (Zc cls d) s'.heap ∧ H a = none ∧ s'.os = sI.os ∧ AllBare s'.gens ∧ W cls d σ H
/-- what is needed for calls in a context -/
def TakesC (X : Cx) (W : WX) : Prop := ∀ σ, PassesAt (L2.CX X.prog X.w) X σ (WE W σ)
theorem Takes.calls {X : Cx} {W : WX} (tk : Takes X W) : TakesC X W := fun σ => passAt tk σ
theorem takesC_of {X : Cx} {W : WX} (h : ∀ u s', XF X W u s' → X.xe u s') : TakesC X W := by
  intro σ pins H s e s' I c
  have key : ∀ (W' : WX), (∀ cls d H', WE W σ cls d H' → W' cls d σ H') → XE X W' e s' := fun W' hW => XE.of_call I hW c
  obtain ⟨a, B, sI, pins', σ', H', cls, d, e1, J, nb, up, sky, na, os, ag, w⟩ := key (fun cls d σ' H' => σ' = σ ∧ W cls d σ H') fun _ _ _ h => ⟨rfl, h⟩
  obtain ⟨a2, B2, H2, cls2, d2, e2, fl, _⟩ := c
  subst e1
  cases e2
  obtain ⟨rfl, w⟩ := w
  obtain ⟨_, _, _, oe, vs, T, oT, ts, y1, y2, y3, y4, y5, y6, y7, y8, y9⟩ := fl
  rcases sky with ⟨_, _, _, oe', vs', z1, _, z3, z4⟩ | fl | ⟨_, _, _, oe', vs', T', oT', ts', z1, z2, z3, z4, z5, z6, z7, z8, z9⟩
  · rw [y1] at z1; cases z1
    rw [y3] at z3; cases z3
    rw [y4] at z4; cases z4
  · exact h _ _ ⟨a, B, sI, pins', σ', H', cls, d, rfl, J, nb, up, fl, na, os, ag, w⟩
  · rw [y1] at z1; cases z1
    rw [y3] at z3; cases z3
    rw [y4] at z4; cases z4
    rw [y7] at z7; cases z7
    rw [y8] at z8; cases z8
    rw [y9] at z9
    exact absurd z9 (by unfold rawInt; exact fun z => nomatch z)

abbrev blkE (X : Cx) (s : Shared) (H : Hp) (scope : Scope) (cenv : Env) (fp : List Addr) (E : Value → Shared → Prop) : Cx := (X.blk s H scope cenv fp).wish E
section
variable {X : Cx} {pins : List (Addr × Obj)} {σ : L2.St} {H : Hp} {s : Shared} {scope : Scope} {ce : Env} {fp : List Addr} {W : WX} {Wb : WX} {E : Value → Shared → Prop}
/-- it leaves the comprehension's block -/
theorem blk_fails (hs : X.stack = X.env :: X.outer) (hf : X.env.frame = some X.env.locals) (hcf : ce.frame = X.env.frame) (hC : ce.locals = s.heap.objs.size) (tk : Takes X W) (I : Inv X pins σ H s)
    (hfp : ∀ b ∈ fp, (b ∈ X.ex ∨ X.s_0.heap.objs.size ≤ b) ∧ b ≠ X.env.locals ∧ (∀ x c, X.env.cells.lookup x = some c → c ≠ b) ∧ ∀ p ∈ X.pn ++ pins, p.1 ≠ b) {u : Value} {s' : Shared}
    (hW : ∀ cls d σ' H', Wb cls d σ' H' → W cls d σ H') (x : XF (blkE X s H scope ce fp E) Wb u s') :
    notedBy (model X.prog X.w) X.A ce (CompFails (model X.prog X.w) X.A X.xe ce) u s' := by
  obtain ⟨a, B, sI, pins', σ', H', cls, d, rfl, J, nb, up, fl, na, os, ag, w⟩ := x
  have hfr : X.A.frames = some (X.env :: X.outer) := by rw [I.ok.frames, hs]
  have fl : HandSPX.FlyingZ B (X.env :: X.outer) a (Zc cls d) s'.heap := by rw [← hs]; exact fl
  have nC : H' ce.locals = none := J.free
  obtain ⟨m, hn, _⟩ := J.loc
  have hn : sI.heap.Ns ce.locals m := hn
  show wpAny _ X.A (noteFrame (.ref a) ce) _ _ s'
  rw [noteFrame_env _ hcf]
  refine HandSPX.looks_onZ Zc.steady hfr hf fl fun h1 hh1 up1 => ?_
  have n1 : h1.Ns ce.locals m := hn.upToSlots (up.trans up1)
  refine ⟨m, n1, fun h2 m2 n2 sb => ?_⟩
  -- the ground without the block's names
  obtain ⟨G, g1, g2⟩ := restrict B fun b => decide (b ≠ ce.locals)
  have gB : ∀ b o, G.get? b = some o → B.get? b = some o ∧ b ≠ ce.locals := fun b o q => by
    by_cases hb : b = ce.locals
    · rw [hb, g2 _ (by simp)] at q; cases q
    · rw [g1 b (by simpa using hb)] at q; exact ⟨q, hb⟩
  have hh := held_less (G := G) (fun b o q => (gB b o q).1) hh1
  have isd : ∀ {o : Obj} {vs : Array Value}, h1.get? ce.locals = some o → o.data ≠ .fields vs := fun {o vs} q z => by
    obtain ⟨oL, es, ep, hoL, hdL, _⟩ := n1
    rw [q] at hoL; cases hoL
    rw [z] at hdL; cases hdL
  have hh2 : HandSPX.HeldZ G (X.env :: X.outer) a (Zc cls d) X.env.locals h2 := by
    obtain ⟨k1, k2, k3, oe, vs, T, oT, ts, y1, y2, y3, y4, y5, y6, y7, y8, y9⟩ := hh
    refine ⟨fun b o q => (sb.2 b (gB b o q).2).trans (k1 b o q), k2, Heap.FunFrames.sameBut sb n2 k3, oe, vs, T, oT, ts, (sb.2 a fun z => ?_).trans y1, y2, y3, y4, y5, y6, (sb.2 T fun z => ?_).trans y7, y8, y9⟩
    · exact isd (by rw [← z]; exact y1) y3
    · exact isd (by rw [← z]; exact y7) y8
  obtain ⟨k1, k2, k3, k4⟩ := hh2
  obtain ⟨oe, vs, T, oT, ts, y1, y2, y3, y4, y5, y6, y7, y8, y9⟩ := id k4
  unfold PySem.passOn
  refine wpAny_bind (wpAny_field y1 y3 y4 ?_)
  rw [if_neg (show ¬ ((Value.ref T == Value.none) = true) from by simp)]
  rw [hcf, hf]
  refine wpAny_bind (HandSPX.setFlight_anyZ k1 k3 k4 fun h3 j1 j2 j3 up3 => wpAny_throw (tk _ _ ?_))
  -- the state without it, without the block's names
  obtain ⟨GI, i1, i2⟩ := restrict sI.heap fun b => decide (b ≠ ce.locals)
  have gI : ∀ b o, GI.get? b = some o → sI.heap.get? b = some o ∧ b ≠ ce.locals := fun b o q => by
    by_cases hb : b = ce.locals
    · rw [hb, i2 _ (by simp)] at q; cases q
    · rw [i1 b (by simpa using hb)] at q; exact ⟨q, hb⟩
  have Ig : ∀ b o, b ≠ ce.locals → sI.heap.get? b = some o → GI.get? b = some o := fun b o hb q => by rw [i1 b (by simpa using hb)]; exact q
  have old : ∀ {b o}, s.heap.get? b = some o → b ≠ ce.locals := fun {b o} q z => by
    have := Heap.lt_size q
    rw [z, hC] at this
    exact Nat.lt_irrefl _ this
  have jb : Un (frs X.stack) fp H H' s.heap sI.heap := J.base
  have U : Un (frs X.stack) fp H H' s.heap GI :=
    ⟨fun b o q n hb hx => Ig b o (old q) (jb.keep b o q n hb hx), fun b o q n hb hx => (jb.slot b o q n hb hx).imp fun sl z => Ig b _ (old q) z, jb.free, fun b o q hx => (jb.there b o q hx).imp fun o' z => Ig b o' (old q) z, jb.tups, jb.frzs, jb.tbls⟩
  have hokI : HOk X.prog X.w H' GI := fun b o q => by
    have hb : b ≠ ce.locals := fun z => by rw [z, nC] at q; cases q
    refine (J.hok b o q).stay (fun c v hc z => Ig c v ?_ z) (fun _ z => z) fun _ _ z => z
    rcases hc with hc | hc
    · rw [hc]; exact hb
    · exact fun z => by rw [z, nC] at hc; cases hc
  have JX : Inv X pins σ H' { sI with heap := GI } := I.call' (ch := fp) (s' := { sI with heap := GI }) J.os U hokI J.bare hfp
  refine ⟨a, G, { sI with heap := GI }, pins, σ, H', cls, d, rfl, JX, fun b o q hb => ?_, fun b o q hnf => ?_, .inr (.inr ?_), na, os, ag, hW _ _ _ _ w⟩
  · obtain ⟨q1, q2⟩ := gI b o q
    rw [g1 b (by simpa using q2)]
    exact nb b o q1 hb
  · obtain ⟨q1, q2⟩ := gI b o q
    obtain ⟨sl1, z1⟩ := up b o q1 hnf
    obtain ⟨sl2, z2⟩ := up1 b _ z1 hnf
    obtain ⟨sl3, z3⟩ := up3 b _ ((sb.2 b q2).trans z2) hnf
    exact ⟨sl3, z3⟩
  · rw [hs]
    exact ⟨j1, k2, j2, j3⟩
end
end DL
set_option Elab.async false
set_option linter.all false
set_option maxRecDepth 100000
set_option maxHeartbeats 4000000
/-! DLp: the loop of a list comprehension whose element may raise; the rules. -/
namespace DL
open PySem PySem.Spec PyProof.Rows L2
section
variable {X : Cx} {pins : List (Addr × Obj)} {σ : L2.St} {H : Hp} {s : Shared} {scope : Scope} {W : WX} {tg iter elt : Expr} {ifs : List Expr} {own : List (Str × Nat)} {pos pos' : Pos} {wi : TI} {g : TG} {tt : TT} {te : WX → TE}
/-- the block's names -/
abbrev blkEnv (X : Cx) (s : Shared) (scope : Scope) : Env := compEnvC scope (cellsFrom (s.heap.objs.size + 1) scope.names (cloFrom X.env.cells scope.names [])) s.heap.objs.size X.env
/-- the wish on exceptions inside the block: the outer one at the slots there -/
abbrev inW (W : WX) (σ : L2.St) : WX := fun v d _ H => W v d σ H
/-- what a part of the block needs to be walked -/
def PEx (X : Cx) (scope : Scope) (e : Expr) (t : WX → TE) : Prop :=
  ∀ (s : Shared) (H : Hp) (C : Addr) (cl : List (Str × Addr)) (fp : List Addr) (Wb : WX) (E : Value → Shared → Prop), TakesC (blkE X s H scope (compEnvC scope cl C X.env) fp E) Wb → PE (blkE X s H scope (compEnvC scope cl C X.env) fp E) e (t Wb)
theorem lcx_core {Q : VK} {use : Option (Value → Sem Unit)} {Qf : Value → Shared → Prop} (hst : X.stack = X.env :: X.outer) (hfr : X.env.frame = some X.env.locals) (tk : Takes X W) (hc : X.calm = true) (hN : X.N.Nodup) (I0 : Inv X pins σ H s) (hi : PI X tg iter wi) (ok : BlkOk X.N X.env.scope scope own)
    (hg : ∀ (s : Shared) (H : Hp) (C : Addr) (cl : List (Str × Addr)) (fp : List Addr), PG (X.blk s H scope (compEnvC scope cl C X.env) fp) tg g) (ht : ∀ (s : Shared) (H : Hp) (C : Addr) (cl : List (Str × Addr)) (fp : List Addr), PTs (X.blk s H scope (compEnvC scope cl C X.env) fp) ifs tt)
    (he : PEx X scope elt te) (hsf : ∀ x, foldedSetIterable iter X.env x = pure x) (h : tLc wi g tt (te (inW W σ)) (own.map (·.2)) σ H Q)
    (fin : ∀ (L : Addr) (ce : Env) (s' : Shared) (m : Str → Option Value) (H' : Hp), Inv X pins σ H' s' → Q (.ref L) H' → s'.heap.Ns ce.locals m → FpOk X pins H' ce.locals → compEnds (model X.prog X.w) X.A X.xe use Qf (.ref L) ce (.ok .next) s') :
    wpAny (model X.prog X.w) X.A (comprehension (.ListComp elt [⟨tg, iter, ifs, 0⟩] scope pos) scope X.env pos' (newList []) false (eval iter X.env) use) Qf X.xe s := by
  have frees : ∀ z ∈ scope.names, z.2 = .free → ∃ c, X.env.cells.lookup z.1 = some c := fun z hz e => I0.ok.has _ (ok.free z hz e)
  refine comprehension_at (use := use) rfl hsf (closure_ok frees) ok.kind (fun z hz e => by rw [ok.uniq z hz, e]) (thn (hi.run pins s σ H _ I0 h) fun vi sa ha => thn ha fun vit sb hb => ?_)
  obtain ⟨it, fp, tn, J, Hb, e0, Ib, T, tn0, fpb, rest⟩ := hb
  subst e0
  refine wpAny_newObj_type (newEnv_comp ?_) (by show 0 ≤ sizeLine; decide)
  generalize hL : sb.heap.objs.size = L
  have nL : Hb L = none := Ib.hok.fresh (Nat.le_of_eq hL)
  obtain ⟨Wn, ⟨n0, wn0⟩, turn⟩ := rest L nL
  generalize hsc : ({ sb with heap := sb.heap.push { cls := .type "list", data := .seq ([] : List Value).toArray } } : Shared) = sc
  have sch : sc.heap = sb.heap.push { cls := .type "list", data := .seq ([] : List Value).toArray } := by rw [← hsc]
  have Ic : Inv X pins σ (upd Hb L (.lst [])) sc := by
    rw [← hsc]
    exact Ib.laid (t' := sb.toks) (fun b o q => Heap.get?_push_of_some _ q) (Nat.le_of_eq hL) ⟨Nat.zero_le _, [], 0, .nil, by rw [← hL]; exact Heap.get?_push_size _ rfl⟩
  have small : ∀ b ∈ fp, b < sb.heap.objs.size := fun b hb => let ⟨_, q, _⟩ := T.obj _ _ tn0 b hb; Heap.lt_size q
  have fpc : ∀ b ∈ fp, FpOk X pins (upd Hb L (.lst [])) b ∧ b < sc.heap.objs.size := fun b hb => by
    have lt := small b hb
    refine ⟨⟨?_, (fpb b hb).2⟩, by rw [sch, Heap.size_push]; exact Nat.lt_succ_of_lt lt⟩
    rw [upd_ne (by rw [← hL]; exact Nat.ne_of_lt lt)]
    exact (fpb b hb).1
  have tnc : tn 0 sc.heap := T.keep _ _ _ tn0 fun b _ o q => by rw [sch]; exact Heap.get?_push_of_some _ q
  have Id := block_start Ic ok hN fpc
  have gg := hg sc (upd Hb L (.lst [])) sc.heap.objs.size (cellsFrom (sc.heap.objs.size + 1) scope.names (cloFrom X.env.cells scope.names [])) fp
  have gt := ht sc (upd Hb L (.lst [])) sc.heap.objs.size (cellsFrom (sc.heap.objs.size + 1) scope.names (cloFrom X.env.cells scope.names [])) fp
  have ge := he sc (upd Hb L (.lst [])) sc.heap.objs.size (cellsFrom (sc.heap.objs.size + 1) scope.names (cloFrom X.env.cells scope.names []))
  show codeAny _ _ (.compStart (.ListComp elt [⟨tg, iter, ifs, 0⟩] scope pos) 0 (.ref it) (.ref L) (blkEnv X sc scope)) (compEnds (model X.prog X.w) X.A X.xe use Qf (.ref L) (blkEnv X sc scope)) { sc with heap := pushCells (sc.heap.push { cls := .type "dict", data := .dict #[] }) scope.names }
  have e1 : (blkEnv X sc scope).locals = sc.heap.objs.size := rfl
  have e2 : (blkEnv X sc scope).frame = X.env.frame := rfl
  unfold blkEnv at e1 e2 ⊢
  generalize compEnvC scope (cellsFrom (sc.heap.objs.size + 1) scope.names (cloFrom X.env.cells scope.names [])) sc.heap.objs.size X.env = ce at Id gg gt ge e1 e2 ⊢
  generalize hHc : upd Hb L (.lst []) = Hc at Ic Id gg gt ge wn0 fpc
  generalize hsd : ({ sc with heap := pushCells (sc.heap.push { cls := .type "dict", data := .dict #[] }) scope.names } : Shared) = sd at Id ⊢
  have tnd : tn 0 sd.heap := T.keep _ _ _ tnc fun b _ o q => by rw [← hsd]; exact pushCells_keeps _ _ _ _ (Heap.get?_push_of_some _ q)
  -- out of the block by an exception
  have bad : ∀ (E : Value → Shared → Prop) (u : Value) (s' : Shared), XF (blkE X sc Hc scope ce fp E) (inW W σ) u s' → notedBy (model X.prog X.w) X.A ce (fun e s' => compEnds (model X.prog X.w) X.A X.xe use Qf (.ref L) ce (.error e) s') u s' := fun E u s' x =>
    wpAny_mono (blk_fails hst hfr e2 e1 tk Ic (fun b hb => ⟨(fpc b hb).1.2.2.2.1, (fpc b hb).1.2.1, (fpc b hb).1.2.2.2.2.1, (fpc b hb).1.2.2.2.2.2⟩) (fun _ _ _ _ w => w) x) (fun _ _ z => by cases use <;> exact z) fun _ _ z => by cases use <;> exact z
  have fps : ∀ {σ' : L2.St} {H' : Hp} {s' : Shared}, Inv (X.blk sc Hc scope ce fp) [] σ' H' s' → (∀ b ∈ fp, H' b = none) → ∀ b ∈ fp, FpOk (X.blk sc Hc scope ce fp) [] H' b := fun {σ' H' s'} J' n b hb =>
    ⟨n b hb, (J'.ok.exf b hb).1, J'.ok.exfs b hb, .inl hb, fun x c q => (J'.ok.exf b hb).2 x c q, fun p hp => by cases hp⟩
  have loop : codeAny (model X.prog X.w) X.A (.compLoop (.ListComp elt [⟨tg, iter, ifs, 0⟩] scope pos) 0 (.ref it) (.ref L) ce) (compEnds (model X.prog X.w) X.A X.xe use Qf (.ref L) ce) sd := by
    refine compLoop_any (fun n s' => ∃ i H', Inv (X.blk sc Hc scope ce fp) [] (wipe σ (own.map (·.2))) H' s' ∧ tn i s'.heap ∧ (∀ b ∈ fp, H' b = none) ∧ Wn i n H') ?_ n0 ⟨0, Hc, Id, tnd, fun b hb => (fpc b hb).1.1, wn0⟩
    rintro n se ⟨i, He, Ie, tne, ne, wne⟩
    rcases turn i n He wne with ⟨stop, done⟩ | ⟨go, Nx, hNx, step⟩
    · -- the end
      refine thnF (T.done (X.blk sc Hc scope ce fp) rfl rfl rfl hc i [] se _ He (fun _ _ => False) Ie (fps Ie ne) tne stop) fun r sf ⟨hr, If⟩ => ?_
      subst hr
      have Ig : Inv X pins σ He sf := Ic.call' (ch := fp) If.os If.base If.hok If.bare fun b hb => ⟨(fpc b hb).1.2.2.2.1, (fpc b hb).1.2.1, (fpc b hb).1.2.2.2.2.1, (fpc b hb).1.2.2.2.2.2⟩
      have nce : He ce.locals = none := If.free
      obtain ⟨m, hm, _⟩ := If.loc
      exact fin L ce sf m He Ig done hm (by rw [e1]; exact Ic.fpOk (Nat.le_refl _) (by rw [← e1]; exact nce))
    · -- a turn
      refine thnF (T.item (X.blk sc Hc scope ce fp) rfl rfl rfl hc i [] se _ He (fun _ _ => False) Ie (fps Ie ne) tne go) fun r sf ⟨u, hr, hf⟩ => ?_
      subst hr
      refine thnF hf fun _ sg ⟨x, Hg, Ig, rg, yg, tng, ng⟩ => ?_
      refine thnF (gg.run _ sg _ Hg x u _ (Ig.pinned (fps Ig ng) (T.obj _ _ tng)) rg (step x Hg yg)) fun _ sh ⟨σh, Hh, Ih, wh, qh⟩ => ?_
      refine thnF (gt.run _ sh σh Hh _ Ih qh) fun b si ⟨Hi, Ii, qi⟩ => ?_
      have again : ∀ {s' : Shared} {H' : Hp}, Inv (X.blk sc Hc scope ce fp) ([] ++ pinsAt fp sg.heap) σh H' s' → Nx H' → ∃ m, m < n ∧ ∃ i H', Inv (X.blk sc Hc scope ce fp) [] (wipe σ (own.map (·.2))) H' s' ∧ tn i s'.heap ∧ (∀ b ∈ fp, H' b = none) ∧ Wn i m H' := fun {s' H'} J' nx => by
        obtain ⟨m', hm, w'⟩ := hNx H' nx
        have kept : ∀ b ∈ fp, ∀ o, sg.heap.get? b = some o → s'.heap.get? b = some o ∧ H' b = none := fun b hb o q => let z := J'.pin (b, o) (List.mem_append_right _ (List.mem_append_right _ (mem_pinsAt hb q))); ⟨z.1, z.2.1⟩
        refine ⟨m', hm, i + 1, H', (J'.unpinned (pins := [])).weak (by rw [← wh, wipe_length]) (fun j v q => ?_), T.keep _ _ _ tng fun b hb o q => (kept b hb o q).1, fun b hb => ?_, w'⟩
        · rw [← wh] at q; exact (wipe_some q).1
        · obtain ⟨o, q, _⟩ := T.obj _ _ tng b hb; exact (kept b hb o q).2
      cases b with
      | false => exact again Ii (by simpa using qi)
      | true =>
        simp only [if_true] at qi ⊢
        have pe := ge fp (inW W σ) (XF (blkE X sc Hc scope ce fp fun _ _ => True) (inW W σ)) (takesC_of fun u s' x => by
          obtain ⟨a, B, sI, pins', σ', H', cls, d, x1, x2, x3⟩ := x
          exact ⟨a, B, sI, pins', σ', H', cls, d, x1, x2.unwish.wish _, x3⟩)
        refine wpAny_mono (pe.run _ si σh Hi _ (Ii.wish _) qi) (fun z sj ⟨yv, Hj, Ij, rj, acc, hL2, hz, nx⟩ => ?_) fun u s' x => bad _ u s' x
        exact app_ok (X := X.blk sc Hc scope ce fp) Ij.unwish hL2 hz rj fun sk Ik => again Ik nx
  exact codeAny_compStart_list loop (T.self X.A 0 _ _ _ tnd loop)
end
end DL
set_option Elab.async false
set_option linter.all false
set_option maxRecDepth 100000
set_option maxHeartbeats 4000000
/-! DLq: list comprehensions whose element may raise: meanings and rules. -/
namespace DL
open PySem PySem.Spec PyProof.Rows L2
section
variable {X : Cx} {scope : Scope} {W : WX} {tg iter elt : Expr} {ifs : List Expr} {own : List (Str × Nat)} {pos : Pos} {wi : TI} {g : TG} {tt : TT} {te : WX → TE}
theorem pe_lcx (hst : X.stack = X.env :: X.outer) (hfr : X.env.frame = some X.env.locals) (tk : Takes X W) (hc : X.calm = true) (hN : X.N.Nodup) (hi : PI X tg iter wi) (ok : BlkOk X.N X.env.scope scope own)
    (hg : ∀ (s : Shared) (H : Hp) (C : Addr) (cl : List (Str × Addr)) (fp : List Addr), PG (X.blk s H scope (compEnvC scope cl C X.env) fp) tg g) (ht : ∀ (s : Shared) (H : Hp) (C : Addr) (cl : List (Str × Addr)) (fp : List Addr), PTs (X.blk s H scope (compEnvC scope cl C X.env) fp) ifs tt)
    (he : PEx X scope elt te) (hsf : ∀ x, foldedSetIterable iter X.env x = pure x := by intro _; rfl) :
    PE X (.ListComp elt [⟨tg, iter, ifs, 0⟩] scope pos) (fun σ H Q => tLc wi g tt (te (inW W σ)) (own.map (·.2)) σ H Q) := by
  refine ⟨fun pins s σ H Q I h => ?_⟩
  rw [eval_ListComp]
  refine lcx_core hst hfr tk hc hN I hi ok hg ht he hsf h fun L ce s' m H' I' q hm f => ⟨m, hm, fun h'' sb => ?_⟩
  exact ⟨.ref L, H', I'.turned (t' := s'.toks) (fun b o hb e => (sb.2 b hb).trans e) f.1 f.2.1 f.2.2.2.1 f.2.2.2.2.1 f.2.2.2.2.2, rfl, q⟩
theorem ps_setLcx {i : Nat} {y : Str} {py spos : Pos} (hst : X.stack = X.env :: X.outer) (hfr : X.env.frame = some X.env.locals) (tk : Takes X W) (hc : X.calm = true) (hN : X.N.Nodup) (hy : X.N[i]? = some y) (hyl : X.env.scope.names.lookup y = some .local)
    (hsw : swapsWith (.ListComp elt [⟨tg, iter, ifs, 0⟩] scope pos) (some (.Name y py)) spos.line X.env = pure true) (hi : PI X tg iter wi) (ok : BlkOk X.N X.env.scope scope own)
    (hg : ∀ (s : Shared) (H : Hp) (C : Addr) (cl : List (Str × Addr)) (fp : List Addr), PG (X.blk s H scope (compEnvC scope cl C X.env) fp) tg g) (ht : ∀ (s : Shared) (H : Hp) (C : Addr) (cl : List (Str × Addr)) (fp : List Addr), PTs (X.blk s H scope (compEnvC scope cl C X.env) fp) ifs tt)
    (he : PEx X scope elt te) (hsf : ∀ x, foldedSetIterable iter X.env x = pure x := by intro _; rfl) :
    PS X (.Assign [.Name y py] (.ListComp elt [⟨tg, iter, ifs, 0⟩] scope pos) spos) (tAsg (fun σ H Q => tLc wi g tt (te (inW W σ)) (own.map (·.2)) σ H Q) (gName i)) := by
  refine ⟨fun pins s σ H En I h => ?_⟩
  rw [exec_Assign_Name_used _ _ _ _ hsw]
  refine wpAny_bind (wpAny_standAt (wpAny_bind ?_))
  show wpAny _ X.A (do let _ ← comprehension (.ListComp elt [⟨tg, iter, ifs, 0⟩] scope pos) scope X.env (firstIterPos [⟨tg, iter, ifs, 0⟩] pos) (newList []) false (eval iter X.env) (some (assign (.Name y py) X.env))) _ _ s
  have h : tLc wi g tt (te (inW W σ)) (own.map (·.2)) σ H (fun x H1 => gName i x σ H1 En.nx) := h
  refine wpAny_bind (thn (lcx_core (Qf := fun _ s' => SP X pins En .next s') hst hfr tk hc hN I hi ok hg ht he hsf h fun L ce s' m H' I' q hm f => ?_) fun _ s' hq => wpAny_pure (wpAny_pure hq))
  show wpAny _ _ (assign (.Name y py) X.env (.ref L)) _ _ _
  refine wpAny_assign_Name (store_ok2 (v := V.ref L) I' hN hy (.inl hyl) rfl (fun s2 I2 ⟨a, sb, ha⟩ => ?_) (.inr hyl))
  refine ⟨m, hm.sameBut sb ?_, fun h3 sb3 => ⟨_, H', I2.turned (t' := s2.toks) (fun b o hb e => (sb3.2 b hb).trans e) f.1 f.2.1 f.2.2.2.1 f.2.2.2.2.1 f.2.2.2.2.2, q⟩⟩
  rcases ha with z | z
  · rw [z]; exact f.2.1
  · exact fun e => f.2.2.2.2.1 y a z e.symm
end
def compRX (T : Tg) (mt : Lo → M Bool) (me : Lo → M D) (cnd : Cnd) (lo : Lo) : List D → List D → M (List D)
  | [], acc => fun s => if cndB cnd s = true then .ok acc s else .bad
  | d :: ds, acc => fun s => if cndB cnd s = true then (match setT T d lo with
    | none => .bad
    | some lo1 => (noX (mt lo1 s)).bind fun b s1 => if b = true then (me lo1 s1).bind fun y s2 => (if acc.length < sizeLine then compRX T mt me cnd lo ds (acc ++ [y]) s2 else .bad) else compRX T mt me cnd lo ds acc s1) else .bad
def mCompX (fr : Bool) (own : List Nat) (T : Tg) (mi : Lo → M Src) (mt : Lo → M Bool) (me : Lo → M D) : Lo → M D := fun lo s => (mi lo s).bind fun S s1 => (compRX T mt me S.cnd (wipeD lo own) S.items [] s1).bind fun ys s2 => finD fr ys s2
section
variable {K : PySem.W.Frag} {c : ClsM} {W : WX} {σ : L2.St} {ρ ρ1 ρ2 ρ4 : Rg} {H H1 H2 H4 : Hp} {α β α' β' : Type} {rep : RepT α β} {rep' : RepT α' β'}
theorem RepS.fresh' {s : Sto} {a : Addr} (rs : RepS K ρ H s) (ha : a ∈ ρ.t) : a ∉ ρ.l := (rs.tmp a ha).2
/-- a part that may raise, run while Da is being made -/
theorem okR.bindX {Da : Addr} {Q : β' → Hp → Prop} {Q' : β → Hp → Prop} {r : R α} {f : α → M α'} (tn : ∀ a ∈ ρ1.t, H1 a ≠ none) (tl : ∀ a ∈ ρ1.t, a ∉ ρ1.l) (t4 : ρ4.t = Da :: ρ1.t) (hDa : H1 Da = none) (L4 : Ext ρ1 H1 ⟨ρ4.l, ρ1.t⟩ H4) (h : okR K c W σ ρ1 H1 rep' Q (r.bind f))
    (q : ∀ a s b ρ' H', okR K c W σ ρ1 H1 rep' Q (f a s) → Ext ρ4 H4 ρ' H' → rep ρ' H' a b → RepS K ρ' H' s → Q' b H') {σ' : L2.St} : okR K c (inW W σ) σ' ρ4 H4 rep Q' r := by
  cases r with
  | ok a s => exact fun b ρ' H' e' rb rs => q a s b ρ' H' h e' rb rs
  | exc x s =>
    intro v dd ρ' H' e' rx rs
    have t' : ρ'.t = Da :: ρ1.t := by rw [e'.tm, t4]
    have hlow : ∀ a, ¬ ρ'.has a → ¬ (⟨ρ'.l, ρ1.t⟩ : Rg).has a := fun a hn z => hn (z.elim .inl fun z => .inr (by rw [t']; exact List.mem_cons_of_mem _ z))
    have ml : Mon ρ' H' ⟨ρ'.l, ρ1.t⟩ H' := ⟨fun a o ha hn => ⟨ha, hlow a hn⟩, fun _ _ z => z⟩
    refine h v dd ⟨ρ'.l, ρ1.t⟩ H' (L4.trans (e'.low (t := ρ1.t))) ?_ ⟨rs.len, rs.nd, fun n a ob q1 q2 => (rs.obj n a ob q1 q2).mono ml.f ml.g rfl, fun a ha => rs.tmp a (by rw [t']; exact List.mem_cons_of_mem _ ha)⟩
    obtain ⟨x1, x2⟩ := rx
    refine ⟨x1, ?_⟩
    cases dd with
    | none => exact x2
    | some d =>
      obtain ⟨vs, y1, y2, y3⟩ := x2
      exact ⟨vs, ⟨y1.1, hlow d y1.2⟩, y2, Reps.mon ml y3⟩
  | bad => exact h.elim
end
section
variable {X : Cx} {c : ClsM} {W : WX} {pos : Pos}
theorem comp_runX {fr : Bool} {own : List Nat} {T : Tg} {mi : Lo → M Src} {mt : Lo → M Bool} {me : Lo → M D} {σ : L2.St} {H : Hp} {Q : VK} (hT : ∀ i ∈ T.slots, i ∈ own) (h : tM X.K c W (mCompX fr own T mi mt me) σ H Q) :
    tLc (tMI X.K c W mi) (gT X.K T) (tMB X.K c WF mt) (tM X.K c (inW W σ) me) own σ H Q := by
  obtain ⟨ρ, lo, s, hl, hs, h⟩ := h
  refine ⟨ρ, lo, s, hl, hs, (okR.bind h).imp fun J H1 q => ?_⟩
  obtain ⟨ρ1, s1, S, e1, rs1, rJ, h1⟩ := q
  intro Da hDa
  have hl1 : RepLo X.K ρ1 H1 (wipe σ own) (wipeD lo own) := (hl.ext e1).wipe own
  refine ⟨fun i m H => m = S.items.length - i ∧ i ≤ S.items.length ∧ ∃ ρ s acc vs, ρ.t = Da :: ρ1.t ∧ Ext ρ1 H1 ⟨ρ.l, ρ1.t⟩ H ∧ Mon ρ1 H1 ρ H ∧ RepS X.K ρ H s ∧ H Da = some (.lst vs) ∧ Reps X.K ρ H acc vs ∧
      okR X.K c W σ ρ1 H1 (rD X.K) Q ((compRX T mt me S.cnd (wipeD lo own) (S.items.drop i) acc s).bind fun ys s2 => finD fr ys s2), ⟨_, rfl, Nat.zero_le _, ⟨ρ1.l, Da :: ρ1.t⟩, s1, [], [], rfl, Ext.alloc hDa, mon_tmp (K := X.K) hDa, reps_tmp rs1 hDa, upd_same, rfl, h1⟩, ?_⟩
  rintro i m H2 ⟨rfl, hi2, ρ2, s2, acc, vs, ht, e2, mo2, rs2, hD, racc, h2⟩
  have DaT : Da ∈ ρ2.t := by rw [ht]; exact List.mem_cons_self
  have DaL : Da ∉ ρ2.l := (rs2.tmp Da DaT).2
  by_cases hlt : i < S.items.length
  · rw [List.drop_eq_getElem_cons hlt] at h2
    unfold compRX at h2
    by_cases hc2 : cndB S.cnd s2 = true
    · rw [if_pos hc2] at h2
      obtain ⟨go, yl⟩ := (rJ ρ2 H2 s2 mo2 rs2 hc2).1 i _ (List.getElem?_eq_getElem hlt)
      refine .inr ⟨go, fun H => ∃ ρ s acc vs, ρ.t = Da :: ρ1.t ∧ Ext ρ1 H1 ⟨ρ.l, ρ1.t⟩ H ∧ Mon ρ1 H1 ρ H ∧ RepS X.K ρ H s ∧ H Da = some (.lst vs) ∧ Reps X.K ρ H acc vs ∧
        okR X.K c W σ ρ1 H1 (rD X.K) Q ((compRX T mt me S.cnd (wipeD lo own) (S.items.drop (i + 1)) acc s).bind fun ys s2 => finD fr ys s2), fun H' q => ⟨S.items.length - (i + 1), by omega, rfl, hlt, q⟩, fun x H' hy => ?_⟩
      obtain ⟨ρ3, e3, rs3, rx⟩ := yl x H' hy
      cases et : setT T S.items[i] (wipeD lo own) with
      | none => rw [et] at h2; exact h2.elim
      | some lo3 =>
        rw [et] at h2
        refine gT_run rx et (hl1.mon (mo2.trans e3.mon)) fun σ' r' hw => ⟨?_, ρ3, lo3, s2, r', rs3, ?_⟩
        · rw [hw own hT, wipe_idem]
        have h3 : okR X.K c W σ ρ1 H1 (rD X.K) Q ((noX (mt lo3 s2)).bind fun b s1 => (if b = true then (me lo3 s1).bind fun y s2 => (if acc.length < sizeLine then compRX T mt me S.cnd (wipeD lo own) (S.items.drop (i + 1)) (acc ++ [y]) s2 else .bad) else compRX T mt me S.cnd (wipeD lo own) (S.items.drop (i + 1)) acc s1).bind fun ys s2 => finD fr ys s2) := by
          cases eb : mt lo3 s2 with
          | ok b s' => simp only [eb] at h2; exact h2
          | exc x s' => simp only [eb] at h2; exact h2
          | bad => simp only [eb] at h2; exact h2
        refine okR.bindN h3 fun b s4 b' ρ4 H4 h4 e4 rb rs4 => ?_
        obtain rfl : b = b' := rb
        have e24 := e3.trans e4
        have t4 : ρ4.t = Da :: ρ1.t := by rw [e4.tm, e3.tm, ht]
        have hD4 : H4 Da = some (.lst vs) := e24.keep _ _ hD DaL
        have L4 : Ext ρ1 H1 ⟨ρ4.l, ρ1.t⟩ H4 := e2.trans (e24.low (t := ρ1.t))
        have M4 : Mon ρ1 H1 ρ4 H4 := mo2.trans e24.mon
        cases b with
        | false => exact iteF ⟨ρ4, s4, acc, vs, t4, L4, M4, rs4, hD4, Reps.ext e24 racc, h4⟩
        | true =>
          refine iteT ⟨ρ4, lo3, s4, r'.ext e4, rs4, ?_⟩
          have h5 : okR X.K c W σ ρ1 H1 (rD X.K) Q ((me lo3 s4).bind fun y s2 => (if acc.length < sizeLine then compRX T mt me S.cnd (wipeD lo own) (S.items.drop (i + 1)) (acc ++ [y]) s2 else .bad).bind fun ys s2 => finD fr ys s2) := by
            rw [if_pos rfl] at h4
            cases eb : me lo3 s4 with
            | ok b s' => simp only [eb] at h4; exact h4
            | exc x s' => simp only [eb] at h4; exact h4
            | bad => simp only [eb] at h4; exact h4
          refine okR.bindX (fun a ha => (rs1.tmp a ha).1) (fun a ha => rs1.fresh' ha) t4 hDa L4 h5 fun y s5 yv ρ5 H5 h6 e5 ry rs5 => ?_
          by_cases hz : acc.length < sizeLine
          · rw [if_pos hz] at h6
            have e25 := e24.trans e5
            have hD5 : H5 Da = some (.lst vs) := e25.keep _ _ hD DaL
            have t5 : ρ5.t = Da :: ρ1.t := by rw [e5.tm, t4]
            have DaT5 : Da ∈ ρ5.t := by rw [t5]; exact List.mem_cons_self
            have e1u : Ext ρ1 H1 ⟨ρ5.l, ρ1.t⟩ (upd H5 Da (.lst (vs ++ [yv]))) := by
              have z := L4.trans (e5.low (t := ρ1.t))
              refine ⟨z.pre, rfl, fun a o ha hn => ?_, z.new, fun a ha => z.dom a (upd_none ha)⟩
              rw [upd_ne (ne_of_none ha hDa)]
              exact z.keep a o ha hn
            exact ⟨vs, hD5, by rw [← racc.length]; exact hz, ρ5, s5, acc ++ [y], vs ++ [yv], t5, e1u, (M4.trans e5.mon).trans (mon_wr DaT5), reps_wr rs5 DaT5, upd_same,
              Reps.append (Reps.mon (mon_wr DaT5) (Reps.ext e25 racc)) ⟨yv, [], rfl, Rep.mon (mon_wr DaT5) ry, rfl⟩, h6⟩
          · rw [if_neg hz] at h6; exact h6.elim
    · rw [if_neg hc2] at h2; exact h2.elim
  · have ei : i = S.items.length := by omega
    subst ei
    rw [List.drop_length] at h2
    unfold compRX at h2
    by_cases hc2 : cndB S.cnd s2 = true
    · rw [if_pos hc2] at h2
      refine .inl ⟨(rJ ρ2 H2 s2 mo2 rs2 hc2).2, ?_⟩
      have DaT1 : Da ∉ ρ1.t := fun z => (rs1.tmp Da z).1 hDa
      have hlow : ∀ a, ¬ ρ2.has a → ¬ (⟨ρ2.l, ρ1.t⟩ : Rg).has a := fun a hn z => hn (z.elim .inl fun z => .inr (by rw [ht]; exact List.mem_cons_of_mem _ z))
      have ml : Mon ρ2 H2 ⟨ρ2.l, ρ1.t⟩ H2 := ⟨fun a o ha hn => ⟨ha, hlow a hn⟩, fun _ _ z => z⟩
      have rsl : RepS X.K ⟨ρ2.l, ρ1.t⟩ H2 s2 := ⟨rs2.len, rs2.nd, fun n a ob q1 q2 => (rs2.obj n a ob q1 q2).mono ml.f ml.g rfl, fun a ha => rs2.tmp a (by rw [ht]; exact List.mem_cons_of_mem _ ha)⟩
      cases fr with
      | true => exact h2 (.ref Da) ⟨ρ2.l, ρ1.t⟩ H2 e2 ⟨Da, vs, rfl, At.of hD, fun z => z.elim DaL DaT1, Reps.mon ml racc⟩ rsl
      | false =>
        have eL : Ext ρ1 H1 ⟨ρ2.l ++ [Da], ρ1.t⟩ H2 := by
          obtain ⟨x, hx⟩ := e2.pre
          refine ⟨⟨x ++ [Da], by show ρ2.l ++ [Da] = _; rw [show ρ2.l = ρ1.l ++ x from hx, List.append_assoc]⟩, rfl, e2.keep, fun a ha => ?_, e2.dom⟩
          rcases List.mem_append.mp ha with ha | ha
          · exact e2.new a ha
          · rw [List.mem_singleton.mp ha]; exact .inr hDa
        have hl2 : ∀ a, ¬ ρ2.has a → ¬ (⟨ρ2.l ++ [Da], ρ1.t⟩ : Rg).has a := fun a hn z => by
          rcases z with z | z
          · rcases List.mem_append.mp z with z | z
            · exact hn (.inl z)
            · rw [List.mem_singleton.mp z] at hn; exact hn (.inr DaT)
          · exact hn (.inr (by rw [ht]; exact List.mem_cons_of_mem _ z))
        have m2 : Mon ρ2 H2 ⟨ρ2.l ++ [Da], ρ1.t⟩ H2 := ⟨fun a o ha hn => ⟨ha, hl2 a hn⟩, fun n a hg => by
          show (ρ2.l ++ [Da])[n]? = some a
          rw [List.getElem?_append_left (List.getElem?_eq_some_iff.mp hg).1]; exact hg⟩
        refine h2 (.ref Da) ⟨ρ2.l ++ [Da], ρ1.t⟩ H2 eL ⟨Da, rfl, by show (ρ2.l ++ [Da])[s2.length]? = some Da; rw [rs2.len]; simp⟩ ⟨by simp [rs2.len], ?_, fun n a ob q1 q2 => ?_, fun a ha => ?_⟩
        · show (ρ2.l ++ [Da]).Nodup
          rw [List.nodup_append]
          refine ⟨rs2.nd, by simp, fun a ha b hb => ?_⟩
          rw [List.mem_singleton.mp hb]
          exact fun z => DaL (by rw [← z]; exact ha)
        · have q1 : (ρ2.l ++ [Da])[n]? = some a := q1
          by_cases hn : n < ρ2.l.length
          · rw [List.getElem?_append_left hn] at q1
            rw [List.getElem?_append_left (by rw [rs2.len]; exact hn)] at q2
            exact (rs2.obj n a ob q1 q2).mono m2.f m2.g rfl
          · have hn' : n = ρ2.l.length := by
              have := (List.getElem?_eq_some_iff.mp q1).1
              simp at this; omega
            subst hn'
            rw [List.getElem?_append_right (Nat.le_refl _)] at q1
            rw [List.getElem?_append_right (by rw [rs2.len]; exact Nat.le_refl _)] at q2
            simp [rs2.len] at q1 q2
            subst q1 q2
            exact ⟨vs, hD, Reps.mon m2 racc⟩
        · have z := rs2.tmp a (by rw [ht]; exact List.mem_cons_of_mem _ ha)
          refine ⟨z.1, fun hm => ?_⟩
          rcases List.mem_append.mp hm with hm | hm
          · exact z.2 hm
          · exact DaT1 (by rw [← List.mem_singleton.mp hm]; exact ha)
    · rw [if_neg hc2] at h2; exact h2.elim

theorem pd_lcx (fr : Bool) {elt tg iter : Expr} {ifs : List Expr} {scope : Scope} {T : Tg} (own : List (Str × Nat)) {mi : Lo → M Src} {mt : Lo → M Bool} {me : Lo → M D} (hst : X.stack = X.env :: X.outer) (hfr : X.env.frame = some X.env.locals) (tk : Takes X W) (hc : X.calm = true) (hN : X.N.Nodup) (hi : PI X tg iter (tMI X.K c W mi)) (ok : BlkOk X.N X.env.scope scope own)
    (hg : ∀ (s : Shared) (H : Hp) (C : Addr) (cl : List (Str × Addr)) (fp : List Addr), PG (X.blk s H scope (compEnvC scope cl C X.env) fp) tg (gT X.K T)) (ht : ∀ (s : Shared) (H : Hp) (C : Addr) (cl : List (Str × Addr)) (fp : List Addr), PTs (X.blk s H scope (compEnvC scope cl C X.env) fp) ifs (tMB X.K c WF mt))
    (he : PEx X scope elt fun Wb => tM X.K c Wb me) (hT : ∀ i ∈ T.slots, i ∈ own.map (·.2) := by decide) (hs : ∀ x, foldedSetIterable iter X.env x = pure x := by intro _; rfl) :
    PE X (.ListComp elt [⟨tg, iter, ifs, 0⟩] scope pos) (tM X.K c W (mCompX fr (own.map (·.2)) T mi mt me)) :=
  PE_imp (pe_lcx hst hfr tk hc hN hi ok hg ht he hs) fun _ _ _ h => comp_runX hT h
theorem pd_setLcx (fr : Bool) (i : Nat) {y : Str} {py : Pos} {elt tg iter : Expr} {ifs : List Expr} {scope : Scope} {lpos : Pos} {T : Tg} (own : List (Str × Nat)) {mi : Lo → M Src} {mt : Lo → M Bool} {me : Lo → M D} (hst : X.stack = X.env :: X.outer) (hfr : X.env.frame = some X.env.locals) (tk : Takes X W) (hc : X.calm = true) (hN : X.N.Nodup)
    (hsw : swapsWith (.ListComp elt [⟨tg, iter, ifs, 0⟩] scope lpos) (some (.Name y py)) pos.line X.env = pure true) (hi : PI X tg iter (tMI X.K c W mi)) (ok : BlkOk X.N X.env.scope scope own)
    (hg : ∀ (s : Shared) (H : Hp) (C : Addr) (cl : List (Str × Addr)) (fp : List Addr), PG (X.blk s H scope (compEnvC scope cl C X.env) fp) tg (gT X.K T)) (ht : ∀ (s : Shared) (H : Hp) (C : Addr) (cl : List (Str × Addr)) (fp : List Addr), PTs (X.blk s H scope (compEnvC scope cl C X.env) fp) ifs (tMB X.K c WF mt))
    (he : PEx X scope elt fun Wb => tM X.K c Wb me) (hT : ∀ i ∈ T.slots, i ∈ own.map (·.2) := by decide) (hy : X.N[i]? = some y := by rfl) (hyl : X.env.scope.names.lookup y = some .local := by rfl) (hs : ∀ x, foldedSetIterable iter X.env x = pure x := by intro _; rfl) :
    PS X (.Assign [.Name y py] (.ListComp elt [⟨tg, iter, ifs, 0⟩] scope lpos) pos) (tMS X.K c W (mSet (.nm i) (mCompX fr (own.map (·.2)) T mi mt me))) := by
  refine PS_imp (ps_setLcx hst hfr tk hc hN hy hyl hsw hi ok hg ht he hs) fun E σ H h => ?_
  show tLc (tMI X.K c W mi) (gT X.K T) (tMB X.K c WF mt) (tM X.K c (inW W σ) me) (own.map (·.2)) σ H fun x H1 => gName i x σ H1 E.nx
  refine comp_runX (X := X) (c := c) (W := W) (fr := fr) hT ?_
  obtain ⟨ρ, lo, s, hl, hs, h⟩ := h
  refine ⟨ρ, lo, s, hl, hs, (okS.bind hl h).imp fun x H1 q => ?_⟩
  obtain ⟨ρ1, s1, a, e1, rs1, ra, h1⟩ := q
  exact h1 _ ρ1 H1 Ext.refl ((hl.ext e1).set i ra) rs1
/-- a call inside a part that may raise -/
theorem pd_callC {k n : Nat} {x : Str} {p : Pos} {e : Expr} {es : List Expr} {ps : List Str} {m : List D → M D} {ma : Lo → M (List D)} (F : FnD X.prog X.w X.K X.mg X.base c k x ps m) (hr : Room k X.A) (hgd : X.A.guards = some []) (tk : TakesC X W) (ha : PA X (e :: es) (tMA X.K c W ma)) (hg : Gl X x := by rfl)
    (hdb : (x == ("__debug__" : Str)) = false := by decide) (he : starEach (e :: es) X.env = (false, eval e X.env) :: starEach es X.env := by rfl) (hpl : (backTo pos (starEach es X.env)).any (·.1) = false := by rfl) (hps : ps.length = n := by rfl) :
    PE X (.Call (.Name x p) (e :: es) [] pos) (tM X.K c W (mCall n m ma)) := by
  subst hps
  obtain ⟨f, fd, hm, hk, hb, F⟩ := F.ex
  constructor
  intro pins s σ H Q J h
  apply wpAny_Call_Name_kw
  apply ld_glob J hg hm _ hdb
  refine PySem.W.callWith_K (h₀ := X.base) J.ok.mod.kin hk ?_ he hpl
  obtain ⟨ρ, lo, st, hl, hs, h⟩ := h
  refine thn (ha.run pos pins s σ H _ J ⟨ρ, lo, st, hl, hs, okR.bind h⟩) ?_
  intro us s1 q
  obtain ⟨vs, H1, J1, rv, ρ1, st1, ds, e1, rs1, rds, h1⟩ := q
  refine ⟨J1.kIn, ?_⟩
  split at h1
  · rename_i hn
    have sp : spM X.K c ps.length m vs H1 Q (fun v d H => W v d σ H) := ⟨rds.length.symm.trans hn, ρ1, ds, st1, rds, rs1, okR_call h1⟩
    have hl2 : us.length = ps.length := rv.length.symm.trans (F.len sp)
    have bb := hb s1 us J1.kIn (by rw [List.append_nil]; exact hl2)
    rw [List.append_nil] at bb
    apply wpAny_call
    apply codeAny_mono (F.run hr hgd J1.env0 bb rv sp)
    intro res s' hq
    cases res with
    | ok fl =>
      cases fl <;> first
        | exact False.elim hq
        | exact J1.after hq
    | error e => exact tk σ pins H1 s1 e s' J1 hq
  · exact h1.elim
end
end DL
set_option Elab.async false
set_option linter.all false
set_option maxRecDepth 100000
set_option maxHeartbeats 4000000
/-! DLr: a try whose clause keeps the exception as a value. -/
namespace DL
open PySem PySem.Spec PyProof.Rows L2
theorem exK_ok {P : Program} {w : World} {H : Hp} {h : Heap} {a : Addr} {cls : Value} {d : Option Addr} {oe : Obj} {vs : Array Value} (e : h.get? a = some oe) (z : Zc cls d oe) (q : oe.data = .fields vs) : ObjOk P w H h a (exK a cls d) :=
  ⟨⟨oe, vs, e, z, q⟩, ⟨oe, e⟩, fun _ _ ⟨o, v, y1, y2⟩ k => ⟨o, v, k o y1, y2⟩⟩
section
variable {X : Cx} {pins : List (Addr × Obj)} {σ : L2.St} {H : Hp} {s : Shared} {a : Addr} {cls : Value} {d : Option Addr}
theorem exK_at {o : HO} (h : H a = some o) (n : H a = none) : False := by rw [n] at h; cases h
/-- an object that is nobody's becomes a tracked exception -/
theorem Inv.track {oe : Obj} {vs : Array Value} (I : Inv X pins σ H s) (n : H a = none) (n0 : X.s_0.heap.get? a = none) (nL : a ≠ X.env.locals) (np : ∀ p ∈ X.pn ++ pins, p.1 ≠ a) (e : s.heap.get? a = some oe) (z : Zc cls d oe) (q : oe.data = .fields vs) : Inv X pins σ (upd H a (exK a cls d)) s := by
  have ne : ∀ {b : Addr} {o : HO}, H b = some o → b ≠ a := fun {b o} h y => by rw [y] at h; exact exK_at h n
  have old : ∀ {b : Addr} {o : Obj}, X.s_0.heap.get? b = some o → b ≠ a := fun {b o} h y => by rw [y, n0] at h; cases h
  refine ⟨I.ok, I.os, I.bare, ⟨I.base.keep, I.base.slot, fun b o h1 h2 h3 => ?_, I.base.there, fun b xs h1 => ?_, fun b o u h1 => ?_, fun b ps h1 => ?_⟩, I.loc, I.cell, ?_, fun x c h1 => ?_, fun p hp => ?_, fun b u h1 => ?_, I.len⟩
  · rw [upd_ne (old h1)]; exact I.base.free b o h1 h2 h3
  · have y := I.base.tups b xs h1
    rw [upd_ne (ne y)]; exact y
  · have y := I.base.frzs b o u h1
    rw [upd_ne (ne y)]; exact y
  · obtain ⟨m, y⟩ := I.base.tbls b ps h1
    exact ⟨m, by rw [upd_ne (ne y)]; exact y⟩
  · rw [upd_ne nL.symm]; exact I.free
  · obtain ⟨v, o, y1, y2⟩ := I.cell x c h1
    have hc : c ≠ a := fun y => by
      rw [y, e] at y1; cases y1
      rw [q] at y2; cases y2
    rw [upd_ne hc]; exact I.freeC x c h1
  · obtain ⟨h1, h2, h3⟩ := I.pin p hp
    exact ⟨h1, by rw [upd_ne (np p hp)]; exact h2, h3⟩
  · by_cases hb : b = a
    · subst hb
      rw [upd_same] at h1; cases h1
      exact exK_ok e z q
    · rw [upd_ne hb] at h1
      exact (I.hok b u h1).stay (fun _ _ _ y => y) (fun c y => by rw [upd_ne (ne y)]; exact y) fun c xs y => by rw [upd_ne (ne y)]; exact y
theorem Inv.inSuite (I : Inv X pins σ H s) : Inv (X.suite a (X.pn ++ pins)) [] σ H s :=
  ⟨I.ok.suite _ _, I.os, I.bare, I.base, I.loc, I.cell, I.free, I.freeC, fun p hp => I.pin p (by rw [List.append_nil] at hp; exact hp), I.hok, I.len⟩
theorem Inv.outSuite (I : Inv (X.suite a (X.pn ++ pins)) [] σ H s) (ok : X.Ok) : Inv X pins σ H s :=
  ⟨ok, I.os, I.bare, I.base, I.loc, I.cell, I.free, I.freeC, fun p hp => I.pin p (List.mem_append_left _ hp), I.hok, I.len⟩
end
/-- the wish of 'except x as n', the exception kept -/
def wKept (K : PySem.W.Frag) (cv : Value) (i : Nat) (ts : TS) (Wout : WX) (D : Ends) : WX := fun cls d σ H =>
  ∃ b, PySem.W.exmOne K cls cv = some b ∧ (b = true → ∀ a, H a = none → ts { nx := fun σ' H' => D.nx (σ'.set i none) H', rt := D.rt, bk := fun σ' H' => D.bk (σ'.set i none) H', ct := fun σ' H' => D.ct (σ'.set i none) H' } (σ.set i (some (.ref a))) (upd H a (exK a cls d))) ∧ (b = false → Wout cls d σ H)
section
variable {X : Cx} {x n : Str} {cv : Value} {i : Nat} {body suite : List Stmt} {b₀ : Stmt} {np pos pos' : Pos} {tb : WX → TS} {ts : TS} {Wout : WX}
theorem ps_try_kept (hs : X.stack = X.env :: X.outer) (hf : X.env.frame = some X.env.locals) (hx0 : X.ex = []) (hN : X.N.Nodup) (hi : X.N[i]? = some n) (hln : X.env.kindOf n = some .local) (hc : Names X x cv) (tk : Takes X Wout)
    (hb : ∀ (W : WX) (pn : List (Addr × Obj)) (xe : Value → Shared → Prop), Takes (X.tr pn xe) W → PassesOwn (model X.prog X.w) X.A X.env xe → PSs (X.tr pn xe) body (tb W))
    (hsu : ∀ (a : Addr) (pn : List (Addr × Obj)), PSs (X.suite a pn) (b₀ :: suite) ts) :
    PS X (.Try body [.ExceptHandler (some (.Name x np)) (some n) (b₀ :: suite) pos'] [] [] pos) (fun D σ H => tb (wKept X.K cv i ts Wout D) D σ H) := by
  refine ⟨fun pins s σ H D I h => ?_⟩
  have ok := I.ok
  have frm : X.A.frames = some (X.env :: X.outer) := by rw [ok.frames, hs]
  refine wpAny_Try_except (wpAny_mono ((hb (wKept X.K cv i ts Wout D) (X.pn ++ pins) (fun e s₁ => wpAny (model X.prog X.w) X.A (noteFrame e X.env) (fun _ s₂ => wpAny (model X.prog X.w) X.A (setFlight e none) (fun _ s₃ =>
    wpAny (model X.prog X.w) X.A (handleBy e X.env [.ExceptHandler (some (.Name x np)) (some n) (b₀ :: suite) pos']) (SP X pins D) X.xe s₃) X.xe s₂) X.xe s₁) (fun u s' xx => ?_) PassesOwn.looking).run [] s σ H D (I.toTry _) h) (fun f s1 hsp => ?_) fun e s1 he => he)
  · obtain ⟨a, B, sI, pins', σ1, H1, cls, d, rfl, J0, nb, up, sky, na, os, ag, b, hb1, hyes, hno⟩ := xx
    have J : Inv X pins σ1 H1 sI := J0.ofTry ok
    have sky : Sky B (X.env :: X.outer) a (Zc cls d) X.env.locals s'.heap := by rw [← hs]; exact sky
    show wpAny (model X.prog X.w) X.A (noteFrame (.ref a) X.env) _ _ _
    refine Sky.land Zc.steady frm hf sky fun h3 fl3 up3 => ?_
    have I3 : Inv X pins σ1 H1 { s' with heap := h3 } := J.landed nb fl3.1 (up.trans up3) os ag
    have nofr : ∀ {h : Heap} {o : Obj} {vs : Array Value}, h.FunFrames B (X.env :: X.outer) → h.get? a = some o → o.data = .fields vs → a ∉ frs (X.env :: X.outer) := fun {h o vs} ff e dd hm => by
      obtain ⟨_, o', e', y⟩ := ff.mem hm
      rw [e] at e'; cases e'
      exact y _ dd
    obtain ⟨oe3, vs3, he3, hz3, hd3⟩ := fl3.there
    have nfr := nofr fl3.2.2.1 he3 hd3
    have nL : a ≠ X.env.locals := fun z => nfr (List.mem_filterMap.mpr ⟨X.env, List.mem_cons_self, by rw [hf, z]⟩)
    have nI : sI.heap.get? a = none := by
      cases q : sI.heap.get? a with
      | none => rfl
      | some o =>
        have z := nb a o q (by rw [hs]; exact nfr)
        rw [fl3.2.1] at z; cases z
    have n0 : X.s_0.heap.get? a = none := by
      cases q : X.s_0.heap.get? a with
      | none => rfl
      | some o =>
        obtain ⟨o', z⟩ := J.base.there a o q (by rw [hx0]; exact fun z => nomatch z)
        rw [nI] at z; cases z
    have npin : ∀ p ∈ X.pn ++ pins, p.1 ≠ a := fun p hp z => by
      have y := (J.pin p hp).1
      rw [z, nI] at y; cases y
    refine wpAny_handleBy_cons (codeAny_handlers_test ?_) (by intro q; cases q)
    have LT : PySem.W.Looks (model X.prog X.w) h3 (typeOf (.ref a)) cls := fun A Q E s k q => wpAny_typeOf_ref (k _ _ he3) (by rw [hz3.1]; exact q)
    have LM := PySem.W.exm_one (M := model X.prog X.w) I3.kIn LT hb1
    have S3 : Inv (X.suite a (X.pn ++ pins)) [] σ1 H1 { s' with heap := h3 } := Inv.inSuite I3
    have test : ∀ {Q : Value → Shared → Prop} {E : Value → Shared → Prop}, Q cv { s' with heap := h3 } → wpAny (model X.prog X.w) (X.A.mark (some (.ref a))) (eval (.Name x np) X.env) Q E { s' with heap := h3 } := fun {Q E} q => by
      obtain ⟨hg, hdbg, hm | ⟨hm, hv, hnn⟩⟩ := hc
      · exact ld_glob (X := X.suite a (X.pn ++ pins)) S3 hg hm q hdbg
      · exact ld_blt (X := X.suite a (X.pn ++ pins)) S3 hg hm hv q hnn hdbg
    refine test (LM.here ?_)
    cases b with
    | true =>
      refine codeAny_handlers_suite_as (HandSPX.lands_againZ fl3 fun h4 fl4 up4 => ?_)
      have I4 : Inv X pins σ1 H1 { s' with heap := h4 } := J.landed nb fl4.1 ((up.trans up3).trans up4) os ag
      obtain ⟨oe4, vs4, he4, hz4, hd4⟩ := fl4.there
      have S4 : Inv (X.suite a (X.pn ++ pins)) [] σ1 (upd H1 a (exK a cls d)) { s' with heap := h4 } := Inv.inSuite (Inv.track I4 na n0 nL npin he4 hz4 hd4)
      refine store_ok (X := X.suite a (X.pn ++ pins)) (v := .ref a) S4 hN hi (.inl hln) rfl (fun s5 S5 => ?_) (.inr hln)
      refine wpAny_mono ((hsu a (X.pn ++ pins)).run [] s5 _ _ _ S5 (hyes rfl a na)) (fun f s6 hsp => ?_) fun _ _ z => z.elim
      have gone : ∀ {σ6 : L2.St} {H6 : Hp} {Q : Shared → Prop}, Inv (X.suite a (X.pn ++ pins)) [] σ6 H6 s6 → (∀ s7, Inv X pins (σ6.set i none) H6 s7 → Q s7) → wpAny (model X.prog X.w) X.A (do bindName X.env n .none; unbindBehindTheSuite X.env n pos') (fun _ s7 => Q s7) X.xe s6 := fun S6 hq => gone_ok (Inv.outSuite S6 ok) hN hi hln hq
      cases f with
      | next =>
        obtain ⟨σ6, H6, S6, q6⟩ := hsp
        exact gone S6 fun s7 J7 => ⟨_, _, J7, q6⟩
      | brk =>
        obtain ⟨σ6, H6, S6, q6⟩ := hsp
        exact gone S6 fun s7 J7 => ⟨_, _, J7, q6⟩
      | cont =>
        obtain ⟨σ6, H6, S6, q6⟩ := hsp
        exact gone S6 fun s7 J7 => ⟨_, _, J7, q6⟩
      | ret u =>
        obtain ⟨v6, σ6, H6, S6, r6, q6⟩ := hsp
        exact gone S6 fun s7 J7 => ⟨_, _, _, J7, r6, q6⟩
    | false =>
      show wpAny _ X.A (handleBy (.ref a) X.env []) _ _ _
      refine wpAny_handleBy_nil ?_
      obtain ⟨_, _, _, oe, vs, T, oT, ts', y1, y2, y3, y4, _⟩ := id fl3
      unfold PySem.passOn
      refine wpAny_bind (wpAny_field y1 y3 y4 ?_)
      rw [if_neg (show ¬ ((Value.ref T == Value.none) = true) from by simp)]
      have out : wpAny (model X.prog X.w) X.A (setFlight (.ref a) X.env.frame) (fun _ s4 => wpAny (model X.prog X.w) X.A (throw (.ref a) : Sem Flow) (SP X pins D) X.xe s4) X.xe { s' with heap := h3 } := by
        rw [hf]
        exact HandSPX.setFlight_upZ fl3 fun h4 hh4 up4 => wpAny_throw (tk _ _ ⟨a, B, sI, pins, σ1, H1, cls, d, rfl, J, nb, (up.trans up3).trans up4, .inr (.inr (by rw [hs]; exact hh4)), na, os, ag, hno rfl⟩)
      first
        | exact wpAny_bind (wpAny_pure (wpAny_bind out))
        | exact wpAny_bind out
  · cases f with
    | next =>
      obtain ⟨σ1, H1, J1, q⟩ := hsp
      exact wpAny_execs_nil ⟨σ1, H1, J1.ofTry ok, q⟩
    | brk =>
      obtain ⟨σ1, H1, J1, q⟩ := hsp
      exact ⟨σ1, H1, J1.ofTry ok, q⟩
    | cont =>
      obtain ⟨σ1, H1, J1, q⟩ := hsp
      exact ⟨σ1, H1, J1.ofTry ok, q⟩
    | ret u =>
      obtain ⟨v, σ1, H1, J1, r, q⟩ := hsp
      exact ⟨v, σ1, H1, J1.ofTry ok, r, q⟩
end
end DL
set_option Elab.async false
set_option linter.all false
set_option maxRecDepth 100000
set_option maxHeartbeats 4000000
/-! DLs: own exceptions over ValueError: their classes, raise, try, fields, isinstance. -/
namespace DL
open PySem PySem.Spec PyProof.Rows L2
/-! ### classes -/
def namedIn (K : PySem.W.Frag) (x : Str) : List Addr := (K.filter fun p => match p.2 with
  | ⟨_, _, .cls cd, _⟩ => decide (cd.name = x)
  | _ => false).map (·.1)
/-- all that is asked of an own exception class over ValueError -/
def excB (K : PySem.W.Frag) (C : Addr) (x : Str) : Bool :=
  (match K.lookup C with
    | some ⟨.type "type", _, .cls cd, sl⟩ => (match cd.mro, sl.toList with
      | .ref C' :: bm, [_, _, _, _, some (.builtin n), _] => C' == C && n == "ValueError.__new__" && !cd.hasDel && cd.hasDict && PySem.HandSPX.refsVE bm && decide (cd.name = x)
      | _, _ => false)
    | _ => false) && decide (PySem.W.findIn K (.ref C) "__setattr__" = some (some (.builtin "object.__setattr__"))) && decide (PySem.W.subIn K (.ref C) (.type "BaseException") = some true) && decide (PySem.W.typeIn K (.ref C) = some (.type "type")) && PySem.W.keepIn K (.ref C) && xfB K C &&
  decide (PySem.W.findIn K (.ref C) "__class__" = some (some (.builtin "object.__class__"))) && decide (PySem.W.specialIn K (.builtin "object.__class__") "__get__" = some (some (.builtin "getset_descriptor.__get__"))) && decide (PySem.W.takesIn K (.builtin "object.__class__") = some true) &&
  decide (PySem.W.mroIn K C (.type "object") = some true) && decide (namedIn K x = [C])
structure ExC (K : PySem.W.Frag) (mg : Str → Option Value) (c : ClsM) (x : Str) (C : Addr) : Prop where
  at_ : mg x = some (.ref C)
  cv : c x = .ref C
  ok : excB K C x = true
section
variable {K : PySem.W.Frag} {mg : Str → Option Value} {c : ClsM} {x : Str} {C : Addr}
theorem lk_mem {a : Addr} {o : Obj} : ∀ {l : List (Addr × Obj)}, l.lookup a = some o → (a, o) ∈ l
  | [], h => by cases h
  | (b, u) :: l, h => by
    rw [List.lookup_cons] at h
    split at h
    · rename_i e
      cases h
      rw [eq_of_beq e]
      exact List.mem_cons_self
    · exact List.mem_cons_of_mem _ (lk_mem h)
theorem named_ok (h : clsNm K C = some x) : C ∈ namedIn K x := by
  unfold clsNm PySem.W.clsIn at h
  split at h
  · rename_i o1 o2 cd sl e
    have hn : cd.name = x := Option.some.inj h
    exact List.mem_map.mpr ⟨(C, ⟨o1, o2, .cls cd, sl⟩), List.mem_filter.mpr ⟨lk_mem e, decide_eq_true hn⟩, rfl⟩
  · cases h
theorem ExC.facts (E : ExC K mg c x C) : OexC K C ∧ XfC K C ∧ clsNm K C = some x ∧ (∀ C', clsNm K C' = some x → C' = C) ∧
    ∀ (a : Addr) (ox : Obj) (od : Option Obj), PySem.W.KitX K (.ref a) (.ref C) (fun h => PySem.W.InstAt h a ox C od) := by
  have q := E.ok
  unfold excB at q
  simp only [Bool.and_eq_true, decide_eq_true_eq] at q
  obtain ⟨⟨⟨⟨⟨⟨⟨⟨⟨⟨q1, q2⟩, q3⟩, q4⟩, q5⟩, q6⟩, q7⟩, q8⟩, q9⟩, q10⟩, q11⟩ := q
  have X := xfB_ok q6
  split at q1
  · rename_i dd cd sl ho
    split at q1
    · rename_i C' bm k0 k1 k2 k3 n k5 hm hs
      simp only [Bool.and_eq_true, beq_iff_eq, Bool.not_eq_true', decide_eq_true_eq] at q1
      obtain ⟨⟨⟨⟨⟨rfl, rfl⟩, hdel⟩, hdict⟩, hr⟩, hnm⟩ := q1
      obtain ⟨nm, bs, mro, ns, qn, hd, sn, sub, ab, col, del⟩ := cd
      dsimp only at hm hdel hdict hnm
      subst hm hdel hdict hnm
      have hsl : sl = #[k0, k1, k2, k3, some (.builtin "ValueError.__new__"), k5] := by
        obtain ⟨l⟩ := sl
        simp only at hs
        rw [hs]
      subst hsl
      refine ⟨⟨⟨nm, qn, ns, bs, bm, sn, sub, ab, col, dd, k0, k1, k2, k3, k5, ho, hr⟩, q2, q3, q4, q5⟩, X, ?_, fun C2 h2 => ?_, fun a ox od => ?_⟩
      · unfold clsNm PySem.W.clsIn
        rw [ho]
        rfl
      · have := named_ok h2
        rw [q11] at this
        exact List.mem_singleton.mp this
      · exact PySem.W.kitx_exc (by unfold PySem.W.clsIn; rw [ho]; rfl) X.ga X.gg q3 q7 q8 q9 q10
    · cases q1
  · cases q1
end
end DL
set_option Elab.async false
set_option linter.all false
set_option maxRecDepth 100000
set_option maxHeartbeats 4000000
/-! DLt: raise, try, fields and isinstance of own exceptions. -/
namespace DL
open PySem PySem.Spec PyProof.Rows L2
/-! ### __init__ -/
/-- __init__(self, f): ValueError.__init__(self, '..'); self.f = f -/
def spI1 (K : PySem.W.Frag) (f : Str) : Sp := fun vs H Q _ => ∃ (a C : Addr) (y : V), vs = [.ref a, y] ∧ OexC K C ∧ PySem.W.findIn K (.ref C) f = some none ∧ H a = some (exo a C none) ∧
  ∀ dx, H dx = none → dx ≠ a → Q .non (upd (upd H dx (exd dx [(f, y)])) a (exo a C (some dx)))
/-- .. two fields -/
def spI2 (K : PySem.W.Frag) (f g : Str) : Sp := fun vs H Q _ => ∃ (a C : Addr) (y z : V), vs = [.ref a, y, z] ∧ OexC K C ∧ PySem.W.findIn K (.ref C) f = some none ∧ PySem.W.findIn K (.ref C) g = some none ∧ H a = some (exo a C none) ∧
  ∀ dx, H dx = none → dx ≠ a → Q .non (upd (upd (upd H dx (exd dx [(f, y)])) a (exo a C (some dx))) dx (exd dx [(g, z), (f, y)]))
section
variable {P : Program} {w : World} {K : PySem.W.Frag} {mg : Str → Option Value} {base : Heap}
theorem init1_ok {N ps : List Str} {f t : Str} {vs : List V} {H : Hp} {Q : VK} {E : XK} (hN : N.length = 2) (h : spI1 K f vs H Q E) :
    tSeq (tDrop (tVeI K (tCons (tVar 0) (tCons (tC (.str t)) tNil)))) (tOst K f (tVar 0) (tVar 1)) { nx := fun _ H' => Q .non H', rt := Q } (L2.start N vs) H := by
  obtain ⟨a, C, y, rfl, T, nf, ha, h⟩ := h
  have e0 : (L2.start N [.ref a, y])[0]? = some (some (.ref a)) := by simp [L2.start]
  have e1 : (L2.start N [.ref a, y])[1]? = some (some y) := by simp [L2.start]
  exact ⟨_, e0, a, C, [.str t], rfl, by simp, T, ha, _, e1, _, e0, a, C, rfl, T, nf, .inl ⟨ha, fun dx n ne => h dx n ne⟩⟩
theorem init2_ok {N ps : List Str} {f g t : Str} {vs : List V} {H : Hp} {Q : VK} {E : XK} (hN : N.length = 3) (h : spI2 K f g vs H Q E) :
    tSeq (tDrop (tVeI K (tCons (tVar 0) (tCons (tC (.str t)) tNil)))) (tSeq (tOst K f (tVar 0) (tVar 1)) (tOst K g (tVar 0) (tVar 2))) { nx := fun _ H' => Q .non H', rt := Q } (L2.start N vs) H := by
  obtain ⟨a, C, y, z, rfl, T, nf, ng, ha, h⟩ := h
  have e0 : (L2.start N [.ref a, y, z])[0]? = some (some (.ref a)) := by simp [L2.start]
  have e1 : (L2.start N [.ref a, y, z])[1]? = some (some y) := by simp [L2.start]
  have e2 : (L2.start N [.ref a, y, z])[2]? = some (some z) := by simp [L2.start]
  refine ⟨_, e0, a, C, [.str t], rfl, by simp, T, ha, _, e1, _, e0, a, C, rfl, T, nf, .inl ⟨ha, fun dx n ne => ⟨_, e2, _, e0, a, C, rfl, T, ng, .inr ⟨dx, _, upd_same, ?_, by simp, h dx n ne⟩⟩⟩⟩
  rw [upd_ne ne, upd_same]
/-- the class's own __init__ -/
structure ExI (P : Program) (w : World) (K : PySem.W.Frag) (mg : Str → Option Value) (base : Heap) (C : Addr) (n : Nat) (sp : Sp) : Prop where
  ex : ∃ (fI : Addr) (fd : FuncData) (ps : List Str), ps.length = n + 1 ∧ PySem.W.findIn K (.ref C) "__init__" = some (some (.ref fI)) ∧ PySem.W.typeIn K (.ref fI) = some (.type "function") ∧ Binds K fd ps [] ∧ FnOk P w K mg base (L2.CX P w) 1 fI fd ps sp
end
/-! ### raise -/
def mRaise (cls : Str) (ns : List Str) (ma : Lo → M (List D)) : Lo → Sto → SR := fun lo s => bindS (ma lo s) lo fun ds s1 => if ds.length = ns.length then .exc ⟨cls, ns.reverse, ds.reverse⟩ lo s1 else .bad
section
variable {X : Cx} {c : ClsM} {W : WX} {pos : Pos}
/-- the heap at the end of making it -/
theorem made_eq {H : Hp} {a d C : Addr} {u : HO} {fs : List (Str × V)} (ha : H a = none) (ne : d ≠ a) {G : Hp} (hG : ∀ b, b ≠ a → b ≠ d → G b = H b) : upd (del G a) d (.xd fs) = upd H d (.xd fs) := by
  funext b
  by_cases hd : b = d
  · rw [hd, upd_same, upd_same]
  · rw [upd_ne hd, upd_ne hd]
    by_cases hb : b = a
    · rw [hb, del_same, ha]
    · rw [del_ne hb, hG b hb hd]
theorem RepX.mk {K : PySem.W.Frag} {ρ : Rg} {H : Hp} {st : Sto} {d C : Addr} {cls : Str} {ns : List Str} {ds : List D} {vs : List V} (hc : c cls = .ref C) (hl : ns.length = vs.length) (hd : H d = none) (rs : RepS K ρ H st) (r : Reps K ρ H ds vs) : RepX K c ρ (upd H d (.xd (ns.zip vs))) (.ref C) (some d) ⟨cls, ns, ds⟩ :=
  ⟨hc.symm, vs, ⟨upd_same, rs.fresh hd⟩, hl, Reps.ext (Ext.alloc hd) r⟩
theorem pd_raise1 {cls f : Str} {C : Addr} {k : Nat} {e : Expr} {es : List Expr} {p rpos : Pos} {ma : Lo → M (List D)} (hc : X.calm = true) (tk : Takes X W) (E : ExC X.K X.mg c cls C) (Ei : ExI X.prog X.w X.K X.mg X.base C 1 (spI1 X.K f)) (nf : PySem.W.findIn X.K (.ref C) f = some none) (hr : Room 2 X.A)
    (ha : PA X (e :: es) (tMA X.K c W ma)) (hg : Gl X cls := by rfl) (hdb : (cls == ("__debug__" : Str)) = false := by decide) (he : starEach (e :: es) X.env = (false, eval e X.env) :: starEach es X.env := by rfl) (hpl : (backTo pos (starEach es X.env)).any (·.1) = false := by rfl) :
    PS X (.Raise (some (.Call (.Name cls p) (e :: es) [] pos)) none rpos) (tMS X.K c W (mRaise cls [f] ma)) := by
  obtain ⟨fI, fd, ps, hps, iC, tI, hb, F⟩ := Ei.ex
  have T := E.facts.1
  refine PS_imp (ps_raise hc tk (pmk_oex T iC tI F hr hb .nil passL hg E.at_ ha hdb he hpl)) fun En σ H h => ?_
  obtain ⟨ρ, lo, s, hl, hs, h⟩ := h
  refine ⟨ρ, lo, s, hl, hs, (okS.bind hl h).imp fun vs H1 q => ?_⟩
  obtain ⟨ρ1, s1, ds, e1, rs1, rds, h1⟩ := q
  split at h1
  · rename_i hn
    have hv : vs.length = 1 := rds.length.symm.trans hn
    obtain ⟨y, rfl⟩ : ∃ y, vs = [y] := by
      match vs, hv with
      | [y], _ => exact ⟨y, rfl⟩
    obtain ⟨d0, rfl⟩ : ∃ y, ds = [y] := by
      match ds, hn with
      | [y], _ => exact ⟨y, rfl⟩
    refine ⟨by simp, fun a na => ⟨a, C, y, rfl, T, nf, upd_same, fun dx n ne => ⟨rfl, dx, [(f, y)], upd_same, by rw [upd_ne ne, upd_same], by rw [upd_ne ne] at n; exact n, ?_⟩⟩⟩
    have nd : H1 dx = none := by rw [upd_ne ne] at n; exact n
    rw [made_eq (H := H1) (u := .xd []) (C := C) na ne fun b h1 h2 => by rw [upd_ne h1, upd_ne h2, upd_ne h1]]
    exact h1 _ _ σ ρ1 _ (Ext.alloc nd) (RepX.mk (ns := [f]) (ds := [d0]) (vs := [y]) E.cv rfl nd rs1 rds) ((hl.ext e1).ext (Ext.alloc nd)) (rs1.alloc nd)
  · exact h1.elim
end
end DL
set_option Elab.async false
set_option linter.all false
set_option maxRecDepth 100000
set_option maxHeartbeats 4000000
/-! DLu: raise with two fields, try, fields and isinstance of caught exceptions. -/
namespace DL
open PySem PySem.Spec PyProof.Rows L2
section
variable {X : Cx} {c : ClsM} {W : WX} {pos : Pos}
theorem pd_raise2 {cls f g : Str} {C : Addr} {k : Nat} {e : Expr} {es : List Expr} {p rpos : Pos} {ma : Lo → M (List D)} (hc : X.calm = true) (tk : Takes X W) (E : ExC X.K X.mg c cls C) (Ei : ExI X.prog X.w X.K X.mg X.base C 2 (spI2 X.K f g)) (nf : PySem.W.findIn X.K (.ref C) f = some none) (ng : PySem.W.findIn X.K (.ref C) g = some none)
    (hr : Room 2 X.A) (ha : PA X (e :: es) (tMA X.K c W ma)) (hg : Gl X cls := by rfl) (hdb : (cls == ("__debug__" : Str)) = false := by decide) (he : starEach (e :: es) X.env = (false, eval e X.env) :: starEach es X.env := by rfl) (hpl : (backTo pos (starEach es X.env)).any (·.1) = false := by rfl) :
    PS X (.Raise (some (.Call (.Name cls p) (e :: es) [] pos)) none rpos) (tMS X.K c W (mRaise cls [f, g] ma)) := by
  obtain ⟨fI, fd, ps, hps, iC, tI, hb, F⟩ := Ei.ex
  have T := E.facts.1
  refine PS_imp (ps_raise hc tk (pmk_oex T iC tI F hr hb .nil passL hg E.at_ ha hdb he hpl)) fun En σ H h => ?_
  obtain ⟨ρ, lo, s, hl, hs, h⟩ := h
  refine ⟨ρ, lo, s, hl, hs, (okS.bind hl h).imp fun vs H1 q => ?_⟩
  obtain ⟨ρ1, s1, ds, e1, rs1, rds, h1⟩ := q
  split at h1
  · rename_i hn
    have hv : vs.length = 2 := rds.length.symm.trans hn
    obtain ⟨y, z, rfl⟩ : ∃ y z, vs = [y, z] := by
      match vs, hv with
      | [y, z], _ => exact ⟨y, z, rfl⟩
    obtain ⟨d0, d1, rfl⟩ : ∃ y z, ds = [y, z] := by
      match ds, hn with
      | [y, z], _ => exact ⟨y, z, rfl⟩
    obtain ⟨_, _, q1, ry, _, _, q2, rz, q3⟩ := rds
    cases q1; cases q2; cases q3
    refine ⟨by simp, fun a na => ⟨a, C, y, z, rfl, T, nf, ng, upd_same, fun dx n ne => ⟨rfl, dx, [(g, z), (f, y)], by rw [upd_ne ne.symm, upd_same], upd_same, by rw [upd_ne ne] at n; exact n, ?_⟩⟩⟩
    have nd : H1 dx = none := by rw [upd_ne ne] at n; exact n
    rw [made_eq (H := H1) (u := .xd []) (C := C) na ne fun b h1 h2 => by rw [upd_ne h2, upd_ne h1, upd_ne h2, upd_ne h1]]
    exact h1 _ _ σ ρ1 _ (Ext.alloc nd) (RepX.mk (ns := [g, f]) (ds := [d1, d0]) (vs := [z, y]) E.cv rfl nd rs1 ⟨z, [y], rfl, rz, y, [], rfl, ry, rfl⟩) ((hl.ext e1).ext (Ext.alloc nd)) (rs1.alloc nd)
  · exact h1.elim
/-! ### try .. except X as e: the exception kept -/
def unsetS (i : Nat) : SR → SR
  | .nx lo s => .nx (lo.set i none) s
  | .bk lo s => .bk (lo.set i none) s
  | .ct lo s => .ct (lo.set i none) s
  | .rt d s => .rt d s
  | _ => .bad
def mTryK (tb : Str → Option Bool) (i : Nat) (mb ms : Lo → Sto → SR) : Lo → Sto → SR := fun lo s => match mb lo s with
  | .exc x lo1 s1 => (match tb x.cls with
    | some true => unsetS i (ms (lo1.set i (some (.exn x.cls x.ns x.ds))) s1)
    | some false => .exc x lo1 s1
    | none => .bad)
  | r => r
/-- what the clause's table says of the classes -/
def TbX (K : PySem.W.Frag) (c : ClsM) (cv : Value) (tb : Str → Option Bool) : Prop := ∀ x b, tb x = some b → PySem.W.exmOne K (c x) cv = some b ∧ (b = true → ∃ C, c x = .ref C ∧ clsNm K C = some x)
theorem pd_tryK {x n : Str} {cv : Value} {body suite : List Stmt} {b₀ : Stmt} {np pos pos' : Pos} {mb ms : Lo → Sto → SR} (tb : Str → Option Bool) (i : Nat) (hs : X.stack = X.env :: X.outer) (hf : X.env.frame = some X.env.locals) (hx0 : X.ex = []) (hN : X.N.Nodup) (tk : Takes X W) (hc : Names X x cv) (ht : TbX X.K c cv tb)
    (hb : ∀ (W' : WX) (pn : List (Addr × Obj)) (xe : Value → Shared → Prop), Takes (X.tr pn xe) W' → PassesOwn (model X.prog X.w) X.A X.env xe → PSs (X.tr pn xe) body (tMS X.K c W' mb))
    (hsu : ∀ (a : Addr) (pn : List (Addr × Obj)), PSs (X.suite a pn) (b₀ :: suite) (tMS X.K c WF ms)) (hi : X.N[i]? = some n := by rfl) (hln : X.env.kindOf n = some .local := by rfl) :
    PS X (.Try body [.ExceptHandler (some (.Name x np)) (some n) (b₀ :: suite) pos'] [] [] pos) (tMS X.K c W (mTryK tb i mb ms)) := by
  refine PS_imp (ps_try_kept hs hf hx0 hN hi hln hc tk hb hsu) fun E σ H h => ?_
  obtain ⟨ρ, lo, s, hl, rs, h⟩ := h
  refine ⟨ρ, lo, s, hl, rs, ?_⟩
  unfold mTryK at h
  cases em : mb lo s with
  | nx lo1 s1 => rw [em] at h; exact h
  | rt d s1 => rw [em] at h; exact h
  | bk lo1 s1 => rw [em] at h; exact h
  | ct lo1 s1 => rw [em] at h; exact h
  | bad => rw [em] at h; exact h
  | exc xn lo1 s1 =>
    rw [em] at h
    simp only at h
    intro v dd σ1 ρ1 H1 e1 rx rl1 rs1
    cases et : tb xn.cls with
    | none => rw [et] at h; exact h.elim
    | some b =>
      rw [et] at h
      obtain ⟨m1, m2⟩ := ht _ _ et
      obtain ⟨hv, rx⟩ := rx
      rw [← hv] at m1
      refine ⟨b, m1, fun hb a na => ?_, fun hb => ?_⟩
      · subst hb
        obtain ⟨C, hC, hnm⟩ := m2 rfl
        have ea := Ext.alloc (ρ := ρ1) (o := exK a v dd) na
        have rv : Rep X.K ρ1 (upd H1 a (exK a v dd)) (.exn xn.cls xn.ns xn.ds) (.ref a) := by
          rw [hv, hC]
          cases dd with
          | none => exact ⟨a, C, none, [], rfl, ⟨At.of upd_same, rs1.fresh na⟩, hnm, .inl ⟨rfl, rx.1⟩, by rw [rx.1]; rfl, by rw [rx.2]; rfl⟩
          | some d =>
            obtain ⟨vs, q1, q2, q3⟩ := rx
            obtain ⟨q1, nd⟩ := q1
            have hd : d ≠ a := fun z => by rw [z, na] at q1; cases q1
            exact ⟨a, C, some d, vs, rfl, ⟨At.of upd_same, rs1.fresh na⟩, hnm, .inr ⟨d, rfl, At.of (by rw [upd_ne hd]; exact q1), nd⟩, q2, by
              have := Reps.ext (Ext.alloc (ρ := ρ1) (o := exK a (.ref C) (some d)) na) q3
              exact this⟩
        have h' : okS X.K c W E ρ H (unsetS i (ms (lo1.set i (some (.exn xn.cls xn.ns xn.ds))) s1)) := h
        refine ⟨ρ1, lo1.set i (some (.exn xn.cls xn.ns xn.ds)), s1, (rl1.ext ea).set i rv, rs1.alloc na, ?_⟩
        cases es : ms (lo1.set i (some (.exn xn.cls xn.ns xn.ds))) s1 with
        | nx lo2 s2 => rw [es] at h'; exact fun σ2 ρ2 H2 e2 rl rs => h' _ ρ2 H2 ((e1.trans ea).trans e2) (rl.setNone i none) rs
        | bk lo2 s2 => rw [es] at h'; exact fun σ2 ρ2 H2 e2 rl rs => h' _ ρ2 H2 ((e1.trans ea).trans e2) (rl.setNone i none) rs
        | ct lo2 s2 => rw [es] at h'; exact fun σ2 ρ2 H2 e2 rl rs => h' _ ρ2 H2 ((e1.trans ea).trans e2) (rl.setNone i none) rs
        | rt d s2 => rw [es] at h'; exact fun v2 ρ2 H2 e2 r rs => h' _ ρ2 H2 ((e1.trans ea).trans e2) r rs
        | exc x2 lo2 s2 => rw [es] at h'; exact h'.elim
        | bad => rw [es] at h'; exact h'.elim
      · subst hb
        exact h v dd σ1 ρ1 H1 e1 ⟨hv, rx⟩ rl1 rs1
end
end DL
set_option Elab.async false
set_option linter.all false
set_option maxRecDepth 100000
set_option maxHeartbeats 4000000
/-! DLv: fields and isinstance of caught exceptions; is None. -/
namespace DL
open PySem PySem.Spec PyProof.Rows L2
theorem zip_lookup {K : PySem.W.Frag} {ρ : Rg} {H : Hp} {f : Str} {y : D} : ∀ {ns : List Str} {ds : List D} {vs : List V}, Reps K ρ H ds vs → (ns.zip ds).lookup f = some y → ∃ v, (ns.zip vs).lookup f = some v ∧ Rep K ρ H y v
  | [], _, _, _, h => by cases h
  | _ :: _, [], _, _, h => by cases h
  | n :: ns, d :: ds, _, r, h => by
    obtain ⟨v, vs, rfl, r1, r2⟩ := r
    rw [List.zip_cons_cons, List.lookup_cons] at h
    rw [List.zip_cons_cons, List.lookup_cons]
    split at h
    · cases h; exact ⟨v, rfl, r1⟩
    · exact zip_lookup r2 h
section
variable {X : Cx} {c : ClsM} {W : WX} {pos : Pos}
def mFld (cs : List Str) (f : Str) (m : Lo → M D) : Lo → M D := fun lo s => (m lo s).bind fun d s1 => match d with
  | .exn cls ns ds => if cls ∈ cs then (match (ns.zip ds).lookup f with
    | some y => .ok y s1
    | none => .bad) else .bad
  | _ => .bad
theorem exn_at {pins : List (Addr × Obj)} {σ : L2.St} {H : Hp} {s : Shared} {a C : Addr} {dd : Option Addr} (I : Inv X pins σ H s) (h : H a = some (exK a (.ref C) dd)) : ∃ (oe : Obj) (vs : Array Value), s.heap.get? a = some oe ∧ Zc (.ref C) dd oe ∧ oe.data = .fields vs := by
  have x : ObjOk X.prog X.w H s.heap a (.ext fun h => ∃ (oe : Obj) (vs : Array Value), h.get? a = some oe ∧ Zc (.ref C) dd oe ∧ oe.data = .fields vs) := I.hok a _ h
  exact x.1
theorem pd_fld {e : Expr} {f : Str} {m : Lo → M D} (cs : List Str) (hx : ∀ cls ∈ cs, ∃ C, ExC X.K X.mg c cls C ∧ PySem.W.findIn X.K (.ref C) f = some none) (he : PE X e (tM X.K c W m)) (hb : attributeBase e f X.env (eval e X.env) = eval e X.env := by rfl) : PE X (.Attribute e f pos) (tM X.K c W (mFld cs f m)) := by
  refine ⟨fun pins s σ H Q I h => ?_⟩
  obtain ⟨ρ, lo, st, hl, hs, h⟩ := h
  refine attr_of hb (thn (he.run pins s σ H _ I ⟨ρ, lo, st, hl, hs, okR.bind h⟩) fun u s1 hh => ?_)
  obtain ⟨x, H1, I1, rx, ρ1, s2, d, e1, rs1, rd, h1⟩ := hh
  cases d <;> try exact h1.elim
  rename_i cls ns ds
  simp only at h1
  split at h1
  · rename_i hm
    obtain ⟨C, E, nf⟩ := hx cls hm
    cases el : (ns.zip ds).lookup f with
    | none => rw [el] at h1; exact h1.elim
    | some y =>
      rw [el] at h1
      obtain ⟨_, T, _, uq, _⟩ := E.facts
      obtain ⟨a, C', dd, vs, rfl, ⟨ha, _⟩, hn, hd, _, rr⟩ := rd
      obtain rfl := uq C' hn
      cases (show u = Value.ref a from rx)
      rcases hd with ⟨_, hns⟩ | ⟨dx, rfl, hd, _⟩
      · rw [hns] at el; cases el
      · obtain ⟨oe, fv, ge, gz, gd⟩ := exn_at I1 ha.exK
        have hx : ObjOk X.prog X.w H1 s1.heap dx (.xd (ns.zip vs)) := I1.hok dx _ hd.xd
        obtain ⟨mA, hns, hr⟩ := hx
        obtain ⟨od, ho, hlk⟩ := lookIn_ns hns
        obtain ⟨v, el2, rv⟩ := zip_lookup rr el
        obtain ⟨w, hu, ru⟩ := RelO.some_of (v := v) (o := mA f) (by rw [← el2]; exact hr f)
        have J : PySem.W.InstAt s1.heap a oe C' (some od) := ⟨ge, gz.1, by unfold PySem.W.notCls; rw [gd], by rw [gz.2]; exact ho⟩
        exact HandSPX.exc_get I1.kIn J T.ga T.gg T.exC (PySem.W.findObj_own T.hdC nf rfl (by rw [hlk, hu])) (handed_of ru) ⟨v, H1, I1.tok _, ru, h1 v ρ1 H1 Ext.refl rv rs1⟩
  · exact h1.elim
/-! ### isinstance of a caught exception -/
/-- tb: what the answer is, by the class -/
def isxR (tb : Str → Option Bool) : D → M D
  | .exn cls _ _ => fun s1 => (match tb cls with
    | some b => .ok (.bl b) s1
    | none => .bad)
  | _ => fun _ => .bad
def mIsx (tb : Str → Option Bool) (m : Lo → M D) : Lo → M D := fun lo s => (m lo s).bind (isxR tb)
def rIsx (K : PySem.W.Frag) : List V → Hp → VK → Prop := fun xs H Q => ∃ (a C : Addr) (dd : Option Addr) (k : V) (u : Value) (b : Bool), xs = [.ref a, k] ∧ ClsV k u ∧ H a = some (exK a (.ref C) dd) ∧
  (∀ (ox : Obj) (od : Option Obj), PySem.W.KitX K (.ref a) (.ref C) (fun h => PySem.W.InstAt h a ox C od)) ∧ (dd = none ∨ ∃ d fs, dd = some d ∧ H d = some (.xd fs)) ∧ PySem.W.kitOne K (.ref C) u = some b ∧ Q (.bl b) H
def rIsxT (K : PySem.W.Frag) : List V → Hp → VK → Prop := fun xs H Q => ∃ (a C tp : Addr) (dd : Option Addr) (ks : List V) (us : List Value) (b : Bool), xs = [.ref a, .ref tp] ∧ H tp = some (.tup ks) ∧ Paired ClsV ks us ∧ H a = some (exK a (.ref C) dd) ∧
  (∀ (ox : Obj) (od : Option Obj), PySem.W.KitX K (.ref a) (.ref C) (fun h => PySem.W.InstAt h a ox C od)) ∧ (dd = none ∨ ∃ d fs, dd = some d ∧ H d = some (.xd fs)) ∧ PySem.W.kitAny K (.ref C) us = some b ∧ Q (.bl b) H
theorem exn_inst {pins : List (Addr × Obj)} {σ : L2.St} {H : Hp} {s : Shared} {a C : Addr} {dd : Option Addr} (I : Inv X pins σ H s) (h : H a = some (exK a (.ref C) dd)) (hd : dd = none ∨ ∃ d fs, dd = some d ∧ H d = some (.xd fs)) : ∃ ox od, PySem.W.InstAt s.heap a ox C od := by
  obtain ⟨oe, fv, ge, gz, gd⟩ := exn_at I h
  rcases hd with rfl | ⟨d, fs, rfl, hd⟩
  · exact ⟨oe, none, ge, gz.1, by unfold PySem.W.notCls; rw [gd], by rw [gz.2]; trivial⟩
  · have hx : ObjOk X.prog X.w H s.heap d (.xd fs) := I.hok d _ hd
    obtain ⟨mA, hns, _⟩ := hx
    obtain ⟨od, ho, _⟩ := lookIn_ns hns
    exact ⟨oe, some od, ge, gz.1, by unfold PySem.W.notCls; rw [gd], by rw [gz.2]; exact ho⟩
theorem call_isx : CallR X (.builtin "isinstance") (rIsx X.K) := by
  intro pins s σ H xs us Q I r h
  obtain ⟨a, C, dd, k, u, b, rfl, hk, ha, kit, hd, e, q⟩ := h
  obtain ⟨u1, u2, rfl, r1, r2⟩ := vals2 r
  cases (show u1 = Value.ref a from r1)
  have e2 := hk.eq r2
  subst e2
  obtain ⟨ox, od, J⟩ := exn_inst I ha hd
  exact PySem.W.kia_one (kit ox od) I.kIn J e (fun z => nomatch z) fun tk => ⟨.bl b, H, I.tok tk, rfl, q⟩
theorem call_isxT : CallR X (.builtin "isinstance") (rIsxT X.K) := by
  intro pins s σ H xs us Q I r h
  obtain ⟨a, C, tp, dd, ks, ws, b, rfl, hT, hk, ha, kit, hd, e, q⟩ := h
  obtain ⟨u1, u2, rfl, r1, r2⟩ := vals2 r
  cases (show u1 = Value.ref a from r1)
  cases (show u2 = Value.ref tp from r2)
  obtain ⟨ox, od, J⟩ := exn_inst I ha hd
  obtain ⟨_, its, rv, o, h1, h2, n, h3⟩ := (show ObjOk X.prog X.w H s.heap tp (.tup ks) from I.hok tp _ hT)
  have e3 := ClsV.all hk rv
  subst e3
  obtain ⟨oc, od2, dt, sl⟩ := o
  simp only at h2 h3
  subst h2 h3
  exact PySem.W.kia_tup (kit ox od) I.kIn J h1 e (fun z => nomatch z) fun tk => ⟨.bl b, H, I.tok tk, rfl, q⟩
end
end DL
set_option Elab.async false
set_option linter.all false
set_option maxRecDepth 100000
set_option maxHeartbeats 4000000
/-! DLw: isinstance by one class or a tuple of classes; is None. -/
namespace DL
open PySem PySem.Spec PyProof.Rows L2
section
variable {X : Cx} {c : ClsM} {W : WX} {pos : Pos}
theorem pe_cls {x : Str} {C : Addr} {p : Pos} (hg : Gl X x) (hm : X.mg x = some (.ref C)) (hd : (x == ("__debug__" : Str)) = false := by decide) : PE X (.Name x p) (tC (.ref C)) :=
  ⟨fun pins s σ H Q I h => ld_glob I hg hm ⟨.ref C, H, I, rfl, h⟩ hd⟩
/-- what a class name is: its value -/
structure ClN (X : Cx) (e : Expr) (k : V) (u : Value) : Prop where
  pe : PE X e (tC k)
  eq : ClsV k u
theorem cln_own {x : Str} {C : Addr} {p : Pos} (hm : X.mg x = some (.ref C)) (hg : Gl X x := by rfl) (hd : (x == ("__debug__" : Str)) = false := by decide) : ClN X (.Name x p) (.ref C) (.ref C) := ⟨pe_cls hg hm hd, .own C⟩
theorem cln_ty {x : Str} {n : String} {p : Pos} (hm : X.mg x = none) (hv : bootBuiltins x = some (.type n) := by decide +kernel) (hg : Gl X x := by rfl) (hn : x ≠ "__name__" := by decide) (hd : (x == ("__debug__" : Str)) = false := by decide) : ClN X (.Name x p) (.ty n) (.type n) := ⟨pe_bltn hg hm hv rfl hn hd, .ty n⟩
/-- class names, in order -/
structure ClNs (X : Cx) (es : List Expr) (ks : List V) (us : List Value) : Prop where
  pa : PA X es (fun _ H Q => Q ks H)
  eq : Paired ClsV ks us
theorem cln_nil : ClNs X [] [] [] := ⟨pa_nil, .nil⟩
theorem cln_cons {e : Expr} {es : List Expr} {k : V} {ks : List V} {u : Value} {us : List Value} (h : ClN X e k u) (t : ClNs X es ks us) (hs : starEach (e :: es) X.env = (false, eval e X.env) :: starEach es X.env := by rfl) : ClNs X (e :: es) (k :: ks) (u :: us) :=
  ⟨pa_cons h.pe t.pa hs, .cons h.eq t.eq⟩
/-- the table of a class test over caught exceptions -/
def TbI (X : Cx) (c : ClsM) (tb : Str → Option Bool) (us : List Value) : Prop := ∀ x b, tb x = some b → ∃ C, ExC X.K X.mg c x C ∧ PySem.W.kitAny X.K (.ref C) us = some b
theorem one_any {K : PySem.W.Frag} {t u : Value} {b : Bool} (h : PySem.W.kitAny K t [u] = some b) : PySem.W.kitOne K t u = some b := by
  unfold PySem.W.kitAny at h
  cases e : PySem.W.kitOne K t u with
  | none => rw [e] at h; cases h
  | some k =>
    rw [e] at h
    cases k with
    | true => exact h
    | false => exact h
theorem isx_step {tb : Str → Option Bool} {us : List Value} {ρ1 : Rg} {σ : L2.St} {H1 : Hp} {s1 : Sto} {d : D} {x : V} {Q : VK} (ht : TbI X c tb us) (rs1 : RepS X.K ρ1 H1 s1) (rd : Rep X.K ρ1 H1 d x)
    (h : okR X.K c W σ ρ1 H1 (rD X.K) Q (isxR tb d s1)) :
    ∃ (a C : Addr) (dd : Option Addr) (b : Bool), x = .ref a ∧ H1 a = some (exK a (.ref C) dd) ∧ (∀ (ox : Obj) (od : Option Obj), PySem.W.KitX X.K (.ref a) (.ref C) (fun h => PySem.W.InstAt h a ox C od)) ∧ (dd = none ∨ ∃ d fs, dd = some d ∧ H1 d = some (.xd fs)) ∧
      PySem.W.kitAny X.K (.ref C) us = some b ∧ ∀ ρ' H', Ext ρ1 H1 ρ' H' → RepS X.K ρ' H' s1 → Q (.bl b) H' := by
  cases d <;> try exact h.elim
  rename_i cls ns ds
  simp only [isxR] at h
  cases et : tb cls with
  | none => rw [et] at h; exact h.elim
  | some b =>
    rw [et] at h
    obtain ⟨C, E, kb⟩ := ht cls b et
    obtain ⟨_, _, _, uq, kit⟩ := E.facts
    obtain ⟨a, C', dd, vs, rfl, ⟨ha, _⟩, hn, hd, _, _⟩ := rd
    obtain rfl := uq C' hn
    refine ⟨a, C', dd, b, rfl, ha.exK, fun ox od => kit a ox od, ?_, kb, fun ρ' H' e rs => h _ ρ' H' e rfl rs⟩
    rcases hd with ⟨hd, _⟩ | ⟨d, hd, hx, _⟩
    · exact .inl hd
    · exact .inr ⟨d, _, hd, hx.xd⟩
theorem pd_isx {e : Expr} {p : Pos} {te : Expr} {m : Lo → M D} {k : V} {u : Value} (tb : Str → Option Bool) (he : PE X e (tM X.K c W m)) (hk : ClN X te k u) (ht : TbI X c tb [u]) (hm : X.mg "isinstance" = none) (hg : Gl X "isinstance" := by rfl)
    (h1 : starEach [e, te] X.env = (false, eval e X.env) :: starEach [te] X.env := by rfl) (h2 : starEach [te] X.env = (false, eval te X.env) :: starEach [] X.env := by rfl) (hpl : (backTo pos (starEach [te] X.env)).any (·.1) = false := by rfl) :
    PE X (.Call (.Name "isinstance" p) [e, te] [] pos) (tM X.K c W (mIsx tb m)) := by
  refine PE_imp (pe_callB call_isx hg hm (by decide +kernel) (pa_cons he (pa_cons hk.pe pa_nil h2) h1) (by decide) (by decide) h1 hpl) fun σ H Q h => ?_
  obtain ⟨ρ, lo, s, hl, hs, h⟩ := h
  refine ⟨ρ, lo, s, hl, hs, (okR.bind h).imp fun x H1 q => ?_⟩
  obtain ⟨ρ1, s1, d, e1, rs1, rd, h1⟩ := q
  obtain ⟨a, C, dd, b, rfl, ha, kit, hd, kb, q⟩ := isx_step ht rs1 rd h1
  exact ⟨a, C, dd, k, u, b, rfl, hk.eq, ha, kit, hd, one_any kb, q ρ1 H1 Ext.refl rs1⟩
theorem pd_isxT {e : Expr} {p tp : Pos} {tes : List Expr} {x1 : Nat} {m : Lo → M D} {ks : List V} {us : List Value} (tb : Str → Option Bool) (he : PE X e (tM X.K c W m)) (hk : ClNs X tes ks us) (ht : TbI X c tb us) (hm : X.mg "isinstance" = none) (hz : ks.length ≤ sizeLine := by decide) (hg : Gl X "isinstance" := by rfl)
    (h1 : starEach [e, .Tuple tes x1 tp] X.env = (false, eval e X.env) :: starEach [.Tuple tes x1 tp] X.env := by rfl) (h2 : starEach [.Tuple tes x1 tp] X.env = (false, eval (.Tuple tes x1 tp) X.env) :: starEach [] X.env := by rfl) (hpl : (backTo pos (starEach [.Tuple tes x1 tp] X.env)).any (·.1) = false := by rfl) :
    PE X (.Call (.Name "isinstance" p) [e, .Tuple tes x1 tp] [] pos) (tM X.K c W (mIsx tb m)) := by
  refine PE_imp (pe_callB call_isxT hg hm (by decide +kernel) (pa_cons he (pa_cons (pe_tup hk.pa) pa_nil h2) h1) (by decide) (by decide) h1 hpl) fun σ H Q h => ?_
  obtain ⟨ρ, lo, s, hl, hs, h⟩ := h
  refine ⟨ρ, lo, s, hl, hs, (okR.bind h).imp fun x H1 q => ?_⟩
  obtain ⟨ρ1, s1, d, e1, rs1, rd, h1⟩ := q
  obtain ⟨a, C, dd, b, rfl, ha, kit, hd, kb, q⟩ := isx_step ht rs1 rd h1
  refine ⟨hz, fun q1 n => ?_⟩
  have ne : ∀ {z : Addr} {o : HO}, H1 z = some o → z ≠ q1 := fun {z o} y e => by rw [e, n] at y; cases y
  refine ⟨a, C, q1, dd, ks, us, b, rfl, upd_same, hk.eq, by rw [upd_ne (ne ha)]; exact ha, kit, ?_, kb, q ρ1 _ (Ext.alloc n) (rs1.alloc n)⟩
  rcases hd with hd | ⟨d, fs, hd, hx⟩
  · exact .inl hd
  · exact .inr ⟨d, fs, hd, by rw [upd_ne (ne hx)]; exact hx⟩
/-- isinstance(e, (T, ..)), built-in classes -/
def mIsiT (us : List Ty) (m : Lo → M D) : Lo → M D := fun lo s => (m lo s).bind fun d s1 => match tyD d s1 with
  | some t => .ok (.bl (us.any (isTy t))) s1
  | none => .bad
theorem kit_any (K : PySem.W.Frag) (t : Ty) : ∀ us : List Ty, (∀ u ∈ us, u ≠ .non) → PySem.W.kitAny K (.type t.name) (us.map fun u => .type u.name) = some (us.any (isTy t))
  | [], _ => rfl
  | u :: us, h => by
    have ih := kit_any K t us fun v hv => h v (List.mem_cons_of_mem _ hv)
    have h1 := kit_ty (K := K) (kit_isTy t u (h u List.mem_cons_self))
    rw [List.map_cons, List.any_cons]
    refine kitAny_cons h1 (fun hb => ?_) fun hb => ?_
    · rw [ih, hb]; rfl
    · rw [hb]; rfl
theorem pd_isiT {e : Expr} {p tp : Pos} {tes : List Expr} {x1 : Nat} {m : Lo → M D} {ks : List V} (us : List Ty) (he : PE X e (tM X.K c W m)) (hk : ClNs X tes ks (us.map fun u => .type u.name)) (hm : X.mg "isinstance" = none) (hu : ∀ u ∈ us, u ≠ .non := by decide) (hz : ks.length ≤ sizeLine := by decide) (hg : Gl X "isinstance" := by rfl)
    (h1 : starEach [e, .Tuple tes x1 tp] X.env = (false, eval e X.env) :: starEach [.Tuple tes x1 tp] X.env := by rfl) (h2 : starEach [.Tuple tes x1 tp] X.env = (false, eval (.Tuple tes x1 tp) X.env) :: starEach [] X.env := by rfl) (hpl : (backTo pos (starEach [.Tuple tes x1 tp] X.env)).any (·.1) = false := by rfl) :
    PE X (.Call (.Name "isinstance" p) [e, .Tuple tes x1 tp] [] pos) (tM X.K c W (mIsiT us m)) := by
  refine PE_imp (pe_callB call_isiT hg hm (by decide +kernel) (pa_cons he (pa_cons (pe_tup hk.pa) pa_nil h2) h1) (by decide) (by decide) h1 hpl) fun σ H Q h => ?_
  obtain ⟨ρ, lo, s, hl, hs, h⟩ := h
  refine ⟨ρ, lo, s, hl, hs, (okR.bind h).imp fun x H1 q => ?_⟩
  obtain ⟨ρ1, s1, d, e1, rs1, rd, h1⟩ := q
  cases et : tyD d s1 with
  | none => rw [et] at h1; exact h1.elim
  | some t =>
    rw [et] at h1
    refine ⟨hz, fun q1 n => ?_⟩
    exact ⟨x, q1, ks, .type t.name, _, us.any (isTy t), rfl, upd_same, hk.eq, tyD_ok (rs1.alloc n) (Rep.ext (Ext.alloc n) rd) et, kit_any X.K t us hu, h1 _ ρ1 _ (Ext.alloc n) rfl (rs1.alloc n)⟩
/-- .. is None -/
def isN : D → Bool
  | .non => true
  | _ => false
def fIs : Op2 := fun a b _ => match b with
  | .non => some (.bl (isN a))
  | _ => none
def fIsNot : Op2 := fun a b _ => match b with
  | .non => some (.bl (!isN a))
  | _ => none
theorem isN_ok {K : PySem.W.Frag} {ρ : Rg} {H : Hp} {d : D} {v : V} (r : Rep K ρ H d v) : decide (v = .non) = isN d := by
  cases d with
  | non => cases r; rfl
  | bl b => cases r; rfl
  | int i => cases r; rfl
  | str x => cases r; rfl
  | lst xs => obtain ⟨a, vs, rfl, _⟩ := r; rfl
  | tup xs => obtain ⟨a, vs, rfl, _⟩ := r; rfl
  | dct ks xs => obtain ⟨a, vs, rfl, _⟩ := r; rfl
  | loc n => obtain ⟨a, rfl, _⟩ := r; rfl
  | scr xs => obtain ⟨a, vs, rfl, _⟩ := r; rfl
  | exn _ _ _ => obtain ⟨a, C, dd, vs, rfl, _⟩ := r; rfl
theorem od_is : OpR X (compareOp .Is) (rP X.K fIs) := OpR_imp op_isN fun x y H Q h => by
  obtain ⟨ρ, s, a, b, d, ra, rb, rs, e, q⟩ := h
  unfold fIs at e
  cases b <;> try (cases e; done)
  cases e
  cases rb
  exact ⟨rfl, by rw [isN_ok ra]; exact q _ H Ext.refl rfl rs⟩
theorem od_isNot : OpR X (compareOp .IsNot) (rP X.K fIsNot) := OpR_imp op_notN fun x y H Q h => by
  obtain ⟨ρ, s, a, b, d, ra, rb, rs, e, q⟩ := h
  unfold fIsNot at e
  cases b <;> try (cases e; done)
  cases e
  cases rb
  exact ⟨rfl, by rw [isN_ok ra]; exact q _ H Ext.refl rfl rs⟩
end
end DL
set_option Elab.async false
set_option linter.all false
set_option maxRecDepth 100000
set_option maxHeartbeats 4000000
/-! DLx: set comprehensions of texts, by their size. -/
namespace DL
open PySem PySem.Spec PyProof.Rows L2
theorem setK_fresh {P : Program} {w : World} {h : Heap} : (h.push { cls := .type "set", dict := none, data := .set #[] 0 (.fresh 0 0 (!w.params.followText "set-order")) }).SetOf (mixKind P w) h.objs.size (fun _ => false) 0 :=
  ⟨_, #[], 0, _, Heap.get?_push_size _ rfl, ⟨rfl, rfl, rfl⟩, rfl, (fun e he => by simp at he), (fun k => by simp), (by decide), (by rfl), rfl⟩
/-- {elt for target in iter if ..}, elt a key -/
def tScK (P : Program) (w : World) (wi : TI) (g : TG) (tt : TT) (te : TE) (vs : List Nat) : TE := fun σ H Q => wi σ H fun J H1 => ∀ L, H1 L = none → ∃ Wn : Nat → Nat → Hp → Prop, (∃ m, Wn 0 m (upd H1 L (SetK P w L (fun _ => false) 0))) ∧ ∀ i m H, Wn i m H →
  (J.stop i H ∧ Q (.ref L) H) ∨ (J.go i H ∧ ∃ Nx : Hp → Prop, (∀ H', Nx H' → ∃ m', m' < m ∧ Wn (i + 1) m' H') ∧ ∀ x H', J.yld i H x H' → g x (wipe σ vs) H' fun σ2 H2 => wipe σ2 vs = wipe σ vs ∧ tt σ2 H2 fun b H3 =>
    if b = true then te σ2 H3 fun y H4 => ∃ (k : Key) (S : Key → Bool) (n : Nat), y = kV k ∧ H4 L = some (SetK P w L S n) ∧ n + 1 < scanBound ∧ Nx (upd H4 L (SetK P w L (fun j => S j || decide (j = k)) (if S k = true then n else n + 1))) else Nx H3)
section
variable {X : Cx} {pins : List (Addr × Obj)} {σ : L2.St} {H : Hp} {s : Shared} {scope : Scope} {W : WX} {tg iter elt : Expr} {ifs : List Expr} {own : List (Str × Nat)} {pos pos' : Pos} {wi : TI} {g : TG} {tt : TT} {te : TE}
theorem sck_core {Q : VK} {use : Option (Value → Sem Unit)} {Qf : Value → Shared → Prop} (hc : X.calm = true) (hN : X.N.Nodup) (I0 : Inv X pins σ H s) (hi : PI X tg iter wi) (ok : BlkOk X.N X.env.scope scope own)
    (hg : ∀ (s : Shared) (H : Hp) (C : Addr) (cl : List (Str × Addr)) (fp : List Addr), PG (X.blk s H scope (compEnvC scope cl C X.env) fp) tg g) (ht : ∀ (s : Shared) (H : Hp) (C : Addr) (cl : List (Str × Addr)) (fp : List Addr), PTs (X.blk s H scope (compEnvC scope cl C X.env) fp) ifs tt)
    (he : ∀ (s : Shared) (H : Hp) (C : Addr) (cl : List (Str × Addr)) (fp : List Addr), PE (X.blk s H scope (compEnvC scope cl C X.env) fp) elt te) (hsf : ∀ x, foldedSetIterable iter X.env x = pure x) (h : tScK X.prog X.w wi g tt te (own.map (·.2)) σ H Q)
    (fin : ∀ (L : Addr) (ce : Env) (s' : Shared) (m : Str → Option Value) (H' : Hp), Inv X pins σ H' s' → Q (.ref L) H' → s'.heap.Ns ce.locals m → FpOk X pins H' ce.locals → compEnds (model X.prog X.w) X.A X.xe use Qf (.ref L) ce (.ok .next) s') :
    wpAny (model X.prog X.w) X.A (comprehension (.SetComp elt [⟨tg, iter, ifs, 0⟩] scope pos) scope X.env pos' (newSet (.type "set")) false (eval iter X.env) use) Qf X.xe s := by
  have frees : ∀ z ∈ scope.names, z.2 = .free → ∃ c, X.env.cells.lookup z.1 = some c := fun z hz e => I0.ok.has _ (ok.free z hz e)
  refine comprehension_at (use := use) rfl hsf (closure_ok frees) ok.kind (fun z hz e => by rw [ok.uniq z hz, e]) (thn (hi.run pins s σ H _ I0 h) fun vi sa ha => thn ha fun vit sb hb => ?_)
  obtain ⟨it, fp, tn, J, Hb, e0, Ib, T, tn0, fpb, rest⟩ := hb
  subst e0
  refine PpSet.newSet_ok (newEnv_comp ?_)
  generalize hL : sb.heap.objs.size = L
  have nL : Hb L = none := Ib.hok.fresh (Nat.le_of_eq hL)
  obtain ⟨Wn, ⟨n0, wn0⟩, turn⟩ := rest L nL
  generalize hsc : ({ sb with heap := sb.heap.push { cls := .type "set", dict := none, data := .set #[] 0 (.fresh 0 0 (!X.w.params.followText "set-order")) } } : Shared) = sc
  have sch : sc.heap = sb.heap.push { cls := .type "set", dict := none, data := .set #[] 0 (.fresh 0 0 (!X.w.params.followText "set-order")) } := by rw [← hsc]
  have Ic : Inv X pins σ (upd Hb L (SetK X.prog X.w L (fun _ => false) 0)) sc := by
    rw [← hsc]
    exact Ib.laid (t' := sb.toks) (fun b o q => Heap.get?_push_of_some _ q) (Nat.le_of_eq hL) (by rw [← hL]; exact setK_new setK_fresh)
  have small : ∀ b ∈ fp, b < sb.heap.objs.size := fun b hb => let ⟨_, q, _⟩ := T.obj _ _ tn0 b hb; Heap.lt_size q
  have fpc : ∀ b ∈ fp, FpOk X pins (upd Hb L (SetK X.prog X.w L (fun _ => false) 0)) b ∧ b < sc.heap.objs.size := fun b hb => by
    have lt := small b hb
    refine ⟨⟨?_, (fpb b hb).2⟩, by rw [sch, Heap.size_push]; exact Nat.lt_succ_of_lt lt⟩
    rw [upd_ne (by rw [← hL]; exact Nat.ne_of_lt lt)]
    exact (fpb b hb).1
  have tnc : tn 0 sc.heap := T.keep _ _ _ tn0 fun b _ o q => by rw [sch]; exact Heap.get?_push_of_some _ q
  have Id := block_start Ic ok hN fpc
  have gg := hg sc (upd Hb L (SetK X.prog X.w L (fun _ => false) 0)) sc.heap.objs.size (cellsFrom (sc.heap.objs.size + 1) scope.names (cloFrom X.env.cells scope.names [])) fp
  have gt := ht sc (upd Hb L (SetK X.prog X.w L (fun _ => false) 0)) sc.heap.objs.size (cellsFrom (sc.heap.objs.size + 1) scope.names (cloFrom X.env.cells scope.names [])) fp
  have ge := he sc (upd Hb L (SetK X.prog X.w L (fun _ => false) 0)) sc.heap.objs.size (cellsFrom (sc.heap.objs.size + 1) scope.names (cloFrom X.env.cells scope.names []))
  show codeAny _ _ (.compStart (.SetComp elt [⟨tg, iter, ifs, 0⟩] scope pos) 0 (.ref it) (.ref L) (blkEnv X sc scope)) (compEnds (model X.prog X.w) X.A X.xe use Qf (.ref L) (blkEnv X sc scope)) { sc with heap := pushCells (sc.heap.push { cls := .type "dict", data := .dict #[] }) scope.names }
  have e1 : (blkEnv X sc scope).locals = sc.heap.objs.size := rfl
  have e2 : (blkEnv X sc scope).frame = X.env.frame := rfl
  unfold blkEnv at e1 e2 ⊢
  generalize compEnvC scope (cellsFrom (sc.heap.objs.size + 1) scope.names (cloFrom X.env.cells scope.names [])) sc.heap.objs.size X.env = ce at Id gg gt ge e1 e2 ⊢
  generalize hHc : upd Hb L (SetK X.prog X.w L (fun _ => false) 0) = Hc at Ic Id gg gt ge wn0 fpc
  generalize hsd : ({ sc with heap := pushCells (sc.heap.push { cls := .type "dict", data := .dict #[] }) scope.names } : Shared) = sd at Id ⊢
  have tnd : tn 0 sd.heap := T.keep _ _ _ tnc fun b _ o q => by rw [← hsd]; exact pushCells_keeps _ _ _ _ (Heap.get?_push_of_some _ q)
  have fps : ∀ {σ' : L2.St} {H' : Hp} {s' : Shared}, Inv (X.blk sc Hc scope ce fp) [] σ' H' s' → (∀ b ∈ fp, H' b = none) → ∀ b ∈ fp, FpOk (X.blk sc Hc scope ce fp) [] H' b := fun {σ' H' s'} J' n b hb =>
    ⟨n b hb, (J'.ok.exf b hb).1, J'.ok.exfs b hb, .inl hb, fun x c q => (J'.ok.exf b hb).2 x c q, fun p hp => by cases hp⟩
  have loop : codeAny (model X.prog X.w) X.A (.compLoop (.SetComp elt [⟨tg, iter, ifs, 0⟩] scope pos) 0 (.ref it) (.ref L) ce) (compEnds (model X.prog X.w) X.A X.xe use Qf (.ref L) ce) sd := by
    refine PpSet.compLoopS_any (fun n s' => ∃ i H', Inv (X.blk sc Hc scope ce fp) [] (wipe σ (own.map (·.2))) H' s' ∧ tn i s'.heap ∧ (∀ b ∈ fp, H' b = none) ∧ Wn i n H') ?_ n0 ⟨0, Hc, Id, tnd, fun b hb => (fpc b hb).1.1, wn0⟩
    rintro n se ⟨i, He, Ie, tne, ne, wne⟩
    rcases turn i n He wne with ⟨stop, done⟩ | ⟨go, Nx, hNx, step⟩
    · -- the end
      refine thnF (T.done (X.blk sc Hc scope ce fp) rfl rfl rfl hc i [] se _ He (fun _ _ => False) Ie (fps Ie ne) tne stop) fun r sf ⟨hr, If⟩ => ?_
      subst hr
      have Ig : Inv X pins σ He sf := Ic.call' (ch := fp) If.os If.base If.hok If.bare fun b hb => ⟨(fpc b hb).1.2.2.2.1, (fpc b hb).1.2.1, (fpc b hb).1.2.2.2.2.1, (fpc b hb).1.2.2.2.2.2⟩
      have nce : He ce.locals = none := If.free
      obtain ⟨m, hm, _⟩ := If.loc
      exact fin L ce sf m He Ig done hm (by rw [e1]; exact Ic.fpOk (Nat.le_refl _) (by rw [← e1]; exact nce))
    · -- a turn
      refine thnF (T.item (X.blk sc Hc scope ce fp) rfl rfl rfl hc i [] se _ He (fun _ _ => False) Ie (fps Ie ne) tne go) fun r sf ⟨u, hr, hf⟩ => ?_
      subst hr
      refine thnF hf fun _ sg ⟨x, Hg, Ig, rg, yg, tng, ng⟩ => ?_
      refine thnF (gg.run _ sg _ Hg x u _ (Ig.pinned (fps Ig ng) (T.obj _ _ tng)) rg (step x Hg yg)) fun _ sh ⟨σh, Hh, Ih, wh, qh⟩ => ?_
      refine thnF (gt.run _ sh σh Hh _ Ih qh) fun b si ⟨Hi, Ii, qi⟩ => ?_
      have again : ∀ {s' : Shared} {H' : Hp}, Inv (X.blk sc Hc scope ce fp) ([] ++ pinsAt fp sg.heap) σh H' s' → Nx H' → ∃ m, m < n ∧ ∃ i H', Inv (X.blk sc Hc scope ce fp) [] (wipe σ (own.map (·.2))) H' s' ∧ tn i s'.heap ∧ (∀ b ∈ fp, H' b = none) ∧ Wn i m H' := fun {s' H'} J' nx => by
        obtain ⟨m', hm, w'⟩ := hNx H' nx
        have kept : ∀ b ∈ fp, ∀ o, sg.heap.get? b = some o → s'.heap.get? b = some o ∧ H' b = none := fun b hb o q => let z := J'.pin (b, o) (List.mem_append_right _ (List.mem_append_right _ (mem_pinsAt hb q))); ⟨z.1, z.2.1⟩
        refine ⟨m', hm, i + 1, H', (J'.unpinned (pins := [])).weak (by rw [← wh, wipe_length]) (fun j v q => ?_), T.keep _ _ _ tng fun b hb o q => (kept b hb o q).1, fun b hb => ?_, w'⟩
        · rw [← wh] at q; exact (wipe_some q).1
        · obtain ⟨o, q, _⟩ := T.obj _ _ tng b hb; exact (kept b hb o q).2
      cases b with
      | false => exact again Ii (by simpa using qi)
      | true =>
        simp only [if_true] at qi ⊢
        refine thnF ((ge fp).run _ si σh Hi _ Ii qi) fun z sj ⟨yv, Hj, Ij, rj, k, S, n0, ey, hL2, hz, nx⟩ => ?_
        subst ey
        refine thnF (mt_saddK (X := (X.blk sc Hc scope ce fp)) _ sj σh Hj (.ref L) [kV k] (.ref L) [z] (fun _ H' => Nx H') Ij rfl (.cons rj .nil) ⟨L, k, S, n0, rfl, rfl, hL2, hz, nx⟩) fun _ sk ⟨_, Hk, Ik, _, qk⟩ => again Ik qk
  exact PpSet.codeAny_compStart_set loop (T.self X.A 0 _ _ _ tnd loop)
theorem pe_sck (hc : X.calm = true) (hN : X.N.Nodup) (hi : PI X tg iter wi) (ok : BlkOk X.N X.env.scope scope own)
    (hg : ∀ (s : Shared) (H : Hp) (C : Addr) (cl : List (Str × Addr)) (fp : List Addr), PG (X.blk s H scope (compEnvC scope cl C X.env) fp) tg g) (ht : ∀ (s : Shared) (H : Hp) (C : Addr) (cl : List (Str × Addr)) (fp : List Addr), PTs (X.blk s H scope (compEnvC scope cl C X.env) fp) ifs tt)
    (he : ∀ (s : Shared) (H : Hp) (C : Addr) (cl : List (Str × Addr)) (fp : List Addr), PE (X.blk s H scope (compEnvC scope cl C X.env) fp) elt te) (hsf : ∀ x, foldedSetIterable iter X.env x = pure x := by intro _; rfl) :
    PE X (.SetComp elt [⟨tg, iter, ifs, 0⟩] scope pos) (tScK X.prog X.w wi g tt te (own.map (·.2))) := by
  refine ⟨fun pins s σ H Q I h => ?_⟩
  rw [PpSet.eval_SetComp]
  refine sck_core hc hN I hi ok hg ht he hsf h fun L ce s' m H' I' q hm f => ⟨m, hm, fun h'' sb => ?_⟩
  exact ⟨.ref L, H', I'.turned (t' := s'.toks) (fun b o hb e => (sb.2 b hb).trans e) f.1 f.2.1 f.2.2.2.1 f.2.2.2.2.1 f.2.2.2.2.2, rfl, q⟩
/-- len of a set of keys -/
def rLenK (P : Program) (w : World) : List V → Hp → VK → Prop := fun xs H Q => ∃ (a : Addr) (S : Key → Bool) (n : Nat), xs = [.ref a] ∧ H a = some (SetK P w a S n) ∧ Q (.int n) H
theorem cr_lenK : CallR X (.builtin "len") (rLenK X.prog X.w) := by
  intro pins s σ H xs us Q I r h
  obtain ⟨a, S, n, rfl, ha, q⟩ := h
  obtain ⟨u, rfl, ru⟩ := vals1 r
  cases (show u = Value.ref a from ru)
  obtain ⟨o, es, ep, t, ho, hex, hd, h1, h2, h3, hf, hn⟩ := setK_get I ha
  have hb : scanBound ≤ 2 ^ 40 := by decide
  exact call_len_set ho hex hd hf (by omega) ⟨.int n, H, I.tok _, ⟨_, by rw [hn]⟩, q⟩
end
end DL
set_option Elab.async false
set_option linter.all false
set_option maxRecDepth 100000
set_option maxHeartbeats 4000000
/-! DLy: len({.. for ..}) of texts and ints. -/
namespace DL
open PySem PySem.Spec PyProof.Rows L2
def keyD : D → Option Key
  | .int i => some (.inl i)
  | .str x => some (.inr x)
  | _ => none
theorem keyD_ok {K : PySem.W.Frag} {ρ : Rg} {H : Hp} {d : D} {k : Key} {v : V} (h : keyD d = some k) (r : Rep K ρ H d v) : v = kV k := by
  cases d <;> simp only [keyD] at h <;> try (cases h; done)
  all_goals (cases h; cases r; rfl)
def inKs (k : Key) (seen : List Key) : Bool := seen.any fun j => decide (k = j)
theorem inKs_iff {k : Key} {seen : List Key} : inKs k seen = true ↔ k ∈ seen := by
  unfold inKs
  rw [List.any_eq_true]
  exact ⟨fun ⟨j, h1, h2⟩ => by rw [of_decide_eq_true h2]; exact h1, fun h => ⟨k, h, decide_eq_true rfl⟩⟩
def insK (seen : List Key) (k : Key) : List Key := if inKs k seen = true then seen else k :: seen
def setR (T : Tg) (mt : Lo → M Bool) (me : Lo → M D) (cnd : Cnd) (lo : Lo) : List D → List Key → M (List Key)
  | [], seen => fun s => if cndB cnd s = true then .ok seen s else .bad
  | d :: ds, seen => fun s => if cndB cnd s = true then (match setT T d lo with
    | none => .bad
    | some lo1 => (noX (mt lo1 s)).bind fun b s1 => if b = true then (noX (me lo1 s1)).bind fun y s2 => (match keyD y with
        | some k => if seen.length + 1 < scanBound then setR T mt me cnd lo ds (insK seen k) s2 else .bad
        | none => .bad) else setR T mt me cnd lo ds seen s1) else .bad
def mLenSet (own : List Nat) (T : Tg) (mi : Lo → M Src) (mt : Lo → M Bool) (me : Lo → M D) : Lo → M D := fun lo s => (mi lo s).bind fun S s1 => (setR T mt me S.cnd (wipeD lo own) S.items [] s1).bind fun ks s2 => .ok (.int (ks.length : Int)) s2
section
variable {X : Cx} {c : ClsM} {W : WX} {pos : Pos}
theorem ins_step {seen : List Key} {S : Key → Bool} {k : Key} (h : ∀ j, S j = inKs j seen) : (∀ j, (S j || decide (j = k)) = inKs j (insK seen k)) ∧ (if S k = true then seen.length else seen.length + 1) = (insK seen k).length := by
  unfold insK
  by_cases hk : inKs k seen = true
  · rw [if_pos hk, if_pos (by rw [h]; exact hk)]
    refine ⟨fun j => ?_, rfl⟩
    rw [h, Bool.eq_iff_iff, Bool.or_eq_true, decide_eq_true_eq]
    exact ⟨fun z => z.elim id fun e => by rw [e]; exact hk, .inl⟩
  · rw [if_neg hk, if_neg (by rw [h]; exact hk)]
    refine ⟨fun j => ?_, rfl⟩
    rw [h, Bool.eq_iff_iff, Bool.or_eq_true, decide_eq_true_eq, inKs_iff, inKs_iff, List.mem_cons]
    exact ⟨fun z => z.elim .inr .inl, fun z => z.elim .inr .inl⟩
theorem set_run {own : List Nat} {T : Tg} {mi : Lo → M Src} {mt : Lo → M Bool} {me : Lo → M D} {σ : L2.St} {H : Hp} {Q : VK} (hT : ∀ i ∈ T.slots, i ∈ own) (h : tM X.K c W (mLenSet own T mi mt me) σ H Q) :
    tScK X.prog X.w (tMI X.K c W mi) (gT X.K T) (tMB X.K c WF mt) (tM X.K c WF me) own σ H fun x H1 => rLenK X.prog X.w [x] H1 Q := by
  obtain ⟨ρ, lo, s, hl, hs, h⟩ := h
  refine ⟨ρ, lo, s, hl, hs, (okR.bind h).imp fun J H1 q => ?_⟩
  obtain ⟨ρ1, s1, S, e1, rs1, rJ, h1⟩ := q
  intro Da hDa
  have hl1 : RepLo X.K ρ1 H1 (wipe σ own) (wipeD lo own) := (hl.ext e1).wipe own
  let St := fun (i : Nat) (H : Hp) => ∃ ρ s ks S', ρ.t = Da :: ρ1.t ∧ Ext ρ1 H1 ⟨ρ.l, ρ1.t⟩ H ∧ Mon ρ1 H1 ρ H ∧ RepS X.K ρ H s ∧ H Da = some (SetK X.prog X.w Da S' ks.length) ∧ (∀ j, S' j = inKs j ks) ∧
      okR X.K c W σ ρ1 H1 (rD X.K) Q ((setR T mt me S.cnd (wipeD lo own) (S.items.drop i) ks s).bind fun ks s2 => .ok (.int (ks.length : Int)) s2)
  refine ⟨fun i m H => m = S.items.length - i ∧ i ≤ S.items.length ∧ St i H, ⟨_, rfl, Nat.zero_le _, ⟨ρ1.l, Da :: ρ1.t⟩, s1, [], fun _ => false, rfl, Ext.alloc hDa, mon_tmp (K := X.K) hDa, reps_tmp rs1 hDa, upd_same, fun j => rfl, h1⟩, ?_⟩
  rintro i m H2 ⟨rfl, hi2, ρ2, s2, ks, S2, ht, e2, mo2, rs2, hD, hS, h2⟩
  have DaT : Da ∈ ρ2.t := by rw [ht]; exact List.mem_cons_self
  have DaL : Da ∉ ρ2.l := (rs2.tmp Da DaT).2
  by_cases hlt : i < S.items.length
  · rw [List.drop_eq_getElem_cons hlt] at h2
    unfold setR at h2
    by_cases hc2 : cndB S.cnd s2 = true
    · rw [if_pos hc2] at h2
      obtain ⟨go, yl⟩ := (rJ ρ2 H2 s2 mo2 rs2 hc2).1 i _ (List.getElem?_eq_getElem hlt)
      refine .inr ⟨go, St (i + 1), fun H' q => ⟨S.items.length - (i + 1), by omega, rfl, hlt, q⟩, fun x H' hy => ?_⟩
      obtain ⟨ρ3, e3, rs3, rx⟩ := yl x H' hy
      cases et : setT T S.items[i] (wipeD lo own) with
      | none => rw [et] at h2; exact h2.elim
      | some lo3 =>
        rw [et] at h2
        refine gT_run rx et (hl1.mon (mo2.trans e3.mon)) fun σ' r' hw => ⟨?_, ρ3, lo3, s2, r', rs3, ?_⟩
        · rw [hw own hT, wipe_idem]
        let Fy := fun (y : D) => fun (s2 : Sto) => (match keyD y with
          | some k => if ks.length + 1 < scanBound then setR T mt me S.cnd (wipeD lo own) (S.items.drop (i + 1)) (insK ks k) s2 else .bad
          | none => .bad : R (List Key))
        have h3 : okR X.K c W σ ρ1 H1 (rD X.K) Q ((noX (mt lo3 s2)).bind fun b s1 => (if b = true then (noX (me lo3 s1)).bind Fy else setR T mt me S.cnd (wipeD lo own) (S.items.drop (i + 1)) ks s1).bind fun ks s2 => .ok (.int (ks.length : Int)) s2) := by
          cases eb : mt lo3 s2 with
          | ok b s' => simp only [eb] at h2; exact h2
          | exc x s' => simp only [eb] at h2; exact h2
          | bad => simp only [eb] at h2; exact h2
        refine okR.bindN h3 fun b s4 b' ρ4 H4 h4 e4 rb rs4 => ?_
        obtain rfl : b = b' := rb
        have e24 := e3.trans e4
        have t4 : ρ4.t = Da :: ρ1.t := by rw [e4.tm, e3.tm, ht]
        have hD4 := e24.keep _ _ hD DaL
        have L4 : Ext ρ1 H1 ⟨ρ4.l, ρ1.t⟩ H4 := e2.trans (e24.low (t := ρ1.t))
        have M4 : Mon ρ1 H1 ρ4 H4 := mo2.trans e24.mon
        cases b with
        | false => exact iteF ⟨ρ4, s4, ks, S2, t4, L4, M4, rs4, hD4, hS, h4⟩
        | true =>
          refine iteT ⟨ρ4, lo3, s4, r'.ext e4, rs4, ?_⟩
          have h5 : okR X.K c W σ ρ1 H1 (rD X.K) Q ((noX (me lo3 s4)).bind fun y s2 => (Fy y s2).bind fun ks s2 => .ok (.int (ks.length : Int)) s2) := by
            rw [if_pos rfl] at h4
            cases eb : me lo3 s4 with
            | ok b s' => simp only [eb] at h4; exact h4
            | exc x s' => simp only [eb] at h4; exact h4
            | bad => simp only [eb] at h4; exact h4
          refine okR.bindN h5 fun y s5 yv ρ5 H5 h6 e5 ry rs5 => ?_
          simp only [Fy] at h6
          cases ek : keyD y with
          | none => rw [ek] at h6; exact h6.elim
          | some k =>
            rw [ek] at h6
            simp only at h6
            by_cases hz : ks.length + 1 < scanBound
            · rw [if_pos hz] at h6
              have e25 := e24.trans e5
              have hD5 := e25.keep _ _ hD DaL
              have t5 : ρ5.t = Da :: ρ1.t := by rw [e5.tm, t4]
              have DaT5 : Da ∈ ρ5.t := by rw [t5]; exact List.mem_cons_self
              obtain ⟨z1, z2⟩ := ins_step (k := k) hS
              refine ⟨k, S2, ks.length, keyD_ok ek ry, hD5, hz, ρ5, s5, insK ks k, _, t5, ?_, (M4.trans e5.mon).trans (mon_wr DaT5), reps_wr rs5 DaT5, by rw [upd_same, z2], z1, h6⟩
              have z := L4.trans (e5.low (t := ρ1.t))
              refine ⟨z.pre, rfl, fun a o ha hn => ?_, z.new, fun a ha => z.dom a (upd_none ha)⟩
              rw [upd_ne (ne_of_none ha hDa)]
              exact z.keep a o ha hn
            · rw [if_neg hz] at h6; exact h6.elim
    · rw [if_neg hc2] at h2; exact h2.elim
  · have ei : i = S.items.length := by omega
    subst ei
    rw [List.drop_length] at h2
    unfold setR at h2
    by_cases hc2 : cndB S.cnd s2 = true
    · rw [if_pos hc2] at h2
      have hlow : ∀ a, ¬ ρ2.has a → ¬ (⟨ρ2.l, ρ1.t⟩ : Rg).has a := fun a hn z => hn (z.elim .inl fun z => .inr (by rw [ht]; exact List.mem_cons_of_mem _ z))
      have ml : Mon ρ2 H2 ⟨ρ2.l, ρ1.t⟩ H2 := ⟨fun a o ha hn => ⟨ha, hlow a hn⟩, fun _ _ z => z⟩
      have rsl : RepS X.K ⟨ρ2.l, ρ1.t⟩ H2 s2 := ⟨rs2.len, rs2.nd, fun n a ob q1 q2 => (rs2.obj n a ob q1 q2).mono ml.f ml.g rfl, fun a ha => rs2.tmp a (by rw [ht]; exact List.mem_cons_of_mem _ ha)⟩
      exact .inl ⟨(rJ ρ2 H2 s2 mo2 rs2 hc2).2, Da, S2, ks.length, rfl, hD, h2 _ ⟨ρ2.l, ρ1.t⟩ H2 e2 rfl rsl⟩
    · rw [if_neg hc2] at h2; exact h2.elim
theorem pd_lenSet {elt tg iter : Expr} {ifs : List Expr} {scope : Scope} {p spos : Pos} {T : Tg} (own : List (Str × Nat)) {mi : Lo → M Src} {mt : Lo → M Bool} {me : Lo → M D} (hm : X.mg "len" = none) (hc : X.calm = true) (hN : X.N.Nodup) (hi : PI X tg iter (tMI X.K c W mi)) (ok : BlkOk X.N X.env.scope scope own)
    (hg : ∀ (s : Shared) (H : Hp) (C : Addr) (cl : List (Str × Addr)) (fp : List Addr), PG (X.blk s H scope (compEnvC scope cl C X.env) fp) tg (gT X.K T)) (ht : ∀ (s : Shared) (H : Hp) (C : Addr) (cl : List (Str × Addr)) (fp : List Addr), PTs (X.blk s H scope (compEnvC scope cl C X.env) fp) ifs (tMB X.K c WF mt))
    (he : ∀ (s : Shared) (H : Hp) (C : Addr) (cl : List (Str × Addr)) (fp : List Addr), PE (X.blk s H scope (compEnvC scope cl C X.env) fp) elt (tM X.K c WF me)) (hT : ∀ i ∈ T.slots, i ∈ own.map (·.2) := by decide) (hs : ∀ x, foldedSetIterable iter X.env x = pure x := by intro _; rfl) (hgl : Gl X "len" := by rfl)
    (h1 : starEach [.SetComp elt [⟨tg, iter, ifs, 0⟩] scope spos] X.env = (false, eval (.SetComp elt [⟨tg, iter, ifs, 0⟩] scope spos) X.env) :: starEach [] X.env := by rfl) :
    PE X (.Call (.Name "len" p) [.SetComp elt [⟨tg, iter, ifs, 0⟩] scope spos] [] pos) (tM X.K c W (mLenSet (own.map (·.2)) T mi mt me)) :=
  PE_imp (pe_callB cr_lenK hgl hm (by decide +kernel) (pa_cons (pe_sck hc hN hi ok hg ht he hs) pa_nil h1) (by decide) (by decide) h1 (by rfl)) fun _ _ _ h => set_run hT h
end
end DL
set_option Elab.async false
set_option linter.all false
set_option maxRecDepth 100000
set_option maxHeartbeats 4000000
/-! DLz: sum, max with default=, insert, pop, count. -/
namespace DL
open PySem PySem.Spec PyProof.Rows L2
def intsOf : List D → Option (List Int)
  | [] => some []
  | .int i :: r => (intsOf r).map (i :: ·)
  | _ => none
theorem ints_vs {K : PySem.W.Frag} {ρ : Rg} {H : Hp} : ∀ {ds : List D} {vs : List V} {ns : List Int}, Reps K ρ H ds vs → intsOf ds = some ns → vs = ns.map V.int
  | [], _, _, h, e => by cases h; cases e; rfl
  | d :: ds, _, _, h, e => by
    obtain ⟨v, r, rfl, h1, h2⟩ := h
    cases d <;> simp only [intsOf] at e <;> try (cases e; done)
    obtain ⟨ns, e1, rfl⟩ := Option.map_eq_some_iff.mp e
    cases h1
    rw [ints_vs h2 e1]; rfl
def fSum : Fn1 := fun ds s => match ds with
  | [d] => ((listOf d s).bind intsOf).map fun ns => .int ns.sum
  | _ => none
/-- the greatest of ns, else z -/
def maxDef (z : Int) : List Int → Int
  | [] => z
  | y :: ys => ys.foldl (fun a y => if a < y then y else a) y
section
variable {X : Cx} {c : ClsM} {W : WX} {pos : Pos}
theorem cd_sum (hc : X.calm = true) : CallR X (.builtin "sum") (rC X.K fSum) := by
  intro pins s σ H xs us Q I r h
  obtain ⟨ρ, st, ds, d, rd, rs, e, q⟩ := h
  unfold fSum at e
  split at e
  · rename_i a
    obtain ⟨ns, e1, rfl⟩ := Option.map_eq_some_iff.mp e
    obtain ⟨ys, e2, e3⟩ := Option.bind_eq_some_iff.mp e1
    obtain ⟨v, rfl, r1⟩ := reps1 rd
    obtain ⟨p, vs, rfl, q1, q2⟩ := DL.listOf_ok rs r1 e2
    rw [ints_vs q2 e3] at q1
    exact cr_sum hc pins s σ H _ us Q I r ⟨p, ns, rfl, q1, q _ H Ext.refl rfl rs⟩
  · cases e
def mMaxD (m md : Lo → M D) : Lo → M D := fun lo s => (m lo s).bind fun d s1 => (md lo s1).bind fun e s2 => match (DL.listOf d s2).bind intsOf, e with
  | some ns, .int z => .ok (.int (maxDef z ns)) s2
  | _, _ => .bad
theorem maxOf_int (y : Int) (ys : List Int) : PySem.W.maxOf y ys = maxDef 0 (y :: ys) := by
  show List.foldl _ _ _ = List.foldl _ _ _
  congr 1
  funext a b
  by_cases h : a < b
  · rw [if_pos h, if_pos (show PySem.W.DatumOrd.lt a b = true from by simpa [PySem.W.DatumOrd.lt] using h)]
  · rw [if_neg h, if_neg (show ¬ PySem.W.DatumOrd.lt a b = true from by simpa [PySem.W.DatumOrd.lt] using h)]
theorem holdInts {h : Heap} : ∀ {ns : List Int} {us : List Value}, Vals (ns.map V.int) us → PySem.W.HoldAll h us ns
  | [], _, r => by cases r; exact PySem.W.HoldAll.nil
  | n :: ns, _, r => by
    cases r with
    | cons r1 r2 =>
      obtain ⟨t, rfl⟩ := r1
      exact PySem.W.HoldAll.cons ⟨[], .int n t⟩ (holdInts r2)
theorem pd_maxD {e de : Expr} {p kp : Pos} {m md : Lo → M D} (hc : X.calm = true) (he : PE X e (tM X.K c W m)) (hd : PE X de (tM X.K c W md)) (hm : X.mg "max" = none) (hu : X.A.units + 64 < cLine) (hg : Gl X "max" := by rfl)
    (h1 : starEach [e] X.env = (false, eval e X.env) :: starEach [] X.env := by rfl) :
    PE X (.Call (.Name "max" p) [e] [⟨some "default", de, kp⟩] pos) (tM X.K c W (mMaxD m md)) := by
  refine ⟨fun pins s σ H Q I h => ?_⟩
  obtain ⟨ρ, lo, st, hl, hs, h⟩ := h
  refine wpAny_Call_Name_kw (ld_blt (u := .builtin "max") I hg hm (by decide +kernel) ?_ (by decide) (by decide))
  refine PyProof.Rows.callWith_kw ?_ (by rw [h1]; rfl) (by rw [h1]; rfl)
  have ha := (pa_cons he pa_nil h1).run pos pins s σ H (fun vs H1 => ∃ x ρ1 s1 d, vs = [x] ∧ Ext ρ H ρ1 H1 ∧ RepS X.K ρ1 H1 s1 ∧ Rep X.K ρ1 H1 d x ∧ okR X.K c W σ ρ1 H1 (rD X.K) Q ((md lo s1).bind fun e s2 => match (DL.listOf d s2).bind intsOf, e with | some ns, .int z => .ok (.int (maxDef z ns)) s2 | _, _ => .bad)) I
    ⟨ρ, lo, st, hl, hs, (okR.bind h).imp fun x H1 ⟨ρ1, s1, d, e1, rs1, rd, h1⟩ => ⟨x, ρ1, s1, d, rfl, e1, rs1, rd, h1⟩⟩
  refine thn ha fun us s1 ⟨vs, H1, I1, rv, x, ρ1, st1, d, ev, e1, rs1, rd, h2⟩ => ?_
  subst ev
  obtain ⟨u, rfl, ru⟩ := vals1 rv
  have hk := (pk_cons (nm := some ("default" : Str)) (kpos := kp) hd pk_nil).run pos pins s1 σ H1 (fun vs H2 => ∃ y ρ2 s2 e, vs = [y] ∧ Ext ρ1 H1 ρ2 H2 ∧ RepS X.K ρ2 H2 s2 ∧ Rep X.K ρ2 H2 e y ∧ okR X.K c W σ ρ2 H2 (rD X.K) Q (match (DL.listOf d s2).bind intsOf, e with | some ns, .int z => .ok (.int (maxDef z ns)) s2 | _, _ => .bad)) I1
    ⟨ρ1, lo, st1, hl.ext e1, rs1, (okR.bind h2).imp fun y H2 ⟨ρ2, s2, e, e2, rs2, re, h3⟩ => ⟨y, ρ2, s2, e, rfl, e2, rs2, re, h3⟩⟩
  refine thn hk fun ws s2 ⟨zs, H2, I2, rw', y, ρ2, st2, e0, ez, e2, rs2, re, h3⟩ => ?_
  subst ez
  obtain ⟨wv, rfl, rwv⟩ := vals1 rw'
  cases el : (DL.listOf d st2).bind intsOf with
  | none => rw [el] at h3; exact h3.elim
  | some ns =>
    rw [el] at h3
    cases e0 <;> try exact h3.elim
    rename_i z
    cases re
    obtain ⟨ys, l1, l2⟩ := Option.bind_eq_some_iff.mp el
    obtain ⟨a, vs2, rfl, q1, q2⟩ := DL.listOf_ok rs2 (Rep.ext e2 rd) l1
    rw [ints_vs q2 l2] at q1
    cases (show u = Value.ref a from ru)
    obtain ⟨tz, rfl⟩ := rwv
    obtain ⟨its, rv2, hl2, _⟩ := I2.list q1
    show wpAny _ _ (call (.builtin "max") [.ref a] [(Str.ofString "default", .int z tz)]) _ _ _
    refine PySem.W.max_list_datum_default (xs := ns) (I2.ok.hd hc) hl2.isList (holdInts (by simpa using rv2)) (by show X.A.units + 1 + 0 < cLine; omega) (fun en h' tk hk => ?_) fun y ys i v h' tk en hi hv hk => ?_
    · subst en
      exact ⟨.int z, H2, I2.kept hk, ⟨_, rfl⟩, h3 _ ρ2 H2 Ext.refl rfl rs2⟩
    · subst en
      obtain ⟨as, hv⟩ := hv
      cases hv with
      | int _ t => exact ⟨.int _, H2, I2.kept hk, ⟨t, rfl⟩, by rw [maxOf_int]; exact h3 _ ρ2 H2 Ext.refl rfl rs2⟩
end
end DL
set_option Elab.async false
set_option linter.all false
set_option maxRecDepth 100000
set_option maxHeartbeats 4000000
/-! DMa: insert, pop, count. -/
namespace DL
open PySem PySem.Spec PyProof.Rows L2
section
variable {X : Cx} {c : ClsM} {W : WX} {pos : Pos}
def gInsert : D → List D → M D := fun d ds s => match d, ds with
  | .loc n, [.int i, y] => match s[n]? with
    | some (.lst xs) => if xs.length < sizeLine ∧ 0 ≤ i ∧ i < 2 ^ 63 then .ok .non (s.set n (.lst (xs.take i.toNat ++ [y] ++ xs.drop i.toNat))) else .bad
    | _ => .bad
  | _, _ => .bad
theorem md_insert : MtR X "list.insert" (rMt X.K gInsert) := by
  refine MtR_imp mt_insert fun x xs H Q h => ?_
  obtain ⟨ρ, s, a, ds, d, s', ra, rds, rs, e, q⟩ := h
  unfold gInsert at e
  split at e
  · rename_i n i y
    cases eo : s[n]? with
    | none => rw [eo] at e; cases e
    | some ob =>
      rw [eo] at e
      cases ob with
      | dct ks ys => cases e
      | lst ys =>
        simp only at e
        split at e
        · rename_i hz
          cases e
          obtain ⟨p, rfl, ha⟩ := ra
          obtain ⟨v, u, rfl, rv, ru⟩ := reps2 rds
          cases rv
          obtain ⟨vs, q1, q2⟩ := (rs.obj n p _ ha eo : RepO X.K ρ H p (.lst ys))
          exact ⟨p, vs, i, u, rfl, rfl, q1, by rw [← q2.length]; exact hz.1, hz.2.1, hz.2.2, q _ ρ _ (Ext.write ha) rfl (rs.write ha (((q2.take i.toNat).append (show Reps X.K ρ H [y] [u] from ⟨u, [], rfl, ru, rfl⟩)).append (q2.drop i.toNat)))⟩
        · cases e
  · cases e
def gPop : D → List D → M D := fun d ds s => match d, ds with
  | .loc n, [.int i] => match s[n]? with
    | some (.lst xs) => if -(2 ^ 63) ≤ i ∧ i < 2 ^ 63 then (match seqIndex? i xs.length with
        | some k => (match xs[k]? with
          | some y => .ok y (s.set n (.lst (xs.eraseIdx k)))
          | none => .bad)
        | none => .bad) else .bad
    | _ => .bad
  | _, _ => .bad
theorem Reps.erase {K : PySem.W.Frag} {ρ : Rg} {H : Hp} : ∀ {ds : List D} {vs : List V} (i : Nat), Reps K ρ H ds vs → Reps K ρ H (ds.eraseIdx i) (vs.eraseIdx i)
  | [], _, _, h => by cases h; exact rfl
  | d :: ds, _, 0, h => by
    obtain ⟨v, r, rfl, h1, h2⟩ := h
    exact h2
  | d :: ds, _, i + 1, h => by
    obtain ⟨v, r, rfl, h1, h2⟩ := h
    exact ⟨v, r.eraseIdx i, rfl, h1, Reps.erase i h2⟩
theorem md_pop : MtR X "list.pop" (rMt X.K gPop) := by
  refine MtR_imp mt_popAt fun x xs H Q h => ?_
  obtain ⟨ρ, s, a, ds, d, s', ra, rds, rs, e, q⟩ := h
  unfold gPop at e
  split at e
  · rename_i n i
    cases eo : s[n]? with
    | none => rw [eo] at e; cases e
    | some ob =>
      rw [eo] at e
      cases ob with
      | dct ks ys => cases e
      | lst ys =>
        simp only at e
        split at e
        · rename_i hz
          cases ek : seqIndex? i ys.length with
          | none => rw [ek] at e; cases e
          | some k =>
            rw [ek] at e
            simp only at e
            cases ey : ys[k]? with
            | none => rw [ey] at e; cases e
            | some y =>
              rw [ey] at e
              cases e
              obtain ⟨p, rfl, ha⟩ := ra
              obtain ⟨v, rfl, rv⟩ := reps1 rds
              cases rv
              obtain ⟨vs, q1, q2⟩ := (rs.obj n p _ ha eo : RepO X.K ρ H p (.lst ys))
              obtain ⟨w, hw, rw'⟩ := q2.get ey
              have e2 := Ext.write (H := H) (o := .lst (vs.eraseIdx k)) ha
              exact ⟨p, vs, i, k, w, rfl, rfl, q1, hz.1, hz.2, by rw [← q2.length]; exact ek, hw, q _ ρ _ e2 (Rep.ext e2 rw') (rs.write ha (Reps.erase k q2))⟩
        · cases e
  · cases e
theorem pd_insert {o e : Expr} {es : List Expr} {apos : Pos} {mo : Lo → M D} {ma : Lo → M (List D)} (ho : PE X o (tM X.K c W mo)) (ha : PA X (e :: es) (tMA X.K c W ma))
    (hbase : attributeBase o "insert" X.env (eval o X.env) = eval o X.env := by rfl)
    (hfew : ((backTo pos (starEach (e :: es) X.env)).all (fun x => !x.1) && (backToKw pos (keywordEach [] X.env)).all (fun x => x.1.isSome)
      && decide ((e :: es).length + ([] : List Keyword).length + (if ([] : List Keyword).isEmpty then 0 else 1) < 30)) = true := by rfl)
    (hline : (apos.endLine == pos.line) = true := by rfl) (hs : starEach (e :: es) X.env = (false, eval e X.env) :: starEach es X.env := by rfl) (hplain : (backTo pos (starEach es X.env)).any (·.1) = false := by rfl) :
    PE X (.Call (.Attribute o "insert" apos) (e :: es) [] pos) (tM X.K c W (mMeth gInsert mo ma)) :=
  pd_meth md_insert ho ha PySem.F.slot_list_insert PySem.F.type_list_insert hbase hfew hline hs hplain
theorem pd_popAt {o e : Expr} {apos : Pos} {mo : Lo → M D} {ma : Lo → M (List D)} (ho : PE X o (tM X.K c W mo)) (ha : PA X [e] (tMA X.K c W ma))
    (hbase : attributeBase o "pop" X.env (eval o X.env) = eval o X.env := by rfl)
    (hfew : ((backTo pos (starEach [e] X.env)).all (fun x => !x.1) && (backToKw pos (keywordEach [] X.env)).all (fun x => x.1.isSome)
      && decide ([e].length + ([] : List Keyword).length + (if ([] : List Keyword).isEmpty then 0 else 1) < 30)) = true := by rfl)
    (hline : (apos.endLine == pos.line) = true := by rfl) (hs : starEach [e] X.env = (false, eval e X.env) :: starEach [] X.env := by rfl) (hplain : (backTo pos (starEach [] X.env)).any (·.1) = false := by rfl) :
    PE X (.Call (.Attribute o "pop" apos) [e] [] pos) (tM X.K c W (mMeth gPop mo ma)) :=
  pd_meth md_pop ho ha PySem.F.slot_list_pop PySem.F.type_list_pop hbase hfew hline hs hplain
/-- x.count(y), texts -/
def mCount (ma mb : Lo → M D) : Lo → M D := fun lo s => (ma lo s).bind fun a s1 => match a with
  | .str x => (mb lo s1).bind fun b s2 => (match b with
    | .str y => .ok (.int (Txt.count x y)) s2
    | _ => .bad)
  | _ => .bad
theorem pd_count {o e : Expr} {apos : Pos} {ma mb : Lo → M D} (ho : PE X o (tM X.K c W ma)) (he : PE X e (tM X.K c W mb)) (hs : starEach [e] X.env = [(false, eval e X.env)] := by rfl) (hbase : attributeBase o "count" X.env (eval o X.env) = eval o X.env := by rfl) (hline : (apos.endLine == pos.line) = true := by rfl) :
    PE X (.Call (.Attribute o "count" apos) [e] [] pos) (tM X.K c W (mCount ma mb)) := by
  refine PE_imp (pe_m1 PySem.F.slot_str_count PySem.F.type_str_count mt_count ho he hs hbase hline) fun σ H Q h => ?_
  obtain ⟨ρ, lo, s, hl, hs, h⟩ := h
  refine ⟨ρ, lo, s, hl, hs, (okR.bind h).imp fun x H1 q => ?_⟩
  obtain ⟨ρ1, s1, a, e1, rs1, ra, h1⟩ := q
  cases a <;> try exact h1.elim
  rename_i z
  cases ra
  refine ⟨⟨z, rfl⟩, ρ1, lo, s1, hl.ext e1, rs1, (okR.bind h1).imp fun y H2 q => ?_⟩
  obtain ⟨ρ2, s2, b, e2, rs2, rb, h2⟩ := q
  cases b <;> try exact h2.elim
  rename_i u
  cases rb
  exact ⟨z, u, rfl, rfl, h2 _ ρ2 H2 Ext.refl rfl rs2⟩
end
end DL
set_option Elab.async false
set_option linter.all false
set_option maxRecDepth 100000
set_option maxHeartbeats 4000000
/-! DMb: data with dicts in it as text (repr). -/
namespace DL
open PySem PySem.Spec PyProof.Rows L2
mutual
/-- a value as data; no dict of it is the one of the modules -/
inductive Rd1 (h : Heap) : Value → PyData → Prop
  | non : Rd1 h .none .none
  | bool (b : Bool) : Rd1 h (.bool b) (.bool b)
  | int (i : Int) (t : Tok) : Rd1 h (.int i t) (.int i)
  | str (x : Str) (t : Tok) : Rd1 h (.str x t) (.str x)
  | list {a : Addr} {o : Obj} {vs : Array Value} {n : Nat} {xs : List PyData} : h.get? a = some o → o.cls = .type "list" → o.data = .seq vs n → Rd1s h vs.toList xs → Rd1 h (.ref a) (.list xs)
  | tuple {a : Addr} {o : Obj} {vs : Array Value} {n : Nat} {xs : List PyData} : h.get? a = some o → o.cls = .type "tuple" → o.data = .seq vs n → Rd1s h vs.toList xs → Rd1 h (.ref a) (.tuple xs)
  | dict {a : Addr} {o : Obj} {es : Array DictEntry} {n : Nat} {kvs : List (PyData × PyData)} : h.get? a = some o → o.cls = .type "dict" → o.data = .dict es n → (a == sysModules) = false → Rd1s h (es.toList.map (·.key)) (kvs.map (·.1)) → Rd1s h (es.toList.map (·.val)) (kvs.map (·.2)) → Rd1 h (.ref a) (.dict kvs)
inductive Rd1s (h : Heap) : List Value → List PyData → Prop
  | nil : Rd1s h [] []
  | cons {v : Value} {vs : List Value} {d : PyData} {ds : List PyData} : Rd1 h v d → Rd1s h vs ds → Rd1s h (v :: vs) (d :: ds)
end
mutual
theorem Rd1.reads {h : Heap} : ∀ {v : Value} {d : PyData}, Rd1 h v d → ∃ as, Reads h v d as
  | _, _, .non => ⟨_, .none⟩
  | _, _, .bool b => ⟨_, .bool b⟩
  | _, _, .int i t => ⟨_, .int i t⟩
  | _, _, .str x t => ⟨_, .str x t⟩
  | _, _, .list h1 h2 h3 h4 => let ⟨_, r⟩ := Rd1s.reads h4; ⟨_, .list h1 h2 h3 r⟩
  | _, _, .tuple h1 h2 h3 h4 => let ⟨_, r⟩ := Rd1s.reads h4; ⟨_, .tuple h1 h2 h3 r⟩
  | _, _, .dict h1 h2 h3 _ h4 h5 => let ⟨_, r⟩ := Rd1s.reads h4; let ⟨_, q⟩ := Rd1s.reads h5; ⟨_, .dict h1 h2 h3 r q⟩
theorem Rd1s.reads {h : Heap} : ∀ {v : List Value} {d : List PyData}, Rd1s h v d → ∃ as, ReadsAll h v d as
  | _, _, .nil => ⟨_, .nil⟩
  | _, _, .cons r rs => let ⟨_, q⟩ := Rd1.reads r; let ⟨_, qs⟩ := Rd1s.reads rs; ⟨_, .cons q qs⟩
end
section
variable {prog : Program} {w : World} {h₀ : Heap}
mutual
theorem shows1 : ∀ {v : Value} {d : PyData}, Rd1 h₀ v d → d.showable = true → d.shown.length ≤ sizeLine → ∃ bs, ReadAtMost h₀ d.depth bs ∧ ReprK prog w bs h₀ d.depth v d.shown
  | _, _, .non, hs, hz => ReprK.of_reads (as := []) .none hs (fun z => nomatch z) hz
  | _, _, .bool b, hs, hz => ReprK.of_reads (as := []) (.bool b) hs (fun z => nomatch z) hz
  | _, _, .int i t, hs, hz => ReprK.of_reads (as := []) (.int i t) hs (fun z => nomatch z) hz
  | _, _, .str x t, hs, hz => ReprK.of_reads (as := []) (.str x t) hs (fun z => nomatch z) hz
  | _, _, .list (a := a) (vs := vs) (xs := xs) h1 h2 h3 h4, hs, hz => by
    simp only [PyData.shown] at hz
    simp only [PyData.showable] at hs
    obtain ⟨bs, hb, hk⟩ := shows1s h4 hs fun t ht => Nat.le_trans (listText_mem_le ht) hz
    obtain ⟨as, r⟩ := Rd1.reads (.list h1 h2 h3 h4)
    have na : a ∉ bs := not_mem_of_deeper r (by simp only [PyData.depth]; omega) hb
    refine ⟨a :: bs, ReadAtMost.cons r (by simp only [PyData.depth]; omega) hb, ?_⟩
    simp only [PyData.depth, PyData.shown]
    obtain ⟨l⟩ := vs
    cases l with
    | nil =>
      have h4' : Rd1s h₀ [] xs := h4
      cases h4'
      simp only [PyData.shownAll, listText_nil]
      exact ReprK.listEmpty h1 h2 h3
    | cons x l => exact ReprK.list h1 h2 h3 na (by simpa using hk.length_eq) fun i y e => hk.item i y (by simpa using e)
  | _, _, .tuple (a := a) (xs := xs) h1 h2 h3 h4, hs, hz => by
    simp only [PyData.shown] at hz
    simp only [PyData.showable] at hs
    obtain ⟨bs, hb, hk⟩ := shows1s h4 hs fun t ht => Nat.le_trans (tupleText_mem_le ht) hz
    obtain ⟨as, r⟩ := Rd1.reads (.tuple h1 h2 h3 h4)
    have na : a ∉ bs := not_mem_of_deeper r (by simp only [PyData.depth]; omega) hb
    refine ⟨a :: bs, ReadAtMost.cons r (by simp only [PyData.depth]; omega) hb, ?_⟩
    simp only [PyData.depth, PyData.shown]
    exact ReprK.tuple h1 h2 h3 na hk
  | _, _, .dict (a := a) (es := es) (kvs := kvs) h1 h2 h3 h0 h4 h5, hs, hz => by
    simp only [PyData.shown] at hz
    simp only [PyData.showable] at hs
    obtain ⟨s1, s2⟩ := PyData.showableKv_split kvs hs
    obtain ⟨b1, hb1, k1⟩ := shows1s h4 s1 fun t ht => let ⟨p, hp, hl⟩ := PyData.shownKv_key_le kvs t ht; Nat.le_trans hl (Nat.le_trans (dictText_mem_le hp) hz)
    obtain ⟨b2, hb2, k2⟩ := shows1s h5 s2 fun t ht => let ⟨p, hp, hl⟩ := PyData.shownKv_val_le kvs t ht; Nat.le_trans hl (Nat.le_trans (dictText_mem_le hp) hz)
    obtain ⟨as, r⟩ := Rd1.reads (.dict h1 h2 h3 h0 h4 h5)
    have hb : ReadAtMost h₀ (PyData.depthKv kvs) (b1 ++ b2) := (hb1.mono (PyData.depthAll_keys_le kvs)).append (hb2.mono (PyData.depthAll_vals_le kvs))
    have na : a ∉ b1 ++ b2 := not_mem_of_deeper r (by simp only [PyData.depth]; omega) hb
    refine ⟨a :: (b1 ++ b2), ReadAtMost.cons r (by simp only [PyData.depth]; omega) hb, ?_⟩
    simp only [PyData.depth, PyData.shown, PyData.shownKv_eq]
    exact ReprK.dict h1 h2 h3 h0 na (ReprEntriesK.of_two es.toList _ _ (k1.more_le (fun b hb => List.mem_append_left _ hb) (PyData.depthAll_keys_le kvs)) (k2.more_le (fun b hb => List.mem_append_right _ hb) (PyData.depthAll_vals_le kvs)))
theorem shows1s : ∀ {vs : List Value} {ds : List PyData}, Rd1s h₀ vs ds → PyData.showableAll ds = true → (∀ t ∈ PyData.shownAll ds, t.length ≤ sizeLine) → ∃ bs, ReadAtMost h₀ (PyData.depthAll ds) bs ∧ ReprAllK prog w bs h₀ (PyData.depthAll ds) vs (PyData.shownAll ds)
  | _, _, .nil, _, _ => ⟨[], (fun _ h => nomatch h), by simp only [PyData.shownAll]; exact .nil⟩
  | _, _, .cons (d := d) (ds := ds) r rs, hs, hz => by
    simp only [PyData.showableAll, Bool.and_eq_true] at hs
    simp only [PyData.shownAll, List.mem_cons] at hz
    obtain ⟨b1, hb1, k1⟩ := shows1 r hs.1 (hz _ (.inl rfl))
    obtain ⟨b2, hb2, k2⟩ := shows1s rs hs.2 fun t ht => hz t (.inr ht)
    simp only [PyData.depthAll, PyData.shownAll]
    exact ⟨b1 ++ b2, (hb1.mono (Nat.le_max_left _ _)).append (hb2.mono (Nat.le_max_right _ _)), .cons ((k1.more fun b hb => List.mem_append_left _ hb).level_le (Nat.le_max_left _ _)) (k2.more_le (fun b hb => List.mem_append_right _ hb) (Nat.le_max_right _ _))⟩
end
end
end DL
set_option Elab.async false
set_option linter.all false
set_option maxRecDepth 100000
set_option maxHeartbeats 4000000
/-! DMc: repr of data with dicts in it. -/
namespace DL
open PySem PySem.Spec PyProof.Rows L2
def keyP : Key → PyData
  | .inl i => .int i
  | .inr x => .str x
mutual
def toPd (s : Sto) : Nat → D → Option PyData
  | _, .non => some .none
  | _, .bl b => some (.bool b)
  | _, .int i => some (.int i)
  | _, .str x => some (.str x)
  | 0, _ => none
  | n + 1, .lst xs => (toPds s n xs).map .list
  | n + 1, .tup xs => (toPds s n xs).map .tuple
  | n + 1, .scr xs => (toPds s n xs).map .list
  | n + 1, .dct ks xs => (toPds s n xs).map fun ps => .dict ((ks.map keyP).zip ps)
  | n + 1, .loc k => match s[k]? with
    | some (.lst xs) => (toPds s n xs).map .list
    | some (.dct ks xs) => (toPds s n xs).map fun ps => .dict ((ks.map keyP).zip ps)
    | none => none
  | _, .exn _ _ _ => none
def toPds (s : Sto) : Nat → List D → Option (List PyData)
  | _, [] => some []
  | n, x :: xs => match toPd s n x, toPds s n xs with
    | some p, some ps => some (p :: ps)
    | _, _ => none
end
theorem toPds_length {s : Sto} {n : Nat} : ∀ {xs : List D} {ps : List PyData}, toPds s n xs = some ps → ps.length = xs.length
  | [], _, h => by simp only [toPds] at h; cases h; rfl
  | x :: xs, _, h => by
    simp only [toPds] at h
    cases e1 : toPd s n x with
    | none => rw [e1] at h; cases h
    | some p =>
      cases e2 : toPds s n xs with
      | none => rw [e1, e2] at h; cases h
      | some ps =>
        rw [e1, e2] at h
        cases h
        rw [List.length_cons, List.length_cons, toPds_length e2]
theorem pairs_keys {P : Program} {w : World} {h : Heap} {es : List DictEntry} {kvs : List (Key × Value)} (p : Pairs (mixKind P w) es kvs) : ∀ {ks : List Key} {vs : List V}, ks.length = vs.length → KV (ks.zip vs) kvs → Rd1s h (es.map (·.key)) (ks.map keyP) ∧ es.map (·.val) = kvs.map (·.2) ∧ Vals vs (kvs.map (·.2)) := by
  induction p with
  | nil =>
    intro ks vs hl r
    unfold KV at r
    cases ks with
    | nil =>
      cases vs with
      | nil => exact ⟨.nil, rfl, .nil⟩
      | cons v vs => cases hl
    | cons k ks =>
      cases vs with
      | nil => cases hl
      | cons v vs => cases r
  | cons h1 h2 _ ih =>
    intro ks vs hl r
    unfold KV at r
    cases ks with
    | nil => cases r
    | cons k ks =>
      cases vs with
      | nil => cases hl
      | cons v vs =>
        rw [List.zip_cons_cons] at r
        cases r with
        | cons q t =>
          obtain ⟨i1, i2, i3⟩ := ih (by simpa using hl) t
          refine ⟨?_, by rw [List.map_cons, List.map_cons, i2, h2], .cons q.2 i3⟩
          rw [List.map_cons, List.map_cons]
          refine .cons ?_ i1
          rw [← q.1] at h1
          rcases keyIs_shape h1 with ⟨i, t, e1, e2⟩ | ⟨x, t, e1, e2⟩
          · have e1 : k = .inl i := e1
            rw [e1, e2]; exact .int i t
          · have e1 : k = .inr x := e1
            rw [e1, e2]; exact .str x t
section
variable {X : Cx} {pins : List (Addr × Obj)} {σ : L2.St} {H : Hp} {sh : Shared} {ρ : Rg} {s : Sto}
theorem zip_fst {α β : Type} : ∀ {xs : List α} {ys : List β}, ys.length = xs.length → (xs.zip ys).map (·.1) = xs ∧ (xs.zip ys).map (·.2) = ys
  | [], [], _ => ⟨rfl, rfl⟩
  | x :: xs, y :: ys, h => by
    obtain ⟨h1, h2⟩ := zip_fst (xs := xs) (ys := ys) (by simpa using h)
    exact ⟨by rw [List.zip_cons_cons, List.map_cons, h1], by rw [List.zip_cons_cons, List.map_cons, h2]⟩
  | [], _ :: _, h => by cases h
  | _ :: _, [], h => by cases h
theorem rd1_dict (I : Inv X pins σ H sh) {a : Addr} {ks : List Key} {vs : List V} {ps : List PyData} (hd : Rd H a (.dK (ks.zip vs))) (hl : ks.length = vs.length) (hp : ps.length = vs.length) (ih : ∀ us : List Value, Vals vs us → Rd1s sh.heap us ps) : Rd1 sh.heap (.ref a) (.dict ((ks.map keyP).zip ps)) := by
  obtain ⟨z, hm, kvs, rel, o, es, ep, ho, hex, hda, _, hpr, _⟩ := dk_rd I.hok hd
  obtain ⟨q1, q2, q3⟩ := pairs_keys (h := sh.heap) hpr hl rel
  have hz := zip_fst (xs := ks.map keyP) (ys := ps) (by rw [List.length_map, hp, hl])
  exact .dict ho hex.1 hda hm (by rw [hz.1]; exact q1) (by rw [hz.2, q2]; exact ih _ q3)
mutual
theorem rd1_ok (I : Inv X pins σ H sh) (rs : RepS X.K ρ H s) : ∀ (n : Nat) (d : D) (v : V) (p : PyData) (u : Value), Rep X.K ρ H d v → toPd s n d = some p → RelV v u → Rd1 sh.heap u p
  | n, .non, _, _, _, r, h, ru => by cases r; simp only [toPd] at h; cases h; cases ru; exact .non
  | n, .bl b, _, _, _, r, h, ru => by cases r; simp only [toPd] at h; cases h; cases ru; exact .bool b
  | n, .int b, _, _, _, r, h, ru => by cases r; simp only [toPd] at h; cases h; obtain ⟨t, rfl⟩ := ru; exact .int b t
  | n, .str b, _, _, _, r, h, ru => by cases r; simp only [toPd] at h; cases h; obtain ⟨t, rfl⟩ := ru; exact .str b t
  | 0, .lst _, _, _, _, _, h, _ => by simp only [toPd] at h; cases h
  | 0, .tup _, _, _, _, _, h, _ => by simp only [toPd] at h; cases h
  | 0, .loc _, _, _, _, _, h, _ => by simp only [toPd] at h; cases h
  | 0, .dct _ _, _, _, _, _, h, _ => by simp only [toPd] at h; cases h
  | 0, .scr _, _, _, _, _, h, _ => by simp only [toPd] at h; cases h
  | 0, .exn _ _ _, _, _, _, _, h, _ => by simp only [toPd] at h; cases h
  | _ + 1, .exn _ _ _, _, _, _, _, h, _ => by simp only [toPd] at h; cases h
  | n + 1, .lst xs, _, _, _, r, h, ru => by
    simp only [toPd] at h
    obtain ⟨ps, h1, rfl⟩ := Option.map_eq_some_iff.mp h
    obtain ⟨a, vs, rfl, q1, q2⟩ := Rep.sqL r
    cases ru
    obtain ⟨its, rv, ⟨o, m, ho, hc, _, hd⟩, _⟩ := I.list q1
    exact .list ho hc hd (rd1s_ok I rs n xs vs ps its q2 h1 rv)
  | n + 1, .scr xs, _, _, _, r, h, ru => by
    simp only [toPd] at h
    obtain ⟨ps, h1, rfl⟩ := Option.map_eq_some_iff.mp h
    obtain ⟨a, vs, rfl, q1, q2⟩ := Rep.scrL r
    cases ru
    obtain ⟨its, rv, ⟨o, m, ho, hc, _, hd⟩, _⟩ := I.list q1
    exact .list ho hc hd (rd1s_ok I rs n xs vs ps its q2 h1 rv)
  | n + 1, .tup xs, _, _, _, r, h, ru => by
    simp only [toPd] at h
    obtain ⟨ps, h1, rfl⟩ := Option.map_eq_some_iff.mp h
    obtain ⟨a, vs, rfl, q1, q2⟩ := Rep.sqT r
    cases ru
    obtain ⟨its, rv, ⟨o, ho, hc, m, hd⟩, _⟩ := I.tuple q1
    exact .tuple ho hc hd (rd1s_ok I rs n xs vs ps its q2 h1 rv)
  | n + 1, .dct ks xs, _, _, _, r, h, ru => by
    simp only [toPd] at h
    obtain ⟨ps, h1, rfl⟩ := Option.map_eq_some_iff.mp h
    obtain ⟨a, vs, rfl, q1, q2, _, q3⟩ := r
    cases ru
    exact rd1_dict I q1.dK q2 (by rw [toPds_length h1, q3.length]) fun us rv => rd1s_ok I rs n xs vs ps us q3 h1 rv
  | n + 1, .loc k, _, _, _, r, h, ru => by
    simp only [toPd] at h
    obtain ⟨a, rfl, ha⟩ := r
    cases ru
    cases e : s[k]? with
    | none => rw [e] at h; cases h
    | some o =>
      rw [e] at h
      cases o with
      | dct ks ys =>
        obtain ⟨ps, h1, rfl⟩ := Option.map_eq_some_iff.mp h
        obtain ⟨vs, q1, q2, q3⟩ := (rs.obj k a _ ha e : RepO X.K ρ H a (.dct ks ys))
        exact rd1_dict I (.inl q1) q2 (by rw [toPds_length h1, q3.length]) fun us rv => rd1s_ok I rs n ys vs ps us q3 h1 rv
      | lst xs =>
        obtain ⟨ps, h1, rfl⟩ := Option.map_eq_some_iff.mp h
        obtain ⟨vs, q1, q2⟩ := (rs.obj k a _ ha e : RepO X.K ρ H a (.lst xs))
        obtain ⟨its, rv, ⟨o, m, ho, hc, _, hd⟩, _⟩ := I.list (SqL.of q1)
        exact .list ho hc hd (rd1s_ok I rs n xs vs ps its q2 h1 rv)
theorem rd1s_ok (I : Inv X pins σ H sh) (rs : RepS X.K ρ H s) : ∀ (n : Nat) (ds : List D) (vs : List V) (ps : List PyData) (us : List Value), Reps X.K ρ H ds vs → toPds s n ds = some ps → Vals vs us → Rd1s sh.heap us ps
  | _, [], _, _, _, r, h, rv => by cases r; simp only [toPds] at h; cases h; cases rv; exact .nil
  | n, x :: xs, _, _, _, r, h, rv => by
    obtain ⟨v, q, rfl, h1, h2⟩ := r
    simp only [toPds] at h
    cases e1 : toPd s n x with
    | none => rw [e1] at h; cases h
    | some p =>
      cases e2 : toPds s n xs with
      | none => rw [e1, e2] at h; cases h
      | some ps =>
        rw [e1, e2] at h
        cases h
        cases rv with
        | cons ra rb => exact .cons (rd1_ok I rs n x v p _ h1 e1 ra) (rd1s_ok I rs n xs q ps _ h2 e2 rb)
end
end
end DL
set_option Elab.async false
set_option linter.all false
set_option maxRecDepth 100000
set_option maxHeartbeats 4000000
/-! DMd: repr as a builtin, data with dicts. -/
namespace DL
open PySem PySem.Spec PyProof.Rows L2
section
variable {prog : Program} {w : World} {A : Around} {E : Value → Shared → Prop} {s : Shared} {Q : Value → Shared → Prop}
theorem repr_rd1 {v : Value} {d : PyData} (r : Rd1 s.heap v d) (hs : d.showable = true) (hz : d.shown.length ≤ sizeLine) (hg : A.guards = some []) (hu : A.units + (d.depth + 1) < cLine)
    (hQ : ∀ h' u tk, (∀ b o, s.heap.get? b = some o → h'.get? b = some o) → Q (.str d.shown u) { s with heap := h', toks := tk }) : wpAny (model prog w) A (call (.builtin "repr") [v]) Q E s := by
  have hk : ∀ b o, s.heap.get? b = some o → s.heap.get? b = some o := fun _ _ e => e
  cases r with
  | non => exact PySem.P.repr_of_none (hQ _ _ _ hk)
  | bool b => exact PySem.P.repr_of_bool (hQ _ _ _ hk)
  | int i t => exact PySem.P.repr_of_int (of_decide_eq_true hs) (hQ _ _ _ hk)
  | str x t => exact PySem.P.repr_of_str (hQ _ _ _ hk) hz
  | @list a o vs n xs h1 h2 h3 h4 =>
    simp only [PyData.shown] at hz hQ
    simp only [PyData.showable] at hs
    simp only [PyData.depth] at hu
    obtain ⟨bs, hb, hk2⟩ := shows1s (prog := prog) (w := w) h4 hs fun t ht => Nat.le_trans (listText_mem_le ht) hz
    obtain ⟨as, r⟩ := Rd1.reads (.list h1 h2 h3 h4)
    have na : a ∉ bs := not_mem_of_deeper r (by simp only [PyData.depth]; omega) hb
    refine call_repr_slot (by omega) (T := "list") ⟨o, h1, h2⟩ F.slot_list_repr.toG ?_
    obtain ⟨l⟩ := vs
    cases l with
    | nil =>
      have h4' : Rd1s s.heap [] xs := h4
      cases h4'
      simp only [PyData.shownAll, listText_nil] at hQ
      exact call_list_repr_empty ⟨o, h1, h2⟩ h1 h3 ⟨_, _, rfl, hQ s.heap _ _ hk⟩
    | cons x l => exact call_list_reprK h1 h2 h3 na (by simpa using hk2.length_eq) (fun i y e => hk2.item i y (by simpa using e)) hg (fun b _ => Clear.nil b) (by show A.units + 1 + _ < cLine; omega) hk (fun h' u tk hk' => ⟨_, _, rfl, hQ h' u tk hk'⟩) hz
  | @tuple a o vs n xs h1 h2 h3 h4 =>
    simp only [PyData.shown] at hz hQ
    simp only [PyData.showable] at hs
    simp only [PyData.depth] at hu
    obtain ⟨bs, hb, hk2⟩ := shows1s (prog := prog) (w := w) h4 hs fun t ht => Nat.le_trans (tupleText_mem_le ht) hz
    obtain ⟨as, r⟩ := Rd1.reads (.tuple h1 h2 h3 h4)
    have na : a ∉ bs := not_mem_of_deeper r (by simp only [PyData.depth]; omega) hb
    refine call_repr_slot (by omega) (T := "tuple") ⟨o, h1, h2⟩ F.slot_tuple_repr ?_
    exact call_tuple_reprK h1 h2 h3 na hk2 hg (fun b _ => Clear.nil b) (by show A.units + 1 + _ < cLine; omega) hk (fun h' u tk hk' => ⟨_, _, rfl, hQ h' u tk hk'⟩) hz
  | @dict a o es n kvs h1 h2 h3 h0 h4 h5 =>
    simp only [PyData.shown] at hz hQ
    rw [PyData.shownKv_eq] at hQ
    simp only [PyData.showable] at hs
    simp only [PyData.depth] at hu
    obtain ⟨s1, s2⟩ := PyData.showableKv_split kvs hs
    obtain ⟨b1, hb1, k1⟩ := shows1s (prog := prog) (w := w) h4 s1 fun t ht => let ⟨p, hp, hl⟩ := PyData.shownKv_key_le kvs t ht; Nat.le_trans hl (Nat.le_trans (dictText_mem_le hp) hz)
    obtain ⟨b2, hb2, k2⟩ := shows1s (prog := prog) (w := w) h5 s2 fun t ht => let ⟨p, hp, hl⟩ := PyData.shownKv_val_le kvs t ht; Nat.le_trans hl (Nat.le_trans (dictText_mem_le hp) hz)
    obtain ⟨as, r⟩ := Rd1.reads (.dict h1 h2 h3 h0 h4 h5)
    have hb : ReadAtMost s.heap (PyData.depthKv kvs) (b1 ++ b2) := (hb1.mono (PyData.depthAll_keys_le kvs)).append (hb2.mono (PyData.depthAll_vals_le kvs))
    have na : a ∉ b1 ++ b2 := not_mem_of_deeper r (by simp only [PyData.depth]; omega) hb
    refine call_repr_slot (by omega) (T := "dict") ⟨o, h1, h2⟩ F.slot_dict_repr ?_
    exact call_dict_reprK h1 h2 h3 h0 na (ReprEntriesK.of_two es.toList _ _ (k1.more_le (fun b hb => List.mem_append_left _ hb) (PyData.depthAll_keys_le kvs)) (k2.more_le (fun b hb => List.mem_append_right _ hb) (PyData.depthAll_vals_le kvs)))
      hg (fun b _ => Clear.nil b) (by show A.units + 1 + _ < cLine; omega) hk (fun h' u tk hk' => ⟨_, _, rfl, hQ h' u tk hk'⟩) (by rw [← PyData.shownKv_eq]; exact hz)
end
def fReprX : Fn1 := fun ds s => match ds with
  | [d] => match toPd s 60 d with
    | some p => if (p.showable && decide (p.shown.length ≤ sizeLine) && decide (p.depth ≤ 60)) = true then some (.str p.shown) else none
    | none => none
  | _ => none
section
variable {X : Cx}
theorem cd_reprX (hg : X.A.guards = some []) (hu : X.A.units + 64 < cLine) : CallR X (.builtin "repr") (rC X.K fReprX) := by
  intro pins s σ H xs us Q I r h
  obtain ⟨ρ, st, ds, d, rd, rs, e, q⟩ := h
  unfold fReprX at e
  split at e
  · rename_i a
    cases e1 : toPd st 60 a with
    | none => rw [e1] at e; cases e
    | some p =>
      rw [e1] at e
      simp only at e
      split at e
      · rename_i hz
        simp only [Bool.and_eq_true, decide_eq_true_eq] at hz
        cases e
        obtain ⟨v, rfl, r1⟩ := reps1 rd
        obtain ⟨u, rfl, r2⟩ := vals1 r
        exact repr_rd1 (rd1_ok I rs 60 a v p u r1 e1 r2) hz.1.1 hz.1.2 hg (by omega) fun h' t tk hk => ⟨.str p.shown, H, I.kept hk, ⟨t, rfl⟩, q _ H Ext.refl rfl rs⟩
      · cases e
  · cases e
end
end DL
set_option Elab.async false
set_option linter.all false
set_option maxRecDepth 100000
set_option maxHeartbeats 4000000
/-! DMe: == and in, nested tuples and lists, by value: lists by their length first, tuples item by item as far as both go. -/
namespace DL
open PySem PySem.Spec PyProof.Rows L2
inductive Vw where
  | flat (x : V) | lst (xs : List D) | tup (xs : List D) | oth
def vw (s : Sto) : D → Vw
  | .non => .flat .non
  | .bl b => .flat (.bl b)
  | .int i => .flat (.int i)
  | .str x => .flat (.str x)
  | .tup xs => .tup xs
  | .lst xs => .lst xs
  | .scr xs => .lst xs
  | .loc n => match s[n]? with
    | some (.lst xs) => .lst xs
    | _ => .oth
  | _ => .oth
def zipE (f : D → D → Option Bool) : List D → List D → Option Bool
  | a :: as, b :: bs => match f a b, zipE f as bs with
    | some k, some l => some (k && l)
    | _, _ => none
  | _, _ => some true
def eqW (f : D → D → Option Bool) (a b : Vw) : Option Bool := match a, b with
  | .flat x, .flat y => some (eqV x y)
  | .lst xs, .lst ys => if xs.length = ys.length then zipE f xs ys else some false
  | .tup xs, .tup ys => (zipE f xs ys).map fun k => k && decide (xs.length = ys.length)
  | .oth, _ => none
  | _, .oth => none
  | _, _ => some false
def eqX (s : Sto) : Nat → D → D → Option Bool
  | 0 => fun a b => eqW (fun _ _ => none) (vw s a) (vw s b)
  | n + 1 => fun a b => eqW (eqX s n) (vw s a) (vw s b)
section
variable {X : Cx} {pins : List (Addr × Obj)} {σ : L2.St} {H : Hp} {sh : Shared} {ρ : Rg} {s : Sto}
/-- how a value lies -/
def VwOk (K : PySem.W.Frag) (ρ : Rg) (H : Hp) (v : V) : Vw → Prop
  | .flat x => v = x ∧ flatV x = true
  | .lst xs => ∃ a vs, v = .ref a ∧ SqL K H a vs ∧ Reps K ρ H xs vs
  | .tup xs => ∃ a vs, v = .ref a ∧ SqT K H a vs ∧ Reps K ρ H xs vs
  | .oth => True
theorem vw_ok (rs : RepS X.K ρ H s) {d : D} {v : V} (r : Rep X.K ρ H d v) : VwOk X.K ρ H v (vw s d) := by
  cases d with
  | non => cases r; exact ⟨rfl, rfl⟩
  | bl b => cases r; exact ⟨rfl, rfl⟩
  | int b => cases r; exact ⟨rfl, rfl⟩
  | str b => cases r; exact ⟨rfl, rfl⟩
  | tup xs => exact Rep.sqT r
  | lst xs => exact Rep.sqL r
  | scr xs => exact Rep.scrL r
  | dct ks xs => trivial
  | exn _ _ _ => trivial
  | loc n =>
    obtain ⟨a, rfl, ha⟩ := r
    unfold vw
    obtain ⟨ob, e1, e2⟩ := rs.at ha
    simp only [e1]
    cases ob with
    | lst xs => obtain ⟨vs, q1, q2⟩ := e2; exact ⟨a, vs, rfl, SqL.of q1, q2⟩
    | dct ks xs => trivial
theorem eqV_self {x : V} (h : flatV x = true) : eqV x x = true := by
  cases x <;> first
    | rfl
    | exact beq_self_eq_true _
    | cases h
/-- what lies at the same place is alike -/
theorem eqW_same (I : Inv X pins σ H sh) {f : D → D → Option Bool} (ih : ∀ a b v k, Rep X.K ρ H a v → Rep X.K ρ H b v → f a b = some k → k = true) {A B : Vw} {v : V} {k : Bool} (ra : VwOk X.K ρ H v A) (rb : VwOk X.K ρ H v B) (h : eqW f A B = some k) : k = true := by
  have zs : ∀ {xs ys : List D} {vs : List V} {k : Bool}, Reps X.K ρ H xs vs → Reps X.K ρ H ys vs → zipE f xs ys = some k → k = true := by
    intro xs
    induction xs with
    | nil => intro ys vs k r1 r2 h; cases h; rfl
    | cons x xs ihx =>
      intro ys vs k r1 r2 h
      cases ys with
      | nil => cases h; rfl
      | cons y ys =>
        obtain ⟨v, r, rfl, a1, a2⟩ := r1
        obtain ⟨v', r', e, b1, b2⟩ := r2
        cases e
        simp only [zipE] at h
        cases e1 : f x y with
        | none => rw [e1] at h; cases h
        | some k1 =>
          cases e2 : zipE f xs ys with
          | none => rw [e1, e2] at h; cases h
          | some k2 =>
            rw [e1, e2] at h
            cases h
            rw [ih _ _ _ _ a1 b1 e1, ihx a2 b2 e2]; rfl
  cases A <;> cases B <;> simp only [eqW] at h <;> try (cases h; done)
  · obtain ⟨rfl, h1⟩ := ra
    obtain ⟨rfl, h2⟩ := rb
    rw [eqV_self h1] at h
    exact (Option.some.inj h).symm
  · obtain ⟨rfl, h1⟩ := ra; obtain ⟨a, vs, rfl, _⟩ := rb; cases h1
  · obtain ⟨rfl, h1⟩ := ra; obtain ⟨a, vs, rfl, _⟩ := rb; cases h1
  · obtain ⟨rfl, h1⟩ := rb; obtain ⟨a, vs, rfl, _⟩ := ra; cases h1
  · obtain ⟨a, vs, rfl, q1, q2⟩ := ra
    obtain ⟨a', vs', e, q3, q4⟩ := rb
    cases e
    obtain rfl := I.list_inj q1 q3
    rw [if_pos (by rw [q2.length, q4.length])] at h
    exact zs q2 q4 h
  · obtain ⟨a, vs, rfl, q1, q2⟩ := ra
    obtain ⟨a', vs', e, q3, q4⟩ := rb
    cases e
    obtain ⟨_, _, ⟨o, _, h1, h2, _⟩, _⟩ := I.list q1
    obtain ⟨_, _, ⟨o', h3, h4, _⟩, _⟩ := I.tuple q3
    rw [h1] at h3; cases h3
    exact absurd (h2.symm.trans h4) (by simp)
  · obtain ⟨rfl, h1⟩ := rb; obtain ⟨a, vs, rfl, _⟩ := ra; cases h1
  · obtain ⟨a, vs, rfl, q1, q2⟩ := ra
    obtain ⟨a', vs', e, q3, q4⟩ := rb
    cases e
    obtain ⟨_, _, ⟨o, _, h1, h2, _⟩, _⟩ := I.list q3
    obtain ⟨_, _, ⟨o', h3, h4, _⟩, _⟩ := I.tuple q1
    rw [h1] at h3; cases h3
    exact absurd (h2.symm.trans h4) (by simp)
  · obtain ⟨a, vs, rfl, q1, q2⟩ := ra
    obtain ⟨a', vs', e, q3, q4⟩ := rb
    cases e
    obtain rfl := I.tuple_inj q1 q3
    obtain ⟨k', e', rfl⟩ := Option.map_eq_some_iff.mp h
    rw [zs q2 q4 e', decide_eq_true (by rw [q2.length, q4.length])]; rfl
theorem eqX_same (I : Inv X pins σ H sh) (rs : RepS X.K ρ H s) : ∀ (n : Nat) (a b : D) (v : V) (k : Bool), Rep X.K ρ H a v → Rep X.K ρ H b v → eqX s n a b = some k → k = true
  | 0, a, b, v, k, ra, rb, h => eqW_same I (fun _ _ _ _ _ _ z => by cases z) (vw_ok rs ra) (vw_ok rs rb) h
  | n + 1, a, b, v, k, ra, rb, h => eqW_same I (eqX_same I rs n) (vw_ok rs ra) (vw_ok rs rb) h
theorem eqW_at (I : Inv X pins σ H sh) {A : Around} {f : D → D → Option Bool} (hu : A.units < cLine) (same : ∀ a b v k, Rep X.K ρ H a v → Rep X.K ρ H b v → f a b = some k → k = true) (ih : ∀ a b x y u w k, Rep X.K ρ H a x → Rep X.K ρ H b y → RelV x u → RelV y w → f a b = some k → SeqAt.EqAt A.in1 sh u w k)
    {P Q : Vw} {x y : V} {u w : Value} {k : Bool} (ra : VwOk X.K ρ H x P) (rb : VwOk X.K ρ H y Q) (ru : RelV x u) (rw' : RelV y w) (h : eqW f P Q = some k) : SeqAt.EqAt A sh u w k ∧ ∀ a b, u = .ref a → w = .ref b → SeqAt.RcAt A sh u w k := by
  have zs : ∀ {xs ys : List D} {vs us : List V} {k : Bool}, Reps X.K ρ H xs vs → Reps X.K ρ H ys us → zipE f xs ys = some k → ∀ {is js : List Value}, Vals vs is → Vals us js → ∃ e : Nat → Bool, (∀ j (h1 : j < is.length) (h2 : j < js.length), SeqAt.EqAt A.in1 sh is[j] js[j] (e j)) ∧ k = (List.range (min is.length js.length)).all e := by
    intro xs
    induction xs with
    | nil => intro ys vs us k r1 r2 h is js v1 v2; cases r1; cases v1; cases h; exact ⟨fun _ => true, fun j h1 => absurd h1 (Nat.not_lt_zero j), by simp⟩
    | cons a xs ihx =>
      intro ys vs us k r1 r2 h is js v1 v2
      cases ys with
      | nil => cases r2; cases v2; cases h; exact ⟨fun _ => true, fun j _ h2 => absurd h2 (Nat.not_lt_zero j), by simp⟩
      | cons b ys =>
        obtain ⟨v, r, rfl, a1, a2⟩ := r1
        obtain ⟨v', r', rfl, b1, b2⟩ := r2
        cases v1 with
        | cons w1 t1 =>
          cases v2 with
          | cons w2 t2 =>
            simp only [zipE] at h
            cases e1 : f a b with
            | none => rw [e1] at h; cases h
            | some k1 =>
              cases e2 : zipE f xs ys with
              | none => rw [e1, e2] at h; cases h
              | some k2 =>
                rw [e1, e2] at h
                cases h
                obtain ⟨e, q1, q2⟩ := ihx a2 b2 e2 t1 t2
                refine ⟨fun j => if j = 0 then k1 else e (j - 1), fun j h1 h2 => ?_, ?_⟩
                · cases j with
                  | zero => exact ih _ _ _ _ _ _ _ a1 b1 w1 w2 e1
                  | succ j => exact q1 j (by simpa using h1) (by simpa using h2)
                · rw [List.length_cons, List.length_cons, Nat.add_min_add_right, List.range_succ_eq_map, List.all_cons, q2, List.all_map]
                  rfl
  have refs : ∀ {a b : Addr} {k : Bool}, (a = b → k = true ∧ SeqAt.RcAt A sh (.ref a) (.ref a) true) → (a ≠ b → SeqAt.RcAt A sh (.ref a) (.ref b) k) → SeqAt.EqAt A sh (.ref a) (.ref b) k ∧ ∀ a' b', Value.ref a = .ref a' → Value.ref b = .ref b' → SeqAt.RcAt A sh (.ref a) (.ref b) k := by
    intro a b k h1 h2
    by_cases e : a = b
    · subst e
      obtain ⟨rfl, h3⟩ := h1 rfl
      exact ⟨SeqAt.EqAt.same _, fun _ _ _ _ => h3⟩
    · exact ⟨SeqAt.EqAt.of_refs e (h2 e), fun _ _ _ _ => h2 e⟩
  have allT : ∀ n : Nat, (List.range n).all (fun _ => true) = true := fun n => List.all_eq_true.mpr fun _ _ => rfl
  have nof : ∀ {x : V} {u : Value}, RelV x u → flatV x = true → ∀ a, u ≠ .ref a := by
    intro x u r f a e
    subst e
    cases x <;> try (cases f; done)
    all_goals first
      | (obtain ⟨t, z⟩ := r; cases z)
      | cases r
  cases P <;> cases Q <;> simp only [eqW] at h <;> try (cases h; done)
  · obtain ⟨rfl, f1⟩ := ra
    obtain ⟨rfl, f2⟩ := rb
    cases h
    exact ⟨eqAt_V ru rw' f1 f2, fun a b e => absurd e (nof ru f1 a)⟩
  · obtain ⟨rfl, f1⟩ := ra
    obtain ⟨b, vs, rfl, q1, q2⟩ := rb
    cases h; cases rw'
    obtain ⟨_, _, p, _⟩ := I.list q1
    refine ⟨?_, fun a b e => absurd e (nof ru f1 a)⟩
    cases x with
    | non => cases ru; exact SeqAt.EqAt.none_list p.isList hu
    | bl b => cases ru; exact SeqAt.EqAt.bool_list _ p.isList hu
    | int i => obtain ⟨t, rfl⟩ := ru; exact SeqAt.EqAt.int_list _ _ p.isList hu
    | str z => obtain ⟨t, rfl⟩ := ru; exact SeqAt.EqAt.str_list _ _ p.isList hu
    | _ => cases f1
  · obtain ⟨rfl, f1⟩ := ra
    obtain ⟨b, vs, rfl, q1, q2⟩ := rb
    cases h; cases rw'
    obtain ⟨_, _, p, _⟩ := I.tuple q1
    refine ⟨?_, fun a b e => absurd e (nof ru f1 a)⟩
    cases x with
    | non => cases ru; exact SeqAt.EqAt.none_tuple p hu
    | bl b => cases ru; exact SeqAt.EqAt.bool_tuple _ p hu
    | int i => obtain ⟨t, rfl⟩ := ru; exact SeqAt.EqAt.int_tuple _ _ p hu
    | str z => obtain ⟨t, rfl⟩ := ru; exact SeqAt.EqAt.str_tuple _ _ p hu
    | _ => cases f1
  · obtain ⟨rfl, f1⟩ := rb
    obtain ⟨b, vs, rfl, q1, q2⟩ := ra
    cases h; cases ru
    obtain ⟨_, _, p, _⟩ := I.list q1
    refine ⟨?_, fun a b _ e => absurd e (nof rw' f1 b)⟩
    cases y with
    | non => cases rw'; exact SeqAt.EqAt.list_none p.isList hu
    | bl b => cases rw'; exact SeqAt.EqAt.list_bool _ p.isList hu
    | int i => obtain ⟨t, rfl⟩ := rw'; exact SeqAt.EqAt.list_int _ _ p.isList hu
    | str z => obtain ⟨t, rfl⟩ := rw'; exact SeqAt.EqAt.list_str _ _ p.isList hu
    | _ => cases f1
  · obtain ⟨a, vs, rfl, q1, q2⟩ := ra
    obtain ⟨b, us, rfl, q3, q4⟩ := rb
    cases ru; cases rw'
    obtain ⟨is, v1, p1, _⟩ := I.list q1
    obtain ⟨js, v2, p2, _⟩ := I.list q3
    have l1 := q2.length.trans v1.length
    have l2 := q4.length.trans v2.length
    refine refs (fun e => ?_) fun ne => ?_
    · subst e
      obtain rfl := I.list_inj q1 q3
      refine ⟨eqW_same I same (A := .lst _) (B := .lst _) (v := .ref a) ⟨a, vs, rfl, q1, q2⟩ ⟨a, vs, rfl, q3, q4⟩ h, ?_⟩
      have z := SeqAt.RcAt.lists (e := fun _ => true) p1.isList p1.isList rfl hu fun j _ _ => SeqAt.EqAt.same _
      rw [allT] at z
      exact z
    · by_cases hl : is.length = js.length
      · rw [if_pos (by rw [l1, l2, hl])] at h
        obtain ⟨e, e1, e2⟩ := zs q2 q4 h v1 v2
        subst e2
        rw [hl, Nat.min_self, ← hl]
        exact SeqAt.RcAt.lists p1.isList p2.isList (by simpa using hl) hu fun j h1 h2 => e1 j h1 h2
      · rw [if_neg (by rw [l1, l2]; exact hl)] at h
        cases h
        exact SeqAt.RcAt.lists_lengths p1.isList p2.isList (by simpa using hl) hu
  · obtain ⟨a, vs, rfl, q1, q2⟩ := ra
    obtain ⟨b, us, rfl, q3, q4⟩ := rb
    cases ru; cases rw'; cases h
    obtain ⟨is, v1, p1, _⟩ := I.list q1
    obtain ⟨js, v2, p2, _⟩ := I.tuple q3
    exact refs (fun e => absurd e (SeqAt.ne_of_list_tuple p1.isList p2)) fun _ => SeqAt.RcAt.list_tuple p1.isList p2 hu
  · obtain ⟨rfl, f1⟩ := rb
    obtain ⟨b, vs, rfl, q1, q2⟩ := ra
    cases h; cases ru
    obtain ⟨_, _, p, _⟩ := I.tuple q1
    refine ⟨?_, fun a b _ e => absurd e (nof rw' f1 b)⟩
    cases y with
    | non => cases rw'; exact SeqAt.EqAt.tuple_none p hu
    | bl b => cases rw'; exact SeqAt.EqAt.tuple_bool _ p hu
    | int i => obtain ⟨t, rfl⟩ := rw'; exact SeqAt.EqAt.tuple_int _ _ p hu
    | str z => obtain ⟨t, rfl⟩ := rw'; exact SeqAt.EqAt.tuple_str _ _ p hu
    | _ => cases f1
  · obtain ⟨a, vs, rfl, q1, q2⟩ := ra
    obtain ⟨b, us, rfl, q3, q4⟩ := rb
    cases ru; cases rw'; cases h
    obtain ⟨is, v1, p1, _⟩ := I.tuple q1
    obtain ⟨js, v2, p2, _⟩ := I.list q3
    exact refs (fun e => absurd e.symm (SeqAt.ne_of_list_tuple p2.isList p1)) fun _ => SeqAt.RcAt.tuple_list p1 p2.isList hu
  · obtain ⟨a, vs, rfl, q1, q2⟩ := ra
    obtain ⟨b, us, rfl, q3, q4⟩ := rb
    cases ru; cases rw'
    obtain ⟨is, v1, p1, _⟩ := I.tuple q1
    obtain ⟨js, v2, p2, _⟩ := I.tuple q3
    have l1 := q2.length.trans v1.length
    have l2 := q4.length.trans v2.length
    refine refs (fun e => ?_) fun ne => ?_
    · subst e
      obtain rfl := I.tuple_inj q1 q3
      refine ⟨eqW_same I same (A := .tup _) (B := .tup _) (v := .ref a) ⟨a, vs, rfl, q1, q2⟩ ⟨a, vs, rfl, q3, q4⟩ h, ?_⟩
      have z := SeqAt.RcAt.tuples (e := fun _ => true) p1 p1 hu fun j _ _ => SeqAt.EqAt.same _
      rw [allT, beq_self_eq_true] at z
      exact z
    · obtain ⟨k', ek, rfl⟩ := Option.map_eq_some_iff.mp h
      obtain ⟨e, e1, e2⟩ := zs q2 q4 ek v1 v2
      subst e2
      have z := SeqAt.RcAt.tuples (e := e) p1 p2 hu fun j h1 h2 => e1 j h1 h2
      rw [l1, l2]
      rw [List.size_toArray, List.size_toArray, show (is.length == js.length) = decide (is.length = js.length) from by rw [Bool.eq_iff_iff, beq_iff_eq, decide_eq_true_eq]] at z
      exact z
/-- the same value at the left, the same answer -/
theorem eqW_det (I : Inv X pins σ H sh) {f : D → D → Option Bool} (ih : ∀ a a' b v k k', Rep X.K ρ H a v → Rep X.K ρ H a' v → f a b = some k → f a' b = some k' → k = k') {P P' Q : Vw} {v : V} {k k' : Bool} (ra : VwOk X.K ρ H v P) (ra' : VwOk X.K ρ H v P') (h : eqW f P Q = some k) (h' : eqW f P' Q = some k') : k = k' := by
  have zs : ∀ {xs xs' ys : List D} {vs : List V} {k k' : Bool}, Reps X.K ρ H xs vs → Reps X.K ρ H xs' vs → zipE f xs ys = some k → zipE f xs' ys = some k' → k = k' := by
    intro xs
    induction xs with
    | nil =>
      intro xs' ys vs k k' r1 r2 h h'
      cases r1
      cases xs' with
      | nil => cases h; cases h'; rfl
      | cons x xs' => obtain ⟨_, _, e, _⟩ := r2; cases e
    | cons x xs ihx =>
      intro xs' ys vs k k' r1 r2 h h'
      obtain ⟨v, r, rfl, a1, a2⟩ := r1
      cases xs' with
      | nil => cases r2
      | cons x' xs' =>
        obtain ⟨v', r', e, b1, b2⟩ := r2
        cases e
        cases ys with
        | nil => cases h; cases h'; rfl
        | cons y ys =>
          simp only [zipE] at h h'
          cases e1 : f x y with
          | none => rw [e1] at h; cases h
          | some k1 =>
            cases e2 : zipE f xs ys with
            | none => rw [e1, e2] at h; cases h
            | some k2 =>
              rw [e1, e2] at h
              cases h
              cases e3 : f x' y with
              | none => rw [e3] at h'; cases h'
              | some k3 =>
                cases e4 : zipE f xs' ys with
                | none => rw [e3, e4] at h'; cases h'
                | some k4 =>
                  rw [e3, e4] at h'
                  cases h'
                  rw [ih _ _ _ _ _ _ a1 b1 e1 e3, ihx a2 b2 e2 e4]
  have no : ∀ {x : V} {xs : List D} {C : Prop}, (v = x ∧ flatV x = true) → (∃ a vs, v = V.ref a ∧ SqL X.K H a vs ∧ Reps X.K ρ H xs vs) ∨ (∃ a vs, v = V.ref a ∧ SqT X.K H a vs ∧ Reps X.K ρ H xs vs) → C := by
    rintro x xs C ⟨rfl, f1⟩ (⟨a, vs, rfl, _⟩ | ⟨a, vs, rfl, _⟩) <;> cases f1
  have lt : ∀ {xs ys : List D} {C : Prop}, (∃ a vs, v = V.ref a ∧ SqL X.K H a vs ∧ Reps X.K ρ H xs vs) → (∃ a vs, v = V.ref a ∧ SqT X.K H a vs ∧ Reps X.K ρ H ys vs) → C := by
    rintro xs ys C ⟨a, vs, rfl, q1, _⟩ ⟨a', vs', e, q3, _⟩
    cases e
    obtain ⟨_, _, ⟨o, _, h1, h2, _⟩, _⟩ := I.list q1
    obtain ⟨_, _, ⟨o', h3, h4, _⟩, _⟩ := I.tuple q3
    rw [h1] at h3; cases h3
    exact absurd (h2.symm.trans h4) (by simp)
  cases P <;> cases P' <;> first
    | (simp only [eqW] at h; cases h; done)
    | (simp only [eqW] at h'; cases h'; done)
    | exact no ra (.inl ra')
    | exact no ra (.inr ra')
    | exact no ra' (.inl ra)
    | exact no ra' (.inr ra)
    | exact lt ra ra'
    | exact lt ra' ra
    | skip
  · obtain ⟨e1, _⟩ := ra
    obtain ⟨e2, _⟩ := ra'
    rw [← e1] at h
    rw [← e2] at h'
    rw [h] at h'
    exact Option.some.inj h'
  · obtain ⟨a, vs, rfl, q1, q2⟩ := ra
    obtain ⟨a', vs', e, q3, q4⟩ := ra'
    cases e
    obtain rfl := I.list_inj q1 q3
    cases Q <;> simp only [eqW] at h h' <;> first
      | (cases h; cases h'; rfl; done)
      | (cases h; done)
      | skip
    rename_i ys
    rw [q2.length] at h
    rw [q4.length] at h'
    by_cases hl : vs.length = ys.length
    · rw [if_pos hl] at h h'
      exact zs q2 q4 h h'
    · rw [if_neg hl] at h h'
      cases h; cases h'; rfl
  · obtain ⟨a, vs, rfl, q1, q2⟩ := ra
    obtain ⟨a', vs', e, q3, q4⟩ := ra'
    cases e
    obtain rfl := I.tuple_inj q1 q3
    cases Q <;> simp only [eqW] at h h' <;> first
      | (cases h; cases h'; rfl; done)
      | (cases h; done)
      | skip
    obtain ⟨m, e1, rfl⟩ := Option.map_eq_some_iff.mp h
    obtain ⟨m', e2, rfl⟩ := Option.map_eq_some_iff.mp h'
    rw [zs q2 q4 e1 e2, q2.length, q4.length]
theorem eqX_det (I : Inv X pins σ H sh) (rs : RepS X.K ρ H s) : ∀ (n : Nat) (a a' b : D) (v : V) (k k' : Bool), Rep X.K ρ H a v → Rep X.K ρ H a' v → eqX s n a b = some k → eqX s n a' b = some k' → k = k'
  | 0, a, a', b, v, k, k', ra, ra', h, h' => eqW_det I (fun _ _ _ _ _ _ _ _ z => by cases z) (vw_ok rs ra) (vw_ok rs ra') h h'
  | n + 1, a, a', b, v, k, k', ra, ra', h, h' => eqW_det I (eqX_det I rs n) (vw_ok rs ra) (vw_ok rs ra') h h'
theorem eqX_at (I : Inv X pins σ H sh) (rs : RepS X.K ρ H s) : ∀ (n : Nat) (A : Around), A.units + n < cLine → ∀ (a b : D) (x y : V) (u w : Value) (k : Bool), Rep X.K ρ H a x → Rep X.K ρ H b y → RelV x u → RelV y w → eqX s n a b = some k → SeqAt.EqAt A sh u w k
  | 0, A, hu, a, b, x, y, u, w, k, ra, rb, ru, rw', h => (eqW_at I (by omega) (fun _ _ _ _ _ _ z => by cases z) (fun _ _ _ _ _ _ _ _ _ _ _ z => by cases z) (vw_ok rs ra) (vw_ok rs rb) ru rw' h).1
  | n + 1, A, hu, a, b, x, y, u, w, k, ra, rb, ru, rw', h => (eqW_at I (by omega) (eqX_same I rs n) (eqX_at I rs n A.in1 (by show A.units + 1 + n < cLine; omega)) (vw_ok rs ra) (vw_ok rs rb) ru rw' h).1
end
end DL
set_option Elab.async false
set_option linter.all false
set_option maxRecDepth 100000
set_option maxHeartbeats 4000000
/-! DMf: ==, in, not in of nested data as operators. -/
namespace DL
open PySem PySem.Spec PyProof.Rows L2
def fEqX : Op2 := fun a b s => match vw s a, vw s b with
  | .flat x, .flat y => if scal x y = true then some (.bl (decide (x = y))) else none
  | .flat _, _ => none
  | _, .flat _ => none
  | _, _ => (eqX s 60 a b).map .bl
def allSome : List (Option Bool) → Option (List Bool)
  | [] => some []
  | some k :: r => (allSome r).map (k :: ·)
  | none :: _ => none
def inX (a : D) (ys : List D) (s : Sto) : Option Bool := (allSome (ys.map fun y => eqX s 60 y a)).map fun ks => ks.any id
def inXP (a b : D) (s : Sto) : Option Bool := match a, b with
  | .str x, .str z => inP (.str x) (.str z) s
  | a, b => (seqOf b s).bind fun ys => inX a ys s
def fInX : Op2 := fun a b s => (inXP a b s).map .bl
def fNotInX : Op2 := fun a b s => (inXP a b s).map fun k => .bl (!k)
section
variable {X : Cx}
theorem od_eqX (hu : X.A.units + 64 < cLine) : OpR X (compareOp .Eq) (rP X.K fEqX) := by
  intro pins s σ H x y v u Q I rx ry h
  obtain ⟨ρ, st, a, b, d, ra, rb, rs, e, q⟩ := h
  have wa := vw_ok rs ra
  have wb := vw_ok rs rb
  have deep : (∃ p, v = .ref p) → (∃ p, u = .ref p) → (eqX st 60 a b).map D.bl = some d → wpAny (model X.prog X.w) X.A (compareOp .Eq v u) (EP X pins σ Q) X.xe s := by
    rintro ⟨p, ev⟩ ⟨p', eu⟩ e
    obtain ⟨k, ek, rfl⟩ := Option.map_eq_some_iff.mp e
    have z := (eqW_at I (A := X.A) (by omega) (eqX_same I rs 59) (eqX_at I rs 59 X.A.in1 (by show X.A.units + 1 + 59 < cLine; omega)) wa wb rx ry ek).2 p p' ev eu
    exact z X.prog X.w X.xe _ ⟨.bl k, H, I, rfl, q _ H Ext.refl rfl rs⟩
  have refL : ∀ {xs : List D} {x : V} {v : Value}, RelV x v → (∃ a vs, x = V.ref a ∧ SqL X.K H a vs ∧ Reps X.K ρ H xs vs) → ∃ p, v = .ref p := by
    rintro xs x v r ⟨a, vs, rfl, _⟩
    exact ⟨a, r⟩
  have refT : ∀ {xs : List D} {x : V} {v : Value}, RelV x v → (∃ a vs, x = V.ref a ∧ SqT X.K H a vs ∧ Reps X.K ρ H xs vs) → ∃ p, v = .ref p := by
    rintro xs x v r ⟨a, vs, rfl, _⟩
    exact ⟨a, r⟩
  unfold fEqX at e
  cases ea : vw st a <;> cases eb : vw st b <;> rw [ea] at wa <;> rw [eb] at wb <;> rw [ea, eb] at e <;> simp only at e <;> try (cases e; done)
  · split at e
    · rename_i hs
      cases e
      obtain ⟨rfl, _⟩ := wa
      obtain ⟨rfl, _⟩ := wb
      exact op_eq pins s σ H _ _ v u Q I rx ry ⟨hs, q _ H Ext.refl rfl rs⟩
    · cases e
  all_goals first
    | exact deep (refL rx wa) (refL ry wb) e
    | exact deep (refL rx wa) (refT ry wb) e
    | exact deep (refT rx wa) (refL ry wb) e
    | exact deep (refT rx wa) (refT ry wb) e
    | (simp only [eqX, ea, eb, eqW] at e; cases e; done)
theorem inX_items {pins : List (Addr × Obj)} {σ : L2.St} {H : Hp} {s : Shared} {ρ : Rg} {st : Sto} (I : Inv X pins σ H s) (rs : RepS X.K ρ H st) {A : Around} (hu : A.units + 60 < cLine) {a : D} {x : V} {v : Value} (ra : Rep X.K ρ H a x) (rx : RelV x v) :
    ∀ {ys : List D} {vs : List V} {us : List Value} {ks : List Bool}, Reps X.K ρ H ys vs → Vals vs us → allSome (ys.map fun y => eqX st 60 y a) = some ks → ∃ e : Value → Bool, (∀ y ∈ us, SeqAt.EqAt A s y v (e y)) ∧ us.map e = ks ∧ ∀ y ∈ us, ∃ d w, d ∈ ys ∧ Rep X.K ρ H d w ∧ RelV w y ∧ eqX st 60 d a = some (e y) := by
  intro ys
  induction ys with
  | nil => intro vs us ks r rv h; cases r; cases rv; cases h; exact ⟨fun _ => false, fun _ z => (nomatch z), rfl, fun _ z => (nomatch z)⟩
  | cons y ys ih =>
    intro vs us ks r rv h
    obtain ⟨w, r', rfl, r1, r2⟩ := r
    cases rv with
    | cons v1 v2 =>
      rename_i u0 us0
      rw [List.map_cons] at h
      cases e1 : eqX st 60 y a with
      | none => rw [e1] at h; cases h
      | some k =>
        rw [e1] at h
        obtain ⟨ks', e2, rfl⟩ := Option.map_eq_some_iff.mp h
        obtain ⟨e, i1, i2, i3⟩ := ih r2 v2 e2
        classical
        have key : ∀ z ∈ us0, z = u0 → e z = k := by
          rintro z hz rfl
          obtain ⟨d, w', hd, rd, rw', ed⟩ := i3 z hz
          have ew : w' = w := rw'.inj v1
          subst ew
          exact eqX_det I rs 60 _ _ _ _ _ _ rd r1 ed e1
        refine ⟨fun z => if z = u0 then k else e z, fun z hz => ?_, ?_, fun z hz => ?_⟩
        · show SeqAt.EqAt A s z v (if z = u0 then k else e z)
          by_cases hzu : z = u0
          · rw [if_pos hzu, hzu]
            exact eqX_at I rs 60 A hu _ _ _ _ _ _ _ r1 ra v1 rx e1
          · rw [if_neg hzu]
            rcases List.mem_cons.mp hz with hz | hz
            · exact absurd hz hzu
            · exact i1 z hz
        · show (if u0 = u0 then k else e u0) :: us0.map (fun z => if z = u0 then k else e z) = _
          rw [if_pos rfl, ← i2]
          congr 1
          refine List.map_congr_left fun z hz => ?_
          by_cases hzu : z = u0
          · rw [if_pos hzu, key z hz hzu]
          · rw [if_neg hzu]
        · show ∃ d w, d ∈ y :: ys ∧ Rep X.K ρ H d w ∧ L2.RelV w z ∧ eqX st 60 d a = some (if z = u0 then k else e z)
          by_cases hzu : z = u0
          · rw [if_pos hzu, hzu]
            exact ⟨y, w, List.mem_cons_self, r1, v1, e1⟩
          · rw [if_neg hzu]
            rcases List.mem_cons.mp hz with hz | hz
            · exact absurd hz hzu
            · obtain ⟨d, w', hd, q⟩ := i3 z hz
              exact ⟨d, w', List.mem_cons_of_mem _ hd, q⟩
theorem any_map {α : Type} (e : α → Bool) (l : List α) : l.any e = (l.map e).any id := by
  rw [List.any_map]; rfl
theorem od_inX (hu : X.A.units + 64 < cLine) : OpR X (compareOp .In) (rP X.K fInX) := by
  intro pins s σ H x y v u Q I rx ry h
  obtain ⟨ρ, st, a, b, d, ra, rb, rs, e, q⟩ := h
  have deep : ((seqOf b st).bind fun ys => inX a ys st).map D.bl = some d → wpAny (model X.prog X.w) X.A (compareOp .In v u) (EP X pins σ Q) X.xe s := by
    intro e
    obtain ⟨k, e1, rfl⟩ := Option.map_eq_some_iff.mp e
    obtain ⟨ys, e2, e3⟩ := Option.bind_eq_some_iff.mp e1
    obtain ⟨ks, e4, rfl⟩ := Option.map_eq_some_iff.mp e3
    obtain ⟨p, vs, rfl, q1, q2⟩ := seqOf_ok rs rb e2
    cases (show u = Value.ref p from ry)
    rcases q1 with q1 | q1
    · obtain ⟨its, rv, p1, _⟩ := I.list q1
      obtain ⟨f, i1, i2, _⟩ := inX_items I rs (A := X.A.in1) (by show X.A.units + 1 + 60 < cLine; omega) ra rx q2 rv e4
      exact SeqAt.in_listAt f p1.isList (fun z hz => i1 z (by simpa using hz)) ⟨.bl (ks.any id), H, I, by show Value.bool _ = _; rw [← i2, ← any_map]; simp, q _ H Ext.refl rfl rs⟩
    · obtain ⟨its, rv, p1, _⟩ := I.tuple q1
      obtain ⟨f, i1, i2, _⟩ := inX_items I rs (A := X.A.in1) (by show X.A.units + 1 + 60 < cLine; omega) ra rx q2 rv e4
      exact SeqAt.in_tupleAt f p1 (fun z hz => i1 z (by simpa using hz)) ⟨.bl (ks.any id), H, I, by show Value.bool _ = _; rw [← i2, ← any_map]; simp, q _ H Ext.refl rfl rs⟩
  unfold fInX inXP at e
  split at e
  · exact od_in pins s σ H _ _ v u Q I rx ry ⟨ρ, st, _, _, d, ra, rb, rs, e, q⟩
  · exact deep e
theorem od_notInX (hu : X.A.units + 64 < cLine) : OpR X (compareOp .NotIn) (rP X.K fNotInX) := by
  intro pins s σ H x y v u Q I rx ry h
  obtain ⟨ρ, st, a, b, d, ra, rb, rs, e, q⟩ := h
  have deep : ((seqOf b st).bind fun ys => inX a ys st).map (fun k => D.bl (!k)) = some d → wpAny (model X.prog X.w) X.A (compareOp .NotIn v u) (EP X pins σ Q) X.xe s := by
    intro e
    obtain ⟨k, e1, rfl⟩ := Option.map_eq_some_iff.mp e
    obtain ⟨ys, e2, e3⟩ := Option.bind_eq_some_iff.mp e1
    obtain ⟨ks, e4, rfl⟩ := Option.map_eq_some_iff.mp e3
    obtain ⟨p, vs, rfl, q1, q2⟩ := seqOf_ok rs rb e2
    cases (show u = Value.ref p from ry)
    rcases q1 with q1 | q1
    · obtain ⟨its, rv, p1, _⟩ := I.list q1
      obtain ⟨f, i1, i2, _⟩ := inX_items I rs (A := X.A.in1) (by show X.A.units + 1 + 60 < cLine; omega) ra rx q2 rv e4
      exact SeqAt.notIn_listAt f p1.isList (fun z hz => i1 z (by simpa using hz)) ⟨.bl (!ks.any id), H, I, by show Value.bool _ = _; rw [← i2, ← any_map]; simp, q _ H Ext.refl rfl rs⟩
    · obtain ⟨its, rv, p1, _⟩ := I.tuple q1
      obtain ⟨f, i1, i2, _⟩ := inX_items I rs (A := X.A.in1) (by show X.A.units + 1 + 60 < cLine; omega) ra rx q2 rv e4
      exact SeqAt.notIn_tupleAt f p1 (fun z hz => i1 z (by simpa using hz)) ⟨.bl (!ks.any id), H, I, by show Value.bool _ = _; rw [← i2, ← any_map]; simp, q _ H Ext.refl rfl rs⟩
  unfold fNotInX inXP at e
  split at e
  · exact od_notIn pins s σ H _ _ v u Q I rx ry ⟨ρ, st, _, _, d, ra, rb, rs, e, q⟩
  · exact deep e
end
end DL
set_option Elab.async false
set_option linter.all false
set_option maxRecDepth 100000
set_option maxHeartbeats 4000000
/-! DMg: enumerate over a tuple. -/
namespace PySem
open Sem (wp)
theorem enum1_new {v : Value} {o : Obj} {H : Heap → Prop} (B : Begins v o H) :
    Meets (Builtin.«enumerate.__new__» ⟨[.type "enumerate", v], []⟩) (fun _ R s => H s.heap ∧
      R (.ok (.ret (.ref (s.heap.push o).objs.size))) { s with heap := (s.heap.push o).push { cls := .type "enumerate", data := .fields #[.none, .bool false, .ref s.heap.objs.size, rawInt 0, .none, .none] } }) :=
  .of_wp fun prog w A R s h => by
    obtain ⟨hp, g, d, tk, os⟩ := s
    obtain ⟨h1, h⟩ := h
    have hsub := sub_enumerate
    have it1 : ∀ {A' : Around} {E : Value → Shared → Prop} {Q : Value → Shared → Prop}, Q (.ref hp.objs.size) ⟨hp.push o, g, d, tk, os⟩ → wpAny (model prog w) A' (pyIter v) Q E ⟨hp, g, d, tk, os⟩ :=
      fun q => B.iter prog w _ _ ⟨hp, g, d, tk, os⟩ _ h1 q
    wp_walk using it1
    refine wpAny_stack_any fun st => wpAny_pure ?_
    split
    · rename_i c _ _ _ _ _
      cases (c == Value.type "enumerate")
      · wp_walk using it1
        exact ⟨_, rfl, h⟩
      · wp_walk using it1
        exact ⟨_, rfl, h⟩
    · wp_walk using it1
      exact ⟨_, rfl, h⟩
theorem enum1_begins {prog : Program} {w : World} {A : Around} {E : Value → Shared → Prop} {s : Shared} {v : Value} {o : Obj} {H : Heap → Prop} {Q : Value → Shared → Prop} (B : Begins v o H) (h1 : H s.heap)
    (h : ∀ h', IsEnum h' (s.heap.objs.size + 1) s.heap.objs.size 0 .none → h'.get? s.heap.objs.size = some o → h'.objs.size = s.heap.objs.size + 2 → (∀ b o, s.heap.get? b = some o → h'.get? b = some o) → Q (.ref (s.heap.objs.size + 1)) { s with heap := h' }) :
    wpAny (model prog w) A (call (.type "enumerate") [v]) Q E s := by
  refine callType_new F.called_enumerate (by decide) (F.typeCall_enumerate_1 _) (F.newCall_enumerate_1 _) (fun obj => F.args_object_init_2 obj _) F.entry_enumerate_new (enum1_new B) ⟨h1, ?_⟩
  have hz : (s.heap.push o).objs.size = s.heap.objs.size + 1 := Heap.size_push ..
  show _ ∧ _
  rw [hz]
  have he : IsEnum ((s.heap.push o).push { cls := .type "enumerate", data := .fields #[.none, .bool false, .ref s.heap.objs.size, rawInt 0, .none, .none] }) (s.heap.objs.size + 1) s.heap.objs.size 0 .none := by
    have z := Heap.get?_push_size (s.heap.push o) (o := { cls := .type "enumerate", data := .fields #[.none, .bool false, .ref s.heap.objs.size, rawInt 0, .none, .none] }) rfl
    rw [hz] at z; exact z
  exact ⟨⟨_, he, rfl⟩, h _ he (Heap.get?_push_of_some _ (Heap.get?_push_size _ B.free)) (by rw [Heap.size_push, hz]) fun b o x => Heap.get?_push_of_some _ (Heap.get?_push_of_some _ x)⟩
end PySem
set_option Elab.async false
set_option linter.all false
set_option maxRecDepth 100000
set_option maxHeartbeats 4000000
/-! DMh: enumerate over a tuple: the loop's source. -/
namespace DL
open PySem PySem.Spec PyProof.Rows L2
/-- the tuple at a, each item in a new pair -/
def ItEt (K : PySem.W.Frag) (a : Addr) : It :=
  ⟨fun i H => ∃ (xs : List V) (x : V), SqT K H a xs ∧ xs[i]? = some x, fun i H v H' => ∃ T x, v = .ref T ∧ H T = none ∧ H' = upd H T (.tup [.int (i : Nat), x]) ∧ ∀ xs, SqT K H a xs → xs[i]? = some x, fun i H => ∃ xs : List V, SqT K H a xs ∧ xs.length = i⟩
theorem turn_enumT {P : Program} {w : World} {K : PySem.W.Frag} {elts : List Expr} {kk : Nat} {tpos : Pos} (a e it : Addr) :
    Turn P w K (.Tuple elts kk tpos) (ItEt K a) [e, it] e (fun i h => (∃ old, IsEnum h e it ((i : Nat) : Int) old) ∧ h.IsTupleIter it a i ∧ e ≠ it) where
  mem := by simp
  obj := fun i h st b hb => by
    obtain ⟨⟨old, he⟩, ⟨o, ho, hc, hd⟩, _⟩ := st
    rcases (by simpa using hb : b = e ∨ b = it) with z | z
    · rw [z]; exact ⟨_, he, fun v q => nomatch q⟩
    · rw [z]; exact ⟨o, ho, fun v q => by rw [hd] at q; cases q⟩
  keep := fun i h h' st k => let ⟨⟨old, he⟩, hi, hne⟩ := st; ⟨⟨old, k e (by simp) _ he⟩, hi.at fun o q => k it (by simp) o q, hne⟩
  item := by
    intro X hP hw hK hc i pins s σ H E I hf st hg
    subst hP hw hK
    obtain ⟨⟨old, he⟩, hit, hne⟩ := st
    obtain ⟨xs, x, hq, hx⟩ := hg
    obtain ⟨its, rv, p, hz⟩ := I.tuple hq
    obtain ⟨u, hu, ru⟩ := rv.get hx
    have hel : e < s.heap.objs.size := Heap.lt_size he
    have hil : it < s.heap.objs.size := by obtain ⟨_, q, _⟩ := hit; exact Heap.lt_size q
    have nai : a ≠ it := fun z => by
      obtain ⟨o, q1, q2, _⟩ := p
      obtain ⟨o', q3, q4, _⟩ := hit
      rw [z, q3] at q1; cases q1
      rw [q2] at q4; exact absurd q4 (by simp)
    have nae : a ≠ e := fun z => by
      obtain ⟨o, q1, q2, _⟩ := p
      have he' : s.heap.get? e = some _ := he
      rw [z, he'] at q1; cases q1
      exact absurd q2 (by simp)
    have hlt : i < its.toArray.size := by
      have := (List.getElem?_eq_some_iff.mp hu).1
      simpa using this
    refine wpAny_pyNext_enum_itemD (Draws.tuple (prog := X.prog) (w := X.w) (A := X.A.in1) (I.ok.hd hc) it a nai its.toArray) he ⟨hit, p⟩ hlt hne (by simp [hne, nae.symm]) fun y h' tk hy ho hst hT hsz hk => ?_
    obtain rfl : y = u := by
      have : its.toArray[i]? = some y := hy
      rw [List.getElem?_toArray, hu] at this
      exact (Option.some.inj this).symm
    refine ⟨_, rfl, wpAny_letOwnedTupleGo_enum (s := { s with heap := h', toks := tk + 1 }) ho fun h'' he' sb => ?_⟩
    have hT2 : h''.get? s.heap.objs.size = some { cls := .type "tuple", data := .seq #[.int i tk, y] } := (sb.2 _ (Nat.ne_of_gt hel)).trans hT
    have new : ObjOk X.prog X.w (upd H s.heap.objs.size (.tup [.int (i : Nat), x])) h'' s.heap.objs.size (.tup [.int (i : Nat), x]) :=
      ⟨by show 2 ≤ sizeLine; decide, [.int i tk, y], .cons ⟨_, rfl⟩ (.cons ru .nil), ⟨_, hT2, rfl, _, rfl⟩⟩
    have I1 : Inv X pins σ (upd H s.heap.objs.size (.tup [.int (i : Nat), x])) { s with heap := h'', toks := tk + 1 } :=
      I.turnedNew (ch := [e, it]) (fun b ob hb q => (sb.2 b (fun z => hb (by simp [z]))).trans (hk b ob (fun z => hb (by simp [z])) (fun z => hb (by simp [z])) q)) hf (Nat.le_refl _) new
    refine ⟨.ref s.heap.objs.size, _, I1, rfl, ⟨_, x, rfl, I.hok.fresh (Nat.le_refl _), rfl, fun ys hy => by rw [I.tuple_inj hy hq]; exact hx⟩, ⟨⟨y, ?_⟩, hst.1.at fun o q => (sb.2 it (Ne.symm hne)).trans q, hne⟩, fun b hb => ?_⟩
    · rw [show ((i + 1 : Nat) : Int) = (i : Int) + 1 by omega]; exact he'
    · have hb' : b < s.heap.objs.size := by
        rcases (by simpa using hb : b = e ∨ b = it) with z | z
        · rw [z]; exact hel
        · rw [z]; exact hil
      rw [upd_ne (Nat.ne_of_lt hb')]
      exact (hf b hb).1
  done := by
    intro X hP hw hK hc i pins s σ H E I hf st hg
    subst hP hw hK
    obtain ⟨⟨old, he⟩, hit, hne⟩ := st
    obtain ⟨xs, hq, hx⟩ := hg
    obtain ⟨its, rv, p, hz⟩ := I.tuple hq
    obtain ⟨f0, f1, f2, f3, f4, f5⟩ := hf it (by simp)
    have hl := rv.length
    have nai : a ≠ it := fun z => by
      obtain ⟨o, q1, q2, _⟩ := p
      obtain ⟨o', q3, q4, _⟩ := hit
      rw [z, q3] at q1; cases q1
      rw [q2] at q4; exact absurd q4 (by simp)
    subst hx
    have hsz : its.toArray.size = xs.length := by rw [List.size_toArray, hl]
    exact wpAny_pyNext_enum_endD (Draws.tuple (prog := X.prog) (w := X.w) (A := X.A.in1) (I.ok.hd hc) it a nai its.toArray) he ⟨by rw [hsz]; exact hit, p⟩ fun h' eb => ⟨rfl, I.turned (t' := s.toks) (fun b o hb q => eb b o hb q) f0 f1 f3 f4 f5⟩
  self := fun A i s Q E st h => let ⟨⟨_, he⟩, _⟩ := st; wpAny_pyIter_enum he h
def iEnumT (K : PySem.W.Frag) (ta : TA) : TI := fun σ H R => ta σ H fun vs H1 => ∃ a xs, vs = [.ref a] ∧ SqT K H1 a xs ∧ R (ItEt K a) H1
theorem pi_enumT {X : Cx} {e : Expr} {ta : TA} {p pos tpos : Pos} {elts : List Expr} {kk : Nat} (hg : Gl X "enumerate") (hm : X.mg "enumerate" = none) (ha : PA X [e] ta) (hs : starEach [e] X.env = [(false, eval e X.env)] := by rfl) :
    PI X (.Tuple elts kk tpos) (.Call (.Name "enumerate" p) [e] [] pos) (iEnumT X.K ta) := by
  refine ⟨fun pins s σ H R I h => ?_⟩
  refine Call_ (ld_blt I hg hm boot_enumerate (PyProof.Rows.callWith_type1 (thn (ha.run pos pins s σ H _ I h) fun us s1 ⟨vs, H1, I1, r1, a, xs, ex, hq, q⟩ => ?_) hs rfl))
  subst ex
  obtain ⟨u, rfl, ru⟩ := vals1 r1
  cases (show u = Value.ref a from ru)
  obtain ⟨its, rv, pt, hz⟩ := I1.tuple hq
  refine enum1_begins (begins_tuple a its.toArray) pt fun h' he hit hsz hk => wpAny_pyIter_enum he ?_
  refine ⟨s1.heap.objs.size + 1, [s1.heap.objs.size + 1, s1.heap.objs.size], _, _, H1, rfl, I1.kept (t' := s1.toks) hk, turn_enumT a (s1.heap.objs.size + 1) s1.heap.objs.size, ⟨⟨.none, he⟩, ⟨_, hit, rfl, rfl⟩, Nat.succ_ne_self _⟩, fun b hb => ?_, q⟩
  have hle : s1.heap.objs.size ≤ b := by
    rcases (by simpa using hb : b = s1.heap.objs.size + 1 ∨ b = s1.heap.objs.size) with z | z
    · rw [z]; exact Nat.le_add_right _ _
    · rw [z]; exact Nat.le_refl _
  exact I1.fpOk hle (I1.hok.fresh hle)
/-- (0, x0), (1, x1), .. -/
def numbered (xs : List D) : List D := xs.zipIdx.map fun p => .tup [.int (p.2 : Int), p.1]
def enumT : List D → M Src := fun ds s => match ds with
  | [.tup xs] => if xs.length ≤ sizeLine then .ok ⟨numbered xs, none⟩ s else .bad
  | _ => .bad
def mEnumT (m : Lo → M (List D)) : Lo → M Src := fun lo s => (m lo s).bind enumT
theorem itd_enumT {K : PySem.W.Frag} {ρ : Rg} {H : Hp} {xs : List D} {a : Addr} {vs : List V} (h1 : (At H a (.tup vs) ∧ ¬ ρ.has a) ∨ TupK K a vs) (h3 : Reps K ρ H xs vs) : ItD K ρ H ⟨numbered xs, none⟩ (ItEt K a) := by
  intro ρ1 H1 s1 mo rs _
  have q1 : SqT K H1 a vs := by
    rcases h1 with ⟨h1, h2⟩ | h1
    · exact SqT.of (mo.f _ _ h1 h2).1.tup
    · exact .inr h1
  have q3 := Reps.mon mo h3
  have hlen : (numbered xs).length = xs.length := by unfold numbered; rw [List.length_map, List.length_zipIdx]
  refine ⟨fun i d hd => ?_, ⟨vs, q1, by show vs.length = (numbered xs).length; rw [hlen, h3.length]⟩⟩
  unfold numbered at hd
  rw [List.getElem?_map, List.getElem?_zipIdx] at hd
  cases ex : xs[i]? with
  | none => rw [ex] at hd; cases hd
  | some x =>
    rw [ex] at hd
    obtain ⟨u, hu, ru⟩ := q3.get ex
    have hd : D.tup [.int ((0 + i : Nat) : Int), x] = d := Option.some.inj hd
    subst hd
    refine ⟨⟨vs, u, q1, hu⟩, fun v H' hy => ?_⟩
    obtain ⟨T, y, rfl, hT, rfl, hy⟩ := hy
    obtain rfl : y = u := by
      have := hy vs q1
      rw [hu] at this
      exact (Option.some.inj this).symm
    refine ⟨ρ1, Ext.alloc hT, rs.alloc hT, T, [.int ((i : Nat) : Int), y], rfl, .inl ⟨At.of upd_same, rs.fresh hT⟩, .int (i : Nat), [y], rfl, by rw [Nat.zero_add]; rfl, y, [], rfl, Rep.ext (Ext.alloc hT) ru, rfl⟩
section
variable {X : Cx} {c : ClsM} {W : WX} {pos tpos : Pos} {elts : List Expr} {kk : Nat}
theorem pdi_enumT {a : Expr} {p : Pos} {m : Lo → M (List D)} (ha : PA X [a] (tMA X.K c W m)) (hm : X.mg "enumerate" = none) (hg : Gl X "enumerate" := by rfl) (hs : starEach [a] X.env = [(false, eval a X.env)] := by rfl) : PI X (.Tuple elts kk tpos) (.Call (.Name "enumerate" p) [a] [] pos) (tMI X.K c W (mEnumT m)) := by
  refine ⟨fun pins s σ H R J h => (pi_enumT hg hm ha hs).run pins s σ H R J ?_⟩
  obtain ⟨ρ, lo, st, h1, h2, h⟩ := h
  refine ⟨ρ, lo, st, h1, h2, (okR.bind h).imp fun vs H1 q => ?_⟩
  obtain ⟨ρ1, s1, ds, e1, rs1, rds, h1⟩ := q
  unfold enumT at h1
  split at h1
  · rename_i xs
    split at h1
    · obtain ⟨v, rfl, r⟩ := reps1 rds
      obtain ⟨y, vs', ey, q1, q2⟩ := Rep.sqT r
      obtain ⟨z, vs, ez, q3, q4⟩ := r
      subst ey
      obtain rfl : y = z := by cases ez; rfl
      exact ⟨y, vs', rfl, q1, h1 _ ρ1 H1 Ext.refl (itd_enumT q3 q4) rs1⟩
    · exact h1.elim
  · exact h1.elim
end
end DL
set_option Elab.async false
set_option linter.all false
set_option maxRecDepth 100000
set_option maxHeartbeats 4000000
/-! DMi: text * int, tuple * int, tuple(text), more widely. -/
namespace DL
open PySem PySem.Spec PyProof.Rows L2
def fMulX : Op2 := fun a b s => match a, b with
  | .str x, .int n => if n = 1 then some (.str x) else if n = 0 then some (.str Str.empty) else fMul (.str x) (.int n) s
  | .tup xs, .int n => if n = 0 ∧ xs ≠ [] then some (.tup []) else if xs ≠ [] ∧ 2 ≤ n ∧ n ≤ 1000 ∧ xs.length ≤ 1000 then some (.tup (List.replicate n.toNat xs).flatten) else none
  | a, b => fMul a b s
theorem Reps.rep {K : PySem.W.Frag} {ρ : Rg} {H : Hp} {xs : List D} {vs : List V} (r : Reps K ρ H xs vs) : ∀ n : Nat, Reps K ρ H (List.replicate n xs).flatten (List.replicate n vs).flatten
  | 0 => rfl
  | n + 1 => by
    rw [List.replicate_succ, List.replicate_succ, List.flatten_cons, List.flatten_cons]
    exact r.append (Reps.rep r n)
theorem tuple_mul0 (l : Addr) (items : Array Value) (n : Nat) (dd : Option Addr) (sl : Array (Option Value)) (u : Tok) (hi : items.isEmpty = false) :
    Meets (Builtin.«tuple.__mul__» ⟨[.ref l, .int 0 u], []⟩) (fun _ R s => s.heap.get? l = some { cls := .type "tuple", dict := dd, data := .seq items n, slots := sl } ∧
      R (.ok (.ret (Value.ref s.heap.objs.size))) { s with heap := s.heap.push { cls := Value.type "tuple", data := Data.seq #[] }, toks := s.toks }) :=
  .of_wp fun prog w A R s h => by
    obtain ⟨hp, g, d, tk, os⟩ := s
    obtain ⟨hl, h⟩ := h
    have f1 := AutoSeq1.idx_int
    wp_walk using AutoSeq1.wpAny_loadPart' hl
    exact ⟨_, rfl, h⟩
section
variable {X : Cx}
theorem od_mulX : OpR X (binaryOp .Mult) (rP X.K fMulX) := by
  intro pins s σ H x y v u Q I rx ry h
  obtain ⟨ρ, st, a, b, d, ra, rb, rs, e, q⟩ := h
  unfold fMulX at e
  split at e
  · rename_i z n
    split at e
    · rename_i hn
      subst hn
      cases e; cases ra; cases rb
      obtain ⟨t, rfl⟩ := rx
      obtain ⟨t', rfl⟩ := ry
      exact PySem.P.mul_str (by decide) (fun _ h2 => by simp at h2) (fun _ h2 => by simp at h2) (by rw [if_neg (by decide), if_pos (by rfl)]; exact ⟨.str z, H, I, ⟨_, rfl⟩, q _ H Ext.refl rfl rs⟩)
    · split at e
      · rename_i hn
        subst hn
        cases e; cases ra; cases rb
        obtain ⟨t, rfl⟩ := rx
        obtain ⟨t', rfl⟩ := ry
        exact PySem.P.mul_str_none (by decide) (by decide) ⟨.str Str.empty, H, I.tok _, ⟨_, rfl⟩, q _ H Ext.refl rfl rs⟩
      · exact od_mul pins s σ H _ _ v u Q I rx ry ⟨ρ, st, _, _, d, ra, rb, rs, e, q⟩
  · rename_i xs n
    obtain ⟨l, vs, rfl, q1, q2⟩ := Rep.sqT ra
    cases rb
    split at e
    · rename_i hn
      obtain ⟨hn, hne⟩ := hn
      subst hn
      cases e
      cases (show v = Value.ref l from rx)
      obtain ⟨t, rfl⟩ := ry
      obtain ⟨its, r, ⟨⟨cls, dd, data, sl⟩, ho, hc, m, hd⟩, hz⟩ := I.tuple q1
      simp only at hc hd
      subst hc hd
      have hi : its.toArray.isEmpty = false := by
        cases its with
        | nil => cases r; exact absurd (List.eq_nil_of_length_eq_zero q2.length) hne
        | cons a b => rfl
      refine wpAny_binaryOp_repeat_ref (T := "tuple") (U := "int") (by decide) ⟨_, ho, rfl⟩ (fun s' => typeIs_int s' 0 t) noFill_tuple_mul F.fills_int_mul F.slot_int_rmul repeat_tuple F.slot_int_index.lookup
        (call_meets F.slot_int_rmul (typeIs_int s 0 t) F.entry_int_rmul (F.args_int_rmul_2 _ _) (int_rmul_tuple 0 t l its.toArray m dd sl)
          ⟨ho, rfl, ⟨_, ho, rfl⟩, call_meets F.slot_tuple_mul ⟨_, ho, rfl⟩ F.entry_tuple_mul (F.args_tuple_mul_2 _ _) (tuple_mul0 l its.toArray m dd sl t hi) ⟨ho, ?_⟩⟩)
      have hp : H s.heap.objs.size = none := I.hok.fresh (Nat.le_refl _)
      refine ⟨.ref s.heap.objs.size, upd H s.heap.objs.size (.tup []), I.laid (t' := s.toks) (fun b u e => Heap.get?_push_of_some _ e) (Nat.le_refl _) ⟨Nat.zero_le _, [], .nil, ⟨_, Heap.get?_push_size _ rfl, rfl, _, rfl⟩⟩, rfl, q _ _ (Ext.alloc hp) ⟨_, [], rfl, .inl ⟨At.of upd_same, rs.fresh hp⟩, rfl⟩ (rs.alloc hp)⟩
    · split at e
      · rename_i hc
        cases e
        exact op_repT pins s σ H _ _ v u Q I rx ry ⟨l, n, vs, rfl, rfl, q1, fun z => hc.1 (List.eq_nil_of_length_eq_zero (by rw [q2.length, z]; rfl)), hc.2.1, hc.2.2.1, by rw [← q2.length]; exact hc.2.2.2, fun p hp => q _ _ (Ext.alloc hp) ⟨p, _, rfl, .inl ⟨At.of upd_same, rs.fresh hp⟩, Reps.ext (Ext.alloc hp) (Reps.rep q2 n.toNat)⟩ (rs.alloc hp)⟩
      · cases e
  · exact od_mul pins s σ H _ _ v u Q I rx ry ⟨ρ, st, _, _, d, ra, rb, rs, e, q⟩
end
end DL
set_option Elab.async false
set_option linter.all false
set_option maxRecDepth 100000
set_option maxHeartbeats 4000000
/-! DMj: tuple(text); tuples of the written part as globals. -/
namespace DL
open PySem PySem.Spec PyProof.Rows L2
def signsD (x : Str) : List D := x.cps.toList.map fun k => D.str ⟨#[k]⟩
def fTupleX : Fn1 := fun ds s => match ds with
  | [.str x] => if x.length ≤ sizeLine then some (.tup (signsD x)) else none
  | ds => fTuple ds s
theorem signs_vals : ∀ (l : List Nat) (us : List Value), us.length = l.length → (∀ (j : Nat) v, us[j]? = some v → ∃ k u, l[j]? = some k ∧ v = .str ⟨#[k]⟩ u) → Vals (l.map fun k => V.str ⟨#[k]⟩) us
  | [], us, hl, _ => by rw [List.length_eq_zero_iff.mp hl]; exact .nil
  | k :: l, [], hl, _ => by cases hl
  | k :: l, v :: us, hl, hj => by
    obtain ⟨k', u, h1, h2⟩ := hj 0 v rfl
    cases h1
    exact .cons ⟨u, h2⟩ (signs_vals l us (by simpa using hl) fun j v hv => hj (j + 1) v hv)
theorem signs_reps {K : PySem.W.Frag} {ρ : Rg} {H : Hp} : ∀ l : List Nat, Reps K ρ H (l.map fun k => D.str ⟨#[k]⟩) (l.map fun k => V.str ⟨#[k]⟩)
  | [] => rfl
  | k :: l => ⟨_, _, rfl, rfl, signs_reps l⟩
section
variable {X : Cx}
theorem cd_tupleX (hc : X.calm = true) : CallR X (.type "tuple") (rC X.K fTupleX) := by
  intro pins s σ H xs us Q I r h
  obtain ⟨ρ, st, ds, d, rd, rs, e, q⟩ := h
  unfold fTupleX at e
  split at e
  · rename_i x
    split at e
    · rename_i hz
      cases e
      obtain ⟨v, rfl, r1⟩ := reps1 rd
      cases r1
      obtain ⟨u, rfl, t, rfl⟩ := vals1 r
      refine PySem.call_tuple_str (I.ok.hd hc) x t (fun h' tk acc hk hacc => ?_) hz
      have rv : Vals (x.cps.toList.map fun k => V.str ⟨#[k]⟩) acc.toList := by
        refine signs_vals _ _ (by rw [Array.length_toList, Array.length_toList]; exact hacc.1) fun j v hv => ?_
        obtain ⟨k, u, h1, h2⟩ := hacc.2 j v (by simpa using hv)
        exact ⟨k, u, by simpa using h1, h2⟩
      have ng : s.heap.get? h'.objs.size = none := by
        cases e : s.heap.get? h'.objs.size with
        | none => rfl
        | some o => exact absurd (Heap.lt_size (hk _ _ e)) (Nat.lt_irrefl _)
      have hp : H h'.objs.size = none := I.hok.gone ng
      refine ⟨.ref h'.objs.size, upd H h'.objs.size (.tup (x.cps.toList.map fun k => V.str ⟨#[k]⟩)), I.laidN (t' := tk) (fun b u e => Heap.get?_push_of_some _ (hk b u e)) ng hp ⟨by rw [List.length_map, Array.length_toList]; exact hz, acc.toList, rv, ⟨_, Heap.get?_push_size _ rfl, rfl, _, rfl⟩⟩, rfl, ?_⟩
      exact q _ _ (Ext.alloc hp) ⟨_, _, rfl, .inl ⟨At.of upd_same, rs.fresh hp⟩, signs_reps _⟩ (rs.alloc hp)
    · cases e
  · exact cd_tuple pins s σ H xs us Q I r ⟨ρ, st, ds, d, rd, rs, e, q⟩
end
/-- a global tuple of texts -/
theorem GlobD.strTup {K : PySem.W.Frag} {mg : Str → Option Value} {x : Str} {a : Addr} {o : Obj} {its : List Value} {n : Nat} {ys : List Str} (h : mg x = some (.ref a)) (hk : K.lookup a = some o) (hc : o.cls = .type "tuple") (hd : o.data = .seq its.toArray n) (hz : its.length ≤ sizeLine) (hv : Vals (ys.map V.str) its) : GlobD K mg x (.tup (ys.map D.str)) := by
  have r : ∀ (ρ : Rg) (H : Hp) (l : List Str), Reps K ρ H (l.map D.str) (l.map V.str) := by
    intro ρ H l
    induction l with
    | nil => rfl
    | cons y l ih => exact ⟨_, _, rfl, rfl, ih⟩
  exact ⟨⟨.ref a, .ref a, h, rfl, fun ρ H => ⟨a, _, rfl, .inr ⟨o, its.toArray, n, hk, hc, hd, by simpa using hz, by simpa using hv⟩, r ρ H ys⟩⟩⟩
end DL
set_option Elab.async false
set_option linter.all false
set_option maxRecDepth 100000
set_option maxHeartbeats 4000000
/-! DMk: tables of classes by lists. -/
namespace DL
open PySem PySem.Spec PyProof.Rows L2
theorem lkp_mem {α β : Type} [BEq α] [LawfulBEq α] {a : α} {b : β} : ∀ {l : List (α × β)}, l.lookup a = some b → (a, b) ∈ l
  | [], h => by cases h
  | (x, y) :: l, h => by
    rw [List.lookup_cons] at h
    split at h
    · rename_i e
      cases h
      rw [eq_of_beq e]
      exact List.mem_cons_self
    · exact List.mem_cons_of_mem _ (lkp_mem h)
def tbl (l : List (Str × Bool)) : Str → Option Bool := fun x => l.lookup x
theorem tbI_of {X : Cx} {c : ClsM} {us : List Value} {l : List (Str × Bool)} (h : ∀ p ∈ l, ∃ C, ExC X.K X.mg c p.1 C ∧ PySem.W.kitAny X.K (.ref C) us = some p.2) : TbI X c (tbl l) us :=
  fun _ _ e => h _ (lkp_mem e)
theorem tbX_of {K : PySem.W.Frag} {mg : Str → Option Value} {c : ClsM} {cv : Value} {l : List (Str × Bool)} (h : ∀ p ∈ l, ∃ C, ExC K mg c p.1 C ∧ PySem.W.exmOne K (.ref C) cv = some p.2) : TbX K c cv (tbl l) := fun x b e => by
  obtain ⟨C, E, q⟩ := h _ (lkp_mem e)
  refine ⟨?_, fun _ => ⟨C, E.cv, E.facts.2.2.1⟩⟩
  rw [E.cv]
  exact q
/-- the first def in a class's body -/
def mth : Stmt → Nat → Stmt
  | .ClassDef _ _ _ b _ _ _ _ _ _ _, i => b.getD i (.Pass ⟨0, 0, 0, 0⟩)
  | s, _ => s
end DL
set_option Elab.async false
set_option linter.all false
set_option maxRecDepth 100000
set_option maxHeartbeats 4000000
/-! DMl: operators that make a list which may change: a + b. -/
namespace DL
open PySem PySem.Spec PyProof.Rows L2
def rPM (K : PySem.W.Frag) (g : D → D → M D) : R2 := fun x y H Q => ∃ ρ s a b d s', Rep K ρ H a x ∧ Rep K ρ H b y ∧ RepS K ρ H s ∧ g a b s = .ok d s' ∧
  ∀ v ρ' H', Ext ρ H ρ' H' → Rep K ρ' H' d v → RepS K ρ' H' s' → Q v H'
def mBinM (g : D → D → M D) (ma mb : Lo → M D) : Lo → M D := fun lo s => (ma lo s).bind fun x s1 => (mb lo s1).bind fun y s2 => noX (g x y s2)
def gAdd (fr : Bool) : D → D → M D := fun a b s => match plOf a s, plOf b s with
  | some xs, some ys => if xs.length + ys.length ≤ sizeLine then finD fr (xs ++ ys) s else .bad
  | _, _ => .bad
section
variable {X : Cx} {c : ClsM} {W : WX} {pos : Pos}
theorem binM_run {ma mb : Lo → M D} {g : D → D → M D} {σ : L2.St} {H : Hp} {Q : VK} (h : tM X.K c W (mBinM g ma mb) σ H Q) : tM X.K c W ma σ H fun x H1 => tM X.K c W mb σ H1 fun y H2 => rPM X.K g x y H2 Q := by
  obtain ⟨ρ, lo, s, hl, hs, h⟩ := h
  refine ⟨ρ, lo, s, hl, hs, (okR.bind h).imp fun x H1 q => ?_⟩
  obtain ⟨ρ1, s1, a, e1, rs1, ra, h1⟩ := q
  refine ⟨ρ1, lo, s1, hl.ext e1, rs1, (okR.bind h1).imp fun y H2 q => ?_⟩
  obtain ⟨ρ2, s2, b, e2, rs2, rb, h2⟩ := q
  obtain ⟨d, s', e, q⟩ := h2.noX
  exact ⟨ρ2, s2, a, b, d, s', Rep.ext e2 ra, rb, rs2, e, q⟩
theorem pd_binM {a b : Expr} {op : Operator} {g : D → D → M D} {ma mb : Lo → M D} (ho : OpR X (binaryOp op) (rPM X.K g)) (ha : PE X a (tM X.K c W ma)) (hb : PE X b (tM X.K c W mb)) : PE X (.BinOp a op b pos) (tM X.K c W (mBinM g ma mb)) :=
  PE_imp (pe_op ho ha hb) fun _ _ _ h => binM_run h
theorem od_addL (fr : Bool) : OpR X (binaryOp .Add) (rPM X.K (gAdd fr)) := by
  intro pins s σ H x y v u Q I rx ry h
  obtain ⟨ρ, st, a, b, d, s', ra, rb, rs, e, q⟩ := h
  unfold gAdd at e
  cases e1 : plOf a st with
  | none => rw [e1] at e; cases e
  | some xs =>
    cases e2 : plOf b st with
    | none => rw [e1, e2] at e; cases e
    | some ys =>
      rw [e1, e2] at e
      simp only at e
      split at e
      · rename_i hz
        obtain ⟨p, vs, rfl, q1, q2⟩ := plOf_ok rs ra e1
        obtain ⟨p', us, rfl, q1', q2'⟩ := plOf_ok rs rb e2
        exact op_cat pins s σ H _ _ v u Q I rx ry ⟨p, p', vs, us, rfl, rfl, q1, q1', by rw [← q2.length, ← q2'.length]; exact hz, fun t ht => fin_new (X := X) rs (Reps.append q2 q2') e q ht⟩
      · cases e
end
end DL
set_option Elab.async false
set_option linter.all false
set_option maxRecDepth 100000
set_option maxHeartbeats 4000000
/-! DNa: evaluation of meanings by equations (plain Lean, no program in sight); printed by DNa.py. -/
namespace DL
open PySem L2
def optR {α : Type} (o : Option α) (s : Sto) : R α := match o with
  | some d => .ok d s
  | none => .bad
section
variable {α β γ : Type} {a : α} {s : Sto} {x : Xn} {lo : Lo}
theorem optR_some : optR (some a) s = .ok a s := id rfl
theorem optR_none : optR (none : Option α) s = .bad := id rfl
theorem bd_ok {f : α → M β} : (R.ok a s).bind f = f a s := id rfl
theorem bd_exc {f : α → M β} : (R.exc x s : R α).bind f = .exc x s := id rfl
theorem bd_bad {f : α → M β} : (R.bad : R α).bind f = .bad := id rfl
theorem lift_opt {g : Sto → Option α} : liftP g s = optR (g s) s := id rfl
theorem noX_ok : noX (.ok a s) = .ok a s := id rfl
theorem bs_ok {f : α → Sto → SR} : bindS (.ok a s) lo f = f a s := id rfl
theorem bs_exc {f : α → Sto → SR} : bindS (.exc x s : R α) lo f = .exc x lo s := id rfl
theorem bs_bad {f : α → Sto → SR} : bindS (.bad : R α) lo f = .bad := id rfl
theorem ret_ok : (ret a s : R α) = .ok a s := id rfl
theorem gv_cons (x : Option D) (n : Nat) : getV (n + 1) (x :: lo) s = getV n lo s := id rfl
theorem gv_zero (d : D) : getV 0 (some d :: lo) s = .ok d s := id rfl
theorem wr_opt {o : Option α} {Q : α → Sto → Prop} {E : Xn → Sto → Prop} : Wr (optR o s) Q E ↔ ∃ d, o = some d ∧ Q d s := wr_lift (g := fun _ => o)
end

section
variable {f f' : D → D → Sto → Option D} {ma mb mc : Lo → M D} {mt mt' : Lo → M Bool} {ml : Lo → M (List D)} {lo : Lo} {s : Sto} {x y : D} {xs : List D} {k : Bool}
def c2Bin (f : D → D → Sto → Option D) (x : D) : D → M D := fun y s => optR (f x y s) s
theorem c2Bin_ap  : c2Bin f x y s = optR (f x y s) s := id rfl
def c1Bin (f : D → D → Sto → Option D) (mb : Lo → M D) (lo : Lo) : D → M D := fun x s => (mb lo s).bind (c2Bin f x)
theorem c1Bin_ap  : c1Bin f mb lo x s = (mb lo s).bind (c2Bin f x) := id rfl
theorem e_bin  : mBin f ma mb lo s = (ma lo s).bind (c1Bin f mb lo) := by first | exact id rfl | (unfold mBin; exact id rfl)
def c2BinM (g : D → D → M D) (x : D) : D → M D := fun y s => noX (g x y s)
theorem c2BinM_ap {g : D → D → M D} : c2BinM g x y s = noX (g x y s) := id rfl
def c1BinM (g : D → D → M D) (mb : Lo → M D) (lo : Lo) : D → M D := fun x s => (mb lo s).bind (c2BinM g x)
theorem c1BinM_ap {g : D → D → M D} : c1BinM g mb lo x s = (mb lo s).bind (c2BinM g x) := id rfl
theorem e_binM {g : D → D → M D} : mBinM g ma mb lo s = (ma lo s).bind (c1BinM g mb lo) := by first | exact id rfl | (unfold mBinM; exact id rfl)
theorem asB_bl {b : Bool} : asB (.bl b) s = .ok b s := id rfl
theorem e_B  : mB ma lo s = (ma lo s).bind asB := by first | exact id rfl | (unfold mB; exact id rfl)
def cTru  : D → M Bool := fun x s => optR (truD x s) s
theorem cTru_ap  : cTru x s = optR (truD x s) s := id rfl
theorem e_Tru  : mTru ma lo s = (ma lo s).bind cTru := by first | exact id rfl | (unfold mTru; exact id rfl)
def cAndB (mt : Lo → M Bool) (lo : Lo) : Bool → M Bool := fun b s => if b = true then mt lo s else .ok false s
theorem cAndB_t : cAndB mt lo true s = mt lo s := id rfl
theorem cAndB_f : cAndB mt lo false s = .ok false s := id rfl
theorem e_AndB  : mAndB mt mt' lo s = (mt lo s).bind (cAndB mt' lo) := by first | exact id rfl | (unfold mAndB; exact id rfl)
def cOrB (mt : Lo → M Bool) (lo : Lo) : Bool → M Bool := fun b s => if b = true then .ok true s else mt lo s
theorem cOrB_t : cOrB mt lo true s = .ok true s := id rfl
theorem cOrB_f : cOrB mt lo false s = mt lo s := id rfl
theorem e_OrB  : mOrB mt mt' lo s = (mt lo s).bind (cOrB mt' lo) := by first | exact id rfl | (unfold mOrB; exact id rfl)
def cNotB  : Bool → M Bool := fun b s => .ok (!b) s
theorem cNotB_ap  : cNotB k s = .ok (!k) s := id rfl
theorem e_NotB  : mNotB mt lo s = (mt lo s).bind cNotB := by first | exact id rfl | (unfold mNotB; exact id rfl)
def cAnd2 (mb : Lo → M D) (lo : Lo) (x : D) : Bool → M D := fun b s => if b = true then mb lo s else .ok x s
theorem cAnd2_t : cAnd2 mb lo x true s = mb lo s := id rfl
theorem cAnd2_f : cAnd2 mb lo x false s = .ok x s := id rfl
def cAnd (mb : Lo → M D) (lo : Lo) : D → M D := fun x s => (optR (truD x s) s).bind (cAnd2 mb lo x)
theorem cAnd_ap  : cAnd mb lo x s = (optR (truD x s) s).bind (cAnd2 mb lo x) := id rfl
theorem e_And : mAnd ma mb lo s = (ma lo s).bind (cAnd mb lo) := by
  unfold mAnd
  congr 1
  funext x s1
  unfold cAnd
  cases truD x s1 with
  | none => rfl
  | some b => cases b <;> rfl
def cOr2 (mb : Lo → M D) (lo : Lo) (x : D) : Bool → M D := fun b s => if b = true then .ok x s else mb lo s
theorem cOr2_t : cOr2 mb lo x true s = .ok x s := id rfl
theorem cOr2_f : cOr2 mb lo x false s = mb lo s := id rfl
def cOr (mb : Lo → M D) (lo : Lo) : D → M D := fun x s => (optR (truD x s) s).bind (cOr2 mb lo x)
theorem cOr_ap  : cOr mb lo x s = (optR (truD x s) s).bind (cOr2 mb lo x) := id rfl
theorem e_Or : mOr ma mb lo s = (ma lo s).bind (cOr mb lo) := by
  unfold mOr
  congr 1
  funext x s1
  unfold cOr
  cases truD x s1 with
  | none => rfl
  | some b => cases b <;> rfl
def cNot2 : Bool → M D := fun b s => .ok (.bl (!b)) s
theorem cNot2_ap : cNot2 k s = .ok (.bl (!k)) s := id rfl
def cNot  : D → M D := fun x s => (optR (truD x s) s).bind cNot2
theorem cNot_ap  : cNot x s = (optR (truD x s) s).bind cNot2 := id rfl
theorem e_Not : mNot ma lo s = (ma lo s).bind cNot := by
  unfold mNot
  congr 1
  funext x s1
  unfold cNot
  cases truD x s1 with
  | none => rfl
  | some b => cases b <;> rfl
def cIfE (ma mb : Lo → M D) (lo : Lo) : Bool → M D := fun b s => if b = true then ma lo s else mb lo s
theorem cIfE_t : cIfE ma mb lo true s = ma lo s := id rfl
theorem cIfE_f : cIfE ma mb lo false s = mb lo s := id rfl
theorem e_IfE  : mIfE mt ma mb lo s = (mt lo s).bind (cIfE ma mb lo) := by first | exact id rfl | (unfold mIfE; exact id rfl)
def cCh3 (f' : D → D → Sto → Option D) (y : D) (mc : Lo → M D) (lo : Lo) : D → M D := fun r s => match r with
  | .bl true => (mc lo s).bind (c2Bin f' y)
  | .bl false => .ok (.bl false) s
  | _ => .bad
theorem cCh3_t : cCh3 f' y mc lo (.bl true) s = (mc lo s).bind (c2Bin f' y) := id rfl
theorem cCh3_f : cCh3 f' y mc lo (.bl false) s = .ok (.bl false) s := id rfl
def cCh2 (f f' : D → D → Sto → Option D) (mc : Lo → M D) (lo : Lo) (x : D) : D → M D := fun y s => (optR (f x y s) s).bind (cCh3 f' y mc lo)
theorem cCh2_ap  : cCh2 f f' mc lo x y s = (optR (f x y s) s).bind (cCh3 f' y mc lo) := id rfl
def cCh1 (f f' : D → D → Sto → Option D) (mb mc : Lo → M D) (lo : Lo) : D → M D := fun x s => (mb lo s).bind (cCh2 f f' mc lo x)
theorem cCh1_ap  : cCh1 f f' mb mc lo x s = (mb lo s).bind (cCh2 f f' mc lo x) := id rfl
theorem e_Chain : mChain f f' ma mb mc lo s = (ma lo s).bind (cCh1 f f' mb mc lo) := by
  unfold mChain
  congr 1
  funext x s1
  unfold cCh1
  congr 1
  funext y s2
  unfold cCh2
  cases f x y s2 with
  | none => rfl
  | some d => cases d <;> first | rfl | (rename_i b; cases b <;> rfl)
theorem e_Nil  : mNil lo s = .ok [] s := by first | exact id rfl | (unfold mNil; exact id rfl)
def c2Cons (x : D) : List D → M (List D) := fun xs s => .ok (x :: xs) s
theorem c2Cons_ap  : c2Cons x xs s = .ok (x :: xs) s := id rfl
def c1Cons (ml : Lo → M (List D)) (lo : Lo) : D → M (List D) := fun x s => (ml lo s).bind (c2Cons x)
theorem c1Cons_ap  : c1Cons ml lo x s = (ml lo s).bind (c2Cons x) := id rfl
theorem e_Cons  : mCons ma ml lo s = (ma lo s).bind (c1Cons ml lo) := by first | exact id rfl | (unfold mCons; exact id rfl)
def cTup : List D → M D := fun xs s => if xs.length ≤ sizeLine then .ok (.tup xs) s else .bad
def cLst : List D → M D := fun xs s => if xs.length ≤ sizeLine then .ok (.lst xs) s else .bad
def cLstL : List D → M D := fun xs s => if xs.length ≤ sizeLine then .ok (.loc s.length) (s ++ [.lst xs]) else .bad
theorem few_line {n : Nat} (h : n ≤ 100000) : n ≤ sizeLine := Nat.le_trans h (by decide)
theorem cTup_of (h : xs.length ≤ sizeLine) : cTup xs s = .ok (.tup xs) s := if_pos h
theorem cLst_of (h : xs.length ≤ sizeLine) : cLst xs s = .ok (.lst xs) s := if_pos h
theorem cLstL_of (h : xs.length ≤ sizeLine) : cLstL xs s = .ok (.loc s.length) (s ++ [.lst xs]) := if_pos h
theorem cTup0 : cTup [] s = .ok (.tup []) s := if_pos (few_line (show 0 ≤ 100000 by decide))
theorem cLst0 : cLst [] s = .ok (.lst []) s := if_pos (few_line (show 0 ≤ 100000 by decide))
theorem cLstL0 : cLstL [] s = .ok (.loc s.length) (s ++ [.lst []])  := if_pos (few_line (show 0 ≤ 100000 by decide))
theorem cTup1 {a0 : D} : cTup [a0] s = .ok (.tup [a0]) s := if_pos (few_line (show 1 ≤ 100000 by decide))
theorem cLst1 {a0 : D} : cLst [a0] s = .ok (.lst [a0]) s := if_pos (few_line (show 1 ≤ 100000 by decide))
theorem cLstL1 {a0 : D} : cLstL [a0] s = .ok (.loc s.length) (s ++ [.lst [a0]])  := if_pos (few_line (show 1 ≤ 100000 by decide))
theorem cTup2 {a0 a1 : D} : cTup [a0, a1] s = .ok (.tup [a0, a1]) s := if_pos (few_line (show 2 ≤ 100000 by decide))
theorem cLst2 {a0 a1 : D} : cLst [a0, a1] s = .ok (.lst [a0, a1]) s := if_pos (few_line (show 2 ≤ 100000 by decide))
theorem cLstL2 {a0 a1 : D} : cLstL [a0, a1] s = .ok (.loc s.length) (s ++ [.lst [a0, a1]])  := if_pos (few_line (show 2 ≤ 100000 by decide))
theorem cTup3 {a0 a1 a2 : D} : cTup [a0, a1, a2] s = .ok (.tup [a0, a1, a2]) s := if_pos (few_line (show 3 ≤ 100000 by decide))
theorem cLst3 {a0 a1 a2 : D} : cLst [a0, a1, a2] s = .ok (.lst [a0, a1, a2]) s := if_pos (few_line (show 3 ≤ 100000 by decide))
theorem cLstL3 {a0 a1 a2 : D} : cLstL [a0, a1, a2] s = .ok (.loc s.length) (s ++ [.lst [a0, a1, a2]])  := if_pos (few_line (show 3 ≤ 100000 by decide))
theorem cTup4 {a0 a1 a2 a3 : D} : cTup [a0, a1, a2, a3] s = .ok (.tup [a0, a1, a2, a3]) s := if_pos (few_line (show 4 ≤ 100000 by decide))
theorem cLst4 {a0 a1 a2 a3 : D} : cLst [a0, a1, a2, a3] s = .ok (.lst [a0, a1, a2, a3]) s := if_pos (few_line (show 4 ≤ 100000 by decide))
theorem cLstL4 {a0 a1 a2 a3 : D} : cLstL [a0, a1, a2, a3] s = .ok (.loc s.length) (s ++ [.lst [a0, a1, a2, a3]])  := if_pos (few_line (show 4 ≤ 100000 by decide))
theorem cTup5 {a0 a1 a2 a3 a4 : D} : cTup [a0, a1, a2, a3, a4] s = .ok (.tup [a0, a1, a2, a3, a4]) s := if_pos (few_line (show 5 ≤ 100000 by decide))
theorem cLst5 {a0 a1 a2 a3 a4 : D} : cLst [a0, a1, a2, a3, a4] s = .ok (.lst [a0, a1, a2, a3, a4]) s := if_pos (few_line (show 5 ≤ 100000 by decide))
theorem cLstL5 {a0 a1 a2 a3 a4 : D} : cLstL [a0, a1, a2, a3, a4] s = .ok (.loc s.length) (s ++ [.lst [a0, a1, a2, a3, a4]])  := if_pos (few_line (show 5 ≤ 100000 by decide))
theorem cTup6 {a0 a1 a2 a3 a4 a5 : D} : cTup [a0, a1, a2, a3, a4, a5] s = .ok (.tup [a0, a1, a2, a3, a4, a5]) s := if_pos (few_line (show 6 ≤ 100000 by decide))
theorem cLst6 {a0 a1 a2 a3 a4 a5 : D} : cLst [a0, a1, a2, a3, a4, a5] s = .ok (.lst [a0, a1, a2, a3, a4, a5]) s := if_pos (few_line (show 6 ≤ 100000 by decide))
theorem cLstL6 {a0 a1 a2 a3 a4 a5 : D} : cLstL [a0, a1, a2, a3, a4, a5] s = .ok (.loc s.length) (s ++ [.lst [a0, a1, a2, a3, a4, a5]])  := if_pos (few_line (show 6 ≤ 100000 by decide))
theorem cTup7 {a0 a1 a2 a3 a4 a5 a6 : D} : cTup [a0, a1, a2, a3, a4, a5, a6] s = .ok (.tup [a0, a1, a2, a3, a4, a5, a6]) s := if_pos (few_line (show 7 ≤ 100000 by decide))
theorem cLst7 {a0 a1 a2 a3 a4 a5 a6 : D} : cLst [a0, a1, a2, a3, a4, a5, a6] s = .ok (.lst [a0, a1, a2, a3, a4, a5, a6]) s := if_pos (few_line (show 7 ≤ 100000 by decide))
theorem cLstL7 {a0 a1 a2 a3 a4 a5 a6 : D} : cLstL [a0, a1, a2, a3, a4, a5, a6] s = .ok (.loc s.length) (s ++ [.lst [a0, a1, a2, a3, a4, a5, a6]])  := if_pos (few_line (show 7 ≤ 100000 by decide))
theorem cTup8 {a0 a1 a2 a3 a4 a5 a6 a7 : D} : cTup [a0, a1, a2, a3, a4, a5, a6, a7] s = .ok (.tup [a0, a1, a2, a3, a4, a5, a6, a7]) s := if_pos (few_line (show 8 ≤ 100000 by decide))
theorem cLst8 {a0 a1 a2 a3 a4 a5 a6 a7 : D} : cLst [a0, a1, a2, a3, a4, a5, a6, a7] s = .ok (.lst [a0, a1, a2, a3, a4, a5, a6, a7]) s := if_pos (few_line (show 8 ≤ 100000 by decide))
theorem cLstL8 {a0 a1 a2 a3 a4 a5 a6 a7 : D} : cLstL [a0, a1, a2, a3, a4, a5, a6, a7] s = .ok (.loc s.length) (s ++ [.lst [a0, a1, a2, a3, a4, a5, a6, a7]])  := if_pos (few_line (show 8 ≤ 100000 by decide))
theorem cTup9 {a0 a1 a2 a3 a4 a5 a6 a7 a8 : D} : cTup [a0, a1, a2, a3, a4, a5, a6, a7, a8] s = .ok (.tup [a0, a1, a2, a3, a4, a5, a6, a7, a8]) s := if_pos (few_line (show 9 ≤ 100000 by decide))
theorem cLst9 {a0 a1 a2 a3 a4 a5 a6 a7 a8 : D} : cLst [a0, a1, a2, a3, a4, a5, a6, a7, a8] s = .ok (.lst [a0, a1, a2, a3, a4, a5, a6, a7, a8]) s := if_pos (few_line (show 9 ≤ 100000 by decide))
theorem cLstL9 {a0 a1 a2 a3 a4 a5 a6 a7 a8 : D} : cLstL [a0, a1, a2, a3, a4, a5, a6, a7, a8] s = .ok (.loc s.length) (s ++ [.lst [a0, a1, a2, a3, a4, a5, a6, a7, a8]])  := if_pos (few_line (show 9 ≤ 100000 by decide))
theorem cTup10 {a0 a1 a2 a3 a4 a5 a6 a7 a8 a9 : D} : cTup [a0, a1, a2, a3, a4, a5, a6, a7, a8, a9] s = .ok (.tup [a0, a1, a2, a3, a4, a5, a6, a7, a8, a9]) s := if_pos (few_line (show 10 ≤ 100000 by decide))
theorem cLst10 {a0 a1 a2 a3 a4 a5 a6 a7 a8 a9 : D} : cLst [a0, a1, a2, a3, a4, a5, a6, a7, a8, a9] s = .ok (.lst [a0, a1, a2, a3, a4, a5, a6, a7, a8, a9]) s := if_pos (few_line (show 10 ≤ 100000 by decide))
theorem cLstL10 {a0 a1 a2 a3 a4 a5 a6 a7 a8 a9 : D} : cLstL [a0, a1, a2, a3, a4, a5, a6, a7, a8, a9] s = .ok (.loc s.length) (s ++ [.lst [a0, a1, a2, a3, a4, a5, a6, a7, a8, a9]])  := if_pos (few_line (show 10 ≤ 100000 by decide))
theorem cTup11 {a0 a1 a2 a3 a4 a5 a6 a7 a8 a9 a10 : D} : cTup [a0, a1, a2, a3, a4, a5, a6, a7, a8, a9, a10] s = .ok (.tup [a0, a1, a2, a3, a4, a5, a6, a7, a8, a9, a10]) s := if_pos (few_line (show 11 ≤ 100000 by decide))
theorem cLst11 {a0 a1 a2 a3 a4 a5 a6 a7 a8 a9 a10 : D} : cLst [a0, a1, a2, a3, a4, a5, a6, a7, a8, a9, a10] s = .ok (.lst [a0, a1, a2, a3, a4, a5, a6, a7, a8, a9, a10]) s := if_pos (few_line (show 11 ≤ 100000 by decide))
theorem cLstL11 {a0 a1 a2 a3 a4 a5 a6 a7 a8 a9 a10 : D} : cLstL [a0, a1, a2, a3, a4, a5, a6, a7, a8, a9, a10] s = .ok (.loc s.length) (s ++ [.lst [a0, a1, a2, a3, a4, a5, a6, a7, a8, a9, a10]])  := if_pos (few_line (show 11 ≤ 100000 by decide))
theorem cTup12 {a0 a1 a2 a3 a4 a5 a6 a7 a8 a9 a10 a11 : D} : cTup [a0, a1, a2, a3, a4, a5, a6, a7, a8, a9, a10, a11] s = .ok (.tup [a0, a1, a2, a3, a4, a5, a6, a7, a8, a9, a10, a11]) s := if_pos (few_line (show 12 ≤ 100000 by decide))
theorem cLst12 {a0 a1 a2 a3 a4 a5 a6 a7 a8 a9 a10 a11 : D} : cLst [a0, a1, a2, a3, a4, a5, a6, a7, a8, a9, a10, a11] s = .ok (.lst [a0, a1, a2, a3, a4, a5, a6, a7, a8, a9, a10, a11]) s := if_pos (few_line (show 12 ≤ 100000 by decide))
theorem cLstL12 {a0 a1 a2 a3 a4 a5 a6 a7 a8 a9 a10 a11 : D} : cLstL [a0, a1, a2, a3, a4, a5, a6, a7, a8, a9, a10, a11] s = .ok (.loc s.length) (s ++ [.lst [a0, a1, a2, a3, a4, a5, a6, a7, a8, a9, a10, a11]])  := if_pos (few_line (show 12 ≤ 100000 by decide))
theorem cTup13 {a0 a1 a2 a3 a4 a5 a6 a7 a8 a9 a10 a11 a12 : D} : cTup [a0, a1, a2, a3, a4, a5, a6, a7, a8, a9, a10, a11, a12] s = .ok (.tup [a0, a1, a2, a3, a4, a5, a6, a7, a8, a9, a10, a11, a12]) s := if_pos (few_line (show 13 ≤ 100000 by decide))
theorem cLst13 {a0 a1 a2 a3 a4 a5 a6 a7 a8 a9 a10 a11 a12 : D} : cLst [a0, a1, a2, a3, a4, a5, a6, a7, a8, a9, a10, a11, a12] s = .ok (.lst [a0, a1, a2, a3, a4, a5, a6, a7, a8, a9, a10, a11, a12]) s := if_pos (few_line (show 13 ≤ 100000 by decide))
theorem cLstL13 {a0 a1 a2 a3 a4 a5 a6 a7 a8 a9 a10 a11 a12 : D} : cLstL [a0, a1, a2, a3, a4, a5, a6, a7, a8, a9, a10, a11, a12] s = .ok (.loc s.length) (s ++ [.lst [a0, a1, a2, a3, a4, a5, a6, a7, a8, a9, a10, a11, a12]])  := if_pos (few_line (show 13 ≤ 100000 by decide))
theorem cTup14 {a0 a1 a2 a3 a4 a5 a6 a7 a8 a9 a10 a11 a12 a13 : D} : cTup [a0, a1, a2, a3, a4, a5, a6, a7, a8, a9, a10, a11, a12, a13] s = .ok (.tup [a0, a1, a2, a3, a4, a5, a6, a7, a8, a9, a10, a11, a12, a13]) s := if_pos (few_line (show 14 ≤ 100000 by decide))
theorem cLst14 {a0 a1 a2 a3 a4 a5 a6 a7 a8 a9 a10 a11 a12 a13 : D} : cLst [a0, a1, a2, a3, a4, a5, a6, a7, a8, a9, a10, a11, a12, a13] s = .ok (.lst [a0, a1, a2, a3, a4, a5, a6, a7, a8, a9, a10, a11, a12, a13]) s := if_pos (few_line (show 14 ≤ 100000 by decide))
theorem cLstL14 {a0 a1 a2 a3 a4 a5 a6 a7 a8 a9 a10 a11 a12 a13 : D} : cLstL [a0, a1, a2, a3, a4, a5, a6, a7, a8, a9, a10, a11, a12, a13] s = .ok (.loc s.length) (s ++ [.lst [a0, a1, a2, a3, a4, a5, a6, a7, a8, a9, a10, a11, a12, a13]])  := if_pos (few_line (show 14 ≤ 100000 by decide))
theorem cTup15 {a0 a1 a2 a3 a4 a5 a6 a7 a8 a9 a10 a11 a12 a13 a14 : D} : cTup [a0, a1, a2, a3, a4, a5, a6, a7, a8, a9, a10, a11, a12, a13, a14] s = .ok (.tup [a0, a1, a2, a3, a4, a5, a6, a7, a8, a9, a10, a11, a12, a13, a14]) s := if_pos (few_line (show 15 ≤ 100000 by decide))
theorem cLst15 {a0 a1 a2 a3 a4 a5 a6 a7 a8 a9 a10 a11 a12 a13 a14 : D} : cLst [a0, a1, a2, a3, a4, a5, a6, a7, a8, a9, a10, a11, a12, a13, a14] s = .ok (.lst [a0, a1, a2, a3, a4, a5, a6, a7, a8, a9, a10, a11, a12, a13, a14]) s := if_pos (few_line (show 15 ≤ 100000 by decide))
theorem cLstL15 {a0 a1 a2 a3 a4 a5 a6 a7 a8 a9 a10 a11 a12 a13 a14 : D} : cLstL [a0, a1, a2, a3, a4, a5, a6, a7, a8, a9, a10, a11, a12, a13, a14] s = .ok (.loc s.length) (s ++ [.lst [a0, a1, a2, a3, a4, a5, a6, a7, a8, a9, a10, a11, a12, a13, a14]])  := if_pos (few_line (show 15 ≤ 100000 by decide))
theorem cTup16 {a0 a1 a2 a3 a4 a5 a6 a7 a8 a9 a10 a11 a12 a13 a14 a15 : D} : cTup [a0, a1, a2, a3, a4, a5, a6, a7, a8, a9, a10, a11, a12, a13, a14, a15] s = .ok (.tup [a0, a1, a2, a3, a4, a5, a6, a7, a8, a9, a10, a11, a12, a13, a14, a15]) s := if_pos (few_line (show 16 ≤ 100000 by decide))
theorem cLst16 {a0 a1 a2 a3 a4 a5 a6 a7 a8 a9 a10 a11 a12 a13 a14 a15 : D} : cLst [a0, a1, a2, a3, a4, a5, a6, a7, a8, a9, a10, a11, a12, a13, a14, a15] s = .ok (.lst [a0, a1, a2, a3, a4, a5, a6, a7, a8, a9, a10, a11, a12, a13, a14, a15]) s := if_pos (few_line (show 16 ≤ 100000 by decide))
theorem cLstL16 {a0 a1 a2 a3 a4 a5 a6 a7 a8 a9 a10 a11 a12 a13 a14 a15 : D} : cLstL [a0, a1, a2, a3, a4, a5, a6, a7, a8, a9, a10, a11, a12, a13, a14, a15] s = .ok (.loc s.length) (s ++ [.lst [a0, a1, a2, a3, a4, a5, a6, a7, a8, a9, a10, a11, a12, a13, a14, a15]])  := if_pos (few_line (show 16 ≤ 100000 by decide))
theorem cTup17 {a0 a1 a2 a3 a4 a5 a6 a7 a8 a9 a10 a11 a12 a13 a14 a15 a16 : D} : cTup [a0, a1, a2, a3, a4, a5, a6, a7, a8, a9, a10, a11, a12, a13, a14, a15, a16] s = .ok (.tup [a0, a1, a2, a3, a4, a5, a6, a7, a8, a9, a10, a11, a12, a13, a14, a15, a16]) s := if_pos (few_line (show 17 ≤ 100000 by decide))
theorem cLst17 {a0 a1 a2 a3 a4 a5 a6 a7 a8 a9 a10 a11 a12 a13 a14 a15 a16 : D} : cLst [a0, a1, a2, a3, a4, a5, a6, a7, a8, a9, a10, a11, a12, a13, a14, a15, a16] s = .ok (.lst [a0, a1, a2, a3, a4, a5, a6, a7, a8, a9, a10, a11, a12, a13, a14, a15, a16]) s := if_pos (few_line (show 17 ≤ 100000 by decide))
theorem cLstL17 {a0 a1 a2 a3 a4 a5 a6 a7 a8 a9 a10 a11 a12 a13 a14 a15 a16 : D} : cLstL [a0, a1, a2, a3, a4, a5, a6, a7, a8, a9, a10, a11, a12, a13, a14, a15, a16] s = .ok (.loc s.length) (s ++ [.lst [a0, a1, a2, a3, a4, a5, a6, a7, a8, a9, a10, a11, a12, a13, a14, a15, a16]])  := if_pos (few_line (show 17 ≤ 100000 by decide))
theorem cTup18 {a0 a1 a2 a3 a4 a5 a6 a7 a8 a9 a10 a11 a12 a13 a14 a15 a16 a17 : D} : cTup [a0, a1, a2, a3, a4, a5, a6, a7, a8, a9, a10, a11, a12, a13, a14, a15, a16, a17] s = .ok (.tup [a0, a1, a2, a3, a4, a5, a6, a7, a8, a9, a10, a11, a12, a13, a14, a15, a16, a17]) s := if_pos (few_line (show 18 ≤ 100000 by decide))
theorem cLst18 {a0 a1 a2 a3 a4 a5 a6 a7 a8 a9 a10 a11 a12 a13 a14 a15 a16 a17 : D} : cLst [a0, a1, a2, a3, a4, a5, a6, a7, a8, a9, a10, a11, a12, a13, a14, a15, a16, a17] s = .ok (.lst [a0, a1, a2, a3, a4, a5, a6, a7, a8, a9, a10, a11, a12, a13, a14, a15, a16, a17]) s := if_pos (few_line (show 18 ≤ 100000 by decide))
theorem cLstL18 {a0 a1 a2 a3 a4 a5 a6 a7 a8 a9 a10 a11 a12 a13 a14 a15 a16 a17 : D} : cLstL [a0, a1, a2, a3, a4, a5, a6, a7, a8, a9, a10, a11, a12, a13, a14, a15, a16, a17] s = .ok (.loc s.length) (s ++ [.lst [a0, a1, a2, a3, a4, a5, a6, a7, a8, a9, a10, a11, a12, a13, a14, a15, a16, a17]])  := if_pos (few_line (show 18 ≤ 100000 by decide))
theorem cTup19 {a0 a1 a2 a3 a4 a5 a6 a7 a8 a9 a10 a11 a12 a13 a14 a15 a16 a17 a18 : D} : cTup [a0, a1, a2, a3, a4, a5, a6, a7, a8, a9, a10, a11, a12, a13, a14, a15, a16, a17, a18] s = .ok (.tup [a0, a1, a2, a3, a4, a5, a6, a7, a8, a9, a10, a11, a12, a13, a14, a15, a16, a17, a18]) s := if_pos (few_line (show 19 ≤ 100000 by decide))
theorem cLst19 {a0 a1 a2 a3 a4 a5 a6 a7 a8 a9 a10 a11 a12 a13 a14 a15 a16 a17 a18 : D} : cLst [a0, a1, a2, a3, a4, a5, a6, a7, a8, a9, a10, a11, a12, a13, a14, a15, a16, a17, a18] s = .ok (.lst [a0, a1, a2, a3, a4, a5, a6, a7, a8, a9, a10, a11, a12, a13, a14, a15, a16, a17, a18]) s := if_pos (few_line (show 19 ≤ 100000 by decide))
theorem cLstL19 {a0 a1 a2 a3 a4 a5 a6 a7 a8 a9 a10 a11 a12 a13 a14 a15 a16 a17 a18 : D} : cLstL [a0, a1, a2, a3, a4, a5, a6, a7, a8, a9, a10, a11, a12, a13, a14, a15, a16, a17, a18] s = .ok (.loc s.length) (s ++ [.lst [a0, a1, a2, a3, a4, a5, a6, a7, a8, a9, a10, a11, a12, a13, a14, a15, a16, a17, a18]])  := if_pos (few_line (show 19 ≤ 100000 by decide))
theorem cTup20 {a0 a1 a2 a3 a4 a5 a6 a7 a8 a9 a10 a11 a12 a13 a14 a15 a16 a17 a18 a19 : D} : cTup [a0, a1, a2, a3, a4, a5, a6, a7, a8, a9, a10, a11, a12, a13, a14, a15, a16, a17, a18, a19] s = .ok (.tup [a0, a1, a2, a3, a4, a5, a6, a7, a8, a9, a10, a11, a12, a13, a14, a15, a16, a17, a18, a19]) s := if_pos (few_line (show 20 ≤ 100000 by decide))
theorem cLst20 {a0 a1 a2 a3 a4 a5 a6 a7 a8 a9 a10 a11 a12 a13 a14 a15 a16 a17 a18 a19 : D} : cLst [a0, a1, a2, a3, a4, a5, a6, a7, a8, a9, a10, a11, a12, a13, a14, a15, a16, a17, a18, a19] s = .ok (.lst [a0, a1, a2, a3, a4, a5, a6, a7, a8, a9, a10, a11, a12, a13, a14, a15, a16, a17, a18, a19]) s := if_pos (few_line (show 20 ≤ 100000 by decide))
theorem cLstL20 {a0 a1 a2 a3 a4 a5 a6 a7 a8 a9 a10 a11 a12 a13 a14 a15 a16 a17 a18 a19 : D} : cLstL [a0, a1, a2, a3, a4, a5, a6, a7, a8, a9, a10, a11, a12, a13, a14, a15, a16, a17, a18, a19] s = .ok (.loc s.length) (s ++ [.lst [a0, a1, a2, a3, a4, a5, a6, a7, a8, a9, a10, a11, a12, a13, a14, a15, a16, a17, a18, a19]])  := if_pos (few_line (show 20 ≤ 100000 by decide))
theorem cTup21 {a0 a1 a2 a3 a4 a5 a6 a7 a8 a9 a10 a11 a12 a13 a14 a15 a16 a17 a18 a19 a20 : D} : cTup [a0, a1, a2, a3, a4, a5, a6, a7, a8, a9, a10, a11, a12, a13, a14, a15, a16, a17, a18, a19, a20] s = .ok (.tup [a0, a1, a2, a3, a4, a5, a6, a7, a8, a9, a10, a11, a12, a13, a14, a15, a16, a17, a18, a19, a20]) s := if_pos (few_line (show 21 ≤ 100000 by decide))
theorem cLst21 {a0 a1 a2 a3 a4 a5 a6 a7 a8 a9 a10 a11 a12 a13 a14 a15 a16 a17 a18 a19 a20 : D} : cLst [a0, a1, a2, a3, a4, a5, a6, a7, a8, a9, a10, a11, a12, a13, a14, a15, a16, a17, a18, a19, a20] s = .ok (.lst [a0, a1, a2, a3, a4, a5, a6, a7, a8, a9, a10, a11, a12, a13, a14, a15, a16, a17, a18, a19, a20]) s := if_pos (few_line (show 21 ≤ 100000 by decide))
theorem cLstL21 {a0 a1 a2 a3 a4 a5 a6 a7 a8 a9 a10 a11 a12 a13 a14 a15 a16 a17 a18 a19 a20 : D} : cLstL [a0, a1, a2, a3, a4, a5, a6, a7, a8, a9, a10, a11, a12, a13, a14, a15, a16, a17, a18, a19, a20] s = .ok (.loc s.length) (s ++ [.lst [a0, a1, a2, a3, a4, a5, a6, a7, a8, a9, a10, a11, a12, a13, a14, a15, a16, a17, a18, a19, a20]])  := if_pos (few_line (show 21 ≤ 100000 by decide))
theorem cTup22 {a0 a1 a2 a3 a4 a5 a6 a7 a8 a9 a10 a11 a12 a13 a14 a15 a16 a17 a18 a19 a20 a21 : D} : cTup [a0, a1, a2, a3, a4, a5, a6, a7, a8, a9, a10, a11, a12, a13, a14, a15, a16, a17, a18, a19, a20, a21] s = .ok (.tup [a0, a1, a2, a3, a4, a5, a6, a7, a8, a9, a10, a11, a12, a13, a14, a15, a16, a17, a18, a19, a20, a21]) s := if_pos (few_line (show 22 ≤ 100000 by decide))
theorem cLst22 {a0 a1 a2 a3 a4 a5 a6 a7 a8 a9 a10 a11 a12 a13 a14 a15 a16 a17 a18 a19 a20 a21 : D} : cLst [a0, a1, a2, a3, a4, a5, a6, a7, a8, a9, a10, a11, a12, a13, a14, a15, a16, a17, a18, a19, a20, a21] s = .ok (.lst [a0, a1, a2, a3, a4, a5, a6, a7, a8, a9, a10, a11, a12, a13, a14, a15, a16, a17, a18, a19, a20, a21]) s := if_pos (few_line (show 22 ≤ 100000 by decide))
theorem cLstL22 {a0 a1 a2 a3 a4 a5 a6 a7 a8 a9 a10 a11 a12 a13 a14 a15 a16 a17 a18 a19 a20 a21 : D} : cLstL [a0, a1, a2, a3, a4, a5, a6, a7, a8, a9, a10, a11, a12, a13, a14, a15, a16, a17, a18, a19, a20, a21] s = .ok (.loc s.length) (s ++ [.lst [a0, a1, a2, a3, a4, a5, a6, a7, a8, a9, a10, a11, a12, a13, a14, a15, a16, a17, a18, a19, a20, a21]])  := if_pos (few_line (show 22 ≤ 100000 by decide))
theorem e_Tup  : mTup ml lo s = (ml lo s).bind cTup := by first | exact id rfl | (unfold mTup; exact id rfl)
theorem e_Lst  : mLst ml lo s = (ml lo s).bind cLst := by first | exact id rfl | (unfold mLst; exact id rfl)
theorem e_LstL  : mLstL ml lo s = (ml lo s).bind cLstL := by first | exact id rfl | (unfold mLstL; exact id rfl)
def cCB (g : List D → Sto → Option D) : List D → M D := fun xs s => optR (g xs s) s
theorem cCB_ap {g : List D → Sto → Option D} : cCB g xs s = optR (g xs s) s := id rfl
theorem e_CB {g : List D → Sto → Option D} : mCB g ml lo s = (ml lo s).bind (cCB g) := by first | exact id rfl | (unfold mCB; exact id rfl)
def cCM (g : List D → M D) : List D → M D := fun xs s => noX (g xs s)
theorem cCM_ap {g : List D → M D} : cCM g xs s = noX (g xs s) := id rfl
theorem e_CM {g : List D → M D} : mCM g ml lo s = (ml lo s).bind (cCM g) := by first | exact id rfl | (unfold mCM; exact id rfl)
def cIsi2 (u : Ty) : Ty → M D := fun t s => .ok (.bl (isTy t u)) s
theorem cIsi2_ap {t u : Ty} : cIsi2 u t s = .ok (.bl (isTy t u)) s := id rfl
def cIsi (u : Ty) : D → M D := fun d s => (optR (tyD d s) s).bind (cIsi2 u)
theorem cIsi_ap {u : Ty} : cIsi u x s = (optR (tyD x s) s).bind (cIsi2 u) := id rfl
theorem e_Isi {u : Ty} : mIsi u ma lo s = (ma lo s).bind (cIsi u) := by
  unfold mIsi
  congr 1
  funext x s1
  unfold cIsi
  cases tyD x s1 <;> rfl
def cIsiT2 (us : List Ty) : Ty → M D := fun t s => .ok (.bl (us.any (isTy t))) s
theorem cIsiT2_ap {t : Ty} {us : List Ty} : cIsiT2 us t s = .ok (.bl (us.any (isTy t))) s := id rfl
def cIsiT (us : List Ty) : D → M D := fun d s => (optR (tyD d s) s).bind (cIsiT2 us)
theorem cIsiT_ap {us : List Ty} : cIsiT us x s = (optR (tyD x s) s).bind (cIsiT2 us) := id rfl
theorem e_IsiT {us : List Ty} : mIsiT us ma lo s = (ma lo s).bind (cIsiT us) := by
  unfold mIsiT
  congr 1
  funext x s1
  unfold cIsiT
  cases tyD x s1 <;> rfl
def cNeg : D → M D := fun d s => match d with
  | .int i => .ok (.int (-i)) s
  | _ => .bad
theorem cNeg_int {i : Int} : cNeg (.int i) s = .ok (.int (-i)) s := id rfl
theorem e_Neg  : mNeg ma lo s = (ma lo s).bind cNeg := by first | exact id rfl | (unfold mNeg; exact id rfl)
def cCall (n : Nat) (m : List D → M D) : List D → M D := fun ds s => if ds.length = n then m ds s else .bad
theorem cCall0 {m : List D → M D} : cCall 0 m [] s = m [] s := id rfl
theorem cCall1 {a0 : D} {m : List D → M D} : cCall 1 m [a0] s = m [a0] s := id rfl
theorem cCall2 {a0 a1 : D} {m : List D → M D} : cCall 2 m [a0, a1] s = m [a0, a1] s := id rfl
theorem cCall3 {a0 a1 a2 : D} {m : List D → M D} : cCall 3 m [a0, a1, a2] s = m [a0, a1, a2] s := id rfl
theorem cCall4 {a0 a1 a2 a3 : D} {m : List D → M D} : cCall 4 m [a0, a1, a2, a3] s = m [a0, a1, a2, a3] s := id rfl
theorem cCall5 {a0 a1 a2 a3 a4 : D} {m : List D → M D} : cCall 5 m [a0, a1, a2, a3, a4] s = m [a0, a1, a2, a3, a4] s := id rfl
theorem cCall6 {a0 a1 a2 a3 a4 a5 : D} {m : List D → M D} : cCall 6 m [a0, a1, a2, a3, a4, a5] s = m [a0, a1, a2, a3, a4, a5] s := id rfl
theorem cCall7 {a0 a1 a2 a3 a4 a5 a6 : D} {m : List D → M D} : cCall 7 m [a0, a1, a2, a3, a4, a5, a6] s = m [a0, a1, a2, a3, a4, a5, a6] s := id rfl
theorem e_Call {n : Nat} {m : List D → M D} : mCall n m ml lo s = (ml lo s).bind (cCall n m) := by first | exact id rfl | (unfold mCall; exact id rfl)
theorem asI_int {i : Int} : asI (.int i) s = .ok (some i) s := id rfl
theorem e_Part  : mPart ma lo s = (ma lo s).bind asI := by first | exact id rfl | (unfold mPart; exact id rfl)
def cCut3 (d : D) (l : Option Int) : Option Int → M D := fun h s => optR (fCut d l h s) s
theorem cCut3_ap {l h : Option Int} : cCut3 x l h s = optR (fCut x l h s) s := id rfl
def cCut2 (mh : Lo → M (Option Int)) (lo : Lo) (d : D) : Option Int → M D := fun l s => (mh lo s).bind (cCut3 d l)
theorem cCut2_ap {mh : Lo → M (Option Int)} {l : Option Int} : cCut2 mh lo x l s = (mh lo s).bind (cCut3 x l) := id rfl
def cCut1 (ml mh : Lo → M (Option Int)) (lo : Lo) : D → M D := fun d s => (ml lo s).bind (cCut2 mh lo d)
theorem cCut1_ap {mg mh : Lo → M (Option Int)} : cCut1 mg mh lo x s = (mg lo s).bind (cCut2 mh lo x) := id rfl
theorem e_Cut {mg mh : Lo → M (Option Int)} : mCut ma mg mh lo s = (ma lo s).bind (cCut1 mg mh lo) := by first | exact id rfl | (unfold mCut; exact id rfl)
def cJoin2 (a : D) : D → M D := fun d s => optR (fJoin a d s) s
theorem cJoin2_ap  : cJoin2 x y s = optR (fJoin x y s) s := id rfl
def cJoin1 (mb : Lo → M D) (lo : Lo) : D → M D := fun a s => if isStr a = true then (mb lo s).bind (cJoin2 a) else .bad
theorem cJoin1_ap {z : Str} : cJoin1 mb lo (.str z) s = (mb lo s).bind (cJoin2 (.str z)) := id rfl
theorem e_Join  : mJoin ma mb lo s = (ma lo s).bind (cJoin1 mb lo) := by first | exact id rfl | (unfold mJoin; exact id rfl)
def cMeth2 (g : D → List D → M D) (d : D) : List D → M D := fun ds s => noX (g d ds s)
theorem cMeth2_ap {g : D → List D → M D} : cMeth2 g x xs s = noX (g x xs s) := id rfl
def cMeth3 (g : D → List D → M D) (ml : Lo → M (List D)) (lo : Lo) (d : D) : Bool → M D := fun b s => if b = true then (ml lo s).bind (cMeth2 g d) else .bad
theorem cMeth3_t {g : D → List D → M D} : cMeth3 g ml lo x true s = (ml lo s).bind (cMeth2 g x) := id rfl
def cMeth1 (g : D → List D → M D) (ml : Lo → M (List D)) (lo : Lo) : D → M D := fun d s => cMeth3 g ml lo d (isLst d s) s
theorem cMeth1_ap {g : D → List D → M D} : cMeth1 g ml lo x s = cMeth3 g ml lo x (isLst x s) s := id rfl
theorem e_Meth {g : D → List D → M D} : mMeth g ma ml lo s = (ma lo s).bind (cMeth1 g ml lo) := by first | exact id rfl | (unfold mMeth; exact id rfl)
def cIter  : D → M Src := fun d s => optR (itemsD d s) s
theorem cIter_ap  : cIter x s = optR (itemsD x s) s := id rfl
theorem e_Iter : mIter ma lo s = (ma lo s).bind cIter := by
  unfold mIter
  congr 1
  funext x s1
  unfold cIter
  cases itemsD x s1 <;> rfl
def rangeI (i j : Int) : List D := (List.range (j - i).toNat).map fun (k : Nat) => .int (i + (k : Int))
theorem rng1_ap {j : Int} (h : -(2 ^ 62) ≤ j ∧ j < 2 ^ 62) : rng1 [.int j] s = .ok ⟨rangeI 0 j, none⟩ s := by
  unfold rng1 rangeI
  simp only [if_pos h, Int.sub_zero]
theorem rng2_ap {i j : Int} (h : -(2 ^ 62) ≤ i ∧ i < 2 ^ 62 ∧ -(2 ^ 62) ≤ j ∧ j < 2 ^ 62) : rng2 [.int i, .int j] s = .ok ⟨rangeI i j, none⟩ s := by
  unfold rng2 rangeI
  simp only [if_pos h]
theorem e_Rng1  : mRng1 ml lo s = (ml lo s).bind rng1 := by first | exact id rfl | (unfold mRng1; exact id rfl)
theorem e_Rng2  : mRng2 ml lo s = (ml lo s).bind rng2 := by first | exact id rfl | (unfold mRng2; exact id rfl)
theorem e_EnumT  : mEnumT ml lo s = (ml lo s).bind enumT := by first | exact id rfl | (unfold mEnumT; exact id rfl)
theorem enumT_ap (h : xs.length ≤ sizeLine) : enumT [.tup xs] s = .ok ⟨numbered xs, none⟩ s := if_pos h
variable {T : Tg} {mi : Lo → M Src} {me : Lo → M D} {own : List Nat} {fr : Bool} {S : Src} {cnd : Cnd}
def cComp2 (fr : Bool) : List D → M D := fun ys s => finD fr ys s
theorem cComp2_ap  : cComp2 fr xs s = finD fr xs s := id rfl
def cComp (fr : Bool) (own : List Nat) (T : Tg) (mt : Lo → M Bool) (me : Lo → M D) (lo : Lo) : Src → M D := fun S s => (compR T mt me S.cnd (wipeD lo own) S.items [] s).bind (cComp2 fr)
theorem cComp_ap  : cComp fr own T mt me lo S s = (compR T mt me S.cnd (wipeD lo own) S.items [] s).bind (cComp2 fr) := id rfl
theorem e_Comp  : mComp fr own T mi mt me lo s = (mi lo s).bind (cComp fr own T mt me lo) := by first | exact id rfl | (unfold mComp; exact id rfl)
def cCompX (fr : Bool) (own : List Nat) (T : Tg) (mt : Lo → M Bool) (me : Lo → M D) (lo : Lo) : Src → M D := fun S s => (compRX T mt me S.cnd (wipeD lo own) S.items [] s).bind (cComp2 fr)
theorem cCompX_ap  : cCompX fr own T mt me lo S s = (compRX T mt me S.cnd (wipeD lo own) S.items [] s).bind (cComp2 fr) := id rfl
theorem e_CompX  : mCompX fr own T mi mt me lo s = (mi lo s).bind (cCompX fr own T mt me lo) := by first | exact id rfl | (unfold mCompX; exact id rfl)
theorem finD_t : finD true xs s = .ok (.lst xs) s := id rfl
theorem finD_f : finD false xs s = .ok (.loc s.length) (s ++ [.lst xs]) := id rfl
theorem wipe_nil : wipeD lo [] = lo := id rfl
theorem wipe_cons {v : Nat} {vs : List Nat} : wipeD lo (v :: vs) = (wipeD lo vs).set v none := id rfl
theorem cmp_nil : compR T mt me none lo [] xs s = .ok xs s := id rfl
theorem cmpx_nil : compRX T mt me none lo [] xs s = .ok xs s := id rfl
def cCp3 (T : Tg) (mt : Lo → M Bool) (me : Lo → M D) (cnd : Cnd) (lo : Lo) (ds acc : List D) : D → M (List D) := fun y s => if acc.length < sizeLine then compR T mt me cnd lo ds (acc ++ [y]) s else .bad
def cCp2 (T : Tg) (mt : Lo → M Bool) (me : Lo → M D) (cnd : Cnd) (lo lo1 : Lo) (ds acc : List D) : Bool → M (List D) := fun b s => if b = true then (noX (me lo1 s)).bind (cCp3 T mt me cnd lo ds acc) else compR T mt me cnd lo ds acc s
theorem cCp2_t {lo1 : Lo} {ds : List D} : cCp2 T mt me cnd lo lo1 ds xs true s = (noX (me lo1 s)).bind (cCp3 T mt me cnd lo ds xs) := id rfl
theorem cCp2_f {lo1 : Lo} {ds : List D} : cCp2 T mt me cnd lo lo1 ds xs false s = compR T mt me cnd lo ds xs s := id rfl
def cCp1 (T : Tg) (mt : Lo → M Bool) (me : Lo → M D) (cnd : Cnd) (lo : Lo) (ds acc : List D) : Lo → M (List D) := fun lo1 s => (noX (mt lo1 s)).bind (cCp2 T mt me cnd lo lo1 ds acc)
theorem cCp1_ap {lo1 : Lo} {ds : List D} : cCp1 T mt me cnd lo ds xs lo1 s = (noX (mt lo1 s)).bind (cCp2 T mt me cnd lo lo1 ds xs) := id rfl
theorem cmp_cons {d : D} {ds : List D} : compR T mt me none lo (d :: ds) xs s = (optR (setT T d lo) s).bind (cCp1 T mt me none lo ds xs) := by
  rw [compR]
  show (match setT T d lo with | none => R.bad | some lo1 => _) = _
  cases setT T d lo <;> rfl
theorem cCp3_of {ds : List D} {y : D} (h : xs.length < sizeLine) : cCp3 T mt me cnd lo ds xs y s = compR T mt me cnd lo ds (xs ++ [y]) s := if_pos h
def cCx3 (T : Tg) (mt : Lo → M Bool) (me : Lo → M D) (cnd : Cnd) (lo : Lo) (ds acc : List D) : D → M (List D) := fun y s => if acc.length < sizeLine then compRX T mt me cnd lo ds (acc ++ [y]) s else .bad
def cCx2 (T : Tg) (mt : Lo → M Bool) (me : Lo → M D) (cnd : Cnd) (lo lo1 : Lo) (ds acc : List D) : Bool → M (List D) := fun b s => if b = true then (me lo1 s).bind (cCx3 T mt me cnd lo ds acc) else compRX T mt me cnd lo ds acc s
theorem cCx2_t {lo1 : Lo} {ds : List D} : cCx2 T mt me cnd lo lo1 ds xs true s = (me lo1 s).bind (cCx3 T mt me cnd lo ds xs) := id rfl
theorem cCx2_f {lo1 : Lo} {ds : List D} : cCx2 T mt me cnd lo lo1 ds xs false s = compRX T mt me cnd lo ds xs s := id rfl
def cCx1 (T : Tg) (mt : Lo → M Bool) (me : Lo → M D) (cnd : Cnd) (lo : Lo) (ds acc : List D) : Lo → M (List D) := fun lo1 s => (noX (mt lo1 s)).bind (cCx2 T mt me cnd lo lo1 ds acc)
theorem cCx1_ap {lo1 : Lo} {ds : List D} : cCx1 T mt me cnd lo ds xs lo1 s = (noX (mt lo1 s)).bind (cCx2 T mt me cnd lo lo1 ds xs) := id rfl
theorem cmpx_cons {d : D} {ds : List D} : compRX T mt me none lo (d :: ds) xs s = (optR (setT T d lo) s).bind (cCx1 T mt me none lo ds xs) := by
  rw [compRX]
  show (match setT T d lo with | none => R.bad | some lo1 => _) = _
  cases setT T d lo <;> rfl
theorem cCx3_of {ds : List D} {y : D} (h : xs.length < sizeLine) : cCx3 T mt me cnd lo ds xs y s = compRX T mt me cnd lo ds (xs ++ [y]) s := if_pos h
theorem cCp3_0 {ds : List D} {y : D} : cCp3 T mt me cnd lo ds [] y s = compR T mt me cnd lo ds [y] s := if_pos (show 0 < sizeLine by decide)
theorem cCx3_0 {ds : List D} {y : D} : cCx3 T mt me cnd lo ds [] y s = compRX T mt me cnd lo ds [y] s := if_pos (show 0 < sizeLine by decide)
theorem cCp3_1 {a0 : D} {ds : List D} {y : D} : cCp3 T mt me cnd lo ds [a0] y s = compR T mt me cnd lo ds [a0, y] s := if_pos (show 1 < sizeLine by decide)
theorem cCx3_1 {a0 : D} {ds : List D} {y : D} : cCx3 T mt me cnd lo ds [a0] y s = compRX T mt me cnd lo ds [a0, y] s := if_pos (show 1 < sizeLine by decide)
theorem cCp3_2 {a0 a1 : D} {ds : List D} {y : D} : cCp3 T mt me cnd lo ds [a0, a1] y s = compR T mt me cnd lo ds [a0, a1, y] s := if_pos (show 2 < sizeLine by decide)
theorem cCx3_2 {a0 a1 : D} {ds : List D} {y : D} : cCx3 T mt me cnd lo ds [a0, a1] y s = compRX T mt me cnd lo ds [a0, a1, y] s := if_pos (show 2 < sizeLine by decide)
theorem cCp3_3 {a0 a1 a2 : D} {ds : List D} {y : D} : cCp3 T mt me cnd lo ds [a0, a1, a2] y s = compR T mt me cnd lo ds [a0, a1, a2, y] s := if_pos (show 3 < sizeLine by decide)
theorem cCx3_3 {a0 a1 a2 : D} {ds : List D} {y : D} : cCx3 T mt me cnd lo ds [a0, a1, a2] y s = compRX T mt me cnd lo ds [a0, a1, a2, y] s := if_pos (show 3 < sizeLine by decide)
theorem cCp3_4 {a0 a1 a2 a3 : D} {ds : List D} {y : D} : cCp3 T mt me cnd lo ds [a0, a1, a2, a3] y s = compR T mt me cnd lo ds [a0, a1, a2, a3, y] s := if_pos (show 4 < sizeLine by decide)
theorem cCx3_4 {a0 a1 a2 a3 : D} {ds : List D} {y : D} : cCx3 T mt me cnd lo ds [a0, a1, a2, a3] y s = compRX T mt me cnd lo ds [a0, a1, a2, a3, y] s := if_pos (show 4 < sizeLine by decide)
theorem cCp3_5 {a0 a1 a2 a3 a4 : D} {ds : List D} {y : D} : cCp3 T mt me cnd lo ds [a0, a1, a2, a3, a4] y s = compR T mt me cnd lo ds [a0, a1, a2, a3, a4, y] s := if_pos (show 5 < sizeLine by decide)
theorem cCx3_5 {a0 a1 a2 a3 a4 : D} {ds : List D} {y : D} : cCx3 T mt me cnd lo ds [a0, a1, a2, a3, a4] y s = compRX T mt me cnd lo ds [a0, a1, a2, a3, a4, y] s := if_pos (show 5 < sizeLine by decide)
theorem cCp3_6 {a0 a1 a2 a3 a4 a5 : D} {ds : List D} {y : D} : cCp3 T mt me cnd lo ds [a0, a1, a2, a3, a4, a5] y s = compR T mt me cnd lo ds [a0, a1, a2, a3, a4, a5, y] s := if_pos (show 6 < sizeLine by decide)
theorem cCx3_6 {a0 a1 a2 a3 a4 a5 : D} {ds : List D} {y : D} : cCx3 T mt me cnd lo ds [a0, a1, a2, a3, a4, a5] y s = compRX T mt me cnd lo ds [a0, a1, a2, a3, a4, a5, y] s := if_pos (show 6 < sizeLine by decide)
theorem cCp3_7 {a0 a1 a2 a3 a4 a5 a6 : D} {ds : List D} {y : D} : cCp3 T mt me cnd lo ds [a0, a1, a2, a3, a4, a5, a6] y s = compR T mt me cnd lo ds [a0, a1, a2, a3, a4, a5, a6, y] s := if_pos (show 7 < sizeLine by decide)
theorem cCx3_7 {a0 a1 a2 a3 a4 a5 a6 : D} {ds : List D} {y : D} : cCx3 T mt me cnd lo ds [a0, a1, a2, a3, a4, a5, a6] y s = compRX T mt me cnd lo ds [a0, a1, a2, a3, a4, a5, a6, y] s := if_pos (show 7 < sizeLine by decide)
def cSet2 : List Key → M D := fun ks s => .ok (.int (ks.length : Int)) s
theorem cSet2_ap {ks : List Key} : cSet2 ks s = .ok (.int (ks.length : Int)) s := id rfl
def cSet (own : List Nat) (T : Tg) (mt : Lo → M Bool) (me : Lo → M D) (lo : Lo) : Src → M D := fun S s => (setR T mt me S.cnd (wipeD lo own) S.items [] s).bind cSet2
theorem cSet_ap  : cSet own T mt me lo S s = (setR T mt me S.cnd (wipeD lo own) S.items [] s).bind cSet2 := id rfl
theorem e_LenSet  : mLenSet own T mi mt me lo s = (mi lo s).bind (cSet own T mt me lo) := by first | exact id rfl | (unfold mLenSet; exact id rfl)
def cMaxD2 (x : D) : D → M D := fun e s => match (DL.listOf x s).bind intsOf, e with
  | some ns, .int z => .ok (.int (maxDef z ns)) s
  | _, _ => .bad
theorem cMaxD2_ap {ns : List Int} {z : Int} (h : (DL.listOf x s).bind intsOf = some ns) : cMaxD2 x (.int z) s = .ok (.int (maxDef z ns)) s := by unfold cMaxD2; rw [h]
def cMaxD (md : Lo → M D) (lo : Lo) : D → M D := fun x s => (md lo s).bind (cMaxD2 x)
theorem cMaxD_ap  : cMaxD mb lo x s = (mb lo s).bind (cMaxD2 x) := id rfl
theorem e_MaxD  : mMaxD ma mb lo s = (ma lo s).bind (cMaxD mb lo) := by first | exact id rfl | (unfold mMaxD; exact id rfl)
def cCnt2 (x : Str) : D → M D := fun b s => match b with
  | .str y => .ok (.int (Txt.count x y)) s
  | _ => .bad
theorem cCnt2_ap {x y : Str} : cCnt2 x (.str y) s = .ok (.int (Txt.count x y)) s := id rfl
def cCnt (mb : Lo → M D) (lo : Lo) : D → M D := fun a s => match a with
  | .str x => (mb lo s).bind (cCnt2 x)
  | _ => .bad
theorem cCnt_ap {x : Str} : cCnt mb lo (.str x) s = (mb lo s).bind (cCnt2 x) := id rfl
theorem e_Count  : mCount ma mb lo s = (ma lo s).bind (cCnt mb lo) := by first | exact id rfl | (unfold mCount; exact id rfl)
def cFld (cs : List Str) (f : Str) : D → M D := fun d s => match d with
  | .exn cls ns ds => if cls ∈ cs then (match (ns.zip ds).lookup f with
    | some y => .ok y s
    | none => .bad) else .bad
  | _ => .bad
theorem cFld_ap {cs : List Str} {f cls : Str} {ns : List Str} {ds : List D} {y : D} (h1 : cls ∈ cs) (h2 : (ns.zip ds).lookup f = some y) : cFld cs f (.exn cls ns ds) s = .ok y s := by
  unfold cFld; simp only [if_pos h1, h2]
theorem isxR_ap {tb : Str → Option Bool} {cls : Str} {ns : List Str} {ds : List D} {b : Bool} (h : tb cls = some b) : isxR tb (.exn cls ns ds) s = .ok (.bl b) s := by
  unfold isxR; simp only [h]
theorem e_Fld {cs : List Str} {g : Str} : mFld cs g ma lo s = (ma lo s).bind (cFld cs g) := by first | exact id rfl | (unfold mFld; exact id rfl)
theorem e_Isx {tb : Str → Option Bool} : mIsx tb ma lo s = (ma lo s).bind (isxR tb) := by first | exact id rfl | (unfold mIsx; exact id rfl)
end
section
variable {ma mb mc : Lo → M D} {mt : Lo → M Bool} {ml : Lo → M (List D)} {lo : Lo} {s : Sto} {x y v : D} {xs : List D} {k : Bool} {m1 m2 : Lo → Sto → SR} {e : Xn} {T : Tg}
def seqS (r : SR) (m : Lo → Sto → SR) : SR := match r with
  | .nx lo s => m lo s
  | r => r
theorem seqS_nx : seqS (.nx lo s) m2 = m2 lo s := id rfl
theorem seqS_rt : seqS (.rt x s) m2 = .rt x s := id rfl
theorem seqS_bk : seqS (.bk lo s) m2 = .bk lo s := id rfl
theorem seqS_ct : seqS (.ct lo s) m2 = .ct lo s := id rfl
theorem seqS_exc : seqS (.exc e lo s) m2 = .exc e lo s := id rfl
theorem e_seq : mSeq m1 m2 lo s = seqS (m1 lo s) m2 := by unfold mSeq seqS; cases m1 lo s <;> rfl
theorem e_ret : mRet ma lo s = bindS (ma lo s) lo .rt := id rfl
def cExpr (lo : Lo) : D → Sto → SR := fun _ s => .nx lo s
theorem cExpr_ap : cExpr lo x s = .nx lo s := id rfl
theorem e_expr : mExpr ma lo s = bindS (ma lo s) lo (cExpr lo) := id rfl
def cIf (m1 m2 : Lo → Sto → SR) (lo : Lo) : Bool → Sto → SR := fun b s => if b = true then m1 lo s else m2 lo s
theorem cIf_t : cIf m1 m2 lo true s = m1 lo s := id rfl
theorem cIf_f : cIf m1 m2 lo false s = m2 lo s := id rfl
theorem e_if : mIf mt m1 m2 lo s = bindS (mt lo s) lo (cIf m1 m2 lo) := id rfl
def cSetS (T : Tg) (lo : Lo) : D → Sto → SR := fun d s => match setT T d lo with
  | some lo' => .nx lo' s
  | none => .bad
theorem cSetS_nm {i : Nat} : cSetS (.nm i) lo x s = .nx (lo.set i (some x)) s := id rfl
theorem cSetS_tp2 {i j : Nat} {a b : D} : cSetS (.tp [i, j]) lo (.tup [a, b]) s = .nx ((lo.set i (some a)).set j (some b)) s := id rfl
theorem cSetS_tp3 {i j k : Nat} {a b c : D} : cSetS (.tp [i, j, k]) lo (.tup [a, b, c]) s = .nx (((lo.set i (some a)).set j (some b)).set k (some c)) s := id rfl
theorem e_set : mSet T ma lo s = bindS (ma lo s) lo (cSetS T lo) := id rfl
theorem setT_nm {i : Nat} : setT (.nm i) x lo = some (lo.set i (some x)) := id rfl
theorem setT_tp2 {i j : Nat} {a b : D} : setT (.tp [i, j]) (.tup [a, b]) lo = some ((lo.set i (some a)).set j (some b)) := id rfl
theorem setT_tp3 {i j k : Nat} {a b c : D} : setT (.tp [i, j, k]) (.tup [a, b, c]) lo = some (((lo.set i (some a)).set j (some b)).set k (some c)) := id rfl
def optS (o : Option Sto) (lo : Lo) : SR := match o with
  | some s => .nx lo s
  | none => .bad
theorem optS_some : optS (some s) lo = .nx lo s := id rfl
def cSt3 (lo : Lo) (v o : D) : D → Sto → SR := fun i s => optS (storeD o i v s) lo
theorem cSt3_ap {o i : D} : cSt3 lo v o i s = optS (storeD o i v s) lo := id rfl
def cSt2 (mi : Lo → M D) (lo : Lo) (v : D) : D → Sto → SR := fun o s => bindS (mi lo s) lo (cSt3 lo v o)
theorem cSt2_ap {o : D} : cSt2 ma lo v o s = bindS (ma lo s) lo (cSt3 lo v o) := id rfl
def cSt1 (mo mi : Lo → M D) (lo : Lo) : D → Sto → SR := fun v s => bindS (mo lo s) lo (cSt2 mi lo v)
theorem cSt1_ap : cSt1 ma mb lo v s = bindS (ma lo s) lo (cSt2 mb lo v) := id rfl
theorem e_store : mStore ma mb mc lo s = bindS (mc lo s) lo (cSt1 ma mb lo) := id rfl
def cFor (T : Tg) (mb : Lo → Sto → SR) (lo : Lo) : Src → Sto → SR := fun S s => forS T mb S.cnd S.items lo s
theorem cFor_ap {S : Src} : cFor T m1 lo S s = forS T m1 S.cnd S.items lo s := id rfl
theorem e_for {mi : Lo → M Src} : mFor T mi m1 lo s = bindS (mi lo s) lo (cFor T m1 lo) := id rfl
theorem for_nil : forS T m1 none [] lo s = .nx lo s := id rfl
def cFor2 (T : Tg) (body : Lo → Sto → SR) (cnd : Cnd) (ds : List D) : SR → SR
  | .nx lo2 s2 => forS T body cnd ds lo2 s2
  | .ct lo2 s2 => forS T body cnd ds lo2 s2
  | .bk lo2 s2 => .nx lo2 s2
  | .rt d s2 => .rt d s2
  | .exc x lo2 s2 => .exc x lo2 s2
  | .bad => .bad
theorem cFor2_nx {cnd : Cnd} : cFor2 T m1 cnd xs (.nx lo s) = forS T m1 cnd xs lo s := id rfl
theorem cFor2_ct {cnd : Cnd} : cFor2 T m1 cnd xs (.ct lo s) = forS T m1 cnd xs lo s := id rfl
theorem cFor2_bk {cnd : Cnd} : cFor2 T m1 cnd xs (.bk lo s) = .nx lo s := id rfl
theorem cFor2_rt {cnd : Cnd} : cFor2 T m1 cnd xs (.rt x s) = .rt x s := id rfl
theorem cFor2_exc {cnd : Cnd} : cFor2 T m1 cnd xs (.exc e lo s) = .exc e lo s := id rfl
theorem for_cons {l : Lo} (h : setT T x lo = some l) : forS T m1 none (x :: xs) lo s = cFor2 T m1 none xs (m1 l s) := by
  rw [forS, h]
  show (match m1 l s with | .nx lo2 s2 => forS T m1 none xs lo2 s2 | .ct lo2 s2 => forS T m1 none xs lo2 s2 | .bk lo2 s2 => .nx lo2 s2 | .rt d s2 => .rt d s2 | .exc x lo2 s2 => .exc x lo2 s2 | .bad => .bad) = _
  cases m1 l s <;> rfl
theorem for_cons1 {i : Nat} : forS (.nm i) m1 none (x :: xs) lo s = cFor2 (.nm i) m1 none xs (m1 (lo.set i (some x)) s) := for_cons rfl
theorem for_cons2 {i j : Nat} {a b : D} : forS (.tp [i, j]) m1 none (.tup [a, b] :: xs) lo s = cFor2 (.tp [i, j]) m1 none xs (m1 ((lo.set i (some a)).set j (some b)) s) := for_cons rfl
def cRaise (cls : Str) (ns : List Str) (lo : Lo) : List D → Sto → SR := fun ds s => if ds.length = ns.length then .exc ⟨cls, ns.reverse, ds.reverse⟩ lo s else .bad
theorem cRaise0 {c : Str} : cRaise c [] lo [] s = .exc ⟨c, [], []⟩ lo s := id rfl
theorem cRaise1 {c f : Str} : cRaise c [f] lo [x] s = .exc ⟨c, [f], [x]⟩ lo s := id rfl
theorem cRaise2 {c f g : Str} : cRaise c [f, g] lo [x, y] s = .exc ⟨c, [g, f], [y, x]⟩ lo s := id rfl
theorem e_raise {c : Str} {ns : List Str} : mRaise c ns ml lo s = bindS (ml lo s) lo (cRaise c ns lo) := id rfl
def callR : SR → R D
  | .nx _ s => .ok .non s
  | .rt d s => .ok d s
  | .exc x _ s => .exc x s
  | _ => .bad
theorem callR_nx : callR (.nx lo s) = .ok .non s := id rfl
theorem callR_rt : callR (.rt x s) = .ok x s := id rfl
theorem callR_exc : callR (.exc e lo s) = .exc e s := id rfl
theorem callF_eq {N n : Nat} {b : Lo → Sto → SR} : callF N n b xs s = callR (b (xs.map some ++ List.replicate (N - n) none) s) := by
  unfold callF callR
  cases b (xs.map some ++ List.replicate (N - n) none) s <;> rfl
def tryK (tb : Str → Option Bool) (i : Nat) (ms : Lo → Sto → SR) : SR → SR
  | .exc x lo1 s1 => (match tb x.cls with
    | some true => unsetS i (ms (lo1.set i (some (.exn x.cls x.ns x.ds))) s1)
    | some false => .exc x lo1 s1
    | none => .bad)
  | r => r
theorem tryK_nx {tb : Str → Option Bool} {i : Nat} : tryK tb i m2 (.nx lo s) = .nx lo s := id rfl
theorem tryK_rt {tb : Str → Option Bool} {i : Nat} : tryK tb i m2 (.rt x s) = .rt x s := id rfl
theorem tryK_in {tb : Str → Option Bool} {i : Nat} (h : tb e.cls = some true) : tryK tb i m2 (.exc e lo s) = unsetS i (m2 (lo.set i (some (.exn e.cls e.ns e.ds))) s) := by
  unfold tryK; simp only [h]
theorem tryK_out {tb : Str → Option Bool} {i : Nat} (h : tb e.cls = some false) : tryK tb i m2 (.exc e lo s) = .exc e lo s := by
  unfold tryK; simp only [h]
theorem e_try {tb : Str → Option Bool} {i : Nat} : mTryK tb i m1 m2 lo s = tryK tb i m2 (m1 lo s) := by
  first | rfl | (unfold mTryK tryK; done)
theorem unS_nx {i : Nat} : unsetS i (.nx lo s) = .nx (lo.set i none) s := id rfl
theorem unS_rt {i : Nat} : unsetS i (.rt x s) = .rt x s := id rfl
theorem nAdd_int {i j : Int} : fAdd (.int i) (.int j) s = some (.int (i + j)) := id rfl
theorem nSub_int {i j : Int} : fSub (.int i) (.int j) s = some (.int (i - j)) := id rfl
theorem nLt_int {i j : Int} : fLt (.int i) (.int j) s = some (.bl (decide (i < j))) := id rfl
theorem nLe_int {i j : Int} : fLe (.int i) (.int j) s = some (.bl (decide (i ≤ j))) := id rfl
theorem nGt_int {i j : Int} : fGt (.int i) (.int j) s = some (.bl (decide (j < i))) := id rfl
theorem nGe_int {i j : Int} : fGe (.int i) (.int j) s = some (.bl (decide (j ≤ i))) := id rfl
theorem nTru_bl {b : Bool} : truD (.bl b) s = some b := id rfl
theorem nMax_int {i j : Int} : fMax [.int i, .int j] s = some (.int (if j > i then j else i)) := id rfl
theorem nMin_int {i j : Int} : fMin [.int i, .int j] s = some (.int (if j < i then j else i)) := id rfl
theorem nInt_bl {b : Bool} : fInt [.bl b] s = some (.int (if b then 1 else 0)) := id rfl
theorem nIx_lst {j : Int} : fIx (.lst xs) (.int j) s = atI xs j := id rfl
theorem nIx_tup {j : Int} : fIx (.tup xs) (.int j) s = atI xs j := id rfl
theorem nIx_scr {j : Int} : fIx (.scr xs) (.int j) s = atI xs j := id rfl
theorem e_nx : (SR.nx : Lo → Sto → SR) lo s = .nx lo s := id rfl
end
end DL
set_option Elab.async false
set_option linter.all false
set_option maxRecDepth 100000
set_option maxHeartbeats 4000000
/-! DNb: sizes of data, what lies apart from a pool, reading back. -/
namespace DL
open PySem L2
mutual
def sz : PyData → Nat
  | .none => 1
  | .bool _ => 1
  | .int i => 1 + i.natAbs.log2
  | .str x => 1 + x.length
  | .list xs => 1 + szs xs
  | .tuple xs => 1 + szs xs
  | .dict kvs => 1 + szk kvs
def szs : List PyData → Nat
  | [] => 0
  | x :: xs => sz x + szs xs
def szk : List (PyData × PyData) → Nat
  | [] => 0
  | (k, v) :: r => sz k + sz v + szk r
end
mutual
def okP : PyData → Bool
  | .none => true
  | .bool _ => true
  | .int i => decide (i.natAbs.log2 < 1920)
  | .str x => x.cps.toList.all fun c => decide (c < 16 ^ 8)
  | .list xs => okPs xs
  | .tuple xs => okPs xs
  | .dict kvs => okPk kvs
def okPs : List PyData → Bool
  | [] => true
  | x :: xs => okP x && okPs xs
def okPk : List (PyData × PyData) → Bool
  | [] => true
  | (k, v) :: r => okP k && okP v && okPk r
end
theorem app_len (a b : Str) : (a ++ b).length = a.length + b.length := by
  show (a.cps ++ b.cps).size = _
  rw [Array.size_append]; rfl
mutual
theorem shown_le : ∀ p : PyData, okP p = true → p.shown.length + 2 ≤ 12 * sz p
  | .none, _ => by rw [PyData.shown, sz]; decide
  | .bool b, _ => by rw [PyData.shown, sz]; cases b <;> decide
  | .int i, h => by
    rw [PyData.shown, sz]
    rw [okP, decide_eq_true_eq] at h
    have h1 := int_text_length_le (a := i) (k := i.natAbs.log2 + 1) (by omega) (by omega)
    have h2 : (Str.ofString (toString i)).length = (toString i).length := ofString_length _
    show (Str.ofString (toString i)).length + 2 ≤ _
    omega
  | .str x, h => by
    rw [PyData.shown, sz]
    rw [okP, List.all_eq_true] at h
    have := PySem.StrLaws.reprText_len x fun c hc => by simpa using h c hc
    omega
  | .list xs, h => by
    rw [PyData.shown, sz]
    rw [okP] at h
    have h1 := showns_le xs h
    have h2 := listText_len_le (PyData.shownAll xs)
    omega
  | .tuple xs, h => by
    rw [PyData.shown, sz]
    rw [okP] at h
    have h1 := showns_le xs h
    have h2 := tupleText_len_le (PyData.shownAll xs)
    omega
  | .dict kvs, h => by
    rw [PyData.shown, sz]
    rw [okP] at h
    have h1 := shownk_le kvs h
    have h2 := dictText_len_le (PyData.shownKv kvs)
    omega
theorem showns_le : ∀ ps : List PyData, okPs ps = true → ((PyData.shownAll ps).map (·.length)).sum + 2 * (PyData.shownAll ps).length ≤ 12 * szs ps
  | [], _ => by rw [PyData.shownAll, szs]; simp
  | p :: ps, h => by
    rw [okPs, Bool.and_eq_true] at h
    have h1 := shown_le p h.1
    have h2 := showns_le ps h.2
    rw [PyData.shownAll, szs, List.map_cons, List.sum_cons, List.length_cons]
    omega
theorem shownk_le : ∀ ps : List (PyData × PyData), okPk ps = true → ((PyData.shownKv ps).map (·.length)).sum + 2 * (PyData.shownKv ps).length ≤ 12 * szk ps
  | [], _ => by rw [PyData.shownKv, szk]; simp
  | (k, v) :: ps, h => by
    rw [okPk, Bool.and_eq_true, Bool.and_eq_true] at h
    have h1 := shown_le k h.1.1
    have h2 := shown_le v h.1.2
    have h3 := shownk_le ps h.2
    rw [PyData.shownKv, szk, List.map_cons, List.sum_cons, List.length_cons, app_len, app_len]
    have : (": " : Str).length = 2 := rfl
    omega
end
mutual
theorem showable_of : ∀ p : PyData, okP p = true → p.showable = true
  | .none, _ => by rw [PyData.showable]
  | .bool b, _ => by rw [PyData.showable]
  | .int i, h => by rw [PyData.showable]; rw [okP] at h; exact h
  | .str x, h => by rw [PyData.showable]
  | .list xs, h => by rw [PyData.showable]; rw [okP] at h; exact showables_of xs h
  | .tuple xs, h => by rw [PyData.showable]; rw [okP] at h; exact showables_of xs h
  | .dict kvs, h => by rw [PyData.showable]; rw [okP] at h; exact showablek_of kvs h
theorem showables_of : ∀ ps : List PyData, okPs ps = true → PyData.showableAll ps = true
  | [], _ => by rw [PyData.showableAll]
  | p :: ps, h => by
    rw [okPs, Bool.and_eq_true] at h
    rw [PyData.showableAll, showable_of p h.1, showables_of ps h.2]; rfl
theorem showablek_of : ∀ ps : List (PyData × PyData), okPk ps = true → PyData.showableKv ps = true
  | [], _ => by rw [PyData.showableKv]
  | (k, v) :: ps, h => by
    rw [okPk, Bool.and_eq_true, Bool.and_eq_true] at h
    rw [PyData.showableKv, showable_of k h.1.1, showable_of v h.1.2, showablek_of ps h.2]; rfl
end
theorem sz_pos : ∀ p : PyData, 1 ≤ sz p := fun p => by cases p <;> simp only [sz] <;> omega
theorem szs_len : ∀ ps : List PyData, ps.length ≤ szs ps
  | [] => Nat.le_refl _
  | p :: ps => by
    have := sz_pos p
    have := szs_len ps
    rw [szs, List.length_cons]; omega
theorem depthKv_zip {n : Nat} : ∀ (ks : List Key) (ps : List PyData), PyData.depthAll ps ≤ n → PyData.depthKv ((ks.map keyP).zip ps) ≤ n
  | [], _, _ => by rw [List.map_nil, List.zip_nil_left, PyData.depthKv]; omega
  | _ :: _, [], _ => by rw [List.zip_nil_right, PyData.depthKv]; omega
  | k :: ks, p :: ps, h => by
    rw [PyData.depthAll] at h
    rw [List.map_cons, List.zip_cons_cons, PyData.depthKv]
    have h1 := depthKv_zip ks ps (show PyData.depthAll ps ≤ n by omega)
    have h2 : PyData.depth (keyP k) = 0 := by cases k <;> rfl
    omega
mutual
theorem toPd_depth {s : Sto} : ∀ (n : Nat) (d : D) (p : PyData), toPd s n d = some p → p.depth ≤ n
  | n, .non, p, h => by rw [toPd] at h; cases h; exact Nat.zero_le _
  | n, .bl _, p, h => by rw [toPd] at h; cases h; exact Nat.zero_le _
  | n, .int _, p, h => by rw [toPd] at h; cases h; exact Nat.zero_le _
  | n, .str _, p, h => by rw [toPd] at h; cases h; exact Nat.zero_le _
  | 0, .lst _, p, h => by simp [toPd] at h
  | 0, .tup _, p, h => by simp [toPd] at h
  | 0, .scr _, p, h => by simp [toPd] at h
  | 0, .dct _ _, p, h => by simp [toPd] at h
  | 0, .loc _, p, h => by simp [toPd] at h
  | n + 1, .lst xs, p, h => by
    rw [toPd, Option.map_eq_some_iff] at h
    obtain ⟨ps, h1, rfl⟩ := h
    have := toPds_depth n xs ps h1
    rw [PyData.depth]; omega
  | n + 1, .tup xs, p, h => by
    rw [toPd, Option.map_eq_some_iff] at h
    obtain ⟨ps, h1, rfl⟩ := h
    have := toPds_depth n xs ps h1
    rw [PyData.depth]; omega
  | n + 1, .scr xs, p, h => by
    rw [toPd, Option.map_eq_some_iff] at h
    obtain ⟨ps, h1, rfl⟩ := h
    have := toPds_depth n xs ps h1
    rw [PyData.depth]; omega
  | n + 1, .dct ks xs, p, h => by
    rw [toPd, Option.map_eq_some_iff] at h
    obtain ⟨ps, h1, rfl⟩ := h
    have := depthKv_zip ks ps (toPds_depth n xs ps h1)
    rw [PyData.depth]; omega
  | n + 1, .loc k, p, h => by
    rw [toPd] at h
    split at h
    · rw [Option.map_eq_some_iff] at h
      obtain ⟨ps, h1, rfl⟩ := h
      have := toPds_depth n _ ps h1
      rw [PyData.depth]; omega
    · rw [Option.map_eq_some_iff] at h
      obtain ⟨ps, h1, rfl⟩ := h
      rename_i ks xs _
      have := depthKv_zip ks ps (toPds_depth n _ ps h1)
      rw [PyData.depth]; omega
    · cases h
  | n, .exn _ _ _, p, h => by cases n <;> simp [toPd] at h
theorem toPds_depth {s : Sto} : ∀ (n : Nat) (ds : List D) (ps : List PyData), toPds s n ds = some ps → PyData.depthAll ps ≤ n
  | n, [], ps, h => by rw [toPds] at h; cases h; exact Nat.zero_le _
  | n, d :: ds, ps, h => by
    rw [toPds] at h
    split at h
    · rename_i p qs e1 e2
      cases h
      have h1 := toPd_depth n d p e1
      have h2 := toPds_depth n ds qs e2
      rw [PyData.depthAll]; omega
    · cases h
end
mutual
theorem toPd_mono {s : Sto} : ∀ (n m : Nat) (d : D) (p : PyData), n ≤ m → toPd s n d = some p → toPd s m d = some p
  | n, m, .non, p, _, h => by rw [toPd] at h ⊢; exact h
  | n, m, .bl _, p, _, h => by rw [toPd] at h ⊢; exact h
  | n, m, .int _, p, _, h => by rw [toPd] at h ⊢; exact h
  | n, m, .str _, p, _, h => by rw [toPd] at h ⊢; exact h
  | 0, _, .lst _, p, _, h => by simp [toPd] at h
  | 0, _, .tup _, p, _, h => by simp [toPd] at h
  | 0, _, .scr _, p, _, h => by simp [toPd] at h
  | 0, _, .dct _ _, p, _, h => by simp [toPd] at h
  | 0, _, .loc _, p, _, h => by simp [toPd] at h
  | n + 1, 0, d, p, hn, _ => absurd hn (by omega)
  | n + 1, m + 1, .lst xs, p, hn, h => by
    rw [toPd, Option.map_eq_some_iff] at h ⊢
    obtain ⟨ps, h1, rfl⟩ := h
    exact ⟨ps, toPds_mono n m xs ps (by omega) h1, rfl⟩
  | n + 1, m + 1, .tup xs, p, hn, h => by
    rw [toPd, Option.map_eq_some_iff] at h ⊢
    obtain ⟨ps, h1, rfl⟩ := h
    exact ⟨ps, toPds_mono n m xs ps (by omega) h1, rfl⟩
  | n + 1, m + 1, .scr xs, p, hn, h => by
    rw [toPd, Option.map_eq_some_iff] at h ⊢
    obtain ⟨ps, h1, rfl⟩ := h
    exact ⟨ps, toPds_mono n m xs ps (by omega) h1, rfl⟩
  | n + 1, m + 1, .dct ks xs, p, hn, h => by
    rw [toPd, Option.map_eq_some_iff] at h ⊢
    obtain ⟨ps, h1, rfl⟩ := h
    exact ⟨ps, toPds_mono n m xs ps (by omega) h1, rfl⟩
  | n + 1, m + 1, .loc k, p, hn, h => by
    rw [toPd] at h ⊢
    split at h
    · rename_i xs e
      rw [Option.map_eq_some_iff] at h
      obtain ⟨ps, h1, rfl⟩ := h
      show (toPds s m xs).map _ = _
      rw [toPds_mono n m xs ps (by omega) h1]; rfl
    · rename_i ks xs e
      rw [Option.map_eq_some_iff] at h
      obtain ⟨ps, h1, rfl⟩ := h
      show (toPds s m xs).map _ = _
      rw [toPds_mono n m xs ps (by omega) h1]; rfl
    · cases h
  | n, _, .exn _ _ _, p, _, h => by cases n <;> simp [toPd] at h
theorem toPds_mono {s : Sto} : ∀ (n m : Nat) (ds : List D) (ps : List PyData), n ≤ m → toPds s n ds = some ps → toPds s m ds = some ps
  | n, m, [], ps, _, h => by rw [toPds] at h ⊢; exact h
  | n, m, d :: ds, ps, hn, h => by
    rw [toPds] at h ⊢
    split at h
    · rename_i p qs e1 e2
      rw [toPd_mono n m d p hn e1, toPds_mono n m ds qs hn e2]
      exact h
    · cases h
end
theorem repr_rd {s : Sto} {n : Nat} {d : D} {t : PyData} (hn : n ≤ 60) (h : toPd s n d = some t) (ho : okP t = true) (hz : sz t ≤ 1398101) : fReprX [d] s = some (.str t.shown) := by
  have h60 := toPd_mono n 60 d t hn h
  have hd := toPd_depth 60 d t h60
  have hs := shown_le t ho
  have hl : t.shown.length ≤ sizeLine := by
    show _ ≤ 2 ^ 24
    omega
  unfold fReprX
  simp only [h60]
  rw [if_pos]
  rw [showable_of t ho, decide_eq_true hl, decide_eq_true hd]; rfl

/-! ### what does not change while a pool is drawn from -/
structure Sep (p : List Nat) (s s' : Sto) : Prop where
  len : s.length ≤ s'.length
  oth : ∀ q, q < s.length → q ∉ p → s'[q]? = s[q]?
theorem Sep.refl {p : List Nat} {s : Sto} : Sep p s s := ⟨Nat.le_refl _, fun _ _ _ => rfl⟩
theorem Sep.trans {p : List Nat} {s s1 s2 : Sto} (a : Sep p s s1) (b : Sep p s1 s2) : Sep p s s2 :=
  ⟨Nat.le_trans a.len b.len, fun q h1 h2 => (b.oth q (Nat.lt_of_lt_of_le h1 a.len) h2).trans (a.oth q h1 h2)⟩
theorem Lk.sep {p : Nat} {P : List Nat} {s s' : Sto} (h : Lk p s s') (hp : p ∈ P := by simp) : Sep P s s' := ⟨h.len, fun q h1 h2 => h.oth q h1 fun e => h2 (e ▸ hp)⟩
theorem Sep.nil {P : List Nat} {s : Sto} : Sep P [] s := ⟨Nat.zero_le _, fun q h => absurd h (Nat.not_lt_zero q)⟩
theorem Sep.less {P P' : List Nat} {s s' : Sto} (h : Sep P s s') (hs : ∀ q, q < s.length → q ∈ P → q ∈ P') : Sep P' s s' := ⟨h.len, fun q h1 h2 => h.oth q h1 fun z => h2 (hs q h1 z)⟩
theorem Sep.app {p : List Nat} {s e : Sto} : Sep p s (s ++ e) := ⟨by simp, fun q h _ => List.getElem?_append_left h⟩
theorem Sep.set {p : List Nat} {q : Nat} {s s' : Sto} {o : Ob} (h : Sep p s s') (hq : s.length ≤ q) : Sep p s (s'.set q o) :=
  ⟨by simpa using h.len, fun r h1 h2 => by rw [List.getElem?_set_ne (by omega)]; exact h.oth r h1 h2⟩
/-- a thing apart from the pool: at most n deep, its size at most w -/
def Tr (p : List Nat) (s : Sto) (n w : Nat) (d : D) : Prop := ∃ t, (∀ s', Sep p s s' → toPd s' n d = some t) ∧ okP t = true ∧ sz t ≤ w
inductive Trs (p : List Nat) (s : Sto) (n : Nat) : Nat → List D → Prop
  | nil {w : Nat} : Trs p s n w []
  | cons {a b w : Nat} {x : D} {xs : List D} : Tr p s n a x → Trs p s n b xs → a + b ≤ w → Trs p s n w (x :: xs)
section
variable {p : List Nat} {s s' : Sto} {n m w v a b : Nat} {d x : D} {xs ys : List D}
theorem Tr.mono (h : Tr p s n w d) (e : Sep p s s') (hn : n ≤ m) (hw : w ≤ v) : Tr p s' m v d := by
  obtain ⟨t, h1, h2, h3⟩ := h
  exact ⟨t, fun s2 e2 => toPd_mono n m d t hn (h1 s2 (e.trans e2)), h2, Nat.le_trans h3 hw⟩
/-- less is kept out -/
theorem Tr.less {p' : List Nat} (h : Tr p s n w d) (hs : ∀ q, q < s.length → q ∈ p' → q ∈ p) : Tr p' s n w d := by
  obtain ⟨t, h1, h2, h3⟩ := h
  exact ⟨t, fun s2 e2 => h1 s2 (e2.less hs), h2, h3⟩
theorem Tr.sep (h : Tr p s n w d) (e : Sep p s s') : Tr p s' n w d := h.mono e (Nat.le_refl _) (Nat.le_refl _)
theorem Tr.up (h : Tr p s n w d) (hn : n ≤ m) (hw : w ≤ v) : Tr p s m v d := h.mono .refl hn hw
theorem Trs.mono (h : Trs p s n w xs) (e : Sep p s s') (hn : n ≤ m) (hw : w ≤ v) : Trs p s' m v xs := by
  induction h generalizing v with
  | nil => exact .nil
  | cons h1 _ h3 ih => exact .cons (h1.mono e hn (Nat.le_refl _)) (ih (Nat.le_refl _)) (Nat.le_trans h3 hw)
theorem Trs.less {p' : List Nat} (h : Trs p s n w xs) (hs : ∀ q, q < s.length → q ∈ p' → q ∈ p) : Trs p' s n w xs := by
  induction h with
  | nil => exact .nil
  | cons h1 _ h3 ih => exact .cons (h1.less hs) ih h3
theorem Trs.toPds (h : Trs p s n w xs) : ∃ ts, (∀ s', Sep p s s' → toPds s' n xs = some ts) ∧ okPs ts = true ∧ szs ts ≤ w := by
  induction h with
  | nil => exact ⟨[], fun s' _ => by rw [DL.toPds], rfl, Nat.zero_le _⟩
  | cons h1 _ h3 ih =>
    obtain ⟨t, q1, q2, q3⟩ := h1
    obtain ⟨ts, r1, r2, r3⟩ := ih
    refine ⟨t :: ts, fun s' e => ?_, ?_, ?_⟩
    · rw [DL.toPds, q1 s' e, r1 s' e]
    · rw [okPs, q2, r2]; rfl
    · rw [szs]; omega
theorem Tr.tup (h : Trs p s n w xs) : Tr p s (n + 1) (w + 1) (.tup xs) := by
  obtain ⟨ts, r1, r2, r3⟩ := h.toPds
  exact ⟨.tuple ts, fun s' e => by rw [toPd, r1 s' e]; rfl, r2, by rw [sz]; omega⟩
theorem Tr.lst (h : Trs p s n w xs) : Tr p s (n + 1) (w + 1) (.lst xs) := by
  obtain ⟨ts, r1, r2, r3⟩ := h.toPds
  exact ⟨.list ts, fun s' e => by rw [toPd, r1 s' e]; rfl, r2, by rw [sz]; omega⟩
theorem Tr.loc {k : Nat} (hk : s[k]? = some (.lst xs)) (hp : k ∉ p) (h : Trs p s n w xs) : Tr p s (n + 1) (w + 1) (.loc k) := by
  obtain ⟨ts, r1, r2, r3⟩ := h.toPds
  have hl := (List.getElem?_eq_some_iff.mp hk).1
  exact ⟨.list ts, fun s' e => by rw [toPd, e.oth k hl hp, hk]; show (DL.toPds s' n xs).map _ = _; rw [r1 s' e]; rfl, r2, by rw [sz]; omega⟩
theorem Tr.str {y : Str} (hc : ∀ c ∈ y.cps.toList, c < 16 ^ 8) (hw : 1 + y.length ≤ w) : Tr p s n w (.str y) :=
  ⟨.str y, fun s' _ => by rw [toPd], by rw [okP, List.all_eq_true]; exact fun c h => by simpa using hc c h, by rw [sz]; exact hw⟩
theorem Tr.non : Tr p s n 1 .non := ⟨.none, fun s' _ => by rw [toPd], rfl, Nat.le_refl _⟩
theorem Tr.bl {k : Bool} : Tr p s n 1 (.bl k) := ⟨.bool k, fun s' _ => by rw [toPd], rfl, Nat.le_refl _⟩
theorem Trs.append (h : Trs p s n a xs) (h2 : Trs p s n b ys) : Trs p s n (a + b) (xs ++ ys) := by
  induction h with
  | nil => exact h2.mono .refl (Nat.le_refl _) (by omega)
  | cons h1 _ h3 ih => exact .cons h1 ih (by omega)
theorem Trs.one (h : Tr p s n a x) : Trs p s n a [x] := .cons h (.nil (w := 0)) (by omega)
theorem Trs.mem (h : Trs p s n w xs) (hx : x ∈ xs) : Tr p s n w x := by
  induction h with
  | nil => cases hx
  | cons h1 _ h3 ih =>
    rcases List.mem_cons.mp hx with rfl | hx
    · exact h1.up (Nat.le_refl _) (by omega)
    · exact (ih hx).up (Nat.le_refl _) (by omega)
theorem Trs.take (h : Trs p s n w xs) (i : Nat) : Trs p s n w (xs.take i) := by
  induction h generalizing i with
  | nil => rw [List.take_nil]; exact .nil
  | cons h1 _ h3 ih =>
    cases i with
    | zero => exact .nil
    | succ i => exact .cons h1 (ih i) h3
/-- an item taken out, put in -/
theorem Trs.cut (h : Trs p s n w xs) (i : Nat) : ∃ a b, a + b ≤ w ∧ Trs p s n a (xs.take i) ∧ Trs p s n b (xs.drop i) := by
  induction h generalizing i with
  | nil => exact ⟨0, 0, by omega, by rw [List.take_nil]; exact .nil, by rw [List.drop_nil]; exact .nil⟩
  | @cons a b w x xs h1 h2 h3 ih =>
    cases i with
    | zero => exact ⟨0, a + b, by omega, .nil, .cons h1 h2 (Nat.le_refl _)⟩
    | succ i =>
      obtain ⟨a', b', e, q1, q2⟩ := ih i
      exact ⟨a + a', b', by omega, .cons h1 q1 (Nat.le_refl _), q2⟩
theorem Trs.ins (h : Trs p s n w xs) (i : Nat) (hx : Tr p s n a x) : Trs p s n (w + a) (xs.take i ++ [x] ++ xs.drop i) := by
  obtain ⟨b, c, e, q1, q2⟩ := h.cut i
  exact ((q1.append (.one hx)).append q2).mono .refl (Nat.le_refl _) (by omega)
theorem Trs.split {i : Nat} (h : Trs p s n w xs) (hx : xs[i]? = some x) : ∃ a b, a + b ≤ w ∧ Tr p s n a x ∧ (∀ s' m, Sep p s s' → n ≤ m → ∀ y c, Tr p s' m c y → Trs p s' m (b + c) (xs.set i y)) ∧ Trs p s n b (xs.eraseIdx i) := by
  induction h generalizing i with
  | nil => simp at hx
  | @cons a b w z xs h1 h2 h3 ih =>
    cases i with
    | zero =>
      simp at hx; subst hx
      exact ⟨a, b, h3, h1, fun s' m e hm y c hy => by rw [List.set_cons_zero]; exact .cons hy (h2.mono e hm (Nat.le_refl _)) (by omega), by simpa using h2⟩
    | succ i =>
      obtain ⟨a', b', e', q1, q2, q3⟩ := ih (by simpa using hx)
      exact ⟨a', a + b', by omega, q1, fun s' m e hm y c hy => by rw [List.set_cons_succ]; exact .cons (h1.mono e hm (Nat.le_refl _)) (q2 s' m e hm y c hy) (by omega), .cons h1 q3 (Nat.le_refl _)⟩
end
/-- what is read back now: at most n deep, its size at most w -/
def Rd (s : Sto) (n w : Nat) (d : D) : Prop := ∃ t, toPd s n d = some t ∧ okP t = true ∧ sz t ≤ w
theorem Tr.rd {p : List Nat} {s : Sto} {n w : Nat} {d : D} (h : Tr p s n w d) : Rd s n w d := by
  obtain ⟨t, h1, h2, h3⟩ := h
  exact ⟨t, h1 s .refl, h2, h3⟩
theorem toPds_mem {s : Sto} {n : Nat} {x : D} : ∀ {xs : List D} {ts : List PyData}, toPds s n xs = some ts → x ∈ xs → ∃ t ∈ ts, toPd s n x = some t
  | [], _, _, h => nomatch h
  | y :: xs, ts, h, hx => by
    rw [toPds] at h
    split at h
    · rename_i p qs e1 e2
      cases h
      rcases List.mem_cons.mp hx with rfl | hx
      · exact ⟨p, List.mem_cons_self, e1⟩
      · obtain ⟨t, h1, h2⟩ := toPds_mem e2 hx
        exact ⟨t, List.mem_cons_of_mem _ h1, h2⟩
    · cases h
theorem szs_mem : ∀ {ts : List PyData} {t : PyData}, t ∈ ts → sz t ≤ szs ts ∧ (okPs ts = true → okP t = true)
  | [], _, h => nomatch h
  | u :: ts, t, h => by
    rcases List.mem_cons.mp h with rfl | h
    · exact ⟨by rw [szs]; omega, fun z => by rw [okPs, Bool.and_eq_true] at z; exact z.1⟩
    · obtain ⟨h1, h2⟩ := szs_mem h
      exact ⟨by rw [szs]; omega, fun z => by rw [okPs, Bool.and_eq_true] at z; exact h2 z.2⟩
section
variable {s : Sto} {n w : Nat} {d x : D} {xs : List D}
theorem Rd.tup (h : Rd s n w (.tup xs)) : ∃ m, n = m + 1 ∧ xs.length < w ∧ ∀ x ∈ xs, Rd s m w x := by
  obtain ⟨t, h1, h2, h3⟩ := h
  cases n with
  | zero => simp [toPd] at h1
  | succ m =>
    rw [toPd, Option.map_eq_some_iff] at h1
    obtain ⟨ps, h1, rfl⟩ := h1
    rw [okP] at h2
    rw [sz] at h3
    refine ⟨m, rfl, ?_, fun x hx => ?_⟩
    · have := szs_len ps
      have := toPds_length h1
      omega
    · obtain ⟨t, q1, q2⟩ := toPds_mem h1 hx
      obtain ⟨z1, z2⟩ := szs_mem q1
      exact ⟨t, q2, z2 h2, by omega⟩
theorem Rd.str {y : Str} (h : Rd s n w (.str y)) : y.length < w := by
  obtain ⟨t, h1, h2, h3⟩ := h
  rw [toPd] at h1
  cases h1
  rw [sz] at h3
  omega
/-- its kind is known -/
theorem Rd.ty (h : Rd s n w d) : ∃ t, tyD d s = some t := by
  obtain ⟨t, h1, _, _⟩ := h
  cases d with
  | loc k =>
    cases n with
    | zero => simp [toPd] at h1
    | succ m =>
      rw [toPd] at h1
      unfold tyD
      split at h1
      · rename_i e; simp only [e]; exact ⟨_, rfl⟩
      · rename_i e; simp only [e]; exact ⟨_, rfl⟩
      · cases h1
  | exn _ _ _ => cases n <;> simp [toPd] at h1
  | _ => exact ⟨_, rfl⟩
end
end DL
set_option Elab.async false
set_option linter.all false
set_option maxRecDepth 100000
set_option maxHeartbeats 4000000
/-! DNc: operators on data of known kinds; comprehensions, sets; printed by DNc.py. -/
namespace DL
open PySem L2
section
variable {s : Sto} {i j : Int} {x y : Str} {xs ys : List D} {n : Nat} {d : D}
theorem ty_non : tyD .non s = some .non := id rfl
theorem ty_bl {b : Bool} : tyD (.bl b) s = some .bl := id rfl
theorem ty_int : tyD (.int i) s = some .int := id rfl
theorem ty_str : tyD (.str x) s = some .str := id rfl
theorem ty_lst : tyD (.lst xs) s = some .lst := id rfl
theorem ty_tup : tyD (.tup xs) s = some .tup := id rfl
theorem ty_dct {ks : List Key} : tyD (.dct ks xs) s = some .dct := id rfl
theorem ty_scr : tyD (.scr xs) s = some .lst := id rfl
theorem is_non_non : isTy .non .non = true := id rfl
theorem is_non_bl : isTy .non .bl = false := id rfl
theorem is_non_int : isTy .non .int = false := id rfl
theorem is_non_str : isTy .non .str = false := id rfl
theorem is_non_lst : isTy .non .lst = false := id rfl
theorem is_non_tup : isTy .non .tup = false := id rfl
theorem is_non_dct : isTy .non .dct = false := id rfl
theorem is_bl_non : isTy .bl .non = false := id rfl
theorem is_bl_bl : isTy .bl .bl = true := id rfl
theorem is_bl_int : isTy .bl .int = true := id rfl
theorem is_bl_str : isTy .bl .str = false := id rfl
theorem is_bl_lst : isTy .bl .lst = false := id rfl
theorem is_bl_tup : isTy .bl .tup = false := id rfl
theorem is_bl_dct : isTy .bl .dct = false := id rfl
theorem is_int_non : isTy .int .non = false := id rfl
theorem is_int_bl : isTy .int .bl = false := id rfl
theorem is_int_int : isTy .int .int = true := id rfl
theorem is_int_str : isTy .int .str = false := id rfl
theorem is_int_lst : isTy .int .lst = false := id rfl
theorem is_int_tup : isTy .int .tup = false := id rfl
theorem is_int_dct : isTy .int .dct = false := id rfl
theorem is_str_non : isTy .str .non = false := id rfl
theorem is_str_bl : isTy .str .bl = false := id rfl
theorem is_str_int : isTy .str .int = false := id rfl
theorem is_str_str : isTy .str .str = true := id rfl
theorem is_str_lst : isTy .str .lst = false := id rfl
theorem is_str_tup : isTy .str .tup = false := id rfl
theorem is_str_dct : isTy .str .dct = false := id rfl
theorem is_lst_non : isTy .lst .non = false := id rfl
theorem is_lst_bl : isTy .lst .bl = false := id rfl
theorem is_lst_int : isTy .lst .int = false := id rfl
theorem is_lst_str : isTy .lst .str = false := id rfl
theorem is_lst_lst : isTy .lst .lst = true := id rfl
theorem is_lst_tup : isTy .lst .tup = false := id rfl
theorem is_lst_dct : isTy .lst .dct = false := id rfl
theorem is_tup_non : isTy .tup .non = false := id rfl
theorem is_tup_bl : isTy .tup .bl = false := id rfl
theorem is_tup_int : isTy .tup .int = false := id rfl
theorem is_tup_str : isTy .tup .str = false := id rfl
theorem is_tup_lst : isTy .tup .lst = false := id rfl
theorem is_tup_tup : isTy .tup .tup = true := id rfl
theorem is_tup_dct : isTy .tup .dct = false := id rfl
theorem is_dct_non : isTy .dct .non = false := id rfl
theorem is_dct_bl : isTy .dct .bl = false := id rfl
theorem is_dct_int : isTy .dct .int = false := id rfl
theorem is_dct_str : isTy .dct .str = false := id rfl
theorem is_dct_lst : isTy .dct .lst = false := id rfl
theorem is_dct_tup : isTy .dct .tup = false := id rfl
theorem is_dct_dct : isTy .dct .dct = true := id rfl
theorem len_t0 : fLen [.tup []] s = some (.int 0) := id rfl
theorem len_l0 : fLen [.lst []] s = some (.int 0) := id rfl
theorem len_t1 {a0 : D} : fLen [.tup [a0]] s = some (.int 1) := id rfl
theorem len_l1 {a0 : D} : fLen [.lst [a0]] s = some (.int 1) := id rfl
theorem len_t2 {a0 a1 : D} : fLen [.tup [a0, a1]] s = some (.int 2) := id rfl
theorem len_l2 {a0 a1 : D} : fLen [.lst [a0, a1]] s = some (.int 2) := id rfl
theorem len_t3 {a0 a1 a2 : D} : fLen [.tup [a0, a1, a2]] s = some (.int 3) := id rfl
theorem len_l3 {a0 a1 a2 : D} : fLen [.lst [a0, a1, a2]] s = some (.int 3) := id rfl
theorem at_3_2 {a0 a1 a2 : D} : atI [a0, a1, a2] 2 = some a2 := id rfl
theorem len_t4 {a0 a1 a2 a3 : D} : fLen [.tup [a0, a1, a2, a3]] s = some (.int 4) := id rfl
theorem len_l4 {a0 a1 a2 a3 : D} : fLen [.lst [a0, a1, a2, a3]] s = some (.int 4) := id rfl
theorem at_4_2 {a0 a1 a2 a3 : D} : atI [a0, a1, a2, a3] 2 = some a2 := id rfl
theorem at_4_3 {a0 a1 a2 a3 : D} : atI [a0, a1, a2, a3] 3 = some a3 := id rfl
theorem len_t5 {a0 a1 a2 a3 a4 : D} : fLen [.tup [a0, a1, a2, a3, a4]] s = some (.int 5) := id rfl
theorem len_l5 {a0 a1 a2 a3 a4 : D} : fLen [.lst [a0, a1, a2, a3, a4]] s = some (.int 5) := id rfl
theorem at_5_2 {a0 a1 a2 a3 a4 : D} : atI [a0, a1, a2, a3, a4] 2 = some a2 := id rfl
theorem at_5_3 {a0 a1 a2 a3 a4 : D} : atI [a0, a1, a2, a3, a4] 3 = some a3 := id rfl
theorem at_5_4 {a0 a1 a2 a3 a4 : D} : atI [a0, a1, a2, a3, a4] 4 = some a4 := id rfl
theorem len_t6 {a0 a1 a2 a3 a4 a5 : D} : fLen [.tup [a0, a1, a2, a3, a4, a5]] s = some (.int 6) := id rfl
theorem len_l6 {a0 a1 a2 a3 a4 a5 : D} : fLen [.lst [a0, a1, a2, a3, a4, a5]] s = some (.int 6) := id rfl
theorem at_6_2 {a0 a1 a2 a3 a4 a5 : D} : atI [a0, a1, a2, a3, a4, a5] 2 = some a2 := id rfl
theorem at_6_3 {a0 a1 a2 a3 a4 a5 : D} : atI [a0, a1, a2, a3, a4, a5] 3 = some a3 := id rfl
theorem at_6_4 {a0 a1 a2 a3 a4 a5 : D} : atI [a0, a1, a2, a3, a4, a5] 4 = some a4 := id rfl
theorem at_6_5 {a0 a1 a2 a3 a4 a5 : D} : atI [a0, a1, a2, a3, a4, a5] 5 = some a5 := id rfl
theorem len_t7 {a0 a1 a2 a3 a4 a5 a6 : D} : fLen [.tup [a0, a1, a2, a3, a4, a5, a6]] s = some (.int 7) := id rfl
theorem len_l7 {a0 a1 a2 a3 a4 a5 a6 : D} : fLen [.lst [a0, a1, a2, a3, a4, a5, a6]] s = some (.int 7) := id rfl
theorem at_7_2 {a0 a1 a2 a3 a4 a5 a6 : D} : atI [a0, a1, a2, a3, a4, a5, a6] 2 = some a2 := id rfl
theorem at_7_3 {a0 a1 a2 a3 a4 a5 a6 : D} : atI [a0, a1, a2, a3, a4, a5, a6] 3 = some a3 := id rfl
theorem at_7_4 {a0 a1 a2 a3 a4 a5 a6 : D} : atI [a0, a1, a2, a3, a4, a5, a6] 4 = some a4 := id rfl
theorem at_7_5 {a0 a1 a2 a3 a4 a5 a6 : D} : atI [a0, a1, a2, a3, a4, a5, a6] 5 = some a5 := id rfl
theorem at_7_6 {a0 a1 a2 a3 a4 a5 a6 : D} : atI [a0, a1, a2, a3, a4, a5, a6] 6 = some a6 := id rfl
theorem len_t8 {a0 a1 a2 a3 a4 a5 a6 a7 : D} : fLen [.tup [a0, a1, a2, a3, a4, a5, a6, a7]] s = some (.int 8) := id rfl
theorem len_l8 {a0 a1 a2 a3 a4 a5 a6 a7 : D} : fLen [.lst [a0, a1, a2, a3, a4, a5, a6, a7]] s = some (.int 8) := id rfl
theorem at_8_2 {a0 a1 a2 a3 a4 a5 a6 a7 : D} : atI [a0, a1, a2, a3, a4, a5, a6, a7] 2 = some a2 := id rfl
theorem at_8_3 {a0 a1 a2 a3 a4 a5 a6 a7 : D} : atI [a0, a1, a2, a3, a4, a5, a6, a7] 3 = some a3 := id rfl
theorem at_8_4 {a0 a1 a2 a3 a4 a5 a6 a7 : D} : atI [a0, a1, a2, a3, a4, a5, a6, a7] 4 = some a4 := id rfl
theorem at_8_5 {a0 a1 a2 a3 a4 a5 a6 a7 : D} : atI [a0, a1, a2, a3, a4, a5, a6, a7] 5 = some a5 := id rfl
theorem at_8_6 {a0 a1 a2 a3 a4 a5 a6 a7 : D} : atI [a0, a1, a2, a3, a4, a5, a6, a7] 6 = some a6 := id rfl
theorem at_8_7 {a0 a1 a2 a3 a4 a5 a6 a7 : D} : atI [a0, a1, a2, a3, a4, a5, a6, a7] 7 = some a7 := id rfl
theorem len_tup : fLen [.tup xs] s = some (.int xs.length) := id rfl
theorem len_lst : fLen [.lst xs] s = some (.int xs.length) := id rfl
theorem len_scr : fLen [.scr xs] s = some (.int xs.length) := id rfl
theorem len_loc {k : Nat} (h : s[k]? = some (.lst xs)) : fLen [.loc k] s = some (.int xs.length) := fLen_seq (seqOf_loc h)
theorem ty_loc {k : Nat} (h : s[k]? = some (.lst xs)) : tyD (.loc k) s = some .lst := by unfold tyD; simp only [h]
theorem ix_loc {k : Nat} (h : s[k]? = some (.lst xs)) : fIx (.loc k) (.int j) s = atI xs j := fIx_seq (seqOf_loc h)
theorem isLst_loc {k : Nat} (h : s[k]? = some (.lst xs)) : isLst (.loc k) s = true := by unfold isLst listOf; simp only [h]; rfl
theorem isLst_lst : isLst (.lst xs) s = true := id rfl
theorem tru_tup : truD (.tup xs) s = some (!xs.isEmpty) := id rfl
theorem tru_lst : truD (.lst xs) s = some (!xs.isEmpty) := id rfl
theorem tru_int : truD (.int i) s = some (i != 0) := id rfl
theorem tru_non : truD .non s = some false := id rfl
theorem it_lst : itemsD (.lst xs) s = some ⟨xs, none⟩ := id rfl
theorem it_tup : itemsD (.tup xs) s = some ⟨xs, none⟩ := id rfl
theorem it_scr : itemsD (.scr xs) s = some ⟨xs, none⟩ := id rfl
theorem it_str : itemsD (.str x) s = some ⟨signsD x, none⟩ := id rfl
theorem isn_non : fIs .non .non s = some (.bl true) := id rfl
theorem isn_ty (h : isN d = false) : fIs d .non s = some (.bl false) := by show some (D.bl (isN d)) = _; rw [h]
theorem isnt_non : fIsNot .non .non s = some (.bl false) := id rfl
theorem isnt_ty (h : isN d = false) : fIsNot d .non s = some (.bl true) := by show some (D.bl (!isN d)) = _; rw [h]; rfl
theorem isn_tup : fIs (.tup xs) .non s = some (.bl false) := id rfl
theorem isnt_tup : fIsNot (.tup xs) .non s = some (.bl true) := id rfl
theorem isn_lst : fIs (.lst xs) .non s = some (.bl false) := id rfl
theorem isnt_lst : fIsNot (.lst xs) .non s = some (.bl true) := id rfl
theorem isn_int : fIs (.int i) .non s = some (.bl false) := id rfl
theorem isn_str : fIs (.str x) .non s = some (.bl false) := id rfl
theorem isnt_int : fIsNot (.int i) .non s = some (.bl true) := id rfl
theorem isnt_str : fIsNot (.str x) .non s = some (.bl true) := id rfl
theorem isn_loc {k : Nat} : fIs (.loc k) .non s = some (.bl false) := id rfl
theorem isnt_loc {k : Nat} : fIsNot (.loc k) .non s = some (.bl true) := id rfl
theorem isn_exn {c : Str} {ns : List Str} : fIs (.exn c ns xs) .non s = some (.bl false) := id rfl
theorem isnt_exn {c : Str} {ns : List Str} : fIsNot (.exn c ns xs) .non s = some (.bl true) := id rfl
theorem add_str (h : x.length + y.length ≤ sizeLine) : fAdd (.str x) (.str y) s = some (.str (x ++ y)) := if_pos h
theorem add_tup (h : xs.length + ys.length ≤ sizeLine) : fAdd (.tup xs) (.tup ys) s = some (.tup (xs ++ ys)) := if_pos h
theorem add_lst (h : xs.length + ys.length ≤ sizeLine) : fAdd (.lst xs) (.lst ys) s = some (.lst (xs ++ ys)) := by
  show (if xs.length + ys.length ≤ sizeLine then some (D.lst (xs ++ ys)) else none) = _
  rw [if_pos h]
theorem tupX_tup : fTupleX [.tup xs] s = some (.tup xs) := id rfl
theorem tupX_lst : fTupleX [.lst xs] s = some (.tup xs) := id rfl
theorem tupX_loc {k : Nat} (h : s[k]? = some (.lst xs)) : fTupleX [.loc k] s = some (.tup xs) := by
  show (listOf (.loc k) s).map D.tup = _
  unfold listOf
  simp only [h]; rfl
theorem lst_tup {fr : Bool} : gList fr [.tup xs] s = finD fr xs s := id rfl
theorem lst_lst {fr : Bool} : gList fr [.lst xs] s = finD fr xs s := id rfl
theorem lst_str {fr : Bool} (h : x.length ≤ sizeLine) : gList fr [.str x] s = finD fr (signsD x) s := if_pos h
theorem lst_loc {fr : Bool} {k : Nat} (h : s[k]? = some (.lst xs)) : gList fr [.loc k] s = finD fr xs s := by
  unfold gList
  simp only [seqOf_loc h]
theorem bls_of : ∀ bs : List Bool, blsOf (bs.map D.bl) = some bs
  | [] => rfl
  | b :: bs => by show (blsOf (bs.map D.bl)).map _ = _; rw [bls_of bs]; rfl
theorem all_bls (bs : List Bool) : fAll [.lst (bs.map D.bl)] s = some (.bl (bs.all id)) := by
  unfold fAll; simp only [DL.listOf, Option.bind_some, bls_of]; rfl
theorem any_bls (bs : List Bool) : fAny [.lst (bs.map D.bl)] s = some (.bl (bs.any id)) := by
  unfold fAny; simp only [DL.listOf, Option.bind_some, bls_of]; rfl
theorem ints_of : ∀ bs : List Int, intsOf (bs.map D.int) = some bs
  | [] => rfl
  | b :: bs => by show (intsOf (bs.map D.int)).map _ = _; rw [ints_of bs]; rfl
theorem sum_ints (bs : List Int) : fSum [.lst (bs.map D.int)] s = some (.int bs.sum) := by
  unfold fSum; simp only [DL.listOf, Option.bind_some, ints_of]; rfl
theorem maxD_ints (bs : List Int) {z : Int} : cMaxD2 (.lst (bs.map D.int)) (.int z) s = .ok (.int (maxDef z bs)) s :=
  cMaxD2_ap (by simp only [DL.listOf, Option.bind_some, ints_of])
theorem eqX_flat {a b : D} {u v : V} (ha : vw s a = .flat u) (hb : vw s b = .flat v) : ∀ n, eqX s n a b = some (eqV u v)
  | 0 => by unfold eqX; simp only [ha, hb]; rfl
  | n + 1 => by unfold eqX; simp only [ha, hb]; rfl
theorem allSome_map {α : Type} (f : α → Bool) : ∀ l : List α, allSome (l.map fun a => some (f a)) = some (l.map f)
  | [] => rfl
  | a :: l => by show (allSome (l.map fun a => some (f a))).map _ = _; rw [allSome_map f l]; rfl
theorem inX_str (l : List Str) : inX (.str x) (l.map D.str) s = some (decide (x ∈ l)) := by
  unfold inX
  rw [List.map_map]
  have : ((fun y => eqX s 60 y (.str x)) ∘ D.str) = fun y => some (y == x) := by
    funext y
    show eqX s 60 (.str y) (.str x) = _
    rw [eqX_flat (u := .str y) (v := .str x) rfl rfl 60]; rfl
  rw [this, allSome_map (fun y => y == x)]
  show some ((l.map fun y => y == x).any id) = _
  congr 1
  rw [List.any_map, Bool.eq_iff_iff, List.any_eq_true, decide_eq_true_eq]
  constructor
  · rintro ⟨y, h1, h2⟩
    have : y = x := by simpa using h2
    exact this ▸ h1
  · intro h
    exact ⟨x, h, by simp⟩
theorem inX_int (l : List Int) : inX (.int i) (l.map D.int) s = some (decide (i ∈ l)) := by
  unfold inX
  rw [List.map_map]
  have : ((fun y => eqX s 60 y (.int i)) ∘ D.int) = fun y => some (y == i) := by
    funext y
    show eqX s 60 (.int y) (.int i) = _
    rw [eqX_flat (u := .int y) (v := .int i) rfl rfl 60]; rfl
  rw [this, allSome_map (fun y => y == i)]
  show some ((l.map fun y => y == i).any id) = _
  congr 1
  rw [List.any_map, Bool.eq_iff_iff, List.any_eq_true, decide_eq_true_eq]
  constructor
  · rintro ⟨y, h1, h2⟩
    have : y = i := by simpa using h2
    exact this ▸ h1
  · intro h
    exact ⟨i, h, by simp⟩
theorem inX_strs (l : List Str) : fInX (.str x) (.tup (l.map D.str)) s = some (.bl (decide (x ∈ l))) := by
  show (inX (.str x) (l.map D.str) s).map _ = _
  rw [inX_str]; rfl
theorem inX_strsL (l : List Str) : fInX (.str x) (.lst (l.map D.str)) s = some (.bl (decide (x ∈ l))) := by
  show (inX (.str x) (l.map D.str) s).map _ = _
  rw [inX_str]; rfl
theorem notInX_strsL (l : List Str) : fNotInX (.str x) (.lst (l.map D.str)) s = some (.bl (!decide (x ∈ l))) := by
  show (inX (.str x) (l.map D.str) s).map _ = _
  rw [inX_str]; rfl
theorem notInX_ints (l : List Int) : fNotInX (.int i) (.lst (l.map D.int)) s = some (.bl (!decide (i ∈ l))) := by
  show (inX (.int i) (l.map D.int) s).map _ = _
  rw [inX_int]; rfl
theorem inX_2 {a b : Str} : fInX (.str x) (.lst [.str a, .str b]) s = some (.bl (decide (x = a) || decide (x = b))) := by
  rw [show [D.str a, .str b] = [a, b].map D.str from rfl, inX_strsL]
  simp
theorem inX_t2 {a b : Str} : fInX (.str x) (.tup [.str a, .str b]) s = some (.bl (decide (x = a) || decide (x = b))) := by
  rw [show [D.str a, .str b] = [a, b].map D.str from rfl, inX_strs]
  simp
theorem eqX_nil : fEqX (.lst xs) (.lst []) s = some (.bl xs.isEmpty) := by
  show (eqX s 60 (.lst xs) (.lst [])).map _ = _
  unfold eqX
  show (eqW _ (.lst xs) (.lst [])).map _ = _
  unfold eqW
  cases xs with
  | nil => rfl
  | cons x xs =>
    simp only [List.length_cons, List.length_nil]
    rw [if_neg (by omega)]; rfl
theorem eqX_nilL {k : Nat} (h : s[k]? = some (.lst xs)) : fEqX (.loc k) (.lst []) s = some (.bl xs.isEmpty) := by
  have hv : vw s (.loc k) = .lst xs := by unfold vw; simp only [h]
  unfold fEqX
  rw [hv]
  show (eqX s 60 (.loc k) (.lst [])).map _ = _
  unfold eqX
  rw [hv]
  show (eqW _ (.lst xs) (.lst [])).map _ = _
  unfold eqW
  cases xs with
  | nil => rfl
  | cons x xs =>
    simp only [List.length_cons, List.length_nil]
    rw [if_neg (by omega)]; rfl
theorem sgn_in {c : Nat} : fIn (.str ⟨#[c]⟩) (.str x) s = some (.bl (decide (c ∈ x.cps.toList))) := id rfl
theorem signs_strs : signsD x = (x.cps.toList.map fun c => (⟨#[c]⟩ : Str)).map D.str := by
  unfold signsD; rw [List.map_map]; rfl
theorem sgn_mem {c : Nat} : ((⟨#[c]⟩ : Str) ∈ x.cps.toList.map fun c => (⟨#[c]⟩ : Str)) ↔ c ∈ x.cps.toList := by
  rw [List.mem_map]
  constructor
  · rintro ⟨k, h, e⟩
    have : k = c := by simpa using e
    exact this ▸ h
  · intro h
    exact ⟨c, h, rfl⟩
theorem sgn_notIn {c : Nat} : fNotInX (.str ⟨#[c]⟩) (.lst (signsD x)) s = some (.bl (!decide (c ∈ x.cps.toList))) := by
  rw [signs_strs, notInX_strsL]
  congr 3
  exact decide_eq_decide.mpr sgn_mem
end
theorem ty_loc_or {s : Sto} {k : Nat} {t : Ty} (h : tyD (.loc k) s = some t) : t = .lst ∨ t = .dct := by
  have e0 : tyD (.loc k) s = match s[k]? with | some (.lst _) => some .lst | some (.dct _ _) => some .dct | none => none := rfl
  rw [e0] at h
  cases e : s[k]? with
  | none => rw [e] at h; cases h
  | some o =>
    rw [e] at h
    cases o <;> cases h
    · exact .inl rfl
    · exact .inr rfl
theorem ty_str_or {s : Sto} {d : D} {t : Ty} (h : tyD d s = some t) : (∃ x, d = .str x) ∨ isTy t .str = false := by
  cases d with
  | str x => exact .inl ⟨x, rfl⟩
  | loc k => rcases ty_loc_or h with rfl | rfl <;> exact .inr rfl
  | exn _ _ _ => cases h
  | _ => cases h; exact .inr rfl
theorem ty_tup_or {s : Sto} {d : D} {t : Ty} (h : tyD d s = some t) : (∃ xs, d = .tup xs) ∨ isTy t .tup = false := by
  cases d with
  | tup x => exact .inl ⟨x, rfl⟩
  | loc k => rcases ty_loc_or h with rfl | rfl <;> exact .inr rfl
  | exn _ _ _ => cases h
  | _ => cases h; exact .inr rfl
/-! ### comprehensions by what they compute -/
section
variable {T : Tg} {mt : Lo → M Bool} {me : Lo → M D} {lo : Lo} {s : Sto}
theorem compR_map (f : D → D) : ∀ (ds acc : List D), acc.length + ds.length ≤ sizeLine → (∀ d ∈ ds, ∃ l, setT T d lo = some l ∧ mt l s = .ok true s ∧ me l s = .ok (f d) s) → compR T mt me none lo ds acc s = .ok (acc ++ ds.map f) s := by
  intro ds acc hz h
  rw [compR_pure (fun d => some (f d)) s rfl ds acc hz (fun d hd => let ⟨l, h1, h2, h3⟩ := h d hd; ⟨l, h1, .inl ⟨h2, _, h3, rfl⟩⟩)]
  congr 2
  show ds.filterMap (some ∘ f) = _
  rw [List.filterMap_eq_map]
theorem filterMap_guard (q : D → Bool) (g : D → D) : ∀ ds : List D, ds.filterMap (fun d => if q d = true then some (g d) else none) = (ds.filter q).map g
  | [] => rfl
  | d :: ds => by
    cases h : q d with
    | true => rw [List.filterMap_cons_some (b := g d) (by rw [h]; rfl), List.filter_cons_of_pos h, List.map_cons, filterMap_guard q g ds]
    | false => rw [List.filterMap_cons_none (by rw [h]; rfl), List.filter_cons_of_neg (by rw [h]; exact Bool.false_ne_true), filterMap_guard q g ds]
theorem compR_filter (q : D → Bool) (g : D → D) (ds acc : List D) (hz : acc.length + ds.length ≤ sizeLine) (h : ∀ d ∈ ds, ∃ l, setT T d lo = some l ∧ mt l s = .ok (q d) s ∧ (q d = true → me l s = .ok (g d) s)) : compR T mt me none lo ds acc s = .ok (acc ++ (ds.filter q).map g) s := by
  rw [compR_pure (fun d => if q d = true then some (g d) else none) s rfl ds acc hz, filterMap_guard]
  intro d hd
  obtain ⟨l, h1, h2, h3⟩ := h d hd
  refine ⟨l, h1, ?_⟩
  cases hq : q d with
  | true => exact .inl ⟨hq ▸ h2, _, h3 hq, rfl⟩
  | false => exact .inr ⟨hq ▸ h2, rfl⟩
/-- a set of keys -/
def insAll (seen : List Key) : List Key → List Key
  | [] => seen
  | k :: ks => insAll (insK seen k) ks
theorem insK_len {seen : List Key} {k : Key} : (insK seen k).length ≤ seen.length + 1 := by
  unfold insK
  split <;> simp
theorem setR_map (key : D → Key) : ∀ (ds : List D) (seen : List Key), seen.length + ds.length ≤ 4000 → (∀ d ∈ ds, ∃ l y, setT T d lo = some l ∧ mt l s = .ok true s ∧ me l s = .ok y s ∧ keyD y = some (key d)) → setR T mt me none lo ds seen s = .ok (insAll seen (ds.map key)) s
  | [], seen, _, _ => by unfold setR; rw [if_pos (show cndB none s = true from rfl)]; rfl
  | d :: ds, seen, hz, h => by
    obtain ⟨l, y, h1, h2, h3, h4⟩ := h d List.mem_cons_self
    rw [List.length_cons] at hz
    unfold setR
    rw [if_pos (show cndB none s = true from rfl), h1]
    simp only
    rw [h2]
    show (noX (me l s)).bind _ = _
    rw [h3]
    show (match keyD y with | some k => if seen.length + 1 < scanBound then setR T mt me none lo ds (insK seen k) s else .bad | none => .bad) = _
    rw [h4]
    simp only
    rw [if_pos (show seen.length + 1 < scanBound from Nat.lt_of_lt_of_le (show _ < 4096 by omega) (by decide)), setR_map key ds (insK seen (key d)) (by have := insK_len (seen := seen) (k := key d); omega) fun d hd => h d (List.mem_cons_of_mem _ hd)]
    rfl
theorem inKs_mem {seen : List Key} {k : Key} : inKs k seen = true ↔ k ∈ seen := by
  unfold inKs
  rw [List.any_eq_true]
  constructor
  · rintro ⟨j, h1, h2⟩
    rw [decide_eq_true_eq] at h2
    exact h2 ▸ h1
  · intro h
    exact ⟨k, h, decide_eq_true rfl⟩
theorem insAll_len : ∀ (ks seen : List Key), (insAll seen ks).length ≤ seen.length + ks.length ∧ ((insAll seen ks).length = seen.length + ks.length ↔ ks.Nodup ∧ ∀ k ∈ ks, k ∉ seen)
  | [], seen => by simp [insAll]
  | k :: ks, seen => by
    obtain ⟨h1, h2⟩ := insAll_len ks (insK seen k)
    unfold insAll
    rw [List.length_cons, List.nodup_cons]
    by_cases hk : k ∈ seen
    · have e : insK seen k = seen := by unfold insK; rw [if_pos (inKs_mem.mpr hk)]
      rw [e] at h1 h2 ⊢
      refine ⟨by omega, ⟨fun z => by omega, fun z => absurd hk (z.2 k List.mem_cons_self)⟩⟩
    · have e : insK seen k = k :: seen := by unfold insK; rw [if_neg (fun z => hk (inKs_mem.mp z))]
      rw [e, List.length_cons] at h1 h2
      rw [e]
      refine ⟨by omega, ?_⟩
      rw [show (seen.length + (ks.length + 1)) = seen.length + 1 + ks.length by omega, h2]
      constructor
      · rintro ⟨q1, q2⟩
        refine ⟨⟨fun z => q2 k z List.mem_cons_self, q1⟩, fun j hj => ?_⟩
        rcases List.mem_cons.mp hj with rfl | hj
        · exact hk
        · exact fun z => q2 j hj (List.mem_cons_of_mem _ z)
      · rintro ⟨⟨q1, q2⟩, q3⟩
        refine ⟨q2, fun j hj z => ?_⟩
        rcases List.mem_cons.mp z with rfl | z
        · exact q1 hj
        · exact q3 j (List.mem_cons_of_mem _ hj) z
theorem setLen_eq (ks : List Key) : decide (((insAll [] ks).length : Int) = (ks.length : Int)) = decide ks.Nodup := by
  obtain ⟨h1, h2⟩ := insAll_len ks []
  apply decide_eq_decide.mpr
  rw [List.length_nil, Nat.zero_add] at h2
  constructor
  · intro h
    exact (h2.mp (by omega)).1
  · intro h
    have := h2.mpr ⟨h, fun _ _ => by simp⟩
    omega
end
theorem nodup_take {α : Type} : ∀ xs : List α, xs.Nodup ↔ ∀ (i : Nat) (x : α), xs[i]? = some x → x ∉ xs.take i
  | [] => by simp
  | y :: xs => by
    rw [List.nodup_cons, nodup_take xs]
    constructor
    · rintro ⟨h1, h2⟩ i x hx
      cases i with
      | zero => simp
      | succ i =>
        rw [List.getElem?_cons_succ] at hx
        rw [List.take_succ_cons, List.mem_cons]
        rintro (rfl | h)
        · exact h1 (List.mem_of_getElem? hx)
        · exact h2 i x hx h
    · intro h
      refine ⟨fun hy => ?_, fun i x hx hm => ?_⟩
      · obtain ⟨i, hi⟩ := List.mem_iff_getElem?.mp hy
        exact h (i + 1) y (by rw [List.getElem?_cons_succ]; exact hi) (by simp)
      · exact h (i + 1) x (by rw [List.getElem?_cons_succ]; exact hx) (by rw [List.take_succ_cons]; exact List.mem_cons_of_mem _ hm)

section
theorem ne_number_text : (("number" : Str) = ("text" : Str)) = False := eq_false (by decide +kernel)
theorem ne_number_choice : (("number" : Str) = ("choice" : Str)) = False := eq_false (by decide +kernel)
theorem ne_number_record : (("number" : Str) = ("record" : Str)) = False := eq_false (by decide +kernel)
theorem ne_number_list : (("number" : Str) = ("list" : Str)) = False := eq_false (by decide +kernel)
theorem ne_number_map : (("number" : Str) = ("map" : Str)) = False := eq_false (by decide +kernel)
theorem ne_text_number : (("text" : Str) = ("number" : Str)) = False := eq_false (by decide +kernel)
theorem ne_text_choice : (("text" : Str) = ("choice" : Str)) = False := eq_false (by decide +kernel)
theorem ne_text_record : (("text" : Str) = ("record" : Str)) = False := eq_false (by decide +kernel)
theorem ne_text_list : (("text" : Str) = ("list" : Str)) = False := eq_false (by decide +kernel)
theorem ne_text_map : (("text" : Str) = ("map" : Str)) = False := eq_false (by decide +kernel)
theorem ne_choice_number : (("choice" : Str) = ("number" : Str)) = False := eq_false (by decide +kernel)
theorem ne_choice_text : (("choice" : Str) = ("text" : Str)) = False := eq_false (by decide +kernel)
theorem ne_choice_record : (("choice" : Str) = ("record" : Str)) = False := eq_false (by decide +kernel)
theorem ne_choice_list : (("choice" : Str) = ("list" : Str)) = False := eq_false (by decide +kernel)
theorem ne_choice_map : (("choice" : Str) = ("map" : Str)) = False := eq_false (by decide +kernel)
theorem ne_record_number : (("record" : Str) = ("number" : Str)) = False := eq_false (by decide +kernel)
theorem ne_record_text : (("record" : Str) = ("text" : Str)) = False := eq_false (by decide +kernel)
theorem ne_record_choice : (("record" : Str) = ("choice" : Str)) = False := eq_false (by decide +kernel)
theorem ne_record_list : (("record" : Str) = ("list" : Str)) = False := eq_false (by decide +kernel)
theorem ne_record_map : (("record" : Str) = ("map" : Str)) = False := eq_false (by decide +kernel)
theorem ne_list_number : (("list" : Str) = ("number" : Str)) = False := eq_false (by decide +kernel)
theorem ne_list_text : (("list" : Str) = ("text" : Str)) = False := eq_false (by decide +kernel)
theorem ne_list_choice : (("list" : Str) = ("choice" : Str)) = False := eq_false (by decide +kernel)
theorem ne_list_record : (("list" : Str) = ("record" : Str)) = False := eq_false (by decide +kernel)
theorem ne_list_map : (("list" : Str) = ("map" : Str)) = False := eq_false (by decide +kernel)
theorem ne_map_number : (("map" : Str) = ("number" : Str)) = False := eq_false (by decide +kernel)
theorem ne_map_text : (("map" : Str) = ("text" : Str)) = False := eq_false (by decide +kernel)
theorem ne_map_choice : (("map" : Str) = ("choice" : Str)) = False := eq_false (by decide +kernel)
theorem ne_map_record : (("map" : Str) = ("record" : Str)) = False := eq_false (by decide +kernel)
theorem ne_map_list : (("map" : Str) = ("list" : Str)) = False := eq_false (by decide +kernel)
end
end DL
set_option Elab.async false
set_option linter.all false
set_option maxRecDepth 100000
set_option maxHeartbeats 4000000
/-! DNd: loops by invariants, as equations. -/
namespace DL
open PySem L2
section
variable {T : Tg} {mt : Lo → M Bool} {me : Lo → M D} {lo : Lo} {m1 : Lo → Sto → SR}
theorem compR_ex (I : List D → List D → Sto → Prop) (step : ∀ d ds acc s, I (d :: ds) acc s → acc.length < sizeLine ∧ ∃ l, setT T d lo = some l ∧ ∃ s1, mt l s = .ok true s1 ∧ ∃ y s2, me l s1 = .ok y s2 ∧ I ds (acc ++ [y]) s2) :
    ∀ (ds acc : List D) (s : Sto), I ds acc s → ∃ ys s', compR T mt me none lo ds acc s = .ok ys s' ∧ I [] ys s'
  | [], acc, s, h => ⟨acc, s, rfl, h⟩
  | d :: ds, acc, s, h => by
    obtain ⟨hz, l, h1, s1, h2, y, s2, h3, h4⟩ := step d ds acc s h
    obtain ⟨ys, s', e, q⟩ := compR_ex I step ds (acc ++ [y]) s2 h4
    refine ⟨ys, s', ?_, q⟩
    rw [cmp_cons, h1, optR_some, bd_ok, cCp1_ap, h2, noX_ok, bd_ok, cCp2_t, h3, noX_ok, bd_ok, cCp3_of hz]
    exact e
theorem forS_ex (I : List D → Lo → Sto → Prop) (step : ∀ d ds lo s, I (d :: ds) lo s → ∃ l, setT T d lo = some l ∧ ∃ lo' s', (m1 l s = .nx lo' s' ∨ m1 l s = .ct lo' s') ∧ I ds lo' s') :
    ∀ (ds : List D) (lo : Lo) (s : Sto), I ds lo s → ∃ lo' s', forS T m1 none ds lo s = .nx lo' s' ∧ I [] lo' s'
  | [], lo, s, h => ⟨lo, s, rfl, h⟩
  | d :: ds, lo, s, h => by
    obtain ⟨l, h1, lo1, s1, h2, h3⟩ := step d ds lo s h
    obtain ⟨lo', s', e, q⟩ := forS_ex I step ds lo1 s1 h3
    refine ⟨lo', s', ?_, q⟩
    rw [for_cons h1]
    rcases h2 with h2 | h2
    · rw [h2, cFor2_nx]; exact e
    · rw [h2, cFor2_ct]; exact e
end
theorem rangeI_len {i j : Int} : (rangeI i j).length = (j - i).toNat := by
  unfold rangeI; simp
theorem rangeI_mem {i j : Int} {d : D} (h : d ∈ rangeI i j) : ∃ k : Int, d = .int k ∧ i ≤ k ∧ k < j := by
  unfold rangeI at h
  obtain ⟨k, h1, rfl⟩ := List.mem_map.mp h
  have := List.mem_range.mp h1
  exact ⟨_, rfl, by omega, by omega⟩
theorem range_of {s : Sto} {j : Int} (h0 : 0 ≤ j) (h1 : j ≤ 1000000) : rng1 [.int j] s = .ok ⟨rangeI 0 j, none⟩ s := rng1_ap ⟨by omega, by omega⟩
/-! ### texts of signs -/
theorem strs_of : ∀ l : List Str, strsOf (l.map D.str) = some l
  | [] => rfl
  | x :: l => by show (strsOf (l.map D.str)).map _ = _; rw [strs_of l]; rfl
theorem join_signs {s : Sto} {cs : List Nat} (h : cs.length ≤ 1000) : fJoin (.str ("" : Str)) (.lst (cs.map fun c => D.str ⟨#[c]⟩)) s = some (.str ⟨cs.toArray⟩) := by
  have e0 : (cs.map fun c => D.str ⟨#[c]⟩) = (cs.map fun c => (⟨#[c]⟩ : Str)).map D.str := by rw [List.map_map]; rfl
  rw [e0]
  unfold fJoin
  simp only [seqOf_lst, Option.bind_some, strs_of]
  have e2 : ((cs.map fun c => (⟨#[c]⟩ : Str)).map (·.length)).sum = cs.length := by
    clear h e0
    induction cs with
    | nil => rfl
    | cons c l ih =>
      rw [List.map_cons, List.map_cons, List.sum_cons, ih, List.length_cons]
      show 1 + l.length = _
      omega
  have e3 : ("" : Str).length = 0 := rfl
  rw [if_pos (by rw [e2, e3]; omega), TL.join_eq]
  congr 2
  have := join_nil (cs.map fun c => (⟨#[c]⟩ : Str))
  rw [List.map_map] at this
  have e4 : (cs.map ((fun y : Str => y.cps.toList) ∘ fun c => (⟨#[c]⟩ : Str))).flatten = cs := by
    clear h e0 e2 this
    induction cs with
    | nil => rfl
    | cons c l ih =>
      rw [List.map_cons, List.flatten_cons, ih]
      rfl
  rw [e4] at this
  have e5 : (Str.join "" (cs.map fun c => (⟨#[c]⟩ : Str))).cps = cs.toArray := by
    have q := congrArg List.toArray this
    rw [Array.toArray_toList] at q
    exact q
  cases hj : Str.join "" (cs.map fun c => (⟨#[c]⟩ : Str)) with
  | mk z => rw [hj] at e5; rw [← e5]
theorem gAdd_ll {fr : Bool} {xs ys : List D} {s : Sto} (hz : xs.length + ys.length ≤ sizeLine) : gAdd fr (.lst xs) (.lst ys) s = finD fr (xs ++ ys) s := by
  unfold gAdd
  simp only [plOf, DL.listOf]
  rw [if_pos hz]
theorem gAdd_loc {fr : Bool} {q : Nat} {xs ys : List D} {s : Sto} (h : s[q]? = some (.lst xs)) (hz : xs.length + ys.length ≤ sizeLine) : gAdd fr (.loc q) (.lst ys) s = finD fr (xs ++ ys) s := by
  unfold gAdd
  simp only [plOf, DL.listOf, h]
  rw [if_pos hz]
theorem eraseIdx_map {α β : Type} (f : α → β) (l : List α) (i : Nat) : (l.map f).eraseIdx i = (l.eraseIdx i).map f := by
  rw [List.eraseIdx_eq_take_drop_succ, List.eraseIdx_eq_take_drop_succ, List.map_append, List.map_take, List.map_drop]
theorem split_at {α : Type} {l : List α} {i : Nat} {c : α} (h : l[i]? = some c) : l = l.take i ++ c :: l.drop (i + 1) := by
  obtain ⟨hi, e⟩ := List.getElem?_eq_some_iff.mp h
  rw [← e, ← List.drop_eq_getElem_cons hi, List.take_append_drop]
theorem perm_eraseIdx {α : Type} {l : List α} {i : Nat} {c : α} (h : l[i]? = some c) : l.Perm (c :: l.eraseIdx i) := by
  rw [List.eraseIdx_eq_take_drop_succ]
  have q := List.perm_middle (a := c) (l₁ := l.take i) (l₂ := l.drop (i + 1))
  rw [← split_at h] at q
  exact q
end DL
set_option Elab.async false
set_option linter.all false
set_option maxRecDepth 100000
set_option maxHeartbeats 4000000
/-! PGa: meanings of defs that many laws share (printed by gen3.py). -/
namespace PG
open PySem L2 DL
def b_is_whole : Lo → Sto → SR :=
    (mRet (mAnd (mIsi .int (getV 0)) (mNot (mIsi .bl (getV 0)))))
def m_is_whole : List D → M D := callF 1 1 b_is_whole
def k_LONGEST : D := (.int 8)
def k_SIGNS : D := (.str ("abcdefghijklmnopqrstuvwxyz" : PySem.Str))
def b_is_word : Lo → Sto → SR :=
    (mSeq (mIf (mOrB (mNotB (mTru (mIsi .str (getV 0)))) (mNotB (mB (mChain fLe fLe (fun _ => ret (.int 1)) (mCB fLen (mCons (getV 0) mNil)) (fun _ => ret k_LONGEST))))) (mRet (fun _ => ret (.bl false))) .nx)
    (mRet (mCB fAll (mCons (mComp true [1] (.nm 1) (mIter (getV 0)) (fun _ => ret true) (mBin fIn (getV 1) (fun _ => ret k_SIGNS))) mNil))))
def m_is_word : List D → M D := callF 2 1 b_is_word
def k_MOST_MARK : D := (.int 1000000000)
def b_is_mark : Lo → Sto → SR :=
    (mSeq (mIf (mOrB (mNotB (mTru (mIsi .tup (getV 0)))) (mOrB (mB (mBin fNe (mCB fLen (mCons (getV 0) mNil)) (fun _ => ret (.int 2)))) (mNotB (mTru (mCall 1 (m_is_whole) (mCons (mBin fIx (getV 0) (fun _ => ret (.int 1))) mNil)))))) (mRet (fun _ => ret (.bl false))) .nx)
    (mRet (mAnd (mOr (mCall 1 (m_is_word) (mCons (mBin fIx (getV 0) (fun _ => ret (.int 0))) mNil)) (mAnd (mIsi .str (mBin fIx (getV 0) (fun _ => ret (.int 0)))) (mBin fEq (mBin fIx (getV 0) (fun _ => ret (.int 0))) (fun _ => ret (.str ("" : PySem.Str)))))) (mChain fLe fLe (fun _ => ret (.int 0)) (mBin fIx (getV 0) (fun _ => ret (.int 1))) (fun _ => ret k_MOST_MARK)))))
def m_is_mark : List D → M D := callF 1 1 b_is_mark
def b_law_pool : Lo → Sto → SR :=
    (mSeq (mSet (.nm 2) (fun _ => ret (.int 0)))
    (mSeq (mIf (mB (mBin fLt (getV 1) (mCB fLen (mCons (getV 0) mNil)))) (mSet (.nm 2) (mBin fIx (getV 0) (getV 1))) .nx)
    (mSeq (mSet (.nm 3) (mCB fMax (mCons (getV 2) (mCons (mBin fSub (mNeg (fun _ => ret (.int 1))) (getV 2)) mNil))))
    (mSeq (mSet (.nm 4) (mBin fMod (mBin fMulX (mBin fAdd (mBin fAdd (mBin fAdd (mBin fMod (getV 3) (fun _ => ret (.int 2147483629))) (mBin fMulX (mBin fMulX (fun _ => ret (.int 7919)) (getV 1)) (getV 1))) (mBin fMulX (fun _ => ret (.int 31)) (getV 1))) (fun _ => ret (.int 17))) (fun _ => ret (.int 48271))) (fun _ => ret (.int 2147483647))))
    (mRet (mLstL (mCons (mBin fMulX (getV 3) (mCB fInt (mCons (mBin fGe (getV 3) (mBin fPow (fun _ => ret (.int 10)) (fun _ => ret (.int 18)))) mNil))) (mCons (getV 4) mNil))))))))
def m_law_pool : List D → M D := callF 5 2 b_law_pool
def b_law_draw : Lo → Sto → SR :=
    (mSeq (mIf (mB (mBin fGt (mBin fIx (getV 0) (fun _ => ret (.int 0))) (fun _ => ret (.int 0)))) (mSeq (mSet (.nm 2) (mBin fMod (mBin fIx (getV 0) (fun _ => ret (.int 0))) (getV 1)))
    (mSeq (mStore (getV 0) (fun _ => ret (.int 0)) (mBin fDiv (mBin fIx (getV 0) (fun _ => ret (.int 0))) (getV 1)))
    (mRet (getV 2)))) .nx)
    (mSeq (mStore (getV 0) (fun _ => ret (.int 1)) (mBin fMod (mBin fAdd (mBin fMulX (mBin fIx (getV 0) (fun _ => ret (.int 1))) (fun _ => ret (.int 69621))) (fun _ => ret (.int 7))) (fun _ => ret (.int 2147483647))))
    (mRet (mBin fMod (mBin fDiv (mBin fMod (mBin fMulX (mBin fIx (getV 0) (fun _ => ret (.int 1))) (mBin fIx (getV 0) (fun _ => ret (.int 1)))) (fun _ => ret (.int 2147483629))) (fun _ => ret (.int 32))) (getV 1)))))
def m_law_draw : List D → M D := callF 3 2 b_law_draw
def b_are_words : Lo → Sto → SR :=
    (mSeq (mIf (mOrB (mNotB (mTru (mIsi .tup (getV 0)))) (mOrB (mNotB (mB (mChain fLe fLe (fun _ => ret (.int 1)) (mCB fLen (mCons (getV 0) mNil)) (getV 1)))) (mNotB (mTru (mCB fAll (mCons (mComp true [2] (.nm 2) (mIter (getV 0)) (fun _ => ret true) (mCall 1 (m_is_word) (mCons (getV 2) mNil))) mNil)))))) (mRet (fun _ => ret (.bl false))) .nx)
    (mRet (mBin fEq (mLenSet [2] (.nm 2) (mIter (getV 0)) (fun _ => ret true) (getV 2)) (mCB fLen (mCons (getV 0) mNil)))))
def m_are_words : List D → M D := callF 3 2 b_are_words
def b_is_head : Lo → Sto → SR :=
    (mRet (mAnd (mIsi .tup (getV 0)) (mAnd (mBin fGt (mCB fLen (mCons (getV 0) mNil)) (fun _ => ret (.int 0))) (mIsi .str (mBin fIx (getV 0) (fun _ => ret (.int 0)))))))
def m_is_head : List D → M D := callF 1 1 b_is_head
def k_MOST_ROOMS : D := (.int 6)
def b_are_rooms : Lo → Sto → SR :=
    (mSeq (mIf (mOrB (mNotB (mTru (mIsi .tup (getV 0)))) (mB (mBin fGt (mCB fLen (mCons (getV 0) mNil)) (fun _ => ret k_MOST_ROOMS)))) (mRet (fun _ => ret (.bl false))) .nx)
    (mSeq (mFor (.nm 1) (mIter (getV 0)) (mIf (mOrB (mNotB (mTru (mIsi .tup (getV 1)))) (mOrB (mB (mBin fNe (mCB fLen (mCons (getV 1) mNil)) (fun _ => ret (.int 2)))) (mNotB (mTru (mCall 1 (m_is_word) (mCons (mBin fIx (getV 1) (fun _ => ret (.int 0))) mNil)))))) (mRet (fun _ => ret (.bl false))) .nx))
    (mRet (mBin fEq (mLenSet [1] (.nm 1) (mIter (getV 0)) (fun _ => ret true) (mBin fIx (getV 1) (fun _ => ret (.int 0)))) (mCB fLen (mCons (getV 0) mNil))))))
def m_are_rooms : List D → M D := callF 2 1 b_are_rooms
def k_ALL : D := (.str ("*" : PySem.Str))
def k_LEAVES : D := (.tup ([("number" : PySem.Str), ("text" : PySem.Str)].map D.str))
def k_MANY : D := (.tup ([("list" : PySem.Str), ("map" : PySem.Str)].map D.str))
def k_MOST_DEEP : D := (.int 6)
def k_MOST_PARTS : D := (.int 40)
def k_MOST_WORDS : D := (.int 6)
def b_look_within (m_look_within : List D → M D) : Lo → Sto → SR :=
    (mSeq (mIf (mOrB (mNotB (mTru (mCall 1 (m_is_head) (mCons (getV 0) mNil)))) (mB (mBin fGt (getV 2) (mBin fAdd (fun _ => ret k_MOST_DEEP) (fun _ => ret k_MOST_PARTS))))) (mRaise ("NoForm" : PySem.Str) [("place" : PySem.Str)] (mCons (getV 1) mNil)) .nx)
    (mSeq (mSet (.nm 3) (mBin fIx (getV 0) (fun _ => ret (.int 0))))
    (mSeq (mIf (mAndB (mB (mBin fInX (getV 3) (fun _ => ret k_LEAVES))) (mB (mBin fEq (mCB fLen (mCons (getV 0) mNil)) (fun _ => ret (.int 1))))) (mRet (mTup (mCons (fun _ => ret (.int 1)) (mCons (fun _ => ret (.int 1)) mNil)))) .nx)
    (mSeq (mIf (mAndB (mB (mBin fEq (getV 3) (fun _ => ret (.str ("choice" : PySem.Str))))) (mAndB (mB (mBin fEq (mCB fLen (mCons (getV 0) mNil)) (fun _ => ret (.int 2)))) (mTru (mCall 2 (m_are_words) (mCons (mBin fIx (getV 0) (fun _ => ret (.int 1))) (mCons (fun _ => ret k_MOST_WORDS) mNil)))))) (mRet (mTup (mCons (fun _ => ret (.int 1)) (mCons (fun _ => ret (.int 1)) mNil)))) .nx)
    (mSeq (mIf (mAndB (mB (mBin fInX (getV 3) (fun _ => ret k_MANY))) (mB (mBin fEq (mCB fLen (mCons (getV 0) mNil)) (fun _ => ret (.int 2))))) (mSeq (mSet (.tp [4, 5]) (mCall 3 (m_look_within) (mCons (mBin fIx (getV 0) (fun _ => ret (.int 1))) (mCons (mBin fAdd (getV 1) (mTup (mCons (fun _ => ret k_ALL) mNil))) (mCons (mBin fAdd (getV 2) (fun _ => ret (.int 1))) mNil)))))
    (mRet (mTup (mCons (mBin fAdd (getV 4) (fun _ => ret (.int 1))) (mCons (mBin fAdd (getV 5) (fun _ => ret (.int 1))) mNil))))) .nx)
    (mSeq (mIf (mOrB (mB (mBin fNe (getV 3) (fun _ => ret (.str ("record" : PySem.Str))))) (mOrB (mB (mBin fNe (mCB fLen (mCons (getV 0) mNil)) (fun _ => ret (.int 2)))) (mNotB (mTru (mCall 1 (m_are_rooms) (mCons (mBin fIx (getV 0) (fun _ => ret (.int 1))) mNil)))))) (mRaise ("NoForm" : PySem.Str) [("place" : PySem.Str)] (mCons (getV 1) mNil)) .nx)
    (mSeq (mSet (.nm 6) (mCompX true [7, 8] (.tp [7, 8]) (mIter (mBin fIx (getV 0) (fun _ => ret (.int 1)))) (fun _ => ret true) (mCall 3 (m_look_within) (mCons (getV 8) (mCons (mBin fAdd (getV 1) (mTup (mCons (getV 7) mNil))) (mCons (mBin fAdd (getV 2) (fun _ => ret (.int 1))) mNil))))))
    (mRet (mTup (mCons (mBin fAdd (fun _ => ret (.int 1)) (mCB fSum (mCons (mComp true [4, 5] (.tp [4, 5]) (mIter (getV 6)) (fun _ => ret true) (getV 4)) mNil))) (mCons (mBin fAdd (fun _ => ret (.int 1)) (mMaxD (mComp true [4, 5] (.tp [4, 5]) (mIter (getV 6)) (fun _ => ret true) (getV 5)) (fun _ => ret (.int 0)))) mNil)))))))))))
def m_look_within : Nat → List D → M D
  | 0 => fun _ _ => .bad
  | k + 1 => callF 9 3 (b_look_within (m_look_within k))
def b_look_at_form : Lo → Sto → SR :=
    (mSeq (mSet (.tp [1, 2]) (mCall 3 (m_look_within 30) (mCons (getV 0) (mCons (mTup mNil) (mCons (fun _ => ret (.int 1)) mNil)))))
    (mIf (mOrB (mB (mBin fGt (getV 1) (fun _ => ret k_MOST_PARTS))) (mB (mBin fGt (getV 2) (fun _ => ret k_MOST_DEEP)))) (mRaise ("NoForm" : PySem.Str) [("place" : PySem.Str)] (mCons (mTup mNil) mNil)) .nx))
def m_look_at_form : List D → M D := callF 3 1 b_look_at_form
def b_law_words : Lo → Sto → SR :=
    (mSeq (mSet (.nm 2) (fun _ => ret (.str ("abcdefghijklmnopqrstuvwxyz" : PySem.Str))))
    (mSeq (mSet (.nm 3) (mJoin (fun _ => ret (.str ("" : PySem.Str))) (mComp true [4] (.nm 4) (mRng1 (mCons (mBin fMulX (mCall 2 (m_law_draw) (mCons (getV 0) (mCons (fun _ => ret (.int 2)) mNil))) (mCall 2 (m_law_draw) (mCons (getV 0) (mCons (fun _ => ret (.int 8)) mNil)))) mNil)) (fun _ => ret true) (mBin fIx (getV 2) (mCall 2 (m_law_draw) (mCons (getV 0) (mCons (fun _ => ret (.int 26)) mNil)))))))
    (mSeq (mSet (.nm 5) (mCM (gList false) (mCons (getV 2) mNil)))
    (mRet (mComp true [4] (.nm 4) (mRng1 (mCons (getV 1) mNil)) (fun _ => ret true) (mBin fAdd (mBin fIx (mLst (mCons (getV 3) (mCons (fun _ => ret (.str ("" : PySem.Str))) mNil))) (mBin fMod (getV 4) (fun _ => ret (.int 2)))) (mMeth gPop (getV 5) (mCons (mCall 2 (m_law_draw) (mCons (getV 0) (mCons (mCB fLen (mCons (getV 5) mNil)) mNil))) mNil))))))))
def m_law_words : List D → M D := callF 6 2 b_law_words
def b_law_is_word : Lo → Sto → SR :=
    (mSeq (mIf (mOrB (mNotB (mTru (mIsi .str (getV 0)))) (mB (mBin fNotInX (mCB fLen (mCons (getV 0) mNil)) (mLst (mCons (fun _ => ret (.int 1)) (mCons (fun _ => ret (.int 2)) (mCons (fun _ => ret (.int 3)) (mCons (fun _ => ret (.int 4)) (mCons (fun _ => ret (.int 5)) (mCons (fun _ => ret (.int 6)) (mCons (fun _ => ret (.int 7)) (mCons (fun _ => ret (.int 8)) mNil)))))))))))) (mRet (fun _ => ret (.bl false))) .nx)
    (mRet (mBin fEqX (mComp true [1] (.nm 1) (mIter (getV 0)) (mB (mBin fNotInX (getV 1) (mCM (gList true) (mCons (fun _ => ret (.str ("abcdefghijklmnopqrstuvwxyz" : PySem.Str))) mNil)))) (getV 1)) (mLst mNil))))
def m_law_is_word : List D → M D := callF 2 1 b_law_is_word
def b_law_unlike : Lo → Sto → SR :=
    (mSeq (mIf (mOrB (mNotB (mTru (mIsi .tup (getV 0)))) (mOrB (mNotB (mB (mChain fLe fLe (getV 1) (mCB fLen (mCons (getV 0) mNil)) (getV 2)))) (mNotB (mTru (mCB fAll (mCons (mComp true [3] (.nm 3) (mIter (getV 0)) (fun _ => ret true) (mCall 1 (m_law_is_word) (mCons (getV 3) mNil))) mNil)))))) (mRet (fun _ => ret (.bl false))) .nx)
    (mRet (mBin fEq (mCB fLen (mCons (mComp true [4, 3] (.tp [4, 3]) (mEnumT (mCons (getV 0) mNil)) (mB (mBin fInX (getV 3) (mCut (getV 0) (fun _ => ret none) (mPart (getV 4))))) (getV 3)) mNil)) (fun _ => ret (.int 0)))))
def m_law_unlike : List D → M D := callF 5 3 b_law_unlike
def b_law_wrong (m_law_wrong : List D → M D) : Lo → Sto → SR :=
    (mSeq (mIf (mOrB (mNotB (mTru (mIsi .tup (getV 0)))) (mOrB (mB (mBin fEq (mCB fLen (mCons (getV 0) mNil)) (fun _ => ret (.int 0)))) (mNotB (mTru (mIsi .str (mBin fIx (getV 0) (fun _ => ret (.int 0)))))))) (mRet (getV 1)) .nx)
    (mSeq (mIf (mB (mBin fInX (getV 0) (mLst (mCons (mTup (mCons (fun _ => ret (.str ("number" : PySem.Str))) mNil)) (mCons (mTup (mCons (fun _ => ret (.str ("text" : PySem.Str))) mNil)) mNil))))) (mRet (fun _ => ret .non)) .nx)
    (mSeq (mIf (mB (mBin fNe (mCB fLen (mCons (getV 0) mNil)) (fun _ => ret (.int 2)))) (mRet (getV 1)) .nx)
    (mSeq (mIf (mB (mBin fEq (mBin fIx (getV 0) (fun _ => ret (.int 0))) (fun _ => ret (.str ("choice" : PySem.Str))))) (mRet (mBin fIx (mLst (mCons (getV 1) (mCons (fun _ => ret .non) mNil))) (mCB fInt (mCons (mCall 3 (m_law_unlike) (mCons (mBin fIx (getV 0) (fun _ => ret (.int 1))) (mCons (fun _ => ret (.int 1)) (mCons (fun _ => ret (.int 6)) mNil)))) mNil)))) .nx)
    (mSeq (mIf (mB (mBin fInX (mBin fIx (getV 0) (fun _ => ret (.int 0))) (mLst (mCons (fun _ => ret (.str ("list" : PySem.Str))) (mCons (fun _ => ret (.str ("map" : PySem.Str))) mNil))))) (mRet (mCall 2 (m_law_wrong) (mCons (mBin fIx (getV 0) (fun _ => ret (.int 1))) (mCons (mBin fAdd (getV 1) (mTup (mCons (fun _ => ret (.str ("*" : PySem.Str))) mNil))) mNil)))) .nx)
    (mSeq (mIf (mOrB (mB (mBin fNe (mBin fIx (getV 0) (fun _ => ret (.int 0))) (fun _ => ret (.str ("record" : PySem.Str))))) (mOrB (mNotB (mTru (mIsi .tup (mBin fIx (getV 0) (fun _ => ret (.int 1)))))) (mB (mBin fGt (mCB fLen (mCons (mBin fIx (getV 0) (fun _ => ret (.int 1))) mNil)) (fun _ => ret (.int 6)))))) (mRet (getV 1)) .nx)
    (mSeq (mIf (mNotB (mTru (mCB fAll (mCons (mComp true [2] (.nm 2) (mIter (mBin fIx (getV 0) (fun _ => ret (.int 1)))) (fun _ => ret true) (mAnd (mIsi .tup (getV 2)) (mBin fEq (mCB fLen (mCons (getV 2) mNil)) (fun _ => ret (.int 2))))) mNil)))) (mRet (getV 1)) .nx)
    (mSeq (mIf (mNotB (mTru (mCall 3 (m_law_unlike) (mCons (mCB fTupleX (mCons (mComp true [2] (.nm 2) (mIter (mBin fIx (getV 0) (fun _ => ret (.int 1)))) (fun _ => ret true) (mBin fIx (getV 2) (fun _ => ret (.int 0)))) mNil)) (mCons (fun _ => ret (.int 0)) (mCons (fun _ => ret (.int 6)) mNil)))))) (mRet (getV 1)) .nx)
    (mSeq (mFor (.tp [3, 4]) (mIter (mBin fIx (getV 0) (fun _ => ret (.int 1)))) (mSeq (mSet (.nm 5) (mCall 2 (m_law_wrong) (mCons (getV 4) (mCons (mBin fAdd (getV 1) (mTup (mCons (getV 3) mNil))) mNil))))
    (mIf (mB (mBin fIsNot (getV 5) (fun _ => ret .non))) (mRet (getV 5)) .nx)))
    (mRet (fun _ => ret .non)))))))))))
def m_law_wrong : Nat → List D → M D
  | 0 => fun _ _ => .bad
  | k + 1 => callF 6 2 (b_law_wrong (m_law_wrong k))
def b_law_size (m_law_size : List D → M D) : Lo → Sto → SR :=
    (mSeq (mSet (.nm 1) (mLst mNil))
    (mSeq (mIf (mB (mBin fInX (mBin fIx (getV 0) (fun _ => ret (.int 0))) (mLst (mCons (fun _ => ret (.str ("list" : PySem.Str))) (mCons (fun _ => ret (.str ("map" : PySem.Str))) mNil))))) (mSet (.nm 1) (mLst (mCons (mCall 1 (m_law_size) (mCons (mBin fIx (getV 0) (fun _ => ret (.int 1))) mNil)) mNil))) .nx)
    (mSeq (mIf (mB (mBin fEq (mBin fIx (getV 0) (fun _ => ret (.int 0))) (fun _ => ret (.str ("record" : PySem.Str))))) (mSet (.nm 1) (mComp true [2, 3] (.tp [2, 3]) (mIter (mBin fIx (getV 0) (fun _ => ret (.int 1)))) (fun _ => ret true) (mCall 1 (m_law_size) (mCons (getV 3) mNil)))) .nx)
    (mRet (mTup (mCons (mBin fAdd (fun _ => ret (.int 1)) (mCB fSum (mCons (mComp true [4, 5] (.tp [4, 5]) (mIter (getV 1)) (fun _ => ret true) (getV 4)) mNil))) (mCons (mBin fAdd (fun _ => ret (.int 1)) (mMaxD (mComp true [4, 5] (.tp [4, 5]) (mIter (getV 1)) (fun _ => ret true) (getV 5)) (fun _ => ret (.int 0)))) mNil)))))))
def m_law_size : Nat → List D → M D
  | 0 => fun _ _ => .bad
  | k + 1 => callF 6 1 (b_law_size (m_law_size k))
def b_law_due : Lo → Sto → SR :=
    (mSeq (mSet (.nm 1) (mCall 2 (m_law_wrong 30) (mCons (getV 0) (mCons (mTup mNil) mNil))))
    (mSeq (mIf (mAndB (mB (mBin fIs (getV 1) (fun _ => ret .non))) (mOrB (mB (mBin fGt (mBin fIx (mCall 1 (m_law_size 30) (mCons (getV 0) mNil)) (fun _ => ret (.int 0))) (fun _ => ret (.int 40)))) (mB (mBin fGt (mBin fIx (mCall 1 (m_law_size 30) (mCons (getV 0) mNil)) (fun _ => ret (.int 1))) (fun _ => ret (.int 6)))))) (mSet (.nm 1) (mTup mNil)) .nx)
    (mRet (getV 1))))
def m_law_due : List D → M D := callF 2 1 b_law_due
end PG
set_option Elab.async false
set_option linter.all false
set_option maxRecDepth 100000
set_option maxHeartbeats 4000000
/-! PGb: words, looked at by the program and by the laws. -/
namespace PG
open PySem L2 DL
local macro_rules
  | `(tactic| push_cast [$as,*]) => `(tactic| simp only [optR_some, bd_ok, bd_exc, bd_bad, noX_ok, bs_ok, bs_exc, bs_bad, ret_ok, gv_cons, gv_zero, c2Bin_ap, c1Bin_ap, e_bin, c2BinM_ap, c1BinM_ap, e_binM, asB_bl, e_B, cTru_ap, e_Tru, cAndB_t, cAndB_f, e_AndB, cOrB_t, cOrB_f, e_OrB, cNotB_ap, e_NotB, cAnd2_t, cAnd2_f, cAnd_ap, e_And, cOr2_t, cOr2_f, cOr_ap, e_Or, cNot2_ap, cNot_ap, e_Not, cIfE_t, cIfE_f, e_IfE, cCh3_t, cCh3_f, cCh2_ap, cCh1_ap, e_Chain, e_Nil, c2Cons_ap, c1Cons_ap, e_Cons, cTup0, cLst0, cLstL0, cTup1, cLst1, cLstL1, cTup2, cLst2, cLstL2, cTup3, cLst3, cLstL3, cTup4, cLst4, cLstL4, cTup5, cLst5, cLstL5, cTup6, cLst6, cLstL6, cTup7, cLst7, cLstL7, cTup8, cLst8, cLstL8, cTup9, cLst9, cLstL9, cTup10, cLst10, cLstL10, cTup11, cLst11, cLstL11, cTup12, cLst12, cLstL12, cTup13, cLst13, cLstL13, cTup14, cLst14, cLstL14, cTup15, cLst15, cLstL15, cTup16, cLst16, cLstL16, cTup17, cLst17, cLstL17, cTup18, cLst18, cLstL18, cTup19, cLst19, cLstL19, cTup20, cLst20, cLstL20, cTup21, cLst21, cLstL21, cTup22, cLst22, cLstL22, e_Tup, e_Lst, e_LstL, cCB_ap, e_CB, cCM_ap, e_CM, cIsi2_ap, cIsi_ap, e_Isi, cIsiT2_ap, cIsiT_ap, e_IsiT, cNeg_int, e_Neg, cCall0, cCall1, cCall2, cCall3, cCall4, cCall5, cCall6, cCall7, e_Call, asI_int, e_Part, cCut3_ap, cCut2_ap, cCut1_ap, e_Cut, cJoin2_ap, cJoin1_ap, e_Join, cMeth2_ap, cMeth3_t, cMeth1_ap, e_Meth, cIter_ap, e_Iter, e_Rng1, e_Rng2, e_EnumT, cComp2_ap, cComp_ap, e_Comp, cCompX_ap, e_CompX, finD_t, finD_f, wipe_nil, wipe_cons, cmp_nil, cmpx_nil, cmp_cons, cmpx_cons, cCp2_t, cCp2_f, cCp1_ap, cCx2_t, cCx2_f, cCx1_ap, cCp3_0, cCx3_0, cCp3_1, cCx3_1, cCp3_2, cCx3_2, cCp3_3, cCx3_3, cCp3_4, cCx3_4, cCp3_5, cCx3_5, cCp3_6, cCx3_6, cCp3_7, cCx3_7, cSet2_ap, cSet_ap, e_LenSet, cMaxD_ap, e_MaxD, cCnt2_ap, cCnt_ap, e_Count, e_Fld, e_Isx, seqS_nx, seqS_rt, seqS_bk, seqS_ct, seqS_exc, e_seq, e_ret, cExpr_ap, e_expr, cIf_t, cIf_f, e_if, cSetS_nm, cSetS_tp2, cSetS_tp3, e_set, setT_nm, setT_tp2, setT_tp3, optS_some, cSt3_ap, cSt2_ap, cSt1_ap, e_store, cFor_ap, e_for, for_nil, cFor2_nx, cFor2_ct, cFor2_bk, cFor2_rt, cFor2_exc, for_cons1, for_cons2, cRaise0, cRaise1, cRaise2, e_raise, callR_nx, callR_rt, callR_exc, callF_eq, tryK_nx, tryK_rt, e_try, unS_nx, unS_rt, List.map_cons, List.map_nil, List.cons_append, List.nil_append, List.replicate, Nat.reduceSub, List.set_cons_succ, List.set_cons_zero, nAdd_int, nSub_int, nLt_int, nLe_int, nGt_int, nGe_int, fEq_int, fNe_int, fEq_str, fNe_str, nTru_bl, nMax_int, nMin_int, nInt_bl, nIx_lst, nIx_tup, nIx_scr, atI_0, atI_1, Bool.not_true, Bool.not_false, decide_true, decide_false, Option.some.injEq, reduceIte, ty_non, ty_bl, ty_int, ty_str, ty_lst, ty_tup, ty_dct, ty_scr, is_non_non, is_non_bl, is_non_int, is_non_str, is_non_lst, is_non_tup, is_non_dct, is_bl_non, is_bl_bl, is_bl_int, is_bl_str, is_bl_lst, is_bl_tup, is_bl_dct, is_int_non, is_int_bl, is_int_int, is_int_str, is_int_lst, is_int_tup, is_int_dct, is_str_non, is_str_bl, is_str_int, is_str_str, is_str_lst, is_str_tup, is_str_dct, is_lst_non, is_lst_bl, is_lst_int, is_lst_str, is_lst_lst, is_lst_tup, is_lst_dct, is_tup_non, is_tup_bl, is_tup_int, is_tup_str, is_tup_lst, is_tup_tup, is_tup_dct, is_dct_non, is_dct_bl, is_dct_int, is_dct_str, is_dct_lst, is_dct_tup, is_dct_dct, len_t0, len_l0, len_t1, len_l1, len_t2, len_l2, len_t3, len_l3, at_3_2, len_t4, len_l4, at_4_2, at_4_3, len_t5, len_l5, at_5_2, at_5_3, at_5_4, len_t6, len_l6, at_6_2, at_6_3, at_6_4, at_6_5, len_t7, len_l7, at_7_2, at_7_3, at_7_4, at_7_5, at_7_6, len_t8, len_l8, at_8_2, at_8_3, at_8_4, at_8_5, at_8_6, at_8_7, tru_tup, tru_lst, tru_int, tru_non, it_lst, it_tup, it_scr, it_str, isn_non, isnt_non, isn_tup, isnt_tup, isn_lst, isnt_lst, isn_int, isn_str, isnt_int, isnt_str, isn_loc, isnt_loc, isn_exn, isnt_exn, tupX_tup, tupX_lst, lst_tup, lst_lst, inX_2, inX_t2, eqX_nil, isLst_lst, sgn_in, sgn_notIn, all_bls, sum_ints, maxD_ints, Int.reduceAdd, Int.reduceSub, Int.reduceMul, Int.reduceNeg, Int.reduceLT, Int.reduceLE, Int.reduceEq, Int.reduceToNat, Nat.reduceAdd, Nat.reduceMul, Nat.reduceEqDiff, Int.reduceMod, Int.reduceDiv, Bool.or_true, Bool.true_or, Bool.or_false, Bool.false_or, Bool.and_true, Bool.true_and, Bool.and_false, Bool.false_and, ne_number_text, ne_number_choice, ne_number_record, ne_number_list, ne_number_map, ne_text_number, ne_text_choice, ne_text_record, ne_text_list, ne_text_map, ne_choice_number, ne_choice_text, ne_choice_record, ne_choice_list, ne_choice_map, ne_record_number, ne_record_text, ne_record_choice, ne_record_list, ne_record_map, ne_list_number, ne_list_text, ne_list_choice, ne_list_record, ne_list_map, ne_map_number, ne_map_text, ne_map_choice, ne_map_record, ne_map_list, $as,*])
def abc : List Nat := ("abcdefghijklmnopqrstuvwxyz" : Str).cps.toList
def wordX (x : Str) : Bool := (decide (1 ≤ x.length) && decide (x.length ≤ 8)) && x.cps.toList.all fun c => decide (c ∈ abc)
def wordB : D → Bool
  | .str x => wordX x
  | _ => false
variable {s : Sto} {d : D} {x : Str} {t : Ty} {xs : List D}
theorem few {n : Nat} (h : n ≤ 1000000) : n ≤ sizeLine := Nat.le_trans h (by decide)
theorem wordB_no (ht : tyD d s = some t) (hn : isTy t .str = false) : wordB d = false := by
  cases d with
  | str x => cases ht; cases hn
  | _ => rfl
theorem is_word_no (ht : tyD d s = some t) (hn : isTy t .str = false) : m_is_word [d] s = .ok (.bl false) s := by
  unfold m_is_word b_is_word
  push_cast [ht, hn]
theorem signs_len : (signsD x).length = x.length := by
  unfold signsD; rw [List.length_map, Array.length_toList]; rfl
theorem signs_mem (h : d ∈ signsD x) : ∃ c ∈ x.cps.toList, d = .str ⟨#[c]⟩ := by
  obtain ⟨c, h1, rfl⟩ := List.mem_map.mp h
  exact ⟨c, h1, rfl⟩
theorem is_word_str (hx : x.length ≤ sizeLine) : m_is_word [.str x] s = .ok (.bl (wordX x)) s := by
  have hc : compR (.nm 1) (fun _ => DL.ret true) (mBin fIn (getV 1) (fun _ => DL.ret k_SIGNS)) none [some (.str x), none] (signsD x) [] s = .ok ((x.cps.toList.map fun c => decide (c ∈ abc)).map D.bl) s := by
    rw [compR_map (fun d => match d with | .str y => .bl (match y.cps.toList with | [k] => decide (k ∈ abc) | _ => false) | _ => .non)]
    · rw [List.nil_append]
      unfold signsD
      rw [List.map_map, List.map_map]; rfl
    · rw [List.length_nil, signs_len]; omega
    · intro d hd
      obtain ⟨c, _, rfl⟩ := signs_mem hd
      refine ⟨_, rfl, rfl, ?_⟩
      push_cast [k_SIGNS]
      rfl
  unfold m_is_word b_is_word
  push_cast [fLen_str hx, k_LONGEST]
  cases h1 : decide ((1 : Int) ≤ (x.length : Int)) with
  | false =>
    push_cast [h1]
    rw [decide_eq_false_iff_not] at h1
    unfold wordX
    rw [decide_eq_false (show ¬ 1 ≤ x.length by omega)]; rfl
  | true =>
    rw [decide_eq_true_eq] at h1
    cases h8 : decide ((x.length : Int) ≤ 8) with
    | false =>
      push_cast [fLen_str hx, h8]
      rw [decide_eq_false_iff_not] at h8
      unfold wordX
      rw [decide_eq_false (show ¬ x.length ≤ 8 by omega), Bool.and_false]; rfl
    | true =>
      push_cast [fLen_str hx, h8, hc]
      rw [decide_eq_true_eq] at h8
      unfold wordX
      rw [decide_eq_true (show 1 ≤ x.length by omega), decide_eq_true (show x.length ≤ 8 by omega), List.all_map]; rfl
theorem is_word_ok (h : ∃ t, tyD d s = some t) (hx : ∀ x, d = .str x → x.length ≤ sizeLine) : m_is_word [d] s = .ok (.bl (wordB d)) s := by
  obtain ⟨t, h⟩ := h
  rcases ty_str_or h with ⟨x, rfl⟩ | hn
  · exact is_word_str (hx x rfl)
  · rw [wordB_no h hn]
    exact is_word_no h hn
theorem lword_no (ht : tyD d s = some t) (hn : isTy t .str = false) : m_law_is_word [d] s = .ok (.bl false) s := by
  unfold m_law_is_word b_law_is_word
  push_cast [ht, hn]
theorem in8 {n : Nat} : fNotInX (.int n) (.lst [.int 1, .int 2, .int 3, .int 4, .int 5, .int 6, .int 7, .int 8]) s = some (.bl (!(decide (1 ≤ n) && decide (n ≤ 8)))) := by
  rw [show [D.int 1, .int 2, .int 3, .int 4, .int 5, .int 6, .int 7, .int 8] = [1, 2, 3, 4, 5, 6, 7, 8].map D.int from rfl, notInX_ints]
  congr 3
  rw [Bool.eq_iff_iff]
  simp only [Bool.and_eq_true, decide_eq_true_eq, List.mem_cons, List.not_mem_nil, or_false]
  omega
theorem lword_str (hx : x.length ≤ sizeLine) : m_law_is_word [.str x] s = .ok (.bl (wordX x)) s := by
  have hc : compR (.nm 1) (mB (mBin fNotInX (getV 1) (mCM (gList true) (mCons (fun _ => DL.ret (.str ("abcdefghijklmnopqrstuvwxyz" : PySem.Str))) mNil)))) (getV 1) none [some (.str x), none] (signsD x) [] s = .ok ((signsD x).filter fun d => match d with | .str y => (match y.cps.toList with | [k] => !decide (k ∈ abc) | _ => false) | _ => false) s := by
    rw [compR_filter (fun d => match d with | .str y => (match y.cps.toList with | [k] => !decide (k ∈ abc) | _ => false) | _ => false) (fun d => d), List.nil_append, List.map_id']
    · rw [List.length_nil, signs_len]; omega
    · intro d hd
      obtain ⟨c, _, rfl⟩ := signs_mem hd
      refine ⟨_, rfl, ?_, fun _ => ?_⟩
      · push_cast [lst_str (show ("abcdefghijklmnopqrstuvwxyz" : Str).length ≤ sizeLine from few (by decide))]
        rfl
      · push_cast []
  unfold m_law_is_word b_law_is_word
  push_cast [fLen_str hx, in8]
  cases hb : (decide (1 ≤ x.length) && decide (x.length ≤ 8)) with
  | false =>
    push_cast [hb]
    unfold wordX
    rw [hb]; rfl
  | true =>
    push_cast [hb, hc]
    unfold wordX
    rw [hb, Bool.true_and]
    congr 2
    rw [Bool.eq_iff_iff, List.isEmpty_iff, List.filter_eq_nil_iff, List.all_eq_true]
    constructor
    · intro h c hc
      have := h (.str ⟨#[c]⟩) (List.mem_map.mpr ⟨c, hc, rfl⟩)
      simpa using this
    · intro h d hd
      obtain ⟨c, hc, rfl⟩ := signs_mem hd
      have := h c hc
      simpa using this
theorem lword_ok (h : ∃ t, tyD d s = some t) (hx : ∀ x, d = .str x → x.length ≤ sizeLine) : m_law_is_word [d] s = .ok (.bl (wordB d)) s := by
  obtain ⟨t, h⟩ := h
  rcases ty_str_or h with ⟨x, rfl⟩ | hn
  · exact lword_str (hx x rfl)
  · rw [wordB_no h hn]
    exact lword_no h hn
/-- its kind is known, a text is not too long -/
def Kn (s : Sto) (d : D) : Prop := (∃ t, tyD d s = some t) ∧ ∀ x, d = .str x → x.length ≤ sizeLine
def strD : D → Str
  | .str x => x
  | _ => ""
def keyO : D → Key
  | .str x => .inr x
  | _ => .inl 0
def unlB (lo hi : Nat) (xs : List D) : Bool := (decide (lo ≤ xs.length) && decide (xs.length ≤ hi)) && xs.all wordB && decide ((xs.map strD).Nodup)
theorem words_str {xs : List D} (h : xs.all wordB = true) : ∃ ys : List Str, xs = ys.map D.str ∧ ∀ y ∈ ys, wordX y = true := by
  induction xs with
  | nil => exact ⟨[], rfl, fun _ h => nomatch h⟩
  | cons x xs ih =>
    rw [List.all_cons, Bool.and_eq_true] at h
    obtain ⟨ys, rfl, h2⟩ := ih h.2
    cases x with
    | str y => exact ⟨y :: ys, rfl, fun z hz => by rcases List.mem_cons.mp hz with rfl | hz; exact h.1; exact h2 z hz⟩
    | _ => exact absurd h.1 Bool.false_ne_true
theorem strD_map (ys : List Str) : (ys.map D.str).map strD = ys := by
  rw [List.map_map]; exact List.map_id' ys
theorem nodup_keys (ys : List Str) : ((ys.map D.str).map keyO).Nodup ↔ ys.Nodup := by
  rw [List.map_map]
  induction ys with
  | nil => simp
  | cons y ys ih =>
    rw [List.map_cons, List.nodup_cons, List.nodup_cons, ih]
    have : (keyO ∘ D.str) y ∈ ys.map (keyO ∘ D.str) ↔ y ∈ ys := by
      rw [List.mem_map]
      constructor
      · rintro ⟨z, h, e⟩
        have : z = y := Sum.inr.inj e
        exact this ▸ h
      · intro h
        exact ⟨y, h, rfl⟩
    rw [this]
theorem all_is_word {i : Nat} {lo : Lo} (hi : ∀ d, ((lo.set i (some d))[i]?) = some (some d)) (hz : xs.length ≤ 1000) (h : ∀ x ∈ xs, Kn s x) : compR (.nm i) (fun _ => DL.ret true) (mCall 1 m_is_word (mCons (getV i) mNil)) none lo xs [] s = .ok ((xs.map wordB).map D.bl) s := by
  rw [compR_map (fun d => .bl (wordB d)), List.nil_append, List.map_map]
  · rfl
  · rw [List.length_nil]; exact few (by omega)
  · intro d hd
    refine ⟨_, rfl, rfl, ?_⟩
    push_cast [getV_at (hi d), is_word_ok (h d hd).1 (h d hd).2]
theorem all_lword {i : Nat} {lo : Lo} (hi : ∀ d, ((lo.set i (some d))[i]?) = some (some d)) (hz : xs.length ≤ 1000) (h : ∀ x ∈ xs, Kn s x) : compR (.nm i) (fun _ => DL.ret true) (mCall 1 m_law_is_word (mCons (getV i) mNil)) none lo xs [] s = .ok ((xs.map wordB).map D.bl) s := by
  rw [compR_map (fun d => .bl (wordB d)), List.nil_append, List.map_map]
  · rfl
  · rw [List.length_nil]; exact few (by omega)
  · intro d hd
    refine ⟨_, rfl, rfl, ?_⟩
    push_cast [getV_at (hi d), lword_ok (h d hd).1 (h d hd).2]
theorem all_id (f : D → Bool) : (xs.map f).all id = xs.all f := by rw [List.all_map]; rfl
theorem are_words_ok {hi : Nat} (hh : hi ≤ 1000) (h : ∀ x ∈ xs, Kn s x) : m_are_words [.tup xs, .int hi] s = .ok (.bl (unlB 1 hi xs)) s := by
  unfold m_are_words b_are_words
  push_cast [len_tup]
  cases h1 : decide ((1 : Int) ≤ (xs.length : Int)) with
  | false =>
    push_cast [h1]
    rw [decide_eq_false_iff_not] at h1
    unfold unlB
    rw [decide_eq_false (show ¬ 1 ≤ xs.length by omega)]; rfl
  | true =>
    rw [decide_eq_true_eq] at h1
    cases h8 : decide ((xs.length : Int) ≤ hi) with
    | false =>
      push_cast [len_tup, h8]
      rw [decide_eq_false_iff_not] at h8
      unfold unlB
      rw [decide_eq_false (show ¬ xs.length ≤ hi by omega), Bool.and_false]; rfl
    | true =>
      rw [decide_eq_true_eq] at h8
      have hz : xs.length ≤ 1000 := by omega
      have hc := all_is_word (i := 2) (lo := [some (.tup xs), some (.int hi), none]) (fun _ => rfl) hz h
      push_cast [len_tup, hc, all_id, h8]
      unfold unlB
      rw [decide_eq_true (show 1 ≤ xs.length by omega), decide_eq_true (show xs.length ≤ hi by omega)]
      cases ha : xs.all wordB with
      | false => push_cast []
      | true =>
        push_cast []
        obtain ⟨ys, rfl, hy⟩ := words_str ha
        rw [setR_map keyO]
        · push_cast [len_tup]
          rw [show ((ys.map D.str).length : Int) = (((ys.map D.str).map keyO).length : Int) by simp, setLen_eq, strD_map]
          congr 2
          try simp only [Bool.true_and]
          exact decide_eq_decide.mpr (nodup_keys ys)
        · rw [List.length_nil]; omega
        · intro d hd
          obtain ⟨y, _, rfl⟩ := List.mem_map.mp hd
          exact ⟨_, _, rfl, rfl, rfl, rfl⟩
theorem are_words_no {hi : Nat} {t : Ty} (ht : tyD d s = some t) (hn : isTy t .tup = false) : m_are_words [d, .int hi] s = .ok (.bl false) s := by
  unfold m_are_words b_are_words
  push_cast [ht, hn]
theorem unlike_no {lo hi : Int} {t : Ty} (ht : tyD d s = some t) (hn : isTy t .tup = false) : m_law_unlike [d, .int lo, .int hi] s = .ok (.bl false) s := by
  unfold m_law_unlike b_law_unlike
  push_cast [ht, hn]
theorem cut_take {i : Nat} (h : i ≤ xs.length) : cutD xs none (some (i : Int)) = xs.take i := by
  unfold cutD
  rw [HT.sIx_none, HT.sIx_nat, List.drop_zero, Nat.sub_zero, Nat.min_eq_left h]
theorem numb_mem (h : d ∈ numbered xs) : ∃ i x, d = .tup [.int (i : Nat), x] ∧ xs[i]? = some x := by
  obtain ⟨⟨x, i⟩, h1, rfl⟩ := List.mem_map.mp h
  exact ⟨i, x, rfl, by simpa using List.mem_zipIdx_iff_getElem?.mp h1⟩
theorem numb_of {i : Nat} {x : D} (h : xs[i]? = some x) : .tup [.int (i : Nat), x] ∈ numbered xs :=
  List.mem_map.mpr ⟨(x, i), List.mem_zipIdx_iff_getElem?.mpr (by simpa using h), rfl⟩
def dupQ (ys : List Str) : D → Bool
  | .tup [.int i, x] => decide (strD x ∈ ys.take i.toNat)
  | _ => false
def sndD : D → D
  | .tup [_, x] => x
  | _ => .non
theorem unlike_ok {lo hi : Nat} (hh : hi ≤ 1000) (h : ∀ x ∈ xs, Kn s x) : m_law_unlike [.tup xs, .int lo, .int hi] s = .ok (.bl (unlB lo hi xs)) s := by
  unfold m_law_unlike b_law_unlike
  push_cast [len_tup]
  cases h1 : decide ((lo : Int) ≤ (xs.length : Int)) with
  | false =>
    push_cast [h1]
    rw [decide_eq_false_iff_not] at h1
    unfold unlB
    rw [decide_eq_false (show ¬ lo ≤ xs.length by omega)]; rfl
  | true =>
    rw [decide_eq_true_eq] at h1
    cases h8 : decide ((xs.length : Int) ≤ hi) with
    | false =>
      push_cast [len_tup, h8]
      rw [decide_eq_false_iff_not] at h8
      unfold unlB
      rw [decide_eq_false (show ¬ xs.length ≤ hi by omega), Bool.and_false]; rfl
    | true =>
      rw [decide_eq_true_eq] at h8
      have hz : xs.length ≤ 1000 := by omega
      have hc := all_lword (i := 3) (lo := [some (.tup xs), some (.int lo), some (.int hi), none, none]) (fun _ => rfl) hz h
      push_cast [len_tup, hc, all_id, h8]
      unfold unlB
      rw [decide_eq_true (show lo ≤ xs.length by omega), decide_eq_true (show xs.length ≤ hi by omega)]
      cases ha : xs.all wordB with
      | false => push_cast []
      | true =>
        obtain ⟨ys, rfl, hy⟩ := words_str ha
        push_cast [enumT_ap (few (Nat.le_trans hz (by decide)))]
        rw [compR_filter (dupQ ys) sndD]
        · push_cast [len_lst, List.length_map, strD_map, Bool.true_and]
          congr 2
          apply decide_eq_decide.mpr
          rw [show ((((numbered (ys.map D.str)).filter (dupQ ys)).length : Int) = 0) ↔ ((numbered (ys.map D.str)).filter (dupQ ys)).length = 0 by omega, List.length_eq_zero_iff, List.filter_eq_nil_iff, nodup_take]
          constructor
          · intro q i x hx hm
            have := q _ (numb_of (x := .str x) (i := i) (by rw [List.getElem?_map, hx]; rfl))
            apply this
            show decide (strD (.str x) ∈ ys.take (i : Int).toNat) = true
            exact decide_eq_true (by simpa [strD] using hm)
          · intro q d hd hm
            obtain ⟨i, x, rfl, hx⟩ := numb_mem hd
            rw [List.getElem?_map, Option.map_eq_some_iff] at hx
            obtain ⟨y, hy, rfl⟩ := hx
            exact q i y hy (by have hm : decide (strD (.str y) ∈ ys.take (i : Int).toNat) = true := hm; simpa [strD] using of_decide_eq_true hm)
        · rw [List.length_nil]
          exact few (by simp [DL.numbered] at hz ⊢; omega)
        · intro d hd
          obtain ⟨i, x, rfl, hx⟩ := numb_mem hd
          have hi := (List.getElem?_eq_some_iff.mp hx).1
          rw [List.getElem?_map, Option.map_eq_some_iff] at hx
          obtain ⟨y, hy, rfl⟩ := hx
          refine ⟨_, rfl, ?_, fun _ => ?_⟩
          · push_cast [fCut, cut_take (Nat.le_of_lt hi)]
            rw [← List.map_take, inX_strs]
            push_cast []
            rfl
          · push_cast []
            rfl
end PG
set_option Elab.async false
set_option linter.all false
set_option maxRecDepth 100000
set_option maxHeartbeats 4000000
/-! PGc: forms, looked at by the program and by the laws. -/
namespace PG
open PySem L2 DL
local macro_rules
  | `(tactic| push_cast [$as,*]) => `(tactic| simp only [optR_some, bd_ok, bd_exc, bd_bad, noX_ok, bs_ok, bs_exc, bs_bad, ret_ok, gv_cons, gv_zero, c2Bin_ap, c1Bin_ap, e_bin, c2BinM_ap, c1BinM_ap, e_binM, asB_bl, e_B, cTru_ap, e_Tru, cAndB_t, cAndB_f, e_AndB, cOrB_t, cOrB_f, e_OrB, cNotB_ap, e_NotB, cAnd2_t, cAnd2_f, cAnd_ap, e_And, cOr2_t, cOr2_f, cOr_ap, e_Or, cNot2_ap, cNot_ap, e_Not, cIfE_t, cIfE_f, e_IfE, cCh3_t, cCh3_f, cCh2_ap, cCh1_ap, e_Chain, e_Nil, c2Cons_ap, c1Cons_ap, e_Cons, cTup0, cLst0, cLstL0, cTup1, cLst1, cLstL1, cTup2, cLst2, cLstL2, cTup3, cLst3, cLstL3, cTup4, cLst4, cLstL4, cTup5, cLst5, cLstL5, cTup6, cLst6, cLstL6, cTup7, cLst7, cLstL7, cTup8, cLst8, cLstL8, cTup9, cLst9, cLstL9, cTup10, cLst10, cLstL10, cTup11, cLst11, cLstL11, cTup12, cLst12, cLstL12, cTup13, cLst13, cLstL13, cTup14, cLst14, cLstL14, cTup15, cLst15, cLstL15, cTup16, cLst16, cLstL16, cTup17, cLst17, cLstL17, cTup18, cLst18, cLstL18, cTup19, cLst19, cLstL19, cTup20, cLst20, cLstL20, cTup21, cLst21, cLstL21, cTup22, cLst22, cLstL22, e_Tup, e_Lst, e_LstL, cCB_ap, e_CB, cCM_ap, e_CM, cIsi2_ap, cIsi_ap, e_Isi, cIsiT2_ap, cIsiT_ap, e_IsiT, cNeg_int, e_Neg, cCall0, cCall1, cCall2, cCall3, cCall4, cCall5, cCall6, cCall7, e_Call, asI_int, e_Part, cCut3_ap, cCut2_ap, cCut1_ap, e_Cut, cJoin2_ap, cJoin1_ap, e_Join, cMeth2_ap, cMeth3_t, cMeth1_ap, e_Meth, cIter_ap, e_Iter, e_Rng1, e_Rng2, e_EnumT, cComp2_ap, cComp_ap, e_Comp, cCompX_ap, e_CompX, finD_t, finD_f, wipe_nil, wipe_cons, cmp_nil, cmpx_nil, cmp_cons, cmpx_cons, cCp2_t, cCp2_f, cCp1_ap, cCx2_t, cCx2_f, cCx1_ap, cCp3_0, cCx3_0, cCp3_1, cCx3_1, cCp3_2, cCx3_2, cCp3_3, cCx3_3, cCp3_4, cCx3_4, cCp3_5, cCx3_5, cCp3_6, cCx3_6, cCp3_7, cCx3_7, cSet2_ap, cSet_ap, e_LenSet, cMaxD_ap, e_MaxD, cCnt2_ap, cCnt_ap, e_Count, e_Fld, e_Isx, seqS_nx, seqS_rt, seqS_bk, seqS_ct, seqS_exc, e_seq, e_ret, cExpr_ap, e_expr, cIf_t, cIf_f, e_if, cSetS_nm, cSetS_tp2, cSetS_tp3, e_set, setT_nm, setT_tp2, setT_tp3, optS_some, cSt3_ap, cSt2_ap, cSt1_ap, e_store, cFor_ap, e_for, for_nil, cFor2_nx, cFor2_ct, cFor2_bk, cFor2_rt, cFor2_exc, for_cons1, for_cons2, cRaise0, cRaise1, cRaise2, e_raise, callR_nx, callR_rt, callR_exc, callF_eq, tryK_nx, tryK_rt, e_try, unS_nx, unS_rt, List.map_cons, List.map_nil, List.cons_append, List.nil_append, List.replicate, Nat.reduceSub, List.set_cons_succ, List.set_cons_zero, nAdd_int, nSub_int, nLt_int, nLe_int, nGt_int, nGe_int, fEq_int, fNe_int, fEq_str, fNe_str, nTru_bl, nMax_int, nMin_int, nInt_bl, nIx_lst, nIx_tup, nIx_scr, atI_0, atI_1, Bool.not_true, Bool.not_false, decide_true, decide_false, Option.some.injEq, reduceIte, ty_non, ty_bl, ty_int, ty_str, ty_lst, ty_tup, ty_dct, ty_scr, is_non_non, is_non_bl, is_non_int, is_non_str, is_non_lst, is_non_tup, is_non_dct, is_bl_non, is_bl_bl, is_bl_int, is_bl_str, is_bl_lst, is_bl_tup, is_bl_dct, is_int_non, is_int_bl, is_int_int, is_int_str, is_int_lst, is_int_tup, is_int_dct, is_str_non, is_str_bl, is_str_int, is_str_str, is_str_lst, is_str_tup, is_str_dct, is_lst_non, is_lst_bl, is_lst_int, is_lst_str, is_lst_lst, is_lst_tup, is_lst_dct, is_tup_non, is_tup_bl, is_tup_int, is_tup_str, is_tup_lst, is_tup_tup, is_tup_dct, is_dct_non, is_dct_bl, is_dct_int, is_dct_str, is_dct_lst, is_dct_tup, is_dct_dct, len_t0, len_l0, len_t1, len_l1, len_t2, len_l2, len_t3, len_l3, at_3_2, len_t4, len_l4, at_4_2, at_4_3, len_t5, len_l5, at_5_2, at_5_3, at_5_4, len_t6, len_l6, at_6_2, at_6_3, at_6_4, at_6_5, len_t7, len_l7, at_7_2, at_7_3, at_7_4, at_7_5, at_7_6, len_t8, len_l8, at_8_2, at_8_3, at_8_4, at_8_5, at_8_6, at_8_7, tru_tup, tru_lst, tru_int, tru_non, it_lst, it_tup, it_scr, it_str, isn_non, isnt_non, isn_tup, isnt_tup, isn_lst, isnt_lst, isn_int, isn_str, isnt_int, isnt_str, isn_loc, isnt_loc, isn_exn, isnt_exn, tupX_tup, tupX_lst, lst_tup, lst_lst, inX_2, inX_t2, eqX_nil, isLst_lst, sgn_in, sgn_notIn, all_bls, sum_ints, maxD_ints, Int.reduceAdd, Int.reduceSub, Int.reduceMul, Int.reduceNeg, Int.reduceLT, Int.reduceLE, Int.reduceEq, Int.reduceToNat, Nat.reduceAdd, Nat.reduceMul, Nat.reduceEqDiff, Int.reduceMod, Int.reduceDiv, Bool.or_true, Bool.true_or, Bool.or_false, Bool.false_or, Bool.and_true, Bool.true_and, Bool.and_false, Bool.false_and, ne_number_text, ne_number_choice, ne_number_record, ne_number_list, ne_number_map, ne_text_number, ne_text_choice, ne_text_record, ne_text_list, ne_text_map, ne_choice_number, ne_choice_text, ne_choice_record, ne_choice_list, ne_choice_map, ne_record_number, ne_record_text, ne_record_choice, ne_record_list, ne_record_map, ne_list_number, ne_list_text, ne_list_choice, ne_list_record, ne_list_map, ne_map_number, ne_map_text, ne_map_choice, ne_map_record, ne_map_list, $as,*])
variable {s : Sto} {d a b : D} {x : Str} {t : Ty} {xs : List D}
theorem _root_.DL.Rd.kn {n w : Nat} (h : Rd s n w d) (hw : w ≤ 1000000) : Kn s d :=
  ⟨h.ty, fun x e => by subst e; have := h.str; exact few (by omega)⟩
/-! ### rooms -/
def pairB : D → Bool
  | .tup [_, _] => true
  | _ => false
def fstD : D → D
  | .tup [a, _] => a
  | _ => .non
def roomB : D → Bool
  | .tup [a, _] => wordB a
  | _ => false
/-- an item whose parts are known -/
def Kn2 (s : Sto) (d : D) : Prop := Kn s d ∧ ∀ xs, d = .tup xs → ∀ x ∈ xs, Kn s x
theorem pair_not {xs : List D} (h : xs.length ≠ 2) : pairB (.tup xs) = false ∧ roomB (.tup xs) = false := by
  match xs, h with
  | [], _ => exact ⟨rfl, rfl⟩
  | [_], _ => exact ⟨rfl, rfl⟩
  | [_, _], h => exact absurd rfl h
  | _ :: _ :: _ :: _, _ => exact ⟨rfl, rfl⟩
theorem pair_two {xs : List D} (h : xs.length = 2) : ∃ a b, xs = [a, b] := by
  match xs, h with
  | [a, b], _ => exact ⟨a, b, rfl⟩
theorem rooms_loop {th : D} : ∀ (rs : List D) (y : Option D), (∀ r ∈ rs, Kn2 s r) →
    (rs.all roomB = true ∧ ∃ z, forS (.nm 1) (mIf (mOrB (mNotB (mTru (mIsi .tup (getV 1)))) (mOrB (mB (mBin fNe (mCB fLen (mCons (getV 1) mNil)) (fun _ => DL.ret (.int 2)))) (mNotB (mTru (mCall 1 (m_is_word) (mCons (mBin fIx (getV 1) (fun _ => DL.ret (.int 0))) mNil)))))) (mRet (fun _ => DL.ret (.bl false))) .nx) none rs [some th, y] s = .nx [some th, z] s) ∨
    (rs.all roomB = false ∧ forS (.nm 1) (mIf (mOrB (mNotB (mTru (mIsi .tup (getV 1)))) (mOrB (mB (mBin fNe (mCB fLen (mCons (getV 1) mNil)) (fun _ => DL.ret (.int 2)))) (mNotB (mTru (mCall 1 (m_is_word) (mCons (mBin fIx (getV 1) (fun _ => DL.ret (.int 0))) mNil)))))) (mRet (fun _ => DL.ret (.bl false))) .nx) none rs [some th, y] s = .rt (.bl false) s)
  | [], y, _ => .inl ⟨rfl, y, rfl⟩
  | r :: rs, y, h => by
    have hr := h r List.mem_cons_self
    have ih := rooms_loop (th := th) rs (some r) fun r hr => h r (List.mem_cons_of_mem _ hr)
    obtain ⟨t, ht⟩ := hr.1.1
    rcases ty_tup_or ht with ⟨xs, rfl⟩ | hn
    · by_cases h2 : xs.length = 2
      · obtain ⟨a, b, rfl⟩ := pair_two h2
        have ha := hr.2 _ rfl a (by simp)
        push_cast [is_word_ok ha.1 ha.2]
        cases hw : wordB a with
        | true =>
          push_cast []
          rw [List.all_cons, show roomB (.tup [a, b]) = true from hw, Bool.true_and]
          exact ih
        | false =>
          push_cast []
          rw [List.all_cons, show roomB (.tup [a, b]) = false from hw]
          exact .inr ⟨by rfl, by first | rfl | trivial⟩
      · push_cast [len_tup, show decide ((xs.length : Int) = 2) = false from decide_eq_false (by omega)]
        rw [List.all_cons, (pair_not h2).2]
        exact .inr ⟨by rfl, by first | rfl | trivial⟩
    · push_cast [ht, hn]
      have : roomB r = false := by
        unfold roomB
        split
        · cases ht; cases hn
        · rfl
      rw [List.all_cons, this]
      exact .inr ⟨by rfl, by first | rfl | trivial⟩
theorem rooms_pairs {rs : List D} (h : rs.all roomB = true) : rs.all pairB = true ∧ (rs.map fstD).all wordB = true := by
  induction rs with
  | nil => exact ⟨rfl, rfl⟩
  | cons r rs ih =>
    rw [List.all_cons, Bool.and_eq_true] at h
    obtain ⟨h1, h2⟩ := ih h.2
    unfold roomB at h
    split at h
    · exact ⟨by rw [List.all_cons, h1]; rfl, by rw [List.map_cons, List.all_cons, h2, Bool.and_true]; exact h.1⟩
    · exact absurd h.1 Bool.false_ne_true
theorem pairs_rooms {rs : List D} (h : rs.all pairB = true) : rs.all roomB = (rs.map fstD).all wordB := by
  induction rs with
  | nil => rfl
  | cons r rs ih =>
    rw [List.all_cons, Bool.and_eq_true] at h
    rw [List.map_cons, List.all_cons, List.all_cons, ih h.2]
    congr 1
    unfold pairB at h
    split at h
    · rfl
    · exact absurd h.1 Bool.false_ne_true
def roomsB (rs : List D) : Bool := rs.all pairB && unlB 0 6 (rs.map fstD)
theorem are_rooms_ok {rs : List D} (h : ∀ r ∈ rs, Kn2 s r) : m_are_rooms [.tup rs] s = .ok (.bl (roomsB rs)) s := by
  unfold m_are_rooms b_are_rooms
  push_cast [len_tup, k_MOST_ROOMS]
  unfold roomsB unlB
  rw [List.length_map]
  cases h6 : decide ((6 : Int) < (rs.length : Int)) with
  | true =>
    push_cast []
    rw [decide_eq_true_eq] at h6
    rw [decide_eq_false (show ¬ rs.length ≤ 6 by omega)]
    simp
  | false =>
    rw [decide_eq_false_iff_not] at h6
    rw [decide_eq_true (show rs.length ≤ 6 by omega)]
    push_cast []
    rcases rooms_loop (th := .tup rs) rs none h with ⟨h1, z, h2⟩ | ⟨h1, h2⟩
    · push_cast [h2, len_tup]
      obtain ⟨q1, q2⟩ := rooms_pairs h1
      rw [q1, q2]
      obtain ⟨ys, hy, _⟩ := words_str q2
      rw [setR_map (fun r => keyO (fstD r))]
      · push_cast [len_tup]
        rw [show (rs.map fun r => keyO (fstD r)) = (rs.map fstD).map keyO by rw [List.map_map]; rfl, show (rs.length : Int) = (((rs.map fstD).map keyO).length : Int) by simp, setLen_eq, hy, strD_map]
        congr 2
        simp only [Bool.true_and, decide_true, Nat.zero_le]
        exact decide_eq_decide.mpr (nodup_keys ys)
      · rw [List.length_nil]; omega
      · intro r hr
        have hp := List.all_eq_true.mp h1 r hr
        unfold roomB at hp
        split at hp
        · rename_i a b
          unfold wordB at hp
          split at hp
          · rename_i x
            refine ⟨_, .str x, rfl, rfl, ?_, rfl⟩
            push_cast []
          · cases hp
        · cases hp
    · push_cast [h2]
      cases hp : rs.all pairB with
      | false => rfl
      | true =>
        rw [pairs_rooms hp] at h1
        rw [h1, Bool.and_false, Bool.false_and]; rfl
theorem are_rooms_no {t : Ty} (ht : tyD d s = some t) (hn : isTy t .tup = false) : m_are_rooms [d] s = .ok (.bl false) s := by
  unfold m_are_rooms b_are_rooms
  push_cast [ht, hn]
/-! ### forms -/
def PlOk (pl : List D) : Prop := ∀ x ∈ pl, ∃ y, x = .str y ∧ y.length ≤ 8 ∧ ∀ c ∈ y.cps.toList, c < 128
theorem wordX_ok {y : Str} (h : wordX y = true) : y.length ≤ 8 ∧ ∀ c ∈ y.cps.toList, c < 128 := by
  unfold wordX at h
  simp only [Bool.and_eq_true, decide_eq_true_eq, List.all_eq_true] at h
  have : ∀ c ∈ abc, c < 128 := by decide
  exact ⟨h.1.2, fun c hc => this c (h.2 c hc)⟩
def Same (r1 r2 r3 : R D) (s : Sto) (m : Nat) : Prop :=
  (∃ a b : Int, r1 = .ok (.tup [.int a, .int b]) s ∧ r2 = .ok .non s ∧ r3 = .ok (.tup [.int a, .int b]) s) ∨
  (∃ q : List D, r1 = .exc ⟨"NoForm", ["place"], [.tup q]⟩ s ∧ r2 = .ok (.tup q) s ∧ PlOk q ∧ q.length ≤ m)
def prD (p : Int × Int) : D := .tup [.int p.1, .int p.2]
theorem comp_fst {i j : Nat} {lo : Lo} (hi : ∀ a b, ((lo.set i (some a)).set j (some b))[i]? = some (some a)) (l : List (Int × Int)) (hz : l.length ≤ 1000) :
    compR (.tp [i, j]) (fun _ => DL.ret true) (getV i) none lo (l.map prD) [] s = .ok ((l.map (·.1)).map D.int) s := by
  rw [compR_map (fun d => match d with | .tup [a, _] => a | _ => .non), List.nil_append, List.map_map, List.map_map]
  · rfl
  · rw [List.length_nil, List.length_map]; exact few (by omega)
  · intro d hd
    obtain ⟨p, _, rfl⟩ := List.mem_map.mp hd
    exact ⟨_, rfl, rfl, getV_at (hi _ _)⟩
theorem comp_snd {i j : Nat} {lo : Lo} (hi : ∀ a b, ((lo.set i (some a)).set j (some b))[j]? = some (some b)) (l : List (Int × Int)) (hz : l.length ≤ 1000) :
    compR (.tp [i, j]) (fun _ => DL.ret true) (getV j) none lo (l.map prD) [] s = .ok ((l.map (·.2)).map D.int) s := by
  rw [compR_map (fun d => match d with | .tup [_, b] => b | _ => .non), List.nil_append, List.map_map, List.map_map]
  · rfl
  · rw [List.length_nil, List.length_map]; exact few (by omega)
  · intro d hd
    obtain ⟨p, _, rfl⟩ := List.mem_map.mp hd
    exact ⟨_, rfl, rfl, getV_at (hi _ _)⟩
/-- thing in [("number",), ("text",)] -/
theorem in_leaf {w : Str} {r : List D} : fInX (.tup (.str w :: r)) (.lst [.tup [.str "number"], .tup [.str "text"]]) s = some (.bl ((decide (w = "number") || decide (w = "text")) && decide (r.length = 0))) := by
  have e1 : ∀ z : Str, eqX s 60 (.tup [.str z]) (.tup (.str w :: r)) = some (decide (w = z) && decide (r.length = 0)) := by
    intro z
    show eqW (eqX s 59) (.tup [.str z]) (.tup (.str w :: r)) = _
    show (zipE (eqX s 59) [D.str z] (D.str w :: r)).map (fun k => k && decide (([D.str z]).length = (D.str w :: r).length)) = _
    unfold zipE
    rw [eqX_flat (u := .str z) (v := .str w) rfl rfl 59]
    have e2 : zipE (eqX s 59) [] r = some true := by unfold zipE; rfl
    rw [e2]
    show some ((((z == w) && true) && decide (1 = r.length + 1))) = _
    congr 1
    rw [Bool.and_true, Bool.eq_iff_iff]
    simp only [Bool.and_eq_true, beq_iff_eq, decide_eq_true_eq]
    constructor
    · rintro ⟨rfl, h⟩; exact ⟨rfl, by omega⟩
    · rintro ⟨rfl, h⟩; exact ⟨rfl, by omega⟩
  show (inX (.tup (.str w :: r)) [.tup [.str "number"], .tup [.str "text"]] s).map D.bl = _
  unfold inX
  simp only [List.map_cons, List.map_nil, e1]
  show some (D.bl ((decide (w = "number") && decide (r.length = 0)) || ((decide (w = "text") && decide (r.length = 0)) || false))) = _
  congr 2
  rw [Bool.or_false, Bool.and_or_distrib_right]
end PG
set_option Elab.async false
set_option linter.all false
set_option maxRecDepth 100000
set_option maxHeartbeats 4000000
/-! PGd: the program's look at a form and the law's tell the same. -/
namespace PG
open PySem L2 DL
local macro_rules
  | `(tactic| push_cast [$as,*]) => `(tactic| simp only [optR_some, bd_ok, bd_exc, bd_bad, noX_ok, bs_ok, bs_exc, bs_bad, ret_ok, gv_cons, gv_zero, c2Bin_ap, c1Bin_ap, e_bin, c2BinM_ap, c1BinM_ap, e_binM, asB_bl, e_B, cTru_ap, e_Tru, cAndB_t, cAndB_f, e_AndB, cOrB_t, cOrB_f, e_OrB, cNotB_ap, e_NotB, cAnd2_t, cAnd2_f, cAnd_ap, e_And, cOr2_t, cOr2_f, cOr_ap, e_Or, cNot2_ap, cNot_ap, e_Not, cIfE_t, cIfE_f, e_IfE, cCh3_t, cCh3_f, cCh2_ap, cCh1_ap, e_Chain, e_Nil, c2Cons_ap, c1Cons_ap, e_Cons, cTup0, cLst0, cLstL0, cTup1, cLst1, cLstL1, cTup2, cLst2, cLstL2, cTup3, cLst3, cLstL3, cTup4, cLst4, cLstL4, cTup5, cLst5, cLstL5, cTup6, cLst6, cLstL6, cTup7, cLst7, cLstL7, cTup8, cLst8, cLstL8, cTup9, cLst9, cLstL9, cTup10, cLst10, cLstL10, cTup11, cLst11, cLstL11, cTup12, cLst12, cLstL12, cTup13, cLst13, cLstL13, cTup14, cLst14, cLstL14, cTup15, cLst15, cLstL15, cTup16, cLst16, cLstL16, cTup17, cLst17, cLstL17, cTup18, cLst18, cLstL18, cTup19, cLst19, cLstL19, cTup20, cLst20, cLstL20, cTup21, cLst21, cLstL21, cTup22, cLst22, cLstL22, e_Tup, e_Lst, e_LstL, cCB_ap, e_CB, cCM_ap, e_CM, cIsi2_ap, cIsi_ap, e_Isi, cIsiT2_ap, cIsiT_ap, e_IsiT, cNeg_int, e_Neg, cCall0, cCall1, cCall2, cCall3, cCall4, cCall5, cCall6, cCall7, e_Call, asI_int, e_Part, cCut3_ap, cCut2_ap, cCut1_ap, e_Cut, cJoin2_ap, cJoin1_ap, e_Join, cMeth2_ap, cMeth3_t, cMeth1_ap, e_Meth, cIter_ap, e_Iter, e_Rng1, e_Rng2, e_EnumT, cComp2_ap, cComp_ap, e_Comp, cCompX_ap, e_CompX, finD_t, finD_f, wipe_nil, wipe_cons, cmp_nil, cmpx_nil, cmp_cons, cmpx_cons, cCp2_t, cCp2_f, cCp1_ap, cCx2_t, cCx2_f, cCx1_ap, cCp3_0, cCx3_0, cCp3_1, cCx3_1, cCp3_2, cCx3_2, cCp3_3, cCx3_3, cCp3_4, cCx3_4, cCp3_5, cCx3_5, cCp3_6, cCx3_6, cCp3_7, cCx3_7, cSet2_ap, cSet_ap, e_LenSet, cMaxD_ap, e_MaxD, cCnt2_ap, cCnt_ap, e_Count, e_Fld, e_Isx, seqS_nx, seqS_rt, seqS_bk, seqS_ct, seqS_exc, e_seq, e_ret, cExpr_ap, e_expr, cIf_t, cIf_f, e_if, cSetS_nm, cSetS_tp2, cSetS_tp3, e_set, setT_nm, setT_tp2, setT_tp3, optS_some, cSt3_ap, cSt2_ap, cSt1_ap, e_store, cFor_ap, e_for, for_nil, cFor2_nx, cFor2_ct, cFor2_bk, cFor2_rt, cFor2_exc, for_cons1, for_cons2, cRaise0, cRaise1, cRaise2, e_raise, callR_nx, callR_rt, callR_exc, callF_eq, tryK_nx, tryK_rt, e_try, unS_nx, unS_rt, List.map_cons, List.map_nil, List.cons_append, List.nil_append, List.replicate, Nat.reduceSub, List.set_cons_succ, List.set_cons_zero, nAdd_int, nSub_int, nLt_int, nLe_int, nGt_int, nGe_int, fEq_int, fNe_int, fEq_str, fNe_str, nTru_bl, nMax_int, nMin_int, nInt_bl, nIx_lst, nIx_tup, nIx_scr, atI_0, atI_1, Bool.not_true, Bool.not_false, decide_true, decide_false, Option.some.injEq, reduceIte, ty_non, ty_bl, ty_int, ty_str, ty_lst, ty_tup, ty_dct, ty_scr, is_non_non, is_non_bl, is_non_int, is_non_str, is_non_lst, is_non_tup, is_non_dct, is_bl_non, is_bl_bl, is_bl_int, is_bl_str, is_bl_lst, is_bl_tup, is_bl_dct, is_int_non, is_int_bl, is_int_int, is_int_str, is_int_lst, is_int_tup, is_int_dct, is_str_non, is_str_bl, is_str_int, is_str_str, is_str_lst, is_str_tup, is_str_dct, is_lst_non, is_lst_bl, is_lst_int, is_lst_str, is_lst_lst, is_lst_tup, is_lst_dct, is_tup_non, is_tup_bl, is_tup_int, is_tup_str, is_tup_lst, is_tup_tup, is_tup_dct, is_dct_non, is_dct_bl, is_dct_int, is_dct_str, is_dct_lst, is_dct_tup, is_dct_dct, len_t0, len_l0, len_t1, len_l1, len_t2, len_l2, len_t3, len_l3, at_3_2, len_t4, len_l4, at_4_2, at_4_3, len_t5, len_l5, at_5_2, at_5_3, at_5_4, len_t6, len_l6, at_6_2, at_6_3, at_6_4, at_6_5, len_t7, len_l7, at_7_2, at_7_3, at_7_4, at_7_5, at_7_6, len_t8, len_l8, at_8_2, at_8_3, at_8_4, at_8_5, at_8_6, at_8_7, tru_tup, tru_lst, tru_int, tru_non, it_lst, it_tup, it_scr, it_str, isn_non, isnt_non, isn_tup, isnt_tup, isn_lst, isnt_lst, isn_int, isn_str, isnt_int, isnt_str, isn_loc, isnt_loc, isn_exn, isnt_exn, tupX_tup, tupX_lst, lst_tup, lst_lst, inX_2, inX_t2, eqX_nil, isLst_lst, sgn_in, sgn_notIn, all_bls, sum_ints, maxD_ints, Int.reduceAdd, Int.reduceSub, Int.reduceMul, Int.reduceNeg, Int.reduceLT, Int.reduceLE, Int.reduceEq, Int.reduceToNat, Nat.reduceAdd, Nat.reduceMul, Nat.reduceEqDiff, Int.reduceMod, Int.reduceDiv, Bool.or_true, Bool.true_or, Bool.or_false, Bool.false_or, Bool.and_true, Bool.true_and, Bool.and_false, Bool.false_and, ne_number_text, ne_number_choice, ne_number_record, ne_number_list, ne_number_map, ne_text_number, ne_text_choice, ne_text_record, ne_text_list, ne_text_map, ne_choice_number, ne_choice_text, ne_choice_record, ne_choice_list, ne_choice_map, ne_record_number, ne_record_text, ne_record_choice, ne_record_list, ne_record_map, ne_list_number, ne_list_text, ne_list_choice, ne_list_record, ne_list_map, ne_map_number, ne_map_text, ne_map_choice, ne_map_record, ne_map_list, $as,*])
variable {s : Sto} {d a b : D} {x : Str} {t : Ty} {xs r : List D}
abbrev NF (q : List D) : Xn := ⟨"NoForm", ["place"], [.tup q]⟩
theorem head_no (ht : tyD d s = some t) (hn : isTy t .tup = false) : m_is_head [d] s = .ok (.bl false) s := by
  unfold m_is_head b_is_head; push_cast [ht, hn]
theorem head_nil : m_is_head [.tup []] s = .ok (.bl false) s := by
  unfold m_is_head b_is_head; push_cast []
theorem head_cons (ht : tyD a s = some t) : m_is_head [.tup (a :: r)] s = .ok (.bl (isTy t .str)) s := by
  unfold m_is_head b_is_head; push_cast [len_tup, show decide ((0 : Int) < ((a :: r).length : Int)) = true from decide_eq_true (by simp only [List.length_cons]; omega), ht]
theorem look_raise {k : Nat} {pl : List D} {deep : Int} (h : m_is_head [d] s = .ok (.bl false) s) : m_look_within (k + 1) [d, .tup pl, .int deep] s = .exc (NF pl) s := by
  show callF 9 3 (b_look_within (m_look_within k)) _ s = _
  unfold b_look_within
  push_cast [h]
theorem same_no {k : Nat} {pl : List D} {deep : Int} (ht : tyD d s = some t) (hn : isTy t .tup = false) (hp : PlOk pl) (hl : pl.length ≤ 100) : Same (m_look_within (k + 1) [d, .tup pl, .int deep] s) (m_law_wrong (k + 1) [d, .tup pl] s) (m_law_size (k + 1) [d] s) s 100 := by
  refine .inr ⟨pl, look_raise (head_no ht hn), ?_, hp, hl⟩
  show callF 6 2 (b_law_wrong (m_law_wrong k)) _ s = _
  unfold b_law_wrong
  push_cast [ht, hn]
theorem same_nil {k : Nat} {pl : List D} {deep : Int} (hp : PlOk pl) (hl : pl.length ≤ 100) : Same (m_look_within (k + 1) [.tup [], .tup pl, .int deep] s) (m_law_wrong (k + 1) [.tup [], .tup pl] s) (m_law_size (k + 1) [.tup []] s) s 100 := by
  refine .inr ⟨pl, look_raise head_nil, ?_, hp, hl⟩
  show callF 6 2 (b_law_wrong (m_law_wrong k)) _ s = _
  unfold b_law_wrong
  push_cast []
theorem same_nostr {k : Nat} {pl : List D} {deep : Int} (ht : tyD a s = some t) (hn : isTy t .str = false) (hp : PlOk pl) (hl : pl.length ≤ 100) : Same (m_look_within (k + 1) [.tup (a :: r), .tup pl, .int deep] s) (m_law_wrong (k + 1) [.tup (a :: r), .tup pl] s) (m_law_size (k + 1) [.tup (a :: r)] s) s 100 := by
  refine .inr ⟨pl, look_raise (by rw [head_cons ht, hn]), ?_, hp, hl⟩
  show callF 6 2 (b_law_wrong (m_law_wrong k)) _ s = _
  unfold b_law_wrong
  push_cast [len_tup, show decide (((a :: r).length : Int) = 0) = false from decide_eq_false (by simp; omega), ht, hn]
/-- what look_within does with a leaf, by the number of its things -/
theorem look_one {k : Nat} {pl : List D} {w : Str} {deep : Int} (hd : ¬ (46 : Int) < deep) (hl : w = "number" ∨ w = "text") : m_look_within (k + 1) [.tup [.str w], .tup pl, .int deep] s = .ok (.tup [.int 1, .int 1]) s := by
  show callF 9 3 (b_look_within (m_look_within k)) _ s = _
  unfold b_look_within
  rcases hl with rfl | rfl <;> push_cast [head_cons ty_str, hd, k_MOST_DEEP, k_MOST_PARTS, k_LEAVES]
theorem wrong_one {k : Nat} {pl : List D} {w : Str} (hl : w = "number" ∨ w = "text") : m_law_wrong (k + 1) [.tup [.str w], .tup pl] s = .ok .non s := by
  show callF 6 2 (b_law_wrong (m_law_wrong k)) _ s = _
  unfold b_law_wrong
  rcases hl with rfl | rfl <;> push_cast [in_leaf, List.length_nil]
theorem size_leaf {k : Nat} {w : Str} (h1 : ¬ w = "list") (h2 : ¬ w = "map") (h3 : ¬ w = "record") : m_law_size (k + 1) [.tup (.str w :: r)] s = .ok (.tup [.int 1, .int 1]) s := by
  show callF 6 1 (b_law_size (m_law_size k)) _ s = _
  unfold b_law_size
  push_cast [h1, h2, h3]
  rfl
/-- one thing or more than two, and no leaf -/
theorem look_odd {k : Nat} {pl : List D} {w : Str} {deep : Int} (hd : ¬ (46 : Int) < deep) (h2 : r.length ≠ 1) (hl : r.length = 0 → ¬ w = "number" ∧ ¬ w = "text") : m_look_within (k + 1) [.tup (.str w :: r), .tup pl, .int deep] s = .exc (NF pl) s := by
  have e1 : decide (((D.str w :: r).length : Int) = 2) = false := decide_eq_false (by simp only [List.length_cons]; omega)
  have e0 : ((decide (w = "number") || decide (w = "text")) && decide (((D.str w :: r).length : Int) = 1)) = false := by
    rw [Bool.and_eq_false_iff]
    by_cases h0 : r.length = 0
    · left; obtain ⟨q1, q2⟩ := hl h0; simp [q1, q2]
    · right; exact decide_eq_false (by simp only [List.length_cons]; omega)
  show callF 9 3 (b_look_within (m_look_within k)) _ s = _
  unfold b_look_within
  cases hb : (decide (w = "number") || decide (w = "text")) with
  | false =>
    push_cast [head_cons ty_str, hd, k_MOST_DEEP, k_MOST_PARTS, k_LEAVES, k_MANY, hb, len_tup, e1]
    cases h3 : decide (w = "choice") <;> cases h4 : (decide (w = "list") || decide (w = "map")) <;> cases h5 : decide (w = "record") <;> push_cast [h3, h4, h5, len_tup, e1]
  | true =>
    rw [hb, Bool.true_and] at e0
    push_cast [head_cons ty_str, hd, k_MOST_DEEP, k_MOST_PARTS, k_LEAVES, k_MANY, hb, len_tup, e1, e0]
    cases h3 : decide (w = "choice") <;> cases h4 : (decide (w = "list") || decide (w = "map")) <;> cases h5 : decide (w = "record") <;> push_cast [h3, h4, h5, len_tup, e1]
theorem wrong_odd {k : Nat} {pl : List D} {w : Str} (h2 : r.length ≠ 1) (hl : r.length = 0 → ¬ w = "number" ∧ ¬ w = "text") : m_law_wrong (k + 1) [.tup (.str w :: r), .tup pl] s = .ok (.tup pl) s := by
  have e1 : decide (((D.str w :: r).length : Int) = 2) = false := decide_eq_false (by simp only [List.length_cons]; omega)
  have e2 : decide (((D.str w :: r).length : Int) = 0) = false := decide_eq_false (by simp only [List.length_cons]; omega)
  have e0 : ((decide (w = "number") || decide (w = "text")) && decide (r.length = 0)) = false := by
    rw [Bool.and_eq_false_iff]
    by_cases h0 : r.length = 0
    · left; obtain ⟨q1, q2⟩ := hl h0; simp [q1, q2]
    · right; exact decide_eq_false h0
  show callF 6 2 (b_law_wrong (m_law_wrong k)) _ s = _
  unfold b_law_wrong
  push_cast [len_tup, e2, in_leaf, e0, e1]
/-- two things: no word of a form with a thing in it -/
theorem look_two {k : Nat} {pl : List D} {w : Str} {deep : Int} (hd : ¬ (46 : Int) < deep) (h1 : ¬ w = "choice") (h2 : ¬ w = "list") (h3 : ¬ w = "map") (h4 : ¬ w = "record") : m_look_within (k + 1) [.tup [.str w, b], .tup pl, .int deep] s = .exc (NF pl) s := by
  show callF 9 3 (b_look_within (m_look_within k)) _ s = _
  unfold b_look_within
  cases hb : (decide (w = "number") || decide (w = "text")) <;> push_cast [head_cons ty_str, hd, k_MOST_DEEP, k_MOST_PARTS, k_LEAVES, k_MANY, hb, h1, h2, h3, h4]
theorem wrong_two {k : Nat} {pl : List D} {w : Str} (h1 : ¬ w = "choice") (h2 : ¬ w = "list") (h3 : ¬ w = "map") (h4 : ¬ w = "record") : m_law_wrong (k + 1) [.tup [.str w, b], .tup pl] s = .ok (.tup pl) s := by
  show callF 6 2 (b_law_wrong (m_law_wrong k)) _ s = _
  unfold b_law_wrong
  push_cast [in_leaf, List.length_singleton, h1, h2, h3, h4]
theorem same_choice {k : Nat} {pl : List D} {deep : Int} (hd : ¬ (46 : Int) < deep) (hk : ∃ t, tyD b s = some t) (hb : ∀ xs, b = .tup xs → ∀ x ∈ xs, Kn s x) (hp : PlOk pl) (hl : pl.length ≤ 100) :
    Same (m_look_within (k + 1) [.tup [.str "choice", b], .tup pl, .int deep] s) (m_law_wrong (k + 1) [.tup [.str "choice", b], .tup pl] s) (m_law_size (k + 1) [.tup [.str "choice", b]] s) s 100 := by
  obtain ⟨t, ht⟩ := hk
  have e : ∃ q, m_are_words [b, .int 6] s = .ok (.bl q) s ∧ m_law_unlike [b, .int 1, .int 6] s = .ok (.bl q) s := by
    rcases ty_tup_or ht with ⟨xs, rfl⟩ | hn
    · exact ⟨_, are_words_ok (hi := 6) (by decide) (hb xs rfl), unlike_ok (lo := 1) (hi := 6) (by decide) (hb xs rfl)⟩
    · exact ⟨_, are_words_no (hi := 6) ht hn, unlike_no ht hn⟩
  obtain ⟨q, e1, e2⟩ := e
  have w : m_law_wrong (k + 1) [.tup [.str "choice", b], .tup pl] s = .ok (if q = true then .non else .tup pl) s := by
    show callF 6 2 (b_law_wrong (m_law_wrong k)) _ s = _
    unfold b_law_wrong
    push_cast [in_leaf, List.length_singleton, e2]
    cases q <;> push_cast [Bool.false_eq_true, if_false, if_true]
  have l : m_look_within (k + 1) [.tup [.str "choice", b], .tup pl, .int deep] s = if q = true then .ok (.tup [.int 1, .int 1]) s else .exc (NF pl) s := by
    show callF 9 3 (b_look_within (m_look_within k)) _ s = _
    unfold b_look_within
    push_cast [head_cons ty_str, hd, k_MOST_DEEP, k_MOST_PARTS, k_LEAVES, k_MANY, k_MOST_WORDS, e1]
    cases q <;> push_cast [Bool.false_eq_true, if_false, if_true, k_MANY]
  rw [w, l, size_leaf (by decide +kernel) (by decide +kernel) (by decide +kernel)]
  cases q with
  | true => exact .inl ⟨1, 1, rfl, rfl, rfl⟩
  | false => exact .inr ⟨pl, rfl, rfl, hp, hl⟩
end PG
set_option Elab.async false
set_option linter.all false
set_option maxRecDepth 100000
set_option maxHeartbeats 4000000
/-! PGe: the program's look at a form and the law's tell the same (forms within forms). -/
namespace PG
open PySem L2 DL
local macro_rules
  | `(tactic| push_cast [$as,*]) => `(tactic| simp only [optR_some, bd_ok, bd_exc, bd_bad, noX_ok, bs_ok, bs_exc, bs_bad, ret_ok, gv_cons, gv_zero, c2Bin_ap, c1Bin_ap, e_bin, c2BinM_ap, c1BinM_ap, e_binM, asB_bl, e_B, cTru_ap, e_Tru, cAndB_t, cAndB_f, e_AndB, cOrB_t, cOrB_f, e_OrB, cNotB_ap, e_NotB, cAnd2_t, cAnd2_f, cAnd_ap, e_And, cOr2_t, cOr2_f, cOr_ap, e_Or, cNot2_ap, cNot_ap, e_Not, cIfE_t, cIfE_f, e_IfE, cCh3_t, cCh3_f, cCh2_ap, cCh1_ap, e_Chain, e_Nil, c2Cons_ap, c1Cons_ap, e_Cons, cTup0, cLst0, cLstL0, cTup1, cLst1, cLstL1, cTup2, cLst2, cLstL2, cTup3, cLst3, cLstL3, cTup4, cLst4, cLstL4, cTup5, cLst5, cLstL5, cTup6, cLst6, cLstL6, cTup7, cLst7, cLstL7, cTup8, cLst8, cLstL8, cTup9, cLst9, cLstL9, cTup10, cLst10, cLstL10, cTup11, cLst11, cLstL11, cTup12, cLst12, cLstL12, cTup13, cLst13, cLstL13, cTup14, cLst14, cLstL14, cTup15, cLst15, cLstL15, cTup16, cLst16, cLstL16, cTup17, cLst17, cLstL17, cTup18, cLst18, cLstL18, cTup19, cLst19, cLstL19, cTup20, cLst20, cLstL20, cTup21, cLst21, cLstL21, cTup22, cLst22, cLstL22, e_Tup, e_Lst, e_LstL, cCB_ap, e_CB, cCM_ap, e_CM, cIsi2_ap, cIsi_ap, e_Isi, cIsiT2_ap, cIsiT_ap, e_IsiT, cNeg_int, e_Neg, cCall0, cCall1, cCall2, cCall3, cCall4, cCall5, cCall6, cCall7, e_Call, asI_int, e_Part, cCut3_ap, cCut2_ap, cCut1_ap, e_Cut, cJoin2_ap, cJoin1_ap, e_Join, cMeth2_ap, cMeth3_t, cMeth1_ap, e_Meth, cIter_ap, e_Iter, e_Rng1, e_Rng2, e_EnumT, cComp2_ap, cComp_ap, e_Comp, cCompX_ap, e_CompX, finD_t, finD_f, wipe_nil, wipe_cons, cmp_nil, cmpx_nil, cmp_cons, cmpx_cons, cCp2_t, cCp2_f, cCp1_ap, cCx2_t, cCx2_f, cCx1_ap, cCp3_0, cCx3_0, cCp3_1, cCx3_1, cCp3_2, cCx3_2, cCp3_3, cCx3_3, cCp3_4, cCx3_4, cCp3_5, cCx3_5, cCp3_6, cCx3_6, cCp3_7, cCx3_7, cSet2_ap, cSet_ap, e_LenSet, cMaxD_ap, e_MaxD, cCnt2_ap, cCnt_ap, e_Count, e_Fld, e_Isx, seqS_nx, seqS_rt, seqS_bk, seqS_ct, seqS_exc, e_seq, e_ret, cExpr_ap, e_expr, cIf_t, cIf_f, e_if, cSetS_nm, cSetS_tp2, cSetS_tp3, e_set, setT_nm, setT_tp2, setT_tp3, optS_some, cSt3_ap, cSt2_ap, cSt1_ap, e_store, cFor_ap, e_for, for_nil, cFor2_nx, cFor2_ct, cFor2_bk, cFor2_rt, cFor2_exc, for_cons1, for_cons2, cRaise0, cRaise1, cRaise2, e_raise, callR_nx, callR_rt, callR_exc, callF_eq, tryK_nx, tryK_rt, e_try, unS_nx, unS_rt, List.map_cons, List.map_nil, List.cons_append, List.nil_append, List.replicate, Nat.reduceSub, List.set_cons_succ, List.set_cons_zero, nAdd_int, nSub_int, nLt_int, nLe_int, nGt_int, nGe_int, fEq_int, fNe_int, fEq_str, fNe_str, nTru_bl, nMax_int, nMin_int, nInt_bl, nIx_lst, nIx_tup, nIx_scr, atI_0, atI_1, Bool.not_true, Bool.not_false, decide_true, decide_false, Option.some.injEq, reduceIte, ty_non, ty_bl, ty_int, ty_str, ty_lst, ty_tup, ty_dct, ty_scr, is_non_non, is_non_bl, is_non_int, is_non_str, is_non_lst, is_non_tup, is_non_dct, is_bl_non, is_bl_bl, is_bl_int, is_bl_str, is_bl_lst, is_bl_tup, is_bl_dct, is_int_non, is_int_bl, is_int_int, is_int_str, is_int_lst, is_int_tup, is_int_dct, is_str_non, is_str_bl, is_str_int, is_str_str, is_str_lst, is_str_tup, is_str_dct, is_lst_non, is_lst_bl, is_lst_int, is_lst_str, is_lst_lst, is_lst_tup, is_lst_dct, is_tup_non, is_tup_bl, is_tup_int, is_tup_str, is_tup_lst, is_tup_tup, is_tup_dct, is_dct_non, is_dct_bl, is_dct_int, is_dct_str, is_dct_lst, is_dct_tup, is_dct_dct, len_t0, len_l0, len_t1, len_l1, len_t2, len_l2, len_t3, len_l3, at_3_2, len_t4, len_l4, at_4_2, at_4_3, len_t5, len_l5, at_5_2, at_5_3, at_5_4, len_t6, len_l6, at_6_2, at_6_3, at_6_4, at_6_5, len_t7, len_l7, at_7_2, at_7_3, at_7_4, at_7_5, at_7_6, len_t8, len_l8, at_8_2, at_8_3, at_8_4, at_8_5, at_8_6, at_8_7, tru_tup, tru_lst, tru_int, tru_non, it_lst, it_tup, it_scr, it_str, isn_non, isnt_non, isn_tup, isnt_tup, isn_lst, isnt_lst, isn_int, isn_str, isnt_int, isnt_str, isn_loc, isnt_loc, isn_exn, isnt_exn, tupX_tup, tupX_lst, lst_tup, lst_lst, inX_2, inX_t2, eqX_nil, isLst_lst, sgn_in, sgn_notIn, all_bls, sum_ints, maxD_ints, Int.reduceAdd, Int.reduceSub, Int.reduceMul, Int.reduceNeg, Int.reduceLT, Int.reduceLE, Int.reduceEq, Int.reduceToNat, Nat.reduceAdd, Nat.reduceMul, Nat.reduceEqDiff, Int.reduceMod, Int.reduceDiv, Bool.or_true, Bool.true_or, Bool.or_false, Bool.false_or, Bool.and_true, Bool.true_and, Bool.and_false, Bool.false_and, ne_number_text, ne_number_choice, ne_number_record, ne_number_list, ne_number_map, ne_text_number, ne_text_choice, ne_text_record, ne_text_list, ne_text_map, ne_choice_number, ne_choice_text, ne_choice_record, ne_choice_list, ne_choice_map, ne_record_number, ne_record_text, ne_record_choice, ne_record_list, ne_record_map, ne_list_number, ne_list_text, ne_list_choice, ne_list_record, ne_list_map, ne_map_number, ne_map_text, ne_map_choice, ne_map_record, ne_map_list, $as,*])
variable {s : Sto} {d a b : D} {x : Str} {t : Ty} {xs r : List D}
theorem star_len : ("*" : Str).length ≤ 8 := by decide +kernel
theorem star_low : ∀ c ∈ ("*" : Str).cps.toList, c < 128 := by decide +kernel
theorem plOk_snoc {pl : List D} {y : Str} (hp : PlOk pl) (h1 : y.length ≤ 8) (h2 : ∀ c ∈ y.cps.toList, c < 128) : PlOk (pl ++ [.str y]) := by
  intro x hx
  rcases List.mem_append.mp hx with hx | hx
  · exact hp x hx
  · rw [List.mem_singleton.mp hx]; exact ⟨y, rfl, h1, h2⟩
theorem add_pl {pl : List D} {y : D} (h : pl.length ≤ 100) : fAdd (.tup pl) (.tup [y]) s = some (.tup (pl ++ [y])) :=
  add_tup (by simp only [List.length_singleton]; exact few (by omega))
theorem same_many {k : Nat} {pl : List D} {w : Str} {deep : Int} (hw : w = "list" ∨ w = "map") (hd : ¬ (46 : Int) < deep) (hp : pl.length ≤ 100)
    (ih : Same (m_look_within k [b, .tup (pl ++ [.str "*"]), .int (deep + 1)] s) (m_law_wrong k [b, .tup (pl ++ [.str "*"])] s) (m_law_size k [b] s) s 100) :
    Same (m_look_within (k + 1) [.tup [.str w, b], .tup pl, .int deep] s) (m_law_wrong (k + 1) [.tup [.str w, b], .tup pl] s) (m_law_size (k + 1) [.tup [.str w, b]] s) s 100 := by
  have W : m_law_wrong (k + 1) [.tup [.str w, b], .tup pl] s = m_law_wrong k [b, .tup (pl ++ [.str "*"])] s := by
    show callF 6 2 (b_law_wrong (m_law_wrong k)) _ s = _
    unfold b_law_wrong
    rcases ih with ⟨a, c, h1, h2, h3⟩ | ⟨q, h1, h2, h3, h4⟩ <;> rcases hw with rfl | rfl <;> push_cast [in_leaf, List.length_singleton, add_pl hp, h2]
  rw [W]
  rcases ih with ⟨a, c, h1, h2, h3⟩ | ⟨q, h1, h2, h3, h4⟩
  · refine .inl ⟨a + 1, c + 1, ?_, h2, ?_⟩
    · show callF 9 3 (b_look_within (m_look_within k)) _ s = _
      unfold b_look_within
      rcases hw with rfl | rfl <;> push_cast [head_cons ty_str, hd, k_MOST_DEEP, k_MOST_PARTS, k_LEAVES, k_MANY, k_ALL, add_pl hp, h1]
    · show callF 6 1 (b_law_size (m_law_size k)) _ s = _
      unfold b_law_size
      have e1 : ∀ c : Int, fSum [.lst [.int c]] s = some (.int c) := fun c => by have := sum_ints (s := s) [c]; simpa using this
      have e2 : ∀ c : Int, cMaxD2 (.lst [.int c]) (.int 0) s = .ok (.int c) s := fun c => maxD_ints (s := s) [c]
      rcases hw with rfl | rfl <;> push_cast [h3, e1, e2] <;> rw [Int.add_comm 1 a, Int.add_comm 1 c]
  · refine .inr ⟨q, ?_, h2, h3, h4⟩
    show callF 9 3 (b_look_within (m_look_within k)) _ s = _
    unfold b_look_within
    rcases hw with rfl | rfl <;> push_cast [head_cons ty_str, hd, k_MOST_DEEP, k_MOST_PARTS, k_LEAVES, k_MANY, k_ALL, add_pl hp, h1]
section
variable {k : Nat} {th : D} {pl : List D} {deep : Int}
abbrev bodyL (m : List D → M D) : Lo → M D := mCall 3 m (mCons (getV 8) (mCons (mBin fAdd (getV 1) (mTup (mCons (getV 7) mNil))) (mCons (mBin fAdd (getV 2) (fun _ => DL.ret (.int 1))) mNil)))
abbrev bodyW (m : List D → M D) : Lo → Sto → SR := mSeq (mSet (.nm 5) (mCall 2 m (mCons (getV 4) (mCons (mBin fAdd (getV 1) (mTup (mCons (getV 3) mNil))) mNil)))) (mIf (mB (mBin fIsNot (getV 5) (fun _ => DL.ret .non))) (mRet (getV 5)) .nx)
abbrev bodyS (m : List D → M D) : Lo → M D := mCall 1 m (mCons (getV 3) mNil)
theorem rooms_same (hl : pl.length ≤ 100) : ∀ (rs acc acc' : List D) (x3 x4 x5 : Option D), acc.length + rs.length ≤ 1000 → acc'.length + rs.length ≤ 1000 →
    (∀ r ∈ rs, ∃ y f, r = .tup [.str y, f] ∧ Same (m_look_within k [f, .tup (pl ++ [.str y]), .int (deep + 1)] s) (m_law_wrong k [f, .tup (pl ++ [.str y])] s) (m_law_size k [f] s) s 100) →
    (∃ l : List (Int × Int), l.length = rs.length ∧ compRX (.tp [7, 8]) (fun _ => DL.ret true) (bodyL (m_look_within k)) none [some th, some (.tup pl), some (.int deep), some (.str "record"), none, none, none, none, none] rs acc s = .ok (acc ++ l.map prD) s ∧
      (∃ y3 y4 y5, forS (.tp [3, 4]) (bodyW (m_law_wrong k)) none rs [some th, some (.tup pl), none, x3, x4, x5] s = .nx [some th, some (.tup pl), none, y3, y4, y5] s) ∧
      compR (.tp [2, 3]) (fun _ => DL.ret true) (bodyS (m_law_size k)) none [some th, some (.lst []), none, none, none, none] rs acc' s = .ok (acc' ++ l.map prD) s) ∨
    (∃ q, compRX (.tp [7, 8]) (fun _ => DL.ret true) (bodyL (m_look_within k)) none [some th, some (.tup pl), some (.int deep), some (.str "record"), none, none, none, none, none] rs acc s = .exc (NF q) s ∧
      forS (.tp [3, 4]) (bodyW (m_law_wrong k)) none rs [some th, some (.tup pl), none, x3, x4, x5] s = .rt (.tup q) s ∧ PlOk q ∧ q.length ≤ 100)
  | [], acc, acc', x3, x4, x5, _, _, _ => .inl ⟨[], rfl, by rw [List.map_nil, List.append_nil]; push_cast [], ⟨x3, x4, x5, rfl⟩, by rw [List.map_nil, List.append_nil]; push_cast []⟩
  | r :: rs, acc, acc', x3, x4, x5, hz, hz', h => by
    rw [List.length_cons] at hz hz'
    obtain ⟨y, f, rfl, sm⟩ := h _ List.mem_cons_self
    rcases sm with ⟨a, c, h1, h2, h3⟩ | ⟨q, h1, h2, h3, h4⟩
    · have e1 := cCx3_of (T := .tp [7, 8]) (mt := fun _ => DL.ret true) (me := bodyL (m_look_within k)) (lo := [some th, some (.tup pl), some (.int deep), some (.str "record"), none, none, none, none, none]) (s := s) (xs := acc) (ds := rs) (cnd := none) (y := .tup [.int a, .int c]) (Nat.lt_of_lt_of_le (show acc.length < 1001 by omega) (by decide))
      have e2 := cCp3_of (T := .tp [2, 3]) (mt := fun _ => DL.ret true) (me := bodyS (m_law_size k)) (lo := [some th, some (.lst []), none, none, none, none]) (s := s) (xs := acc') (ds := rs) (cnd := none) (y := .tup [.int a, .int c]) (Nat.lt_of_lt_of_le (show acc'.length < 1001 by omega) (by decide))
      have ih := rooms_same hl rs (acc ++ [.tup [.int a, .int c]]) (acc' ++ [.tup [.int a, .int c]]) (some (.str y)) (some f) (some .non) (by simp; omega) (by simp; omega) fun r hr => h r (List.mem_cons_of_mem _ hr)
      have s1 : compRX (.tp [7, 8]) (fun _ => DL.ret true) (bodyL (m_look_within k)) none [some th, some (.tup pl), some (.int deep), some (.str "record"), none, none, none, none, none] (.tup [.str y, f] :: rs) acc s = compRX (.tp [7, 8]) (fun _ => DL.ret true) (bodyL (m_look_within k)) none [some th, some (.tup pl), some (.int deep), some (.str "record"), none, none, none, none, none] rs (acc ++ [.tup [.int a, .int c]]) s := by
        rw [← e1]
        push_cast [add_pl hl, h1]
      have s2 : forS (.tp [3, 4]) (bodyW (m_law_wrong k)) none (.tup [.str y, f] :: rs) [some th, some (.tup pl), none, x3, x4, x5] s = forS (.tp [3, 4]) (bodyW (m_law_wrong k)) none rs [some th, some (.tup pl), none, some (.str y), some f, some .non] s := by
        push_cast [add_pl hl, h2]
      have s3 : compR (.tp [2, 3]) (fun _ => DL.ret true) (bodyS (m_law_size k)) none [some th, some (.lst []), none, none, none, none] (.tup [.str y, f] :: rs) acc' s = compR (.tp [2, 3]) (fun _ => DL.ret true) (bodyS (m_law_size k)) none [some th, some (.lst []), none, none, none, none] rs (acc' ++ [.tup [.int a, .int c]]) s := by
        rw [← e2]
        push_cast [h3]
      rw [s1, s2, s3]
      rcases ih with ⟨l, g1, g2, g3, g4⟩ | g
      · refine .inl ⟨(a, c) :: l, by rw [List.length_cons, List.length_cons, g1], ?_, g3, ?_⟩
        · rw [g2, List.append_assoc]; rfl
        · rw [g4, List.append_assoc]; rfl
      · exact .inr g
    · refine .inr ⟨q, ?_, ?_, h3, h4⟩
      · push_cast [add_pl hl, h1]
      · push_cast [add_pl hl, h2]
end
theorem pairs_comp {lo : Lo} {rs : List D} (hi : ∀ d, (lo.set 2 (some d))[2]? = some (some d)) (hz : rs.length ≤ 1000) (h : ∀ r ∈ rs, ∃ t, tyD r s = some t) :
    compR (.nm 2) (fun _ => DL.ret true) (mAnd (mIsi .tup (getV 2)) (mBin fEq (mCB fLen (mCons (getV 2) mNil)) (fun _ => DL.ret (.int 2)))) none lo rs [] s = .ok ((rs.map pairB).map D.bl) s := by
  rw [compR_map (fun d => .bl (pairB d)), List.nil_append, List.map_map]
  · rfl
  · rw [List.length_nil]; exact few (by omega)
  · intro r hr
    refine ⟨_, rfl, rfl, ?_⟩
    obtain ⟨t, ht⟩ := h r hr
    rcases ty_tup_or ht with ⟨xs, rfl⟩ | hn
    · push_cast [getV_at (hi _), len_tup]
      by_cases h2 : xs.length = 2
      · obtain ⟨a, b, rfl⟩ := pair_two h2
        rfl
      · rw [(pair_not h2).1, decide_eq_false (by omega)]
    · push_cast [getV_at (hi _), ht, hn]
      congr 2
      unfold pairB
      split
      · cases ht; cases hn
      · rfl
theorem pairs_of {rs : List D} (h : rs.all pairB = true) : ∀ r ∈ rs, ∃ a b, r = .tup [a, b] := by
  intro r hr
  have := List.all_eq_true.mp h r hr
  unfold pairB at this
  split at this
  · exact ⟨_, _, rfl⟩
  · cases this
theorem firsts_comp {lo : Lo} {rs : List D} (hi : ∀ d, (lo.set 2 (some d))[2]? = some (some d)) (hz : rs.length ≤ 1000) (h : rs.all pairB = true) :
    compR (.nm 2) (fun _ => DL.ret true) (mBin fIx (getV 2) (fun _ => DL.ret (.int 0))) none lo rs [] s = .ok (rs.map fstD) s := by
  rw [compR_map fstD, List.nil_append]
  · rw [List.length_nil]; exact few (by omega)
  · intro r hr
    refine ⟨_, rfl, rfl, ?_⟩
    obtain ⟨a, b, rfl⟩ := pairs_of h r hr
    push_cast [getV_at (hi _), fstD]
theorem same_record {k : Nat} {pl : List D} {deep : Int} (hd : ¬ (46 : Int) < deep) (hp : PlOk pl) (hl : pl.length ≤ 100) (hk : ∃ t, tyD b s = some t) (hb : ∀ rs, b = .tup rs → ∀ r ∈ rs, Kn2 s r)
    (IH : ∀ rs, b = .tup rs → roomsB rs = true → ∀ r ∈ rs, ∃ y f, r = .tup [.str y, f] ∧ Same (m_look_within k [f, .tup (pl ++ [.str y]), .int (deep + 1)] s) (m_law_wrong k [f, .tup (pl ++ [.str y])] s) (m_law_size k [f] s) s 100) :
    Same (m_look_within (k + 1) [.tup [.str "record", b], .tup pl, .int deep] s) (m_law_wrong (k + 1) [.tup [.str "record", b], .tup pl] s) (m_law_size (k + 1) [.tup [.str "record", b]] s) s 100 := by
  obtain ⟨t, ht⟩ := hk
  rcases ty_tup_or ht with ⟨rs, rfl⟩ | hn
  · have K := hb rs rfl
    have ar := are_rooms_ok K
    cases hR : roomsB rs with
    | false =>
      refine .inr ⟨pl, ?_, ?_, hp, hl⟩
      · show callF 9 3 (b_look_within (m_look_within k)) _ s = _
        unfold b_look_within
        push_cast [head_cons ty_str, hd, k_MOST_DEEP, k_MOST_PARTS, k_LEAVES, k_MANY, ar, hR]
      · show callF 6 2 (b_law_wrong (m_law_wrong k)) _ s = _
        unfold b_law_wrong
        push_cast [in_leaf, List.length_singleton, len_tup (xs := rs)]
        cases h6 : decide ((6 : Int) < (rs.length : Int)) with
        | true => push_cast []
        | false =>
          rw [decide_eq_false_iff_not] at h6
          push_cast [pairs_comp (lo := [some (.tup [.str "record", .tup rs]), some (.tup pl), none, none, none, none]) (fun _ => rfl) (show rs.length ≤ 1000 by omega) (fun r hr => (K r hr).1.1), all_id]
          cases hP : rs.all pairB with
          | false => push_cast []
          | true =>
            push_cast [firsts_comp (lo := [some (.tup [.str "record", .tup rs]), some (.tup pl), none, none, none, none]) (fun _ => rfl) (show rs.length ≤ 1000 by omega) hP]
            have hu := unlike_ok (s := s) (lo := 0) (hi := 6) (xs := rs.map fstD) (by decide) fun x hx => by
              obtain ⟨r, hr, rfl⟩ := List.mem_map.mp hx
              obtain ⟨a, c, rfl⟩ := pairs_of hP r hr
              exact (K _ hr).2 _ rfl a (by simp)
            unfold roomsB at hR
            rw [hP, Bool.true_and] at hR
            rw [hR] at hu
            have hu : m_law_unlike [.tup (rs.map fstD), .int 0, .int 6] s = .ok (.bl false) s := hu
            push_cast [hu]
    | true =>
      have hR' := hR
      unfold roomsB at hR
      rw [Bool.and_eq_true] at hR
      obtain ⟨hP, hU⟩ := hR
      have h6 : rs.length ≤ 6 := by
        unfold unlB at hU
        simp only [Bool.and_eq_true, decide_eq_true_eq, List.length_map] at hU
        omega
      have hu := unlike_ok (s := s) (lo := 0) (hi := 6) (xs := rs.map fstD) (by decide) fun x hx => by
        obtain ⟨r, hr, rfl⟩ := List.mem_map.mp hx
        obtain ⟨a, c, rfl⟩ := pairs_of hP r hr
        exact (K _ hr).2 _ rfl a (by simp)
      rw [hU] at hu
      have hu : m_law_unlike [.tup (rs.map fstD), .int 0, .int 6] s = .ok (.bl true) s := hu
      have n6 : ¬ (6 : Int) < (rs.length : Int) := by omega
      have c1 := pairs_comp (s := s) (lo := [some (.tup [.str "record", .tup rs]), some (.tup pl), none, none, none, none]) (fun _ => rfl) (show rs.length ≤ 1000 by omega) (fun r hr => (K r hr).1.1)
      have c2 := firsts_comp (s := s) (lo := [some (.tup [.str "record", .tup rs]), some (.tup pl), none, none, none, none]) (fun _ => rfl) (show rs.length ≤ 1000 by omega) hP
      rcases rooms_same (th := .tup [.str "record", .tup rs]) (deep := deep) hl rs [] [] none none none (by simp; omega) (by simp; omega) (IH rs rfl hR') with ⟨l, g1, g2, ⟨y3, y4, y5, g3⟩, g4⟩ | ⟨q, g2, g3, g4, g5⟩
      · rw [List.nil_append] at g2 g4
        have hll : l.length ≤ 1000 := by omega
        refine .inl ⟨1 + (l.map (·.1)).sum, 1 + maxDef 0 (l.map (·.2)), ?_, ?_, ?_⟩
        · show callF 9 3 (b_look_within (m_look_within k)) _ s = _
          unfold b_look_within
          push_cast [head_cons ty_str, hd, k_MOST_DEEP, k_MOST_PARTS, k_LEAVES, k_MANY, ar, hR', g2, comp_fst (i := 4) (j := 5) (lo := [some (.tup [.str "record", .tup rs]), some (.tup pl), some (.int deep), some (.str "record"), none, none, some (.lst (l.map prD)), none, none]) (fun _ _ => rfl) l hll, comp_snd (i := 4) (j := 5) (lo := [some (.tup [.str "record", .tup rs]), some (.tup pl), some (.int deep), some (.str "record"), none, none, some (.lst (l.map prD)), none, none]) (fun _ _ => rfl) l hll]
        · show callF 6 2 (b_law_wrong (m_law_wrong k)) _ s = _
          unfold b_law_wrong
          push_cast [in_leaf, List.length_singleton, len_tup (xs := rs), n6, c1, all_id, hP, c2, hu, g3]
        · show callF 6 1 (b_law_size (m_law_size k)) _ s = _
          unfold b_law_size
          push_cast [g4, comp_fst (i := 4) (j := 5) (lo := [some (.tup [.str "record", .tup rs]), some (.lst (l.map prD)), none, none, none, none]) (fun _ _ => rfl) l hll, comp_snd (i := 4) (j := 5) (lo := [some (.tup [.str "record", .tup rs]), some (.lst (l.map prD)), none, none, none, none]) (fun _ _ => rfl) l hll]
      · refine .inr ⟨q, ?_, ?_, g4, g5⟩
        · show callF 9 3 (b_look_within (m_look_within k)) _ s = _
          unfold b_look_within
          push_cast [head_cons ty_str, hd, k_MOST_DEEP, k_MOST_PARTS, k_LEAVES, k_MANY, ar, hR', g2]
        · show callF 6 2 (b_law_wrong (m_law_wrong k)) _ s = _
          unfold b_law_wrong
          push_cast [in_leaf, List.length_singleton, len_tup (xs := rs), n6, c1, all_id, hP, c2, hu, g3]
  · refine .inr ⟨pl, ?_, ?_, hp, hl⟩
    · show callF 9 3 (b_look_within (m_look_within k)) _ s = _
      unfold b_look_within
      push_cast [head_cons ty_str, hd, k_MOST_DEEP, k_MOST_PARTS, k_LEAVES, k_MANY, are_rooms_no ht hn]
    · show callF 6 2 (b_law_wrong (m_law_wrong k)) _ s = _
      unfold b_law_wrong
      push_cast [in_leaf, List.length_singleton, ht, hn]
/-- the program's look and the law's tell the same of anything that is read back -/
theorem look_same {w : Nat} (hw : w ≤ 1000000) : ∀ (k n : Nat) (d : D) (pl : List D) (deep : Int), n ≤ k → Rd s n w d → PlOk pl → pl.length + k ≤ 100 → deep + k ≤ 46 →
    Same (m_look_within (k + 1) [d, .tup pl, .int deep] s) (m_law_wrong (k + 1) [d, .tup pl] s) (m_law_size (k + 1) [d] s) s 100
  | k, n, d, pl, deep, hn, h, hp, hl, hd => by
    have hl1 : pl.length ≤ 100 := by omega
    have hd1 : ¬ (46 : Int) < deep := by omega
    obtain ⟨t, ht⟩ := h.ty
    rcases ty_tup_or ht with ⟨xs, rfl⟩ | hno
    · obtain ⟨m, rfl, _, hm⟩ := h.tup
      match xs, hm with
      | [], _ => exact same_nil hp hl1
      | a :: r, hm =>
        obtain ⟨ta, hta⟩ := (hm a List.mem_cons_self).ty
        rcases ty_str_or hta with ⟨y, rfl⟩ | hna
        · by_cases h1 : r.length = 1
          · obtain ⟨b, rfl⟩ := List.length_eq_one_iff.mp h1
            have rb := hm b (by simp)
            have kb : ∀ xs, b = .tup xs → ∀ x ∈ xs, Kn s x := fun xs e x hx => by
              subst e
              obtain ⟨_, _, _, q⟩ := rb.tup
              exact (q x hx).kn hw
            cases k with
            | zero => omega
            | succ k =>
              by_cases e1 : y = "choice"
              · subst e1
                exact same_choice hd1 rb.ty kb hp hl1
              · by_cases e2 : y = "list" ∨ y = "map"
                · have ih := look_same hw k m b (pl ++ [.str "*"]) (deep + 1) (by omega) rb (plOk_snoc hp star_len star_low) (by rw [List.length_append, List.length_singleton]; omega) (by omega)
                  exact same_many (k := k + 1) e2 hd1 hl1 ih
                · by_cases e3 : y = "record"
                  · subst e3
                    refine same_record hd1 hp hl1 rb.ty (fun rs e r hr => ?_) (fun rs e hR r hr => ?_)
                    · subst e
                      obtain ⟨_, _, _, q⟩ := rb.tup
                      refine ⟨(q r hr).kn hw, fun xs e x hz => ?_⟩
                      have q1 := q r hr
                      rw [e] at q1
                      obtain ⟨_, _, _, q2⟩ := q1.tup
                      exact (q2 x hz).kn hw
                    · subst e
                      obtain ⟨m1, e1, _, q⟩ := rb.tup
                      unfold roomsB at hR
                      rw [Bool.and_eq_true] at hR
                      obtain ⟨a, f, rfl⟩ := pairs_of hR.1 r hr
                      obtain ⟨m2, e2, _, q2⟩ := (q _ hr).tup
                      have hwd : wordB a = true := by
                        have := hR.2
                        unfold unlB at this
                        simp only [Bool.and_eq_true] at this
                        exact List.all_eq_true.mp this.1.2 a (List.mem_map.mpr ⟨_, hr, rfl⟩)
                      cases a with
                      | str y =>
                        obtain ⟨z1, z2⟩ := wordX_ok hwd
                        have ih := look_same hw k m2 f (pl ++ [.str y]) (deep + 1) (by omega) (q2 f (by simp)) (plOk_snoc hp z1 z2) (by rw [List.length_append, List.length_singleton]; omega) (by omega)
                        exact ⟨y, f, rfl, ih⟩
                      | _ => cases hwd
                  · exact .inr ⟨pl, look_two hd1 e1 (fun z => e2 (.inl z)) (fun z => e2 (.inr z)) e3, wrong_two e1 (fun z => e2 (.inl z)) (fun z => e2 (.inr z)) e3, hp, hl1⟩
          · by_cases h0 : r.length = 0 ∧ (y = "number" ∨ y = "text")
            · obtain ⟨h0, hy⟩ := h0
              obtain rfl := List.length_eq_zero_iff.mp h0
              exact .inl ⟨1, 1, look_one hd1 hy, wrong_one hy, size_leaf (by rcases hy with rfl | rfl; rw [ne_number_list]; exact id; rw [ne_text_list]; exact id) (by rcases hy with rfl | rfl; rw [ne_number_map]; exact id; rw [ne_text_map]; exact id) (by rcases hy with rfl | rfl; rw [ne_number_record]; exact id; rw [ne_text_record]; exact id)⟩
            · have hq : r.length = 0 → ¬ y = "number" ∧ ¬ y = "text" := fun z => ⟨fun q => h0 ⟨z, .inl q⟩, fun q => h0 ⟨z, .inr q⟩⟩
              exact .inr ⟨pl, look_odd hd1 h1 hq, wrong_odd h1 hq, hp, hl1⟩
        · exact same_nostr hta hna hp hl1
    · exact same_no ht hno hp hl1
end PG
set_option Elab.async false
set_option linter.all false
set_option maxRecDepth 100000
set_option maxHeartbeats 4000000
/-! PGf: the laws' draws, words. -/
namespace PG
open PySem L2 DL
local macro_rules
  | `(tactic| push_cast [$as,*]) => `(tactic| simp only [optR_some, bd_ok, bd_exc, bd_bad, noX_ok, bs_ok, bs_exc, bs_bad, ret_ok, gv_cons, gv_zero, c2Bin_ap, c1Bin_ap, e_bin, c2BinM_ap, c1BinM_ap, e_binM, asB_bl, e_B, cTru_ap, e_Tru, cAndB_t, cAndB_f, e_AndB, cOrB_t, cOrB_f, e_OrB, cNotB_ap, e_NotB, cAnd2_t, cAnd2_f, cAnd_ap, e_And, cOr2_t, cOr2_f, cOr_ap, e_Or, cNot2_ap, cNot_ap, e_Not, cIfE_t, cIfE_f, e_IfE, cCh3_t, cCh3_f, cCh2_ap, cCh1_ap, e_Chain, e_Nil, c2Cons_ap, c1Cons_ap, e_Cons, cTup0, cLst0, cLstL0, cTup1, cLst1, cLstL1, cTup2, cLst2, cLstL2, cTup3, cLst3, cLstL3, cTup4, cLst4, cLstL4, cTup5, cLst5, cLstL5, cTup6, cLst6, cLstL6, cTup7, cLst7, cLstL7, cTup8, cLst8, cLstL8, cTup9, cLst9, cLstL9, cTup10, cLst10, cLstL10, cTup11, cLst11, cLstL11, cTup12, cLst12, cLstL12, cTup13, cLst13, cLstL13, cTup14, cLst14, cLstL14, cTup15, cLst15, cLstL15, cTup16, cLst16, cLstL16, cTup17, cLst17, cLstL17, cTup18, cLst18, cLstL18, cTup19, cLst19, cLstL19, cTup20, cLst20, cLstL20, cTup21, cLst21, cLstL21, cTup22, cLst22, cLstL22, e_Tup, e_Lst, e_LstL, cCB_ap, e_CB, cCM_ap, e_CM, cIsi2_ap, cIsi_ap, e_Isi, cIsiT2_ap, cIsiT_ap, e_IsiT, cNeg_int, e_Neg, cCall0, cCall1, cCall2, cCall3, cCall4, cCall5, cCall6, cCall7, e_Call, asI_int, e_Part, cCut3_ap, cCut2_ap, cCut1_ap, e_Cut, cJoin2_ap, cJoin1_ap, e_Join, cMeth2_ap, cMeth3_t, cMeth1_ap, e_Meth, cIter_ap, e_Iter, e_Rng1, e_Rng2, e_EnumT, cComp2_ap, cComp_ap, e_Comp, cCompX_ap, e_CompX, finD_t, finD_f, wipe_nil, wipe_cons, cmp_nil, cmpx_nil, cmp_cons, cmpx_cons, cCp2_t, cCp2_f, cCp1_ap, cCx2_t, cCx2_f, cCx1_ap, cCp3_0, cCx3_0, cCp3_1, cCx3_1, cCp3_2, cCx3_2, cCp3_3, cCx3_3, cCp3_4, cCx3_4, cCp3_5, cCx3_5, cCp3_6, cCx3_6, cCp3_7, cCx3_7, cSet2_ap, cSet_ap, e_LenSet, cMaxD_ap, e_MaxD, cCnt2_ap, cCnt_ap, e_Count, e_Fld, e_Isx, seqS_nx, seqS_rt, seqS_bk, seqS_ct, seqS_exc, e_seq, e_ret, cExpr_ap, e_expr, cIf_t, cIf_f, e_if, cSetS_nm, cSetS_tp2, cSetS_tp3, e_set, setT_nm, setT_tp2, setT_tp3, optS_some, cSt3_ap, cSt2_ap, cSt1_ap, e_store, cFor_ap, e_for, for_nil, cFor2_nx, cFor2_ct, cFor2_bk, cFor2_rt, cFor2_exc, for_cons1, for_cons2, cRaise0, cRaise1, cRaise2, e_raise, callR_nx, callR_rt, callR_exc, callF_eq, tryK_nx, tryK_rt, e_try, unS_nx, unS_rt, List.map_cons, List.map_nil, List.cons_append, List.nil_append, List.replicate, Nat.reduceSub, List.set_cons_succ, List.set_cons_zero, nAdd_int, nSub_int, nLt_int, nLe_int, nGt_int, nGe_int, fEq_int, fNe_int, fEq_str, fNe_str, nTru_bl, nMax_int, nMin_int, nInt_bl, nIx_lst, nIx_tup, nIx_scr, atI_0, atI_1, Bool.not_true, Bool.not_false, decide_true, decide_false, Option.some.injEq, reduceIte, ty_non, ty_bl, ty_int, ty_str, ty_lst, ty_tup, ty_dct, ty_scr, is_non_non, is_non_bl, is_non_int, is_non_str, is_non_lst, is_non_tup, is_non_dct, is_bl_non, is_bl_bl, is_bl_int, is_bl_str, is_bl_lst, is_bl_tup, is_bl_dct, is_int_non, is_int_bl, is_int_int, is_int_str, is_int_lst, is_int_tup, is_int_dct, is_str_non, is_str_bl, is_str_int, is_str_str, is_str_lst, is_str_tup, is_str_dct, is_lst_non, is_lst_bl, is_lst_int, is_lst_str, is_lst_lst, is_lst_tup, is_lst_dct, is_tup_non, is_tup_bl, is_tup_int, is_tup_str, is_tup_lst, is_tup_tup, is_tup_dct, is_dct_non, is_dct_bl, is_dct_int, is_dct_str, is_dct_lst, is_dct_tup, is_dct_dct, len_t0, len_l0, len_t1, len_l1, len_t2, len_l2, len_t3, len_l3, at_3_2, len_t4, len_l4, at_4_2, at_4_3, len_t5, len_l5, at_5_2, at_5_3, at_5_4, len_t6, len_l6, at_6_2, at_6_3, at_6_4, at_6_5, len_t7, len_l7, at_7_2, at_7_3, at_7_4, at_7_5, at_7_6, len_t8, len_l8, at_8_2, at_8_3, at_8_4, at_8_5, at_8_6, at_8_7, tru_tup, tru_lst, tru_int, tru_non, it_lst, it_tup, it_scr, it_str, isn_non, isnt_non, isn_tup, isnt_tup, isn_lst, isnt_lst, isn_int, isn_str, isnt_int, isnt_str, isn_loc, isnt_loc, isn_exn, isnt_exn, tupX_tup, tupX_lst, lst_tup, lst_lst, inX_2, inX_t2, eqX_nil, isLst_lst, sgn_in, sgn_notIn, all_bls, sum_ints, maxD_ints, Int.reduceAdd, Int.reduceSub, Int.reduceMul, Int.reduceNeg, Int.reduceLT, Int.reduceLE, Int.reduceEq, Int.reduceToNat, Nat.reduceAdd, Nat.reduceMul, Nat.reduceEqDiff, Int.reduceMod, Int.reduceDiv, Bool.or_true, Bool.true_or, Bool.or_false, Bool.false_or, Bool.and_true, Bool.true_and, Bool.and_false, Bool.false_and, ne_number_text, ne_number_choice, ne_number_record, ne_number_list, ne_number_map, ne_text_number, ne_text_choice, ne_text_record, ne_text_list, ne_text_map, ne_choice_number, ne_choice_text, ne_choice_record, ne_choice_list, ne_choice_map, ne_record_number, ne_record_text, ne_record_choice, ne_record_list, ne_record_map, ne_list_number, ne_list_text, ne_list_choice, ne_list_record, ne_list_map, ne_map_number, ne_map_text, ne_map_choice, ne_map_record, ne_map_list, $as,*])
variable {s : Sto} {p : Nat}
theorem mulX_int {i j : Int} (h : (-(2 ^ 64) < i ∧ i < 2 ^ 64) ∨ (-(2 ^ 64) < j ∧ j < 2 ^ 64)) : fMulX (.int i) (.int j) s = some (.int (i * j)) := by
  show fMul (.int i) (.int j) s = _
  exact fMul_int h
theorem st_loc {n : Nat} {k : Int} {j : Nat} {xs : List D} {v : D} (h : s[n]? = some (.lst xs)) (hj : ixN xs.length k = some j) : storeD (.loc n) (.int k) v s = some (s.set n (.lst (xs.set j v))) := by
  simp only [storeD, h, hj]; rfl
theorem drawn {n : Int} (h : PoolAt s p) (h0 : 0 < n) (h1 : n < 1073741824) : ∃ (r : Int) (s' : Sto), m_law_draw [.loc p, .int n] s = .ok (.int r) s' ∧ 0 ≤ r ∧ r < n ∧ Lk p s s' := by
  obtain ⟨a, b, hs, ha⟩ := h
  have hp := (List.getElem?_eq_some_iff.mp hs).1
  unfold m_law_draw b_law_draw
  by_cases hpos : 0 < a
  · have st := st_loc (v := .int (a / n)) hs (show ixN 2 0 = some 0 from rfl)
    refine ⟨a % n, s.set p (.lst [.int (a / n), .int b]), ?_, Int.emod_nonneg _ (by omega), Int.emod_lt_of_pos _ h0, Lk.set hs (Int.ediv_nonneg ha (by omega))⟩
    push_cast [ix_loc hs, hpos, fMod_int h0, fDiv_int h0 h1, st]
  · have he0 : 0 ≤ (b * 69621 + 7) % 2147483647 := Int.emod_nonneg _ (by decide)
    have he1 : (b * 69621 + 7) % 2147483647 < 2147483647 := Int.emod_lt_of_pos _ (by decide)
    have st := st_loc (v := .int ((b * 69621 + 7) % 2147483647)) hs (show ixN 2 1 = some 1 from rfl)
    have m1 : fMulX (.int b) (.int 69621) s = some (.int (b * 69621)) := mulX_int (.inr ⟨by decide, by decide⟩)
    generalize he : (b * 69621 + 7) % 2147483647 = e at *
    have hs' : (s.set p (.lst [.int a, .int e]))[p]? = some (.lst [.int a, .int e]) := List.getElem?_set_self hp
    have m2 : fMulX (.int e) (.int e) (s.set p (.lst [.int a, .int e])) = some (.int (e * e)) := mulX_int (.inl ⟨by omega, by omega⟩)
    refine ⟨e * e % 2147483629 / 32 % n, s.set p (.lst [.int a, .int e]), ?_, Int.emod_nonneg _ (by omega), Int.emod_lt_of_pos _ h0, Lk.set hs ha⟩
    push_cast [ix_loc hs, hpos, m1, fMod_int (show (0 : Int) < 2147483647 by decide), he, st, ix_loc hs', m2, fMod_int (show (0 : Int) < 2147483629 by decide), fDiv_int (show (0 : Int) < 32 by decide) (by decide), fMod_int h0]
/-- a drawn item -/
theorem atI_pick {xs : List D} {r : Int} (h0 : 0 ≤ r) (h1 : r < xs.length) : ∃ x, atI xs r = some x ∧ x ∈ xs := atI_in h0 h1
theorem lk_mul {i j : Int} (hi0 : 0 ≤ i) (hi : i < 1000) (hj0 : 0 ≤ j) (hj : j < 1000) : fMulX (.int i) (.int j) s = some (.int (i * j)) := mulX_int (.inl ⟨by omega, by omega⟩)
theorem abc_len : ("abcdefghijklmnopqrstuvwxyz" : Str).length = 26 := by decide +kernel
theorem abc_nodup : abc.Nodup := by decide +kernel
theorem ix_str {x : Str} {r : Int} (hx : x.length ≤ sizeLine) (h0 : 0 ≤ r) (h1 : r < x.length) : ∃ c ∈ x.cps.toList, fIx (.str x) (.int r) s = some (.str ⟨#[c]⟩) := by
  obtain ⟨c, hc, hm⟩ := atI_in (l := x.cps.toList) h0 (by rw [Array.length_toList]; exact h1)
  refine ⟨c, hm, ?_⟩
  unfold fIx
  simp only
  rw [if_pos hx, hc]; rfl
theorem pop_loc {n : Nat} {k : Int} {xs : List D} {y : D} {j : Nat} (h : s[n]? = some (.lst xs)) (hj : k = (j : Int)) (hy : xs[j]? = some y) (hl : xs.length ≤ 1000000) : gPop (.loc n) [.int k] s = .ok y (s.set n (.lst (xs.eraseIdx j))) := by
  have hj1 := (List.getElem?_eq_some_iff.mp hy).1
  subst hj
  unfold gPop
  simp only [h]
  rw [if_pos ⟨by omega, by omega⟩]
  have : seqIndex? (j : Int) xs.length = some j := by
    unfold seqIndex?
    simp [show ¬ ((j : Int) < 0) by omega, hj1]
  rw [this]
  simp only [hy]
/-- the body of _law_words, the letters as a variable -/
def bWords (X : Str) : Lo → Sto → SR :=
    (mSeq (mSet (.nm 2) (fun _ => DL.ret (.str X)))
    (mSeq (mSet (.nm 3) (mJoin (fun _ => DL.ret (.str ("" : PySem.Str))) (mComp true [4] (.nm 4) (mRng1 (mCons (mBin fMulX (mCall 2 (m_law_draw) (mCons (getV 0) (mCons (fun _ => DL.ret (.int 2)) mNil))) (mCall 2 (m_law_draw) (mCons (getV 0) (mCons (fun _ => DL.ret (.int 8)) mNil)))) mNil)) (fun _ => DL.ret true) (mBin fIx (getV 2) (mCall 2 (m_law_draw) (mCons (getV 0) (mCons (fun _ => DL.ret (.int 26)) mNil)))))))
    (mSeq (mSet (.nm 5) (mCM (gList false) (mCons (getV 2) mNil)))
    (mRet (mComp true [4] (.nm 4) (mRng1 (mCons (getV 1) mNil)) (fun _ => DL.ret true) (mBin fAdd (mBin fIx (mLst (mCons (getV 3) (mCons (fun _ => DL.ret (.str ("" : PySem.Str))) mNil))) (mBin fMod (getV 4) (fun _ => DL.ret (.int 2)))) (mMeth gPop (getV 5) (mCons (mCall 2 (m_law_draw) (mCons (getV 0) (mCons (mCB fLen (mCons (getV 5) mNil)) mNil))) mNil))))))))
theorem words_key {cs rs : List Nat} {X : Str} {n q : Nat} {k r : Int} {c : Nat} {s' s4 s5 : Sto} (hcs : cs.length ≤ 7) (i4 : s'[q]? = some (.lst (rs.map fun c => D.str ⟨#[c]⟩))) (e4 : m_law_draw [.loc p, .int ((rs.map fun c => D.str ⟨#[c]⟩).length : Int)] s' = .ok (.int r) s4) (pp : gPop (.loc q) [.int r] s4 = .ok (.str ⟨#[c]⟩) s5) :
    ∃ y : Str, (y.cps.toList = cs ++ [c] ∨ y.cps.toList = [c]) ∧ mBin fAdd (mBin fIx (mLst (mCons (getV 3) (mCons (fun _ => DL.ret (.str ("" : PySem.Str))) mNil))) (mBin fMod (getV 4) (fun _ => DL.ret (.int 2)))) (mMeth gPop (getV 5) (mCons (mCall 2 (m_law_draw) (mCons (getV 0) (mCons (mCB fLen (mCons (getV 5) mNil)) mNil))) mNil)) [some (.loc p), some (.int n), some (.str X), some (.str ⟨cs.toArray⟩), some (.int k), some (.loc q)] s' = .ok (.str y) s5 := by
  have fm : fMod (.int k) (.int 2) s' = some (.int (k % 2)) := fMod_int (by decide)
  have hk : k % 2 = 0 ∨ k % 2 = 1 := by omega
  have l1 : (⟨cs.toArray⟩ : Str).length = cs.length := by show cs.toArray.size = _; simp
  have l2 : (⟨#[c]⟩ : Str).length = 1 := rfl
  rcases hk with hk | hk
  · refine ⟨(⟨cs.toArray⟩ : Str) ++ ⟨#[c]⟩, .inl (by show (cs.toArray ++ #[c]).toList = _; simp), ?_⟩
    push_cast [fm, hk, isLst_loc i4, len_loc i4, e4, pp, add_str (x := ⟨cs.toArray⟩) (y := ⟨#[c]⟩) (s := s5) (few (by rw [l1, l2]; omega))]
  · refine ⟨("" : Str) ++ ⟨#[c]⟩, .inr (by show ((#[] : Array Nat) ++ #[c]).toList = _; simp), ?_⟩
    have l0 : ("" : Str).length = 0 := rfl
    push_cast [fm, hk, isLst_loc i4, len_loc i4, e4, pp, add_str (x := "") (y := ⟨#[c]⟩) (s := s5) (few (by rw [l0, l2]; omega))]
theorem words_gen (X : Str) (hX : X.length = 26) (hN : X.cps.toList.Nodup) {n : Nat} (h : PoolAt s p) (hn : n ≤ 26) : ∃ (ys : List Str) (s' : Sto), callF 6 2 (bWords X) [.loc p, .int n] s = .ok (.lst (ys.map D.str)) s' ∧ ys.length = n ∧ Lk p s s' ∧
    ∃ hs us : List Nat, hs.length ≤ 7 ∧ (∀ c ∈ hs, c ∈ X.cps.toList) ∧ us.Nodup ∧ us.length = n ∧ (∀ c ∈ us, c ∈ X.cps.toList) ∧ ∀ (i : Nat) (y : Str), ys[i]? = some y → ∃ c, us[i]? = some c ∧ (y.cps.toList = hs ++ [c] ∨ y.cps.toList = [c]) := by
  obtain ⟨a, s1, e1, a0, a1, k1⟩ := drawn (n := 2) h (by decide) (by decide)
  obtain ⟨b, s2, e2, b0, b1, k2⟩ := drawn (n := 8) k1.pool (by decide) (by decide)
  have k12 := k1.trans k2
  have m : fMulX (.int a) (.int b) s2 = some (.int (a * b)) := lk_mul a0 (by omega) b0 (by omega)
  have ab0 : 0 ≤ a * b := Int.mul_nonneg a0 b0
  have ab7 : a * b ≤ 7 := by
    have : a = 0 ∨ a = 1 := by omega
    rcases this with rfl | rfl <;> omega
  have hx : X.length ≤ sizeLine := few (by rw [hX]; decide)
  obtain ⟨hd, s3, e3, hI⟩ := compR_ex (T := .nm 4) (mt := fun _ => DL.ret true) (me := mBin fIx (getV 2) (mCall 2 (m_law_draw) (mCons (getV 0) (mCons (fun _ => DL.ret (.int 26)) mNil)))) (lo := [some (.loc p), some (.int n), some (.str X), none, none, none])
    (fun ds acc s' => acc.length + ds.length ≤ 7 ∧ (∃ cs : List Nat, acc = cs.map (fun c => D.str ⟨#[c]⟩) ∧ ∀ c ∈ cs, c ∈ X.cps.toList) ∧ Lk p s s') (by
      rintro d ds acc s' ⟨i1, ⟨cs, rfl, i2⟩, i3⟩
      rw [List.length_cons] at i1
      obtain ⟨r, s4, e4, r0, r1, k4⟩ := drawn (n := 26) i3.pool (by decide) (by decide)
      obtain ⟨c, hc, e5⟩ := ix_str (s := s4) hx r0 (by rw [hX]; exact r1)
      refine ⟨Nat.lt_of_lt_of_le (m := 100) (by omega) (by decide), _, rfl, s', rfl, .str ⟨#[c]⟩, s4, ?_, ?_, ⟨cs ++ [c], by rw [List.map_append]; rfl, fun z hz => ?_⟩, i3.trans k4⟩
      · push_cast [e4, e5]
      · rw [List.length_append, List.length_singleton]; omega
      · rcases List.mem_append.mp hz with hz | hz
        · exact i2 z hz
        · rw [List.mem_singleton.mp hz]; exact hc) (rangeI 0 (a * b)) [] s2 ⟨by rw [rangeI_len, List.length_nil]; omega, ⟨[], rfl, fun _ h => nomatch h⟩, k12⟩
  obtain ⟨i1, ⟨cs, rfl, i2⟩, k13⟩ := hI
  have hcs : cs.length ≤ 7 := by simpa using i1
  have p3 : p < s3.length := by
    obtain ⟨_, _, q, _⟩ := k13.pool
    exact (List.getElem?_eq_some_iff.mp q).1
  have g5 : (s3 ++ [Ob.lst (signsD X)])[s3.length]? = some (.lst (signsD X)) := by simp
  have k5 : Lk p s (s3 ++ [Ob.lst (signsD X)]) := by
    refine ⟨?_, by simp only [List.length_append]; have := k13.len; omega, fun q h1 h2 => ?_⟩
    · obtain ⟨u, v, q1, q2⟩ := k13.pool
      exact ⟨u, v, by rw [List.getElem?_append_left p3]; exact q1, q2⟩
    · rw [List.getElem?_append_left (Nat.lt_of_lt_of_le h1 k13.len)]
      exact k13.oth q h1 h2
  have kn : s3.length ≥ s.length := k13.len
  obtain ⟨ws, s6, e6, hJ⟩ := compR_ex (T := .nm 4) (mt := fun _ => DL.ret true) (me := mBin fAdd (mBin fIx (mLst (mCons (getV 3) (mCons (fun _ => DL.ret (.str ("" : PySem.Str))) mNil))) (mBin fMod (getV 4) (fun _ => DL.ret (.int 2)))) (mMeth gPop (getV 5) (mCons (mCall 2 (m_law_draw) (mCons (getV 0) (mCons (mCB fLen (mCons (getV 5) mNil)) mNil))) mNil))) (lo := [some (.loc p), some (.int n), some (.str X), some (.str ⟨cs.toArray⟩), none, some (.loc s3.length)])
    (fun ds acc s' => (∀ d ∈ ds, ∃ k : Int, d = .int k ∧ 0 ≤ k) ∧ acc.length + ds.length = n ∧ Lk p s s' ∧ ∃ us rs : List Nat, s'[s3.length]? = some (.lst (rs.map fun c => D.str ⟨#[c]⟩)) ∧ rs.length = 26 - acc.length ∧ (us ++ rs).Nodup ∧ (∀ c ∈ us ++ rs, c ∈ X.cps.toList) ∧ us.length = acc.length ∧
      ∃ ys : List Str, acc = ys.map D.str ∧ ∀ (i : Nat) (y : Str), ys[i]? = some y → ∃ c, us[i]? = some c ∧ (y.cps.toList = cs ++ [c] ∨ y.cps.toList = [c])) (by
      rintro d ds acc s' ⟨i1, i2, i3, us, rs, i4, i5, i6, i7, i8, ys, rfl, i9⟩
      obtain ⟨k, rfl, k0⟩ := i1 d List.mem_cons_self
      rw [List.length_cons] at i2
      rw [List.length_map] at i2 i5 i8
      obtain ⟨r, s4, e4, r0, r1, k4⟩ := drawn (n := ((rs.map fun c => D.str ⟨#[c]⟩).length : Int)) i3.pool (by rw [List.length_map]; omega) (by rw [List.length_map]; omega)
      rw [List.length_map] at r1
      have hq : p ≠ s3.length := by omega
      have g4 : s4[s3.length]? = some (.lst (rs.map fun c => D.str ⟨#[c]⟩)) := by
        rw [k4.oth s3.length (List.getElem?_eq_some_iff.mp i4).1 (Ne.symm hq)]; exact i4
      have hr : r.toNat < rs.length := by omega
      obtain ⟨c, hc⟩ : ∃ c, rs[r.toNat]? = some c := ⟨_, List.getElem?_eq_getElem hr⟩
      have hcm : c ∈ rs := List.mem_of_getElem? hc
      have pp := pop_loc (k := r) (j := r.toNat) (y := .str ⟨#[c]⟩) g4 (by omega) (by rw [List.getElem?_map, hc]; rfl) (by rw [List.length_map]; omega)
      have l4 := (List.getElem?_eq_some_iff.mp g4).1
      have fm : fMod (.int k) (.int 2) s' = some (.int (k % 2)) := fMod_int (by decide)
      obtain ⟨y, hy, ey⟩ := words_key (p := p) (X := X) (n := n) (k := k) hcs i4 e4 pp
      refine ⟨Nat.lt_of_lt_of_le (show (ys.map D.str).length < 100 by rw [List.length_map]; omega) (by decide), _, rfl, s', rfl, .str y, _, ey, fun d hd => i1 d (List.mem_cons_of_mem _ hd), ?_, ?_, us ++ [c], rs.eraseIdx r.toNat, ?_, ?_, ?_, ?_, ?_, ys ++ [y], by rw [List.map_append]; rfl, ?_⟩
      · rw [List.length_append, List.length_map, List.length_singleton]; omega
      · have k34 := i3.trans k4
        obtain ⟨u, v, q1, q2⟩ := k34.pool
        exact ⟨⟨u, v, by rw [List.getElem?_set_ne (Ne.symm hq)]; exact q1, q2⟩, by rw [List.length_set]; exact k34.len, fun q h1 h2 => by rw [List.getElem?_set_ne (by omega)]; exact k34.oth q h1 h2⟩
      · rw [List.getElem?_set_self l4, DL.eraseIdx_map]
      · rw [List.length_eraseIdx_of_lt hr, List.length_append, List.length_map, List.length_singleton]; omega
      · have pm : (us ++ rs).Perm ((us ++ [c]) ++ rs.eraseIdx r.toNat) := by
          rw [List.append_assoc]
          exact (perm_eraseIdx hc).append_left us
        exact pm.nodup_iff.mp i6
      · intro z hz
        rw [List.append_assoc] at hz
        rcases List.mem_append.mp hz with hz | hz
        · exact i7 z (List.mem_append_left _ hz)
        · rcases List.mem_cons.mp hz with rfl | hz
          · exact i7 z (List.mem_append_right _ hcm)
          · exact i7 z (List.mem_append_right _ (List.mem_of_mem_eraseIdx hz))
      · rw [List.length_append, List.length_append, List.length_map, List.length_singleton, List.length_singleton]; omega
      · intro i z hz
        by_cases hi : i < ys.length
        · rw [List.getElem?_append_left hi] at hz
          rw [List.getElem?_append_left (by omega)]
          exact i9 i z hz
        · rw [List.getElem?_append_right (by omega)] at hz
          have : i - ys.length = 0 := by
            by_cases h0 : i - ys.length = 0
            · exact h0
            · rw [List.getElem?_eq_none (by simp; omega)] at hz; cases hz
          rw [this] at hz
          rw [List.getElem?_append_right (by omega), show i - us.length = 0 by omega]
          cases hz
          exact ⟨c, rfl, hy⟩) (rangeI 0 n) [] (s3 ++ [Ob.lst (signsD X)]) ⟨fun d hd => let ⟨k, h1, h2, _⟩ := rangeI_mem hd; ⟨k, h1, h2⟩, by rw [rangeI_len, List.length_nil]; omega, k5, [], X.cps.toList, g5, by rw [Array.length_toList, List.length_nil]; exact hX, by simpa using hN, fun c hc => by simpa using hc, rfl, [], rfl, fun i y h => by simp at h⟩
  obtain ⟨_, j1, k6, us, rs, _, _, jn, jm, ju, ys, rfl, jc⟩ := hJ
  rw [List.length_nil, Nat.add_zero, List.length_map] at j1
  rw [List.length_map] at ju
  refine ⟨ys, s6, ?_, j1, k6, cs, us, hcs, i2, (List.nodup_append.mp jn).1, by omega, fun c hc => jm c (List.mem_append_left _ hc), jc⟩
  unfold bWords
  push_cast [e1, e2, m, range_of ab0 (show a * b ≤ 1000000 by omega), e3, join_signs (show cs.length ≤ 1000 by omega), lst_str hx, range_of (show (0 : Int) ≤ (n : Int) by omega) (show (n : Int) ≤ 1000000 by omega), e6]
/-- words that are drawn, unlike ones -/
theorem words_ok {n : Nat} (h : PoolAt s p) (hn : n ≤ 26) : ∃ (ys : List Str) (s' : Sto), m_law_words [.loc p, .int n] s = .ok (.lst (ys.map D.str)) s' ∧ ys.length = n ∧ (∀ y ∈ ys, wordX y = true) ∧ ys.Nodup ∧ Lk p s s' := by
  obtain ⟨ys, s', e, h1, h2, hs, us, h3, h4, h5, h6, h7, h8⟩ := words_gen ("abcdefghijklmnopqrstuvwxyz" : Str) abc_len abc_nodup h hn
  refine ⟨ys, s', e, h1, fun y hy => ?_, ?_, h2⟩
  · obtain ⟨i, hi⟩ := List.mem_iff_getElem?.mp hy
    obtain ⟨c, g1, g2⟩ := h8 i y hi
    have hc := h7 c (List.mem_of_getElem? g1)
    have hl : y.length = y.cps.toList.length := by rw [Array.length_toList]; rfl
    unfold wordX
    rw [Bool.and_eq_true, Bool.and_eq_true, decide_eq_true_eq, decide_eq_true_eq, List.all_eq_true, hl]
    rcases g2 with g2 | g2
    · rw [g2, List.length_append, List.length_singleton]
      refine ⟨⟨by omega, by omega⟩, fun z hz => decide_eq_true ?_⟩
      rcases List.mem_append.mp hz with hz | hz
      · exact h4 z hz
      · rw [List.mem_singleton.mp hz]; exact hc
    · rw [g2]
      exact ⟨⟨Nat.le_refl _, Nat.le_add_left 1 7⟩, fun z hz => by rw [List.mem_singleton.mp hz]; exact decide_eq_true hc⟩
  · have last : ∀ (i : Nat) (y : Str), ys[i]? = some y → us[i]? = y.cps.toList.getLast? := by
      intro i y hy
      obtain ⟨c, g1, g2⟩ := h8 i y hy
      rcases g2 with g2 | g2 <;> rw [g2, g1] <;> simp
    rw [List.nodup_iff_pairwise_ne, List.pairwise_iff_getElem] at h5 ⊢
    intro i j hi hj hij e
    have q1 := last i ys[i] (List.getElem?_eq_getElem hi)
    have q2 := last j ys[j] (List.getElem?_eq_getElem hj)
    rw [List.getElem?_eq_getElem (show i < us.length by omega)] at q1
    rw [List.getElem?_eq_getElem (show j < us.length by omega)] at q2
    rw [e, ← q2] at q1
    exact h5 i j (by omega) (by omega) hij (Option.some.inj q1)
/-- a new pool -/
theorem pool_new {ns : List Int} {k : Int} (h0 : 0 ≤ k) (h1 : k < 1000) : ∃ a b : Int, m_law_pool [.scr (ns.map D.int), .int k] s = .ok (.loc s.length) (s ++ [.lst [.int a, .int b]]) ∧ 0 ≤ a := by
  have pw : fPow (.int 10) (.int 18) s = some (.int 1000000000000000000) := fPow_int (show (0 : Int) ≤ 18 by decide) (by decide) (show (10 : Int).natAbs < 2 ^ 64 by decide)
  have m1 : fMulX (.int 7919) (.int k) s = some (.int (7919 * k)) := mulX_int (.inl ⟨by decide, by decide⟩)
  have m2 : fMulX (.int (7919 * k)) (.int k) s = some (.int (7919 * k * k)) := mulX_int (.inr ⟨by omega, by omega⟩)
  have m3 : fMulX (.int 31) (.int k) s = some (.int (31 * k)) := mulX_int (.inl ⟨by decide, by decide⟩)
  have m4 : ∀ i : Int, fMulX (.int i) (.int 48271) s = some (.int (i * 48271)) := fun i => mulX_int (.inr ⟨by decide, by decide⟩)
  have m5 : ∀ i : Int, fMulX (.int i) (.int 1) s = some (.int (i * 1)) := fun i => mulX_int (.inr ⟨by decide, by decide⟩)
  have m6 : ∀ i : Int, fMulX (.int i) (.int 0) s = some (.int (i * 0)) := fun i => mulX_int (.inr ⟨by decide, by decide⟩)
  have rest : ∀ i : Int, ∃ a b : Int, callR ((mSeq (mSet (.nm 3) (mCB fMax (mCons (getV 2) (mCons (mBin fSub (mNeg (fun _ => DL.ret (.int 1))) (getV 2)) mNil))))
    (mSeq (mSet (.nm 4) (mBin fMod (mBin fMulX (mBin fAdd (mBin fAdd (mBin fAdd (mBin fMod (getV 3) (fun _ => DL.ret (.int 2147483629))) (mBin fMulX (mBin fMulX (fun _ => DL.ret (.int 7919)) (getV 1)) (getV 1))) (mBin fMulX (fun _ => DL.ret (.int 31)) (getV 1))) (fun _ => DL.ret (.int 17))) (fun _ => DL.ret (.int 48271))) (fun _ => DL.ret (.int 2147483647))))
    (mRet (mLstL (mCons (mBin fMulX (getV 3) (mCB fInt (mCons (mBin fGe (getV 3) (mBin fPow (fun _ => DL.ret (.int 10)) (fun _ => DL.ret (.int 18)))) mNil))) (mCons (getV 4) mNil)))))) [some (.scr (ns.map D.int)), some (.int k), some (.int i), none, none] s) = .ok (.loc s.length) (s ++ [.lst [.int a, .int b]]) ∧ 0 ≤ a := by
    intro i
    have he : 0 ≤ (if -1 - i > i then -1 - i else i) := by split <;> omega
    generalize hm : (if -1 - i > i then -1 - i else i) = e at he
    cases hd : decide ((1000000000000000000 : Int) ≤ e) with
    | true =>
      refine ⟨e * 1, (e % 2147483629 + 7919 * k * k + 31 * k + 17) * 48271 % 2147483647, ?_, by omega⟩
      push_cast [hm, fMod_int (show (0 : Int) < 2147483629 by decide), m1, m2, m3, m4, fMod_int (show (0 : Int) < 2147483647 by decide), pw, hd, m5, if_true]
    | false =>
      refine ⟨e * 0, (e % 2147483629 + 7919 * k * k + 31 * k + 17) * 48271 % 2147483647, ?_, by omega⟩
      push_cast [hm, fMod_int (show (0 : Int) < 2147483629 by decide), m1, m2, m3, m4, fMod_int (show (0 : Int) < 2147483647 by decide), pw, hd, m6, Bool.false_eq_true, if_false]
  have ln : fLen [.scr (ns.map D.int)] s = some (.int (ns.map D.int).length) := len_scr
  unfold m_law_pool b_law_pool
  cases hk : decide (k < ((ns.map D.int).length : Int)) with
  | true =>
    obtain ⟨d, hd, hm⟩ := atI_in h0 (of_decide_eq_true hk)
    obtain ⟨i, _, rfl⟩ := List.mem_map.mp hm
    obtain ⟨a, b, e, q⟩ := rest i
    refine ⟨a, b, ?_, q⟩
    rw [← e]
    push_cast [ln, hk, hd]
  | false =>
    obtain ⟨a, b, e, q⟩ := rest 0
    refine ⟨a, b, ?_, q⟩
    rw [← e]
    push_cast [ln, hk]
end PG
set_option Elab.async false
set_option linter.all false
set_option maxRecDepth 100000
set_option maxHeartbeats 4000000
namespace K02
open PySem L2 DL PG
/-! ### the text by places, the meanings of its defs (printed by gen2.py) -/
def top (i : Nat) : Stmt := PySem.Challenge.pw_formsacross_k02_forms_looked_at.main.body.getD i (.Pass ⟨0, 0, 0, 0⟩)
abbrev s_is_word : Stmt := top 12
def N_is_word : List Str := ["thing", "sign"]
theorem sc_is_word : FnScope N_is_word ["thing"] (defScope s_is_word) := ⟨rfl, rfl, rfl, by decide +kernel, rfl, by decide +kernel, by decide +kernel⟩
abbrev s_are_words : Stmt := top 13
def N_are_words : List Str := ["thing", "most", "one"]
theorem sc_are_words : FnScope N_are_words ["thing", "most"] (defScope s_are_words) := ⟨rfl, rfl, rfl, by decide +kernel, rfl, by decide +kernel, by decide +kernel⟩
abbrev s_is_head : Stmt := top 22
def N_is_head : List Str := ["thing"]
theorem sc_is_head : FnScope N_is_head ["thing"] (defScope s_is_head) := ⟨rfl, rfl, rfl, by decide +kernel, rfl, by decide +kernel, by decide +kernel⟩
abbrev s_are_rooms : Stmt := top 23
def N_are_rooms : List Str := ["thing", "room"]
theorem sc_are_rooms : FnScope N_are_rooms ["thing"] (defScope s_are_rooms) := ⟨rfl, rfl, rfl, by decide +kernel, rfl, by decide +kernel, by decide +kernel⟩
abbrev s_look_within : Stmt := top 24
def N_look_within : List Str := ["thing", "place", "deep", "word", "parts", "below", "found", "room", "form"]
theorem sc_look_within : FnScope N_look_within ["thing", "place", "deep"] (defScope s_look_within) := ⟨rfl, rfl, rfl, by decide +kernel, rfl, by decide +kernel, by decide +kernel⟩
abbrev s_look_at_form : Stmt := top 25
def N_look_at_form : List Str := ["thing", "parts", "deep"]
theorem sc_look_at_form : FnScope N_look_at_form ["thing"] (defScope s_look_at_form) := ⟨rfl, rfl, rfl, by decide +kernel, rfl, by decide +kernel, by decide +kernel⟩
abbrev s_law_pool : Stmt := top 27
def N_law_pool : List Str := ["_law_script", "_law_k", "_law_cell", "_law_size_here", "_law_mixed"]
theorem sc_law_pool : FnScope N_law_pool ["_law_script", "_law_k"] (defScope s_law_pool) := ⟨rfl, rfl, rfl, by decide +kernel, rfl, by decide +kernel, by decide +kernel⟩
abbrev s_law_draw : Stmt := top 28
def N_law_draw : List Str := ["_law_pool_here", "_law_many", "_law_found"]
theorem sc_law_draw : FnScope N_law_draw ["_law_pool_here", "_law_many"] (defScope s_law_draw) := ⟨rfl, rfl, rfl, by decide +kernel, rfl, by decide +kernel, by decide +kernel⟩
abbrev s_law_words : Stmt := top 29
def N_law_words : List Str := ["_law_pool_here", "_law_many", "_law_letters", "_law_head", "_law_turn", "_law_rest"]
theorem sc_law_words : FnScope N_law_words ["_law_pool_here", "_law_many"] (defScope s_law_words) := ⟨rfl, rfl, rfl, by decide +kernel, rfl, by decide +kernel, by decide +kernel⟩
abbrev s_law_form : Stmt := top 31
def N_law_form : List Str := ["_law_pool_here", "_law_words_here", "_law_deep_here", "_law_way", "_law_rooms", "_law_room"]
theorem sc_law_form : FnScope N_law_form ["_law_pool_here", "_law_words_here", "_law_deep_here"] (defScope s_law_form) := ⟨rfl, rfl, rfl, by decide +kernel, rfl, by decide +kernel, by decide +kernel⟩
def b_law_form (m_law_form : List D → M D) : Lo → Sto → SR :=
    (mSeq (mSet (.nm 3) (mCall 2 (m_law_draw) (mCons (getV 0) (mCons (fun _ => ret (.int 8)) mNil))))
    (mSeq (mIf (mOrB (mB (mBin fEq (getV 2) (fun _ => ret (.int 0)))) (mB (mBin fLt (getV 3) (fun _ => ret (.int 3))))) (mRet (mBin fIx (mLst (mCons (mTup (mCons (fun _ => ret (.str ("number" : PySem.Str))) mNil)) (mCons (mTup (mCons (fun _ => ret (.str ("text" : PySem.Str))) mNil)) (mCons (mTup (mCons (fun _ => ret (.str ("choice" : PySem.Str))) (mCons (mCB fTupleX (mCons (mCut (getV 1) (mPart (fun _ => ret (.int 12))) (mPart (mBin fAdd (fun _ => ret (.int 13)) (mCall 2 (m_law_draw) (mCons (getV 0) (mCons (fun _ => ret (.int 3)) mNil)))))) mNil)) mNil))) mNil)))) (mCall 2 (m_law_draw) (mCons (getV 0) (mCons (fun _ => ret (.int 3)) mNil))))) .nx)
    (mSeq (mIf (mB (mBin fLt (getV 3) (fun _ => ret (.int 6)))) (mSeq (mSet (.nm 4) (mCut (getV 1) (fun _ => ret none) (mPart (mBin fAdd (fun _ => ret (.int 1)) (mCall 2 (m_law_draw) (mCons (getV 0) (mCons (fun _ => ret (.int 4)) mNil)))))))
    (mRet (mTup (mCons (fun _ => ret (.str ("record" : PySem.Str))) (mCons (mCB fTupleX (mCons (mComp true [5] (.nm 5) (mIter (getV 4)) (fun _ => ret true) (mTup (mCons (getV 5) (mCons (mCall 3 (m_law_form) (mCons (getV 0) (mCons (getV 1) (mCons (mBin fSub (getV 2) (fun _ => ret (.int 1))) mNil)))) mNil)))) mNil)) mNil))))) .nx)
    (mRet (mTup (mCons (mBin fIx (mLst (mCons (fun _ => ret (.str ("list" : PySem.Str))) (mCons (fun _ => ret (.str ("map" : PySem.Str))) mNil))) (mBin fSub (getV 3) (fun _ => ret (.int 6)))) (mCons (mCall 3 (m_law_form) (mCons (getV 0) (mCons (getV 1) (mCons (mBin fSub (getV 2) (fun _ => ret (.int 1))) mNil)))) mNil)))))))
def m_law_form : Nat → List D → M D
  | 0 => fun _ _ => .bad
  | k + 1 => callF 6 3 (b_law_form (m_law_form k))
abbrev s_law_record : Stmt := top 32
def N_law_record : List Str := ["_law_pool_here", "_law_words_here", "_law_deep_here", "_law_found", "_law_room", "_law_own"]
theorem sc_law_record : FnScope N_law_record ["_law_pool_here", "_law_words_here", "_law_deep_here"] (defScope s_law_record) := ⟨rfl, rfl, rfl, by decide +kernel, rfl, by decide +kernel, by decide +kernel⟩
def b_law_record : Lo → Sto → SR :=
    (mSeq (mSet (.nm 3) (mLstL mNil))
    (mSeq (mFor (.nm 4) (mIter (mCut (getV 1) (fun _ => ret none) (mPart (mBin fAdd (fun _ => ret (.int 2)) (mCall 2 (m_law_draw) (mCons (getV 0) (mCons (fun _ => ret (.int 4)) mNil))))))) (mSeq (mSet (.nm 5) (mCall 3 (m_law_form 6) (mCons (getV 0) (mCons (getV 1) (mCons (getV 2) mNil)))))
    (mSeq (mIf (mB (mBin fGt (mCount (mCB fReprX (mCons (mBin fAdd (getV 3) (mLst (mCons (getV 5) mNil))) mNil)) (fun _ => ret (.str ("('" : PySem.Str)))) (fun _ => ret (.int 30)))) (mSet (.nm 5) (mTup (mCons (fun _ => ret (.str ("number" : PySem.Str))) mNil))) .nx)
    (mExpr (mMeth gAppend (getV 3) (mCons (mTup (mCons (getV 4) (mCons (getV 5) mNil))) mNil))))))
    (mRet (mTup (mCons (fun _ => ret (.str ("record" : PySem.Str))) (mCons (mCB fTupleX (mCons (getV 3) mNil)) mNil))))))
def m_law_record : List D → M D := callF 6 3 b_law_record
abbrev s_law_is_word : Stmt := top 33
def N_law_is_word : List Str := ["_law_thing", "_law_sign"]
theorem sc_law_is_word : FnScope N_law_is_word ["_law_thing"] (defScope s_law_is_word) := ⟨rfl, rfl, rfl, by decide +kernel, rfl, by decide +kernel, by decide +kernel⟩
abbrev s_law_unlike : Stmt := top 34
def N_law_unlike : List Str := ["_law_thing", "_law_least", "_law_most", "_law_one_here", "_law_at"]
theorem sc_law_unlike : FnScope N_law_unlike ["_law_thing", "_law_least", "_law_most"] (defScope s_law_unlike) := ⟨rfl, rfl, rfl, by decide +kernel, rfl, by decide +kernel, by decide +kernel⟩
abbrev s_law_wrong : Stmt := top 35
def N_law_wrong : List Str := ["_law_thing", "_law_place", "_law_one_here", "_law_room", "_law_form_here", "_law_found"]
theorem sc_law_wrong : FnScope N_law_wrong ["_law_thing", "_law_place"] (defScope s_law_wrong) := ⟨rfl, rfl, rfl, by decide +kernel, rfl, by decide +kernel, by decide +kernel⟩
abbrev s_law_size : Stmt := top 36
def N_law_size : List Str := ["_law_form_here", "_law_some", "_law_room", "_law_own", "_law_many", "_law_deep_here"]
theorem sc_law_size : FnScope N_law_size ["_law_form_here"] (defScope s_law_size) := ⟨rfl, rfl, rfl, by decide +kernel, rfl, by decide +kernel, by decide +kernel⟩
abbrev s_law_due : Stmt := top 37
def N_law_due : List Str := ["_law_thing", "_law_found"]
theorem sc_law_due : FnScope N_law_due ["_law_thing"] (defScope s_law_due) := ⟨rfl, rfl, rfl, by decide +kernel, rfl, by decide +kernel, by decide +kernel⟩
abbrev s_law_odd : Stmt := top 38
def N_law_odd : List Str := ["_law_pool_here", "_law_some"]
theorem sc_law_odd : FnScope N_law_odd ["_law_pool_here"] (defScope s_law_odd) := ⟨rfl, rfl, rfl, by decide +kernel, rfl, by decide +kernel, by decide +kernel⟩
def b_law_odd : Lo → Sto → SR :=
    (mSeq (mSet (.nm 1) (mLstL (mCons (fun _ => ret .non) (mCons (fun _ => ret (.int 0)) (mCons (fun _ => ret (.str ("" : PySem.Str))) (mCons (fun _ => ret (.str ("number" : PySem.Str))) (mCons (mTup (mCons (fun _ => ret (.str ("number" : PySem.Str))) mNil)) (mCons (mTup (mCons (fun _ => ret (.str ("text" : PySem.Str))) mNil)) (mCons (mTup (mCons (fun _ => ret (.str ("number" : PySem.Str))) (mCons (fun _ => ret (.int 1)) mNil))) (mCons (mTup (mCons (fun _ => ret (.str ("choice" : PySem.Str))) (mCons (mTup mNil) mNil))) (mCons (mTup (mCons (fun _ => ret (.str ("choice" : PySem.Str))) (mCons (mTup (mCons (fun _ => ret (.str ("a" : PySem.Str))) (mCons (fun _ => ret (.str ("a" : PySem.Str))) mNil))) mNil))) mNil)))))))))))
    (mSeq (mSet (.nm 1) (mBinM (gAdd false) (getV 1) (mLst (mCons (mTup (mCons (fun _ => ret (.str ("choice" : PySem.Str))) (mCons (mLst (mCons (fun _ => ret (.str ("a" : PySem.Str))) mNil)) mNil))) (mCons (mTup (mCons (fun _ => ret (.str ("choice" : PySem.Str))) (mCons (mTup (mCons (fun _ => ret (.str ("A" : PySem.Str))) mNil)) mNil))) (mCons (mTup (mCons (fun _ => ret (.str ("choice" : PySem.Str))) (mCons (mBin fMulX (mTup (mCons (fun _ => ret (.str ("a" : PySem.Str))) mNil)) (fun _ => ret (.int 7))) mNil))) (mCons (mTup (mCons (fun _ => ret (.str ("list" : PySem.Str))) mNil)) (mCons (mTup (mCons (fun _ => ret (.str ("map" : PySem.Str))) (mCons (mTup mNil) mNil))) mNil))))))))
    (mSeq (mExpr (mMeth gAppend (getV 1) (mCons (mTup (mCons (fun _ => ret (.str ("record" : PySem.Str))) (mCons (mTup mNil) mNil))) mNil)))
    (mSeq (mSet (.nm 1) (mBinM (gAdd false) (getV 1) (mLst (mCons (mTup (mCons (fun _ => ret (.str ("record" : PySem.Str))) (mCons (mTup (mCons (mTup (mCons (fun _ => ret (.str ("a" : PySem.Str))) (mCons (mTup (mCons (fun _ => ret (.str ("number" : PySem.Str))) mNil)) mNil))) (mCons (mTup (mCons (fun _ => ret (.str ("a" : PySem.Str))) (mCons (mTup (mCons (fun _ => ret (.str ("text" : PySem.Str))) mNil)) mNil))) mNil))) mNil))) (mCons (mTup (mCons (fun _ => ret (.str ("record" : PySem.Str))) (mCons (mTup (mCons (mTup (mCons (fun _ => ret (.str ("a" : PySem.Str))) mNil)) mNil)) mNil))) (mCons (mTup (mCons (fun _ => ret (.str ("record" : PySem.Str))) (mCons (mLst mNil) mNil))) mNil))))))
    (mSeq (mSet (.nm 1) (mBinM (gAdd false) (getV 1) (mLst (mCons (mTup mNil) (mCons (mLst mNil) (mCons (fun _ => ret (.dct [] [])) (mCons (mTup (mCons (fun _ => ret (.str ("list" : PySem.Str))) (mCons (mTup (mCons (fun _ => ret (.str ("list" : PySem.Str))) (mCons (mTup (mCons (fun _ => ret (.str ("number" : PySem.Str))) mNil)) mNil))) mNil))) (mCons (mTup (mCons (fun _ => ret (.str ("record" : PySem.Str))) (mCons (mTup (mCons (mTup (mCons (fun _ => ret (.str ("toolongword" : PySem.Str))) (mCons (mTup (mCons (fun _ => ret (.str ("text" : PySem.Str))) mNil)) mNil))) mNil)) mNil))) (mCons (fun _ => ret (.bl true)) (mCons (mTup (mCons (fun _ => ret (.int 0)) mNil)) mNil))))))))))
    (mRet (mBin fIx (getV 1) (mCall 2 (m_law_draw) (mCons (getV 0) (mCons (mCB fLen (mCons (getV 1) mNil)) mNil))))))))))
def m_law_odd : List D → M D := callF 2 1 b_law_odd
abbrev s_law_bent : Stmt := top 39
def N_law_bent : List Str := ["_law_pool_here", "_law_thing", "_law_deep_here", "_law_some", "_law_at", "_law_way"]
theorem sc_law_bent : FnScope N_law_bent ["_law_pool_here", "_law_thing", "_law_deep_here"] (defScope s_law_bent) := ⟨rfl, rfl, rfl, by decide +kernel, rfl, by decide +kernel, by decide +kernel⟩
def b_law_bent (m_law_bent : List D → M D) : Lo → Sto → SR :=
    (mSeq (mIf (mOrB (mNotB (mTru (mIsiT [.lst, .tup] (getV 1)))) (mOrB (mB (mBin fEq (getV 2) (fun _ => ret (.int 0)))) (mB (mBin fEq (mCall 2 (m_law_draw) (mCons (getV 0) (mCons (fun _ => ret (.int 4)) mNil))) (fun _ => ret (.int 0)))))) (mRet (mCall 1 (m_law_odd) (mCons (getV 0) mNil))) .nx)
    (mSeq (mSet (.nm 3) (mCM (gList false) (mCons (getV 1) mNil)))
    (mSeq (mSet (.nm 4) (mCall 2 (m_law_draw) (mCons (getV 0) (mCons (mCB fMax (mCons (fun _ => ret (.int 1)) (mCons (mCB fLen (mCons (getV 3) mNil)) mNil))) mNil))))
    (mSeq (mSet (.nm 5) (mCall 2 (m_law_draw) (mCons (getV 0) (mCons (fun _ => ret (.int 6)) mNil))))
    (mSeq (mIf (mOrB (mB (mBin fEq (getV 5) (fun _ => ret (.int 0)))) (mB (mBin fEqX (getV 3) (mLst mNil)))) (mExpr (mMeth gInsert (getV 3) (mCons (getV 4) (mCons (mCall 1 (m_law_odd) (mCons (getV 0) mNil)) mNil)))) (mIf (mB (mBin fEq (getV 5) (fun _ => ret (.int 1)))) (mExpr (mMeth gPop (getV 3) (mCons (getV 4) mNil))) (mIf (mB (mBin fEq (getV 5) (fun _ => ret (.int 2)))) (mExpr (mMeth gInsert (getV 3) (mCons (getV 4) (mCons (mBin fIx (getV 3) (mCall 2 (m_law_draw) (mCons (getV 0) (mCons (mCB fLen (mCons (getV 3) mNil)) mNil)))) mNil)))) (mStore (getV 3) (getV 4) (mCall 3 (m_law_bent) (mCons (getV 0) (mCons (mBin fIx (getV 3) (getV 4)) (mCons (mBin fSub (getV 2) (fun _ => ret (.int 1))) mNil))))))))
    (mSeq (mIf (mTru (mIsi .tup (getV 1))) (mRet (mCB fTupleX (mCons (getV 3) mNil))) .nx)
    (mRet (getV 3))))))))
def m_law_bent : Nat → List D → M D
  | 0 => fun _ _ => .bad
  | k + 1 => callF 6 3 (b_law_bent (m_law_bent k))
abbrev s_law_told : Stmt := top 40
def N_law_told : List Str := ["_law_thing", "_law_kept", "e"]
theorem sc_law_told : FnScope N_law_told ["_law_thing"] (defScope s_law_told) := ⟨rfl, rfl, rfl, by decide +kernel, rfl, by decide +kernel, by decide +kernel⟩
def b_law_told : Lo → Sto → SR :=
    (mSeq (mSet (.nm 1) (fun _ => ret .non))
    (mSeq (mTryK (tbl [(("NoForm" : PySem.Str), true)]) 2 (mExpr (mCall 1 (m_look_at_form) (mCons (getV 0) mNil))) (mSet (.nm 1) (getV 2)))
    (mSeq (mIf (mB (mBin fIs (getV 1) (fun _ => ret .non))) (mRet (fun _ => ret .non)) .nx)
    (mSeq (mIf (mOrB (mNotB (mTru (mIsx (tbl [(("NoForm" : PySem.Str), true)]) (getV 1)))) (mTru (mIsx (tbl [(("NoForm" : PySem.Str), false)]) (getV 1)))) (mRet (fun _ => ret (.str ("other" : PySem.Str)))) .nx)
    (mRet (mFld [("NoForm" : PySem.Str)] ("place" : PySem.Str) (getV 1)))))))
def m_law_told : List D → M D := callF 3 1 b_law_told
abbrev s_law_deep : Stmt := top 41
def N_law_deep : List Str := ["_law_many", "_law_word", "_law_found", "_law_turn"]
theorem sc_law_deep : FnScope N_law_deep ["_law_many", "_law_word"] (defScope s_law_deep) := ⟨rfl, rfl, rfl, by decide +kernel, rfl, by decide +kernel, by decide +kernel⟩
def b_law_deep : Lo → Sto → SR :=
    (mSeq (mSet (.nm 2) (mTup (mCons (fun _ => ret (.str ("number" : PySem.Str))) mNil)))
    (mSeq (mFor (.nm 3) (mRng1 (mCons (mBin fSub (getV 0) (fun _ => ret (.int 1))) mNil)) (mSet (.nm 2) (mBin fIx (mLst (mCons (mTup (mCons (fun _ => ret (.str ("list" : PySem.Str))) (mCons (getV 2) mNil))) (mCons (mTup (mCons (fun _ => ret (.str ("record" : PySem.Str))) (mCons (mTup (mCons (mTup (mCons (fun _ => ret (.str ("a" : PySem.Str))) (mCons (getV 2) mNil))) mNil)) mNil))) mNil))) (mCB fInt (mCons (mBin fEq (getV 1) (fun _ => ret (.str ("record" : PySem.Str)))) mNil)))))
    (mRet (getV 2))))
def m_law_deep : List D → M D := callF 4 2 b_law_deep
abbrev s_law_wide : Stmt := top 42
def N_law_wide : List Str := ["_law_many", "_law_rooms", "_law_k", "_law_at"]
theorem sc_law_wide : FnScope N_law_wide ["_law_many"] (defScope s_law_wide) := ⟨rfl, rfl, rfl, by decide +kernel, rfl, by decide +kernel, by decide +kernel⟩
def b_law_wide : Lo → Sto → SR :=
    (mSeq (mSet (.nm 1) (mComp true [3] (.nm 3) (mRng1 (mCons (fun _ => ret (.int 6)) mNil)) (fun _ => ret true) (mTup (mCons (mBin fMulX (fun _ => ret (.str ("a" : PySem.Str))) (mBin fAdd (fun _ => ret (.int 1)) (getV 3))) (mCons (mTup (mCons (fun _ => ret (.str ("record" : PySem.Str))) (mCons (mCB fTupleX (mCons (mComp true [2] (.nm 2) (mRng1 (mCons (fun _ => ret (.int 5)) mNil)) (fun _ => ret true) (mTup (mCons (mBin fMulX (fun _ => ret (.str ("b" : PySem.Str))) (mBin fAdd (fun _ => ret (.int 1)) (getV 2))) (mCons (mTup (mCons (fun _ => ret (.str ("text" : PySem.Str))) mNil)) mNil)))) mNil)) mNil))) mNil)))))
    (mRet (mTup (mCons (fun _ => ret (.str ("record" : PySem.Str))) (mCons (mBin fAdd (mCB fTupleX (mCons (getV 1) mNil)) (mBin fMulX (mTup (mCons (mTup (mCons (fun _ => ret (.str ("zz" : PySem.Str))) (mCons (mTup (mCons (fun _ => ret (.str ("text" : PySem.Str))) mNil)) mNil))) mNil)) (fun _ => ret (.int 0)))) mNil)))))
def m_law_wide : List D → M D := callF 4 1 b_law_wide
abbrev s_law_shallow : Stmt := top 43
def N_law_shallow : List Str := ["_law_many", "_law_rows", "_law_k", "_law_at"]
theorem sc_law_shallow : FnScope N_law_shallow ["_law_many"] (defScope s_law_shallow) := ⟨rfl, rfl, rfl, by decide +kernel, rfl, by decide +kernel, by decide +kernel⟩
def b_law_shallow : Lo → Sto → SR :=
    (mSeq (mSet (.nm 1) (mComp true [3] (.nm 3) (mRng1 (mCons (fun _ => ret (.int 5)) mNil)) (fun _ => ret true) (mTup (mCons (mBin fMulX (fun _ => ret (.str ("b" : PySem.Str))) (mBin fAdd (fun _ => ret (.int 1)) (getV 3))) (mCons (mTup (mCons (fun _ => ret (.str ("record" : PySem.Str))) (mCons (mCB fTupleX (mCons (mComp true [2] (.nm 2) (mRng1 (mCons (fun _ => ret (.int 6)) mNil)) (fun _ => ret true) (mTup (mCons (mBin fMulX (fun _ => ret (.str ("c" : PySem.Str))) (mBin fAdd (fun _ => ret (.int 1)) (getV 2))) (mCons (mTup (mCons (fun _ => ret (.str ("number" : PySem.Str))) mNil)) mNil)))) mNil)) mNil))) mNil)))))
    (mRet (mTup (mCons (fun _ => ret (.str ("record" : PySem.Str))) (mCons (mBin fAdd (mCB fTupleX (mCons (getV 1) mNil)) (mTup (mCons (mTup (mCons (fun _ => ret (.str ("last" : PySem.Str))) (mCons (mTup (mCons (fun _ => ret (.str ("record" : PySem.Str))) (mCons (mCB fTupleX (mCons (mComp true [2] (.nm 2) (mRng1 (mCons (getV 0) mNil)) (fun _ => ret true) (mTup (mCons (mBin fMulX (fun _ => ret (.str ("d" : PySem.Str))) (mBin fAdd (fun _ => ret (.int 1)) (getV 2))) (mCons (mTup (mCons (fun _ => ret (.str ("text" : PySem.Str))) mNil)) mNil)))) mNil)) mNil))) mNil))) mNil))) mNil)))))
def m_law_shallow : List D → M D := callF 4 1 b_law_shallow
abbrev s_law_right : Stmt := top 44
def N_law_right : List Str := ["_law_thing", "_law_kept"]
theorem sc_law_right : FnScope N_law_right ["_law_thing"] (defScope s_law_right) := ⟨rfl, rfl, rfl, by decide +kernel, rfl, by decide +kernel, by decide +kernel⟩
def b_law_right : Lo → Sto → SR :=
    (mSeq (mSet (.nm 1) (mCB fReprX (mCons (getV 0) mNil)))
    (mRet (mAnd (mBin fEq (mCB fReprX (mCons (mCall 1 (m_law_told) (mCons (getV 0) mNil)) mNil)) (mCB fReprX (mCons (mCall 1 (m_law_due) (mCons (getV 0) mNil)) mNil))) (mBin fEq (mCB fReprX (mCons (getV 0) mNil)) (getV 1)))))
def m_law_right : List D → M D := callF 2 1 b_law_right
abbrev s_law : Stmt := top 45
def N_law : List Str := ["_law_script", "_law_wide_here", "_law_more", "_law_some", "_law_seven", "_law_sign", "_law_thing", "_law_k", "_law_pool_here", "_law_form_here", "_law_one_here"]
theorem sc_law : FnScope N_law ["_law_script"] (defScope s_law) := ⟨rfl, rfl, rfl, by decide +kernel, rfl, by decide +kernel, by decide +kernel⟩
def b_law : Lo → Sto → SR :=
    (mSeq (mSet (.nm 1) (mCall 1 (m_law_wide) (mCons (fun _ => ret (.int 0)) mNil)))
    (mSeq (mSet (.nm 2) (mTup (mCons (fun _ => ret (.str ("list" : PySem.Str))) (mCons (mTup (mCons (fun _ => ret (.str ("list" : PySem.Str))) (mCons (getV 1) mNil))) mNil))))
    (mSeq (mSet (.nm 3) (mLst (mCons (mCall 2 (m_law_deep) (mCons (fun _ => ret (.int 6)) (mCons (fun _ => ret (.str ("list" : PySem.Str))) mNil))) (mCons (mCall 2 (m_law_deep) (mCons (fun _ => ret (.int 7)) (mCons (fun _ => ret (.str ("list" : PySem.Str))) mNil))) (mCons (mCall 2 (m_law_deep) (mCons (fun _ => ret (.int 6)) (mCons (fun _ => ret (.str ("record" : PySem.Str))) mNil))) (mCons (mCall 2 (m_law_deep) (mCons (fun _ => ret (.int 7)) (mCons (fun _ => ret (.str ("record" : PySem.Str))) mNil))) (mCons (getV 1) (mCons (getV 2) mNil))))))))
    (mSeq (mSet (.nm 3) (mBin fAdd (getV 3) (mLst (mCons (mTup (mCons (fun _ => ret (.str ("map" : PySem.Str))) (mCons (getV 2) mNil))) (mCons (mTup (mCons (fun _ => ret (.str ("list" : PySem.Str))) (mCons (mTup (mCons (fun _ => ret (.str ("map" : PySem.Str))) (mCons (getV 2) mNil))) mNil))) (mCons (mTup (mCons (fun _ => ret (.str ("choice" : PySem.Str))) (mCons (mTup (mCons (fun _ => ret (.str ("a" : PySem.Str))) (mCons (fun _ => ret (.str ("b" : PySem.Str))) (mCons (fun _ => ret (.str ("c" : PySem.Str))) (mCons (fun _ => ret (.str ("d" : PySem.Str))) (mCons (fun _ => ret (.str ("e" : PySem.Str))) (mCons (fun _ => ret (.str ("f" : PySem.Str))) mNil))))))) mNil))) (mCons (mTup (mCons (fun _ => ret (.str ("record" : PySem.Str))) (mCons (mTup mNil) mNil))) mNil)))))))
    (mSeq (mSet (.nm 4) (mLst (mCons (mTup (mCons (fun _ => ret (.str ("choice" : PySem.Str))) (mCons (mCB fTupleX (mCons (fun _ => ret (.str ("abcdefg" : PySem.Str))) mNil)) mNil))) (mCons (mTup (mCons (fun _ => ret (.str ("record" : PySem.Str))) (mCons (mCB fTupleX (mCons (mComp true [5] (.nm 5) (mIter (fun _ => ret (.str ("abcdefg" : PySem.Str)))) (fun _ => ret true) (mTup (mCons (getV 5) (mCons (mTup (mCons (fun _ => ret (.str ("text" : PySem.Str))) mNil)) mNil)))) mNil)) mNil))) mNil))))
    (mSeq (mSet (.nm 4) (mBin fAdd (getV 4) (mLst (mCons (mTup (mCons (fun _ => ret (.str ("record" : PySem.Str))) (mCons (mCB fTupleX (mCons (mComp true [5] (.nm 5) (mIter (fun _ => ret (.str ("abcdef" : PySem.Str)))) (fun _ => ret true) (mTup (mCons (getV 5) (mCons (mTup (mCons (fun _ => ret (.str ("text" : PySem.Str))) mNil)) mNil)))) mNil)) mNil))) (mCons (mCall 1 (m_law_shallow) (mCons (fun _ => ret (.int 3)) mNil)) (mCons (mCall 1 (m_law_shallow) (mCons (fun _ => ret (.int 4)) mNil)) mNil))))))
    (mSeq (mIf (mB (mBin fNe (mComp true [6] (.nm 6) (mIter (getV 4)) (mNotB (mTru (mCall 1 (m_law_right) (mCons (getV 6) mNil)))) (getV 6)) (mLst mNil))) (mRet (fun _ => ret (.bl false))) .nx)
    (mSeq (mFor (.nm 7) (mRng1 (mCons (mCB fMax (mCons (fun _ => ret (.int 1)) (mCons (mCB fMin (mCons (fun _ => ret (.int 20)) (mCons (mCB fLen (mCons (getV 0) mNil)) mNil))) mNil))) mNil)) (mSeq (mSet (.nm 8) (mCall 2 (m_law_pool) (mCons (getV 0) (mCons (getV 7) mNil))))
    (mSeq (mSet (.nm 9) (mCall 3 (m_law_record) (mCons (getV 8) (mCons (mCall 2 (m_law_words) (mCons (getV 8) (mCons (fun _ => ret (.int 16)) mNil))) (mCons (mBin fAdd (fun _ => ret (.int 1)) (mCall 2 (m_law_draw) (mCons (getV 8) (mCons (fun _ => ret (.int 4)) mNil)))) mNil)))))
    (mSeq (mSet (.nm 10) (mCall 3 (m_law_bent 9) (mCons (getV 8) (mCons (getV 9) (mCons (fun _ => ret (.int 7)) mNil)))))
    (mFor (.nm 6) (mIter (mLst (mCons (getV 9) (mCons (getV 10) (mCons (mCall 3 (m_law_bent 9) (mCons (getV 8) (mCons (getV 10) (mCons (fun _ => ret (.int 7)) mNil)))) (mCons (mCall 1 (m_law_odd) (mCons (getV 8) mNil)) (mCons (mBin fIx (getV 3) (mCall 2 (m_law_draw) (mCons (getV 8) (mCons (fun _ => ret (.int 10)) mNil)))) mNil))))))) (mIf (mNotB (mTru (mCall 1 (m_law_right) (mCons (getV 6) mNil)))) (mRet (fun _ => ret (.bl false))) .nx))))))
    (mRet (fun _ => ret (.bl true)))))))))))
def m_law : List D → M D := callF 11 1 b_law
section
variable {P : Program} {w : World} {K : PySem.W.Frag} {mg : Str → Option Value} {base : Heap} {c : ClsM}
def freeN : List Str := ["ValueError", "all", "enumerate", "int", "isinstance", "len", "list", "max", "min", "range", "repr", "str", "sum", "tuple"]
abbrev s_i_NoForm : Stmt := mth (top 1) 0
theorem sc_i_NoForm : FnScope ["self", "place"] ["self", "place"] (defScope s_i_NoForm) := ⟨rfl, rfl, rfl, by decide +kernel, rfl, by decide +kernel, by decide +kernel⟩
theorem i_NoForm {C f : Addr} {fd : FuncData} (F : Fun K "__init__" "NoForm.__init__" s_i_NoForm f fd) (bd : Binds K fd ["self", "place"] []) (iC : PySem.W.findIn K (.ref C) "__init__" = some (some (.ref f))) (tI : PySem.W.typeIn K (.ref f) = some (.type "function")) (vV : PySem.W.findCls K (.type "ValueError") (.type "type") "__init__" = some (.val (.builtin "ValueError.__init__"))) (hf : ∀ x : Str, x ∈ freeN → mg x = none) : ExI P w K mg base C 1 (spI1 K "place") :=
  ⟨f, fd, ["self", "place"], rfl, iC, tI, bd, F.okX sc_i_NoForm (fun _ _ _ _ h => by obtain ⟨_, _, _, rfl, _⟩ := h; rfl) fun cdv A outer s H vs Q E hr hsp =>
   ⟨_, pss_cons (ps_expr (pe_veinit rfl (hf "ValueError" (by decide)) vV (pa_cons (pe_var (i := 0) rfl (by first | exact Or.inl rfl | exact Or.inr (Or.inl rfl) | exact Or.inr (Or.inr rfl))) (pa_cons pe_str pa_nil)))) (pss_one (ps_ost (pe_var (i := 0) rfl (by first | exact Or.inl rfl | exact Or.inr (Or.inl rfl) | exact Or.inr (Or.inr rfl))) (pe_var (i := 1) rfl (by first | exact Or.inl rfl | exact Or.inr (Or.inl rfl) | exact Or.inr (Or.inr rfl))))), init1_ok (ps := ["self", "place"]) rfl hsp⟩⟩
theorem d_is_word {f : Addr} {fd : FuncData} (F : Fun K "is_word" "is_word" s_is_word f fd) (hm : mg "is_word" = some (.ref f)) (bd : Binds K fd ["thing"] []) (hf : ∀ x : Str, x ∈ freeN → mg x = none)
    (g_LONGEST : GlobD K mg "LONGEST" k_LONGEST)
    (g_SIGNS : GlobD K mg "SIGNS" k_SIGNS) : FnD P w K mg base c 1 "is_word" ["thing"] m_is_word :=
    FnD.of F hm bd sc_is_word fun {_ _ _ _ _ _} hr hgd =>
     (pds_cons (pd_if (PW.pt (pdw_or (pdt_not (pdt_val (pd_isi .str (pd_var 0) (hf ("isinstance" : PySem.Str) (by decide)) (hf ("str" : PySem.Str) (by decide))))) (pdw_or1 (pdt_not (pdt_chain od_le od_le pd_int (pd_callB cd_len (pda_cons (pd_var 0) pda_nil) (hf ("len" : PySem.Str) (by decide))) (pd_glob g_LONGEST rfl)))))) (pds_one (pd_ret pd_bl)) pds_nil)
      (pds_one (pd_ret (pd_callB (cd_all rfl) (pda_cons (pd_lc true [(("sign" : PySem.Str), 1)] rfl sc_is_word.nd (pdi_val (pd_var 0)) (blkOk_by (N := N_is_word) (sc := defScope s_is_word) (by decide +kernel)) (fun _ _ _ _ _ => (pg_nm 1 sc_is_word.nd)) (fun _ _ _ _ _ => pts_any) (fun _ _ _ _ _ => (pd_cmp od_in (pd_var 1) (pd_glob g_SIGNS rfl)))) pda_nil) (hf ("all" : PySem.Str) (by decide))))))
theorem d_are_words {f : Addr} {fd : FuncData} (F : Fun K "are_words" "are_words" s_are_words f fd) (hm : mg "are_words" = some (.ref f)) (bd : Binds K fd ["thing", "most"] []) (hf : ∀ x : Str, x ∈ freeN → mg x = none)
    (F_is_word : FnD P w K mg base c 1 "is_word" ["thing"] (m_is_word)) : FnD P w K mg base c 2 "are_words" ["thing", "most"] m_are_words :=
    FnD.of F hm bd sc_are_words fun {_ _ _ _ _ _} hr hgd =>
     (pds_cons (pd_if (PW.pt (pdw_or (pdt_not (pdt_val (pd_isi .tup (pd_var 0) (hf ("isinstance" : PySem.Str) (by decide)) (hf ("tuple" : PySem.Str) (by decide))))) (pdw_or (pdt_not (pdt_chain od_le od_le pd_int (pd_callB cd_len (pda_cons (pd_var 0) pda_nil) (hf ("len" : PySem.Str) (by decide))) (pd_var 1))) (pdw_or1 (pdt_not (pdt_val (pd_callB (cd_all rfl) (pda_cons (pd_lc true [(("one" : PySem.Str), 2)] rfl sc_are_words.nd (pdi_val (pd_var 0)) (blkOk_by (N := N_are_words) (sc := defScope s_are_words) (by decide +kernel)) (fun _ _ _ _ _ => (pg_nm 2 sc_are_words.nd)) (fun _ _ _ _ _ => pts_any) (fun _ _ _ _ _ => (pd_call F_is_word (hr.mono (by omega)) hgd takes0 (pda_cons (pd_var 2) pda_nil)))) pda_nil) (hf ("all" : PySem.Str) (by decide))))))))) (pds_one (pd_ret pd_bl)) pds_nil)
      (pds_one (pd_ret (pd_cmp (od_eq hr.units) (pd_lenSet [(("one" : PySem.Str), 2)] (hf ("len" : PySem.Str) (by decide)) rfl sc_are_words.nd (pdi_val (pd_var 0)) (blkOk_by (N := N_are_words) (sc := defScope s_are_words) (by decide +kernel)) (fun _ _ _ _ _ => (pg_nm 2 sc_are_words.nd)) (fun _ _ _ _ _ => pts_any) (fun _ _ _ _ _ => (pd_var 2))) (pd_callB cd_len (pda_cons (pd_var 0) pda_nil) (hf ("len" : PySem.Str) (by decide)))))))
theorem d_is_head {f : Addr} {fd : FuncData} (F : Fun K "is_head" "is_head" s_is_head f fd) (hm : mg "is_head" = some (.ref f)) (bd : Binds K fd ["thing"] []) (hf : ∀ x : Str, x ∈ freeN → mg x = none) : FnD P w K mg base c 1 "is_head" ["thing"] m_is_head :=
    FnD.of F hm bd sc_is_head fun {_ _ _ _ _ _} hr hgd =>
     (pds_one (pd_ret (pd_and (pd_isi .tup (pd_var 0) (hf ("isinstance" : PySem.Str) (by decide)) (hf ("tuple" : PySem.Str) (by decide))) (pd_and (pd_cmp od_gt (pd_callB cd_len (pda_cons (pd_var 0) pda_nil) (hf ("len" : PySem.Str) (by decide))) pd_int) (pe_one (pd_isi .str (pd_ix od_ix (pd_var 0) pd_int) (hf ("isinstance" : PySem.Str) (by decide)) (hf ("str" : PySem.Str) (by decide))))))))
theorem d_are_rooms {f : Addr} {fd : FuncData} (F : Fun K "are_rooms" "are_rooms" s_are_rooms f fd) (hm : mg "are_rooms" = some (.ref f)) (bd : Binds K fd ["thing"] []) (hf : ∀ x : Str, x ∈ freeN → mg x = none)
    (g_MOST_ROOMS : GlobD K mg "MOST_ROOMS" k_MOST_ROOMS)
    (F_is_word : FnD P w K mg base c 1 "is_word" ["thing"] (m_is_word)) : FnD P w K mg base c 2 "are_rooms" ["thing"] m_are_rooms :=
    FnD.of F hm bd sc_are_rooms fun {_ _ _ _ _ _} hr hgd =>
     (pds_cons (pd_if (PW.pt (pdw_or (pdt_not (pdt_val (pd_isi .tup (pd_var 0) (hf ("isinstance" : PySem.Str) (by decide)) (hf ("tuple" : PySem.Str) (by decide))))) (pdw_or1 (pdt_cmp od_gt (pd_callB cd_len (pda_cons (pd_var 0) pda_nil) (hf ("len" : PySem.Str) (by decide))) (pd_glob g_MOST_ROOMS rfl))))) (pds_one (pd_ret pd_bl)) pds_nil)
      (pds_cons (pd_for (passes_of rfl) rfl (pdi_val (pd_var 0)) (pg_nm 1 sc_are_rooms.nd) (pds_one (pd_if (PW.pt (pdw_or (pdt_not (pdt_val (pd_isi .tup (pd_var 1) (hf ("isinstance" : PySem.Str) (by decide)) (hf ("tuple" : PySem.Str) (by decide))))) (pdw_or (pdt_cmp (od_ne hr.units) (pd_callB cd_len (pda_cons (pd_var 1) pda_nil) (hf ("len" : PySem.Str) (by decide))) pd_int) (pdw_or1 (pdt_not (pdt_val (pd_call F_is_word (hr.mono (by omega)) hgd (takes_of rfl rfl rfl rfl) (pda_cons (pd_ix od_ix (pd_var 1) pd_int) pda_nil)))))))) (pds_one (pd_ret pd_bl)) pds_nil)))
      (pds_one (pd_ret (pd_cmp (od_eq hr.units) (pd_lenSet [(("room" : PySem.Str), 1)] (hf ("len" : PySem.Str) (by decide)) rfl sc_are_rooms.nd (pdi_val (pd_var 0)) (blkOk_by (N := N_are_rooms) (sc := defScope s_are_rooms) (by decide +kernel)) (fun _ _ _ _ _ => (pg_nm 1 sc_are_rooms.nd)) (fun _ _ _ _ _ => pts_any) (fun _ _ _ _ _ => (pd_ix od_ix (pd_var 1) pd_int))) (pd_callB cd_len (pda_cons (pd_var 0) pda_nil) (hf ("len" : PySem.Str) (by decide))))))))
theorem d_look_within {f : Addr} {fd : FuncData} (F : Fun K "look_within" "look_within" s_look_within f fd) (hm : mg "look_within" = some (.ref f)) (bd : Binds K fd ["thing", "place", "deep"] []) (hf : ∀ x : Str, x ∈ freeN → mg x = none)
    {C_NoForm : Addr}
    (E_NoForm : ExC K mg c "NoForm" C_NoForm)
    (I_NoForm : ExI P w K mg base C_NoForm 1 (spI1 K "place"))
    (n_NoForm_place : PySem.W.findIn K (.ref C_NoForm) "place" = some none)
    (g_ALL : GlobD K mg "ALL" k_ALL)
    (g_LEAVES : GlobD K mg "LEAVES" k_LEAVES)
    (g_MANY : GlobD K mg "MANY" k_MANY)
    (g_MOST_DEEP : GlobD K mg "MOST_DEEP" k_MOST_DEEP)
    (g_MOST_PARTS : GlobD K mg "MOST_PARTS" k_MOST_PARTS)
    (g_MOST_WORDS : GlobD K mg "MOST_WORDS" k_MOST_WORDS)
    (F_is_head : FnD P w K mg base c 1 "is_head" ["thing"] (m_is_head))
    (F_are_words : FnD P w K mg base c 2 "are_words" ["thing", "most"] (m_are_words))
    (F_are_rooms : FnD P w K mg base c 2 "are_rooms" ["thing"] (m_are_rooms)) : ∀ k : Nat, FnD P w K mg base c (3 + k) "look_within" ["thing", "place", "deep"] (m_look_within k)
  | 0 => FnD.none ⟨f, fd, hm, F.kp, bd⟩
  | k + 1 => by
    have F_look_within := d_look_within F hm bd hf E_NoForm I_NoForm n_NoForm_place g_ALL g_LEAVES g_MANY g_MOST_DEEP g_MOST_PARTS g_MOST_WORDS F_is_head F_are_words F_are_rooms k
    exact FnD.of F hm bd sc_look_within fun {_ _ _ _ _ _} hr hgd =>
     (pds_cons (pd_if (PW.pt (pdw_or (pdt_not (pdt_val (pd_call F_is_head (hr.mono (show _ ≤ 3 + _ from Nat.le_add_right_of_le (by decide))) hgd (takes_of rfl rfl rfl rfl) (pda_cons (pd_var 0) pda_nil)))) (pdw_or1 (pdt_cmp od_gt (pd_var 2) (pd_bin od_add (pd_glob g_MOST_DEEP rfl) (pd_glob g_MOST_PARTS rfl)))))) (pds_one (pd_raise1 (k := 0) rfl (takes_of rfl rfl rfl rfl) E_NoForm I_NoForm n_NoForm_place (hr.mono (show _ ≤ 3 + _ from Nat.le_add_right_of_le (by decide))) (pda_cons (pd_var 1) pda_nil))) pds_nil)
      (pds_cons (pd_set 3 sc_look_within.nd (pd_ix od_ix (pd_var 0) pd_int))
      (pds_cons (pd_if (PW.pt (pdw_and (pdt_cmp (od_inX hr.units) (pd_var 3) (pd_glob g_LEAVES rfl)) (pdw_and1 (pdt_cmp (od_eq hr.units) (pd_callB cd_len (pda_cons (pd_var 0) pda_nil) (hf ("len" : PySem.Str) (by decide))) pd_int)))) (pds_one (pd_ret (pd_tup (pda_cons pd_int (pda_cons pd_int pda_nil))))) pds_nil)
      (pds_cons (pd_if (PW.pt (pdw_and (pdt_cmp (od_eq hr.units) (pd_var 3) pd_str) (pdw_and (pdt_cmp (od_eq hr.units) (pd_callB cd_len (pda_cons (pd_var 0) pda_nil) (hf ("len" : PySem.Str) (by decide))) pd_int) (pdw_and1 (pdt_val (pd_call F_are_words (hr.mono (show _ ≤ 3 + _ from Nat.le_add_right_of_le (by decide))) hgd (takes_of rfl rfl rfl rfl) (pda_cons (pd_ix od_ix (pd_var 0) pd_int) (pda_cons (pd_glob g_MOST_WORDS rfl) pda_nil)))))))) (pds_one (pd_ret (pd_tup (pda_cons pd_int (pda_cons pd_int pda_nil))))) pds_nil)
      (pds_cons (pd_if (PW.pt (pdw_and (pdt_cmp (od_inX hr.units) (pd_var 3) (pd_glob g_MANY rfl)) (pdw_and1 (pdt_cmp (od_eq hr.units) (pd_callB cd_len (pda_cons (pd_var 0) pda_nil) (hf ("len" : PySem.Str) (by decide))) pd_int)))) (pds_cons (pd_asg (pd_call F_look_within (hr.mono (Nat.le_refl _)) hgd (takes_of rfl rfl rfl rfl) (pda_cons (pd_ix od_ix (pd_var 0) pd_int) (pda_cons (pd_bin od_add (pd_var 1) (pd_tup (pda_cons (pd_glob g_ALL rfl) pda_nil))) (pda_cons (pd_bin od_add (pd_var 2) pd_int) pda_nil)))) (pg_tp rfl (pg_cons 4 sc_look_within.nd (pg_cons 5 sc_look_within.nd pg_nil))))
      (pds_one (pd_ret (pd_tup (pda_cons (pd_bin od_add (pd_var 4) pd_int) (pda_cons (pd_bin od_add (pd_var 5) pd_int) pda_nil)))))) pds_nil)
      (pds_cons (pd_if (PW.pt (pdw_or (pdt_cmp (od_ne hr.units) (pd_var 3) pd_str) (pdw_or (pdt_cmp (od_ne hr.units) (pd_callB cd_len (pda_cons (pd_var 0) pda_nil) (hf ("len" : PySem.Str) (by decide))) pd_int) (pdw_or1 (pdt_not (pdt_val (pd_call F_are_rooms (hr.mono (show _ ≤ 3 + _ from Nat.le_add_right_of_le (by decide))) hgd (takes_of rfl rfl rfl rfl) (pda_cons (pd_ix od_ix (pd_var 0) pd_int) pda_nil)))))))) (pds_one (pd_raise1 (k := 0) rfl (takes_of rfl rfl rfl rfl) E_NoForm I_NoForm n_NoForm_place (hr.mono (show _ ≤ 3 + _ from Nat.le_add_right_of_le (by decide))) (pda_cons (pd_var 1) pda_nil))) pds_nil)
      (pds_cons (pd_setLcx true 6 [(("room" : PySem.Str), 7), (("form" : PySem.Str), 8)] rfl rfl (takes_of rfl rfl rfl rfl) rfl sc_look_within.nd (sw_true rfl rfl rfl (by decide +kernel)) (pdi_val (pd_ix od_ix (pd_var 0) pd_int)) (blkOk_by (N := N_look_within) (sc := defScope s_look_within) (by decide +kernel)) (fun _ _ _ _ _ => (pg_tp rfl (pg_cons 7 sc_look_within.nd (pg_cons 8 sc_look_within.nd pg_nil)))) (fun _ _ _ _ _ => pts_any) (fun _ _ _ _ _ _ _ tkc => (pd_callC F_look_within (hr.mono (Nat.le_refl _)) hgd tkc (pda_cons (pd_var 8) (pda_cons (pd_bin od_add (pd_var 1) (pd_tup (pda_cons (pd_var 7) pda_nil))) (pda_cons (pd_bin od_add (pd_var 2) pd_int) pda_nil))))))
      (pds_one (pd_ret (pd_tup (pda_cons (pd_bin od_add pd_int (pd_callB (cd_sum rfl) (pda_cons (pd_lc true [(("parts" : PySem.Str), 4), (("below" : PySem.Str), 5)] rfl sc_look_within.nd (pdi_val (pd_var 6)) (blkOk_by (N := N_look_within) (sc := defScope s_look_within) (by decide +kernel)) (fun _ _ _ _ _ => (pg_tp rfl (pg_cons 4 sc_look_within.nd (pg_cons 5 sc_look_within.nd pg_nil)))) (fun _ _ _ _ _ => pts_any) (fun _ _ _ _ _ => (pd_var 4))) pda_nil) (hf ("sum" : PySem.Str) (by decide)))) (pda_cons (pd_bin od_add pd_int (pd_maxD rfl (pd_lc true [(("parts" : PySem.Str), 4), (("below" : PySem.Str), 5)] rfl sc_look_within.nd (pdi_val (pd_var 6)) (blkOk_by (N := N_look_within) (sc := defScope s_look_within) (by decide +kernel)) (fun _ _ _ _ _ => (pg_tp rfl (pg_cons 4 sc_look_within.nd (pg_cons 5 sc_look_within.nd pg_nil)))) (fun _ _ _ _ _ => pts_any) (fun _ _ _ _ _ => (pd_var 5))) pd_int (hf ("max" : PySem.Str) (by decide)) hr.units)) pda_nil))))))))))))
theorem d_look_at_form {f : Addr} {fd : FuncData} (F : Fun K "look_at_form" "look_at_form" s_look_at_form f fd) (hm : mg "look_at_form" = some (.ref f)) (bd : Binds K fd ["thing"] []) (hf : ∀ x : Str, x ∈ freeN → mg x = none)
    {C_NoForm : Addr}
    (E_NoForm : ExC K mg c "NoForm" C_NoForm)
    (I_NoForm : ExI P w K mg base C_NoForm 1 (spI1 K "place"))
    (n_NoForm_place : PySem.W.findIn K (.ref C_NoForm) "place" = some none)
    (g_MOST_DEEP : GlobD K mg "MOST_DEEP" k_MOST_DEEP)
    (g_MOST_PARTS : GlobD K mg "MOST_PARTS" k_MOST_PARTS)
    (F_look_within : FnD P w K mg base c 33 "look_within" ["thing", "place", "deep"] (m_look_within 30)) : FnD P w K mg base c 34 "look_at_form" ["thing"] m_look_at_form :=
    FnD.of F hm bd sc_look_at_form fun {_ _ _ _ _ _} hr hgd =>
     (pds_cons (pd_asg (pd_call F_look_within (hr.mono (by omega)) hgd (takes_of rfl rfl rfl rfl) (pda_cons (pd_var 0) (pda_cons (pd_tup pda_nil) (pda_cons pd_int pda_nil)))) (pg_tp rfl (pg_cons 1 sc_look_at_form.nd (pg_cons 2 sc_look_at_form.nd pg_nil))))
      (pds_one (pd_if (PW.pt (pdw_or (pdt_cmp od_gt (pd_var 1) (pd_glob g_MOST_PARTS rfl)) (pdw_or1 (pdt_cmp od_gt (pd_var 2) (pd_glob g_MOST_DEEP rfl))))) (pds_one (pd_raise1 (k := 0) rfl (takes_of rfl rfl rfl rfl) E_NoForm I_NoForm n_NoForm_place (hr.mono (by omega)) (pda_cons (pd_tup pda_nil) pda_nil))) pds_nil)))
theorem d_law_pool {f : Addr} {fd : FuncData} (F : Fun K "_law_pool" "_law_pool" s_law_pool f fd) (hm : mg "_law_pool" = some (.ref f)) (bd : Binds K fd ["_law_script", "_law_k"] []) (hf : ∀ x : Str, x ∈ freeN → mg x = none) : FnD P w K mg base c 1 "_law_pool" ["_law_script", "_law_k"] m_law_pool :=
    FnD.of F hm bd sc_law_pool fun {_ _ _ _ _ _} hr hgd =>
     (pds_cons (pd_set 2 sc_law_pool.nd pd_int)
      (pds_cons (pd_if (pdt_cmp od_lt (pd_var 1) (pd_callB cd_len (pda_cons (pd_var 0) pda_nil) (hf ("len" : PySem.Str) (by decide)))) (pds_one (pd_set 2 sc_law_pool.nd (pd_ix od_ix (pd_var 0) (pd_var 1)))) pds_nil)
      (pds_cons (pd_set 3 sc_law_pool.nd (pd_callB (cd_max rfl) (pda_cons (pd_var 2) (pda_cons (pd_bin od_sub (pd_neg pd_int) (pd_var 2)) pda_nil)) (hf ("max" : PySem.Str) (by decide))))
      (pds_cons (pd_set 4 sc_law_pool.nd (pd_bin od_mod (pd_bin od_mulX (pd_bin od_add (pd_bin od_add (pd_bin od_add (pd_bin od_mod (pd_var 3) pd_int) (pd_bin od_mulX (pd_bin od_mulX pd_int (pd_var 1)) (pd_var 1))) (pd_bin od_mulX pd_int (pd_var 1))) pd_int) pd_int) pd_int))
      (pds_one (pd_ret (pd_lstL (pda_cons (pd_bin od_mulX (pd_var 3) (pd_callT cd_int (pda_cons (pd_cmp od_ge (pd_var 3) (pd_bin od_pow pd_int pd_int)) pda_nil) (hf ("int" : PySem.Str) (by decide)))) (pda_cons (pd_var 4) pda_nil)))))))))
theorem d_law_draw {f : Addr} {fd : FuncData} (F : Fun K "_law_draw" "_law_draw" s_law_draw f fd) (hm : mg "_law_draw" = some (.ref f)) (bd : Binds K fd ["_law_pool_here", "_law_many"] []) (hf : ∀ x : Str, x ∈ freeN → mg x = none) : FnD P w K mg base c 1 "_law_draw" ["_law_pool_here", "_law_many"] m_law_draw :=
    FnD.of F hm bd sc_law_draw fun {_ _ _ _ _ _} hr hgd =>
     (pds_cons (pd_if (pdt_cmp od_gt (pd_ix od_ix (pd_var 0) pd_int) pd_int) (pds_cons (pd_set 2 sc_law_draw.nd (pd_bin od_mod (pd_ix od_ix (pd_var 0) pd_int) (pd_var 1)))
      (pds_cons (pd_store (pd_var 0) pd_int (pd_bin od_div (pd_ix od_ix (pd_var 0) pd_int) (pd_var 1)) (pg_sub (pd_var 0) pd_int set_list))
      (pds_one (pd_ret (pd_var 2))))) pds_nil)
      (pds_cons (pd_store (pd_var 0) pd_int (pd_bin od_mod (pd_bin od_add (pd_bin od_mulX (pd_ix od_ix (pd_var 0) pd_int) pd_int) pd_int) pd_int) (pg_sub (pd_var 0) pd_int set_list))
      (pds_one (pd_ret (pd_bin od_mod (pd_bin od_div (pd_bin od_mod (pd_bin od_mulX (pd_ix od_ix (pd_var 0) pd_int) (pd_ix od_ix (pd_var 0) pd_int)) pd_int) pd_int) (pd_var 1))))))
theorem d_law_words {f : Addr} {fd : FuncData} (F : Fun K "_law_words" "_law_words" s_law_words f fd) (hm : mg "_law_words" = some (.ref f)) (bd : Binds K fd ["_law_pool_here", "_law_many"] []) (hf : ∀ x : Str, x ∈ freeN → mg x = none)
    (F_law_draw : FnD P w K mg base c 1 "_law_draw" ["_law_pool_here", "_law_many"] (m_law_draw)) : FnD P w K mg base c 2 "_law_words" ["_law_pool_here", "_law_many"] m_law_words :=
    FnD.of F hm bd sc_law_words fun {_ _ _ _ _ _} hr hgd =>
     (pds_cons (pd_set 2 sc_law_words.nd pd_str)
      (pds_cons (pd_set 3 sc_law_words.nd (pd_join pd_str (pd_lc true [(("_law_turn" : PySem.Str), 4)] rfl sc_law_words.nd (pdi_range1 (pda_cons (pd_bin od_mulX (pd_call F_law_draw (hr.mono (by omega)) hgd (takes_of rfl rfl rfl rfl) (pda_cons (pd_var 0) (pda_cons pd_int pda_nil))) (pd_call F_law_draw (hr.mono (by omega)) hgd (takes_of rfl rfl rfl rfl) (pda_cons (pd_var 0) (pda_cons pd_int pda_nil)))) pda_nil) (hf ("range" : PySem.Str) (by decide))) (blkOk_by (N := N_law_words) (sc := defScope s_law_words) (by decide +kernel)) (fun _ _ _ _ _ => (pg_nm 4 sc_law_words.nd)) (fun _ _ _ _ _ => pts_any) (fun _ _ _ _ _ => (pd_ix od_ix (pd_var 2) (pd_call F_law_draw (hr.mono (by omega)) hgd takes0 (pda_cons (pd_var 0) (pda_cons pd_int pda_nil))))))))
      (pds_cons (pd_set 5 sc_law_words.nd (pd_callTM (cd_list false rfl) (pda_cons (pd_var 2) pda_nil) (hf ("list" : PySem.Str) (by decide))))
      (pds_one (pd_ret (pd_lc true [(("_law_turn" : PySem.Str), 4)] rfl sc_law_words.nd (pdi_range1 (pda_cons (pd_var 1) pda_nil) (hf ("range" : PySem.Str) (by decide))) (blkOk_by (N := N_law_words) (sc := defScope s_law_words) (by decide +kernel)) (fun _ _ _ _ _ => (pg_nm 4 sc_law_words.nd)) (fun _ _ _ _ _ => pts_any) (fun _ _ _ _ _ => (pd_bin od_add (pd_ix od_ix (pd_lst (pda_cons (pd_var 3) (pda_cons pd_str pda_nil))) (pd_bin od_mod (pd_var 4) pd_int)) (pd_popAt (pd_var 5) (pda_cons (pd_call F_law_draw (hr.mono (by omega)) hgd takes0 (pda_cons (pd_var 0) (pda_cons (pd_callB cd_len (pda_cons (pd_var 5) pda_nil) (hf ("len" : PySem.Str) (by decide))) pda_nil))) pda_nil))))))))))
theorem d_law_form {f : Addr} {fd : FuncData} (F : Fun K "_law_form" "_law_form" s_law_form f fd) (hm : mg "_law_form" = some (.ref f)) (bd : Binds K fd ["_law_pool_here", "_law_words_here", "_law_deep_here"] []) (hf : ∀ x : Str, x ∈ freeN → mg x = none)
    (F_law_draw : FnD P w K mg base c 1 "_law_draw" ["_law_pool_here", "_law_many"] (m_law_draw)) : ∀ k : Nat, FnD P w K mg base c (2 + k) "_law_form" ["_law_pool_here", "_law_words_here", "_law_deep_here"] (m_law_form k)
  | 0 => FnD.none ⟨f, fd, hm, F.kp, bd⟩
  | k + 1 => by
    have F_law_form := d_law_form F hm bd hf F_law_draw k
    exact FnD.of F hm bd sc_law_form fun {_ _ _ _ _ _} hr hgd =>
     (pds_cons (pd_set 3 sc_law_form.nd (pd_call F_law_draw (hr.mono (show _ ≤ 2 + _ from Nat.le_add_right_of_le (by decide))) hgd (takes_of rfl rfl rfl rfl) (pda_cons (pd_var 0) (pda_cons pd_int pda_nil))))
      (pds_cons (pd_if (PW.pt (pdw_or (pdt_cmp (od_eq hr.units) (pd_var 2) pd_int) (pdw_or1 (pdt_cmp od_lt (pd_var 3) pd_int)))) (pds_one (pd_ret (pd_ix od_ix (pd_lst (pda_cons (pd_tup (pda_cons pd_str pda_nil)) (pda_cons (pd_tup (pda_cons pd_str pda_nil)) (pda_cons (pd_tup (pda_cons pd_str (pda_cons (pd_callT (cd_tupleX rfl) (pda_cons (pd_slice (pd_var 1) (pdo_some pd_int) (pdo_some (pd_bin od_add pd_int (pd_call F_law_draw (hr.mono (show _ ≤ 2 + _ from Nat.le_add_right_of_le (by decide))) hgd (takes_of rfl rfl rfl rfl) (pda_cons (pd_var 0) (pda_cons pd_int pda_nil)))))) pda_nil) (hf ("tuple" : PySem.Str) (by decide))) pda_nil))) pda_nil)))) (pd_call F_law_draw (hr.mono (show _ ≤ 2 + _ from Nat.le_add_right_of_le (by decide))) hgd (takes_of rfl rfl rfl rfl) (pda_cons (pd_var 0) (pda_cons pd_int pda_nil)))))) pds_nil)
      (pds_cons (pd_if (pdt_cmp od_lt (pd_var 3) pd_int) (pds_cons (pd_set 4 sc_law_form.nd (pd_slice (pd_var 1) pdo_none (pdo_some (pd_bin od_add pd_int (pd_call F_law_draw (hr.mono (show _ ≤ 2 + _ from Nat.le_add_right_of_le (by decide))) hgd (takes_of rfl rfl rfl rfl) (pda_cons (pd_var 0) (pda_cons pd_int pda_nil)))))))
      (pds_one (pd_ret (pd_tup (pda_cons pd_str (pda_cons (pd_callT (cd_tupleX rfl) (pda_cons (pd_lc true [(("_law_room" : PySem.Str), 5)] rfl sc_law_form.nd (pdi_val (pd_var 4)) (blkOk_by (N := N_law_form) (sc := defScope s_law_form) (by decide +kernel)) (fun _ _ _ _ _ => (pg_nm 5 sc_law_form.nd)) (fun _ _ _ _ _ => pts_any) (fun _ _ _ _ _ => (pd_tup (pda_cons (pd_var 5) (pda_cons (pd_call F_law_form (hr.mono (Nat.le_refl _)) hgd takes0 (pda_cons (pd_var 0) (pda_cons (pd_var 1) (pda_cons (pd_bin od_sub (pd_var 2) pd_int) pda_nil)))) pda_nil))))) pda_nil) (hf ("tuple" : PySem.Str) (by decide))) pda_nil)))))) pds_nil)
      (pds_one (pd_ret (pd_tup (pda_cons (pd_ix od_ix (pd_lst (pda_cons pd_str (pda_cons pd_str pda_nil))) (pd_bin od_sub (pd_var 3) pd_int)) (pda_cons (pd_call F_law_form (hr.mono (Nat.le_refl _)) hgd (takes_of rfl rfl rfl rfl) (pda_cons (pd_var 0) (pda_cons (pd_var 1) (pda_cons (pd_bin od_sub (pd_var 2) pd_int) pda_nil)))) pda_nil))))))))
theorem d_law_record {f : Addr} {fd : FuncData} (F : Fun K "_law_record" "_law_record" s_law_record f fd) (hm : mg "_law_record" = some (.ref f)) (bd : Binds K fd ["_law_pool_here", "_law_words_here", "_law_deep_here"] []) (hf : ∀ x : Str, x ∈ freeN → mg x = none)
    (F_law_draw : FnD P w K mg base c 1 "_law_draw" ["_law_pool_here", "_law_many"] (m_law_draw))
    (F_law_form : FnD P w K mg base c 8 "_law_form" ["_law_pool_here", "_law_words_here", "_law_deep_here"] (m_law_form 6)) : FnD P w K mg base c 9 "_law_record" ["_law_pool_here", "_law_words_here", "_law_deep_here"] m_law_record :=
    FnD.of F hm bd sc_law_record fun {_ _ _ _ _ _} hr hgd =>
     (pds_cons (pd_set 3 sc_law_record.nd (pd_lstL pda_nil))
      (pds_cons (pd_for (passes_of rfl) rfl (pdi_val (pd_slice (pd_var 1) pdo_none (pdo_some (pd_bin od_add pd_int (pd_call F_law_draw (hr.mono (by omega)) hgd (takes_of rfl rfl rfl rfl) (pda_cons (pd_var 0) (pda_cons pd_int pda_nil))))))) (pg_nm 4 sc_law_record.nd) (pds_cons (pd_set 5 sc_law_record.nd (pd_call F_law_form (hr.mono (by omega)) hgd (takes_of rfl rfl rfl rfl) (pda_cons (pd_var 0) (pda_cons (pd_var 1) (pda_cons (pd_var 2) pda_nil)))))
      (pds_cons (pd_if (pdt_cmp od_gt (pd_count (pd_callB (cd_reprX hgd hr.units) (pda_cons (pd_bin od_add (pd_var 3) (pd_lst (pda_cons (pd_var 5) pda_nil))) pda_nil) (hf ("repr" : PySem.Str) (by decide))) pd_str) pd_int) (pds_one (pd_set 5 sc_law_record.nd (pd_tup (pda_cons pd_str pda_nil)))) pds_nil)
      (pds_one (pd_expr (pd_append (pd_var 3) (pda_cons (pd_tup (pda_cons (pd_var 4) (pda_cons (pd_var 5) pda_nil))) pda_nil)))))))
      (pds_one (pd_ret (pd_tup (pda_cons pd_str (pda_cons (pd_callT (cd_tupleX rfl) (pda_cons (pd_var 3) pda_nil) (hf ("tuple" : PySem.Str) (by decide))) pda_nil)))))))
theorem d_law_is_word {f : Addr} {fd : FuncData} (F : Fun K "_law_is_word" "_law_is_word" s_law_is_word f fd) (hm : mg "_law_is_word" = some (.ref f)) (bd : Binds K fd ["_law_thing"] []) (hf : ∀ x : Str, x ∈ freeN → mg x = none) : FnD P w K mg base c 1 "_law_is_word" ["_law_thing"] m_law_is_word :=
    FnD.of F hm bd sc_law_is_word fun {_ _ _ _ _ _} hr hgd =>
     (pds_cons (pd_if (PW.pt (pdw_or (pdt_not (pdt_val (pd_isi .str (pd_var 0) (hf ("isinstance" : PySem.Str) (by decide)) (hf ("str" : PySem.Str) (by decide))))) (pdw_or1 (pdt_cmp (od_notInX hr.units) (pd_callB cd_len (pda_cons (pd_var 0) pda_nil) (hf ("len" : PySem.Str) (by decide))) (pd_lst (pda_cons pd_int (pda_cons pd_int (pda_cons pd_int (pda_cons pd_int (pda_cons pd_int (pda_cons pd_int (pda_cons pd_int (pda_cons pd_int pda_nil))))))))))))) (pds_one (pd_ret pd_bl)) pds_nil)
      (pds_one (pd_ret (pd_cmp (od_eqX hr.units) (pd_lc true [(("_law_sign" : PySem.Str), 1)] rfl sc_law_is_word.nd (pdi_val (pd_var 0)) (blkOk_by (N := N_law_is_word) (sc := defScope s_law_is_word) (by decide +kernel)) (fun _ _ _ _ _ => (pg_nm 1 sc_law_is_word.nd)) (fun _ _ _ _ _ => (pts_1 (pdt_cmp (od_notInX hr.units) (pd_var 1) (pd_callTM (cd_list true rfl) (pda_cons pd_str pda_nil) (hf ("list" : PySem.Str) (by decide)))))) (fun _ _ _ _ _ => (pd_var 1))) (pd_lst pda_nil)))))
theorem d_law_unlike {f : Addr} {fd : FuncData} (F : Fun K "_law_unlike" "_law_unlike" s_law_unlike f fd) (hm : mg "_law_unlike" = some (.ref f)) (bd : Binds K fd ["_law_thing", "_law_least", "_law_most"] []) (hf : ∀ x : Str, x ∈ freeN → mg x = none)
    (F_law_is_word : FnD P w K mg base c 1 "_law_is_word" ["_law_thing"] (m_law_is_word)) : FnD P w K mg base c 2 "_law_unlike" ["_law_thing", "_law_least", "_law_most"] m_law_unlike :=
    FnD.of F hm bd sc_law_unlike fun {_ _ _ _ _ _} hr hgd =>
     (pds_cons (pd_if (PW.pt (pdw_or (pdt_not (pdt_val (pd_isi .tup (pd_var 0) (hf ("isinstance" : PySem.Str) (by decide)) (hf ("tuple" : PySem.Str) (by decide))))) (pdw_or (pdt_not (pdt_chain od_le od_le (pd_var 1) (pd_callB cd_len (pda_cons (pd_var 0) pda_nil) (hf ("len" : PySem.Str) (by decide))) (pd_var 2))) (pdw_or1 (pdt_not (pdt_val (pd_callB (cd_all rfl) (pda_cons (pd_lc true [(("_law_one_here" : PySem.Str), 3)] rfl sc_law_unlike.nd (pdi_val (pd_var 0)) (blkOk_by (N := N_law_unlike) (sc := defScope s_law_unlike) (by decide +kernel)) (fun _ _ _ _ _ => (pg_nm 3 sc_law_unlike.nd)) (fun _ _ _ _ _ => pts_any) (fun _ _ _ _ _ => (pd_call F_law_is_word (hr.mono (by omega)) hgd takes0 (pda_cons (pd_var 3) pda_nil)))) pda_nil) (hf ("all" : PySem.Str) (by decide))))))))) (pds_one (pd_ret pd_bl)) pds_nil)
      (pds_one (pd_ret (pd_cmp (od_eq hr.units) (pd_callB cd_len (pda_cons (pd_lc true [(("_law_at" : PySem.Str), 4), (("_law_one_here" : PySem.Str), 3)] rfl sc_law_unlike.nd (pdi_enumT (pda_cons (pd_var 0) pda_nil) (hf ("enumerate" : PySem.Str) (by decide))) (blkOk_by (N := N_law_unlike) (sc := defScope s_law_unlike) (by decide +kernel)) (fun _ _ _ _ _ => (pg_tp rfl (pg_cons 4 sc_law_unlike.nd (pg_cons 3 sc_law_unlike.nd pg_nil)))) (fun _ _ _ _ _ => (pts_1 (pdt_cmp (od_inX hr.units) (pd_var 3) (pd_slice (pd_var 0) pdo_none (pdo_some (pd_var 4)))))) (fun _ _ _ _ _ => (pd_var 3))) pda_nil) (hf ("len" : PySem.Str) (by decide))) pd_int))))
theorem d_law_wrong {f : Addr} {fd : FuncData} (F : Fun K "_law_wrong" "_law_wrong" s_law_wrong f fd) (hm : mg "_law_wrong" = some (.ref f)) (bd : Binds K fd ["_law_thing", "_law_place"] []) (hf : ∀ x : Str, x ∈ freeN → mg x = none)
    (F_law_unlike : FnD P w K mg base c 2 "_law_unlike" ["_law_thing", "_law_least", "_law_most"] (m_law_unlike)) : ∀ k : Nat, FnD P w K mg base c (3 + k) "_law_wrong" ["_law_thing", "_law_place"] (m_law_wrong k)
  | 0 => FnD.none ⟨f, fd, hm, F.kp, bd⟩
  | k + 1 => by
    have F_law_wrong := d_law_wrong F hm bd hf F_law_unlike k
    exact FnD.of F hm bd sc_law_wrong fun {_ _ _ _ _ _} hr hgd =>
     (pds_cons (pd_if (PW.pt (pdw_or (pdt_not (pdt_val (pd_isi .tup (pd_var 0) (hf ("isinstance" : PySem.Str) (by decide)) (hf ("tuple" : PySem.Str) (by decide))))) (pdw_or (pdt_cmp (od_eq hr.units) (pd_callB cd_len (pda_cons (pd_var 0) pda_nil) (hf ("len" : PySem.Str) (by decide))) pd_int) (pdw_or1 (pdt_not (pdt_val (pd_isi .str (pd_ix od_ix (pd_var 0) pd_int) (hf ("isinstance" : PySem.Str) (by decide)) (hf ("str" : PySem.Str) (by decide))))))))) (pds_one (pd_ret (pd_var 1))) pds_nil)
      (pds_cons (pd_if (pdt_cmp (od_inX hr.units) (pd_var 0) (pd_lst (pda_cons (pd_tup (pda_cons pd_str pda_nil)) (pda_cons (pd_tup (pda_cons pd_str pda_nil)) pda_nil)))) (pds_one (pd_ret pd_non)) pds_nil)
      (pds_cons (pd_if (pdt_cmp (od_ne hr.units) (pd_callB cd_len (pda_cons (pd_var 0) pda_nil) (hf ("len" : PySem.Str) (by decide))) pd_int) (pds_one (pd_ret (pd_var 1))) pds_nil)
      (pds_cons (pd_if (pdt_cmp (od_eq hr.units) (pd_ix od_ix (pd_var 0) pd_int) pd_str) (pds_one (pd_ret (pd_ix od_ix (pd_lst (pda_cons (pd_var 1) (pda_cons pd_non pda_nil))) (pd_callT cd_int (pda_cons (pd_call F_law_unlike (hr.mono (show _ ≤ 3 + _ from Nat.le_add_right_of_le (by decide))) hgd (takes_of rfl rfl rfl rfl) (pda_cons (pd_ix od_ix (pd_var 0) pd_int) (pda_cons pd_int (pda_cons pd_int pda_nil)))) pda_nil) (hf ("int" : PySem.Str) (by decide)))))) pds_nil)
      (pds_cons (pd_if (pdt_cmp (od_inX hr.units) (pd_ix od_ix (pd_var 0) pd_int) (pd_lst (pda_cons pd_str (pda_cons pd_str pda_nil)))) (pds_one (pd_ret (pd_call F_law_wrong (hr.mono (Nat.le_refl _)) hgd (takes_of rfl rfl rfl rfl) (pda_cons (pd_ix od_ix (pd_var 0) pd_int) (pda_cons (pd_bin od_add (pd_var 1) (pd_tup (pda_cons pd_str pda_nil))) pda_nil))))) pds_nil)
      (pds_cons (pd_if (PW.pt (pdw_or (pdt_cmp (od_ne hr.units) (pd_ix od_ix (pd_var 0) pd_int) pd_str) (pdw_or (pdt_not (pdt_val (pd_isi .tup (pd_ix od_ix (pd_var 0) pd_int) (hf ("isinstance" : PySem.Str) (by decide)) (hf ("tuple" : PySem.Str) (by decide))))) (pdw_or1 (pdt_cmp od_gt (pd_callB cd_len (pda_cons (pd_ix od_ix (pd_var 0) pd_int) pda_nil) (hf ("len" : PySem.Str) (by decide))) pd_int))))) (pds_one (pd_ret (pd_var 1))) pds_nil)
      (pds_cons (pd_if (pdt_not (pdt_val (pd_callB (cd_all rfl) (pda_cons (pd_lc true [(("_law_one_here" : PySem.Str), 2)] rfl sc_law_wrong.nd (pdi_val (pd_ix od_ix (pd_var 0) pd_int)) (blkOk_by (N := N_law_wrong) (sc := defScope s_law_wrong) (by decide +kernel)) (fun _ _ _ _ _ => (pg_nm 2 sc_law_wrong.nd)) (fun _ _ _ _ _ => pts_any) (fun _ _ _ _ _ => (pd_and (pd_isi .tup (pd_var 2) (hf ("isinstance" : PySem.Str) (by decide)) (hf ("tuple" : PySem.Str) (by decide))) (pe_one (pd_cmp (od_eq hr.units) (pd_callB cd_len (pda_cons (pd_var 2) pda_nil) (hf ("len" : PySem.Str) (by decide))) pd_int))))) pda_nil) (hf ("all" : PySem.Str) (by decide))))) (pds_one (pd_ret (pd_var 1))) pds_nil)
      (pds_cons (pd_if (pdt_not (pdt_val (pd_call F_law_unlike (hr.mono (show _ ≤ 3 + _ from Nat.le_add_right_of_le (by decide))) hgd (takes_of rfl rfl rfl rfl) (pda_cons (pd_callT (cd_tupleX rfl) (pda_cons (pd_lc true [(("_law_one_here" : PySem.Str), 2)] rfl sc_law_wrong.nd (pdi_val (pd_ix od_ix (pd_var 0) pd_int)) (blkOk_by (N := N_law_wrong) (sc := defScope s_law_wrong) (by decide +kernel)) (fun _ _ _ _ _ => (pg_nm 2 sc_law_wrong.nd)) (fun _ _ _ _ _ => pts_any) (fun _ _ _ _ _ => (pd_ix od_ix (pd_var 2) pd_int))) pda_nil) (hf ("tuple" : PySem.Str) (by decide))) (pda_cons pd_int (pda_cons pd_int pda_nil)))))) (pds_one (pd_ret (pd_var 1))) pds_nil)
      (pds_cons (pd_for (passes_of rfl) rfl (pdi_val (pd_ix od_ix (pd_var 0) pd_int)) (pg_tp rfl (pg_cons 3 sc_law_wrong.nd (pg_cons 4 sc_law_wrong.nd pg_nil))) (pds_cons (pd_set 5 sc_law_wrong.nd (pd_call F_law_wrong (hr.mono (Nat.le_refl _)) hgd (takes_of rfl rfl rfl rfl) (pda_cons (pd_var 4) (pda_cons (pd_bin od_add (pd_var 1) (pd_tup (pda_cons (pd_var 3) pda_nil))) pda_nil))))
      (pds_one (pd_if (pdt_cmp od_isNot (pd_var 5) pd_non) (pds_one (pd_ret (pd_var 5))) pds_nil))))
      (pds_one (pd_ret pd_non)))))))))))
theorem d_law_size {f : Addr} {fd : FuncData} (F : Fun K "_law_size" "_law_size" s_law_size f fd) (hm : mg "_law_size" = some (.ref f)) (bd : Binds K fd ["_law_form_here"] []) (hf : ∀ x : Str, x ∈ freeN → mg x = none) : ∀ k : Nat, FnD P w K mg base c (1 + k) "_law_size" ["_law_form_here"] (m_law_size k)
  | 0 => FnD.none ⟨f, fd, hm, F.kp, bd⟩
  | k + 1 => by
    have F_law_size := d_law_size F hm bd hf  k
    exact FnD.of F hm bd sc_law_size fun {_ _ _ _ _ _} hr hgd =>
     (pds_cons (pd_set 1 sc_law_size.nd (pd_lst pda_nil))
      (pds_cons (pd_if (pdt_cmp (od_inX hr.units) (pd_ix od_ix (pd_var 0) pd_int) (pd_lst (pda_cons pd_str (pda_cons pd_str pda_nil)))) (pds_one (pd_set 1 sc_law_size.nd (pd_lst (pda_cons (pd_call F_law_size (hr.mono (Nat.le_refl _)) hgd (takes_of rfl rfl rfl rfl) (pda_cons (pd_ix od_ix (pd_var 0) pd_int) pda_nil)) pda_nil)))) pds_nil)
      (pds_cons (pd_if (pdt_cmp (od_eq hr.units) (pd_ix od_ix (pd_var 0) pd_int) pd_str) (pds_one (pd_setLc true 1 [(("_law_room" : PySem.Str), 2), (("_law_own" : PySem.Str), 3)] rfl sc_law_size.nd (sw_true rfl rfl rfl (by decide +kernel)) (pdi_val (pd_ix od_ix (pd_var 0) pd_int)) (blkOk_by (N := N_law_size) (sc := defScope s_law_size) (by decide +kernel)) (fun _ _ _ _ _ => (pg_tp rfl (pg_cons 2 sc_law_size.nd (pg_cons 3 sc_law_size.nd pg_nil)))) (fun _ _ _ _ _ => pts_any) (fun _ _ _ _ _ => (pd_call F_law_size (hr.mono (Nat.le_refl _)) hgd takes0 (pda_cons (pd_var 3) pda_nil))))) pds_nil)
      (pds_one (pd_ret (pd_tup (pda_cons (pd_bin od_add pd_int (pd_callB (cd_sum rfl) (pda_cons (pd_lc true [(("_law_many" : PySem.Str), 4), (("_law_deep_here" : PySem.Str), 5)] rfl sc_law_size.nd (pdi_val (pd_var 1)) (blkOk_by (N := N_law_size) (sc := defScope s_law_size) (by decide +kernel)) (fun _ _ _ _ _ => (pg_tp rfl (pg_cons 4 sc_law_size.nd (pg_cons 5 sc_law_size.nd pg_nil)))) (fun _ _ _ _ _ => pts_any) (fun _ _ _ _ _ => (pd_var 4))) pda_nil) (hf ("sum" : PySem.Str) (by decide)))) (pda_cons (pd_bin od_add pd_int (pd_maxD rfl (pd_lc true [(("_law_many" : PySem.Str), 4), (("_law_deep_here" : PySem.Str), 5)] rfl sc_law_size.nd (pdi_val (pd_var 1)) (blkOk_by (N := N_law_size) (sc := defScope s_law_size) (by decide +kernel)) (fun _ _ _ _ _ => (pg_tp rfl (pg_cons 4 sc_law_size.nd (pg_cons 5 sc_law_size.nd pg_nil)))) (fun _ _ _ _ _ => pts_any) (fun _ _ _ _ _ => (pd_var 5))) pd_int (hf ("max" : PySem.Str) (by decide)) hr.units)) pda_nil))))))))
theorem d_law_due {f : Addr} {fd : FuncData} (F : Fun K "_law_due" "_law_due" s_law_due f fd) (hm : mg "_law_due" = some (.ref f)) (bd : Binds K fd ["_law_thing"] []) (hf : ∀ x : Str, x ∈ freeN → mg x = none)
    (F_law_wrong : FnD P w K mg base c 33 "_law_wrong" ["_law_thing", "_law_place"] (m_law_wrong 30))
    (F_law_size : FnD P w K mg base c 31 "_law_size" ["_law_form_here"] (m_law_size 30)) : FnD P w K mg base c 34 "_law_due" ["_law_thing"] m_law_due :=
    FnD.of F hm bd sc_law_due fun {_ _ _ _ _ _} hr hgd =>
     (pds_cons (pd_set 1 sc_law_due.nd (pd_call F_law_wrong (hr.mono (by omega)) hgd (takes_of rfl rfl rfl rfl) (pda_cons (pd_var 0) (pda_cons (pd_tup pda_nil) pda_nil))))
      (pds_cons (pd_if (PW.pt (pdw_and (pdt_cmp od_is (pd_var 1) pd_non) (pdw_and1 (PW.pt (pdw_or (pdt_cmp od_gt (pd_ix od_ix (pd_call F_law_size (hr.mono (by omega)) hgd (takes_of rfl rfl rfl rfl) (pda_cons (pd_var 0) pda_nil)) pd_int) pd_int) (pdw_or1 (pdt_cmp od_gt (pd_ix od_ix (pd_call F_law_size (hr.mono (by omega)) hgd (takes_of rfl rfl rfl rfl) (pda_cons (pd_var 0) pda_nil)) pd_int) pd_int))))))) (pds_one (pd_set 1 sc_law_due.nd (pd_tup pda_nil))) pds_nil)
      (pds_one (pd_ret (pd_var 1)))))
theorem d_law_odd {f : Addr} {fd : FuncData} (F : Fun K "_law_odd" "_law_odd" s_law_odd f fd) (hm : mg "_law_odd" = some (.ref f)) (bd : Binds K fd ["_law_pool_here"] []) (hf : ∀ x : Str, x ∈ freeN → mg x = none)
    (F_law_draw : FnD P w K mg base c 1 "_law_draw" ["_law_pool_here", "_law_many"] (m_law_draw)) : FnD P w K mg base c 2 "_law_odd" ["_law_pool_here"] m_law_odd :=
    FnD.of F hm bd sc_law_odd fun {_ _ _ _ _ _} hr hgd =>
     (pds_cons (pd_set 1 sc_law_odd.nd (pd_lstL (pda_cons pd_non (pda_cons pd_int (pda_cons pd_str (pda_cons pd_str (pda_cons (pd_tup (pda_cons pd_str pda_nil)) (pda_cons (pd_tup (pda_cons pd_str pda_nil)) (pda_cons (pd_tup (pda_cons pd_str (pda_cons pd_int pda_nil))) (pda_cons (pd_tup (pda_cons pd_str (pda_cons (pd_tup pda_nil) pda_nil))) (pda_cons (pd_tup (pda_cons pd_str (pda_cons (pd_tup (pda_cons pd_str (pda_cons pd_str pda_nil))) pda_nil))) pda_nil)))))))))))
      (pds_cons (pd_set 1 sc_law_odd.nd (pd_binM (od_addL false) (pd_var 1) (pd_lst (pda_cons (pd_tup (pda_cons pd_str (pda_cons (pd_lst (pda_cons pd_str pda_nil)) pda_nil))) (pda_cons (pd_tup (pda_cons pd_str (pda_cons (pd_tup (pda_cons pd_str pda_nil)) pda_nil))) (pda_cons (pd_tup (pda_cons pd_str (pda_cons (pd_bin od_mulX (pd_tup (pda_cons pd_str pda_nil)) pd_int) pda_nil))) (pda_cons (pd_tup (pda_cons pd_str pda_nil)) (pda_cons (pd_tup (pda_cons pd_str (pda_cons (pd_tup pda_nil) pda_nil))) pda_nil))))))))
      (pds_cons (pd_expr (pd_append (pd_var 1) (pda_cons (pd_tup (pda_cons pd_str (pda_cons (pd_tup pda_nil) pda_nil))) pda_nil)))
      (pds_cons (pd_set 1 sc_law_odd.nd (pd_binM (od_addL false) (pd_var 1) (pd_lst (pda_cons (pd_tup (pda_cons pd_str (pda_cons (pd_tup (pda_cons (pd_tup (pda_cons pd_str (pda_cons (pd_tup (pda_cons pd_str pda_nil)) pda_nil))) (pda_cons (pd_tup (pda_cons pd_str (pda_cons (pd_tup (pda_cons pd_str pda_nil)) pda_nil))) pda_nil))) pda_nil))) (pda_cons (pd_tup (pda_cons pd_str (pda_cons (pd_tup (pda_cons (pd_tup (pda_cons pd_str pda_nil)) pda_nil)) pda_nil))) (pda_cons (pd_tup (pda_cons pd_str (pda_cons (pd_lst pda_nil) pda_nil))) pda_nil))))))
      (pds_cons (pd_set 1 sc_law_odd.nd (pd_binM (od_addL false) (pd_var 1) (pd_lst (pda_cons (pd_tup pda_nil) (pda_cons (pd_lst pda_nil) (pda_cons pd_dnew (pda_cons (pd_tup (pda_cons pd_str (pda_cons (pd_tup (pda_cons pd_str (pda_cons (pd_tup (pda_cons pd_str pda_nil)) pda_nil))) pda_nil))) (pda_cons (pd_tup (pda_cons pd_str (pda_cons (pd_tup (pda_cons (pd_tup (pda_cons pd_str (pda_cons (pd_tup (pda_cons pd_str pda_nil)) pda_nil))) pda_nil)) pda_nil))) (pda_cons pd_bl (pda_cons (pd_tup (pda_cons pd_int pda_nil)) pda_nil))))))))))
      (pds_one (pd_ret (pd_ix od_ix (pd_var 1) (pd_call F_law_draw (hr.mono (by omega)) hgd (takes_of rfl rfl rfl rfl) (pda_cons (pd_var 0) (pda_cons (pd_callB cd_len (pda_cons (pd_var 1) pda_nil) (hf ("len" : PySem.Str) (by decide))) pda_nil)))))))))))
theorem d_law_bent {f : Addr} {fd : FuncData} (F : Fun K "_law_bent" "_law_bent" s_law_bent f fd) (hm : mg "_law_bent" = some (.ref f)) (bd : Binds K fd ["_law_pool_here", "_law_thing", "_law_deep_here"] []) (hf : ∀ x : Str, x ∈ freeN → mg x = none)
    (F_law_draw : FnD P w K mg base c 1 "_law_draw" ["_law_pool_here", "_law_many"] (m_law_draw))
    (F_law_odd : FnD P w K mg base c 2 "_law_odd" ["_law_pool_here"] (m_law_odd)) : ∀ k : Nat, FnD P w K mg base c (3 + k) "_law_bent" ["_law_pool_here", "_law_thing", "_law_deep_here"] (m_law_bent k)
  | 0 => FnD.none ⟨f, fd, hm, F.kp, bd⟩
  | k + 1 => by
    have F_law_bent := d_law_bent F hm bd hf F_law_draw F_law_odd k
    exact FnD.of F hm bd sc_law_bent fun {_ _ _ _ _ _} hr hgd =>
     (pds_cons (pd_if (PW.pt (pdw_or (pdt_not (pdt_val (pd_isiT [.lst, .tup] (pd_var 1) (cln_cons (cln_ty (hf ("list" : PySem.Str) (by decide))) (cln_cons (cln_ty (hf ("tuple" : PySem.Str) (by decide))) cln_nil)) (hf ("isinstance" : PySem.Str) (by decide))))) (pdw_or (pdt_cmp (od_eq hr.units) (pd_var 2) pd_int) (pdw_or1 (pdt_cmp (od_eq hr.units) (pd_call F_law_draw (hr.mono (show _ ≤ 3 + _ from Nat.le_add_right_of_le (by decide))) hgd (takes_of rfl rfl rfl rfl) (pda_cons (pd_var 0) (pda_cons pd_int pda_nil))) pd_int))))) (pds_one (pd_ret (pd_call F_law_odd (hr.mono (show _ ≤ 3 + _ from Nat.le_add_right_of_le (by decide))) hgd (takes_of rfl rfl rfl rfl) (pda_cons (pd_var 0) pda_nil)))) pds_nil)
      (pds_cons (pd_set 3 sc_law_bent.nd (pd_callTM (cd_list false rfl) (pda_cons (pd_var 1) pda_nil) (hf ("list" : PySem.Str) (by decide))))
      (pds_cons (pd_set 4 sc_law_bent.nd (pd_call F_law_draw (hr.mono (show _ ≤ 3 + _ from Nat.le_add_right_of_le (by decide))) hgd (takes_of rfl rfl rfl rfl) (pda_cons (pd_var 0) (pda_cons (pd_callB (cd_max rfl) (pda_cons pd_int (pda_cons (pd_callB cd_len (pda_cons (pd_var 3) pda_nil) (hf ("len" : PySem.Str) (by decide))) pda_nil)) (hf ("max" : PySem.Str) (by decide))) pda_nil))))
      (pds_cons (pd_set 5 sc_law_bent.nd (pd_call F_law_draw (hr.mono (show _ ≤ 3 + _ from Nat.le_add_right_of_le (by decide))) hgd (takes_of rfl rfl rfl rfl) (pda_cons (pd_var 0) (pda_cons pd_int pda_nil))))
      (pds_cons (pd_if (PW.pt (pdw_or (pdt_cmp (od_eq hr.units) (pd_var 5) pd_int) (pdw_or1 (pdt_cmp (od_eqX hr.units) (pd_var 3) (pd_lst pda_nil))))) (pds_one (pd_expr (pd_insert (pd_var 3) (pda_cons (pd_var 4) (pda_cons (pd_call F_law_odd (hr.mono (show _ ≤ 3 + _ from Nat.le_add_right_of_le (by decide))) hgd (takes_of rfl rfl rfl rfl) (pda_cons (pd_var 0) pda_nil)) pda_nil))))) (pds_one (pd_if (pdt_cmp (od_eq hr.units) (pd_var 5) pd_int) (pds_one (pd_expr (pd_popAt (pd_var 3) (pda_cons (pd_var 4) pda_nil)))) (pds_one (pd_if (pdt_cmp (od_eq hr.units) (pd_var 5) pd_int) (pds_one (pd_expr (pd_insert (pd_var 3) (pda_cons (pd_var 4) (pda_cons (pd_ix od_ix (pd_var 3) (pd_call F_law_draw (hr.mono (show _ ≤ 3 + _ from Nat.le_add_right_of_le (by decide))) hgd (takes_of rfl rfl rfl rfl) (pda_cons (pd_var 0) (pda_cons (pd_callB cd_len (pda_cons (pd_var 3) pda_nil) (hf ("len" : PySem.Str) (by decide))) pda_nil)))) pda_nil))))) (pds_one (pd_store (pd_var 3) (pd_var 4) (pd_call F_law_bent (hr.mono (Nat.le_refl _)) hgd (takes_of rfl rfl rfl rfl) (pda_cons (pd_var 0) (pda_cons (pd_ix od_ix (pd_var 3) (pd_var 4)) (pda_cons (pd_bin od_sub (pd_var 2) pd_int) pda_nil)))) (pg_sub (pd_var 3) (pd_var 4) set_list))))))))
      (pds_cons (pd_if (pdt_val (pd_isi .tup (pd_var 1) (hf ("isinstance" : PySem.Str) (by decide)) (hf ("tuple" : PySem.Str) (by decide)))) (pds_one (pd_ret (pd_callT (cd_tupleX rfl) (pda_cons (pd_var 3) pda_nil) (hf ("tuple" : PySem.Str) (by decide))))) pds_nil)
      (pds_one (pd_ret (pd_var 3)))))))))
theorem d_law_told {f : Addr} {fd : FuncData} (F : Fun K "_law_told" "_law_told" s_law_told f fd) (hm : mg "_law_told" = some (.ref f)) (bd : Binds K fd ["_law_thing"] []) (hf : ∀ x : Str, x ∈ freeN → mg x = none)
    {C_NoDeed C_NoForm C_NoGlass C_NoRecord C_NoRow C_NoStep C_NoText C_Parted : Addr}
    (E_NoForm : ExC K mg c "NoForm" C_NoForm)
    (n_NoForm_place : PySem.W.findIn K (.ref C_NoForm) "place" = some none)
    (at_NoDeed : mg "NoDeed" = some (.ref C_NoDeed))
    (at_NoForm : mg "NoForm" = some (.ref C_NoForm))
    (at_NoGlass : mg "NoGlass" = some (.ref C_NoGlass))
    (at_NoRecord : mg "NoRecord" = some (.ref C_NoRecord))
    (at_NoRow : mg "NoRow" = some (.ref C_NoRow))
    (at_NoStep : mg "NoStep" = some (.ref C_NoStep))
    (at_NoText : mg "NoText" = some (.ref C_NoText))
    (at_Parted : mg "Parted" = some (.ref C_Parted))
    (kit_NoForm_NoDeed_NoGlass_NoRecord_NoRow_NoStep_NoText_Parted : PySem.W.kitAny K (.ref C_NoForm) [.ref C_NoDeed, .ref C_NoGlass, .ref C_NoRecord, .ref C_NoRow, .ref C_NoStep, .ref C_NoText, .ref C_Parted] = some false)
    (kit_NoForm_ValueError : PySem.W.kitAny K (.ref C_NoForm) [.type "ValueError"] = some true)
    (exm_NoForm_NoForm : PySem.W.exmOne K (.ref C_NoForm) (.ref C_NoForm) = some true)
    (F_look_at_form : FnD P w K mg base c 34 "look_at_form" ["thing"] (m_look_at_form)) : FnD P w K mg base c 35 "_law_told" ["_law_thing"] m_law_told :=
    FnD.of F hm bd sc_law_told fun {_ _ _ _ _ _} hr hgd =>
     (pds_cons (pd_set 1 sc_law_told.nd pd_non)
      (pds_cons (pd_tryK (tbl [(("NoForm" : PySem.Str), true)]) 2 rfl rfl rfl sc_law_told.nd (takes_of rfl rfl rfl rfl) ⟨rfl, by decide, .inl at_NoForm⟩ (tbX_of (List.forall_mem_cons.mpr ⟨⟨_, E_NoForm, exm_NoForm_NoForm⟩, (List.forall_mem_nil _)⟩)) (fun _ _ _ tkt _ => (pds_one (pd_expr (pd_call F_look_at_form (hr.mono (by omega)) hgd tkt (pda_cons (pd_var 0) pda_nil))))) (fun _ _ => (pds_one (pd_set 1 sc_law_told.nd (pd_var 2)))))
      (pds_cons (pd_if (pdt_cmp od_is (pd_var 1) pd_non) (pds_one (pd_ret pd_non)) pds_nil)
      (pds_cons (pd_if (PW.pt (pdw_or (pdt_not (pdt_val (pd_isx (tbl [(("NoForm" : PySem.Str), true)]) (pd_var 1) (cln_ty (hf ("ValueError" : PySem.Str) (by decide))) (tbI_of (List.forall_mem_cons.mpr ⟨⟨_, E_NoForm, kit_NoForm_ValueError⟩, (List.forall_mem_nil _)⟩)) (hf ("isinstance" : PySem.Str) (by decide))))) (pdw_or1 (pdt_val (pd_isxT (tbl [(("NoForm" : PySem.Str), false)]) (pd_var 1) (cln_cons (cln_own at_NoDeed) (cln_cons (cln_own at_NoGlass) (cln_cons (cln_own at_NoRecord) (cln_cons (cln_own at_NoRow) (cln_cons (cln_own at_NoStep) (cln_cons (cln_own at_NoText) (cln_cons (cln_own at_Parted) cln_nil))))))) (tbI_of (List.forall_mem_cons.mpr ⟨⟨_, E_NoForm, kit_NoForm_NoDeed_NoGlass_NoRecord_NoRow_NoStep_NoText_Parted⟩, (List.forall_mem_nil _)⟩)) (hf ("isinstance" : PySem.Str) (by decide)) (show 7 ≤ sizeLine from by decide)))))) (pds_one (pd_ret pd_str)) pds_nil)
      (pds_one (pd_ret (pd_fld [("NoForm" : PySem.Str)] (List.forall_mem_cons.mpr ⟨⟨_, E_NoForm, n_NoForm_place⟩, (List.forall_mem_nil _)⟩) (pd_var 1))))))))
theorem d_law_deep {f : Addr} {fd : FuncData} (F : Fun K "_law_deep" "_law_deep" s_law_deep f fd) (hm : mg "_law_deep" = some (.ref f)) (bd : Binds K fd ["_law_many", "_law_word"] []) (hf : ∀ x : Str, x ∈ freeN → mg x = none) : FnD P w K mg base c 1 "_law_deep" ["_law_many", "_law_word"] m_law_deep :=
    FnD.of F hm bd sc_law_deep fun {_ _ _ _ _ _} hr hgd =>
     (pds_cons (pd_set 2 sc_law_deep.nd (pd_tup (pda_cons pd_str pda_nil)))
      (pds_cons (pd_for (passes_of rfl) rfl (pdi_range1 (pda_cons (pd_bin od_sub (pd_var 0) pd_int) pda_nil) (hf ("range" : PySem.Str) (by decide))) (pg_nm 3 sc_law_deep.nd) (pds_one (pd_set 2 sc_law_deep.nd (pd_ix od_ix (pd_lst (pda_cons (pd_tup (pda_cons pd_str (pda_cons (pd_var 2) pda_nil))) (pda_cons (pd_tup (pda_cons pd_str (pda_cons (pd_tup (pda_cons (pd_tup (pda_cons pd_str (pda_cons (pd_var 2) pda_nil))) pda_nil)) pda_nil))) pda_nil))) (pd_callT cd_int (pda_cons (pd_cmp (od_eq hr.units) (pd_var 1) pd_str) pda_nil) (hf ("int" : PySem.Str) (by decide)))))))
      (pds_one (pd_ret (pd_var 2)))))
theorem d_law_wide {f : Addr} {fd : FuncData} (F : Fun K "_law_wide" "_law_wide" s_law_wide f fd) (hm : mg "_law_wide" = some (.ref f)) (bd : Binds K fd ["_law_many"] []) (hf : ∀ x : Str, x ∈ freeN → mg x = none) : FnD P w K mg base c 1 "_law_wide" ["_law_many"] m_law_wide :=
    FnD.of F hm bd sc_law_wide fun {_ _ _ _ _ _} hr hgd =>
     (pds_cons (pd_setLc true 1 [(("_law_at" : PySem.Str), 3)] rfl sc_law_wide.nd (sw_true rfl rfl rfl (by decide +kernel)) (pdi_range1 (pda_cons pd_int pda_nil) (hf ("range" : PySem.Str) (by decide))) (blkOk_by (N := N_law_wide) (sc := defScope s_law_wide) (by decide +kernel)) (fun _ _ _ _ _ => (pg_nm 3 sc_law_wide.nd)) (fun _ _ _ _ _ => pts_any) (fun _ _ _ _ _ => (pd_tup (pda_cons (pd_bin od_mulX pd_str (pd_bin od_add pd_int (pd_var 3))) (pda_cons (pd_tup (pda_cons pd_str (pda_cons (pd_callT (cd_tupleX rfl) (pda_cons (pd_lc true [(("_law_k" : PySem.Str), 2)] rfl sc_law_wide.nd (pdi_range1 (pda_cons pd_int pda_nil) (hf ("range" : PySem.Str) (by decide))) (blkOk_by (N := N_law_wide) (by first | kernel_rfl | exact rfl)) (fun _ _ _ _ _ => (pg_nm 2 sc_law_wide.nd)) (fun _ _ _ _ _ => pts_any) (fun _ _ _ _ _ => (pd_tup (pda_cons (pd_bin od_mulX pd_str (pd_bin od_add pd_int (pd_var 2))) (pda_cons (pd_tup (pda_cons pd_str pda_nil)) pda_nil))))) pda_nil) (hf ("tuple" : PySem.Str) (by decide))) pda_nil))) pda_nil)))))
      (pds_one (pd_ret (pd_tup (pda_cons pd_str (pda_cons (pd_bin od_add (pd_callT (cd_tupleX rfl) (pda_cons (pd_var 1) pda_nil) (hf ("tuple" : PySem.Str) (by decide))) (pd_bin od_mulX (pd_tup (pda_cons (pd_tup (pda_cons pd_str (pda_cons (pd_tup (pda_cons pd_str pda_nil)) pda_nil))) pda_nil)) pd_int)) pda_nil))))))
theorem d_law_shallow {f : Addr} {fd : FuncData} (F : Fun K "_law_shallow" "_law_shallow" s_law_shallow f fd) (hm : mg "_law_shallow" = some (.ref f)) (bd : Binds K fd ["_law_many"] []) (hf : ∀ x : Str, x ∈ freeN → mg x = none) : FnD P w K mg base c 1 "_law_shallow" ["_law_many"] m_law_shallow :=
    FnD.of F hm bd sc_law_shallow fun {_ _ _ _ _ _} hr hgd =>
     (pds_cons (pd_setLc true 1 [(("_law_at" : PySem.Str), 3)] rfl sc_law_shallow.nd (sw_true rfl rfl rfl (by decide +kernel)) (pdi_range1 (pda_cons pd_int pda_nil) (hf ("range" : PySem.Str) (by decide))) (blkOk_by (N := N_law_shallow) (sc := defScope s_law_shallow) (by decide +kernel)) (fun _ _ _ _ _ => (pg_nm 3 sc_law_shallow.nd)) (fun _ _ _ _ _ => pts_any) (fun _ _ _ _ _ => (pd_tup (pda_cons (pd_bin od_mulX pd_str (pd_bin od_add pd_int (pd_var 3))) (pda_cons (pd_tup (pda_cons pd_str (pda_cons (pd_callT (cd_tupleX rfl) (pda_cons (pd_lc true [(("_law_k" : PySem.Str), 2)] rfl sc_law_shallow.nd (pdi_range1 (pda_cons pd_int pda_nil) (hf ("range" : PySem.Str) (by decide))) (blkOk_by (N := N_law_shallow) (by first | kernel_rfl | exact rfl)) (fun _ _ _ _ _ => (pg_nm 2 sc_law_shallow.nd)) (fun _ _ _ _ _ => pts_any) (fun _ _ _ _ _ => (pd_tup (pda_cons (pd_bin od_mulX pd_str (pd_bin od_add pd_int (pd_var 2))) (pda_cons (pd_tup (pda_cons pd_str pda_nil)) pda_nil))))) pda_nil) (hf ("tuple" : PySem.Str) (by decide))) pda_nil))) pda_nil)))))
      (pds_one (pd_ret (pd_tup (pda_cons pd_str (pda_cons (pd_bin od_add (pd_callT (cd_tupleX rfl) (pda_cons (pd_var 1) pda_nil) (hf ("tuple" : PySem.Str) (by decide))) (pd_tup (pda_cons (pd_tup (pda_cons pd_str (pda_cons (pd_tup (pda_cons pd_str (pda_cons (pd_callT (cd_tupleX rfl) (pda_cons (pd_lc true [(("_law_k" : PySem.Str), 2)] rfl sc_law_shallow.nd (pdi_range1 (pda_cons (pd_var 0) pda_nil) (hf ("range" : PySem.Str) (by decide))) (blkOk_by (N := N_law_shallow) (sc := defScope s_law_shallow) (by decide +kernel)) (fun _ _ _ _ _ => (pg_nm 2 sc_law_shallow.nd)) (fun _ _ _ _ _ => pts_any) (fun _ _ _ _ _ => (pd_tup (pda_cons (pd_bin od_mulX pd_str (pd_bin od_add pd_int (pd_var 2))) (pda_cons (pd_tup (pda_cons pd_str pda_nil)) pda_nil))))) pda_nil) (hf ("tuple" : PySem.Str) (by decide))) pda_nil))) pda_nil))) pda_nil))) pda_nil))))))
theorem d_law_right {f : Addr} {fd : FuncData} (F : Fun K "_law_right" "_law_right" s_law_right f fd) (hm : mg "_law_right" = some (.ref f)) (bd : Binds K fd ["_law_thing"] []) (hf : ∀ x : Str, x ∈ freeN → mg x = none)
    (F_law_told : FnD P w K mg base c 35 "_law_told" ["_law_thing"] (m_law_told))
    (F_law_due : FnD P w K mg base c 34 "_law_due" ["_law_thing"] (m_law_due)) : FnD P w K mg base c 36 "_law_right" ["_law_thing"] m_law_right :=
    FnD.of F hm bd sc_law_right fun {_ _ _ _ _ _} hr hgd =>
     (pds_cons (pd_set 1 sc_law_right.nd (pd_callB (cd_reprX hgd hr.units) (pda_cons (pd_var 0) pda_nil) (hf ("repr" : PySem.Str) (by decide))))
      (pds_one (pd_ret (pd_and (pd_cmp (od_eq hr.units) (pd_callB (cd_reprX hgd hr.units) (pda_cons (pd_call F_law_told (hr.mono (by omega)) hgd (takes_of rfl rfl rfl rfl) (pda_cons (pd_var 0) pda_nil)) pda_nil) (hf ("repr" : PySem.Str) (by decide))) (pd_callB (cd_reprX hgd hr.units) (pda_cons (pd_call F_law_due (hr.mono (by omega)) hgd (takes_of rfl rfl rfl rfl) (pda_cons (pd_var 0) pda_nil)) pda_nil) (hf ("repr" : PySem.Str) (by decide)))) (pe_one (pd_cmp (od_eq hr.units) (pd_callB (cd_reprX hgd hr.units) (pda_cons (pd_var 0) pda_nil) (hf ("repr" : PySem.Str) (by decide))) (pd_var 1)))))))
theorem d_law {f : Addr} {fd : FuncData} (F : Fun K "law" "law" s_law f fd) (hf : ∀ x : Str, x ∈ freeN → mg x = none)
    (F_law_wide : FnD P w K mg base c 1 "_law_wide" ["_law_many"] (m_law_wide))
    (F_law_deep : FnD P w K mg base c 1 "_law_deep" ["_law_many", "_law_word"] (m_law_deep))
    (F_law_shallow : FnD P w K mg base c 1 "_law_shallow" ["_law_many"] (m_law_shallow))
    (F_law_right : FnD P w K mg base c 36 "_law_right" ["_law_thing"] (m_law_right))
    (F_law_pool : FnD P w K mg base c 1 "_law_pool" ["_law_script", "_law_k"] (m_law_pool))
    (F_law_record : FnD P w K mg base c 9 "_law_record" ["_law_pool_here", "_law_words_here", "_law_deep_here"] (m_law_record))
    (F_law_words : FnD P w K mg base c 2 "_law_words" ["_law_pool_here", "_law_many"] (m_law_words))
    (F_law_draw : FnD P w K mg base c 1 "_law_draw" ["_law_pool_here", "_law_many"] (m_law_draw))
    (F_law_bent : FnD P w K mg base c 12 "_law_bent" ["_law_pool_here", "_law_thing", "_law_deep_here"] (m_law_bent 9))
    (F_law_odd : FnD P w K mg base c 2 "_law_odd" ["_law_pool_here"] (m_law_odd)) : FnG P w K mg base 37 f fd ["_law_script"] (spM K c 1 m_law) :=
    FnG.of F sc_law fun {_ _ _ _ _ _} hr hgd =>
     (pds_cons (pd_set 1 sc_law.nd (pd_call F_law_wide (hr.mono (by omega)) hgd (takes_of rfl rfl rfl rfl) (pda_cons pd_int pda_nil)))
      (pds_cons (pd_set 2 sc_law.nd (pd_tup (pda_cons pd_str (pda_cons (pd_tup (pda_cons pd_str (pda_cons (pd_var 1) pda_nil))) pda_nil))))
      (pds_cons (pd_set 3 sc_law.nd (pd_lst (pda_cons (pd_call F_law_deep (hr.mono (by omega)) hgd (takes_of rfl rfl rfl rfl) (pda_cons pd_int (pda_cons pd_str pda_nil))) (pda_cons (pd_call F_law_deep (hr.mono (by omega)) hgd (takes_of rfl rfl rfl rfl) (pda_cons pd_int (pda_cons pd_str pda_nil))) (pda_cons (pd_call F_law_deep (hr.mono (by omega)) hgd (takes_of rfl rfl rfl rfl) (pda_cons pd_int (pda_cons pd_str pda_nil))) (pda_cons (pd_call F_law_deep (hr.mono (by omega)) hgd (takes_of rfl rfl rfl rfl) (pda_cons pd_int (pda_cons pd_str pda_nil))) (pda_cons (pd_var 1) (pda_cons (pd_var 2) pda_nil))))))))
      (pds_cons (pd_set 3 sc_law.nd (pd_bin od_add (pd_var 3) (pd_lst (pda_cons (pd_tup (pda_cons pd_str (pda_cons (pd_var 2) pda_nil))) (pda_cons (pd_tup (pda_cons pd_str (pda_cons (pd_tup (pda_cons pd_str (pda_cons (pd_var 2) pda_nil))) pda_nil))) (pda_cons (pd_tup (pda_cons pd_str (pda_cons (pd_tup (pda_cons pd_str (pda_cons pd_str (pda_cons pd_str (pda_cons pd_str (pda_cons pd_str (pda_cons pd_str pda_nil))))))) pda_nil))) (pda_cons (pd_tup (pda_cons pd_str (pda_cons (pd_tup pda_nil) pda_nil))) pda_nil)))))))
      (pds_cons (pd_set 4 sc_law.nd (pd_lst (pda_cons (pd_tup (pda_cons pd_str (pda_cons (pd_callT (cd_tupleX rfl) (pda_cons pd_str pda_nil) (hf ("tuple" : PySem.Str) (by decide))) pda_nil))) (pda_cons (pd_tup (pda_cons pd_str (pda_cons (pd_callT (cd_tupleX rfl) (pda_cons (pd_lc true [(("_law_sign" : PySem.Str), 5)] rfl sc_law.nd (pdi_val pd_str) (blkOk_by (N := N_law) (sc := defScope s_law) (by decide +kernel)) (fun _ _ _ _ _ => (pg_nm 5 sc_law.nd)) (fun _ _ _ _ _ => pts_any) (fun _ _ _ _ _ => (pd_tup (pda_cons (pd_var 5) (pda_cons (pd_tup (pda_cons pd_str pda_nil)) pda_nil))))) pda_nil) (hf ("tuple" : PySem.Str) (by decide))) pda_nil))) pda_nil))))
      (pds_cons (pd_set 4 sc_law.nd (pd_bin od_add (pd_var 4) (pd_lst (pda_cons (pd_tup (pda_cons pd_str (pda_cons (pd_callT (cd_tupleX rfl) (pda_cons (pd_lc true [(("_law_sign" : PySem.Str), 5)] rfl sc_law.nd (pdi_val pd_str) (blkOk_by (N := N_law) (sc := defScope s_law) (by decide +kernel)) (fun _ _ _ _ _ => (pg_nm 5 sc_law.nd)) (fun _ _ _ _ _ => pts_any) (fun _ _ _ _ _ => (pd_tup (pda_cons (pd_var 5) (pda_cons (pd_tup (pda_cons pd_str pda_nil)) pda_nil))))) pda_nil) (hf ("tuple" : PySem.Str) (by decide))) pda_nil))) (pda_cons (pd_call F_law_shallow (hr.mono (by omega)) hgd (takes_of rfl rfl rfl rfl) (pda_cons pd_int pda_nil)) (pda_cons (pd_call F_law_shallow (hr.mono (by omega)) hgd (takes_of rfl rfl rfl rfl) (pda_cons pd_int pda_nil)) pda_nil))))))
      (pds_cons (pd_if (pdt_cmp (od_ne hr.units) (pd_lc true [(("_law_thing" : PySem.Str), 6)] rfl sc_law.nd (pdi_val (pd_var 4)) (blkOk_by (N := N_law) (sc := defScope s_law) (by decide +kernel)) (fun _ _ _ _ _ => (pg_nm 6 sc_law.nd)) (fun _ _ _ _ _ => (pts_1 (pdt_not (pdt_val (pd_call F_law_right (hr.mono (by omega)) hgd takes0 (pda_cons (pd_var 6) pda_nil)))))) (fun _ _ _ _ _ => (pd_var 6))) (pd_lst pda_nil)) (pds_one (pd_ret pd_bl)) pds_nil)
      (pds_cons (pd_for (passes_of rfl) rfl (pdi_range1 (pda_cons (pd_callB (cd_max rfl) (pda_cons pd_int (pda_cons (pd_callB (cd_min rfl) (pda_cons pd_int (pda_cons (pd_callB cd_len (pda_cons (pd_var 0) pda_nil) (hf ("len" : PySem.Str) (by decide))) pda_nil)) (hf ("min" : PySem.Str) (by decide))) pda_nil)) (hf ("max" : PySem.Str) (by decide))) pda_nil) (hf ("range" : PySem.Str) (by decide))) (pg_nm 7 sc_law.nd) (pds_cons (pd_set 8 sc_law.nd (pd_call F_law_pool (hr.mono (by omega)) hgd (takes_of rfl rfl rfl rfl) (pda_cons (pd_var 0) (pda_cons (pd_var 7) pda_nil))))
      (pds_cons (pd_set 9 sc_law.nd (pd_call F_law_record (hr.mono (by omega)) hgd (takes_of rfl rfl rfl rfl) (pda_cons (pd_var 8) (pda_cons (pd_call F_law_words (hr.mono (by omega)) hgd (takes_of rfl rfl rfl rfl) (pda_cons (pd_var 8) (pda_cons pd_int pda_nil))) (pda_cons (pd_bin od_add pd_int (pd_call F_law_draw (hr.mono (by omega)) hgd (takes_of rfl rfl rfl rfl) (pda_cons (pd_var 8) (pda_cons pd_int pda_nil)))) pda_nil)))))
      (pds_cons (pd_set 10 sc_law.nd (pd_call F_law_bent (hr.mono (by omega)) hgd (takes_of rfl rfl rfl rfl) (pda_cons (pd_var 8) (pda_cons (pd_var 9) (pda_cons pd_int pda_nil)))))
      (pds_one (pd_for (passes_of rfl) rfl (pdi_val (pd_lst (pda_cons (pd_var 9) (pda_cons (pd_var 10) (pda_cons (pd_call F_law_bent (hr.mono (by omega)) hgd (takes_of rfl rfl rfl rfl) (pda_cons (pd_var 8) (pda_cons (pd_var 10) (pda_cons pd_int pda_nil)))) (pda_cons (pd_call F_law_odd (hr.mono (by omega)) hgd (takes_of rfl rfl rfl rfl) (pda_cons (pd_var 8) pda_nil)) (pda_cons (pd_ix od_ix (pd_var 3) (pd_call F_law_draw (hr.mono (by omega)) hgd (takes_of rfl rfl rfl rfl) (pda_cons (pd_var 8) (pda_cons pd_int pda_nil)))) pda_nil))))))) (pg_nm 6 sc_law.nd) (pds_one (pd_if (pdt_not (pdt_val (pd_call F_law_right (hr.mono (by omega)) hgd (takes_of rfl rfl rfl rfl) (pda_cons (pd_var 6) pda_nil)))) (pds_one (pd_ret pd_bl)) pds_nil))))))))
      (pds_one (pd_ret pd_bl))))))))))
end
/-! ### the program's top -/
theorem all_mk {P : Program} {w : World} {K : PySem.W.Frag} {h : Heap} {mg : Str → Option Value} {fa : Addr} (X : K.In h) (G : h.Ns mainGlobals mg) (hfa : mg "law" = some (.ref fa))
    {f0 f1 f2 f3 f4 f5 f6 f7 f8 f9 f10 f11 f12 f13 f14 f15 f16 f17 f18 f19 f20 f21 f22 f23 : Addr} {od0 an0 od1 an1 od2 an2 od3 an3 od4 an4 od5 an5 od6 an6 od7 an7 od8 an8 od9 an9 od10 an10 od11 an11 od12 an12 od13 an13 od14 an14 od15 an15 od16 an16 od17 an17 od18 an18 od19 an19 od20 an20 od21 an21 od22 an22 od23 an23 : Option Addr} {sl0 sl1 sl2 sl3 sl4 sl5 sl6 sl7 sl8 sl9 sl10 sl11 sl12 sl13 sl14 sl15 sl16 sl17 sl18 sl19 sl20 sl21 sl22 sl23 : Array (Option Value)} {oc0 kV0 dc0 pm0 cd0 ct0 oc1 kV1 dc1 pm1 cd1 ct1 oc2 kV2 dc2 pm2 cd2 ct2 oc3 kV3 dc3 pm3 cd3 ct3 oc4 kV4 dc4 pm4 cd4 ct4 oc5 kV5 dc5 pm5 cd5 ct5 oc6 kV6 dc6 pm6 cd6 ct6 oc7 kV7 dc7 pm7 cd7 ct7 oc8 kV8 dc8 pm8 cd8 ct8 oc9 kV9 dc9 pm9 cd9 ct9 oc10 kV10 dc10 pm10 cd10 ct10 oc11 kV11 dc11 pm11 cd11 ct11 oc12 kV12 dc12 pm12 cd12 ct12 oc13 kV13 dc13 pm13 cd13 ct13 oc14 kV14 dc14 pm14 cd14 ct14 oc15 kV15 dc15 pm15 cd15 ct15 oc16 kV16 dc16 pm16 cd16 ct16 oc17 kV17 dc17 pm17 cd17 ct17 oc18 kV18 dc18 pm18 cd18 ct18 oc19 kV19 dc19 pm19 cd19 ct19 oc20 kV20 dc20 pm20 cd20 ct20 oc21 kV21 dc21 pm21 cd21 ct21 oc22 kV22 dc22 pm22 cd22 ct22 oc23 kV23 dc23 pm23 cd23 ct23 : Value} {t0 : Tok} {t1_0 : Tok} {t1_1 : Tok} {ga1 : Addr} {gd1 : Option Addr} {gn1 : Nat} {gs1 : Array (Option Value)} {t2 : Tok} {t3_0 : Tok} {t3_1 : Tok} {ga3 : Addr} {gd3 : Option Addr} {gn3 : Nat} {gs3 : Array (Option Value)} {t4 : Tok} {t5 : Tok} {t6 : Tok} {t7 : Tok} {t8 : Tok} {C_NoDeed : Addr} {C_NoForm : Addr} {C_NoGlass : Addr} {C_NoRecord : Addr} {C_NoRow : Addr} {C_NoStep : Addr} {C_NoText : Addr} {C_Parted : Addr} {iF_NoForm : Addr} {ic_NoForm : Value} {io_NoForm : Option Addr} {ik_NoForm : Value} {id_NoForm : Value} {ip_NoForm : Value} {ia_NoForm : Option Addr} {iv_NoForm : Value} {it_NoForm : Value} {is_NoForm : Array (Option Value)}
    (a0 : PySem.W.nsIn K mainGlobals "is_word" = some (some (.ref f0))) (l0 : K.lookup f0 = some ⟨oc0, od0, .func (PySem.W.fnOf "is_word" "is_word" (defArgs s_is_word) (defBody s_is_word) (defScope s_is_word) .none kV0 dc0 pm0 an0 cd0 ct0), sl0⟩) (c0 : PySem.W.codeIn K cd0 "is_word" = true) (k0 : PySem.W.keepIn K (.ref f0) = true)
    (a1 : PySem.W.nsIn K mainGlobals "are_words" = some (some (.ref f1))) (l1 : K.lookup f1 = some ⟨oc1, od1, .func (PySem.W.fnOf "are_words" "are_words" (defArgs s_are_words) (defBody s_are_words) (defScope s_are_words) .none kV1 dc1 pm1 an1 cd1 ct1), sl1⟩) (c1 : PySem.W.codeIn K cd1 "are_words" = true) (k1 : PySem.W.keepIn K (.ref f1) = true)
    (a2 : PySem.W.nsIn K mainGlobals "is_head" = some (some (.ref f2))) (l2 : K.lookup f2 = some ⟨oc2, od2, .func (PySem.W.fnOf "is_head" "is_head" (defArgs s_is_head) (defBody s_is_head) (defScope s_is_head) .none kV2 dc2 pm2 an2 cd2 ct2), sl2⟩) (c2 : PySem.W.codeIn K cd2 "is_head" = true) (k2 : PySem.W.keepIn K (.ref f2) = true)
    (a3 : PySem.W.nsIn K mainGlobals "are_rooms" = some (some (.ref f3))) (l3 : K.lookup f3 = some ⟨oc3, od3, .func (PySem.W.fnOf "are_rooms" "are_rooms" (defArgs s_are_rooms) (defBody s_are_rooms) (defScope s_are_rooms) .none kV3 dc3 pm3 an3 cd3 ct3), sl3⟩) (c3 : PySem.W.codeIn K cd3 "are_rooms" = true) (k3 : PySem.W.keepIn K (.ref f3) = true)
    (a4 : PySem.W.nsIn K mainGlobals "look_within" = some (some (.ref f4))) (l4 : K.lookup f4 = some ⟨oc4, od4, .func (PySem.W.fnOf "look_within" "look_within" (defArgs s_look_within) (defBody s_look_within) (defScope s_look_within) .none kV4 dc4 pm4 an4 cd4 ct4), sl4⟩) (c4 : PySem.W.codeIn K cd4 "look_within" = true) (k4 : PySem.W.keepIn K (.ref f4) = true)
    (a5 : PySem.W.nsIn K mainGlobals "look_at_form" = some (some (.ref f5))) (l5 : K.lookup f5 = some ⟨oc5, od5, .func (PySem.W.fnOf "look_at_form" "look_at_form" (defArgs s_look_at_form) (defBody s_look_at_form) (defScope s_look_at_form) .none kV5 dc5 pm5 an5 cd5 ct5), sl5⟩) (c5 : PySem.W.codeIn K cd5 "look_at_form" = true) (k5 : PySem.W.keepIn K (.ref f5) = true)
    (a6 : PySem.W.nsIn K mainGlobals "_law_pool" = some (some (.ref f6))) (l6 : K.lookup f6 = some ⟨oc6, od6, .func (PySem.W.fnOf "_law_pool" "_law_pool" (defArgs s_law_pool) (defBody s_law_pool) (defScope s_law_pool) .none kV6 dc6 pm6 an6 cd6 ct6), sl6⟩) (c6 : PySem.W.codeIn K cd6 "_law_pool" = true) (k6 : PySem.W.keepIn K (.ref f6) = true)
    (a7 : PySem.W.nsIn K mainGlobals "_law_draw" = some (some (.ref f7))) (l7 : K.lookup f7 = some ⟨oc7, od7, .func (PySem.W.fnOf "_law_draw" "_law_draw" (defArgs s_law_draw) (defBody s_law_draw) (defScope s_law_draw) .none kV7 dc7 pm7 an7 cd7 ct7), sl7⟩) (c7 : PySem.W.codeIn K cd7 "_law_draw" = true) (k7 : PySem.W.keepIn K (.ref f7) = true)
    (a8 : PySem.W.nsIn K mainGlobals "_law_words" = some (some (.ref f8))) (l8 : K.lookup f8 = some ⟨oc8, od8, .func (PySem.W.fnOf "_law_words" "_law_words" (defArgs s_law_words) (defBody s_law_words) (defScope s_law_words) .none kV8 dc8 pm8 an8 cd8 ct8), sl8⟩) (c8 : PySem.W.codeIn K cd8 "_law_words" = true) (k8 : PySem.W.keepIn K (.ref f8) = true)
    (a9 : PySem.W.nsIn K mainGlobals "_law_form" = some (some (.ref f9))) (l9 : K.lookup f9 = some ⟨oc9, od9, .func (PySem.W.fnOf "_law_form" "_law_form" (defArgs s_law_form) (defBody s_law_form) (defScope s_law_form) .none kV9 dc9 pm9 an9 cd9 ct9), sl9⟩) (c9 : PySem.W.codeIn K cd9 "_law_form" = true) (k9 : PySem.W.keepIn K (.ref f9) = true)
    (a10 : PySem.W.nsIn K mainGlobals "_law_record" = some (some (.ref f10))) (l10 : K.lookup f10 = some ⟨oc10, od10, .func (PySem.W.fnOf "_law_record" "_law_record" (defArgs s_law_record) (defBody s_law_record) (defScope s_law_record) .none kV10 dc10 pm10 an10 cd10 ct10), sl10⟩) (c10 : PySem.W.codeIn K cd10 "_law_record" = true) (k10 : PySem.W.keepIn K (.ref f10) = true)
    (a11 : PySem.W.nsIn K mainGlobals "_law_is_word" = some (some (.ref f11))) (l11 : K.lookup f11 = some ⟨oc11, od11, .func (PySem.W.fnOf "_law_is_word" "_law_is_word" (defArgs s_law_is_word) (defBody s_law_is_word) (defScope s_law_is_word) .none kV11 dc11 pm11 an11 cd11 ct11), sl11⟩) (c11 : PySem.W.codeIn K cd11 "_law_is_word" = true) (k11 : PySem.W.keepIn K (.ref f11) = true)
    (a12 : PySem.W.nsIn K mainGlobals "_law_unlike" = some (some (.ref f12))) (l12 : K.lookup f12 = some ⟨oc12, od12, .func (PySem.W.fnOf "_law_unlike" "_law_unlike" (defArgs s_law_unlike) (defBody s_law_unlike) (defScope s_law_unlike) .none kV12 dc12 pm12 an12 cd12 ct12), sl12⟩) (c12 : PySem.W.codeIn K cd12 "_law_unlike" = true) (k12 : PySem.W.keepIn K (.ref f12) = true)
    (a13 : PySem.W.nsIn K mainGlobals "_law_wrong" = some (some (.ref f13))) (l13 : K.lookup f13 = some ⟨oc13, od13, .func (PySem.W.fnOf "_law_wrong" "_law_wrong" (defArgs s_law_wrong) (defBody s_law_wrong) (defScope s_law_wrong) .none kV13 dc13 pm13 an13 cd13 ct13), sl13⟩) (c13 : PySem.W.codeIn K cd13 "_law_wrong" = true) (k13 : PySem.W.keepIn K (.ref f13) = true)
    (a14 : PySem.W.nsIn K mainGlobals "_law_size" = some (some (.ref f14))) (l14 : K.lookup f14 = some ⟨oc14, od14, .func (PySem.W.fnOf "_law_size" "_law_size" (defArgs s_law_size) (defBody s_law_size) (defScope s_law_size) .none kV14 dc14 pm14 an14 cd14 ct14), sl14⟩) (c14 : PySem.W.codeIn K cd14 "_law_size" = true) (k14 : PySem.W.keepIn K (.ref f14) = true)
    (a15 : PySem.W.nsIn K mainGlobals "_law_due" = some (some (.ref f15))) (l15 : K.lookup f15 = some ⟨oc15, od15, .func (PySem.W.fnOf "_law_due" "_law_due" (defArgs s_law_due) (defBody s_law_due) (defScope s_law_due) .none kV15 dc15 pm15 an15 cd15 ct15), sl15⟩) (c15 : PySem.W.codeIn K cd15 "_law_due" = true) (k15 : PySem.W.keepIn K (.ref f15) = true)
    (a16 : PySem.W.nsIn K mainGlobals "_law_odd" = some (some (.ref f16))) (l16 : K.lookup f16 = some ⟨oc16, od16, .func (PySem.W.fnOf "_law_odd" "_law_odd" (defArgs s_law_odd) (defBody s_law_odd) (defScope s_law_odd) .none kV16 dc16 pm16 an16 cd16 ct16), sl16⟩) (c16 : PySem.W.codeIn K cd16 "_law_odd" = true) (k16 : PySem.W.keepIn K (.ref f16) = true)
    (a17 : PySem.W.nsIn K mainGlobals "_law_bent" = some (some (.ref f17))) (l17 : K.lookup f17 = some ⟨oc17, od17, .func (PySem.W.fnOf "_law_bent" "_law_bent" (defArgs s_law_bent) (defBody s_law_bent) (defScope s_law_bent) .none kV17 dc17 pm17 an17 cd17 ct17), sl17⟩) (c17 : PySem.W.codeIn K cd17 "_law_bent" = true) (k17 : PySem.W.keepIn K (.ref f17) = true)
    (a18 : PySem.W.nsIn K mainGlobals "_law_told" = some (some (.ref f18))) (l18 : K.lookup f18 = some ⟨oc18, od18, .func (PySem.W.fnOf "_law_told" "_law_told" (defArgs s_law_told) (defBody s_law_told) (defScope s_law_told) .none kV18 dc18 pm18 an18 cd18 ct18), sl18⟩) (c18 : PySem.W.codeIn K cd18 "_law_told" = true) (k18 : PySem.W.keepIn K (.ref f18) = true)
    (a19 : PySem.W.nsIn K mainGlobals "_law_deep" = some (some (.ref f19))) (l19 : K.lookup f19 = some ⟨oc19, od19, .func (PySem.W.fnOf "_law_deep" "_law_deep" (defArgs s_law_deep) (defBody s_law_deep) (defScope s_law_deep) .none kV19 dc19 pm19 an19 cd19 ct19), sl19⟩) (c19 : PySem.W.codeIn K cd19 "_law_deep" = true) (k19 : PySem.W.keepIn K (.ref f19) = true)
    (a20 : PySem.W.nsIn K mainGlobals "_law_wide" = some (some (.ref f20))) (l20 : K.lookup f20 = some ⟨oc20, od20, .func (PySem.W.fnOf "_law_wide" "_law_wide" (defArgs s_law_wide) (defBody s_law_wide) (defScope s_law_wide) .none kV20 dc20 pm20 an20 cd20 ct20), sl20⟩) (c20 : PySem.W.codeIn K cd20 "_law_wide" = true) (k20 : PySem.W.keepIn K (.ref f20) = true)
    (a21 : PySem.W.nsIn K mainGlobals "_law_shallow" = some (some (.ref f21))) (l21 : K.lookup f21 = some ⟨oc21, od21, .func (PySem.W.fnOf "_law_shallow" "_law_shallow" (defArgs s_law_shallow) (defBody s_law_shallow) (defScope s_law_shallow) .none kV21 dc21 pm21 an21 cd21 ct21), sl21⟩) (c21 : PySem.W.codeIn K cd21 "_law_shallow" = true) (k21 : PySem.W.keepIn K (.ref f21) = true)
    (a22 : PySem.W.nsIn K mainGlobals "_law_right" = some (some (.ref f22))) (l22 : K.lookup f22 = some ⟨oc22, od22, .func (PySem.W.fnOf "_law_right" "_law_right" (defArgs s_law_right) (defBody s_law_right) (defScope s_law_right) .none kV22 dc22 pm22 an22 cd22 ct22), sl22⟩) (c22 : PySem.W.codeIn K cd22 "_law_right" = true) (k22 : PySem.W.keepIn K (.ref f22) = true)
    (a23 : PySem.W.nsIn K mainGlobals "law" = some (some (.ref f23))) (l23 : K.lookup f23 = some ⟨oc23, od23, .func (PySem.W.fnOf "law" "law" (defArgs s_law) (defBody s_law) (defScope s_law) .none kV23 dc23 pm23 an23 cd23 ct23), sl23⟩) (c23 : PySem.W.codeIn K cd23 "law" = true) (k23 : PySem.W.keepIn K (.ref f23) = true)
    (q0 : PySem.W.nsIn K mainGlobals "ALL" = some (some (.str ("*" : PySem.Str) t0)))
    (q1 : PySem.W.nsIn K mainGlobals "LEAVES" = some (some (.ref ga1))) (qk1 : K.lookup ga1 = some ⟨.type "tuple", gd1, .seq #[.str ("number" : PySem.Str) t1_0, .str ("text" : PySem.Str) t1_1] gn1, gs1⟩)
    (q2 : PySem.W.nsIn K mainGlobals "LONGEST" = some (some (.int 8 t2)))
    (q3 : PySem.W.nsIn K mainGlobals "MANY" = some (some (.ref ga3))) (qk3 : K.lookup ga3 = some ⟨.type "tuple", gd3, .seq #[.str ("list" : PySem.Str) t3_0, .str ("map" : PySem.Str) t3_1] gn3, gs3⟩)
    (q4 : PySem.W.nsIn K mainGlobals "MOST_DEEP" = some (some (.int 6 t4)))
    (q5 : PySem.W.nsIn K mainGlobals "MOST_PARTS" = some (some (.int 40 t5)))
    (q6 : PySem.W.nsIn K mainGlobals "MOST_ROOMS" = some (some (.int 6 t6)))
    (q7 : PySem.W.nsIn K mainGlobals "MOST_WORDS" = some (some (.int 6 t7)))
    (q8 : PySem.W.nsIn K mainGlobals "SIGNS" = some (some (.str ("abcdefghijklmnopqrstuvwxyz" : PySem.Str) t8)))
    (z0 : PySem.W.nsIn K mainGlobals "ValueError" = some none)
    (z1 : PySem.W.nsIn K mainGlobals "all" = some none)
    (z2 : PySem.W.nsIn K mainGlobals "enumerate" = some none)
    (z3 : PySem.W.nsIn K mainGlobals "int" = some none)
    (z4 : PySem.W.nsIn K mainGlobals "isinstance" = some none)
    (z5 : PySem.W.nsIn K mainGlobals "len" = some none)
    (z6 : PySem.W.nsIn K mainGlobals "list" = some none)
    (z7 : PySem.W.nsIn K mainGlobals "max" = some none)
    (z8 : PySem.W.nsIn K mainGlobals "min" = some none)
    (z9 : PySem.W.nsIn K mainGlobals "range" = some none)
    (z10 : PySem.W.nsIn K mainGlobals "repr" = some none)
    (z11 : PySem.W.nsIn K mainGlobals "str" = some none)
    (z12 : PySem.W.nsIn K mainGlobals "sum" = some none)
    (z13 : PySem.W.nsIn K mainGlobals "tuple" = some none)
    (ac_NoDeed : PySem.W.nsIn K mainGlobals "NoDeed" = some (some (.ref C_NoDeed)))
    (ac_NoForm : PySem.W.nsIn K mainGlobals "NoForm" = some (some (.ref C_NoForm)))
    (ac_NoGlass : PySem.W.nsIn K mainGlobals "NoGlass" = some (some (.ref C_NoGlass)))
    (ac_NoRecord : PySem.W.nsIn K mainGlobals "NoRecord" = some (some (.ref C_NoRecord)))
    (ac_NoRow : PySem.W.nsIn K mainGlobals "NoRow" = some (some (.ref C_NoRow)))
    (ac_NoStep : PySem.W.nsIn K mainGlobals "NoStep" = some (some (.ref C_NoStep)))
    (ac_NoText : PySem.W.nsIn K mainGlobals "NoText" = some (some (.ref C_NoText)))
    (ac_Parted : PySem.W.nsIn K mainGlobals "Parted" = some (some (.ref C_Parted)))
    (oc_NoForm : excB K C_NoForm "NoForm" = true)
    (n_NoForm_place : PySem.W.findIn K (.ref C_NoForm) "place" = some none)
    (vV : PySem.W.findCls K (.type "ValueError") (.type "type") "__init__" = some (.val (.builtin "ValueError.__init__")))
    (iC_NoForm : PySem.W.findIn K (.ref C_NoForm) "__init__" = some (some (.ref iF_NoForm))) (iT_NoForm : PySem.W.typeIn K (.ref iF_NoForm) = some (.type "function")) (iL_NoForm : K.lookup iF_NoForm = some ⟨ic_NoForm, io_NoForm, .func (PySem.W.fnOf "__init__" "NoForm.__init__" (defArgs s_i_NoForm) (defBody s_i_NoForm) (defScope s_i_NoForm) .none ik_NoForm id_NoForm ip_NoForm ia_NoForm iv_NoForm it_NoForm), is_NoForm⟩) (iW_NoForm : PySem.W.codeIn K iv_NoForm "NoForm.__init__" = true) (iK_NoForm : PySem.W.keepIn K (.ref iF_NoForm) = true)
    (kit_NoForm_NoDeed_NoGlass_NoRecord_NoRow_NoStep_NoText_Parted : PySem.W.kitAny K (.ref C_NoForm) [.ref C_NoDeed, .ref C_NoGlass, .ref C_NoRecord, .ref C_NoRow, .ref C_NoStep, .ref C_NoText, .ref C_Parted] = some false)
    (kit_NoForm_ValueError : PySem.W.kitAny K (.ref C_NoForm) [.type "ValueError"] = some true)
    (exm_NoForm_NoForm : PySem.W.exmOne K (.ref C_NoForm) (.ref C_NoForm) = some true) :
    ∃ fd : FuncData, (∀ (s : Shared) (v : Value), BindsTo s fd ⟨[v], []⟩ [("_law_script", v)]) ∧ ∀ base : Heap, K.In base → base.Ns mainGlobals mg → FnG P w K mg base 37 fa fd ["_law_script"] (spM K (fun x => (mg x).getD .none) 1 m_law) := by
  have e := hfa.symm.trans (PySem.W.mg_of X G a23)
  cases e
  have hf : ∀ x : Str, x ∈ freeN → mg x = none := List.forall_mem_cons.mpr ⟨PySem.W.mg_none_of X G z0, List.forall_mem_cons.mpr ⟨PySem.W.mg_none_of X G z1, List.forall_mem_cons.mpr ⟨PySem.W.mg_none_of X G z2, List.forall_mem_cons.mpr ⟨PySem.W.mg_none_of X G z3, List.forall_mem_cons.mpr ⟨PySem.W.mg_none_of X G z4, List.forall_mem_cons.mpr ⟨PySem.W.mg_none_of X G z5, List.forall_mem_cons.mpr ⟨PySem.W.mg_none_of X G z6, List.forall_mem_cons.mpr ⟨PySem.W.mg_none_of X G z7, List.forall_mem_cons.mpr ⟨PySem.W.mg_none_of X G z8, List.forall_mem_cons.mpr ⟨PySem.W.mg_none_of X G z9, List.forall_mem_cons.mpr ⟨PySem.W.mg_none_of X G z10, List.forall_mem_cons.mpr ⟨PySem.W.mg_none_of X G z11, List.forall_mem_cons.mpr ⟨PySem.W.mg_none_of X G z12, List.forall_mem_cons.mpr ⟨PySem.W.mg_none_of X G z13, List.forall_mem_nil _⟩⟩⟩⟩⟩⟩⟩⟩⟩⟩⟩⟩⟩⟩
  have B_is_word := fun_mk (st := s_is_word) l0 c0 k0
  have b_is_word := B_is_word.binds (ps := ["thing"]) fun _ _ _ _ _ _ us hl => match us, hl with | [_], _ => rfl
  have B_are_words := fun_mk (st := s_are_words) l1 c1 k1
  have b_are_words := B_are_words.binds (ps := ["thing", "most"]) fun _ _ _ _ _ _ us hl => match us, hl with | [_, _], _ => rfl
  have B_is_head := fun_mk (st := s_is_head) l2 c2 k2
  have b_is_head := B_is_head.binds (ps := ["thing"]) fun _ _ _ _ _ _ us hl => match us, hl with | [_], _ => rfl
  have B_are_rooms := fun_mk (st := s_are_rooms) l3 c3 k3
  have b_are_rooms := B_are_rooms.binds (ps := ["thing"]) fun _ _ _ _ _ _ us hl => match us, hl with | [_], _ => rfl
  have B_look_within := fun_mk (st := s_look_within) l4 c4 k4
  have b_look_within := B_look_within.binds (ps := ["thing", "place", "deep"]) fun _ _ _ _ _ _ us hl => match us, hl with | [_, _, _], _ => rfl
  have B_look_at_form := fun_mk (st := s_look_at_form) l5 c5 k5
  have b_look_at_form := B_look_at_form.binds (ps := ["thing"]) fun _ _ _ _ _ _ us hl => match us, hl with | [_], _ => rfl
  have B_law_pool := fun_mk (st := s_law_pool) l6 c6 k6
  have b_law_pool := B_law_pool.binds (ps := ["_law_script", "_law_k"]) fun _ _ _ _ _ _ us hl => match us, hl with | [_, _], _ => rfl
  have B_law_draw := fun_mk (st := s_law_draw) l7 c7 k7
  have b_law_draw := B_law_draw.binds (ps := ["_law_pool_here", "_law_many"]) fun _ _ _ _ _ _ us hl => match us, hl with | [_, _], _ => rfl
  have B_law_words := fun_mk (st := s_law_words) l8 c8 k8
  have b_law_words := B_law_words.binds (ps := ["_law_pool_here", "_law_many"]) fun _ _ _ _ _ _ us hl => match us, hl with | [_, _], _ => rfl
  have B_law_form := fun_mk (st := s_law_form) l9 c9 k9
  have b_law_form := B_law_form.binds (ps := ["_law_pool_here", "_law_words_here", "_law_deep_here"]) fun _ _ _ _ _ _ us hl => match us, hl with | [_, _, _], _ => rfl
  have B_law_record := fun_mk (st := s_law_record) l10 c10 k10
  have b_law_record := B_law_record.binds (ps := ["_law_pool_here", "_law_words_here", "_law_deep_here"]) fun _ _ _ _ _ _ us hl => match us, hl with | [_, _, _], _ => rfl
  have B_law_is_word := fun_mk (st := s_law_is_word) l11 c11 k11
  have b_law_is_word := B_law_is_word.binds (ps := ["_law_thing"]) fun _ _ _ _ _ _ us hl => match us, hl with | [_], _ => rfl
  have B_law_unlike := fun_mk (st := s_law_unlike) l12 c12 k12
  have b_law_unlike := B_law_unlike.binds (ps := ["_law_thing", "_law_least", "_law_most"]) fun _ _ _ _ _ _ us hl => match us, hl with | [_, _, _], _ => rfl
  have B_law_wrong := fun_mk (st := s_law_wrong) l13 c13 k13
  have b_law_wrong := B_law_wrong.binds (ps := ["_law_thing", "_law_place"]) fun _ _ _ _ _ _ us hl => match us, hl with | [_, _], _ => rfl
  have B_law_size := fun_mk (st := s_law_size) l14 c14 k14
  have b_law_size := B_law_size.binds (ps := ["_law_form_here"]) fun _ _ _ _ _ _ us hl => match us, hl with | [_], _ => rfl
  have B_law_due := fun_mk (st := s_law_due) l15 c15 k15
  have b_law_due := B_law_due.binds (ps := ["_law_thing"]) fun _ _ _ _ _ _ us hl => match us, hl with | [_], _ => rfl
  have B_law_odd := fun_mk (st := s_law_odd) l16 c16 k16
  have b_law_odd := B_law_odd.binds (ps := ["_law_pool_here"]) fun _ _ _ _ _ _ us hl => match us, hl with | [_], _ => rfl
  have B_law_bent := fun_mk (st := s_law_bent) l17 c17 k17
  have b_law_bent := B_law_bent.binds (ps := ["_law_pool_here", "_law_thing", "_law_deep_here"]) fun _ _ _ _ _ _ us hl => match us, hl with | [_, _, _], _ => rfl
  have B_law_told := fun_mk (st := s_law_told) l18 c18 k18
  have b_law_told := B_law_told.binds (ps := ["_law_thing"]) fun _ _ _ _ _ _ us hl => match us, hl with | [_], _ => rfl
  have B_law_deep := fun_mk (st := s_law_deep) l19 c19 k19
  have b_law_deep := B_law_deep.binds (ps := ["_law_many", "_law_word"]) fun _ _ _ _ _ _ us hl => match us, hl with | [_, _], _ => rfl
  have B_law_wide := fun_mk (st := s_law_wide) l20 c20 k20
  have b_law_wide := B_law_wide.binds (ps := ["_law_many"]) fun _ _ _ _ _ _ us hl => match us, hl with | [_], _ => rfl
  have B_law_shallow := fun_mk (st := s_law_shallow) l21 c21 k21
  have b_law_shallow := B_law_shallow.binds (ps := ["_law_many"]) fun _ _ _ _ _ _ us hl => match us, hl with | [_], _ => rfl
  have B_law_right := fun_mk (st := s_law_right) l22 c22 k22
  have b_law_right := B_law_right.binds (ps := ["_law_thing"]) fun _ _ _ _ _ _ us hl => match us, hl with | [_], _ => rfl
  have B_law := fun_mk (st := s_law) l23 c23 k23
  have g_ALL : GlobD K mg ("ALL" : PySem.Str) k_ALL := GlobD.str (PySem.W.mg_of X G q0)
  have g_LEAVES : GlobD K mg ("LEAVES" : PySem.Str) k_LEAVES := GlobD.strTup (its := [.str ("number" : PySem.Str) t1_0, .str ("text" : PySem.Str) t1_1]) (PySem.W.mg_of X G q1) qk1 rfl rfl (show 2 ≤ sizeLine from by decide) (.cons ⟨_, rfl⟩ (.cons ⟨_, rfl⟩ .nil))
  have g_LONGEST : GlobD K mg ("LONGEST" : PySem.Str) k_LONGEST := GlobD.int (PySem.W.mg_of X G q2)
  have g_MANY : GlobD K mg ("MANY" : PySem.Str) k_MANY := GlobD.strTup (its := [.str ("list" : PySem.Str) t3_0, .str ("map" : PySem.Str) t3_1]) (PySem.W.mg_of X G q3) qk3 rfl rfl (show 2 ≤ sizeLine from by decide) (.cons ⟨_, rfl⟩ (.cons ⟨_, rfl⟩ .nil))
  have g_MOST_DEEP : GlobD K mg ("MOST_DEEP" : PySem.Str) k_MOST_DEEP := GlobD.int (PySem.W.mg_of X G q4)
  have g_MOST_PARTS : GlobD K mg ("MOST_PARTS" : PySem.Str) k_MOST_PARTS := GlobD.int (PySem.W.mg_of X G q5)
  have g_MOST_ROOMS : GlobD K mg ("MOST_ROOMS" : PySem.Str) k_MOST_ROOMS := GlobD.int (PySem.W.mg_of X G q6)
  have g_MOST_WORDS : GlobD K mg ("MOST_WORDS" : PySem.Str) k_MOST_WORDS := GlobD.int (PySem.W.mg_of X G q7)
  have g_SIGNS : GlobD K mg ("SIGNS" : PySem.Str) k_SIGNS := GlobD.str (PySem.W.mg_of X G q8)
  have at_NoDeed := PySem.W.mg_of X G ac_NoDeed
  have at_NoForm := PySem.W.mg_of X G ac_NoForm
  have at_NoGlass := PySem.W.mg_of X G ac_NoGlass
  have at_NoRecord := PySem.W.mg_of X G ac_NoRecord
  have at_NoRow := PySem.W.mg_of X G ac_NoRow
  have at_NoStep := PySem.W.mg_of X G ac_NoStep
  have at_NoText := PySem.W.mg_of X G ac_NoText
  have at_Parted := PySem.W.mg_of X G ac_Parted
  have E_NoForm : ExC K mg (fun x => (mg x).getD .none) "NoForm" C_NoForm := ⟨PySem.W.mg_of X G ac_NoForm, by show (mg "NoForm").getD .none = _; rw [PySem.W.mg_of X G ac_NoForm]; rfl, oc_NoForm⟩
  have iB_NoForm := fun_mk (st := s_i_NoForm) iL_NoForm iW_NoForm iK_NoForm
  have ib_NoForm := iB_NoForm.binds (ps := ["self", "place"]) fun _ _ _ _ _ _ us hl => match us, hl with | [_, _], _ => rfl
  have I_NoForm : ∀ base : Heap, ExI P w K mg base C_NoForm 1 (spI1 K "place") := fun base => i_NoForm iB_NoForm ib_NoForm iC_NoForm iT_NoForm vV hf
  refine ⟨PySem.W.fnOf "law" "law" (defArgs s_law) (defBody s_law) (defScope s_law) .none kV23 dc23 pm23 an23 cd23 ct23, fun s v => .of_eq rfl, fun base _ _ => ?_⟩
  have F_is_word : FnD P w K mg base (fun x => (mg x).getD .none) 1 "is_word" ["thing"] (m_is_word) := d_is_word B_is_word (PySem.W.mg_of X G a0) b_is_word hf g_LONGEST g_SIGNS
  have F_are_words : FnD P w K mg base (fun x => (mg x).getD .none) 2 "are_words" ["thing", "most"] (m_are_words) := d_are_words B_are_words (PySem.W.mg_of X G a1) b_are_words hf F_is_word
  have F_is_head : FnD P w K mg base (fun x => (mg x).getD .none) 1 "is_head" ["thing"] (m_is_head) := d_is_head B_is_head (PySem.W.mg_of X G a2) b_is_head hf 
  have F_are_rooms : FnD P w K mg base (fun x => (mg x).getD .none) 2 "are_rooms" ["thing"] (m_are_rooms) := d_are_rooms B_are_rooms (PySem.W.mg_of X G a3) b_are_rooms hf g_MOST_ROOMS F_is_word
  have F_look_within : FnD P w K mg base (fun x => (mg x).getD .none) 33 "look_within" ["thing", "place", "deep"] (m_look_within 30) := d_look_within B_look_within (PySem.W.mg_of X G a4) b_look_within hf E_NoForm (I_NoForm base) n_NoForm_place g_ALL g_LEAVES g_MANY g_MOST_DEEP g_MOST_PARTS g_MOST_WORDS F_is_head F_are_words F_are_rooms 30
  have F_look_at_form : FnD P w K mg base (fun x => (mg x).getD .none) 34 "look_at_form" ["thing"] (m_look_at_form) := d_look_at_form B_look_at_form (PySem.W.mg_of X G a5) b_look_at_form hf E_NoForm (I_NoForm base) n_NoForm_place g_MOST_DEEP g_MOST_PARTS F_look_within
  have F_law_pool : FnD P w K mg base (fun x => (mg x).getD .none) 1 "_law_pool" ["_law_script", "_law_k"] (m_law_pool) := d_law_pool B_law_pool (PySem.W.mg_of X G a6) b_law_pool hf 
  have F_law_draw : FnD P w K mg base (fun x => (mg x).getD .none) 1 "_law_draw" ["_law_pool_here", "_law_many"] (m_law_draw) := d_law_draw B_law_draw (PySem.W.mg_of X G a7) b_law_draw hf 
  have F_law_words : FnD P w K mg base (fun x => (mg x).getD .none) 2 "_law_words" ["_law_pool_here", "_law_many"] (m_law_words) := d_law_words B_law_words (PySem.W.mg_of X G a8) b_law_words hf F_law_draw
  have F_law_form : FnD P w K mg base (fun x => (mg x).getD .none) 8 "_law_form" ["_law_pool_here", "_law_words_here", "_law_deep_here"] (m_law_form 6) := d_law_form B_law_form (PySem.W.mg_of X G a9) b_law_form hf F_law_draw 6
  have F_law_record : FnD P w K mg base (fun x => (mg x).getD .none) 9 "_law_record" ["_law_pool_here", "_law_words_here", "_law_deep_here"] (m_law_record) := d_law_record B_law_record (PySem.W.mg_of X G a10) b_law_record hf F_law_draw F_law_form
  have F_law_is_word : FnD P w K mg base (fun x => (mg x).getD .none) 1 "_law_is_word" ["_law_thing"] (m_law_is_word) := d_law_is_word B_law_is_word (PySem.W.mg_of X G a11) b_law_is_word hf 
  have F_law_unlike : FnD P w K mg base (fun x => (mg x).getD .none) 2 "_law_unlike" ["_law_thing", "_law_least", "_law_most"] (m_law_unlike) := d_law_unlike B_law_unlike (PySem.W.mg_of X G a12) b_law_unlike hf F_law_is_word
  have F_law_wrong : FnD P w K mg base (fun x => (mg x).getD .none) 33 "_law_wrong" ["_law_thing", "_law_place"] (m_law_wrong 30) := d_law_wrong B_law_wrong (PySem.W.mg_of X G a13) b_law_wrong hf F_law_unlike 30
  have F_law_size : FnD P w K mg base (fun x => (mg x).getD .none) 31 "_law_size" ["_law_form_here"] (m_law_size 30) := d_law_size B_law_size (PySem.W.mg_of X G a14) b_law_size hf  30
  have F_law_due : FnD P w K mg base (fun x => (mg x).getD .none) 34 "_law_due" ["_law_thing"] (m_law_due) := d_law_due B_law_due (PySem.W.mg_of X G a15) b_law_due hf F_law_wrong F_law_size
  have F_law_odd : FnD P w K mg base (fun x => (mg x).getD .none) 2 "_law_odd" ["_law_pool_here"] (m_law_odd) := d_law_odd B_law_odd (PySem.W.mg_of X G a16) b_law_odd hf F_law_draw
  have F_law_bent : FnD P w K mg base (fun x => (mg x).getD .none) 12 "_law_bent" ["_law_pool_here", "_law_thing", "_law_deep_here"] (m_law_bent 9) := d_law_bent B_law_bent (PySem.W.mg_of X G a17) b_law_bent hf F_law_draw F_law_odd 9
  have F_law_told : FnD P w K mg base (fun x => (mg x).getD .none) 35 "_law_told" ["_law_thing"] (m_law_told) := d_law_told B_law_told (PySem.W.mg_of X G a18) b_law_told hf E_NoForm n_NoForm_place at_NoDeed at_NoForm at_NoGlass at_NoRecord at_NoRow at_NoStep at_NoText at_Parted kit_NoForm_NoDeed_NoGlass_NoRecord_NoRow_NoStep_NoText_Parted kit_NoForm_ValueError exm_NoForm_NoForm F_look_at_form
  have F_law_deep : FnD P w K mg base (fun x => (mg x).getD .none) 1 "_law_deep" ["_law_many", "_law_word"] (m_law_deep) := d_law_deep B_law_deep (PySem.W.mg_of X G a19) b_law_deep hf 
  have F_law_wide : FnD P w K mg base (fun x => (mg x).getD .none) 1 "_law_wide" ["_law_many"] (m_law_wide) := d_law_wide B_law_wide (PySem.W.mg_of X G a20) b_law_wide hf 
  have F_law_shallow : FnD P w K mg base (fun x => (mg x).getD .none) 1 "_law_shallow" ["_law_many"] (m_law_shallow) := d_law_shallow B_law_shallow (PySem.W.mg_of X G a21) b_law_shallow hf 
  have F_law_right : FnD P w K mg base (fun x => (mg x).getD .none) 36 "_law_right" ["_law_thing"] (m_law_right) := d_law_right B_law_right (PySem.W.mg_of X G a22) b_law_right hf F_law_told F_law_due
  exact d_law B_law hf F_law_wide F_law_deep F_law_shallow F_law_right F_law_pool F_law_record F_law_words F_law_draw F_law_bent F_law_odd
end K02
set_option Elab.async false
set_option linter.all false
set_option maxRecDepth 100000
set_option maxHeartbeats 4000000
/-! K02b: what the law draws: forms. -/
namespace K02
open PySem L2 DL PG
local macro_rules
  | `(tactic| push_cast [$as,*]) => `(tactic| simp only [optR_some, bd_ok, bd_exc, bd_bad, noX_ok, bs_ok, bs_exc, bs_bad, ret_ok, gv_cons, gv_zero, c2Bin_ap, c1Bin_ap, e_bin, c2BinM_ap, c1BinM_ap, e_binM, asB_bl, e_B, cTru_ap, e_Tru, cAndB_t, cAndB_f, e_AndB, cOrB_t, cOrB_f, e_OrB, cNotB_ap, e_NotB, cAnd2_t, cAnd2_f, cAnd_ap, e_And, cOr2_t, cOr2_f, cOr_ap, e_Or, cNot2_ap, cNot_ap, e_Not, cIfE_t, cIfE_f, e_IfE, cCh3_t, cCh3_f, cCh2_ap, cCh1_ap, e_Chain, e_Nil, c2Cons_ap, c1Cons_ap, e_Cons, cTup0, cLst0, cLstL0, cTup1, cLst1, cLstL1, cTup2, cLst2, cLstL2, cTup3, cLst3, cLstL3, cTup4, cLst4, cLstL4, cTup5, cLst5, cLstL5, cTup6, cLst6, cLstL6, cTup7, cLst7, cLstL7, cTup8, cLst8, cLstL8, cTup9, cLst9, cLstL9, cTup10, cLst10, cLstL10, cTup11, cLst11, cLstL11, cTup12, cLst12, cLstL12, cTup13, cLst13, cLstL13, cTup14, cLst14, cLstL14, cTup15, cLst15, cLstL15, cTup16, cLst16, cLstL16, cTup17, cLst17, cLstL17, cTup18, cLst18, cLstL18, cTup19, cLst19, cLstL19, cTup20, cLst20, cLstL20, cTup21, cLst21, cLstL21, cTup22, cLst22, cLstL22, e_Tup, e_Lst, e_LstL, cCB_ap, e_CB, cCM_ap, e_CM, cIsi2_ap, cIsi_ap, e_Isi, cIsiT2_ap, cIsiT_ap, e_IsiT, cNeg_int, e_Neg, cCall0, cCall1, cCall2, cCall3, cCall4, cCall5, cCall6, cCall7, e_Call, asI_int, e_Part, cCut3_ap, cCut2_ap, cCut1_ap, e_Cut, cJoin2_ap, cJoin1_ap, e_Join, cMeth2_ap, cMeth3_t, cMeth1_ap, e_Meth, cIter_ap, e_Iter, e_Rng1, e_Rng2, e_EnumT, cComp2_ap, cComp_ap, e_Comp, cCompX_ap, e_CompX, finD_t, finD_f, wipe_nil, wipe_cons, cmp_nil, cmpx_nil, cmp_cons, cmpx_cons, cCp2_t, cCp2_f, cCp1_ap, cCx2_t, cCx2_f, cCx1_ap, cCp3_0, cCx3_0, cCp3_1, cCx3_1, cCp3_2, cCx3_2, cCp3_3, cCx3_3, cCp3_4, cCx3_4, cCp3_5, cCx3_5, cCp3_6, cCx3_6, cCp3_7, cCx3_7, cSet2_ap, cSet_ap, e_LenSet, cMaxD_ap, e_MaxD, cCnt2_ap, cCnt_ap, e_Count, e_Fld, e_Isx, seqS_nx, seqS_rt, seqS_bk, seqS_ct, seqS_exc, e_seq, e_ret, cExpr_ap, e_expr, cIf_t, cIf_f, e_if, cSetS_nm, cSetS_tp2, cSetS_tp3, e_set, setT_nm, setT_tp2, setT_tp3, optS_some, cSt3_ap, cSt2_ap, cSt1_ap, e_store, cFor_ap, e_for, for_nil, cFor2_nx, cFor2_ct, cFor2_bk, cFor2_rt, cFor2_exc, for_cons1, for_cons2, cRaise0, cRaise1, cRaise2, e_raise, callR_nx, callR_rt, callR_exc, callF_eq, tryK_nx, tryK_rt, e_try, unS_nx, unS_rt, List.map_cons, List.map_nil, List.cons_append, List.nil_append, List.replicate, Nat.reduceSub, List.set_cons_succ, List.set_cons_zero, nAdd_int, nSub_int, nLt_int, nLe_int, nGt_int, nGe_int, fEq_int, fNe_int, fEq_str, fNe_str, nTru_bl, nMax_int, nMin_int, nInt_bl, nIx_lst, nIx_tup, nIx_scr, atI_0, atI_1, Bool.not_true, Bool.not_false, decide_true, decide_false, Option.some.injEq, reduceIte, ty_non, ty_bl, ty_int, ty_str, ty_lst, ty_tup, ty_dct, ty_scr, is_non_non, is_non_bl, is_non_int, is_non_str, is_non_lst, is_non_tup, is_non_dct, is_bl_non, is_bl_bl, is_bl_int, is_bl_str, is_bl_lst, is_bl_tup, is_bl_dct, is_int_non, is_int_bl, is_int_int, is_int_str, is_int_lst, is_int_tup, is_int_dct, is_str_non, is_str_bl, is_str_int, is_str_str, is_str_lst, is_str_tup, is_str_dct, is_lst_non, is_lst_bl, is_lst_int, is_lst_str, is_lst_lst, is_lst_tup, is_lst_dct, is_tup_non, is_tup_bl, is_tup_int, is_tup_str, is_tup_lst, is_tup_tup, is_tup_dct, is_dct_non, is_dct_bl, is_dct_int, is_dct_str, is_dct_lst, is_dct_tup, is_dct_dct, len_t0, len_l0, len_t1, len_l1, len_t2, len_l2, len_t3, len_l3, at_3_2, len_t4, len_l4, at_4_2, at_4_3, len_t5, len_l5, at_5_2, at_5_3, at_5_4, len_t6, len_l6, at_6_2, at_6_3, at_6_4, at_6_5, len_t7, len_l7, at_7_2, at_7_3, at_7_4, at_7_5, at_7_6, len_t8, len_l8, at_8_2, at_8_3, at_8_4, at_8_5, at_8_6, at_8_7, tru_tup, tru_lst, tru_int, tru_non, it_lst, it_tup, it_scr, it_str, isn_non, isnt_non, isn_tup, isnt_tup, isn_lst, isnt_lst, isn_int, isn_str, isnt_int, isnt_str, isn_loc, isnt_loc, isn_exn, isnt_exn, tupX_tup, tupX_lst, lst_tup, lst_lst, inX_2, inX_t2, eqX_nil, isLst_lst, sgn_in, sgn_notIn, all_bls, sum_ints, maxD_ints, Int.reduceAdd, Int.reduceSub, Int.reduceMul, Int.reduceNeg, Int.reduceLT, Int.reduceLE, Int.reduceEq, Int.reduceToNat, Nat.reduceAdd, Nat.reduceMul, Nat.reduceEqDiff, Int.reduceMod, Int.reduceDiv, Bool.or_true, Bool.true_or, Bool.or_false, Bool.false_or, Bool.and_true, Bool.true_and, Bool.and_false, Bool.false_and, ne_number_text, ne_number_choice, ne_number_record, ne_number_list, ne_number_map, ne_text_number, ne_text_choice, ne_text_record, ne_text_list, ne_text_map, ne_choice_number, ne_choice_text, ne_choice_record, ne_choice_list, ne_choice_map, ne_record_number, ne_record_text, ne_record_choice, ne_record_list, ne_record_map, ne_list_number, ne_list_text, ne_list_choice, ne_list_record, ne_list_map, ne_map_number, ne_map_text, ne_map_choice, ne_map_record, ne_map_list, $as,*])
variable {s : Sto} {p : Nat} {P : List Nat} {x1 x2 x3 x4 : Option D}
theorem cut_mem {xs : List D} {a b : Option Int} {x : D} (h : x ∈ cutD xs a b) : x ∈ xs := List.mem_of_mem_drop (List.mem_of_mem_take h)
theorem cut_len {xs : List D} {a b : Nat} : (cutD xs (some (a : Int)) (some (b : Int))).length ≤ b - a := by
  unfold cutD
  rw [HT.sIx_nat, HT.sIx_nat, List.length_take, List.length_drop]
  omega
theorem cut_len0 {xs : List D} {b : Nat} : (cutD xs none (some (b : Int))).length ≤ b := by
  unfold cutD
  rw [HT.sIx_none, HT.sIx_nat, List.length_take, List.length_drop]
  omega
def Wd (d : D) : Prop := ∃ y, d = .str y ∧ wordX y = true
theorem wd_tr {n : Nat} {d : D} (h : Wd d) : Tr P s n 9 d := by
  obtain ⟨y, rfl, hy⟩ := h
  obtain ⟨h1, h2⟩ := wordX_ok hy
  exact .str (fun c hc => Nat.lt_trans (h2 c hc) (by decide)) (by omega)
theorem wds_tr {n : Nat} : ∀ {xs : List D}, (∀ x ∈ xs, Wd x) → Trs P s n (9 * xs.length) xs
  | [], _ => .nil
  | x :: xs, h => .cons (wd_tr (h x List.mem_cons_self)) (wds_tr fun x hx => h x (List.mem_cons_of_mem _ hx)) (by rw [List.length_cons]; omega)
theorem nm_tr {n : Nat} {y : Str} (h1 : y.length ≤ 8) (h2 : ∀ c ∈ y.cps.toList, c < 128) : Tr P s n 9 (.str y) := .str (fun c hc => Nat.lt_trans (h2 c hc) (by decide)) (by omega)
theorem tr_number {n : Nat} : Tr P s n 9 (.str "number") := nm_tr (by decide +kernel) (by decide +kernel)
theorem tr_text {n : Nat} : Tr P s n 9 (.str "text") := nm_tr (by decide +kernel) (by decide +kernel)
theorem tr_choice {n : Nat} : Tr P s n 9 (.str "choice") := nm_tr (by decide +kernel) (by decide +kernel)
theorem tr_record {n : Nat} : Tr P s n 9 (.str "record") := nm_tr (by decide +kernel) (by decide +kernel)
theorem tr_list {n : Nat} : Tr P s n 9 (.str "list") := nm_tr (by decide +kernel) (by decide +kernel)
theorem tr_map {n : Nat} : Tr P s n 9 (.str "map") := nm_tr (by decide +kernel) (by decide +kernel)
def W : Nat → Nat
  | 0 => 42
  | k + 1 => 12 + 4 * (W k + 11)
theorem W_ge : ∀ k, 42 ≤ W k
  | 0 => Nat.le_refl _
  | k + 1 => by have := W_ge k; show 42 ≤ 12 + 4 * (W k + 11); omega
theorem leaf_ok {ws : List D} (h : PoolAt s p) (hw : ∀ x ∈ ws, Wd x) : ∃ (a b : Int) (s1 s2 : Sto) (d : D), m_law_draw [.loc p, .int 3] s = .ok (.int a) s1 ∧ fCut (.lst ws) (some 12) (some (13 + a)) s1 = some (.lst (cutD ws (some 12) (some (13 + a)))) ∧ m_law_draw [.loc p, .int 3] s1 = .ok (.int b) s2 ∧
    atI [D.tup [.str "number"], .tup [.str "text"], .tup [.str "choice", .tup (cutD ws (some 12) (some (13 + a)))]] b = some d ∧ Tr P [] 3 42 d ∧ Lk p s s2 := by
  obtain ⟨a, s1, e1, a0, a1, k1⟩ := drawn (n := 3) h (by decide) (by decide)
  obtain ⟨b, s2, e2, b0, b1, k2⟩ := drawn (n := 3) k1.pool (by decide) (by decide)
  have hl : (cutD ws (some 12) (some (13 + a))).length ≤ 3 := by
    have := cut_len (xs := ws) (a := 12) (b := (13 + a).toNat)
    rw [show (((13 + a).toNat : Nat) : Int) = 13 + a by omega] at this
    have e : ((12 : Nat) : Int) = 12 := rfl
    rw [e] at this
    omega
  obtain ⟨d, hd, hm⟩ := atI_in (l := [D.tup [.str "number"], .tup [.str "text"], .tup [.str "choice", .tup (cutD ws (some 12) (some (13 + a)))]]) b0 b1
  refine ⟨a, b, s1, s2, d, e1, rfl, e2, hd, ?_, k1.trans k2⟩
  simp only [List.mem_cons, List.not_mem_nil, or_false] at hm
  rcases hm with rfl | rfl | rfl
  · exact (Tr.tup (.one tr_number)).up (n := 1) (by decide) (by decide)
  · exact (Tr.tup (.one tr_text)).up (n := 1) (by decide) (by decide)
  · refine (Tr.tup (n := 2) (w := 40) (.cons tr_choice (.one (Tr.tup (n := 1) (w := 27) ((wds_tr fun x hx => hw x (cut_mem hx)).mono .refl (Nat.le_refl _) (by omega)))) (by decide))).up (by decide) (by decide)
theorem lst_words {ys : List Str} (h : ∀ y ∈ ys, wordX y = true) : ∀ x ∈ ys.map D.str, Wd x := fun x hx => by
  obtain ⟨y, hy, rfl⟩ := List.mem_map.mp hx
  exact ⟨y, rfl, h y hy⟩
theorem cut0 {ws : List D} {b : Int} : fCut (.lst ws) none (some b) s = some (.lst (cutD ws none (some b))) := rfl
theorem cut0_len {ws : List D} {b m : Int} (h0 : 0 ≤ b) (h : b ≤ m) : ((cutD ws none (some b)).length : Int) ≤ m := by
  have := cut_len0 (xs := ws) (b := b.toNat)
  rw [show ((b.toNat : Nat) : Int) = b by omega] at this
  omega
theorem form_ok {ws : List D} (hw : ∀ x ∈ ws, Wd x) : ∀ (k f : Nat) (s : Sto), k < f → PoolAt s p → ∃ d s', m_law_form f [.loc p, .lst ws, .int k] s = .ok d s' ∧ Tr P [] (3 * k + 3) (W k) d ∧ Lk p s s'
  | _, 0, _, h, _ => absurd h (by omega)
  | k, f + 1, s, hf, h => by
    obtain ⟨a, s1, e1, a0, a1, k1⟩ := drawn (n := 8) h (by decide) (by decide)
    show ∃ d s', callF 6 3 (b_law_form (m_law_form f)) _ s = _ ∧ _
    unfold b_law_form
    by_cases hl : k = 0 ∨ a < 3
    · obtain ⟨u, v, s2, s3, d, e2, e3, e4, e5, t2, k2⟩ := leaf_ok k1.pool hw
      refine ⟨d, s3, ?_, t2.up (by omega) (W_ge k), k1.trans k2⟩
      cases hk : decide ((k : Int) = 0) with
      | true => push_cast [e1, hk, e2, e3, e4, e5]
      | false =>
        have hl3 : a < 3 := by
          rcases hl with rfl | hl
          · exact absurd hk (by decide)
          · exact hl
        push_cast [e1, hk, hl3, e2, e3, e4, e5]
    · have hk0 : ¬ k = 0 := fun z => hl (.inl z)
      have ha3 : ¬ a < 3 := fun z => hl (.inr z)
      have hk1 : decide ((k : Int) = 0) = false := decide_eq_false (by omega)
      obtain ⟨j, rfl⟩ : ∃ j, k = j + 1 := ⟨k - 1, by omega⟩
      have ej : ((j + 1 : Nat) : Int) - 1 = (j : Int) := by omega
      by_cases h6 : a < 6
      · obtain ⟨b, s2, e2, b0, b1, k2⟩ := drawn (n := 4) k1.pool (by decide) (by decide)
        have hc := cut0_len (ws := ws) (b := 1 + b) (m := 4) (by omega) (by omega)
        obtain ⟨fs, s3, e3, hI⟩ := compR_ex (T := .nm 5) (mt := fun _ => DL.ret true) (me := mTup (mCons (getV 5) (mCons (mCall 3 (m_law_form f) (mCons (getV 0) (mCons (getV 1) (mCons (mBin fSub (getV 2) (fun _ => DL.ret (.int 1))) mNil)))) mNil))) (lo := [some (.loc p), some (.lst ws), some (.int (j + 1 : Nat)), some (.int a), some (.lst (cutD ws none (some (1 + b)))), none])
          (fun ds acc s' => acc.length + ds.length ≤ 4 ∧ (∀ d ∈ ds, Wd d) ∧ Lk p s s' ∧ Trs P [] (3 * j + 4) (acc.length * (W j + 10)) acc) (by
            rintro d ds acc s' ⟨i1, i2, i3, i4⟩
            rw [List.length_cons] at i1
            obtain ⟨g, s4, e4, t4, k4⟩ := form_ok hw j f s' (by omega) i3.pool
            refine ⟨Nat.lt_of_lt_of_le (show acc.length < 100 by omega) (by decide), _, rfl, s', rfl, .tup [d, g], s4, ?_, ?_, fun z hz => i2 z (List.mem_cons_of_mem _ hz), i3.trans k4, ?_⟩
            · push_cast [ej, e4]
            · rw [List.length_append, List.length_singleton]; omega
            · refine (i4.append (.one (Tr.tup (n := 3 * j + 3) (w := 9 + W j) (.cons (wd_tr (i2 d List.mem_cons_self)) (.one t4) (Nat.le_refl _))))).mono .refl (Nat.le_refl _) ?_
              rw [List.length_append, List.length_singleton, Nat.add_mul]; omega) (cutD ws none (some (1 + b))) [] s2 ⟨by rw [List.length_nil]; omega, fun d hd => hw d (cut_mem hd), k1.trans k2, .nil⟩
        obtain ⟨i1, _, k3, t3⟩ := hI
        rw [List.length_nil, Nat.add_zero] at i1
        refine ⟨.tup [.str "record", .tup fs], s3, ?_, ?_, k3⟩
        · push_cast [e1, hk1, ha3, h6, e2, cut0, e3]
        · have hm : fs.length * (W j + 10) ≤ 4 * (W j + 10) := Nat.mul_le_mul_right _ i1
          have hW : W (j + 1) = 12 + 4 * (W j + 11) := rfl
          exact (Tr.tup (n := 3 * j + 5) (w := 9 + (4 * (W j + 10) + 1)) (.cons tr_record (.one ((Tr.tup t3).up (by omega) (Nat.succ_le_succ hm))) (Nat.le_refl _))).up (by omega) (by omega)
      · obtain ⟨g, s2, e2, t2, k2⟩ := form_ok hw j f s1 (by omega) k1.pool
        have hW : W (j + 1) = 12 + 4 * (W j + 11) := rfl
        have ha : a - 6 = 0 ∨ a - 6 = 1 := by omega
        rcases ha with ha | ha
        · refine ⟨.tup [.str "list", g], s2, ?_, (Tr.tup (n := 3 * j + 3) (w := 9 + W j) (.cons tr_list (.one t2) (Nat.le_refl _))).up (by omega) (by omega), k1.trans k2⟩
          push_cast [e1, hk1, ha3, h6, ha, ej, e2]
        · refine ⟨.tup [.str "map", g], s2, ?_, (Tr.tup (n := 3 * j + 3) (w := 9 + W j) (.cons tr_map (.one t2) (Nat.le_refl _))).up (by omega) (by omega), k1.trans k2⟩
          push_cast [e1, hk1, ha3, h6, ha, ej, e2]
theorem W_le {k : Nat} (h : k ≤ 4) : W k ≤ 15512 := by
  have : k = 0 ∨ k = 1 ∨ k = 2 ∨ k = 3 ∨ k = 4 := by omega
  rcases this with rfl | rfl | rfl | rfl | rfl <;> decide
theorem add_locL {q : Nat} {xs ys : List D} (h : s[q]? = some (.lst xs)) (hz : xs.length + ys.length ≤ sizeLine) : fAdd (.loc q) (.lst ys) s = some (.lst (xs ++ ys)) := by
  unfold fAdd
  simp only [plOf, DL.listOf, h]
  rw [if_pos hz]
theorem app_loc {q : Nat} {xs : List D} {y : D} (h : s[q]? = some (.lst xs)) (hz : xs.length < sizeLine) : gAppend (.loc q) [y] s = .ok .non (s.set q (.lst (xs ++ [y]))) := by
  unfold gAppend
  simp only [h]
  rw [if_pos hz]
theorem lk_app {o : Ob} (h : PoolAt s p) : Lk p s (s ++ [o]) := by
  obtain ⟨u, v, q1, q2⟩ := h
  have hp := (List.getElem?_eq_some_iff.mp q1).1
  exact ⟨⟨u, v, by rw [List.getElem?_append_left hp]; exact q1, q2⟩, by simp, fun q h1 _ => List.getElem?_append_left h1⟩
theorem lk_set {s' : Sto} {q : Nat} {o : Ob} (h : Lk p s s') (hq : s.length ≤ q) (hp : p ≠ q) : Lk p s (s'.set q o) := by
  obtain ⟨u, v, q1, q2⟩ := h.pool
  exact ⟨⟨u, v, by rw [List.getElem?_set_ne (Ne.symm hp)]; exact q1, q2⟩, by rw [List.length_set]; exact h.len, fun r h1 h2 => by rw [List.getElem?_set_ne (by omega)]; exact h.oth r h1 h2⟩
theorem lk_lt (h : PoolAt s p) : p < s.length := by
  obtain ⟨u, v, q1, q2⟩ := h
  exact (List.getElem?_eq_some_iff.mp q1).1
theorem record_ok {ws : List D} (hw : ∀ x ∈ ws, Wd x) {k : Nat} (hk : k ≤ 4) (h : PoolAt s p) : ∃ d s', m_law_record [.loc p, .lst ws, .int k] s = .ok d s' ∧ Tr P [] 18 80000 d ∧ Lk p s s' := by
  obtain ⟨a, s2, e2, a0, a1, k2⟩ := drawn (n := 4) (lk_app (o := .lst []) h).pool (by decide) (by decide)
  have k12 := (lk_app (o := .lst []) h).trans k2
  have hp := lk_lt h
  have hW := W_le hk
  have hc := cut0_len (ws := ws) (b := 2 + a) (m := 5) (by omega) (by omega)
  have g2 : s2[s.length]? = some (.lst []) := by rw [k2.oth s.length (by simp) (by omega)]; simp
  obtain ⟨lo3, s3, e3, i1, y4, y5, acc, rfl, g3, hz3, t3, k3⟩ := forS_ex (T := .nm 4) (m1 := mSeq (mSet (.nm 5) (mCall 3 (m_law_form 6) (mCons (getV 0) (mCons (getV 1) (mCons (getV 2) mNil)))))
    (mSeq (mIf (mB (mBin fGt (mCount (mCB fReprX (mCons (mBin fAdd (getV 3) (mLst (mCons (getV 5) mNil))) mNil)) (fun _ => DL.ret (.str ("('" : PySem.Str)))) (fun _ => DL.ret (.int 30)))) (mSet (.nm 5) (mTup (mCons (fun _ => DL.ret (.str ("number" : PySem.Str))) mNil))) .nx)
    (mExpr (mMeth gAppend (getV 3) (mCons (mTup (mCons (getV 4) (mCons (getV 5) mNil))) mNil)))))
    (fun ds lo s' => (∀ d ∈ ds, Wd d) ∧ ∃ y4 y5 acc, lo = [some (.loc p), some (.lst ws), some (.int k), some (.loc s.length), y4, y5] ∧ s'[s.length]? = some (.lst acc) ∧ acc.length + ds.length ≤ 5 ∧ Trs P [] 16 (acc.length * (W k + 10)) acc ∧ Lk p s s') (by
      rintro d ds lo s' ⟨i1, y4, y5, acc, rfl, g, i2, t, k3⟩
      rw [List.length_cons] at i2
      obtain ⟨f, s4, e4, t4, k4⟩ := form_ok (P := P) hw k 6 s' (by omega) k3.pool
      have hl := (List.getElem?_eq_some_iff.mp g).1
      have g4 : s4[s.length]? = some (.lst acc) := by rw [k4.oth s.length hl (by omega)]; exact g
      have ad := add_locL (ys := [f]) g4 (by rw [List.length_singleton]; exact few (by omega))
      have tt : Tr P s4 17 100000 (.lst (acc ++ [f])) := (Tr.lst (t.append (.one (t4.up (m := 16) (by omega) (Nat.le_refl _))))).mono .nil (Nat.le_refl _) (by
        have : acc.length * (W k + 10) ≤ 5 * (W k + 10) := Nat.mul_le_mul_right _ (by omega)
        omega)
      obtain ⟨r, hr, ho, hz⟩ := tt.rd
      have rp := repr_rd (by decide) hr ho (by omega)
      have key : ∃ own : D, Tr P [] (3 * k + 3) (W k) own ∧ ∃ (b : Bool), (decide ((30 : Int) < Txt.count r.shown ("('" : Str))) = b ∧ own = (if b = true then .tup [.str "number"] else f) := by
        cases hb : decide ((30 : Int) < Txt.count r.shown ("('" : Str)) with
        | true => exact ⟨_, (Tr.tup (.one tr_number)).up (n := 1) (by omega) (by have := W_ge k; omega), true, rfl, rfl⟩
        | false => exact ⟨_, t4, false, rfl, rfl⟩
      obtain ⟨own, tw, b, hb, ho⟩ := key
      have ap := app_loc (y := .tup [d, own]) g4 (Nat.lt_of_lt_of_le (show acc.length < 100 by omega) (by decide))
      refine ⟨_, rfl, [some (.loc p), some (.lst ws), some (.int k), some (.loc s.length), some d, some own], s4.set s.length (.lst (acc ++ [.tup [d, own]])), .inl ?_, fun z hz => i1 z (List.mem_cons_of_mem _ hz), _, _, acc ++ [.tup [d, own]], rfl, List.getElem?_set_self (by have := k4.len; omega), by rw [List.length_append, List.length_singleton]; omega, ?_, lk_set (k3.trans k4) (Nat.le_refl _) (by omega)⟩
      · cases b with
        | true => rw [if_pos rfl] at ho; subst ho; push_cast [e4, ad, rp, hb, isLst_loc g4, ap]
        | false => rw [if_neg Bool.false_ne_true] at ho; subst ho; push_cast [e4, ad, rp, hb, isLst_loc g4, ap]
      · refine (t.append (.one ((Tr.tup (n := 3 * k + 3) (.cons (wd_tr (i1 d List.mem_cons_self)) (.one tw) (Nat.le_refl _))).up (by omega) (Nat.le_refl _)))).mono .refl (Nat.le_refl _) ?_
        rw [List.length_append, List.length_singleton, Nat.add_mul]; omega) (cutD ws none (some (2 + a))) [some (.loc p), some (.lst ws), some (.int k), some (.loc s.length), none, none] s2 ⟨fun d hd => hw d (cut_mem hd), none, none, [], rfl, g2, by rw [List.length_nil]; omega, .nil, k12⟩
  refine ⟨.tup [.str "record", .tup acc], s3, ?_, ?_, k3⟩
  · unfold m_law_record b_law_record
    push_cast [e2, cut0, e3, tupX_loc g3]
  · rw [List.length_nil, Nat.add_zero] at hz3
    have : acc.length * (W k + 10) ≤ 5 * (W k + 10) := Nat.mul_le_mul_right _ (by omega)
    exact (Tr.tup (n := 17) (.cons tr_record (.one (Tr.tup t3)) (Nat.le_refl _))).up (by omega) (by omega)
end K02
set_option Elab.async false
set_option linter.all false
set_option maxRecDepth 100000
set_option maxHeartbeats 4000000
/-! K02c: what the law draws: odd things, bent ones. -/
namespace K02
open PySem L2 DL PG
local macro_rules
  | `(tactic| push_cast [$as,*]) => `(tactic| simp only [optR_some, bd_ok, bd_exc, bd_bad, noX_ok, bs_ok, bs_exc, bs_bad, ret_ok, gv_cons, gv_zero, c2Bin_ap, c1Bin_ap, e_bin, c2BinM_ap, c1BinM_ap, e_binM, asB_bl, e_B, cTru_ap, e_Tru, cAndB_t, cAndB_f, e_AndB, cOrB_t, cOrB_f, e_OrB, cNotB_ap, e_NotB, cAnd2_t, cAnd2_f, cAnd_ap, e_And, cOr2_t, cOr2_f, cOr_ap, e_Or, cNot2_ap, cNot_ap, e_Not, cIfE_t, cIfE_f, e_IfE, cCh3_t, cCh3_f, cCh2_ap, cCh1_ap, e_Chain, e_Nil, c2Cons_ap, c1Cons_ap, e_Cons, cTup0, cLst0, cLstL0, cTup1, cLst1, cLstL1, cTup2, cLst2, cLstL2, cTup3, cLst3, cLstL3, cTup4, cLst4, cLstL4, cTup5, cLst5, cLstL5, cTup6, cLst6, cLstL6, cTup7, cLst7, cLstL7, cTup8, cLst8, cLstL8, cTup9, cLst9, cLstL9, cTup10, cLst10, cLstL10, cTup11, cLst11, cLstL11, cTup12, cLst12, cLstL12, cTup13, cLst13, cLstL13, cTup14, cLst14, cLstL14, cTup15, cLst15, cLstL15, cTup16, cLst16, cLstL16, cTup17, cLst17, cLstL17, cTup18, cLst18, cLstL18, cTup19, cLst19, cLstL19, cTup20, cLst20, cLstL20, cTup21, cLst21, cLstL21, cTup22, cLst22, cLstL22, e_Tup, e_Lst, e_LstL, cCB_ap, e_CB, cCM_ap, e_CM, cIsi2_ap, cIsi_ap, e_Isi, cIsiT2_ap, cIsiT_ap, e_IsiT, cNeg_int, e_Neg, cCall0, cCall1, cCall2, cCall3, cCall4, cCall5, cCall6, cCall7, e_Call, asI_int, e_Part, cCut3_ap, cCut2_ap, cCut1_ap, e_Cut, cJoin2_ap, cJoin1_ap, e_Join, cMeth2_ap, cMeth3_t, cMeth1_ap, e_Meth, cIter_ap, e_Iter, e_Rng1, e_Rng2, e_EnumT, cComp2_ap, cComp_ap, e_Comp, cCompX_ap, e_CompX, finD_t, finD_f, wipe_nil, wipe_cons, cmp_nil, cmpx_nil, cmp_cons, cmpx_cons, cCp2_t, cCp2_f, cCp1_ap, cCx2_t, cCx2_f, cCx1_ap, cCp3_0, cCx3_0, cCp3_1, cCx3_1, cCp3_2, cCx3_2, cCp3_3, cCx3_3, cCp3_4, cCx3_4, cCp3_5, cCx3_5, cCp3_6, cCx3_6, cCp3_7, cCx3_7, cSet2_ap, cSet_ap, e_LenSet, cMaxD_ap, e_MaxD, cCnt2_ap, cCnt_ap, e_Count, e_Fld, e_Isx, seqS_nx, seqS_rt, seqS_bk, seqS_ct, seqS_exc, e_seq, e_ret, cExpr_ap, e_expr, cIf_t, cIf_f, e_if, cSetS_nm, cSetS_tp2, cSetS_tp3, e_set, setT_nm, setT_tp2, setT_tp3, optS_some, cSt3_ap, cSt2_ap, cSt1_ap, e_store, cFor_ap, e_for, for_nil, cFor2_nx, cFor2_ct, cFor2_bk, cFor2_rt, cFor2_exc, for_cons1, for_cons2, cRaise0, cRaise1, cRaise2, e_raise, callR_nx, callR_rt, callR_exc, callF_eq, tryK_nx, tryK_rt, e_try, unS_nx, unS_rt, List.map_cons, List.map_nil, List.cons_append, List.nil_append, List.replicate, Nat.reduceSub, List.set_cons_succ, List.set_cons_zero, nAdd_int, nSub_int, nLt_int, nLe_int, nGt_int, nGe_int, fEq_int, fNe_int, fEq_str, fNe_str, nTru_bl, nMax_int, nMin_int, nInt_bl, nIx_lst, nIx_tup, nIx_scr, atI_0, atI_1, Bool.not_true, Bool.not_false, decide_true, decide_false, Option.some.injEq, reduceIte, ty_non, ty_bl, ty_int, ty_str, ty_lst, ty_tup, ty_dct, ty_scr, is_non_non, is_non_bl, is_non_int, is_non_str, is_non_lst, is_non_tup, is_non_dct, is_bl_non, is_bl_bl, is_bl_int, is_bl_str, is_bl_lst, is_bl_tup, is_bl_dct, is_int_non, is_int_bl, is_int_int, is_int_str, is_int_lst, is_int_tup, is_int_dct, is_str_non, is_str_bl, is_str_int, is_str_str, is_str_lst, is_str_tup, is_str_dct, is_lst_non, is_lst_bl, is_lst_int, is_lst_str, is_lst_lst, is_lst_tup, is_lst_dct, is_tup_non, is_tup_bl, is_tup_int, is_tup_str, is_tup_lst, is_tup_tup, is_tup_dct, is_dct_non, is_dct_bl, is_dct_int, is_dct_str, is_dct_lst, is_dct_tup, is_dct_dct, len_t0, len_l0, len_t1, len_l1, len_t2, len_l2, len_t3, len_l3, at_3_2, len_t4, len_l4, at_4_2, at_4_3, len_t5, len_l5, at_5_2, at_5_3, at_5_4, len_t6, len_l6, at_6_2, at_6_3, at_6_4, at_6_5, len_t7, len_l7, at_7_2, at_7_3, at_7_4, at_7_5, at_7_6, len_t8, len_l8, at_8_2, at_8_3, at_8_4, at_8_5, at_8_6, at_8_7, tru_tup, tru_lst, tru_int, tru_non, it_lst, it_tup, it_scr, it_str, isn_non, isnt_non, isn_tup, isnt_tup, isn_lst, isnt_lst, isn_int, isn_str, isnt_int, isnt_str, isn_loc, isnt_loc, isn_exn, isnt_exn, tupX_tup, tupX_lst, lst_tup, lst_lst, inX_2, inX_t2, eqX_nil, isLst_lst, sgn_in, sgn_notIn, all_bls, sum_ints, maxD_ints, Int.reduceAdd, Int.reduceSub, Int.reduceMul, Int.reduceNeg, Int.reduceLT, Int.reduceLE, Int.reduceEq, Int.reduceToNat, Nat.reduceAdd, Nat.reduceMul, Nat.reduceEqDiff, Int.reduceMod, Int.reduceDiv, Bool.or_true, Bool.true_or, Bool.or_false, Bool.false_or, Bool.and_true, Bool.true_and, Bool.and_false, Bool.false_and, ne_number_text, ne_number_choice, ne_number_record, ne_number_list, ne_number_map, ne_text_number, ne_text_choice, ne_text_record, ne_text_list, ne_text_map, ne_choice_number, ne_choice_text, ne_choice_record, ne_choice_list, ne_choice_map, ne_record_number, ne_record_text, ne_record_choice, ne_record_list, ne_record_map, ne_list_number, ne_list_text, ne_list_choice, ne_list_record, ne_list_map, ne_map_number, ne_map_text, ne_map_choice, ne_map_record, ne_map_list, $as,*])
variable {s : Sto} {p : Nat} {P : List Nat}
mutual
/-- read back without a store -/
def toG : D → Option PyData
  | .non => some .none
  | .bl b => some (.bool b)
  | .int i => some (.int i)
  | .str x => some (.str x)
  | .lst xs => (toGs xs).map .list
  | .tup xs => (toGs xs).map .tuple
  | .scr xs => (toGs xs).map .list
  | .dct [] [] => some (.dict [])
  | _ => none
def toGs : List D → Option (List PyData)
  | [] => some []
  | x :: xs => match toG x, toGs xs with
    | some p, some ps => some (p :: ps)
    | _, _ => none
end
mutual
theorem toG_pd {s : Sto} : ∀ (n : Nat) (d : D) (t : PyData), toG d = some t → t.depth ≤ n → toPd s n d = some t
  | n, .non, t, h, _ => by cases h; rw [toPd]
  | n, .bl _, t, h, _ => by cases h; rw [toPd]
  | n, .int _, t, h, _ => by cases h; rw [toPd]
  | n, .str _, t, h, _ => by cases h; rw [toPd]
  | n, .lst xs, t, h, hn => by
    rw [toG, Option.map_eq_some_iff] at h
    obtain ⟨ts, h1, rfl⟩ := h
    rw [PyData.depth] at hn
    obtain ⟨m, rfl⟩ : ∃ m, n = m + 1 := ⟨n - 1, by omega⟩
    rw [toPd, toGs_pd m xs ts h1 (by omega)]; rfl
  | n, .tup xs, t, h, hn => by
    rw [toG, Option.map_eq_some_iff] at h
    obtain ⟨ts, h1, rfl⟩ := h
    rw [PyData.depth] at hn
    obtain ⟨m, rfl⟩ : ∃ m, n = m + 1 := ⟨n - 1, by omega⟩
    rw [toPd, toGs_pd m xs ts h1 (by omega)]; rfl
  | n, .scr xs, t, h, hn => by
    rw [toG, Option.map_eq_some_iff] at h
    obtain ⟨ts, h1, rfl⟩ := h
    rw [PyData.depth] at hn
    obtain ⟨m, rfl⟩ : ∃ m, n = m + 1 := ⟨n - 1, by omega⟩
    rw [toPd, toGs_pd m xs ts h1 (by omega)]; rfl
  | n, .dct [] [], t, h, hn => by
    cases h
    rw [PyData.depth] at hn
    obtain ⟨m, rfl⟩ : ∃ m, n = m + 1 := ⟨n - 1, by omega⟩
    rw [toPd, toPds]; rfl
  | n, .dct (_ :: _) _, t, h, _ => by cases h
  | n, .dct [] (_ :: _), t, h, _ => by cases h
  | _, .loc _, _, h, _ => by cases h
  | _, .exn _ _ _, _, h, _ => by cases h
theorem toGs_pd {s : Sto} : ∀ (n : Nat) (ds : List D) (ts : List PyData), toGs ds = some ts → PyData.depthAll ts ≤ n → toPds s n ds = some ts
  | n, [], ts, h, _ => by cases h; rw [toPds]
  | n, d :: ds, ts, h, hn => by
    rw [toGs] at h
    split at h
    · rename_i p ps e1 e2
      cases h
      rw [PyData.depthAll] at hn
      rw [toPds, toG_pd n d p e1 (by omega), toGs_pd n ds ps e2 (by omega)]
    · cases h
end
def grOk (n w : Nat) (d : D) : Bool := match toG d with
  | some t => decide (t.depth ≤ n) && (okP t && decide (sz t ≤ w))
  | none => false
theorem grOk.tr {n w : Nat} {d : D} (h : grOk n w d = true) : Tr P [] n w d := by
  unfold grOk at h
  split at h
  · rename_i t e
    rw [Bool.and_eq_true, Bool.and_eq_true, decide_eq_true_eq, decide_eq_true_eq] at h
    exact ⟨t, fun s' _ => toG_pd n d t e h.1, h.2.1, h.2.2⟩
  · cases h
abbrev oA : List D := [.non, .int 0, .str "", .str "number", .tup [.str "number"], .tup [.str "text"], .tup [.str "number", .int 1], .tup [.str "choice", .tup []], .tup [.str "choice", .tup [.str "a", .str "a"]]]
abbrev oB : List D := [.tup [.str "choice", .lst [.str "a"]], .tup [.str "choice", .tup [.str "A"]], .tup [.str "choice", .tup [.str "a", .str "a", .str "a", .str "a", .str "a", .str "a", .str "a"]], .tup [.str "list"], .tup [.str "map", .tup []]]
abbrev oC : D := .tup [.str "record", .tup []]
abbrev oE : List D := [.tup [.str "record", .tup [.tup [.str "a", .tup [.str "number"]], .tup [.str "a", .tup [.str "text"]]]], .tup [.str "record", .tup [.tup [.str "a"]]], .tup [.str "record", .lst []]]
abbrev oF : List D := [.tup [], .lst [], .dct [] [], .tup [.str "list", .tup [.str "list", .tup [.str "number"]]], .tup [.str "record", .tup [.tup [.str "toolongword", .tup [.str "text"]]]], .bl true, .tup [.int 0]]
theorem odd_all : (oA ++ oB ++ [oC] ++ oE ++ oF).all (grOk 4 60) = true := by decide +kernel
theorem a7 : fMulX (.tup [.str "a"]) (.int 7) s = some (.tup [.str "a", .str "a", .str "a", .str "a", .str "a", .str "a", .str "a"]) := by
  show (if (7 : Int) = 0 ∧ [D.str "a"] ≠ [] then some (.tup []) else if [D.str "a"] ≠ [] ∧ (2 : Int) ≤ 7 ∧ (7 : Int) ≤ 1000 ∧ [D.str "a"].length ≤ 1000 then some (D.tup (List.replicate (7 : Int).toNat [D.str "a"]).flatten) else none) = _
  rw [if_neg (fun z => absurd z.1 (by decide)), if_pos ⟨by simp, by decide, by decide, by decide⟩]
  rfl
theorem odd_ok (h : PoolAt s p) : ∃ d s', m_law_odd [.loc p] s = .ok d s' ∧ Tr P [] 4 60 d ∧ Lk p s s' := by
  have hp := lk_lt h
  have g1 : (s ++ [Ob.lst oA])[s.length]? = some (.lst oA) := by simp
  generalize hs1 : s ++ [Ob.lst oA] = s1 at *
  have l1 : s1.length = s.length + 1 := by rw [← hs1]; simp
  have k1 : Lk p s s1 := by rw [← hs1]; exact lk_app h
  have a1 := gAdd_loc (fr := false) (ys := oB) g1 (few (by decide))
  have g2 : (s1 ++ [Ob.lst (oA ++ oB)])[s1.length]? = some (.lst (oA ++ oB)) := by simp
  have k2 : Lk p s (s1 ++ [Ob.lst (oA ++ oB)]) := k1.trans (lk_app k1.pool)
  rw [finD_f] at a1
  generalize hs2 : s1 ++ [Ob.lst (oA ++ oB)] = s2 at *
  have l2 : s2.length = s.length + 2 := by rw [← hs2]; simp [l1]
  have a2 := app_loc (y := oC) g2 (Nat.lt_of_lt_of_le (show (oA ++ oB).length < 100 by decide) (by decide))
  have g3 : (s2.set s1.length (.lst (oA ++ oB ++ [oC])))[s1.length]? = some (.lst (oA ++ oB ++ [oC])) := List.getElem?_set_self (by omega)
  have k3 : Lk p s (s2.set s1.length (.lst (oA ++ oB ++ [oC]))) := lk_set k2 (by omega) (by omega)
  have l3 : (s2.set s1.length (.lst (oA ++ oB ++ [oC]))).length = s.length + 2 := by rw [List.length_set, l2]
  generalize s2.set s1.length (.lst (oA ++ oB ++ [oC])) = s3 at *
  have a3 := gAdd_loc (fr := false) (ys := oE) g3 (few (by decide))
  rw [finD_f] at a3
  have g4 : (s3 ++ [Ob.lst (oA ++ oB ++ [oC] ++ oE)])[s3.length]? = some (.lst (oA ++ oB ++ [oC] ++ oE)) := by simp
  have k4 : Lk p s (s3 ++ [Ob.lst (oA ++ oB ++ [oC] ++ oE)]) := k3.trans (lk_app k3.pool)
  generalize s3 ++ [Ob.lst (oA ++ oB ++ [oC] ++ oE)] = s4 at *
  have a4 := gAdd_loc (fr := false) (ys := oF) g4 (few (by decide))
  rw [finD_f] at a4
  have g5 : (s4 ++ [Ob.lst (oA ++ oB ++ [oC] ++ oE ++ oF)])[s4.length]? = some (.lst (oA ++ oB ++ [oC] ++ oE ++ oF)) := by simp
  have k5 : Lk p s (s4 ++ [Ob.lst (oA ++ oB ++ [oC] ++ oE ++ oF)]) := k4.trans (lk_app k4.pool)
  generalize s4 ++ [Ob.lst (oA ++ oB ++ [oC] ++ oE ++ oF)] = s5 at *
  obtain ⟨r, s6, e6, r0, r1, k6⟩ := drawn (n := ((oA ++ oB ++ [oC] ++ oE ++ oF).length : Int)) k5.pool (by decide) (by decide)
  obtain ⟨d, hd, hm⟩ := atI_in (l := oA ++ oB ++ [oC] ++ oE ++ oF) r0 r1
  refine ⟨d, s6, ?_, (List.all_eq_true.mp odd_all d hm |> grOk.tr), k5.trans k6⟩
  have g6 : s6[s4.length]? = some (.lst (oA ++ oB ++ [oC] ++ oE ++ oF)) := by
    rw [k6.oth s4.length (List.getElem?_eq_some_iff.mp g5).1 (by have := k4.len; omega)]; exact g5
  have i6 := ix_loc (j := r) g6
  rw [hd] at i6
  have ln := len_loc g5
  generalize oA ++ oB = L2 at *
  generalize L2 ++ [oC] = L3 at *
  generalize L3 ++ oE = L4 at *
  generalize L4 ++ oF = L5 at *
  unfold m_law_odd b_law_odd
  push_cast [hs1, a1, isLst_loc g2, a2, a3, a7, a4, ln, e6, i6]
theorem trs_of {m v : Nat} : ∀ {xs : List D} {ts : List PyData}, (∀ s', Sep P s s' → toPds s' m xs = some ts) → okPs ts = true → szs ts ≤ v → Trs P s m v xs
  | [], _, _, _, _ => .nil
  | x :: xs, ts, h, ho, hz => by
    have h0 := h s .refl
    rw [toPds] at h0
    split at h0
    · rename_i t us e1 e2
      cases h0
      rw [okPs, Bool.and_eq_true] at ho
      rw [szs] at hz
      have hx : ∀ s', Sep P s s' → toPd s' m x = some t ∧ toPds s' m xs = some us := fun s' e => by
        have := h s' e
        rw [toPds] at this
        split at this
        · rename_i q1 q2
          cases this
          exact ⟨q1, q2⟩
        · cases this
      exact .cons (a := sz t) (b := szs us) ⟨t, fun s' e => (hx s' e).1, ho.1, Nat.le_refl _⟩ (trs_of (fun s' e => (hx s' e).2) ho.2 (Nat.le_refl _)) hz
    · cases h0
/-- a list or tuple, apart from P: its items -/
theorem tr_seq {n w : Nat} {d : D} {t : Ty} (h : Tr P s n w d) (ht : tyD d s = some t) (hl : t = .lst ∨ t = .tup) : ∃ m v xs, n = m + 1 ∧ v + 1 ≤ w ∧ (∀ s', Sep P s s' → seqOf d s' = some xs ∧ tyD d s' = some t ∧ gList false [d] s' = finD false xs s') ∧ Trs P s m v xs := by
  obtain ⟨p, h1, h2, h3⟩ := h
  have hs := h1 s .refl
  cases d with
  | lst xs =>
    cases ht
    cases n with
    | zero => simp [toPd] at hs
    | succ m =>
      rw [toPd, Option.map_eq_some_iff] at hs
      obtain ⟨ts, e, rfl⟩ := hs
      rw [okP] at h2; rw [sz] at h3
      refine ⟨m, szs ts, xs, rfl, by omega, fun s' _ => ⟨rfl, rfl, rfl⟩, trs_of (fun s' e' => ?_) h2 (Nat.le_refl _)⟩
      have := h1 s' e'
      rw [toPd, Option.map_eq_some_iff] at this
      obtain ⟨us, q1, q2⟩ := this
      cases q2
      exact q1
  | scr xs =>
    cases ht
    cases n with
    | zero => simp [toPd] at hs
    | succ m =>
      rw [toPd, Option.map_eq_some_iff] at hs
      obtain ⟨ts, e, rfl⟩ := hs
      rw [okP] at h2; rw [sz] at h3
      refine ⟨m, szs ts, xs, rfl, by omega, fun s' _ => ⟨rfl, rfl, rfl⟩, trs_of (fun s' e' => ?_) h2 (Nat.le_refl _)⟩
      have := h1 s' e'
      rw [toPd, Option.map_eq_some_iff] at this
      obtain ⟨us, q1, q2⟩ := this
      cases q2
      exact q1
  | tup xs =>
    cases ht
    cases n with
    | zero => simp [toPd] at hs
    | succ m =>
      rw [toPd, Option.map_eq_some_iff] at hs
      obtain ⟨ts, e, rfl⟩ := hs
      rw [okP] at h2; rw [sz] at h3
      refine ⟨m, szs ts, xs, rfl, by omega, fun s' _ => ⟨rfl, rfl, rfl⟩, trs_of (fun s' e' => ?_) h2 (Nat.le_refl _)⟩
      have := h1 s' e'
      rw [toPd, Option.map_eq_some_iff] at this
      obtain ⟨us, q1, q2⟩ := this
      cases q2
      exact q1
  | loc k =>
    cases n with
    | zero => simp [toPd] at hs
    | succ m =>
      have hk : k < s.length := by
        by_cases hk : k < s.length
        · exact hk
        · rw [toPd, List.getElem?_eq_none (by omega)] at hs; cases hs
      have hP : k ∉ P := fun hp => by
        have s1 : ∀ o : Ob, Sep P s (s.set k o) := fun o => ⟨by simp, fun q h1 h2 => List.getElem?_set_ne (fun (e : k = q) => h2 (e ▸ hp))⟩
        have q1 := h1 _ (s1 (.lst []))
        have q2 := h1 _ (s1 (.lst [.non]))
        rw [toPd, List.getElem?_set_self hk] at q1 q2
        simp only [toPds, toPd] at q1 q2
        rw [← q1] at q2
        cases q2
      have get : ∀ s', Sep P s s' → s'[k]? = s[k]? := fun s' e => e.oth k hk hP
      rw [toPd] at hs
      cases hsk : s[k]? with
      | none => rw [hsk] at hs; cases hs
      | some o =>
        cases o with
        | dct ks xs =>
          have : tyD (.loc k) s = some .dct := by unfold tyD; simp only [hsk]
          rw [this] at ht
          cases ht
          rcases hl with hl | hl <;> cases hl
        | lst xs =>
          have ty : ∀ s', s'[k]? = some (.lst xs) → tyD (.loc k) s' = some .lst := fun s' e => ty_loc e
          rw [ty s hsk] at ht
          cases ht
          rw [hsk] at hs
          simp only [Option.map_eq_some_iff] at hs
          obtain ⟨ts, e, rfl⟩ := hs
          rw [okP] at h2; rw [sz] at h3
          refine ⟨m, szs ts, xs, rfl, by omega, fun s' e => ⟨seqOf_loc ((get s' e).trans hsk), ty s' ((get s' e).trans hsk), lst_loc ((get s' e).trans hsk)⟩, trs_of (fun s' e' => ?_) h2 (Nat.le_refl _)⟩
          have := h1 s' e'
          rw [toPd, get s' e', hsk] at this
          simp only [Option.map_eq_some_iff] at this
          obtain ⟨us, q1, q2⟩ := this
          cases q2
          exact q1
  | _ => first | (cases ht; done) | (cases ht; rcases hl with hl | hl <;> cases hl)
theorem ins_loc {q : Nat} {a : Int} {xs : List D} {y : D} (h : s[q]? = some (.lst xs)) (hz : xs.length < sizeLine) (h0 : 0 ≤ a) (h1 : a < 1073741824) : gInsert (.loc q) [.int a, y] s = .ok .non (s.set q (.lst (xs.take a.toNat ++ [y] ++ xs.drop a.toNat))) := by
  unfold gInsert
  simp only [h]
  rw [if_pos ⟨hz, h0, by omega⟩]
theorem seq_len {xs : List D} {d : D} (h : seqOf d s = some xs) : fLen [d] s = some (.int xs.length) := fLen_seq h
theorem any2 {t : Ty} : [Ty.lst, Ty.tup].any (isTy t) = (isTy t .lst || (isTy t .tup || false)) := rfl
theorem tr_pos {n w : Nat} {d : D} (h : Tr P s n w d) : 1 ≤ w := by
  obtain ⟨t, _, _, h⟩ := h
  have := sz_pos t
  omega
theorem trs_len {n w : Nat} {xs : List D} (h : Trs P s n w xs) : xs.length ≤ w := by
  induction h with
  | nil => exact Nat.zero_le _
  | cons h1 _ h3 ih => have := tr_pos h1; rw [List.length_cons]; omega
theorem ixN_in {n : Nat} {k : Int} (h0 : 0 ≤ k) (h1 : k < n) : ixN n k = some k.toNat := by
  unfold ixN
  rw [if_pos h0, if_pos h1]
theorem atI_get {xs : List D} {c : Int} (h0 : 0 ≤ c) (h1 : c < xs.length) : ∃ y, atI xs c = some y ∧ xs[c.toNat]? = some y := by
  have hj : c.toNat < xs.length := by omega
  refine ⟨xs[c.toNat], ?_, List.getElem?_eq_getElem hj⟩
  unfold atI
  rw [ixN_in h0 h1]
  exact List.getElem?_eq_getElem hj
theorem sep_set {q : Nat} {o : Ob} (h : q ∈ P) : Sep P s (s.set q o) := ⟨by simp, fun r _ h2 => List.getElem?_set_ne fun (e : q = r) => h2 (e ▸ h)⟩
theorem bent_ok : ∀ (f k : Nat) (P : List Nat) (s : Sto) (d : D) (n w : Nat), k < f → w ≤ 1000000 → p ∈ P → (∀ q ∈ P, q < s.length) → PoolAt s p → Tr P s n w d →
    ∃ r s', m_law_bent f [.loc p, d, .int k] s = .ok r s' ∧ Tr P s' (n + 4) (2 * w + 60) r ∧ Lk p s s'
  | 0, _, _, _, _, _, _, h, _, _, _, _, _ => absurd h (by omega)
  | f + 1, k, P, s, d, n, w, hf, hw, hpP, hPs, h, ht => by
    obtain ⟨t, hty⟩ := ht.rd.ty
    show ∃ r s', callF 6 3 (b_law_bent (m_law_bent f)) _ s = _ ∧ _
    unfold b_law_bent
    by_cases hl : t = .lst ∨ t = .tup
    · have hany : [Ty.lst, Ty.tup].any (isTy t) = true := by rcases hl with rfl | rfl <;> rfl
      by_cases hk : k = 0
      · subst hk
        obtain ⟨o, s1, e1, t1, k1⟩ := odd_ok (P := P) h
        refine ⟨o, s1, ?_, t1.mono .nil (by omega) (by omega), k1⟩
        push_cast [hty, hany, show decide (((0 : Nat) : Int) = 0) = true from rfl, e1]
      · have hk0 : decide ((k : Int) = 0) = false := decide_eq_false (by omega)
        obtain ⟨j, rfl⟩ : ∃ j, k = j + 1 := ⟨k - 1, by omega⟩
        have ej : ((j + 1 : Nat) : Int) - 1 = (j : Int) := by omega
        obtain ⟨a, s1, e1, a0, a1, k1⟩ := drawn (n := 4) h (by decide) (by decide)
        by_cases ha : a = 0
        · subst ha
          obtain ⟨o, s2, e2, t2, k2⟩ := odd_ok (P := P) k1.pool
          refine ⟨o, s2, ?_, t2.mono .nil (by omega) (by omega), k1.trans k2⟩
          push_cast [hty, hany, hk0, e1, e2]
        · have ha0 : decide (a = 0) = false := decide_eq_false ha
          obtain ⟨m, v, xs, rfl, hv, hseq, hxs⟩ := tr_seq ht hty hl
          have sp1 : Sep P s s1 := k1.sep hpP
          obtain ⟨hs1, hty1, hgl⟩ := hseq s1 sp1
          have hxs1 : Trs P s1 m v xs := hxs.mono sp1 (Nat.le_refl _) (Nat.le_refl _)
          have hp1 := lk_lt k1.pool
          have hlen := trs_len hxs
          rw [finD_f] at hgl
          -- the new list
          have hQ : s1.length ∉ P := fun z => by have := hPs _ z; have := k1.len; omega
          have k2 : Lk p s1 (s1 ++ [Ob.lst xs]) := lk_app k1.pool
          have g2 : (s1 ++ [Ob.lst xs])[s1.length]? = some (.lst xs) := by simp
          have hxs2 : Trs (s1.length :: P) (s1 ++ [Ob.lst xs]) m v xs := by
            refine (hxs1.less fun q h1 h2 => ?_).mono Sep.app (Nat.le_refl _) (Nat.le_refl _)
            rcases List.mem_cons.mp h2 with rfl | h2
            · exact absurd h1 (Nat.lt_irrefl _)
            · exact h2
          generalize hs2 : s1 ++ [Ob.lst xs] = s2 at *
          have l2 : s2.length = s1.length + 1 := by rw [← hs2]; simp
          have hm0 : (if (xs.length : Int) > 1 then (xs.length : Int) else 1) = (max 1 xs.length : Nat) := by
            split <;> omega
          obtain ⟨c, s3, e3, c0, c1, k3⟩ := drawn (n := ((max 1 xs.length : Nat) : Int)) k2.pool (by omega) (by omega)
          obtain ⟨b, s4, e4, b0, b1, k4⟩ := drawn (n := 6) k3.pool (by decide) (by decide)
          have hpq : p ≠ s1.length := by omega
          have k34 := k3.trans k4
          have g4 : s4[s1.length]? = some (.lst xs) := by rw [k34.oth s1.length (by omega) (Ne.symm hpq)]; exact g2
          have l4 : s1.length < s4.length := (List.getElem?_eq_some_iff.mp g4).1
          have hpP' : p ∈ s1.length :: P := List.mem_cons_of_mem _ hpP
          have hxs4 : Trs (s1.length :: P) s4 m v xs := hxs2.mono (k34.sep hpP') (Nat.le_refl _) (Nat.le_refl _)
          have K4 : Lk p s s4 := (k1.trans k2).trans k34
          have hsl : s.length ≤ s1.length := k1.len
          by_cases hB : b = 0 ∨ xs = []
          · obtain ⟨o, s5, e5, t5, k5⟩ := odd_ok (P := s1.length :: P) k4.pool
            have g5 : s5[s1.length]? = some (.lst xs) := by rw [k5.oth s1.length l4 (Ne.symm hpq)]; exact g4
            have i5 := ins_loc (y := o) g5 (Nat.lt_of_lt_of_le (show xs.length < 2000000 by omega) (by decide)) c0 (by omega)
            have g6 : (s5.set s1.length (.lst (xs.take c.toNat ++ [o] ++ xs.drop c.toNat)))[s1.length]? = some (.lst (xs.take c.toNat ++ [o] ++ xs.drop c.toNat)) := List.getElem?_set_self (by have := k5.len; omega)
            have T6 := (((hxs4.mono (k5.sep hpP') (show m ≤ m + 4 by omega) (Nat.le_refl _)).ins c.toNat (t5.mono .nil (show 4 ≤ m + 4 by omega) (Nat.le_refl _))).mono (sep_set (o := .lst (xs.take c.toNat ++ [o] ++ xs.drop c.toNat)) List.mem_cons_self) (Nat.le_refl _) (show v + 60 ≤ 2 * v + 60 by omega))
            have K6 : Lk p s (s5.set s1.length (.lst (xs.take c.toNat ++ [o] ++ xs.drop c.toNat))) := lk_set (K4.trans k5) hsl hpq
            generalize s5.set s1.length (.lst (xs.take c.toNat ++ [o] ++ xs.drop c.toNat)) = s6 at *
            cases hb0 : decide (b = 0) with
            | true =>
              obtain ⟨_, hty6, _⟩ := hseq _ (K6.sep hpP)
              have T7 : Trs P _ (m + 4) (2 * v + 60) _ := T6.less fun q _ hq => List.mem_cons_of_mem _ hq
              rcases hl with rfl | rfl
              · exact ⟨_, _, by push_cast [hty, hany, hk0, e1, ha0, hgl, len_loc g2, hm0, e3, e4, hb0, isLst_loc g4, e5, i5, hty6], (Tr.loc g6 hQ T7).up (by omega) (by omega), K6⟩
              · exact ⟨_, _, by push_cast [hty, hany, hk0, e1, ha0, hgl, len_loc g2, hm0, e3, e4, hb0, isLst_loc g4, e5, i5, hty6, tupX_loc g6], (Tr.tup T7).up (by omega) (by omega), K6⟩
            | false =>
              have hx0 : xs.isEmpty = true := by
                rcases hB with rfl | rfl
                · exact absurd hb0 (by decide)
                · rfl
              obtain ⟨_, hty6, _⟩ := hseq _ (K6.sep hpP)
              have T7 : Trs P _ (m + 4) (2 * v + 60) _ := T6.less fun q _ hq => List.mem_cons_of_mem _ hq
              rcases hl with rfl | rfl
              · exact ⟨_, _, by push_cast [hty, hany, hk0, e1, ha0, hgl, len_loc g2, hm0, e3, e4, hb0, eqX_nilL g4, hx0, isLst_loc g4, e5, i5, hty6], (Tr.loc g6 hQ T7).up (by omega) (by omega), K6⟩
              · exact ⟨_, _, by push_cast [hty, hany, hk0, e1, ha0, hgl, len_loc g2, hm0, e3, e4, hb0, eqX_nilL g4, hx0, isLst_loc g4, e5, i5, hty6, tupX_loc g6], (Tr.tup T7).up (by omega) (by omega), K6⟩
          · have hb0 : decide (b = 0) = false := decide_eq_false fun z => hB (.inl z)
            have hx1 : xs ≠ [] := fun z => hB (.inr z)
            have hx0 : xs.isEmpty = false := by cases xs <;> first | rfl | exact absurd rfl hx1
            have hxl : 1 ≤ xs.length := by
              cases xs with
              | nil => exact absurd rfl hx1
              | cons _ _ => rw [List.length_cons]; omega
            have c2 : c < xs.length := by omega
            obtain ⟨y, hy, hyg⟩ := atI_get c0 c2
            by_cases hb1 : b = 1
            · have p6 := pop_loc (k := c) (j := c.toNat) g4 (by omega) hyg (by omega)
              obtain ⟨_, b', hab, _, _, hera⟩ := hxs4.split hyg
              have g6 : (s4.set s1.length (.lst (xs.eraseIdx c.toNat)))[s1.length]? = some (.lst (xs.eraseIdx c.toNat)) := List.getElem?_set_self l4
              have T6 := hera.mono (sep_set (o := .lst (xs.eraseIdx c.toNat)) List.mem_cons_self) (show m ≤ m + 4 by omega) (show b' ≤ 2 * v + 60 by omega)
              have K6 : Lk p s (s4.set s1.length (.lst (xs.eraseIdx c.toNat))) := lk_set K4 hsl hpq
              generalize s4.set s1.length (.lst (xs.eraseIdx c.toNat)) = s6 at *
              obtain ⟨_, hty6, _⟩ := hseq _ (K6.sep hpP)
              have T7 : Trs P _ (m + 4) (2 * v + 60) _ := T6.less fun q _ hq => List.mem_cons_of_mem _ hq
              rcases hl with rfl | rfl
              · exact ⟨_, _, by push_cast [hty, hany, hk0, e1, ha0, hgl, len_loc g2, hm0, e3, e4, hb0, eqX_nilL g4, hx0, hb1, isLst_loc g4, p6, hty6], (Tr.loc g6 hQ T7).up (by omega) (by omega), K6⟩
              · exact ⟨_, _, by push_cast [hty, hany, hk0, e1, ha0, hgl, len_loc g2, hm0, e3, e4, hb0, eqX_nilL g4, hx0, hb1, isLst_loc g4, p6, hty6, tupX_loc g6], (Tr.tup T7).up (by omega) (by omega), K6⟩
            · have hb1' : decide (b = 1) = false := decide_eq_false hb1
              by_cases hb2 : b = 2
              · obtain ⟨z, s5, e5, z0, z1, k5⟩ := drawn (n := (xs.length : Int)) k4.pool (by omega) (by omega)
                obtain ⟨u, hu, hug⟩ := atI_get z0 z1
                have g5 : s5[s1.length]? = some (.lst xs) := by rw [k5.oth s1.length l4 (Ne.symm hpq)]; exact g4
                have i5 := ins_loc (y := u) g5 (Nat.lt_of_lt_of_le (show xs.length < 2000000 by omega) (by decide)) c0 (by omega)
                have x5 := ix_loc (j := z) g5
                rw [hu] at x5
                have g6 : (s5.set s1.length (.lst (xs.take c.toNat ++ [u] ++ xs.drop c.toNat)))[s1.length]? = some (.lst (xs.take c.toNat ++ [u] ++ xs.drop c.toNat)) := List.getElem?_set_self (by have := k5.len; omega)
                have hxs5 := hxs4.mono (k5.sep hpP') (show m ≤ m + 4 by omega) (Nat.le_refl _)
                have T6 := ((hxs5.ins c.toNat (hxs5.mem (List.mem_of_getElem? hug))).mono (sep_set (o := .lst (xs.take c.toNat ++ [u] ++ xs.drop c.toNat)) List.mem_cons_self) (Nat.le_refl _) (show v + v ≤ 2 * v + 60 by omega))
                have K6 : Lk p s (s5.set s1.length (.lst (xs.take c.toNat ++ [u] ++ xs.drop c.toNat))) := lk_set (K4.trans k5) hsl hpq
                generalize s5.set s1.length (.lst (xs.take c.toNat ++ [u] ++ xs.drop c.toNat)) = s6 at *
                obtain ⟨_, hty6, _⟩ := hseq _ (K6.sep hpP)
                have T7 : Trs P _ (m + 4) (2 * v + 60) _ := T6.less fun q _ hq => List.mem_cons_of_mem _ hq
                rcases hl with rfl | rfl
                · exact ⟨_, _, by push_cast [hty, hany, hk0, e1, ha0, hgl, len_loc g2, hm0, e3, e4, hb0, eqX_nilL g4, hx0, hb1', hb2, isLst_loc g4, len_loc g4, e5, x5, i5, hty6], (Tr.loc g6 hQ T7).up (by omega) (by omega), K6⟩
                · exact ⟨_, _, by push_cast [hty, hany, hk0, e1, ha0, hgl, len_loc g2, hm0, e3, e4, hb0, eqX_nilL g4, hx0, hb1', hb2, isLst_loc g4, len_loc g4, e5, x5, i5, hty6, tupX_loc g6], (Tr.tup T7).up (by omega) (by omega), K6⟩
              · have hb2' : decide (b = 2) = false := decide_eq_false hb2
                obtain ⟨a', b', hab, hya, hset, _⟩ := hxs4.split hyg
                obtain ⟨r, s5, e5, t5, k5⟩ := bent_ok f j (s1.length :: P) s4 y m a' (by omega) (by omega) hpP' (fun q hq => by
                  rcases List.mem_cons.mp hq with rfl | hq
                  · exact l4
                  · have := hPs q hq; omega) k4.pool hya
                have g5 : s5[s1.length]? = some (.lst xs) := by rw [k5.oth s1.length l4 (Ne.symm hpq)]; exact g4
                have x4 := ix_loc (j := c) g4
                rw [hy] at x4
                have i5 := st_loc (v := r) g5 (ixN_in c0 c2)
                have g6 : (s5.set s1.length (.lst (xs.set c.toNat r)))[s1.length]? = some (.lst (xs.set c.toNat r)) := List.getElem?_set_self (by have := k5.len; omega)
                have T6 := (hset s5 (m + 4) (k5.sep hpP') (by omega) r _ t5).mono (sep_set (o := .lst (xs.set c.toNat r)) List.mem_cons_self) (Nat.le_refl _) (show b' + (2 * a' + 60) ≤ 2 * v + 60 by omega)
                have K6 : Lk p s (s5.set s1.length (.lst (xs.set c.toNat r))) := lk_set (K4.trans k5) hsl hpq
                generalize s5.set s1.length (.lst (xs.set c.toNat r)) = s6 at *
                obtain ⟨_, hty6, _⟩ := hseq _ (K6.sep hpP)
                have T7 : Trs P _ (m + 4) (2 * v + 60) _ := T6.less fun q _ hq => List.mem_cons_of_mem _ hq
                rcases hl with rfl | rfl
                · exact ⟨_, _, by push_cast [hty, hany, hk0, e1, ha0, hgl, len_loc g2, hm0, e3, e4, hb0, eqX_nilL g4, hx0, hb1', hb2', x4, ej, e5, i5, hty6], (Tr.loc g6 hQ T7).up (by omega) (by omega), K6⟩
                · exact ⟨_, _, by push_cast [hty, hany, hk0, e1, ha0, hgl, len_loc g2, hm0, e3, e4, hb0, eqX_nilL g4, hx0, hb1', hb2', x4, ej, e5, i5, hty6, tupX_loc g6], (Tr.tup T7).up (by omega) (by omega), K6⟩
    · have hany : [Ty.lst, Ty.tup].any (isTy t) = false := by
        rw [any2]
        have h1 : isTy t .lst = false := by cases t <;> first | rfl | exact absurd (.inl rfl) hl
        have h2 : isTy t .tup = false := by cases t <;> first | rfl | exact absurd (.inr rfl) hl
        rw [h1, h2]; rfl
      obtain ⟨o, s1, e1, t1, k1⟩ := odd_ok (P := P) h
      refine ⟨o, s1, ?_, t1.mono .nil (by omega) (by omega), k1⟩
      push_cast [hty, hany, e1]
end K02
set_option Elab.async false
set_option linter.all false
set_option maxRecDepth 100000
set_option maxHeartbeats 4000000
/-! K02d: what the law asks of a thing; the fixed things. -/
namespace K02
open PySem L2 DL PG
local macro_rules
  | `(tactic| push_cast [$as,*]) => `(tactic| simp only [optR_some, bd_ok, bd_exc, bd_bad, noX_ok, bs_ok, bs_exc, bs_bad, ret_ok, gv_cons, gv_zero, c2Bin_ap, c1Bin_ap, e_bin, c2BinM_ap, c1BinM_ap, e_binM, asB_bl, e_B, cTru_ap, e_Tru, cAndB_t, cAndB_f, e_AndB, cOrB_t, cOrB_f, e_OrB, cNotB_ap, e_NotB, cAnd2_t, cAnd2_f, cAnd_ap, e_And, cOr2_t, cOr2_f, cOr_ap, e_Or, cNot2_ap, cNot_ap, e_Not, cIfE_t, cIfE_f, e_IfE, cCh3_t, cCh3_f, cCh2_ap, cCh1_ap, e_Chain, e_Nil, c2Cons_ap, c1Cons_ap, e_Cons, cTup0, cLst0, cLstL0, cTup1, cLst1, cLstL1, cTup2, cLst2, cLstL2, cTup3, cLst3, cLstL3, cTup4, cLst4, cLstL4, cTup5, cLst5, cLstL5, cTup6, cLst6, cLstL6, cTup7, cLst7, cLstL7, cTup8, cLst8, cLstL8, cTup9, cLst9, cLstL9, cTup10, cLst10, cLstL10, cTup11, cLst11, cLstL11, cTup12, cLst12, cLstL12, cTup13, cLst13, cLstL13, cTup14, cLst14, cLstL14, cTup15, cLst15, cLstL15, cTup16, cLst16, cLstL16, cTup17, cLst17, cLstL17, cTup18, cLst18, cLstL18, cTup19, cLst19, cLstL19, cTup20, cLst20, cLstL20, cTup21, cLst21, cLstL21, cTup22, cLst22, cLstL22, e_Tup, e_Lst, e_LstL, cCB_ap, e_CB, cCM_ap, e_CM, cIsi2_ap, cIsi_ap, e_Isi, cIsiT2_ap, cIsiT_ap, e_IsiT, cNeg_int, e_Neg, cCall0, cCall1, cCall2, cCall3, cCall4, cCall5, cCall6, cCall7, e_Call, asI_int, e_Part, cCut3_ap, cCut2_ap, cCut1_ap, e_Cut, cJoin2_ap, cJoin1_ap, e_Join, cMeth2_ap, cMeth3_t, cMeth1_ap, e_Meth, cIter_ap, e_Iter, e_Rng1, e_Rng2, e_EnumT, cComp2_ap, cComp_ap, e_Comp, cCompX_ap, e_CompX, finD_t, finD_f, wipe_nil, wipe_cons, cmp_nil, cmpx_nil, cmp_cons, cmpx_cons, cCp2_t, cCp2_f, cCp1_ap, cCx2_t, cCx2_f, cCx1_ap, cCp3_0, cCx3_0, cCp3_1, cCx3_1, cCp3_2, cCx3_2, cCp3_3, cCx3_3, cCp3_4, cCx3_4, cCp3_5, cCx3_5, cCp3_6, cCx3_6, cCp3_7, cCx3_7, cSet2_ap, cSet_ap, e_LenSet, cMaxD_ap, e_MaxD, cCnt2_ap, cCnt_ap, e_Count, e_Fld, e_Isx, seqS_nx, seqS_rt, seqS_bk, seqS_ct, seqS_exc, e_seq, e_ret, cExpr_ap, e_expr, cIf_t, cIf_f, e_if, cSetS_nm, cSetS_tp2, cSetS_tp3, e_set, setT_nm, setT_tp2, setT_tp3, optS_some, cSt3_ap, cSt2_ap, cSt1_ap, e_store, cFor_ap, e_for, for_nil, cFor2_nx, cFor2_ct, cFor2_bk, cFor2_rt, cFor2_exc, for_cons1, for_cons2, cRaise0, cRaise1, cRaise2, e_raise, callR_nx, callR_rt, callR_exc, callF_eq, tryK_nx, tryK_rt, e_try, unS_nx, unS_rt, List.map_cons, List.map_nil, List.cons_append, List.nil_append, List.replicate, Nat.reduceSub, List.set_cons_succ, List.set_cons_zero, nAdd_int, nSub_int, nLt_int, nLe_int, nGt_int, nGe_int, fEq_int, fNe_int, fEq_str, fNe_str, nTru_bl, nMax_int, nMin_int, nInt_bl, nIx_lst, nIx_tup, nIx_scr, atI_0, atI_1, Bool.not_true, Bool.not_false, decide_true, decide_false, Option.some.injEq, reduceIte, ty_non, ty_bl, ty_int, ty_str, ty_lst, ty_tup, ty_dct, ty_scr, is_non_non, is_non_bl, is_non_int, is_non_str, is_non_lst, is_non_tup, is_non_dct, is_bl_non, is_bl_bl, is_bl_int, is_bl_str, is_bl_lst, is_bl_tup, is_bl_dct, is_int_non, is_int_bl, is_int_int, is_int_str, is_int_lst, is_int_tup, is_int_dct, is_str_non, is_str_bl, is_str_int, is_str_str, is_str_lst, is_str_tup, is_str_dct, is_lst_non, is_lst_bl, is_lst_int, is_lst_str, is_lst_lst, is_lst_tup, is_lst_dct, is_tup_non, is_tup_bl, is_tup_int, is_tup_str, is_tup_lst, is_tup_tup, is_tup_dct, is_dct_non, is_dct_bl, is_dct_int, is_dct_str, is_dct_lst, is_dct_tup, is_dct_dct, len_t0, len_l0, len_t1, len_l1, len_t2, len_l2, len_t3, len_l3, at_3_2, len_t4, len_l4, at_4_2, at_4_3, len_t5, len_l5, at_5_2, at_5_3, at_5_4, len_t6, len_l6, at_6_2, at_6_3, at_6_4, at_6_5, len_t7, len_l7, at_7_2, at_7_3, at_7_4, at_7_5, at_7_6, len_t8, len_l8, at_8_2, at_8_3, at_8_4, at_8_5, at_8_6, at_8_7, tru_tup, tru_lst, tru_int, tru_non, it_lst, it_tup, it_scr, it_str, isn_non, isnt_non, isn_tup, isnt_tup, isn_lst, isnt_lst, isn_int, isn_str, isnt_int, isnt_str, isn_loc, isnt_loc, isn_exn, isnt_exn, tupX_tup, tupX_lst, lst_tup, lst_lst, inX_2, inX_t2, eqX_nil, isLst_lst, sgn_in, sgn_notIn, all_bls, sum_ints, maxD_ints, Int.reduceAdd, Int.reduceSub, Int.reduceMul, Int.reduceNeg, Int.reduceLT, Int.reduceLE, Int.reduceEq, Int.reduceToNat, Nat.reduceAdd, Nat.reduceMul, Nat.reduceEqDiff, Int.reduceMod, Int.reduceDiv, Bool.or_true, Bool.true_or, Bool.or_false, Bool.false_or, Bool.and_true, Bool.true_and, Bool.and_false, Bool.false_and, ne_number_text, ne_number_choice, ne_number_record, ne_number_list, ne_number_map, ne_text_number, ne_text_choice, ne_text_record, ne_text_list, ne_text_map, ne_choice_number, ne_choice_text, ne_choice_record, ne_choice_list, ne_choice_map, ne_record_number, ne_record_text, ne_record_choice, ne_record_list, ne_record_map, ne_list_number, ne_list_text, ne_list_choice, ne_list_record, ne_list_map, ne_map_number, ne_map_text, ne_map_choice, ne_map_record, ne_map_list, $as,*])
variable {s : Sto} {p : Nat} {P : List Nat}
theorem told_exc {d : D} {q : List D} (la : m_look_at_form [d] s = .exc (NF q) s) : m_law_told [d] s = .ok (.tup q) s := by
  have tk : ∀ lo, tryK (tbl [("NoForm", true)]) 2 (mSet (.nm 1) (getV 2)) (.exc (NF q) lo s) = unsetS 2 (mSet (.nm 1) (getV 2) (lo.set 2 (some (.exn "NoForm" ["place"] [.tup q]))) s) := fun lo => tryK_in (by rfl)
  have x1 : isxR (tbl [("NoForm", true)]) (.exn "NoForm" ["place"] [.tup q]) s = .ok (.bl true) s := isxR_ap (by rfl)
  have x2 : isxR (tbl [("NoForm", false)]) (.exn "NoForm" ["place"] [.tup q]) s = .ok (.bl false) s := isxR_ap (by rfl)
  have x3 : cFld ["NoForm"] "place" (.exn "NoForm" ["place"] [.tup q]) s = .ok (.tup q) s := cFld_ap List.mem_cons_self (by rfl)
  unfold m_law_told b_law_told
  push_cast [la, tk, x1, x2, x3]
theorem told_due {d : D} {n w : Nat} (hw : w ≤ 1000000) (hn : n ≤ 29) (h : Rd s n w d) : ∃ r, m_law_told [d] s = .ok r s ∧ m_law_due [d] s = .ok r s ∧ (r = .non ∨ ∃ q, r = .tup q ∧ PlOk q ∧ q.length ≤ 100) := by
  rcases look_same hw 29 n d [] 1 hn h (fun _ h => nomatch h) (by decide) (by decide) with ⟨a, b, h1, h2, h3⟩ | ⟨q, h1, h2, h3, h4⟩
  · cases hA : decide ((40 : Int) < a) with
    | true =>
      refine ⟨.tup [], ?_, ?_, .inr ⟨[], rfl, (fun _ h => nomatch h), by decide⟩⟩
      · have la : m_look_at_form [d] s = .exc (NF []) s := by
          unfold m_look_at_form b_look_at_form
          push_cast [h1, hA, k_MOST_PARTS, k_MOST_DEEP]
        exact told_exc la
      · unfold m_law_due b_law_due
        push_cast [h2, h3, hA]
    | false =>
      cases hB : decide ((6 : Int) < b) with
      | true =>
        refine ⟨.tup [], ?_, ?_, .inr ⟨[], rfl, (fun _ h => nomatch h), by decide⟩⟩
        · have la : m_look_at_form [d] s = .exc (NF []) s := by
            unfold m_look_at_form b_look_at_form
            push_cast [h1, hA, hB, k_MOST_PARTS, k_MOST_DEEP]
          exact told_exc la
        · unfold m_law_due b_law_due
          push_cast [h2, h3, hA, hB]
      | false =>
        refine ⟨.non, ?_, ?_, .inl rfl⟩
        · have la : m_look_at_form [d] s = .ok .non s := by
            unfold m_look_at_form b_look_at_form
            push_cast [h1, hA, hB, k_MOST_PARTS, k_MOST_DEEP]
          unfold m_law_told b_law_told
          push_cast [la]
        · unfold m_law_due b_law_due
          push_cast [h2, h3, hA, hB]
  · refine ⟨.tup q, ?_, ?_, .inr ⟨q, rfl, h3, h4⟩⟩
    · have la : m_look_at_form [d] s = .exc (NF q) s := by
        unfold m_look_at_form b_look_at_form
        push_cast [h1]
      exact told_exc la
    · unfold m_law_due b_law_due
      push_cast [h2]
theorem pl_tr {n : Nat} : ∀ {q : List D}, PlOk q → Trs P s n (9 * q.length) q
  | [], _ => .nil
  | x :: xs, h => by
    obtain ⟨y, rfl, h1, h2⟩ := h x List.mem_cons_self
    exact .cons (nm_tr h1 h2) (pl_tr fun x hx => h x (List.mem_cons_of_mem _ hx)) (by rw [List.length_cons]; omega)
theorem right_ok {d : D} {n w : Nat} (hw : w ≤ 1000000) (hn : n ≤ 29) (h : Rd s n w d) : m_law_right [d] s = .ok (.bl true) s := by
  obtain ⟨r, h1, h2, h3⟩ := told_due hw hn h
  obtain ⟨t, q1, q2, q3⟩ := h
  have rd := repr_rd (by omega) q1 q2 (by omega)
  have rr : ∃ z, fReprX [r] s = some (.str z) := by
    rcases h3 with rfl | ⟨q, rfl, g1, g2⟩
    · obtain ⟨t, e1, e2, e3⟩ := (Tr.non (p := []) (s := s) (n := 0)).rd
      exact ⟨_, repr_rd (by decide) e1 e2 (by omega)⟩
    · obtain ⟨t, e1, e2, e3⟩ := (Tr.tup (pl_tr (P := []) (s := s) (n := 0) g1)).rd
      exact ⟨_, repr_rd (by decide) e1 e2 (by omega)⟩
  obtain ⟨z, rr⟩ := rr
  unfold m_law_right b_law_right
  push_cast [rd, h1, rr, h2]
def okD : R D → D
  | .ok d _ => d
  | _ => .non
def wideD : D := okD (m_law_wide [.int 0] [])
theorem wide_ok : m_law_wide [.int 0] s = .ok wideD s := by kernel_rfl
def deepD (k : Int) (x : Str) : D := okD (m_law_deep [.int k, .str x] [])
theorem deep6l : m_law_deep [.int 6, .str "list"] s = .ok (deepD 6 "list") s := by kernel_rfl
theorem deep7l : m_law_deep [.int 7, .str "list"] s = .ok (deepD 7 "list") s := by kernel_rfl
theorem deep6r : m_law_deep [.int 6, .str "record"] s = .ok (deepD 6 "record") s := by kernel_rfl
theorem deep7r : m_law_deep [.int 7, .str "record"] s = .ok (deepD 7 "record") s := by kernel_rfl
def shD (k : Int) : D := okD (m_law_shallow [.int k] [])
theorem sh3 : m_law_shallow [.int 3] s = .ok (shD 3) s := by kernel_rfl
theorem sh4 : m_law_shallow [.int 4] s = .ok (shD 4) s := by kernel_rfl
end K02
set_option Elab.async false
set_option linter.all false
set_option maxRecDepth 100000
set_option maxHeartbeats 4000000
/-! K02e: the law gives True. -/
namespace K02
open PySem L2 DL PG
local macro_rules
  | `(tactic| push_cast [$as,*]) => `(tactic| simp only [optR_some, bd_ok, bd_exc, bd_bad, noX_ok, bs_ok, bs_exc, bs_bad, ret_ok, gv_cons, gv_zero, c2Bin_ap, c1Bin_ap, e_bin, c2BinM_ap, c1BinM_ap, e_binM, asB_bl, e_B, cTru_ap, e_Tru, cAndB_t, cAndB_f, e_AndB, cOrB_t, cOrB_f, e_OrB, cNotB_ap, e_NotB, cAnd2_t, cAnd2_f, cAnd_ap, e_And, cOr2_t, cOr2_f, cOr_ap, e_Or, cNot2_ap, cNot_ap, e_Not, cIfE_t, cIfE_f, e_IfE, cCh3_t, cCh3_f, cCh2_ap, cCh1_ap, e_Chain, e_Nil, c2Cons_ap, c1Cons_ap, e_Cons, cTup0, cLst0, cLstL0, cTup1, cLst1, cLstL1, cTup2, cLst2, cLstL2, cTup3, cLst3, cLstL3, cTup4, cLst4, cLstL4, cTup5, cLst5, cLstL5, cTup6, cLst6, cLstL6, cTup7, cLst7, cLstL7, cTup8, cLst8, cLstL8, cTup9, cLst9, cLstL9, cTup10, cLst10, cLstL10, cTup11, cLst11, cLstL11, cTup12, cLst12, cLstL12, cTup13, cLst13, cLstL13, cTup14, cLst14, cLstL14, cTup15, cLst15, cLstL15, cTup16, cLst16, cLstL16, cTup17, cLst17, cLstL17, cTup18, cLst18, cLstL18, cTup19, cLst19, cLstL19, cTup20, cLst20, cLstL20, cTup21, cLst21, cLstL21, cTup22, cLst22, cLstL22, e_Tup, e_Lst, e_LstL, cCB_ap, e_CB, cCM_ap, e_CM, cIsi2_ap, cIsi_ap, e_Isi, cIsiT2_ap, cIsiT_ap, e_IsiT, cNeg_int, e_Neg, cCall0, cCall1, cCall2, cCall3, cCall4, cCall5, cCall6, cCall7, e_Call, asI_int, e_Part, cCut3_ap, cCut2_ap, cCut1_ap, e_Cut, cJoin2_ap, cJoin1_ap, e_Join, cMeth2_ap, cMeth3_t, cMeth1_ap, e_Meth, cIter_ap, e_Iter, e_Rng1, e_Rng2, e_EnumT, cComp2_ap, cComp_ap, e_Comp, cCompX_ap, e_CompX, finD_t, finD_f, wipe_nil, wipe_cons, cmp_nil, cmpx_nil, cmp_cons, cmpx_cons, cCp2_t, cCp2_f, cCp1_ap, cCx2_t, cCx2_f, cCx1_ap, cCp3_0, cCx3_0, cCp3_1, cCx3_1, cCp3_2, cCx3_2, cCp3_3, cCx3_3, cCp3_4, cCx3_4, cCp3_5, cCx3_5, cCp3_6, cCx3_6, cCp3_7, cCx3_7, cSet2_ap, cSet_ap, e_LenSet, cMaxD_ap, e_MaxD, cCnt2_ap, cCnt_ap, e_Count, e_Fld, e_Isx, seqS_nx, seqS_rt, seqS_bk, seqS_ct, seqS_exc, e_seq, e_ret, cExpr_ap, e_expr, cIf_t, cIf_f, e_if, cSetS_nm, cSetS_tp2, cSetS_tp3, e_set, setT_nm, setT_tp2, setT_tp3, optS_some, cSt3_ap, cSt2_ap, cSt1_ap, e_store, cFor_ap, e_for, for_nil, cFor2_nx, cFor2_ct, cFor2_bk, cFor2_rt, cFor2_exc, for_cons1, for_cons2, cRaise0, cRaise1, cRaise2, e_raise, callR_nx, callR_rt, callR_exc, callF_eq, tryK_nx, tryK_rt, e_try, unS_nx, unS_rt, List.map_cons, List.map_nil, List.cons_append, List.nil_append, List.replicate, Nat.reduceSub, List.set_cons_succ, List.set_cons_zero, nAdd_int, nSub_int, nLt_int, nLe_int, nGt_int, nGe_int, fEq_int, fNe_int, fEq_str, fNe_str, nTru_bl, nMax_int, nMin_int, nInt_bl, nIx_lst, nIx_tup, nIx_scr, atI_0, atI_1, Bool.not_true, Bool.not_false, decide_true, decide_false, Option.some.injEq, reduceIte, ty_non, ty_bl, ty_int, ty_str, ty_lst, ty_tup, ty_dct, ty_scr, is_non_non, is_non_bl, is_non_int, is_non_str, is_non_lst, is_non_tup, is_non_dct, is_bl_non, is_bl_bl, is_bl_int, is_bl_str, is_bl_lst, is_bl_tup, is_bl_dct, is_int_non, is_int_bl, is_int_int, is_int_str, is_int_lst, is_int_tup, is_int_dct, is_str_non, is_str_bl, is_str_int, is_str_str, is_str_lst, is_str_tup, is_str_dct, is_lst_non, is_lst_bl, is_lst_int, is_lst_str, is_lst_lst, is_lst_tup, is_lst_dct, is_tup_non, is_tup_bl, is_tup_int, is_tup_str, is_tup_lst, is_tup_tup, is_tup_dct, is_dct_non, is_dct_bl, is_dct_int, is_dct_str, is_dct_lst, is_dct_tup, is_dct_dct, len_t0, len_l0, len_t1, len_l1, len_t2, len_l2, len_t3, len_l3, at_3_2, len_t4, len_l4, at_4_2, at_4_3, len_t5, len_l5, at_5_2, at_5_3, at_5_4, len_t6, len_l6, at_6_2, at_6_3, at_6_4, at_6_5, len_t7, len_l7, at_7_2, at_7_3, at_7_4, at_7_5, at_7_6, len_t8, len_l8, at_8_2, at_8_3, at_8_4, at_8_5, at_8_6, at_8_7, tru_tup, tru_lst, tru_int, tru_non, it_lst, it_tup, it_scr, it_str, isn_non, isnt_non, isn_tup, isnt_tup, isn_lst, isnt_lst, isn_int, isn_str, isnt_int, isnt_str, isn_loc, isnt_loc, isn_exn, isnt_exn, tupX_tup, tupX_lst, lst_tup, lst_lst, inX_2, inX_t2, eqX_nil, isLst_lst, sgn_in, sgn_notIn, all_bls, sum_ints, maxD_ints, Int.reduceAdd, Int.reduceSub, Int.reduceMul, Int.reduceNeg, Int.reduceLT, Int.reduceLE, Int.reduceEq, Int.reduceToNat, Nat.reduceAdd, Nat.reduceMul, Nat.reduceEqDiff, Int.reduceMod, Int.reduceDiv, Bool.or_true, Bool.true_or, Bool.or_false, Bool.false_or, Bool.and_true, Bool.true_and, Bool.and_false, Bool.false_and, ne_number_text, ne_number_choice, ne_number_record, ne_number_list, ne_number_map, ne_text_number, ne_text_choice, ne_text_record, ne_text_list, ne_text_map, ne_choice_number, ne_choice_text, ne_choice_record, ne_choice_list, ne_choice_map, ne_record_number, ne_record_text, ne_record_choice, ne_record_list, ne_record_map, ne_list_number, ne_list_text, ne_list_choice, ne_list_record, ne_list_map, ne_map_number, ne_map_text, ne_map_choice, ne_map_record, ne_map_list, $as,*])
variable {s : Sto} {p : Nat} {P : List Nat}
def moreD : D := .tup [.str "list", .tup [.str "list", wideD]]
def someD : List D := [deepD 6 "list", deepD 7 "list", deepD 6 "record", deepD 7 "record", wideD, moreD] ++ [.tup [.str "map", moreD], .tup [.str "list", .tup [.str "map", moreD]], .tup [.str "choice", .tup [.str "a", .str "b", .str "c", .str "d", .str "e", .str "f"]], .tup [.str "record", .tup []]]
def roomD (d : D) : D := .tup [d, .tup [.str "text"]]
def sevenD : List D := [.tup [.str "choice", .tup (signsD "abcdefg")], .tup [.str "record", .tup ((signsD "abcdefg").map roomD)]] ++ [.tup [.str "record", .tup ((signsD "abcdef").map roomD)], shD 3, shD 4]
theorem some_all : someD.all (grOk 26 20000) = true := by decide +kernel
theorem seven_all : sevenD.all (grOk 26 20000) = true := by decide +kernel
theorem right_gr {d : D} (h : grOk 26 20000 d = true) : m_law_right [d] s = .ok (.bl true) s :=
  right_ok (n := 26) (w := 20000) (by decide) (by decide) ((grOk.tr (P := []) h).mono .nil (Nat.le_refl _) (Nat.le_refl _)).rd
theorem ne_nil : fNe (.lst []) (.lst []) s = some (.bl false) := by
  have e2 : toPy s 64 (.lst []) = some (.list []) := by rw [toPy, toPys]; rfl
  unfold fNe eqP
  rw [if_neg (show ¬ (scal (D.lst []).toV (D.lst []).toV = true) from Bool.false_ne_true), e2]
  simp only
  rw [if_pos (by decide +kernel)]
  rfl
theorem rooms_comp {x : Str} {lo : Lo} (hi : ∀ d, (lo.set 5 (some d))[5]? = some (some d)) (hx : x.length ≤ 100) : compR (.nm 5) (fun _ => DL.ret true) (mTup (mCons (getV 5) (mCons (mTup (mCons (fun _ => DL.ret (.str ("text" : PySem.Str))) mNil)) mNil))) none lo (signsD x) [] s = .ok ((signsD x).map roomD) s := by
  rw [compR_map roomD, List.nil_append]
  · rw [List.length_nil, signs_len]; exact few (by omega)
  · intro d _
    refine ⟨_, rfl, rfl, ?_⟩
    push_cast [getV_at (hi d)]
    rfl
theorem rights_comp {lo : Lo} (hi : ∀ d, (lo.set 6 (some d))[6]? = some (some d)) {xs : List D} (hz : xs.length ≤ 100) (h : ∀ d ∈ xs, m_law_right [d] s = .ok (.bl true) s) : compR (.nm 6) (mNotB (mTru (mCall 1 m_law_right (mCons (getV 6) mNil)))) (getV 6) none lo xs [] s = .ok [] s := by
  rw [compR_filter (fun _ => false) (fun d => d), List.nil_append]
  · simp
  · rw [List.length_nil]; exact few (by omega)
  · intro d hd
    refine ⟨_, rfl, ?_, fun z => by cases z⟩
    push_cast [getV_at (hi d), h d hd]
theorem turn_ok (ns : List Int) (d : D) (ds : List D) (lo : Lo) (s : Sto) (h : (∀ x ∈ d :: ds, ∃ k : Int, x = .int k ∧ 0 ≤ k ∧ k < 1000) ∧ ∃ a5 a6 a7 a8 a9 a10, lo = [some (.scr (ns.map D.int)), some wideD, some moreD, some (.lst someD), some (.lst sevenD), a5, a6, a7, a8, a9, a10]) :
    ∃ l, setT (.nm 7) d lo = some l ∧ ∃ lo' s', ((mSeq (mSet (.nm 8) (mCall 2 (m_law_pool) (mCons (getV 0) (mCons (getV 7) mNil))))
    (mSeq (mSet (.nm 9) (mCall 3 (m_law_record) (mCons (getV 8) (mCons (mCall 2 (m_law_words) (mCons (getV 8) (mCons (fun _ => DL.ret (.int 16)) mNil))) (mCons (mBin fAdd (fun _ => DL.ret (.int 1)) (mCall 2 (m_law_draw) (mCons (getV 8) (mCons (fun _ => DL.ret (.int 4)) mNil)))) mNil)))))
    (mSeq (mSet (.nm 10) (mCall 3 (m_law_bent 9) (mCons (getV 8) (mCons (getV 9) (mCons (fun _ => DL.ret (.int 7)) mNil)))))
    (mFor (.nm 6) (mIter (mLst (mCons (getV 9) (mCons (getV 10) (mCons (mCall 3 (m_law_bent 9) (mCons (getV 8) (mCons (getV 10) (mCons (fun _ => DL.ret (.int 7)) mNil)))) (mCons (mCall 1 (m_law_odd) (mCons (getV 8) mNil)) (mCons (mBin fIx (getV 3) (mCall 2 (m_law_draw) (mCons (getV 8) (mCons (fun _ => DL.ret (.int 10)) mNil)))) mNil))))))) (mIf (mNotB (mTru (mCall 1 (m_law_right) (mCons (getV 6) mNil)))) (mRet (fun _ => DL.ret (.bl false))) .nx))))) l s = .nx lo' s' ∨ (mSeq (mSet (.nm 8) (mCall 2 (m_law_pool) (mCons (getV 0) (mCons (getV 7) mNil))))
    (mSeq (mSet (.nm 9) (mCall 3 (m_law_record) (mCons (getV 8) (mCons (mCall 2 (m_law_words) (mCons (getV 8) (mCons (fun _ => DL.ret (.int 16)) mNil))) (mCons (mBin fAdd (fun _ => DL.ret (.int 1)) (mCall 2 (m_law_draw) (mCons (getV 8) (mCons (fun _ => DL.ret (.int 4)) mNil)))) mNil)))))
    (mSeq (mSet (.nm 10) (mCall 3 (m_law_bent 9) (mCons (getV 8) (mCons (getV 9) (mCons (fun _ => DL.ret (.int 7)) mNil)))))
    (mFor (.nm 6) (mIter (mLst (mCons (getV 9) (mCons (getV 10) (mCons (mCall 3 (m_law_bent 9) (mCons (getV 8) (mCons (getV 10) (mCons (fun _ => DL.ret (.int 7)) mNil)))) (mCons (mCall 1 (m_law_odd) (mCons (getV 8) mNil)) (mCons (mBin fIx (getV 3) (mCall 2 (m_law_draw) (mCons (getV 8) (mCons (fun _ => DL.ret (.int 10)) mNil)))) mNil))))))) (mIf (mNotB (mTru (mCall 1 (m_law_right) (mCons (getV 6) mNil)))) (mRet (fun _ => DL.ret (.bl false))) .nx))))) l s = .ct lo' s') ∧ ((∀ x ∈ ds, ∃ k : Int, x = .int k ∧ 0 ≤ k ∧ k < 1000) ∧ ∃ a5 a6 a7 a8 a9 a10, lo' = [some (.scr (ns.map D.int)), some wideD, some moreD, some (.lst someD), some (.lst sevenD), a5, a6, a7, a8, a9, a10]) := by
  obtain ⟨h1, a5, a6, a7, a8, a9, a10, rfl⟩ := h
  obtain ⟨k, rfl, k0, k1⟩ := h1 d List.mem_cons_self
  obtain ⟨u, v, e1, u0⟩ := pool_new (s := s) (ns := ns) k0 k1
  have P1 : PoolAt (s ++ [Ob.lst [.int u, .int v]]) s.length := ⟨u, v, by simp, u0⟩
  generalize s ++ [Ob.lst [.int u, .int v]] = s1 at *
  generalize s.length = p at *
  obtain ⟨ys, s2, e2, yl, yw, _, k2⟩ := words_ok (n := 16) P1 (by decide)
  obtain ⟨a, s3, e3, a0, a1, k3⟩ := drawn (n := 4) k2.pool (by decide) (by decide)
  have ea : 1 + a = ((1 + a).toNat : Int) := by omega
  obtain ⟨f, s4, e4, t4, k4⟩ := record_ok (P := [p]) (ws := ys.map D.str) (lst_words yw) (k := (1 + a).toNat) (by omega) k3.pool
  rw [← ea] at e4
  have hP : ∀ s' : Sto, PoolAt s' p → ∀ q ∈ [p], q < s'.length := fun s' h q hq => by rw [List.mem_singleton.mp hq]; exact lk_lt h
  obtain ⟨b, s5, e5, t5, k5⟩ := bent_ok 9 7 [p] s4 f 18 80000 (by decide) (by decide) (by simp) (hP _ k4.pool) k4.pool (t4.mono .nil (Nat.le_refl _) (Nat.le_refl _))
  obtain ⟨c, s6, e6, t6, k6⟩ := bent_ok 9 7 [p] s5 b 22 160060 (by decide) (by decide) (by simp) (hP _ k5.pool) k5.pool (t5.up (by decide) (by decide))
  obtain ⟨o, s7, e7, t7, k7⟩ := odd_ok (P := [p]) k6.pool
  obtain ⟨r, s8, e8, r0, r1, k8⟩ := drawn (n := 10) k7.pool (by decide) (by decide)
  obtain ⟨g, e9, hg⟩ := atI_in (l := someD) r0 (show r < (someD.length : Int) from r1)
  have R1 := right_ok (s := s8) (d := f) (n := 26) (w := 800000) (by decide) (by decide) (t4.mono .nil (by decide) (by decide)).rd
  have R2 := right_ok (s := s8) (d := b) (n := 26) (w := 800000) (by decide) (by decide) (t5.mono (((k6.trans k7).trans k8).sep) (by decide) (by decide)).rd
  have R3 := right_ok (s := s8) (d := c) (n := 26) (w := 800000) (by decide) (by decide) (t6.mono ((k7.trans k8).sep) (by decide) (by decide)).rd
  have R4 := right_ok (s := s8) (d := o) (n := 26) (w := 800000) (by decide) (by decide) (t7.mono .nil (by decide) (by decide)).rd
  have R5 : m_law_right [g] s8 = .ok (.bl true) s8 := right_gr (List.all_eq_true.mp some_all g hg)
  have e2 : m_law_words [.loc p, .int 16] s1 = .ok (.lst (ys.map D.str)) s2 := e2
  have e5 : m_law_bent 9 [.loc p, f, .int 7] s4 = .ok b s5 := e5
  have e6 : m_law_bent 9 [.loc p, b, .int 7] s5 = .ok c s6 := e6
  refine ⟨_, rfl, [some (.scr (ns.map D.int)), some wideD, some moreD, some (.lst someD), some (.lst sevenD), a5, some g, some (.int k), some (.loc p), some f, some b], s8, .inl ?_, fun x hx => h1 x (List.mem_cons_of_mem _ hx), _, _, _, _, _, _, rfl⟩
  push_cast [e1, e2, e3, e4, e5, e6, e7, e8, e9, R1, R2, R3, R4, R5]
theorem law_true (ns : List Int) (hl : ns.length ≤ 63) : ∃ st, m_law [.scr (ns.map D.int)] [] = .ok (.bl true) st := by
  have t7 : fTupleX [.str "abcdefg"] [] = some (.tup (signsD "abcdefg")) := rfl
  have c7 := rooms_comp (s := []) (x := "abcdefg") (lo := [some (.scr (ns.map D.int)), some wideD, some moreD, some (.lst someD), none, none, none, none, none, none, none]) (fun _ => rfl) (by decide +kernel)
  have c6 := rooms_comp (s := []) (x := "abcdef") (lo := [some (.scr (ns.map D.int)), some wideD, some moreD, some (.lst someD), some (.lst [.tup [.str "choice", .tup (signsD "abcdefg")], .tup [.str "record", .tup ((signsD "abcdefg").map roomD)]]), none, none, none, none, none, none]) (fun _ => rfl) (by decide +kernel)
  have cr := rights_comp (s := []) (lo := [some (.scr (ns.map D.int)), some wideD, some moreD, some (.lst someD), some (.lst sevenD), none, none, none, none, none, none]) (xs := sevenD) (fun _ => rfl) (by decide) (fun d hd => right_gr (List.all_eq_true.mp seven_all d hd))
  have ad1 : fAdd (.lst [deepD 6 "list", deepD 7 "list", deepD 6 "record", deepD 7 "record", wideD, moreD]) (.lst [.tup [.str "map", moreD], .tup [.str "list", .tup [.str "map", moreD]], .tup [.str "choice", .tup [.str "a", .str "b", .str "c", .str "d", .str "e", .str "f"]], .tup [.str "record", .tup []]]) [] = some (.lst someD) := add_lst (few (by decide))
  have ad2 : fAdd (.lst [.tup [.str "choice", .tup (signsD "abcdefg")], .tup [.str "record", .tup ((signsD "abcdefg").map roomD)]]) (.lst [.tup [.str "record", .tup ((signsD "abcdef").map roomD)], shD 3, shD 4]) [] = some (.lst sevenD) := add_lst (few (by decide))
  have mo : D.tup [.str "list", .tup [.str "list", wideD]] = moreD := rfl
  unfold m_law b_law
  push_cast [wide_ok, mo, deep6l, deep7l, deep6r, deep7r, ad1, t7, c7, c6, sh3, sh4, ad2, cr, ne_nil, len_scr]
  generalize hN : (if (if ((ns.map D.int).length : Int) < 20 then ((ns.map D.int).length : Int) else 20) > 1 then (if ((ns.map D.int).length : Int) < 20 then ((ns.map D.int).length : Int) else 20) else 1) = N
  have hN0 : 0 ≤ N ∧ N ≤ 20 := by rw [← hN]; split <;> (try split) <;> omega
  obtain ⟨lo', s', e, _⟩ := forS_ex (T := .nm 7) (m1 := _) (fun ds lo s => (∀ d ∈ ds, ∃ k : Int, d = .int k ∧ 0 ≤ k ∧ k < 1000) ∧ ∃ a5 a6 a7 a8 a9 a10, lo = [some (.scr (ns.map D.int)), some wideD, some moreD, some (.lst someD), some (.lst sevenD), a5, a6, a7, a8, a9, a10]) (turn_ok ns) (rangeI 0 N) [some (.scr (ns.map D.int)), some wideD, some moreD, some (.lst someD), some (.lst sevenD), none, none, none, none, none, none] [] ⟨fun d hd => let ⟨k, h1, h2, h3⟩ := rangeI_mem hd; ⟨k, h1, h2, by omega⟩, _, _, _, _, _, _, rfl⟩
  refine ⟨s', ?_⟩
  push_cast [range_of hN0.1 (show N ≤ 1000000 by omega), e]
end K02
set_option Elab.async false
set_option linter.all false
open PySem PySem.W PyProof.Rows
set_option maxRecDepth 100000 in
set_option maxHeartbeats 0 in
theorem PySem.Challenge.cw_formsacross_k02_forms_looked_at_holds : PySem.Challenge.rw_formsacross_k02_forms_looked_at.Holds := by
  w_on; o_law; k_head; (case hw => w_witness2)
  k_fill
  refine DL.end_walk (l := PySem.Challenge.rw_formsacross_k02_forms_looked_at) (k := 37) (x := "_law_script") (m := K02.m_law) (c := fun _ mg x => (mg x).getD .none) rfl (by decide) rfl ⟨rfl, by decide, by decide⟩ (fun w h Y => PySem.W.kIn_of Y) ?F K02.law_true
  case F =>
    intro w mg fa h KX G hmg
    refine' K02.all_mk KX G hmg ?a0 ?l0 ?c0 ?k0 ?a1 ?l1 ?c1 ?k1 ?a2 ?l2 ?c2 ?k2 ?a3 ?l3 ?c3 ?k3 ?a4 ?l4 ?c4 ?k4 ?a5 ?l5 ?c5 ?k5 ?a6 ?l6 ?c6 ?k6 ?a7 ?l7 ?c7 ?k7 ?a8 ?l8 ?c8 ?k8 ?a9 ?l9 ?c9 ?k9 ?a10 ?l10 ?c10 ?k10 ?a11 ?l11 ?c11 ?k11 ?a12 ?l12 ?c12 ?k12 ?a13 ?l13 ?c13 ?k13 ?a14 ?l14 ?c14 ?k14 ?a15 ?l15 ?c15 ?k15 ?a16 ?l16 ?c16 ?k16 ?a17 ?l17 ?c17 ?k17 ?a18 ?l18 ?c18 ?k18 ?a19 ?l19 ?c19 ?k19 ?a20 ?l20 ?c20 ?k20 ?a21 ?l21 ?c21 ?k21 ?a22 ?l22 ?c22 ?k22 ?a23 ?l23 ?c23 ?k23 ?q0 ?q1 ?qk1 ?q2 ?q3 ?qk3 ?q4 ?q5 ?q6 ?q7 ?q8 ?z0 ?z1 ?z2 ?z3 ?z4 ?z5 ?z6 ?z7 ?z8 ?z9 ?z10 ?z11 ?z12 ?z13 ?ac_NoDeed ?ac_NoForm ?ac_NoGlass ?ac_NoRecord ?ac_NoRow ?ac_NoStep ?ac_NoText ?ac_Parted ?oc_NoForm ?n_NoForm_place ?vV ?iC_NoForm ?iT_NoForm ?iL_NoForm ?iW_NoForm ?iK_NoForm ?kit_NoForm_NoDeed_NoGlass_NoRecord_NoRow_NoStep_NoText_Parted ?kit_NoForm_ValueError ?exm_NoForm_NoForm
    (case a0 => k_is)
    (case l0 => k_is)
    (case c0 => k_is)
    (case k0 => k_is)
    (case a1 => k_is)
    (case l1 => k_is)
    (case c1 => k_is)
    (case k1 => k_is)
    (case a2 => k_is)
    (case l2 => k_is)
    (case c2 => k_is)
    (case k2 => k_is)
    (case a3 => k_is)
    (case l3 => k_is)
    (case c3 => k_is)
    (case k3 => k_is)
    (case a4 => k_is)
    (case l4 => k_is)
    (case c4 => k_is)
    (case k4 => k_is)
    (case a5 => k_is)
    (case l5 => k_is)
    (case c5 => k_is)
    (case k5 => k_is)
    (case a6 => k_is)
    (case l6 => k_is)
    (case c6 => k_is)
    (case k6 => k_is)
    (case a7 => k_is)
    (case l7 => k_is)
    (case c7 => k_is)
    (case k7 => k_is)
    (case a8 => k_is)
    (case l8 => k_is)
    (case c8 => k_is)
    (case k8 => k_is)
    (case a9 => k_is)
    (case l9 => k_is)
    (case c9 => k_is)
    (case k9 => k_is)
    (case a10 => k_is)
    (case l10 => k_is)
    (case c10 => k_is)
    (case k10 => k_is)
    (case a11 => k_is)
    (case l11 => k_is)
    (case c11 => k_is)
    (case k11 => k_is)
    (case a12 => k_is)
    (case l12 => k_is)
    (case c12 => k_is)
    (case k12 => k_is)
    (case a13 => k_is)
    (case l13 => k_is)
    (case c13 => k_is)
    (case k13 => k_is)
    (case a14 => k_is)
    (case l14 => k_is)
    (case c14 => k_is)
    (case k14 => k_is)
    (case a15 => k_is)
    (case l15 => k_is)
    (case c15 => k_is)
    (case k15 => k_is)
    (case a16 => k_is)
    (case l16 => k_is)
    (case c16 => k_is)
    (case k16 => k_is)
    (case a17 => k_is)
    (case l17 => k_is)
    (case c17 => k_is)
    (case k17 => k_is)
    (case a18 => k_is)
    (case l18 => k_is)
    (case c18 => k_is)
    (case k18 => k_is)
    (case a19 => k_is)
    (case l19 => k_is)
    (case c19 => k_is)
    (case k19 => k_is)
    (case a20 => k_is)
    (case l20 => k_is)
    (case c20 => k_is)
    (case k20 => k_is)
    (case a21 => k_is)
    (case l21 => k_is)
    (case c21 => k_is)
    (case k21 => k_is)
    (case a22 => k_is)
    (case l22 => k_is)
    (case c22 => k_is)
    (case k22 => k_is)
    (case a23 => k_is)
    (case l23 => k_is)
    (case c23 => k_is)
    (case k23 => k_is)
    (case q0 => k_is)
    (case q1 => k_is)
    (case qk1 => k_is)
    (case q2 => k_is)
    (case q3 => k_is)
    (case qk3 => k_is)
    (case q4 => k_is)
    (case q5 => k_is)
    (case q6 => k_is)
    (case q7 => k_is)
    (case q8 => k_is)
    (case z0 => k_is)
    (case z1 => k_is)
    (case z2 => k_is)
    (case z3 => k_is)
    (case z4 => k_is)
    (case z5 => k_is)
    (case z6 => k_is)
    (case z7 => k_is)
    (case z8 => k_is)
    (case z9 => k_is)
    (case z10 => k_is)
    (case z11 => k_is)
    (case z12 => k_is)
    (case z13 => k_is)
    (case ac_NoDeed => k_is)
    (case ac_NoForm => k_is)
    (case ac_NoGlass => k_is)
    (case ac_NoRecord => k_is)
    (case ac_NoRow => k_is)
    (case ac_NoStep => k_is)
    (case ac_NoText => k_is)
    (case ac_Parted => k_is)
    (case oc_NoForm => kernel_rfl)
    (case n_NoForm_place => k_is)
    (case vV => k_is)
    (case iC_NoForm => k_is)
    (case iT_NoForm => k_is)
    (case iL_NoForm => k_is)
    (case iW_NoForm => k_is)
    (case iK_NoForm => k_is)
    (case kit_NoForm_NoDeed_NoGlass_NoRecord_NoRow_NoStep_NoText_Parted => kernel_rfl)
    (case kit_NoForm_ValueError => kernel_rfl)
    (case exm_NoForm_NoForm => kernel_rfl)
