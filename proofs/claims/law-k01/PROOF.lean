import PyProof.Rows.All
import Wide.All
import OpenK.AllK
import Wide.FinOn
import HandS.ForMost
import HandS.Exc
import HandS.ExcOwn
import HandS.WordsExc
import HandS.CallSlots
import HandS.IsInst
import HandS.Flow
import HandS.Iter
import PyProof.ListStr
import HandS.TupAny
import HandS.RaiseMore
import HandS.Ends
import PySem.Challenge.RW_formsacross_k01_words_and_marks
set_option Elab.async false
set_option linter.all false
set_option maxRecDepth 100000
set_option maxHeartbeats 4000000
/-! DLa: data without addresses, how it lies in the heap, what a piece of syntax computes on it. -/
namespace DL
open PySem L2

/-- data: loc n is the n-th object of the store, which may change -/
inductive D where
  | non | bl (b : Bool) | int (i : Int) | str (x : Str)
  | lst (xs : List D) | tup (xs : List D) | dct (ks : List Key) (xs : List D) | loc (n : Nat)
  /-- the script -/
  | scr (xs : List D)

/-- a tuple of the written part -/
def TupK (K : PySem.W.Frag) (a : Addr) (xs : List V) : Prop :=
  ∃ (o : Obj) (its : Array Value) (n : Nat), K.lookup a = some o ∧ o.cls = .type "tuple" ∧ o.data = .seq its n ∧ its.size ≤ sizeLine ∧ Vals xs its.toList

/-- the addresses of the store's objects, in order; and of objects that are being made -/
structure Rg where
  l : List Addr
  t : List Addr
def Rg.has (ρ : Rg) (a : Addr) : Prop := a ∈ ρ.l ∨ a ∈ ρ.t

/-- an object, whether a dict is locked or not -/
def unf : HO → HO
  | .frz _ (.dK kvs) => .dK kvs
  | o => o
def At (H : Hp) (a : Addr) (u : HO) : Prop := ∃ o, H a = some o ∧ unf o = u
theorem At.of {H : Hp} {a : Addr} {o : HO} (h : H a = some o) (hu : unf o = o := by rfl) : At H a o := ⟨o, h, hu⟩
theorem At.lst {H : Hp} {a : Addr} {vs : List V} (h : At H a (.lst vs)) : H a = some (.lst vs) := by
  obtain ⟨o, h, e⟩ := h
  unfold unf at e
  split at e
  · cases e
  · rw [h, e]
theorem At.tup {H : Hp} {a : Addr} {vs : List V} (h : At H a (.tup vs)) : H a = some (.tup vs) := by
  obtain ⟨o, h, e⟩ := h
  unfold unf at e
  split at e
  · cases e
  · rw [h, e]
theorem At.frz {H : Hp} {a : Addr} {o : Obj} {vs : List V} (h : At H a (.frz o (.lst vs))) : H a = some (.frz o (.lst vs)) := by
  obtain ⟨o, h, e⟩ := h
  unfold unf at e
  split at e
  · cases e
  · rw [h, e]
theorem At.dK {H : Hp} {a : Addr} {kvs : List (Key × V)} (h : At H a (.dK kvs)) : Rd H a (.dK kvs) := by
  obtain ⟨o, h, e⟩ := h
  unfold unf at e
  split at e
  · cases e; exact .inr ⟨_, h⟩
  · exact .inl (by rw [h, e])
/-- a list of the written part -/
def LstK (K : PySem.W.Frag) (a : Addr) (xs : List V) : Prop :=
  ∃ (o : Obj) (its : Array Value) (n : Nat), K.lookup a = some o ∧ o.cls = .type "list" ∧ o.dict = none ∧ o.data = .seq its n ∧ its.size ≤ sizeLine ∧ Vals xs its.toList

mutual
def Rep (K : PySem.W.Frag) (ρ : Rg) (H : Hp) : D → V → Prop
  | .non, v => v = .non
  | .bl b, v => v = .bl b
  | .int i, v => v = .int i
  | .str x, v => v = .str x
  | .lst xs, v => ∃ a vs, v = .ref a ∧ At H a (.lst vs) ∧ ¬ ρ.has a ∧ Reps K ρ H xs vs
  | .tup xs, v => ∃ a vs, v = .ref a ∧ ((At H a (.tup vs) ∧ ¬ ρ.has a) ∨ TupK K a vs) ∧ Reps K ρ H xs vs
  | .dct ks xs, v => ∃ a vs, v = .ref a ∧ At H a (.dK (ks.zip vs)) ∧ ks.length = vs.length ∧ ¬ ρ.has a ∧ Reps K ρ H xs vs
  | .loc n, v => ∃ a, v = .ref a ∧ ρ.l[n]? = some a
  | .scr xs, v => ∃ a vs, v = .ref a ∧ ((∃ o, At H a (.frz o (.lst vs)) ∧ ¬ ρ.has a) ∨ LstK K a vs) ∧ Reps K ρ H xs vs
def Reps (K : PySem.W.Frag) (ρ : Rg) (H : Hp) : List D → List V → Prop
  | [], vs => vs = []
  | x :: xs, vs => ∃ v r, vs = v :: r ∧ Rep K ρ H x v ∧ Reps K ρ H xs r
end

/-- an object that may change -/
inductive Ob where
  | lst (xs : List D) | dct (ks : List Key) (xs : List D)
abbrev Sto := List Ob

def RepO (K : PySem.W.Frag) (ρ : Rg) (H : Hp) (a : Addr) : Ob → Prop
  | .lst xs => ∃ vs, H a = some (.lst vs) ∧ Reps K ρ H xs vs
  | .dct ks xs => ∃ vs, H a = some (.dK (ks.zip vs)) ∧ ks.length = vs.length ∧ Reps K ρ H xs vs
structure RepS (K : PySem.W.Frag) (ρ : Rg) (H : Hp) (s : Sto) : Prop where
  len : s.length = ρ.l.length
  nd : ρ.l.Nodup
  obj : ∀ (n : Nat) a ob, ρ.l[n]? = some a → s[n]? = some ob → RepO K ρ H a ob
  tmp : ∀ a ∈ ρ.t, H a ≠ none ∧ a ∉ ρ.l

/-- what was stays, but the store's objects -/
structure Ext (ρ : Rg) (H : Hp) (ρ' : Rg) (H' : Hp) : Prop where
  pre : ∃ e, ρ'.l = ρ.l ++ e
  tm : ρ'.t = ρ.t
  keep : ∀ a o, H a = some o → a ∉ ρ.l → H' a = some o
  new : ∀ a, a ∈ ρ'.l → a ∈ ρ.l ∨ H a = none
  dom : ∀ a, H' a = none → H a = none
theorem Ext.refl {ρ : Rg} {H : Hp} : Ext ρ H ρ H := ⟨⟨[], by simp⟩, rfl, fun _ _ h _ => h, fun _ h => .inl h, fun _ h => h⟩
theorem Ext.trans {ρ ρ1 ρ2 : Rg} {H H1 H2 : Hp} (a : Ext ρ H ρ1 H1) (b : Ext ρ1 H1 ρ2 H2) : Ext ρ H ρ2 H2 := by
  obtain ⟨e1, p1⟩ := a.pre
  obtain ⟨e2, p2⟩ := b.pre
  refine ⟨⟨e1 ++ e2, by rw [p2, p1, List.append_assoc]⟩, b.tm.trans a.tm, fun x o h hn => ?_, fun x hx => ?_, fun x h => a.dom _ (b.dom _ h)⟩
  · refine b.keep x o (a.keep x o h hn) fun hm => ?_
    rcases a.new x hm with h1 | h1
    · exact hn h1
    · rw [h1] at h; cases h
  · rcases b.new x hx with h1 | h1
    · exact a.new x h1
    · exact .inr (a.dom x h1)
theorem Ext.get {ρ ρ' : Rg} {H H' : Hp} (e : Ext ρ H ρ' H') {n : Nat} {a : Addr} (h : ρ.l[n]? = some a) : ρ'.l[n]? = some a := by
  obtain ⟨x, hx⟩ := e.pre
  rw [hx, List.getElem?_append_left (List.getElem?_eq_some_iff.mp h).1]
  exact h
theorem At.ne {H : Hp} {a : Addr} {o : HO} (h : At H a o) : H a ≠ none := by
  obtain ⟨_, h, _⟩ := h
  rw [h]; exact fun z => by cases z
theorem Ext.rd {ρ ρ' : Rg} {H H' : Hp} (e : Ext ρ H ρ' H') {a : Addr} {o : HO} (h : At H a o) (hn : ¬ ρ.has a) : At H' a o ∧ ¬ ρ'.has a := by
  have hl : a ∉ ρ.l := fun z => hn (.inl z)
  refine ⟨?_, fun hm => ?_⟩
  · obtain ⟨u, h, hu⟩ := h
    exact ⟨u, e.keep _ _ h hl, hu⟩
  · rcases hm with hm | hm
    · rcases e.new a hm with h1 | h1
      · exact hl h1
      · exact At.ne h h1
    · rw [e.tm] at hm
      exact hn (.inr hm)
mutual
theorem Rep.mono {K : PySem.W.Frag} {ρ ρ' : Rg} {H H' : Hp} (hf : ∀ a o, At H a o → ¬ ρ.has a → At H' a o ∧ ¬ ρ'.has a) (hg : ∀ (n : Nat) (a : Addr), ρ.l[n]? = some a → ρ'.l[n]? = some a) : ∀ (d : D) (v : V), Rep K ρ H d v → Rep K ρ' H' d v
  | .non, _, h => h
  | .bl _, _, h => h
  | .int _, _, h => h
  | .str _, _, h => h
  | .lst xs, _, h => by
    obtain ⟨a, vs, rfl, h1, h2, h3⟩ := h
    obtain ⟨q1, q2⟩ := hf _ _ h1 h2
    exact ⟨a, vs, rfl, q1, q2, Reps.mono hf hg xs vs h3⟩
  | .tup xs, _, h => by
    obtain ⟨a, vs, rfl, h1, h3⟩ := h
    refine ⟨a, vs, rfl, ?_, Reps.mono hf hg xs vs h3⟩
    rcases h1 with ⟨h1, h2⟩ | h1
    · exact .inl (hf _ _ h1 h2)
    · exact .inr h1
  | .dct ks xs, _, h => by
    obtain ⟨a, vs, rfl, h1, hl, h2, h3⟩ := h
    obtain ⟨q1, q2⟩ := hf _ _ h1 h2
    exact ⟨a, vs, rfl, q1, hl, q2, Reps.mono hf hg xs vs h3⟩
  | .loc n, _, h => by
    obtain ⟨a, rfl, h⟩ := h
    exact ⟨a, rfl, hg _ _ h⟩
  | .scr xs, _, h => by
    obtain ⟨a, vs, rfl, h1, h3⟩ := h
    refine ⟨a, vs, rfl, ?_, Reps.mono hf hg xs vs h3⟩
    rcases h1 with ⟨o, h1, h2⟩ | h1
    · exact .inl ⟨o, hf _ _ h1 h2⟩
    · exact .inr h1
theorem Reps.mono {K : PySem.W.Frag} {ρ ρ' : Rg} {H H' : Hp} (hf : ∀ a o, At H a o → ¬ ρ.has a → At H' a o ∧ ¬ ρ'.has a) (hg : ∀ (n : Nat) (a : Addr), ρ.l[n]? = some a → ρ'.l[n]? = some a) : ∀ (ds : List D) (vs : List V), Reps K ρ H ds vs → Reps K ρ' H' ds vs
  | [], _, h => h
  | x :: xs, _, h => by
    obtain ⟨v, r, rfl, h1, h2⟩ := h
    exact ⟨v, r, rfl, Rep.mono hf hg x v h1, Reps.mono hf hg xs r h2⟩
end
theorem Rep.ext {K : PySem.W.Frag} {ρ ρ' : Rg} {H H' : Hp} (e : Ext ρ H ρ' H') {d : D} {v : V} (h : Rep K ρ H d v) : Rep K ρ' H' d v := Rep.mono (fun _ _ => e.rd) (fun _ _ => e.get) d v h
theorem Reps.ext {K : PySem.W.Frag} {ρ ρ' : Rg} {H H' : Hp} (e : Ext ρ H ρ' H') {ds : List D} {vs : List V} (h : Reps K ρ H ds vs) : Reps K ρ' H' ds vs := Reps.mono (fun _ _ => e.rd) (fun _ _ => e.get) ds vs h

section
variable {K : PySem.W.Frag} {ρ : Rg} {H : Hp} {s : Sto}
theorem Reps.length : ∀ {ds : List D} {vs : List V}, Reps K ρ H ds vs → ds.length = vs.length
  | [], _, h => by cases h; rfl
  | _ :: _, _, h => by
    obtain ⟨v, r, rfl, _, h2⟩ := h
    rw [List.length_cons, List.length_cons, Reps.length h2]
theorem Reps.get : ∀ {ds : List D} {vs : List V} {i : Nat} {d : D}, Reps K ρ H ds vs → ds[i]? = some d → ∃ v, vs[i]? = some v ∧ Rep K ρ H d v
  | [], _, _, _, _, e => by simp at e
  | _ :: _, _, 0, _, h, e => by
    obtain ⟨v, r, rfl, h1, _⟩ := h
    simp at e; subst e
    exact ⟨v, rfl, h1⟩
  | _ :: _, _, i + 1, _, h, e => by
    obtain ⟨v, r, rfl, _, h2⟩ := h
    obtain ⟨u, q1, q2⟩ := Reps.get (i := i) h2 (by simpa using e)
    exact ⟨u, by simpa using q1, q2⟩
theorem Reps.append : ∀ {ds es : List D} {vs us : List V}, Reps K ρ H ds vs → Reps K ρ H es us → Reps K ρ H (ds ++ es) (vs ++ us)
  | [], _, _, _, h, h' => by cases h; exact h'
  | _ :: _, _, _, _, h, h' => by
    obtain ⟨v, r, rfl, h1, h2⟩ := h
    exact ⟨v, _, rfl, h1, Reps.append h2 h'⟩
theorem Reps.set : ∀ {ds : List D} {vs : List V} {d : D} {v : V} (i : Nat), Reps K ρ H ds vs → Rep K ρ H d v → Reps K ρ H (ds.set i d) (vs.set i v)
  | [], _, _, _, _, h, _ => by cases h; rfl
  | _ :: _, _, _, _, 0, h, h' => by
    obtain ⟨v, r, rfl, h1, h2⟩ := h
    exact ⟨_, _, rfl, h', h2⟩
  | _ :: _, _, _, _, i + 1, h, h' => by
    obtain ⟨v, r, rfl, h1, h2⟩ := h
    exact ⟨_, _, rfl, h1, Reps.set i h2 h'⟩
theorem Reps.drop : ∀ {ds : List D} {vs : List V} (i : Nat), Reps K ρ H ds vs → Reps K ρ H (ds.drop i) (vs.drop i)
  | _, _, 0, h => h
  | [], _, _ + 1, h => by cases h; rfl
  | _ :: _, _, i + 1, h => by
    obtain ⟨v, r, rfl, h1, h2⟩ := h
    exact Reps.drop i h2
theorem Reps.take : ∀ {ds : List D} {vs : List V} (i : Nat), Reps K ρ H ds vs → Reps K ρ H (ds.take i) (vs.take i)
  | _, _, 0, _ => rfl
  | [], _, _ + 1, h => by cases h; rfl
  | _ :: _, _, i + 1, h => by
    obtain ⟨v, r, rfl, h1, h2⟩ := h
    exact ⟨_, _, rfl, h1, Reps.take i h2⟩
theorem Rep.sqL {xs : List D} {v : V} (h : Rep K ρ H (.lst xs) v) : ∃ a vs, v = .ref a ∧ SqL K H a vs ∧ Reps K ρ H xs vs := by
  obtain ⟨a, vs, rfl, h1, h2, h3⟩ := h
  exact ⟨a, vs, rfl, SqL.of h1.lst, h3⟩
theorem Rep.scrL {xs : List D} {v : V} (h : Rep K ρ H (.scr xs) v) : ∃ a vs, v = .ref a ∧ SqL K H a vs ∧ Reps K ρ H xs vs := by
  obtain ⟨a, vs, rfl, h1, h3⟩ := h
  refine ⟨a, vs, rfl, ?_, h3⟩
  rcases h1 with ⟨o, h1, _⟩ | h1
  · exact .inl (.inr ⟨o, h1.frz⟩)
  · exact .inr h1
theorem Rep.sqT {xs : List D} {v : V} (h : Rep K ρ H (.tup xs) v) : ∃ a vs, v = .ref a ∧ SqT K H a vs ∧ Reps K ρ H xs vs := by
  obtain ⟨a, vs, rfl, h1, h3⟩ := h
  refine ⟨a, vs, rfl, ?_, h3⟩
  rcases h1 with ⟨h1, _⟩ | h1
  · exact SqT.of h1.tup
  · exact .inr h1
theorem RepS.at (r : RepS K ρ H s) {n : Nat} {a : Addr} (h : ρ.l[n]? = some a) : ∃ ob, s[n]? = some ob ∧ RepO K ρ H a ob := by
  have hl : n < s.length := by rw [r.len]; exact (List.getElem?_eq_some_iff.mp h).1
  exact ⟨s[n], List.getElem?_eq_getElem hl, r.obj n a _ h (List.getElem?_eq_getElem hl)⟩
theorem RepO.some' {a : Addr} {ob : Ob} (h : RepO K ρ H a ob) : H a ≠ none := by
  cases ob with
  | lst xs => obtain ⟨vs, e, _⟩ := h; rw [e]; exact fun z => by cases z
  | dct ks xs => obtain ⟨vs, e, _⟩ := h; rw [e]; exact fun z => by cases z
theorem RepS.mem (r : RepS K ρ H s) {a : Addr} (h : a ∈ ρ.l) : H a ≠ none := by
  obtain ⟨n, hn⟩ := List.getElem?_of_mem h
  obtain ⟨ob, _, q⟩ := r.at hn
  exact q.some'
theorem RepS.nil : RepS K ⟨[], []⟩ H [] := ⟨rfl, List.nodup_nil, fun n a ob h => by simp at h, fun a h => by cases h⟩
theorem RepS.fresh (r : RepS K ρ H s) {p : Addr} (h : H p = none) : ¬ ρ.has p := fun hm => hm.elim (fun hm => r.mem hm h) fun hm => (r.tmp p hm).1 h
theorem upd_none {H : Hp} {a p : Addr} {o : HO} (e : upd H p o a = none) : H a = none := by
  unfold upd at e
  split at e
  · cases e
  · exact e
theorem upd_some {H : Hp} {a p : Addr} {o : HO} (e : H a ≠ none) : upd H p o a ≠ none := fun z => e (upd_none z)
/-- a new object that doesn't change -/
theorem Ext.alloc {p : Addr} {o : HO} (h : H p = none) : Ext ρ H ρ (upd H p o) :=
  ⟨⟨[], by simp⟩, rfl, fun a u e _ => by rw [upd_ne (ne_of_none e h)]; exact e, fun a h => .inl h, fun a e => upd_none e⟩
theorem RepO.mono {ρ' : Rg} {H' : Hp} (hf : ∀ a o, At H a o → ¬ ρ.has a → At H' a o ∧ ¬ ρ'.has a) (hg : ∀ (n : Nat) (a : Addr), ρ.l[n]? = some a → ρ'.l[n]? = some a) {a : Addr} {ob : Ob} (h : RepO K ρ H a ob) (ha : H' a = H a) : RepO K ρ' H' a ob := by
  cases ob with
  | lst xs => obtain ⟨vs, q, h2⟩ := h; exact ⟨vs, by rw [ha]; exact q, Reps.mono hf hg _ _ h2⟩
  | dct ks xs => obtain ⟨vs, q, hl, h2⟩ := h; exact ⟨vs, by rw [ha]; exact q, hl, Reps.mono hf hg _ _ h2⟩
theorem RepS.alloc (r : RepS K ρ H s) {p : Addr} {o : HO} (h : H p = none) : RepS K ρ (upd H p o) s :=
  ⟨r.len, r.nd, fun n a ob h1 h2 => (r.obj n a ob h1 h2).mono (fun _ _ => (Ext.alloc h).rd) (fun _ _ z => z) (upd_ne fun z => r.mem (List.mem_of_getElem? h1) (by rw [z]; exact h)), fun a ha => ⟨upd_some (r.tmp a ha).1, (r.tmp a ha).2⟩⟩
/-- a new object of the store -/
theorem Ext.allocL {p : Addr} {o : HO} (h : H p = none) : Ext ρ H ⟨ρ.l ++ [p], ρ.t⟩ (upd H p o) := by
  refine ⟨⟨[p], rfl⟩, rfl, fun a u e _ => by rw [upd_ne (ne_of_none e h)]; exact e, fun a hm => ?_, fun a e => upd_none e⟩
  rcases List.mem_append.mp hm with hm | hm
  · exact .inl hm
  · rw [List.mem_singleton.mp hm]; exact .inr h
theorem RepS.allocO (r : RepS K ρ H s) {p : Addr} {o : HO} {ob : Ob} (h : H p = none) (q : RepO K ⟨ρ.l ++ [p], ρ.t⟩ (upd H p o) p ob) : RepS K ⟨ρ.l ++ [p], ρ.t⟩ (upd H p o) (s ++ [ob]) := by
  have e := Ext.allocL (ρ := ρ) (o := o) h
  refine ⟨by simp [r.len], ?_, fun n a ob' h1 h2 => ?_, fun a ha => ⟨upd_some (r.tmp a ha).1, fun hm => ?_⟩⟩
  · show (ρ.l ++ [p]).Nodup
    rw [List.nodup_append]
    refine ⟨r.nd, by simp, fun a ha b hb => ?_⟩
    rw [List.mem_singleton.mp hb]
    exact fun z => r.mem ha (by rw [z]; exact h)
  · by_cases hn : n < ρ.l.length
    · have h1 : (ρ.l ++ [p])[n]? = some a := h1
      rw [List.getElem?_append_left hn] at h1
      rw [List.getElem?_append_left (by rw [r.len]; exact hn)] at h2
      exact (r.obj n a ob' h1 h2).mono (fun _ _ => e.rd) (fun _ _ => e.get) (upd_ne fun z => r.mem (List.mem_of_getElem? h1) (by rw [z]; exact h))
    · have h1 : (ρ.l ++ [p])[n]? = some a := h1
      have hn' : n = ρ.l.length := by
        have := (List.getElem?_eq_some_iff.mp h1).1
        simp at this; omega
      subst hn'
      rw [List.getElem?_append_right (Nat.le_refl _)] at h1
      rw [List.getElem?_append_right (by rw [r.len]; exact Nat.le_refl _)] at h2
      simp [r.len] at h1 h2
      subst h1 h2
      exact q
  · rcases List.mem_append.mp hm with hm | hm
    · exact (r.tmp a ha).2 hm
    · exact (r.tmp a ha).1 (by rw [List.mem_singleton.mp hm]; exact h)
theorem RepS.allocL (r : RepS K ρ H s) {p : Addr} {vs : List V} {ds : List D} (h : H p = none) (q : Reps K ρ H ds vs) : RepS K ⟨ρ.l ++ [p], ρ.t⟩ (upd H p (.lst vs)) (s ++ [.lst ds]) :=
  r.allocO h ⟨vs, upd_same, Reps.ext (Ext.allocL h) q⟩
/-- an object of the store is changed -/
theorem Ext.write {n : Nat} {a : Addr} {o : HO} (h : ρ.l[n]? = some a) : Ext ρ H ρ (upd H a o) :=
  ⟨⟨[], by simp⟩, rfl, fun b u e hb => by rw [upd_ne fun z => hb (by rw [z]; exact List.mem_of_getElem? h)]; exact e, fun a h => .inl h, fun b e => upd_none e⟩
theorem nodup_ixA {l : List Addr} (nd : l.Nodup) {i j : Nat} {x : Addr} (a : l[i]? = some x) (b : l[j]? = some x) : i = j := by
  exact (List.getElem?_inj (List.getElem?_eq_some_iff.mp a).1 nd).mp (a.trans b.symm)
theorem RepS.writeO (r : RepS K ρ H s) {n : Nat} {a : Addr} {o : HO} {ob : Ob} (h : ρ.l[n]? = some a) (q : RepO K ρ (upd H a o) a ob) : RepS K ρ (upd H a o) (s.set n ob) := by
  have e := Ext.write (H := H) (o := o) h
  refine ⟨by simp [r.len], r.nd, fun m b ob' h1 h2 => ?_, fun b hb => ⟨upd_some (r.tmp b hb).1, (r.tmp b hb).2⟩⟩
  by_cases hm : n = m
  · subst hm
    rw [h] at h1; cases h1
    rw [List.getElem?_set_self (by rw [r.len]; exact (List.getElem?_eq_some_iff.mp h).1)] at h2
    cases h2
    exact q
  · rw [List.getElem?_set_ne hm] at h2
    refine (r.obj m b ob' h1 h2).mono (fun _ _ => e.rd) (fun _ _ => e.get) (upd_ne fun z => hm ?_)
    exact nodup_ixA r.nd h (by rw [h1, z])
theorem RepS.write (r : RepS K ρ H s) {n : Nat} {a : Addr} {vs : List V} {ds : List D} (h : ρ.l[n]? = some a) (q : Reps K ρ H ds vs) : RepS K ρ (upd H a (.lst vs)) (s.set n (.lst ds)) :=
  r.writeO h ⟨vs, upd_same, Reps.ext (Ext.write h) q⟩
end
end DL
set_option Elab.async false
set_option linter.all false
set_option maxRecDepth 100000
set_option maxHeartbeats 4000000
/-! DLb: what a piece of syntax computes on data; the judgements and the rules for expressions. -/
namespace DL
open PySem L2
abbrev Lo := List (Option D)
structure Xn where
  cls : Str
  ns : List Str
  ds : List D
inductive R (α : Type) where
  | ok (a : α) (s : Sto)
  | exc (x : Xn) (s : Sto)
  | bad
abbrev M (α : Type) := Sto → R α
def R.bind {α β : Type} : R α → (α → M β) → R β
  | .ok a s, f => f a s
  | .exc x s, _ => .exc x s
  | .bad, _ => .bad
def ret {α : Type} (a : α) : M α := fun s => .ok a s
def liftP {α : Type} (g : Sto → Option α) : M α := fun s => match g s with
  | some d => .ok d s
  | none => .bad
/-- a class's name to its value -/
abbrev ClsM := Str → Value

def RepX (K : PySem.W.Frag) (c : ClsM) (ρ : Rg) (H : Hp) (v : Value) (dd : Option Addr) (x : Xn) : Prop :=
  v = c x.cls ∧ match dd with
    | none => x.ns = [] ∧ x.ds = []
    | some d => ∃ vs, H d = some (.xd (x.ns.zip vs)) ∧ x.ns.length = vs.length ∧ Reps K ρ H x.ds vs
structure RepLo (K : PySem.W.Frag) (ρ : Rg) (H : Hp) (σ : St) (lo : Lo) : Prop where
  len : σ.length = lo.length
  get : ∀ (i : Nat) d, lo[i]? = some (some d) → ∃ v, σ[i]? = some (some v) ∧ Rep K ρ H d v
theorem RepLo.ext {K : PySem.W.Frag} {ρ ρ' : Rg} {H H' : Hp} {σ : St} {lo : Lo} (e : Ext ρ H ρ' H') (r : RepLo K ρ H σ lo) : RepLo K ρ' H' σ lo :=
  ⟨r.len, fun i d h => let ⟨v, h1, h2⟩ := r.get i d h; ⟨v, h1, h2.ext e⟩⟩
theorem RepLo.set {K : PySem.W.Frag} {ρ : Rg} {H : Hp} {σ : St} {lo : Lo} {d : D} {v : V} (r : RepLo K ρ H σ lo) (i : Nat) (h : Rep K ρ H d v) : RepLo K ρ H (σ.set i (some v)) (lo.set i (some d)) := by
  refine ⟨by simp [r.len], fun j e hj => ?_⟩
  by_cases hi : i = j
  · subst hi
    by_cases hl : i < lo.length
    · rw [List.getElem?_set_self hl] at hj
      cases hj
      exact ⟨v, by rw [List.getElem?_set_self (by rw [r.len]; exact hl)], h⟩
    · rw [List.getElem?_eq_none (by simp; omega)] at hj
      cases hj
  · rw [List.getElem?_set_ne hi] at hj ⊢
    exact r.get j e hj
theorem RepLo.setNone {K : PySem.W.Frag} {ρ : Rg} {H : Hp} {σ : St} {lo : Lo} (r : RepLo K ρ H σ lo) (i : Nat) (x : Option V) : RepLo K ρ H (σ.set i x) (lo.set i none) := by
  refine ⟨by simp [r.len], fun j e hj => ?_⟩
  by_cases hi : i = j
  · subst hi
    by_cases hl : i < lo.length
    · rw [List.getElem?_set_self hl] at hj; cases hj
    · rw [List.getElem?_eq_none (by simp; omega)] at hj
      cases hj
  · rw [List.getElem?_set_ne hi] at hj ⊢
    exact r.get j e hj

abbrev RepT (α β : Type) := Rg → Hp → α → β → Prop
def rD (K : PySem.W.Frag) : RepT D V := fun ρ H d v => Rep K ρ H d v
def rDs (K : PySem.W.Frag) : RepT (List D) (List V) := fun ρ H d v => Reps K ρ H d v
def rB : RepT Bool Bool := fun _ _ a b => a = b

section
variable {K : PySem.W.Frag} {c : ClsM} {W : WX} {σ : St} {ρ ρ1 : Rg} {H H1 : Hp} {α β α' β' : Type} {rep : RepT α β} {rep' : RepT α' β'}
def okR (K : PySem.W.Frag) (c : ClsM) (W : WX) (σ : St) (ρ : Rg) (H : Hp) {α β : Type} (rep : RepT α β) (Q : β → Hp → Prop) : R α → Prop
  | .ok a s' => ∀ b ρ' H', Ext ρ H ρ' H' → rep ρ' H' a b → RepS K ρ' H' s' → Q b H'
  | .exc x s' => ∀ v dd ρ' H', Ext ρ H ρ' H' → RepX K c ρ' H' v dd x → RepS K ρ' H' s' → W v dd σ H'
  | .bad => False
theorem okR.mono {Q : β → Hp → Prop} {r : R α} (e : Ext ρ H ρ1 H1) (h : okR K c W σ ρ H rep Q r) : okR K c W σ ρ1 H1 rep Q r := by
  cases r with
  | ok a s => exact fun b ρ' H' e' => h b ρ' H' (e.trans e')
  | exc x s => exact fun v dd ρ' H' e' => h v dd ρ' H' (e.trans e')
  | bad => exact h
theorem okR.imp {Q Q' : β → Hp → Prop} {r : R α} (h : okR K c W σ ρ H rep Q r) (q : ∀ b H, Q b H → Q' b H) : okR K c W σ ρ H rep Q' r := by
  cases r with
  | ok a s => exact fun b ρ' H' e' h1 h2 => q _ _ (h b ρ' H' e' h1 h2)
  | exc x s => exact h
  | bad => exact h
/-- behind a first part: what is known there, and what is left -/
theorem okR.bind {Q : β' → Hp → Prop} {r : R α} {f : α → M α'} (h : okR K c W σ ρ H rep' Q (r.bind f)) :
    okR K c W σ ρ H rep (fun b H1 => ∃ ρ1 s1 a, Ext ρ H ρ1 H1 ∧ RepS K ρ1 H1 s1 ∧ rep ρ1 H1 a b ∧ okR K c W σ ρ1 H1 rep' Q (f a s1)) r := by
  cases r with
  | ok a s => exact fun b ρ' H' e' rb rs => ⟨ρ', s, a, e', rs, rb, okR.mono e' h⟩
  | exc x s => exact h
  | bad => exact h
end

/-- the reading that a meaning gives -/
def tG (K : PySem.W.Frag) (c : ClsM) (W : WX) {α β : Type} (rep : RepT α β) (m : Lo → M α) : St → Hp → (β → Hp → Prop) → Prop := fun σ H Q =>
  ∃ ρ lo s, RepLo K ρ H σ lo ∧ RepS K ρ H s ∧ okR K c W σ ρ H rep Q (m lo s)
abbrev tM (K : PySem.W.Frag) (c : ClsM) (W : WX) (m : Lo → M D) : TE := tG K c W (rD K) m
abbrev tMB (K : PySem.W.Frag) (c : ClsM) (W : WX) (m : Lo → M Bool) : TT := tG K c W rB m
abbrev tMA (K : PySem.W.Frag) (c : ClsM) (W : WX) (m : Lo → M (List D)) : TA := tG K c W (rDs K) m

theorem PE_imp {X : Cx} {e : Expr} {t t' : TE} (h : PE X e t) (q : ∀ σ H Q, t' σ H Q → t σ H Q) : PE X e t' := ⟨fun pins s σ H Q I hw => h.run pins s σ H Q I (q σ H Q hw)⟩
theorem PT_imp {X : Cx} {e : Expr} {t t' : TT} (h : PT X e t) (q : ∀ σ H Q, t' σ H Q → t σ H Q) : PT X e t' := ⟨fun pins s σ H Q I hw => h.run pins s σ H Q I (q σ H Q hw)⟩
theorem PW_imp {X : Cx} {e : Expr} {t t' : TT} (h : PW X e t) (q : ∀ σ H Q, t' σ H Q → t σ H Q) : PW X e t' := ⟨fun whole pins s σ H Q I hw => h.run whole pins s σ H Q I (q σ H Q hw)⟩
theorem PA_imp {X : Cx} {e : List Expr} {t t' : TA} (h : PA X e t) (q : ∀ σ H Q, t' σ H Q → t σ H Q) : PA X e t' := ⟨fun pos pins s σ H Q I hw => h.run pos pins s σ H Q I (q σ H Q hw)⟩
theorem PS_imp {X : Cx} {e : Stmt} {t t' : TS} (h : PS X e t) (q : ∀ D σ H, t' D σ H → t D σ H) : PS X e t' := ⟨fun pins s σ H D I hw => h.run pins s σ H D I (q D σ H hw)⟩
theorem PSs_imp {X : Cx} {e : List Stmt} {t t' : TS} (h : PSs X e t) (q : ∀ D σ H, t' D σ H → t D σ H) : PSs X e t' := ⟨fun pins s σ H D I hw => h.run pins s σ H D I (q D σ H hw)⟩
theorem OpR_imp {X : Cx} {f : Value → Value → Sem Value} {r r' : R2} (h : OpR X f r) (q : ∀ x y H Q, r' x y H Q → r x y H Q) : OpR X f r' := fun pins s σ H x y v u Q I rx ry hw => h pins s σ H x y v u Q I rx ry (q x y H Q hw)

/-! ### names, constants -/
def getV (i : Nat) : Lo → M D := fun lo s => match lo[i]? with
  | some (some d) => .ok d s
  | _ => .bad
section
variable {X : Cx} {c : ClsM} {W : WX} {pos : Pos}
theorem pd_var (i : Nat) {x : Str} {pos : Pos} (hN : X.N[i]? = some x := by rfl) (hv : Vis X.env.scope x := by first | exact Or.inl rfl | exact Or.inr (Or.inl rfl) | exact Or.inr (Or.inr rfl)) (hd : (x == ("__debug__" : Str)) = false := by decide)
    (hcd : (x == ("__classdict__" : Str)) = false := by decide) : PE X (.Name x pos) (tM X.K c W (getV i)) := by
  refine PE_imp (pe_var hN hv hd hcd) fun σ H Q h => ?_
  obtain ⟨ρ, lo, s, hl, hs, h⟩ := h
  unfold getV at h
  split at h
  · rename_i d e
    obtain ⟨v, h1, h2⟩ := hl.get i d e
    exact ⟨v, h1, h v ρ H Ext.refl h2 hs⟩
  · exact h.elim
/-- a constant: v is what stands for it -/
theorem pd_cst {e : Expr} {v : V} {d : D} (h : PE X e (tC v)) (hr : ∀ ρ H, Rep X.K ρ H d v) : PE X e (tM X.K c W fun _ => ret d) := by
  refine PE_imp h fun σ H Q h => ?_
  obtain ⟨ρ, lo, s, hl, hs, h⟩ := h
  exact h v ρ H Ext.refl (hr ρ H) hs
theorem pd_int {i j} : PE X (.Constant (.int i) j pos) (tM X.K c W fun _ => ret (.int i)) := pd_cst pe_int fun _ _ => rfl
theorem pd_bl {b j} : PE X (.Constant (.bool b) j pos) (tM X.K c W fun _ => ret (.bl b)) := pd_cst pe_bl fun _ _ => rfl
theorem pd_non {j} : PE X (.Constant .none j pos) (tM X.K c W fun _ => ret .non) := pd_cst pe_non fun _ _ => rfl
theorem pd_str {x j} : PE X (.Constant (.str x) j pos) (tM X.K c W fun _ => ret (.str x)) := pd_cst pe_str fun _ _ => rfl
/-- a name of the module that holds an int, a text, a tuple -/
structure GlobD (K : PySem.W.Frag) (mg : Str → Option Value) (x : Str) (d : D) : Prop where
  ex : ∃ v u, mg x = some u ∧ RelV v u ∧ ∀ ρ H, Rep K ρ H d v
theorem pd_glob {x : Str} {d : D} (g : GlobD X.K X.mg x d) (hg : Gl X x) (hd : (x == ("__debug__" : Str)) = false := by decide) : PE X (.Name x pos) (tM X.K c W fun _ => ret d) := by
  obtain ⟨v, u, hm, r, hr⟩ := g.ex
  exact pd_cst (pe_glob hg hm r hd) hr

/-! ### operators -/
/-- an operator by data -/
def rP (K : PySem.W.Frag) (f : D → D → Sto → Option D) : R2 := fun x y H Q => ∃ ρ s a b d, Rep K ρ H a x ∧ Rep K ρ H b y ∧ RepS K ρ H s ∧ f a b s = some d ∧
  ∀ v H', Ext ρ H ρ H' → Rep K ρ H' d v → RepS K ρ H' s → Q v H'
def mBin (f : D → D → Sto → Option D) (ma mb : Lo → M D) : Lo → M D := fun lo s => (ma lo s).bind fun x s1 => (mb lo s1).bind fun y s2 => liftP (f x y) s2
theorem okR.lift {Q : V → Hp → Prop} {K : PySem.W.Frag} {σ : St} {ρ : Rg} {H : Hp} {g : Sto → Option D} {s : Sto} (h : okR K c W σ ρ H (rD K) Q (liftP g s)) : ∃ d, g s = some d ∧ ∀ v ρ' H', Ext ρ H ρ' H' → Rep K ρ' H' d v → RepS K ρ' H' s → Q v H' := by
  unfold liftP at h
  split at h
  · rename_i d e
    exact ⟨d, e, h⟩
  · exact h.elim
/-- two parts, by their reading -/
theorem bin_run {ma mb : Lo → M D} {f : D → D → Sto → Option D} {σ : St} {H : Hp} {Q : VK} (h : tM X.K c W (mBin f ma mb) σ H Q) : tM X.K c W ma σ H fun x H1 => tM X.K c W mb σ H1 fun y H2 => rP X.K f x y H2 Q := by
  obtain ⟨ρ, lo, s, hl, hs, h⟩ := h
  refine ⟨ρ, lo, s, hl, hs, (okR.bind h).imp fun x H1 q => ?_⟩
  obtain ⟨ρ1, s1, a, e1, rs1, ra, h1⟩ := q
  refine ⟨ρ1, lo, s1, hl.ext e1, rs1, (okR.bind h1).imp fun y H2 q => ?_⟩
  obtain ⟨ρ2, s2, b, e2, rs2, rb, h2⟩ := q
  obtain ⟨d, e, q⟩ := h2.lift
  exact ⟨ρ2, s2, a, b, d, Rep.ext e2 ra, rb, rs2, e, fun v H' e' => q v ρ2 H' e'⟩
theorem pd_bin {a b : Expr} {op : Operator} {f : D → D → Sto → Option D} {ma mb : Lo → M D} (ho : OpR X (binaryOp op) (rP X.K f)) (ha : PE X a (tM X.K c W ma)) (hb : PE X b (tM X.K c W mb)) : PE X (.BinOp a op b pos) (tM X.K c W (mBin f ma mb)) :=
  PE_imp (pe_op ho ha hb) fun _ _ _ h => bin_run h
theorem pd_cmp {a b : Expr} {op : CmpOp} {f : D → D → Sto → Option D} {ma mb : Lo → M D} (ho : OpR X (compareOp op) (rP X.K f)) (ha : PE X a (tM X.K c W ma)) (hb : PE X b (tM X.K c W mb)) (hm : behindInMarks op b = false := by first | exact nomark _ | rfl) : PE X (.Compare a [op] [b] pos) (tM X.K c W (mBin f ma mb)) :=
  PE_imp (pe_cmpR ho ha hb hm) fun _ _ _ h => bin_run h
theorem pd_ix {a b : Expr} {f : D → D → Sto → Option D} {ma mb : Lo → M D} (ho : IxR X (rP X.K f)) (ha : PE X a (tM X.K c W ma)) (hb : PE X b (tM X.K c W mb)) (hs : PlainIx b := by exact fun _ _ => rfl) : PE X (.Subscript a b pos) (tM X.K c W (mBin f ma mb)) :=
  PE_imp (pe_ix ho ha hb hs) fun _ _ _ h => bin_run h

/-! ### tests -/
def asB : D → M Bool
  | .bl b => ret b
  | _ => fun _ => .bad
def mB (m : Lo → M D) : Lo → M Bool := fun lo s => (m lo s).bind asB
theorem rB_iff {ρ : Rg} {H : Hp} {a b : Bool} (h : rB ρ H a b) : a = b := h
theorem asB_run {Q : Bool → Hp → Prop} {K : PySem.W.Frag} {σ : St} {ρ : Rg} {H : Hp} {s : Sto} {a : D} {x : V} (rs : RepS K ρ H s) (ra : Rep K ρ H a x) (h : okR K c W σ ρ H rB Q (asB a s)) : ∃ k, x = .bl k ∧ Q k H := by
  cases a <;> first
    | exact h.elim
    | (rename_i b; exact ⟨b, ra, h b ρ H Ext.refl rfl rs⟩)
theorem pdt_cmp {a b : Expr} {op : CmpOp} {f : D → D → Sto → Option D} {ma mb : Lo → M D} (ho : OpR X (compareOp op) (rP X.K f)) (ha : PE X a (tM X.K c W ma)) (hb : PE X b (tM X.K c W mb)) (hm : behindInMarks op b = false := by first | exact nomark _ | rfl) :
    PT X (.Compare a [op] [b] pos) (tMB X.K c W (mB (mBin f ma mb))) := by
  refine PT_imp (pt_cmpR ho ha hb hm) fun σ H Q h => ?_
  refine bin_run (c := c) (W := W) (ma := ma) (mb := mb) (f := f) ?_
  obtain ⟨ρ, lo, s, hl, hs, h⟩ := h
  refine ⟨ρ, lo, s, hl, hs, (okR.bind h).imp fun x H1 q => ?_⟩
  obtain ⟨ρ1, s1, a, e1, rs1, ra, h1⟩ := q
  exact asB_run rs1 ra h1
/-- a value's truth -/
def truD : D → Sto → Option Bool
  | .non, _ => some false
  | .bl b, _ => some b
  | .int i, _ => some (i != 0)
  | .str x, _ => if x.length ≤ sizeLine then some ((x.length : Int) != 0) else none
  | .lst xs, _ => some (!xs.isEmpty)
  | .tup xs, _ => some (!xs.isEmpty)
  | .scr xs, _ => some (!xs.isEmpty)
  | .loc n, s => match s[n]? with
    | some (.lst xs) => some (!xs.isEmpty)
    | some (.dct ks _) => some (!ks.isEmpty)
    | none => none
  | _, _ => none
def mTru (m : Lo → M D) : Lo → M Bool := fun lo s => (m lo s).bind fun d => liftP (truD d)
theorem isEmpty_reps {K : PySem.W.Frag} {ρ : Rg} {H : Hp} {ds : List D} {vs : List V} (h : Reps K ρ H ds vs) : ds.isEmpty = vs.isEmpty := by
  have := h.length
  cases ds <;> cases vs <;> simp_all
theorem zip_isEmpty {α β : Type} : ∀ {ks : List α} {vs : List β}, ks.length = vs.length → (ks.zip vs).isEmpty = ks.isEmpty
  | [], [], _ => rfl
  | _ :: _, _ :: _, _ => rfl
theorem truD_ok {K : PySem.W.Frag} {ρ : Rg} {H : Hp} {s : Sto} {d : D} {x : V} {k : Bool} (rs : RepS K ρ H s) (rd : Rep K ρ H d x) (h : truD d s = some k) : TruV K x H k := by
  cases d with
  | non => cases rd; exact (Option.some.inj h).symm
  | bl b => cases rd; exact (Option.some.inj h).symm
  | int i => cases rd; exact (Option.some.inj h).symm
  | str y =>
    cases rd
    unfold truD at h
    by_cases hl : y.length ≤ sizeLine
    · simp only [hl, if_true] at h
      exact ⟨hl, (Option.some.inj h).symm⟩
    · simp only [hl, if_false] at h; cases h
  | lst xs =>
    obtain ⟨a, vs, rfl, h1, h2⟩ := Rep.sqL rd
    exact .inl ⟨vs, h1, by rw [← Option.some.inj h, isEmpty_reps h2]⟩
  | tup xs =>
    obtain ⟨a, vs, rfl, h1, h2⟩ := Rep.sqT rd
    exact .inr (.inl ⟨vs, h1, by rw [← Option.some.inj h, isEmpty_reps h2]⟩)
  | dct ks xs => cases h
  | scr xs =>
    obtain ⟨a, vs, rfl, h1, h2⟩ := Rep.scrL rd
    exact .inl ⟨vs, h1, by rw [← Option.some.inj h, isEmpty_reps h2]⟩
  | loc n =>
    obtain ⟨a, rfl, ha⟩ := rd
    obtain ⟨ob, e1, e2⟩ := rs.at ha
    unfold truD at h
    simp only [e1] at h
    cases ob with
    | lst xs =>
      obtain ⟨vs, q1, q2⟩ := e2
      exact .inl ⟨vs, SqL.of q1, by rw [← Option.some.inj h, isEmpty_reps q2]⟩
    | dct ks xs =>
      obtain ⟨vs, q1, q2, q3⟩ := e2
      exact .inr (.inr ⟨_, q1, by rw [← Option.some.inj h, zip_isEmpty q2]⟩)
theorem okR.liftB {Q : Bool → Hp → Prop} {K : PySem.W.Frag} {σ : St} {ρ : Rg} {H : Hp} {g : Sto → Option Bool} {s : Sto} (rs : RepS K ρ H s) (h : okR K c W σ ρ H rB Q (liftP g s)) : ∃ d, g s = some d ∧ Q d H := by
  unfold liftP at h
  split at h
  · rename_i d e
    exact ⟨d, e, h d ρ H Ext.refl rfl rs⟩
  · exact h.elim
/-- an expression as a test: no comparison, no and, or, not -/
theorem pdt_val {a : Expr} {ma : Lo → M D} (ha : PE X a (tM X.K c W ma)) (he : ∀ whole, isTrue a X.env whole = (do let v ← whole; standAt a.pos; holding [v] (truthy v)) := by intro _; rfl) : PT X a (tMB X.K c W (mTru ma)) := by
  refine PT_imp (pt_truth ha he) fun σ H Q h => ?_
  obtain ⟨ρ, lo, s, hl, hs, h⟩ := h
  refine ⟨ρ, lo, s, hl, hs, (okR.bind h).imp fun x H1 q => ?_⟩
  obtain ⟨ρ1, s1, a, e1, rs1, ra, h1⟩ := q
  obtain ⟨k, e, q⟩ := h1.liftB rs1
  exact ⟨k, truD_ok rs1 ra e, q⟩
def mAndB (ma mb : Lo → M Bool) : Lo → M Bool := fun lo s => (ma lo s).bind fun x s1 => if x = true then mb lo s1 else .ok false s1
def mOrB (ma mb : Lo → M Bool) : Lo → M Bool := fun lo s => (ma lo s).bind fun x s1 => if x = true then .ok true s1 else mb lo s1
def mNotB (ma : Lo → M Bool) : Lo → M Bool := fun lo s => (ma lo s).bind fun x s1 => .ok (!x) s1
theorem pdw_and {a b : Expr} {rest : List Expr} {ma mb : Lo → M Bool} (ha : PT X a (tMB X.K c W ma)) (hb : PW X (.BoolOp .And (b :: rest) pos) (tMB X.K c W mb)) : PW X (.BoolOp .And (a :: b :: rest) pos) (tMB X.K c W (mAndB ma mb)) := by
  refine PW_imp (pw_and ha hb) fun σ H Q h => ?_
  obtain ⟨ρ, lo, s, hl, hs, h⟩ := h
  refine ⟨ρ, lo, s, hl, hs, (okR.bind h).imp fun x H1 q => ?_⟩
  obtain ⟨ρ1, s1, k, e1, rs1, ra, h1⟩ := q
  obtain rfl : k = x := ra
  cases k with
  | true => exact iteT ⟨ρ1, lo, s1, hl.ext e1, rs1, h1⟩
  | false => exact iteF (h1 false ρ1 H1 Ext.refl rfl rs1)
theorem pdw_or {a b : Expr} {rest : List Expr} {ma mb : Lo → M Bool} (ha : PT X a (tMB X.K c W ma)) (hb : PW X (.BoolOp .Or (b :: rest) pos) (tMB X.K c W mb)) : PW X (.BoolOp .Or (a :: b :: rest) pos) (tMB X.K c W (mOrB ma mb)) := by
  refine PW_imp (pw_or ha hb) fun σ H Q h => ?_
  obtain ⟨ρ, lo, s, hl, hs, h⟩ := h
  refine ⟨ρ, lo, s, hl, hs, (okR.bind h).imp fun x H1 q => ?_⟩
  obtain ⟨ρ1, s1, k, e1, rs1, ra, h1⟩ := q
  obtain rfl : k = x := ra
  cases k with
  | true => exact iteT (h1 true ρ1 H1 Ext.refl rfl rs1)
  | false => exact iteF ⟨ρ1, lo, s1, hl.ext e1, rs1, h1⟩
theorem pdw_and1 {a : Expr} {ma : Lo → M Bool} (ha : PT X a (tMB X.K c W ma)) : PW X (.BoolOp .And [a] pos) (tMB X.K c W ma) := pw_and1 ha
theorem pdw_or1 {a : Expr} {ma : Lo → M Bool} (ha : PT X a (tMB X.K c W ma)) : PW X (.BoolOp .Or [a] pos) (tMB X.K c W ma) := pw_or1 ha
theorem pdt_not {a : Expr} {ma : Lo → M Bool} (ha : PT X a (tMB X.K c W ma)) : PT X (.UnaryOp .Not a pos) (tMB X.K c W (mNotB ma)) := by
  refine PT_imp (pt_not ha) fun σ H Q h => ?_
  obtain ⟨ρ, lo, s, hl, hs, h⟩ := h
  refine ⟨ρ, lo, s, hl, hs, (okR.bind h).imp fun x H1 q => ?_⟩
  obtain ⟨ρ1, s1, k, e1, rs1, ra, h1⟩ := q
  obtain rfl : k = x := ra
  exact h1 _ ρ1 H1 Ext.refl rfl rs1
/-- and, or, not as values -/
def mAnd (ma mb : Lo → M D) : Lo → M D := fun lo s => (ma lo s).bind fun x s1 => match truD x s1 with
  | some true => mb lo s1
  | some false => .ok x s1
  | none => .bad
def mOr (ma mb : Lo → M D) : Lo → M D := fun lo s => (ma lo s).bind fun x s1 => match truD x s1 with
  | some true => .ok x s1
  | some false => mb lo s1
  | none => .bad
def mNot (ma : Lo → M D) : Lo → M D := fun lo s => (ma lo s).bind fun x s1 => match truD x s1 with
  | some b => .ok (.bl (!b)) s1
  | none => .bad

theorem pd_and {a b : Expr} {rest : List Expr} {ma mb : Lo → M D} (ha : PE X a (tM X.K c W ma)) (hb : PE X (.BoolOp .And (b :: rest) pos) (tM X.K c W mb)) : PE X (.BoolOp .And (a :: b :: rest) pos) (tM X.K c W (mAnd ma mb)) := by
  refine PE_imp (pe_andT ha hb) fun σ H Q h => ?_
  obtain ⟨ρ, lo, s, hl, hs, h⟩ := h
  refine ⟨ρ, lo, s, hl, hs, (okR.bind h).imp fun x H1 q => ?_⟩
  obtain ⟨ρ1, s1, d, e1, rs1, rd, h1⟩ := q
  cases e : truD d s1 with
  | none => simp only [e] at h1; exact h1.elim
  | some k =>
    refine ⟨k, truD_ok rs1 rd e, ?_⟩
    simp only [e] at h1
    cases k with
    | true => exact iteT ⟨ρ1, lo, s1, hl.ext e1, rs1, h1⟩
    | false => exact iteF (h1 x ρ1 H1 Ext.refl rd rs1)
theorem pd_or {a b : Expr} {rest : List Expr} {ma mb : Lo → M D} (ha : PE X a (tM X.K c W ma)) (hb : PE X (.BoolOp .Or (b :: rest) pos) (tM X.K c W mb)) : PE X (.BoolOp .Or (a :: b :: rest) pos) (tM X.K c W (mOr ma mb)) := by
  refine PE_imp (pe_orT ha hb) fun σ H Q h => ?_
  obtain ⟨ρ, lo, s, hl, hs, h⟩ := h
  refine ⟨ρ, lo, s, hl, hs, (okR.bind h).imp fun x H1 q => ?_⟩
  obtain ⟨ρ1, s1, d, e1, rs1, rd, h1⟩ := q
  cases e : truD d s1 with
  | none => simp only [e] at h1; exact h1.elim
  | some k =>
    refine ⟨k, truD_ok rs1 rd e, ?_⟩
    simp only [e] at h1
    cases k with
    | true => exact iteT (h1 x ρ1 H1 Ext.refl rd rs1)
    | false => exact iteF ⟨ρ1, lo, s1, hl.ext e1, rs1, h1⟩
theorem pd_not {a : Expr} {ma : Lo → M D} (ha : PE X a (tM X.K c W ma)) : PE X (.UnaryOp .Not a pos) (tM X.K c W (mNot ma)) := by
  refine PE_imp (pe_notT ha) fun σ H Q h => ?_
  obtain ⟨ρ, lo, s, hl, hs, h⟩ := h
  refine ⟨ρ, lo, s, hl, hs, (okR.bind h).imp fun x H1 q => ?_⟩
  obtain ⟨ρ1, s1, d, e1, rs1, rd, h1⟩ := q
  cases e : truD d s1 with
  | none => simp only [e] at h1; exact h1.elim
  | some k =>
    simp only [e] at h1
    exact ⟨k, truD_ok rs1 rd e, h1 _ ρ1 H1 Ext.refl rfl rs1⟩
def mIfE (mt : Lo → M Bool) (ma mb : Lo → M D) : Lo → M D := fun lo s => (mt lo s).bind fun k s1 => if k = true then ma lo s1 else mb lo s1
theorem pd_ifExp {t a b : Expr} {mt : Lo → M Bool} {ma mb : Lo → M D} (ht : PT X t (tMB X.K c W mt)) (ha : PE X a (tM X.K c W ma)) (hb : PE X b (tM X.K c W mb)) : PE X (.IfExp t a b pos) (tM X.K c W (mIfE mt ma mb)) := by
  refine PE_imp (pe_ifExp ht ha hb) fun σ H Q h => ?_
  obtain ⟨ρ, lo, s, hl, hs, h⟩ := h
  refine ⟨ρ, lo, s, hl, hs, (okR.bind h).imp fun x H1 q => ?_⟩
  obtain ⟨ρ1, s1, k, e1, rs1, ra, h1⟩ := q
  obtain rfl : k = x := ra
  cases k with
  | true => exact iteT ⟨ρ1, lo, s1, hl.ext e1, rs1, h1⟩
  | false => exact iteF ⟨ρ1, lo, s1, hl.ext e1, rs1, h1⟩
/-- a op b op' c -/
def mChain (f f' : D → D → Sto → Option D) (ma mb mc : Lo → M D) : Lo → M D := fun lo s => (ma lo s).bind fun x s1 => (mb lo s1).bind fun y s2 => match f x y s2 with
  | some (.bl true) => (mc lo s2).bind fun z s3 => liftP (f' y z) s3
  | some (.bl false) => .ok (.bl false) s2
  | _ => .bad
theorem chain_run {f f' : D → D → Sto → Option D} {ma mb mc : Lo → M D} {σ : St} {H : Hp} {Q : VK} (h : tM X.K c W (mChain f f' ma mb mc) σ H Q) : tChain (rP X.K f) (rP X.K f') (tM X.K c W ma) (tM X.K c W mb) (tM X.K c W mc) σ H Q := by
  obtain ⟨ρ, lo, s, hl, hs, h⟩ := h
  refine ⟨ρ, lo, s, hl, hs, (okR.bind h).imp fun x H1 q => ?_⟩
  obtain ⟨ρ1, s1, a, e1, rs1, ra, h1⟩ := q
  refine ⟨ρ1, lo, s1, hl.ext e1, rs1, (okR.bind h1).imp fun y H2 q => ?_⟩
  obtain ⟨ρ2, s2, b, e2, rs2, rb, h2⟩ := q
  cases e : f a b s2 with
  | none => simp only [e] at h2; exact h2.elim
  | some d =>
    cases d <;> (try (simp only [e] at h2; exact h2.elim))
    rename_i k
    refine ⟨ρ2, s2, a, b, .bl k, Rep.ext e2 ra, rb, rs2, e, fun v H' e3 rv rs3 => ⟨k, rv, ?_⟩⟩
    cases k with
    | false =>
      simp only [e] at h2
      exact iteF (h2 _ ρ2 H' e3 rfl rs3)
    | true =>
      simp only [e] at h2
      refine iteT ⟨ρ2, lo, s2, ((hl.ext e1).ext e2).ext e3, rs3, (okR.bind (okR.mono e3 h2)).imp fun z H4 q => ?_⟩
      obtain ⟨ρ4, s4, dz, e4, rs4, rz, h4⟩ := q
      obtain ⟨d, ed, q⟩ := h4.lift
      exact ⟨ρ4, s4, b, dz, d, Rep.ext e4 (Rep.ext e3 rb), rz, rs4, ed, fun v H' e' => q v ρ4 H' e'⟩
theorem pd_chain {a b d : Expr} {op op' : CmpOp} {f f' : D → D → Sto → Option D} {ma mb mc : Lo → M D} (ho : OpR X (compareOp op) (rP X.K f)) (ho' : OpR X (compareOp op') (rP X.K f')) (ha : PE X a (tM X.K c W ma)) (hb : PE X b (tM X.K c W mb)) (hc : PE X d (tM X.K c W mc))
    (hm : lastMarks [op, op'] [b, d] = false := by with_unfolding_all rfl) : PE X (.Compare a [op, op'] [b, d] pos) (tM X.K c W (mChain f f' ma mb mc)) :=
  PE_imp (pe_chain ho ho' ha hb hc hm) fun _ _ _ h => chain_run h
theorem pdt_chain {a b d : Expr} {op op' : CmpOp} {f f' : D → D → Sto → Option D} {ma mb mc : Lo → M D} (ho : OpR X (compareOp op) (rP X.K f)) (ho' : OpR X (compareOp op') (rP X.K f')) (ha : PE X a (tM X.K c W ma)) (hb : PE X b (tM X.K c W mb)) (hc : PE X d (tM X.K c W mc))
    (hm : lastMarks [op, op'] [b, d] = false := by with_unfolding_all rfl) : PT X (.Compare a [op, op'] [b, d] pos) (tMB X.K c W (mB (mChain f f' ma mb mc))) := by
  refine PT_imp (pt_chain ho ho' ha hb hc hm) fun σ H Q h => ?_
  refine chain_run (c := c) (W := W) (ma := ma) (mb := mb) (mc := mc) (f := f) (f' := f') ?_
  obtain ⟨ρ, lo, s, hl, hs, h⟩ := h
  refine ⟨ρ, lo, s, hl, hs, (okR.bind h).imp fun x H1 q => ?_⟩
  obtain ⟨ρ1, s1, a, e1, rs1, ra, h1⟩ := q
  exact asB_run rs1 ra h1

/-! ### lists of expressions, displays, calls -/
def mNil : Lo → M (List D) := fun _ => ret []
def mCons (ma : Lo → M D) (mr : Lo → M (List D)) : Lo → M (List D) := fun lo s => (ma lo s).bind fun x s1 => (mr lo s1).bind fun xs s2 => .ok (x :: xs) s2
theorem pda_nil : PA X [] (tMA X.K c W mNil) := by
  refine PA_imp pa_nil fun σ H Q h => ?_
  obtain ⟨ρ, lo, s, hl, hs, h⟩ := h
  exact h [] ρ H Ext.refl rfl hs
theorem pda_cons {e : Expr} {es : List Expr} {ma : Lo → M D} {mr : Lo → M (List D)} (ha : PE X e (tM X.K c W ma)) (hr : PA X es (tMA X.K c W mr)) (hs : starEach (e :: es) X.env = (false, eval e X.env) :: starEach es X.env := by rfl) : PA X (e :: es) (tMA X.K c W (mCons ma mr)) := by
  refine PA_imp (pa_cons ha hr hs) fun σ H Q h => ?_
  obtain ⟨ρ, lo, s, hl, hs, h⟩ := h
  refine ⟨ρ, lo, s, hl, hs, (okR.bind h).imp fun x H1 q => ?_⟩
  obtain ⟨ρ1, s1, a, e1, rs1, ra, h1⟩ := q
  refine ⟨ρ1, lo, s1, hl.ext e1, rs1, (okR.bind h1).imp fun y H2 q => ?_⟩
  obtain ⟨ρ2, s2, b, e2, rs2, rb, h2⟩ := q
  exact h2 _ ρ2 H2 Ext.refl ⟨x, y, rfl, Rep.ext e2 ra, rb⟩ rs2
/-- a tuple -/
def mTup (ma : Lo → M (List D)) : Lo → M D := fun lo s => (ma lo s).bind fun xs s1 => if xs.length ≤ sizeLine then .ok (.tup xs) s1 else .bad
theorem pd_tup {es : List Expr} {x1} {ma : Lo → M (List D)} (ha : PA X es (tMA X.K c W ma)) : PE X (.Tuple es x1 pos) (tM X.K c W (mTup ma)) := by
  refine PE_imp (pe_tup ha) fun σ H Q h => ?_
  obtain ⟨ρ, lo, s, hl, hs, h⟩ := h
  refine ⟨ρ, lo, s, hl, hs, (okR.bind h).imp fun x H1 q => ?_⟩
  obtain ⟨ρ1, s1, a, e1, rs1, ra, h1⟩ := q
  split at h1
  · rename_i hz
    refine ⟨by rw [← ra.length]; exact hz, fun p hp => ?_⟩
    exact h1 _ ρ1 _ (Ext.alloc hp) ⟨p, x, rfl, .inl ⟨At.of upd_same, rs1.fresh hp⟩, Reps.ext (Ext.alloc hp) ra⟩ (rs1.alloc hp)
  · exact h1.elim
/-- a list that stays as it is -/
def mLst (ma : Lo → M (List D)) : Lo → M D := fun lo s => (ma lo s).bind fun xs s1 => if xs.length ≤ sizeLine then .ok (.lst xs) s1 else .bad
theorem pd_lst {es : List Expr} {ma : Lo → M (List D)} (ha : PA X es (tMA X.K c W ma)) : PE X (.List es pos) (tM X.K c W (mLst ma)) := by
  refine PE_imp (pe_lst ha) fun σ H Q h => ?_
  obtain ⟨ρ, lo, s, hl, hs, h⟩ := h
  refine ⟨ρ, lo, s, hl, hs, (okR.bind h).imp fun x H1 q => ?_⟩
  obtain ⟨ρ1, s1, a, e1, rs1, ra, h1⟩ := q
  split at h1
  · rename_i hz
    refine ⟨by rw [← ra.length]; exact hz, fun p hp => ?_⟩
    exact h1 _ ρ1 _ (Ext.alloc hp) ⟨p, x, rfl, At.of upd_same, rs1.fresh hp, Reps.ext (Ext.alloc hp) ra⟩ (rs1.alloc hp)
  · exact h1.elim
/-- a list that may change: a new object of the store -/
def newL (xs : List D) : M D := fun s => .ok (.loc s.length) (s ++ [.lst xs])
def mLstL (ma : Lo → M (List D)) : Lo → M D := fun lo s => (ma lo s).bind fun xs s1 => if xs.length ≤ sizeLine then newL xs s1 else .bad
theorem pd_lstL {es : List Expr} {ma : Lo → M (List D)} (ha : PA X es (tMA X.K c W ma)) : PE X (.List es pos) (tM X.K c W (mLstL ma)) := by
  refine PE_imp (pe_lst ha) fun σ H Q h => ?_
  obtain ⟨ρ, lo, s, hl, hs, h⟩ := h
  refine ⟨ρ, lo, s, hl, hs, (okR.bind h).imp fun x H1 q => ?_⟩
  obtain ⟨ρ1, s1, a, e1, rs1, ra, h1⟩ := q
  split at h1
  · rename_i hz
    refine ⟨by rw [← ra.length]; exact hz, fun p hp => ?_⟩
    exact h1 _ _ _ (Ext.allocL hp) ⟨p, rfl, by show (ρ1.l ++ [p])[s1.length]? = some p; rw [rs1.len]; simp⟩ (rs1.allocL hp ra)
  · exact h1.elim
/-- a dict without entries -/
theorem pd_dnew : PE X (.Dict [] [] pos) (tM X.K c W fun _ => ret (.dct [] [])) := by
  refine PE_imp pe_dnewK fun σ H Q h => ?_
  obtain ⟨ρ, lo, s, hl, hs, h⟩ := h
  exact fun p hp => h _ ρ _ (Ext.alloc hp) ⟨p, [], rfl, At.of upd_same, rfl, hs.fresh hp, rfl⟩ (hs.alloc hp)
/-- a built-in that reads -/
def rC (K : PySem.W.Frag) (f : List D → Sto → Option D) : List V → Hp → VK → Prop := fun vs H Q => ∃ ρ s ds d, Reps K ρ H ds vs ∧ RepS K ρ H s ∧ f ds s = some d ∧
  ∀ v H', Ext ρ H ρ H' → Rep K ρ H' d v → RepS K ρ H' s → Q v H'
def mCB (f : List D → Sto → Option D) (ma : Lo → M (List D)) : Lo → M D := fun lo s => (ma lo s).bind fun xs s1 => liftP (f xs) s1
theorem callB_run {f : List D → Sto → Option D} {ma : Lo → M (List D)} {σ : St} {H : Hp} {Q : VK} (h : tM X.K c W (mCB f ma) σ H Q) : tCB (rC X.K f) (tMA X.K c W ma) σ H Q := by
  obtain ⟨ρ, lo, s, hl, hs, h⟩ := h
  refine ⟨ρ, lo, s, hl, hs, (okR.bind h).imp fun x H1 q => ?_⟩
  obtain ⟨ρ1, s1, a, e1, rs1, ra, h1⟩ := q
  obtain ⟨d, e, q⟩ := h1.lift
  exact ⟨ρ1, s1, a, d, ra, rs1, e, fun v H' e' => q v ρ1 H' e'⟩
theorem pd_callB {x : Str} {p : Pos} {e : Expr} {es : List Expr} {id : String} {f : List D → Sto → Option D} {ma : Lo → M (List D)} (hc : CallR X (.builtin id) (rC X.K f)) (ha : PA X (e :: es) (tMA X.K c W ma)) (hm : X.mg x = none) (hg : Gl X x := by rfl) (hv : bootBuiltins x = some (.builtin id) := by decide +kernel) (hn : x ≠ "__name__" := by decide)
    (hdb : (x == ("__debug__" : Str)) = false := by decide) (he : starEach (e :: es) X.env = (false, eval e X.env) :: starEach es X.env := by rfl) (hpl : (backTo pos (starEach es X.env)).any (·.1) = false := by rfl) : PE X (.Call (.Name x p) (e :: es) [] pos) (tM X.K c W (mCB f ma)) :=
  PE_imp (pe_callB hc hg hm hv ha hn hdb he hpl) fun _ _ _ h => callB_run h
theorem pd_callT {x : Str} {p : Pos} {e : Expr} {es : List Expr} {T : String} {f : List D → Sto → Option D} {ma : Lo → M (List D)} (hc : CallR X (.type T) (rC X.K f)) (ha : PA X (e :: es) (tMA X.K c W ma)) (hm : X.mg x = none) (hg : Gl X x := by rfl) (hv : bootBuiltins x = some (.type T) := by decide +kernel) (hn : x ≠ "__name__" := by decide)
    (hdb : (x == ("__debug__" : Str)) = false := by decide) (he : starEach (e :: es) X.env = (false, eval e X.env) :: starEach es X.env := by rfl) (hpl : (backTo pos (starEach es X.env)).any (·.1) = false := by rfl) : PE X (.Call (.Name x p) (e :: es) [] pos) (tM X.K c W (mCB f ma)) :=
  PE_imp (pe_callTy hc hg hm hv ha hn hdb he hpl) fun _ _ _ h => callB_run h
end
end DL
set_option Elab.async false
set_option linter.all false
set_option maxRecDepth 100000
set_option maxHeartbeats 4000000
/-! DLc: statements, calls of defs, loops, comprehensions. -/
namespace DL
open PySem L2

/-! ### what a statement does -/
inductive SR where
  | nx (lo : Lo) (s : Sto)
  | rt (d : D) (s : Sto)
  | bk (lo : Lo) (s : Sto)
  | ct (lo : Lo) (s : Sto)
  | exc (x : Xn) (lo : Lo) (s : Sto)
  | bad
def okS (K : PySem.W.Frag) (c : ClsM) (W : WX) (E : Ends) (ρ : Rg) (H : Hp) : SR → Prop
  | .nx lo s => ∀ σ ρ' H', Ext ρ H ρ' H' → RepLo K ρ' H' σ lo → RepS K ρ' H' s → E.nx σ H'
  | .rt d s => ∀ v ρ' H', Ext ρ H ρ' H' → Rep K ρ' H' d v → RepS K ρ' H' s → E.rt v H'
  | .bk lo s => ∀ σ ρ' H', Ext ρ H ρ' H' → RepLo K ρ' H' σ lo → RepS K ρ' H' s → E.bk σ H'
  | .ct lo s => ∀ σ ρ' H', Ext ρ H ρ' H' → RepLo K ρ' H' σ lo → RepS K ρ' H' s → E.ct σ H'
  | .exc x lo s => ∀ v dd σ ρ' H', Ext ρ H ρ' H' → RepX K c ρ' H' v dd x → RepLo K ρ' H' σ lo → RepS K ρ' H' s → W v dd σ H'
  | .bad => False
def tMS (K : PySem.W.Frag) (c : ClsM) (W : WX) (m : Lo → Sto → SR) : TS := fun E σ H => ∃ ρ lo s, RepLo K ρ H σ lo ∧ RepS K ρ H s ∧ okS K c W E ρ H (m lo s)
def bindS {α : Type} (r : R α) (lo : Lo) (f : α → Sto → SR) : SR := match r with
  | .ok a s => f a s
  | .exc x s => .exc x lo s
  | .bad => .bad
section
variable {K : PySem.W.Frag} {c : ClsM} {W : WX} {σ : St} {ρ ρ1 : Rg} {H H1 : Hp} {E : Ends} {α β : Type} {rep : RepT α β}
theorem okS.mono {r : SR} (e : Ext ρ H ρ1 H1) (h : okS K c W E ρ H r) : okS K c W E ρ1 H1 r := by
  cases r with
  | nx lo s => exact fun σ ρ' H' e' => h σ ρ' H' (e.trans e')
  | rt d s => exact fun σ ρ' H' e' => h σ ρ' H' (e.trans e')
  | bk lo s => exact fun σ ρ' H' e' => h σ ρ' H' (e.trans e')
  | ct lo s => exact fun σ ρ' H' e' => h σ ρ' H' (e.trans e')
  | exc x lo s => exact fun v dd σ ρ' H' e' => h v dd σ ρ' H' (e.trans e')
  | bad => exact h
theorem okS.bind {r : R α} {lo : Lo} {f : α → Sto → SR} (hl : RepLo K ρ H σ lo) (h : okS K c W E ρ H (bindS r lo f)) :
    okR K c W σ ρ H rep (fun b H1 => ∃ ρ1 s1 a, Ext ρ H ρ1 H1 ∧ RepS K ρ1 H1 s1 ∧ rep ρ1 H1 a b ∧ okS K c W E ρ1 H1 (f a s1)) r := by
  cases r with
  | ok a s => exact fun b ρ' H' e' rb rs => ⟨ρ', s, a, e', rs, rb, okS.mono e' h⟩
  | exc x s => exact fun v dd ρ' H' e' hx rs => h v dd σ ρ' H' e' hx (hl.ext e') rs
  | bad => exact h
end

section
variable {X : Cx} {c : ClsM} {W : WX} {pos : Pos}
def mSeq (m1 m2 : Lo → Sto → SR) : Lo → Sto → SR := fun lo s => match m1 lo s with
  | .nx lo' s' => m2 lo' s'
  | r => r
theorem pds_nil : PSs X [] (tMS X.K c W .nx) := by
  refine PSs_imp pss_nil fun E σ H h => ?_
  obtain ⟨ρ, lo, s, hl, hs, h⟩ := h
  exact h σ ρ H Ext.refl hl hs
theorem pds_cons {st : Stmt} {rest : List Stmt} {m1 m2 : Lo → Sto → SR} (h1 : PS X st (tMS X.K c W m1)) (h2 : PSs X rest (tMS X.K c W m2)) : PSs X (st :: rest) (tMS X.K c W (mSeq m1 m2)) := by
  refine PSs_imp (pss_cons h1 h2) fun E σ H h => ?_
  obtain ⟨ρ, lo, s, hl, hs, h⟩ := h
  refine ⟨ρ, lo, s, hl, hs, ?_⟩
  unfold mSeq at h
  cases e : m1 lo s with
  | nx lo' s' =>
    simp only [e] at h
    exact fun σ' ρ' H' e' r1 r2 => ⟨ρ', lo', s', r1, r2, okS.mono e' h⟩
  | rt d s' => simp only [e] at h; exact h
  | bk d s' => simp only [e] at h; exact h
  | ct d s' => simp only [e] at h; exact h
  | exc d s' => simp only [e] at h; exact h
  | bad => simp only [e] at h; exact h
theorem pds_one {st : Stmt} {m1 : Lo → Sto → SR} (h1 : PS X st (tMS X.K c W m1)) : PSs X [st] (tMS X.K c W m1) := pss_one h1
theorem pd_pass : PS X (.Pass pos) (tMS X.K c W .nx) := by
  refine PS_imp ps_pass fun E σ H h => ?_
  obtain ⟨ρ, lo, s, hl, hs, h⟩ := h
  exact h σ ρ H Ext.refl hl hs
theorem pd_break : PS X (.Break pos) (tMS X.K c W .bk) := by
  refine PS_imp ps_break fun E σ H h => ?_
  obtain ⟨ρ, lo, s, hl, hs, h⟩ := h
  exact h σ ρ H Ext.refl hl hs
theorem pd_cont : PS X (.Continue pos) (tMS X.K c W .ct) := by
  refine PS_imp ps_continue fun E σ H h => ?_
  obtain ⟨ρ, lo, s, hl, hs, h⟩ := h
  exact h σ ρ H Ext.refl hl hs
def mRet (m : Lo → M D) : Lo → Sto → SR := fun lo s => bindS (m lo s) lo .rt
theorem pd_ret {e : Expr} {m : Lo → M D} (he : PE X e (tM X.K c W m)) : PS X (.Return (some e) pos) (tMS X.K c W (mRet m)) := by
  refine PS_imp (ps_ret he) fun E σ H h => ?_
  obtain ⟨ρ, lo, s, hl, hs, h⟩ := h
  refine ⟨ρ, lo, s, hl, hs, (okS.bind hl h).imp fun x H1 q => ?_⟩
  obtain ⟨ρ1, s1, a, e1, rs1, ra, h1⟩ := q
  exact h1 x ρ1 H1 Ext.refl ra rs1
def mExpr (m : Lo → M D) : Lo → Sto → SR := fun lo s => bindS (m lo s) lo fun _ s1 => .nx lo s1
theorem pd_expr {e : Expr} {m : Lo → M D} (he : PE X e (tM X.K c W m)) (hs : swapsWith e none pos.line X.env = pure false := by rfl) : PS X (.Expr e pos) (tMS X.K c W (mExpr m)) := by
  refine PS_imp (ps_expr he hs) fun E σ H h => ?_
  obtain ⟨ρ, lo, s, hl, hs, h⟩ := h
  refine ⟨ρ, lo, s, hl, hs, (okS.bind hl h).imp fun x H1 q => ?_⟩
  obtain ⟨ρ1, s1, a, e1, rs1, ra, h1⟩ := q
  exact h1 σ ρ1 H1 Ext.refl (hl.ext e1) rs1
def mIf (mt : Lo → M Bool) (ma mb : Lo → Sto → SR) : Lo → Sto → SR := fun lo s => bindS (mt lo s) lo fun k s1 => if k = true then ma lo s1 else mb lo s1
theorem pd_if {t : Expr} {a b : List Stmt} {mt : Lo → M Bool} {ma mb : Lo → Sto → SR} (ht : PT X t (tMB X.K c W mt)) (ha : PSs X a (tMS X.K c W ma)) (hb : PSs X b (tMS X.K c W mb)) : PS X (.If t a b pos) (tMS X.K c W (mIf mt ma mb)) := by
  refine PS_imp (ps_if ht ha hb) fun E σ H h => ?_
  obtain ⟨ρ, lo, s, hl, hs, h⟩ := h
  refine ⟨ρ, lo, s, hl, hs, (okS.bind hl h).imp fun x H1 q => ?_⟩
  obtain ⟨ρ1, s1, k, e1, rs1, ra, h1⟩ := q
  obtain rfl : k = x := ra
  cases k with
  | true => exact iteT ⟨ρ1, lo, s1, hl.ext e1, rs1, h1⟩
  | false => exact iteF ⟨ρ1, lo, s1, hl.ext e1, rs1, h1⟩

/-! ### targets -/
inductive Tg where
  | nm (i : Nat)
  | tp (is : List Nat)
def setAll : List Nat → List D → Lo → Option Lo
  | [], [], lo => some lo
  | i :: is, d :: ds, lo => setAll is ds (lo.set i (some d))
  | _, _, _ => none
def setT : Tg → D → Lo → Option Lo
  | .nm i, d, lo => some (lo.set i (some d))
  | .tp is, .tup ds, lo => setAll is ds lo
  | _, _, _ => none
def gAll : List Nat → TGs
  | [] => gNil
  | i :: is => gCons (gName i) (gAll is)
def gT (K : PySem.W.Frag) : Tg → TG
  | .nm i => gName i
  | .tp is => gTup K is.length (gAll is)
def Tg.slots : Tg → List Nat
  | .nm i => [i]
  | .tp is => is
theorem wipe_set : ∀ {vs : List Nat} {i : Nat} {x : Option V} {σ : St}, i ∈ vs → wipe (σ.set i x) vs = wipe σ vs
  | v :: vs, i, x, σ, h => by
    unfold wipe
    by_cases hi : i ∈ vs
    · rw [wipe_set hi]
    · have e : i = v := by
        rcases List.mem_cons.mp h with h | h
        · exact h
        · exact absurd h hi
      subst e
      have go : ∀ {us : List Nat} {σ : St}, i ∉ us → wipe (σ.set i x) us = (wipe σ us).set i x := by
        intro us
        induction us with
        | nil => intro σ _; rfl
        | cons u us ih =>
          intro σ hu
          rw [List.mem_cons, not_or] at hu
          unfold wipe
          rw [ih hu.2, List.set_comm _ _ hu.1]
      rw [go hi, List.set_set]
theorem gAll_run {K : PySem.W.Frag} {ρ : Rg} {H : Hp} : ∀ {is : List Nat} {ds : List D} {vs : List V} {lo lo' : Lo} {σ : St} {Q : St → Hp → Prop}, Reps K ρ H ds vs → setAll is ds lo = some lo' → RepLo K ρ H σ lo →
    (∀ σ', RepLo K ρ H σ' lo' → (∀ us : List Nat, (∀ i ∈ is, i ∈ us) → wipe σ' us = wipe σ us) → Q σ' H) → gAll is vs σ H Q
  | [], [], _, lo, lo', σ, Q, h, e, hl, q => by
    cases h
    cases e
    exact ⟨rfl, q σ hl fun _ _ => rfl⟩
  | i :: is, d :: ds, _, lo, lo', σ, Q, h, e, hl, q => by
    obtain ⟨v, r, rfl, h1, h2⟩ := h
    refine ⟨v, r, rfl, ?_⟩
    refine gAll_run (ρ := ρ) h2 e (hl.set i h1) fun σ' r' w => q σ' r' fun us hu => ?_
    rw [w us fun j hj => hu j (List.mem_cons_of_mem _ hj), wipe_set (hu i List.mem_cons_self)]
  | [], _ :: _, _, _, _, _, _, _, e, _, _ => by cases e
  | _ :: _, [], _, _, _, _, _, _, e, _, _ => by cases e
theorem setAll_len : ∀ {is : List Nat} {ds : List D} {lo lo' : Lo}, setAll is ds lo = some lo' → is.length = ds.length
  | [], [], _, _, _ => rfl
  | i :: is, d :: ds, lo, lo', e => by
    rw [List.length_cons, List.length_cons, setAll_len (is := is) (ds := ds) e]
  | [], _ :: _, _, _, e => by cases e
  | _ :: _, [], _, _, e => by cases e
theorem gT_run {K : PySem.W.Frag} {ρ : Rg} {H : Hp} {T : Tg} {d : D} {x : V} {lo lo' : Lo} {σ : St} {Q : St → Hp → Prop} (h : Rep K ρ H d x) (e : setT T d lo = some lo') (hl : RepLo K ρ H σ lo)
    (q : ∀ σ', RepLo K ρ H σ' lo' → (∀ us : List Nat, (∀ i ∈ T.slots, i ∈ us) → wipe σ' us = wipe σ us) → Q σ' H) : gT K T x σ H Q := by
  cases T with
  | nm i =>
    cases e
    exact q _ (hl.set i h) fun us hu => wipe_set (hu i List.mem_cons_self)
  | tp is =>
    cases d <;> try (cases e)
    rename_i ds
    obtain ⟨a, vs, rfl, h1, h2⟩ := Rep.sqT h
    refine ⟨a, vs, rfl, h1, ?_, gAll_run h2 e hl q⟩
    rw [← h2.length]
    exact (setAll_len e).symm
/-- e stored at a target -/
def mSet (T : Tg) (m : Lo → M D) : Lo → Sto → SR := fun lo s => bindS (m lo s) lo fun d s1 => match setT T d lo with
  | some lo' => .nx lo' s1
  | none => .bad
theorem pd_asg {tg e : Expr} {T : Tg} {m : Lo → M D} (he : PE X e (tM X.K c W m)) (hg : PG X tg (gT X.K T)) (hs : swapsWithSole [tg] e pos.line X.env = pure false := by rfl) (hw : swappedStores [tg] e X.env = pure none := by rfl) (h1 : (assignEach [tg] X.env).map (·.2) = [assign tg X.env] := by rfl) : PS X (.Assign [tg] e pos) (tMS X.K c W (mSet T m)) := by
  refine PS_imp (ps_asg he hg hs hw h1) fun E σ H h => ?_
  obtain ⟨ρ, lo, s, hl, hs, h⟩ := h
  refine ⟨ρ, lo, s, hl, hs, (okS.bind hl h).imp fun x H1 q => ?_⟩
  obtain ⟨ρ1, s1, a, e1, rs1, ra, h1⟩ := q
  split at h1
  · rename_i lo' el
    exact gT_run ra el (hl.ext e1) fun σ' r' _ => h1 σ' ρ1 H1 Ext.refl r' rs1
  · exact h1.elim
theorem pd_set (i : Nat) {x : Str} {e : Expr} {m : Lo → M D} {pos' : Pos} (hN : X.N.Nodup) (he : PE X e (tM X.K c W m)) (hi : X.N[i]? = some x := by rfl) (hx : Loc X.env.scope x := by first | exact .inl rfl | exact .inr rfl) (hs : swapsWith e (some (.Name x pos')) pos.line X.env = pure false := by rfl)
    (hf : X.fn x = true ∨ X.env.scope.names.lookup x = some .local := by first | exact .inl rfl | exact .inr rfl) : PS X (.Assign [.Name x pos'] e pos) (tMS X.K c W (mSet (.nm i) m)) := by
  refine PS_imp (ps_set hN hi hx he hs hf) fun E σ H h => ?_
  obtain ⟨ρ, lo, s, hl, hs, h⟩ := h
  refine ⟨ρ, lo, s, hl, hs, (okS.bind hl h).imp fun x H1 q => ?_⟩
  obtain ⟨ρ1, s1, a, e1, rs1, ra, h1⟩ := q
  exact h1 _ ρ1 H1 Ext.refl ((hl.ext e1).set i ra) rs1
theorem pg_nm (i : Nat) {x : Str} (hN : X.N.Nodup) (hi : X.N[i]? = some x := by rfl) (hx : Loc X.env.scope x := by first | exact .inl rfl | exact .inr rfl)
    (hf : X.fn x = true ∨ X.env.scope.names.lookup x = some .local := by first | exact .inl rfl | exact .inr rfl) : PG X (.Name x pos) (gT X.K (.nm i)) := pg_name hN hi hx hf
theorem pg_cons (i : Nat) {x : Str} {p : Pos} {es : List Expr} {is : List Nat} (hN : X.N.Nodup) (hr : PGs X es (gAll is)) (hi : X.N[i]? = some x := by rfl) (hx : Loc X.env.scope x := by first | exact .inl rfl | exact .inr rfl)
    (hf : X.fn x = true ∨ X.env.scope.names.lookup x = some .local := by first | exact .inl rfl | exact .inr rfl) : PGs X (.Name x p :: es) (gAll (i :: is)) := pgs_cons (pg_name hN hi hx hf) hr
theorem pg_nil : PGs X [] (gAll []) := pgs_nil
theorem pg_tp {es : List Expr} {is : List Nat} {k : Nat} (hc : X.calm = true) (h : PGs X es (gAll is)) (hn : (assignEach es X.env).length = is.length := by rfl) (hst : (assignEach es X.env).findIdx? (·.1) = none := by rfl) : PG X (.Tuple es k pos) (gT X.K (.tp is)) :=
  pg_tup hc h hn hst
end
end DL
set_option Elab.async false
set_option linter.all false
set_option maxRecDepth 100000
set_option maxHeartbeats 4000000
/-! DLd: defs and their calls. -/
namespace DL
open PySem PySem.Spec PyProof.Rows L2

/-- a def's promise, where no repr is under way -/
structure FnG (P : Program) (w : World) (K : PySem.W.Frag) (mg : Str → Option Value) (base : Heap) (k : Nat) (f : Addr) (fd : FuncData) (ps : List Str) (sp : Sp) : Prop where
  len : ∀ {vs H Q E}, sp vs H Q E → vs.length = ps.length
  run : ∀ {A : Around} {outer : List Env} {s : Shared} {H : Hp} {args : Args} {us : List Value} {vs : List V} {Q : VK} {E : XK}, Room k A → A.guards = some [] → Env0 P w K mg base A outer s H →
    BindsTo s fd args (ps.zip us) → Vals vs us → sp vs H Q E → codeAny (model P w) A (.call (.ref f) args) (CR (L2.CX P w) outer P w H s Q E) s
section
variable {P : Program} {w : World} {K : PySem.W.Frag} {mg : Str → Option Value} {base : Heap} {k : Nat} {f : Addr}
theorem FnG.mono {j : Nat} {fd : FuncData} {ps : List Str} {sp : Sp} (F : FnG P w K mg base j f fd ps sp) (h : j ≤ k) : FnG P w K mg base k f fd ps sp :=
  ⟨F.len, fun hr => F.run (hr.mono h)⟩
/-- by its body -/
theorem FnG.body {x qual : Str} {st : Stmt} {fd : FuncData} {N ps : List Str} {sp : Sp} (F : Fun K x qual st f fd) (S : FnScope N ps (defScope st)) (hlen : ∀ {vs H Q E}, sp vs H Q E → vs.length = ps.length)
    (hb : ∀ {cdv : Value} {A : Around} {outer : List Env} {s : Shared} {H : Hp} {vs : List V} {Q : VK} {E : XK}, Room k (A.deeper (envOfC qual (defScope st) s.heap.objs.size f cdv)) → A.guards = some [] → sp vs H Q E →
      ∃ t, PSs (cxOf (L2.CX P w) P w K mg base N qual (defScope st) f cdv A outer s H E) (defBody st) t ∧ t { nx := fun _ H' => Q .non H', rt := Q } (start N vs) H) : FnG P w K mg base (k + 1) f fd ps sp := by
  obtain ⟨oc, od, kV, doc, pm, an, cdv, ct, osl, hfd, lk, hcd⟩ := F.ex
  subst hfd
  constructor
  · exact hlen
  intro A outer s H args us vs Q E hr hgd e0 hbi rv hsp
  have up : ∀ {b o}, base.get? b = some o → s.heap.get? b = some o := fun e => (e0.bs _ _ e).1
  have inK : K.In s.heap := e0.mod.kin.keeps fun _ _ e => up e
  have noLim : s.heap.NoLimit := e0.mod.nolimit.keeps fun _ _ e => up e
  have kinds : ∀ y ∈ ps.zip us, (defScope st).names.lookup y.1 = some .local ∨ ((defScope st).names.lookup y.1 = some .cell ∧ ((cellsFrom (s.heap.objs.size + 1) (defScope st).names []).lookup y.1).isSome = true) := by
    intro y hy
    obtain ⟨n, v⟩ := y
    cases S.par n (List.of_mem_zip hy).1 with
    | inl q => exact Or.inl q
    | inr q => exact Or.inr (And.intro q (PySem.W.cellsFrom_some _ _ _ (Or.inl q)))
  apply codeAny_call_function hr.depth (inK _ _ lk) rfl S.co S.gen rfl (PySem.W.codeRec_of inK hcd)
  apply hbi
  apply wpAny_newFunctionEnv_cells S.kind kinds
  intro env henv s1 inCall
  subst henv
  constructor
  · exact noLim.keeps inCall.toInCall.keep
  apply codeAny_func
  obtain ⟨t, ht, hq⟩ := hb (cdv := cdv) (outer := outer) (s := s) (hr.deeper _) hgd hsp
  have J := inv_start (CX := L2.CX P w) (P := P) (w := w) (K := K) (mg := mg) (base := base) (N := N) (cd := cdv) (E := E) S hr.hd e0 (hlen hsp) rv inCall
  apply wpAny_mono (ht.run [] s1 (start N vs) H _ J hq)
  · intro fl s' hs
    cases fl with
    | next => let ⟨_, H', J', q⟩ := hs; exact ⟨V.non, H', J'.os, J'.bare, J'.base, J'.hok, rfl, q⟩
    | brk => let ⟨_, _, _, q⟩ := hs; exact q.elim
    | cont => let ⟨_, _, _, q⟩ := hs; exact q.elim
    | ret u => let ⟨v, _, H', J', r', q⟩ := hs; exact ⟨v, H', J'.os, J'.bare, J'.base, J'.hok, r', q⟩
  · exact fun _ _ h => h
end

/-- what a def promises by its meaning -/
def spM (K : PySem.W.Frag) (c : ClsM) (n : Nat) (m : List D → M D) : Sp := fun vs H Q E => vs.length = n ∧ ∃ ρ ds s, Reps K ρ H ds vs ∧ RepS K ρ H s ∧ okR K c (fun v d _ H => E v d H) [] ρ H (rD K) Q (m ds s)
/-- the def x of the module has the meaning m -/
structure FnD (P : Program) (w : World) (K : PySem.W.Frag) (mg : Str → Option Value) (base : Heap) (c : ClsM) (k : Nat) (x : Str) (ps : List Str) (m : List D → M D) : Prop where
  ex : ∃ f fd, mg x = some (.ref f) ∧ PySem.W.keepIn K (.ref f) = true ∧ Binds K fd ps [] ∧ FnG P w K mg base k f fd ps (spM K c ps.length m)
def callF (N n : Nat) (body : Lo → Sto → SR) : List D → M D := fun ds s => match body (ds.map some ++ List.replicate (N - n) none) s with
  | .nx _ s' => .ok .non s'
  | .rt d s' => .ok d s'
  | .exc x _ s' => .exc x s'
  | _ => .bad
theorem reps_lo {K : PySem.W.Frag} {ρ : Rg} {H : Hp} {ds : List D} {vs : List V} (h : Reps K ρ H ds vs) (j : Nat) : RepLo K ρ H (vs.map some ++ List.replicate j none) (ds.map some ++ List.replicate j none) := by
  refine ⟨by simp [h.length], fun i d e => ?_⟩
  by_cases hi : i < ds.length
  · rw [List.getElem?_append_left (by simpa using hi), List.getElem?_map] at e
    rw [List.getElem?_append_left (by rw [List.length_map, ← h.length]; exact hi), List.getElem?_map]
    cases e' : ds[i]? with
    | none => rw [e'] at e; cases e
    | some d' =>
      rw [e'] at e
      cases e
      obtain ⟨v, h1, h2⟩ := h.get e'
      exact ⟨v, by rw [h1]; rfl, h2⟩
  · rw [List.getElem?_append_right (by simpa using hi), List.getElem?_replicate] at e
    split at e <;> cases e
section
variable {P : Program} {w : World} {K : PySem.W.Frag} {mg : Str → Option Value} {base : Heap} {c : ClsM} {k : Nat}
theorem FnG.of {x qual : Str} {st : Stmt} {f : Addr} {fd : FuncData} {N ps : List Str} {body : Lo → Sto → SR} (F : Fun K x qual st f fd) (S : FnScope N ps (defScope st))
    (hb : ∀ {cdv : Value} {A : Around} {outer : List Env} {s : Shared} {H : Hp} {E : XK}, Room k (A.deeper (envOfC qual (defScope st) s.heap.objs.size f cdv)) → A.guards = some [] →
      PSs (cxOf (L2.CX P w) P w K mg base N qual (defScope st) f cdv A outer s H E) (defBody st) (tMS K c (fun v d _ H => E v d H) body)) : FnG P w K mg base (k + 1) f fd ps (spM K c ps.length (callF N.length ps.length body)) := by
  refine FnG.body F S (fun h => h.1) ?_
  intro cdv A outer s H vs Q E hr hgd hsp
  obtain ⟨hl, ρ, ds, s', h1, h2, h3⟩ := hsp
  refine ⟨_, hb hr hgd, ρ, ds.map some ++ List.replicate (N.length - ps.length) none, s', ?_, h2, ?_⟩
  · show RepLo K ρ H (start N vs) (ds.map some ++ List.replicate (N.length - ps.length) none)
    unfold L2.start
    rw [hl]
    exact reps_lo h1 _
  · unfold callF at h3
    cases e : body (ds.map some ++ List.replicate (N.length - ps.length) none) s' with
    | nx lo s2 => rw [e] at h3; exact fun σ ρ' H' e' _ rs => h3 V.non ρ' H' e' rfl rs
    | rt d s2 => rw [e] at h3; exact h3
    | bk lo s2 => rw [e] at h3; exact h3.elim
    | ct lo s2 => rw [e] at h3; exact h3.elim
    | exc xn lo s2 => rw [e] at h3; exact fun v dd σ ρ' H' e' hx _ rs => h3 v dd ρ' H' e' hx rs
    | bad => rw [e] at h3; exact h3.elim
theorem FnD.of {x qual : Str} {st : Stmt} {f : Addr} {fd : FuncData} {N ps : List Str} {body : Lo → Sto → SR} (F : Fun K x qual st f fd) (hm : mg x = some (.ref f)) (b : Binds K fd ps []) (S : FnScope N ps (defScope st))
    (hb : ∀ {cdv : Value} {A : Around} {outer : List Env} {s : Shared} {H : Hp} {E : XK}, Room k (A.deeper (envOfC qual (defScope st) s.heap.objs.size f cdv)) → A.guards = some [] →
      PSs (cxOf (L2.CX P w) P w K mg base N qual (defScope st) f cdv A outer s H E) (defBody st) (tMS K c (fun v d _ H => E v d H) body)) : FnD P w K mg base c (k + 1) x ps (callF N.length ps.length body) :=
  ⟨f, fd, hm, F.kp, b, FnG.of F S hb⟩
theorem FnD.mono {j : Nat} {x : Str} {ps : List Str} {m : List D → M D} (F : FnD P w K mg base c j x ps m) (h : j ≤ k) : FnD P w K mg base c k x ps m := by
  obtain ⟨f, fd, h1, h2, h3, h4⟩ := F.ex
  exact ⟨f, fd, h1, h2, h3, h4.mono h⟩
/-- a def that may not be called yet -/
theorem FnD.none {x : Str} {ps : List Str} (h : ∃ f fd, mg x = some (.ref f) ∧ PySem.W.keepIn K (.ref f) = true ∧ Binds K fd ps []) : FnD P w K mg base c k x ps (fun _ _ => .bad) := by
  obtain ⟨f, fd, h1, h2, h3⟩ := h
  exact ⟨f, fd, h1, h2, h3, fun h => h.1, fun _ _ _ _ _ h => let ⟨_, _, _, _, _, _, z⟩ := h; z.elim⟩
end

section
variable {X : Cx} {c : ClsM} {W : WX} {pos : Pos} {k : Nat}
def mCall (n : Nat) (m : List D → M D) (ma : Lo → M (List D)) : Lo → M D := fun lo s => (ma lo s).bind fun ds s1 => if ds.length = n then m ds s1 else .bad
/-- the callee's wish at the caller's slots -/
theorem okR_call {K : PySem.W.Frag} {W : WX} {σ : L2.St} {ρ : Rg} {H : Hp} {Q : VK} {r : R D} (h : okR K c W σ ρ H (rD K) Q r) : okR K c (fun v d _ H => W v d σ H) [] ρ H (rD K) Q r := by
  cases r with
  | ok a s => exact h
  | exc x s => exact h
  | bad => exact h
theorem runG {f : Addr} {fd : FuncData} {ps : List Str} {sp : Sp} {pins : List (Addr × Obj)} {σ : L2.St} {H : Hp} {s : Shared} {Q : VK} {us : List Value} {vs : List V} (F : FnG X.prog X.w X.K X.mg X.base k f fd ps sp) (hr : Room k X.A) (hgd : X.A.guards = some []) (hb : Binds X.K fd ps []) (tk : Takes X W)
    (J : Inv X pins σ H s) (r : Vals vs us) (h : sp vs H Q (fun v d H => W v d σ H)) : wpAny (model X.prog X.w) X.A (call (.ref f) us) (EP X pins σ Q) X.xe s := by
  have hl : us.length = ps.length := r.length.symm.trans (F.len h)
  have bb := hb s us J.kIn (by rw [List.append_nil]; exact hl)
  rw [List.append_nil] at bb
  apply wpAny_call
  apply codeAny_mono (F.run hr hgd J.env0 bb r h)
  intro res s' hq
  cases res with
  | ok fl =>
    cases fl <;> first
      | exact False.elim hq
      | exact J.after hq
  | error e => exact passAt tk σ pins H s e s' J hq
theorem pd_call {n : Nat} {x : Str} {p : Pos} {e : Expr} {es : List Expr} {ps : List Str} {m : List D → M D} {ma : Lo → M (List D)} (F : FnD X.prog X.w X.K X.mg X.base c k x ps m) (hr : Room k X.A) (hgd : X.A.guards = some []) (tk : Takes X W) (ha : PA X (e :: es) (tMA X.K c W ma)) (hg : Gl X x := by rfl)
    (hdb : (x == ("__debug__" : Str)) = false := by decide) (he : starEach (e :: es) X.env = (false, eval e X.env) :: starEach es X.env := by rfl) (hpl : (backTo pos (starEach es X.env)).any (·.1) = false := by rfl) (hps : ps.length = n := by rfl) :
    PE X (.Call (.Name x p) (e :: es) [] pos) (tM X.K c W (mCall n m ma)) := by
  subst hps
  obtain ⟨f, fd, hm, hk, hb, F⟩ := F.ex
  constructor
  intro pins s σ H Q J h
  apply wpAny_Call_Name_kw
  apply ld_glob J hg hm _ hdb
  refine PySem.W.callWith_K (h₀ := X.base) J.ok.mod.kin hk ?_ he hpl
  obtain ⟨ρ, lo, st, hl, hs, h⟩ := h
  refine thn (ha.run pos pins s σ H _ J ⟨ρ, lo, st, hl, hs, okR.bind h⟩) ?_
  intro us s1 q
  obtain ⟨vs, H1, J1, rv, ρ1, st1, ds, e1, rs1, rds, h1⟩ := q
  refine ⟨J1.kIn, ?_⟩
  split at h1
  · rename_i hn
    exact runG F hr hgd hb tk J1 rv ⟨rds.length.symm.trans hn, ρ1, ds, st1, rds, rs1, okR_call h1⟩
  · exact h1.elim
/-- f() -/
theorem pd_call0 {n : Nat} {x : Str} {p : Pos} {ps : List Str} {m : List D → M D} (F : FnD X.prog X.w X.K X.mg X.base c k x ps m) (hr : Room k X.A) (hgd : X.A.guards = some []) (tk : Takes X W) (hg : Gl X x := by rfl)
    (hdb : (x == ("__debug__" : Str)) = false := by decide) (hps : ps.length = n := by rfl) : PE X (.Call (.Name x p) [] [] pos) (tM X.K c W (mCall n m mNil)) := by
  subst hps
  obtain ⟨f, fd, hm, hk, hb, F⟩ := F.ex
  constructor
  intro pins s σ H Q J h
  apply wpAny_Call_Name_kw
  apply ld_glob J hg hm _ hdb
  refine PySem.W.callWith_K0 J.kIn hk ?_
  obtain ⟨ρ, lo, st, hl, hs, h⟩ := h
  have h1 : okR X.K c W σ ρ H (rD X.K) Q (if ([] : List D).length = ps.length then m [] st else .bad) := h
  split at h1
  · rename_i hn
    exact runG (us := []) (vs := []) F hr hgd hb tk J .nil ⟨hn, ρ, [], st, rfl, hs, okR_call h1⟩
  · exact h1.elim
end
end DL
set_option Elab.async false
set_option linter.all false
set_option maxRecDepth 100000
set_option maxHeartbeats 4000000
/-! DLe: what is walked, for, comprehensions. -/
namespace DL
open PySem L2
mutual
def D.beq : D → D → Bool
  | .non, .non => true
  | .bl a, .bl b => a == b
  | .int a, .int b => a == b
  | .str a, .str b => a == b
  | .lst a, .lst b => D.beqs a b
  | .tup a, .tup b => D.beqs a b
  | .dct k a, .dct l b => decide (k = l) && D.beqs a b
  | .loc a, .loc b => a == b
  | .scr a, .scr b => D.beqs a b
  | _, _ => false
def D.beqs : List D → List D → Bool
  | [], [] => true
  | a :: as, b :: bs => D.beq a b && D.beqs as bs
  | _, _ => false
end
mutual
theorem D.beq_ok : ∀ (a b : D), D.beq a b = true → a = b := by
  intro a b h
  cases a <;> cases b <;> unfold D.beq at h <;> first
    | rfl
    | exact absurd h (by decide)
    | (rw [eq_of_beq h])
    | (rw [D.beqs_ok _ _ h])
    | (rw [Bool.and_eq_true] at h; rw [of_decide_eq_true h.1, D.beqs_ok _ _ h.2])
theorem D.beqs_ok : ∀ (a b : List D), D.beqs a b = true → a = b := by
  intro a b h
  cases a <;> cases b <;> unfold D.beqs at h <;> first
    | rfl
    | exact absurd h (by decide)
    | (rw [Bool.and_eq_true] at h; rw [D.beq_ok _ _ h.1, D.beqs_ok _ _ h.2])
end
mutual
theorem D.beq_self : ∀ a : D, D.beq a a = true := by
  intro a
  cases a <;> unfold D.beq <;> first
    | rfl
    | exact beq_self_eq_true _
    | exact D.beqs_self _
    | (rw [Bool.and_eq_true]; exact ⟨decide_eq_true rfl, D.beqs_self _⟩)
theorem D.beqs_self : ∀ a : List D, D.beqs a a = true := by
  intro a
  cases a <;> unfold D.beqs <;> first
    | rfl
    | (rw [Bool.and_eq_true]; exact ⟨D.beq_self _, D.beqs_self _⟩)
end

structure Mon (ρ : Rg) (H : Hp) (ρ' : Rg) (H' : Hp) : Prop where
  f : ∀ a o, At H a o → ¬ ρ.has a → At H' a o ∧ ¬ ρ'.has a
  g : ∀ (n : Nat) (a : Addr), ρ.l[n]? = some a → ρ'.l[n]? = some a
theorem Ext.mon {ρ ρ' : Rg} {H H' : Hp} (e : Ext ρ H ρ' H') : Mon ρ H ρ' H' := ⟨fun _ _ => e.rd, fun _ _ => e.get⟩
theorem Mon.trans {ρ ρ1 ρ2 : Rg} {H H1 H2 : Hp} (a : Mon ρ H ρ1 H1) (b : Mon ρ1 H1 ρ2 H2) : Mon ρ H ρ2 H2 :=
  ⟨fun x o h n => let ⟨h1, n1⟩ := a.f x o h n; b.f x o h1 n1, fun n x h => b.g n x (a.g n x h)⟩
theorem Rep.mon {K : PySem.W.Frag} {ρ ρ' : Rg} {H H' : Hp} (e : Mon ρ H ρ' H') {d : D} {v : V} (h : Rep K ρ H d v) : Rep K ρ' H' d v := Rep.mono e.f e.g d v h
theorem Reps.mon {K : PySem.W.Frag} {ρ ρ' : Rg} {H H' : Hp} (e : Mon ρ H ρ' H') {d : List D} {v : List V} (h : Reps K ρ H d v) : Reps K ρ' H' d v := Reps.mono e.f e.g d v h
theorem RepLo.mon {K : PySem.W.Frag} {ρ ρ' : Rg} {H H' : Hp} {σ : L2.St} {lo : Lo} (e : Mon ρ H ρ' H') (r : RepLo K ρ H σ lo) : RepLo K ρ' H' σ lo :=
  ⟨r.len, fun i d h => let ⟨v, h1, h2⟩ := r.get i d h; ⟨v, h1, h2.mon e⟩⟩

abbrev Cnd := Option (Nat × List D)
def cndB : Cnd → Sto → Bool
  | none, _ => true
  | some (n, xs), s => match s[n]? with
    | some (.lst ys) => D.beqs xs ys
    | _ => false
theorem cnd_ok {n : Nat} {xs : List D} {s : Sto} (h : cndB (some (n, xs)) s = true) : s[n]? = some (.lst xs) := by
  simp only [cndB] at h
  cases e : s[n]? with
  | none => rw [e] at h; cases h
  | some o =>
    rw [e] at h
    cases o with
    | lst ys => rw [D.beqs_ok _ _ h]
    | dct ks ys => cases h
structure Src where
  items : List D
  cnd : Cnd
def ItD (K : PySem.W.Frag) (ρ0 : Rg) (H0 : Hp) (S : Src) (J : It) : Prop := ∀ ρ H s, Mon ρ0 H0 ρ H → RepS K ρ H s → cndB S.cnd s = true →
  (∀ i d, S.items[i]? = some d → J.go i H ∧ ∀ x H', J.yld i H x H' → ∃ ρ', Ext ρ H ρ' H' ∧ RepS K ρ' H' s ∧ Rep K ρ' H' d x) ∧ J.stop S.items.length H
abbrev tMI (K : PySem.W.Frag) (c : ClsM) (W : WX) (m : Lo → M Src) : TI := tG K c W (ItD K) m
def locItems (n : Nat) (s : Sto) : Option Src := match s[n]? with
  | some (.lst xs) => some ⟨xs, some (n, xs)⟩
  | _ => none
theorem locItems_ok {n : Nat} {s : Sto} {S : Src} (h : locItems n s = some S) : ∃ xs, s[n]? = some (.lst xs) ∧ S = ⟨xs, some (n, xs)⟩ := by
  unfold locItems at h
  cases e : s[n]? with
  | none => rw [e] at h; cases h
  | some o =>
    rw [e] at h
    cases o with
    | lst ys => cases h; exact ⟨ys, rfl, rfl⟩
    | dct ks ys => cases h
def itemsD : D → Sto → Option Src
  | .lst xs, _ => some ⟨xs, none⟩
  | .tup xs, _ => some ⟨xs, none⟩
  | .scr xs, _ => some ⟨xs, none⟩
  | .str x, _ => some ⟨x.cps.toList.map fun c => .str ⟨#[c]⟩, none⟩
  | .loc n, s => locItems n s
  | _, _ => none
def mIter (m : Lo → M D) : Lo → M Src := fun lo s => (m lo s).bind fun d s1 => match itemsD d s1 with
  | some S => .ok S s1
  | none => .bad
section
variable {K : PySem.W.Frag} {ρ : Rg} {H : Hp} {s : Sto} {v : V}
theorem itd_lst {xs : List D} {a : Addr} {vs : List V} (h1 : (At H a (.lst vs) ∧ ¬ ρ.has a) ∨ (∃ o, At H a (.frz o (.lst vs)) ∧ ¬ ρ.has a) ∨ LstK K a vs) (h3 : Reps K ρ H xs vs) : ItD K ρ H ⟨xs, none⟩ (Itl K a) := by
  intro ρ1 H1 s1 mo rs _
  have q1 : SqL K H1 a vs := by
    rcases h1 with ⟨h1, h2⟩ | ⟨o, h1, h2⟩ | h1
    · exact SqL.of (mo.f _ _ h1 h2).1.lst
    · exact .inl (.inr ⟨o, (mo.f _ _ h1 h2).1.frz⟩)
    · exact .inr h1
  have q3 := Reps.mon mo h3
  refine ⟨fun i d hd => ?_, ⟨vs, q1, by rw [h3.length]; exact Nat.le_refl _⟩⟩
  obtain ⟨u, hu, ru⟩ := q3.get hd
  refine ⟨⟨vs, u, q1, hu⟩, fun x H' hy => ?_⟩
  obtain ⟨rfl, hy⟩ := hy
  have e := hy vs q1
  rw [hu] at e
  cases e
  exact ⟨ρ1, Ext.refl, rs, ru⟩
theorem itd_tup {xs : List D} {a : Addr} {vs : List V} (h1 : (At H a (.tup vs) ∧ ¬ ρ.has a) ∨ TupK K a vs) (h3 : Reps K ρ H xs vs) : ItD K ρ H ⟨xs, none⟩ (Itt K a) := by
  intro ρ1 H1 s1 mo rs _
  have q1 : SqT K H1 a vs := by
    rcases h1 with ⟨h1, h2⟩ | h1
    · exact SqT.of (mo.f _ _ h1 h2).1.tup
    · exact .inr h1
  have q3 := Reps.mon mo h3
  refine ⟨fun i d hd => ?_, ⟨vs, q1, by rw [h3.length]; exact Nat.le_refl _⟩⟩
  obtain ⟨u, hu, ru⟩ := q3.get hd
  refine ⟨⟨vs, u, q1, hu⟩, fun x H' hy => ?_⟩
  obtain ⟨rfl, hy⟩ := hy
  have e := hy vs q1
  rw [hu] at e
  cases e
  exact ⟨ρ1, Ext.refl, rs, ru⟩
theorem itd_loc {xs : List D} {n : Nat} {a : Addr} (ha : ρ.l[n]? = some a) : ItD K ρ H ⟨xs, some (n, xs)⟩ (Itl K a) := by
  intro ρ1 H1 s1 mo rs hc
  have e := cnd_ok hc
  obtain ⟨vs, q1, q3⟩ := (rs.obj n a _ (mo.g _ _ ha) e : RepO K ρ1 H1 a (.lst xs))
  refine ⟨fun i d hd => ?_, ⟨vs, SqL.of q1, by rw [q3.length]; exact Nat.le_refl _⟩⟩
  obtain ⟨u, hu, ru⟩ := q3.get hd
  refine ⟨⟨vs, u, SqL.of q1, hu⟩, fun x H' hy => ?_⟩
  obtain ⟨rfl, hy⟩ := hy
  have e := hy vs (SqL.of q1)
  rw [hu] at e
  cases e
  exact ⟨ρ1, Ext.refl, rs, ru⟩
theorem itd_str {x : Str} : ItD K ρ H ⟨x.cps.toList.map fun c => .str ⟨#[c]⟩, none⟩ (Its x) := by
  intro ρ1 H1 s1 mo rs _
  refine ⟨fun i d hd => ?_, by show x.cps.size ≤ _; simp⟩
  rw [List.getElem?_map] at hd
  cases e : x.cps.toList[i]? with
  | none => rw [e] at hd; cases hd
  | some k =>
    rw [e] at hd
    cases hd
    have hi := (List.getElem?_eq_some_iff.mp e).1
    refine ⟨by show i < x.cps.size; simpa using hi, fun v H' hy => ?_⟩
    obtain ⟨rfl, k', e', rfl⟩ := hy
    have e2 : x.cps[i]? = some k := by simpa using e
    rw [e2] at e'
    cases e'
    exact ⟨ρ1, Ext.refl, rs, rfl⟩
theorem itd_range {lo : Int} {n : Nat} : ItD K ρ H ⟨(List.range n).map fun (i : Nat) => .int (lo + (i : Int)), none⟩ (Itr lo n) := by
  intro ρ1 H1 s1 mo rs _
  refine ⟨fun i d hd => ?_, by show n ≤ _; simp⟩
  rw [List.getElem?_map] at hd
  by_cases hi : i < n
  · rw [List.getElem?_range hi] at hd
    cases hd
    refine ⟨hi, fun v H' hy => ?_⟩
    obtain ⟨rfl, rfl⟩ := hy
    exact ⟨ρ1, Ext.refl, rs, rfl⟩
  · rw [List.getElem?_eq_none (by simpa using hi)] at hd
    cases hd
end
section
variable {X : Cx} {c : ClsM} {W : WX} {pos : Pos} {tg : Expr}
theorem pdi_val {l : Expr} {m : Lo → M D} (hl : PE X l (tM X.K c W m)) : PI X tg l (tMI X.K c W (mIter m)) := by
  refine ⟨fun pins s σ H R J h => ?_⟩
  obtain ⟨ρ, lo, st, h1, h2, h⟩ := h
  have hb := okR.bind (rep := rD X.K) h
  have use : ∀ {wi : TI}, PI X tg l wi → (∀ (_ : tM X.K c W m σ H fun x H1 => ∃ ρ1 s1 a, Ext ρ H ρ1 H1 ∧ RepS X.K ρ1 H1 s1 ∧ rD X.K ρ1 H1 a x ∧ okR X.K c W σ ρ1 H1 (ItD X.K) R (match itemsD a s1 with | some S => .ok S s1 | none => .bad)), wi σ H R) → _ := fun {wi} p q => p.run pins s σ H R J (q ⟨ρ, lo, st, h1, h2, hb⟩)
  cases e : m lo st with
  | bad => rw [e] at hb; exact hb.elim
  | exc x s' =>
    refine (pi_list hl).run pins s σ H R J ⟨ρ, lo, st, h1, h2, ?_⟩
    rw [e]; rw [e] at hb; exact hb
  | ok d s' =>
    unfold mIter at h
    rw [e] at h
    cases ei : itemsD d s' with
    | none =>
      have h' : okR X.K c W σ ρ H (ItD X.K) R (match itemsD d s' with | some S => .ok S s' | none => .bad) := h
      rw [ei] at h'; exact h'.elim
    | some S =>
      have h' : okR X.K c W σ ρ H (ItD X.K) R (match itemsD d s' with | some S => .ok S s' | none => .bad) := h
      rw [ei] at h'
      cases d with
      | lst xs =>
        cases ei
        refine (pi_list hl).run pins s σ H R J ⟨ρ, lo, st, h1, h2, ?_⟩
        rw [e]
        intro v ρ' H' e' rv rs
        obtain ⟨a, vs, rfl, q1, q2, q3⟩ := rv
        exact ⟨a, rfl, ⟨vs, SqL.of q1.lst⟩, h' _ ρ' H' e' (itd_lst (.inl ⟨q1, q2⟩) q3) rs⟩
      | scr xs =>
        cases ei
        refine (pi_list hl).run pins s σ H R J ⟨ρ, lo, st, h1, h2, ?_⟩
        rw [e]
        intro v ρ' H' e' rv rs
        obtain ⟨a', vs', e1, q4, _⟩ := Rep.scrL rv
        obtain ⟨a, vs, e2, q1, q3⟩ := rv
        obtain rfl : a = a' := by rw [e2] at e1; cases e1; rfl
        subst e2
        exact ⟨a, rfl, ⟨vs', q4⟩, h' _ ρ' H' e' (itd_lst (.inr q1) q3) rs⟩
      | tup xs =>
        cases ei
        refine (pi_tup hl).run pins s σ H R J ⟨ρ, lo, st, h1, h2, ?_⟩
        rw [e]
        intro v ρ' H' e' rv rs
        obtain ⟨a, vs, rfl, q1, q3⟩ := rv
        refine ⟨a, rfl, ⟨vs, ?_⟩, h' _ ρ' H' e' (itd_tup q1 q3) rs⟩
        rcases q1 with ⟨q1, _⟩ | q1
        · exact SqT.of q1.tup
        · exact .inr q1
      | str x =>
        cases ei
        refine (pi_str hl).run pins s σ H R J ⟨ρ, lo, st, h1, h2, ?_⟩
        rw [e]
        intro v ρ' H' e' rv rs
        exact ⟨x, rv, h' _ ρ' H' e' itd_str rs⟩
      | loc n =>
        obtain ⟨xs, el, rfl⟩ := locItems_ok ei
        refine (pi_list hl).run pins s σ H R J ⟨ρ, lo, st, h1, h2, ?_⟩
        rw [e]
        intro v ρ' H' e' rv rs
        obtain ⟨a, rfl, ha⟩ := rv
        obtain ⟨vs, q1, q3⟩ := (rs.obj n a _ ha el : RepO X.K ρ' H' a (.lst xs))
        exact ⟨a, rfl, ⟨vs, SqL.of q1⟩, h' _ ρ' H' e' (itd_loc ha) rs⟩
      | non => cases ei
      | bl b => cases ei
      | int i => cases ei
      | dct ks xs => cases ei
/-- range(a), range(a, b) -/
def rng1 : List D → M Src := fun ds s => match ds with
  | [.int j] => if -(2 ^ 62) ≤ j ∧ j < 2 ^ 62 then .ok ⟨(List.range j.toNat).map fun (i : Nat) => .int (0 + (i : Int)), none⟩ s else .bad
  | _ => .bad
def rng2 : List D → M Src := fun ds s => match ds with
  | [.int i, .int j] => if -(2 ^ 62) ≤ i ∧ i < 2 ^ 62 ∧ -(2 ^ 62) ≤ j ∧ j < 2 ^ 62 then .ok ⟨(List.range (j - i).toNat).map fun (k : Nat) => .int (i + (k : Int)), none⟩ s else .bad
  | _ => .bad
def mRng1 (m : Lo → M (List D)) : Lo → M Src := fun lo s => (m lo s).bind rng1
def mRng2 (m : Lo → M (List D)) : Lo → M Src := fun lo s => (m lo s).bind rng2
theorem reps_int {K : PySem.W.Frag} {ρ : Rg} {H : Hp} {i : Int} {vs : List V} (h : Reps K ρ H [.int i] vs) : vs = [.int i] := by
  obtain ⟨v, r, rfl, h1, h2⟩ := h
  cases h1; cases h2; rfl
theorem reps_int2 {K : PySem.W.Frag} {ρ : Rg} {H : Hp} {i j : Int} {vs : List V} (h : Reps K ρ H [.int i, .int j] vs) : vs = [.int i, .int j] := by
  obtain ⟨v, r, rfl, h1, h2⟩ := h
  rw [reps_int h2]
  cases h1; rfl
theorem pdi_range1 {a : Expr} {p : Pos} {m : Lo → M (List D)} (ha : PA X [a] (tMA X.K c W m)) (hm : X.mg "range" = none) (hg : Gl X "range" := by rfl) (hs : starEach [a] X.env = [(false, eval a X.env)] := by rfl) : PI X tg (.Call (.Name "range" p) [a] [] pos) (tMI X.K c W (mRng1 m)) := by
  refine ⟨fun pins s σ H R J h => (pi_range1 hg hm ha hs).run pins s σ H R J ?_⟩
  obtain ⟨ρ, lo, st, h1, h2, h⟩ := h
  refine ⟨ρ, lo, st, h1, h2, (okR.bind h).imp fun vs H1 q => ?_⟩
  obtain ⟨ρ1, s1, ds, e1, rs1, rds, h1⟩ := q
  unfold rng1 at h1
  split at h1
  · rename_i j
    split at h1
    · rename_i hj
      exact ⟨j, reps_int rds, hj.1, hj.2, h1 _ ρ1 H1 Ext.refl itd_range rs1⟩
    · exact h1.elim
  · exact h1.elim
theorem pdi_range2 {a b : Expr} {p : Pos} {m : Lo → M (List D)} (ha : PA X [a, b] (tMA X.K c W m)) (hm : X.mg "range" = none) (hg : Gl X "range" := by rfl) (hs : starEach [a, b] X.env = [(false, eval a X.env), (false, eval b X.env)] := by rfl) (hs2 : starEach [b] X.env = [(false, eval b X.env)] := by rfl) : PI X tg (.Call (.Name "range" p) [a, b] [] pos) (tMI X.K c W (mRng2 m)) := by
  refine ⟨fun pins s σ H R J h => (pi_range2 hg hm ha hs hs2).run pins s σ H R J ?_⟩
  obtain ⟨ρ, lo, st, h1, h2, h⟩ := h
  refine ⟨ρ, lo, st, h1, h2, (okR.bind h).imp fun vs H1 q => ?_⟩
  obtain ⟨ρ1, s1, ds, e1, rs1, rds, h1⟩ := q
  unfold rng2 at h1
  split at h1
  · rename_i i j
    split at h1
    · rename_i hj
      exact ⟨i, j, reps_int2 rds, hj, h1 _ ρ1 H1 Ext.refl itd_range rs1⟩
    · exact h1.elim
  · exact h1.elim

/-! ### for -/
def forS (T : Tg) (body : Lo → Sto → SR) (cnd : Cnd) : List D → Lo → Sto → SR
  | [], lo, s => if cndB cnd s = true then .nx lo s else .bad
  | d :: ds, lo, s => if cndB cnd s = true then (match setT T d lo with
    | none => .bad
    | some lo1 => match body lo1 s with
      | .nx lo2 s2 => forS T body cnd ds lo2 s2
      | .ct lo2 s2 => forS T body cnd ds lo2 s2
      | .bk lo2 s2 => .nx lo2 s2
      | .rt d s2 => .rt d s2
      | .exc x lo2 s2 => .exc x lo2 s2
      | .bad => .bad) else .bad
def mFor (T : Tg) (mi : Lo → M Src) (mb : Lo → Sto → SR) : Lo → Sto → SR := fun lo s => bindS (mi lo s) lo fun S s1 => forS T mb S.cnd S.items lo s1
theorem pd_for {iter : Expr} {body : List Stmt} {T : Tg} {mi : Lo → M Src} {mb : Lo → Sto → SR} (hp : PassesOwn (model X.prog X.w) X.A X.env X.xe) (hc : X.calm = true) (hi : PI X tg iter (tMI X.K c W mi)) (hg : PG X tg (gT X.K T)) (hb : PSs X body (tMS X.K c W mb))
    (hs : ∀ x, foldedSetIterable iter X.env x = pure x := by intro _; rfl) : PS X (.For tg iter body [] pos) (tMS X.K c W (mFor T mi mb)) := by
  refine PS_imp (ps_for hp hc hi hg hb hs) fun E σ H h => ?_
  obtain ⟨ρ, lo, s, hl, hs, h⟩ := h
  refine ⟨ρ, lo, s, hl, hs, (okS.bind hl h).imp fun J H1 q => ?_⟩
  obtain ⟨ρ1, s1, S, e1, rs1, rJ, h1⟩ := q
  refine ⟨fun i m σ H => m = S.items.length - i ∧ i ≤ S.items.length ∧ ∃ ρ lo s, RepLo X.K ρ H σ lo ∧ RepS X.K ρ H s ∧ Ext ρ1 H1 ρ H ∧ okS X.K c W E ρ H (forS T mb S.cnd (S.items.drop i) lo s),
    ⟨_, rfl, Nat.zero_le _, ρ1, lo, s1, hl.ext e1, rs1, Ext.refl, h1⟩, ?_⟩
  rintro i m σ2 H2 ⟨rfl, hi2, ρ2, lo2, s2, hl2, hs2, e2, h2⟩
  by_cases hlt : i < S.items.length
  · rw [List.drop_eq_getElem_cons hlt] at h2
    unfold forS at h2
    split at h2
    · rename_i hc2
      obtain ⟨go, yl⟩ := (rJ ρ2 H2 s2 e2.mon hs2 hc2).1 i _ (List.getElem?_eq_getElem hlt)
      refine .inr ⟨go, fun σ' H' => ∃ ρ lo s, RepLo X.K ρ H' σ' lo ∧ RepS X.K ρ H' s ∧ Ext ρ1 H1 ρ H' ∧ okS X.K c W E ρ H' (forS T mb S.cnd (S.items.drop (i + 1)) lo s), fun σ' H' q => ⟨S.items.length - (i + 1), by omega, rfl, hlt, q⟩, fun x H' hy => ?_⟩
      obtain ⟨ρ3, e3, rs3, rx⟩ := yl x H' hy
      split at h2
      · exact h2.elim
      · rename_i lo3 et
        refine gT_run rx et (hl2.ext e3) fun σ' r' _ => ⟨ρ3, lo3, s2, r', rs3, ?_⟩
        have h3 := okS.mono e3 h2
        cases eb : mb lo3 s2 with
        | nx lo4 s4 => simp only [eb] at h3; exact fun σ4 ρ4 H4 e4 r4 rs4 => ⟨ρ4, lo4, s4, r4, rs4, (e2.trans e3).trans e4, okS.mono e4 h3⟩
        | ct lo4 s4 => simp only [eb] at h3; exact fun σ4 ρ4 H4 e4 r4 rs4 => ⟨ρ4, lo4, s4, r4, rs4, (e2.trans e3).trans e4, okS.mono e4 h3⟩
        | bk lo4 s4 => simp only [eb] at h3; exact h3
        | rt d4 s4 => simp only [eb] at h3; exact h3
        | exc x4 lo4 s4 => simp only [eb] at h3; exact h3
        | bad => simp only [eb] at h3; exact h3
    · exact h2.elim
  · have ei : i = S.items.length := by omega
    subst ei
    rw [List.drop_length] at h2
    unfold forS at h2
    split at h2
    · rename_i hc2
      exact .inl ⟨(rJ ρ2 H2 s2 e2.mon hs2 hc2).2, h2 σ2 ρ2 H2 Ext.refl hl2 hs2⟩
    · exact h2.elim
end
end DL
set_option Elab.async false
set_option linter.all false
set_option maxRecDepth 100000
set_option maxHeartbeats 4000000
/-! DLf: list comprehensions whose parts raise nothing. -/
namespace DL
open PySem L2
abbrev WF : WX := fun _ _ _ _ => False
def noX {α : Type} : R α → R α
  | .ok a s => .ok a s
  | _ => .bad
def wipeD (lo : Lo) : List Nat → Lo
  | [] => lo
  | v :: vs => (wipeD lo vs).set v none
theorem RepLo.wipe {K : PySem.W.Frag} {ρ : Rg} {H : Hp} {σ : L2.St} {lo : Lo} (r : RepLo K ρ H σ lo) : ∀ vs : List Nat, RepLo K ρ H (L2.wipe σ vs) (wipeD lo vs)
  | [] => r
  | v :: vs => (RepLo.wipe r vs).setNone v none
def compR (T : Tg) (mt : Lo → M Bool) (me : Lo → M D) (cnd : Cnd) (lo : Lo) : List D → List D → M (List D)
  | [], acc => fun s => if cndB cnd s = true then .ok acc s else .bad
  | d :: ds, acc => fun s => if cndB cnd s = true then (match setT T d lo with
    | none => .bad
    | some lo1 => (noX (mt lo1 s)).bind fun b s1 => if b = true then (noX (me lo1 s1)).bind fun y s2 => (if acc.length < sizeLine then compR T mt me cnd lo ds (acc ++ [y]) s2 else .bad) else compR T mt me cnd lo ds acc s1) else .bad
def finD (fr : Bool) (ys : List D) : M D := if fr = true then ret (.lst ys) else newL ys
def mComp (fr : Bool) (own : List Nat) (T : Tg) (mi : Lo → M Src) (mt : Lo → M Bool) (me : Lo → M D) : Lo → M D := fun lo s => (mi lo s).bind fun S s1 => (compR T mt me S.cnd (wipeD lo own) S.items [] s1).bind fun ys s2 => finD fr ys s2
section
variable {K : PySem.W.Frag} {c : ClsM} {W : WX} {σ : L2.St} {ρ ρ1 ρ2 : Rg} {H H1 H2 : Hp} {α β α' β' : Type} {rep : RepT α β} {rep' : RepT α' β'}
theorem okR.bindN {Q : β' → Hp → Prop} {Q' : β → Hp → Prop} {r : R α} {f : α → M α'} {ρx : Rg} {Hx : Hp} (h : okR K c W σ ρx Hx rep' Q ((noX r).bind f))
    (q : ∀ a s b ρ' H', okR K c W σ ρx Hx rep' Q (f a s) → Ext ρ H ρ' H' → rep ρ' H' a b → RepS K ρ' H' s → Q' b H') {σ' : L2.St} : okR K c WF σ' ρ H rep Q' r := by
  cases r with
  | ok a s => exact fun b ρ' H' e' rb rs => q a s b ρ' H' h e' rb rs
  | exc x s => exact h.elim
  | bad => exact h.elim
/-- without what is being made -/
theorem Ext.low {t : List Addr} (e : Ext ρ H ρ2 H2) : Ext ⟨ρ.l, t⟩ H ⟨ρ2.l, t⟩ H2 := ⟨e.pre, rfl, e.keep, e.new, e.dom⟩
end
section
variable {X : Cx} {c : ClsM} {W : WX} {pos : Pos}
theorem mon_tmp {K : PySem.W.Frag} {ρ : Rg} {H : Hp} {Da : Addr} {o : HO} (hDa : H Da = none) : Mon ρ H ⟨ρ.l, Da :: ρ.t⟩ (upd H Da o) := by
  refine ⟨fun a u ha hn => ?_, fun _ _ z => z⟩
  have hne : a ≠ Da := fun z => At.ne ha (by rw [z]; exact hDa)
  refine ⟨?_, fun z => ?_⟩
  · obtain ⟨x, ha, hu⟩ := ha
    exact ⟨x, by rw [upd_ne hne]; exact ha, hu⟩
  · rcases z with z | z
    · exact hn (.inl z)
    · rcases List.mem_cons.mp z with z | z
      · exact hne z
      · exact hn (.inr z)
theorem reps_tmp {K : PySem.W.Frag} {ρ : Rg} {H : Hp} {s : Sto} {Da : Addr} {o : HO} (rs : RepS K ρ H s) (hDa : H Da = none) : RepS K ⟨ρ.l, Da :: ρ.t⟩ (upd H Da o) s := by
  have m := mon_tmp (K := K) (ρ := ρ) (o := o) hDa
  refine ⟨rs.len, rs.nd, fun n a ob q1 q2 => ?_, fun a ha => ?_⟩
  · exact (rs.obj n a ob q1 q2).mono m.f m.g (upd_ne fun z => rs.mem (List.mem_of_getElem? q1) (by rw [z]; exact hDa))
  · rcases List.mem_cons.mp ha with ha | ha
    · subst ha
      exact ⟨by rw [upd_same]; exact fun z => (nomatch z), fun z => rs.fresh hDa (.inl z)⟩
    · exact ⟨upd_some (rs.tmp a ha).1, (rs.tmp a ha).2⟩
/-- what is being made is written -/
theorem mon_wr {ρ : Rg} {H : Hp} {Da : Addr} {o : HO} (hD : Da ∈ ρ.t) : Mon ρ H ρ (upd H Da o) := by
  refine ⟨fun a u ha hn => ⟨?_, hn⟩, fun _ _ z => z⟩
  have hne : a ≠ Da := fun z => hn (.inr (by rw [z]; exact hD))
  obtain ⟨x, ha, hu⟩ := ha
  exact ⟨x, by rw [upd_ne hne]; exact ha, hu⟩
theorem reps_wr {K : PySem.W.Frag} {ρ : Rg} {H : Hp} {s : Sto} {Da : Addr} {o : HO} (rs : RepS K ρ H s) (hD : Da ∈ ρ.t) : RepS K ρ (upd H Da o) s := by
  have m := mon_wr (H := H) (o := o) hD
  exact ⟨rs.len, rs.nd, fun n a ob q1 q2 => (rs.obj n a ob q1 q2).mono m.f m.g (upd_ne fun z => (rs.tmp Da hD).2 (by rw [← z]; exact List.mem_of_getElem? q1)), fun a ha => ⟨upd_some (rs.tmp a ha).1, (rs.tmp a ha).2⟩⟩
theorem wipe_idem (σ : L2.St) (vs : List Nat) : wipe (wipe σ vs) vs = wipe σ vs := by
  have go : ∀ (us ws : List Nat), (∀ u ∈ us, u ∈ ws) → wipe (wipe σ us) ws = wipe σ ws := by
    intro us
    induction us with
    | nil => intro ws _; rfl
    | cons u us ih =>
      intro ws hu
      show wipe ((wipe σ us).set u none) ws = _
      rw [wipe_set (hu u List.mem_cons_self)]
      exact ih ws fun z hz => hu z (List.mem_cons_of_mem _ hz)
  exact go vs vs fun _ h => h
theorem comp_run {fr : Bool} {own : List Nat} {T : Tg} {mi : Lo → M Src} {mt : Lo → M Bool} {me : Lo → M D} {σ : L2.St} {H : Hp} {Q : VK} (hT : ∀ i ∈ T.slots, i ∈ own) (h : tM X.K c W (mComp fr own T mi mt me) σ H Q) :
    tLc (tMI X.K c W mi) (gT X.K T) (tMB X.K c WF mt) (tM X.K c WF me) own σ H Q := by
  obtain ⟨ρ, lo, s, hl, hs, h⟩ := h
  refine ⟨ρ, lo, s, hl, hs, (okR.bind h).imp fun J H1 q => ?_⟩
  obtain ⟨ρ1, s1, S, e1, rs1, rJ, h1⟩ := q
  intro Da hDa
  have hl1 : RepLo X.K ρ1 H1 (wipe σ own) (wipeD lo own) := (hl.ext e1).wipe own
  refine ⟨fun i m H => m = S.items.length - i ∧ i ≤ S.items.length ∧ ∃ ρ s acc vs, ρ.t = Da :: ρ1.t ∧ Ext ρ1 H1 ⟨ρ.l, ρ1.t⟩ H ∧ Mon ρ1 H1 ρ H ∧ RepS X.K ρ H s ∧ H Da = some (.lst vs) ∧ Reps X.K ρ H acc vs ∧
      okR X.K c W σ ρ1 H1 (rD X.K) Q ((compR T mt me S.cnd (wipeD lo own) (S.items.drop i) acc s).bind fun ys s2 => finD fr ys s2), ⟨_, rfl, Nat.zero_le _, ⟨ρ1.l, Da :: ρ1.t⟩, s1, [], [], rfl, Ext.alloc hDa, mon_tmp (K := X.K) hDa, reps_tmp rs1 hDa, upd_same, rfl, h1⟩, ?_⟩
  rintro i m H2 ⟨rfl, hi2, ρ2, s2, acc, vs, ht, e2, mo2, rs2, hD, racc, h2⟩
  have DaT : Da ∈ ρ2.t := by rw [ht]; exact List.mem_cons_self
  have DaL : Da ∉ ρ2.l := (rs2.tmp Da DaT).2
  by_cases hlt : i < S.items.length
  · rw [List.drop_eq_getElem_cons hlt] at h2
    unfold compR at h2
    by_cases hc2 : cndB S.cnd s2 = true
    · rw [if_pos hc2] at h2
      obtain ⟨go, yl⟩ := (rJ ρ2 H2 s2 mo2 rs2 hc2).1 i _ (List.getElem?_eq_getElem hlt)
      refine .inr ⟨go, fun H => ∃ ρ s acc vs, ρ.t = Da :: ρ1.t ∧ Ext ρ1 H1 ⟨ρ.l, ρ1.t⟩ H ∧ Mon ρ1 H1 ρ H ∧ RepS X.K ρ H s ∧ H Da = some (.lst vs) ∧ Reps X.K ρ H acc vs ∧
        okR X.K c W σ ρ1 H1 (rD X.K) Q ((compR T mt me S.cnd (wipeD lo own) (S.items.drop (i + 1)) acc s).bind fun ys s2 => finD fr ys s2), fun H' q => ⟨S.items.length - (i + 1), by omega, rfl, hlt, q⟩, fun x H' hy => ?_⟩
      obtain ⟨ρ3, e3, rs3, rx⟩ := yl x H' hy
      cases et : setT T S.items[i] (wipeD lo own) with
      | none => rw [et] at h2; exact h2.elim
      | some lo3 =>
        rw [et] at h2
        refine gT_run rx et (hl1.mon (mo2.trans e3.mon)) fun σ' r' hw => ⟨?_, ρ3, lo3, s2, r', rs3, ?_⟩
        · rw [hw own hT, wipe_idem]
        have h3 : okR X.K c W σ ρ1 H1 (rD X.K) Q ((noX (mt lo3 s2)).bind fun b s1 => (if b = true then (noX (me lo3 s1)).bind fun y s2 => (if acc.length < sizeLine then compR T mt me S.cnd (wipeD lo own) (S.items.drop (i + 1)) (acc ++ [y]) s2 else .bad) else compR T mt me S.cnd (wipeD lo own) (S.items.drop (i + 1)) acc s1).bind fun ys s2 => finD fr ys s2) := by
          cases eb : mt lo3 s2 with
          | ok b s' => simp only [eb] at h2; exact h2
          | exc x s' => simp only [eb] at h2; exact h2
          | bad => simp only [eb] at h2; exact h2
        refine okR.bindN h3 fun b s4 b' ρ4 H4 h4 e4 rb rs4 => ?_
        obtain rfl : b = b' := rb
        have e24 := e3.trans e4
        have t4 : ρ4.t = Da :: ρ1.t := by rw [e4.tm, e3.tm, ht]
        have hD4 : H4 Da = some (.lst vs) := e24.keep _ _ hD DaL
        have L4 : Ext ρ1 H1 ⟨ρ4.l, ρ1.t⟩ H4 := e2.trans (e24.low (t := ρ1.t))
        have M4 : Mon ρ1 H1 ρ4 H4 := mo2.trans e24.mon
        cases b with
        | false => exact iteF ⟨ρ4, s4, acc, vs, t4, L4, M4, rs4, hD4, Reps.ext e24 racc, h4⟩
        | true =>
          refine iteT ⟨ρ4, lo3, s4, r'.ext e4, rs4, ?_⟩
          have h5 : okR X.K c W σ ρ1 H1 (rD X.K) Q ((noX (me lo3 s4)).bind fun y s2 => (if acc.length < sizeLine then compR T mt me S.cnd (wipeD lo own) (S.items.drop (i + 1)) (acc ++ [y]) s2 else .bad).bind fun ys s2 => finD fr ys s2) := by
            rw [if_pos rfl] at h4
            cases eb : me lo3 s4 with
            | ok b s' => simp only [eb] at h4; exact h4
            | exc x s' => simp only [eb] at h4; exact h4
            | bad => simp only [eb] at h4; exact h4
          refine okR.bindN h5 fun y s5 yv ρ5 H5 h6 e5 ry rs5 => ?_
          by_cases hz : acc.length < sizeLine
          · rw [if_pos hz] at h6
            have e25 := e24.trans e5
            have hD5 : H5 Da = some (.lst vs) := e25.keep _ _ hD DaL
            have t5 : ρ5.t = Da :: ρ1.t := by rw [e5.tm, t4]
            have DaT5 : Da ∈ ρ5.t := by rw [t5]; exact List.mem_cons_self
            have e1u : Ext ρ1 H1 ⟨ρ5.l, ρ1.t⟩ (upd H5 Da (.lst (vs ++ [yv]))) := by
              have z := L4.trans (e5.low (t := ρ1.t))
              refine ⟨z.pre, rfl, fun a o ha hn => ?_, z.new, fun a ha => z.dom a (upd_none ha)⟩
              rw [upd_ne (ne_of_none ha hDa)]
              exact z.keep a o ha hn
            exact ⟨vs, hD5, by rw [← racc.length]; exact hz, ρ5, s5, acc ++ [y], vs ++ [yv], t5, e1u, (M4.trans e5.mon).trans (mon_wr DaT5), reps_wr rs5 DaT5, upd_same,
              Reps.append (Reps.mon (mon_wr DaT5) (Reps.ext e25 racc)) ⟨yv, [], rfl, Rep.mon (mon_wr DaT5) ry, rfl⟩, h6⟩
          · rw [if_neg hz] at h6; exact h6.elim
    · rw [if_neg hc2] at h2; exact h2.elim
  · have ei : i = S.items.length := by omega
    subst ei
    rw [List.drop_length] at h2
    unfold compR at h2
    by_cases hc2 : cndB S.cnd s2 = true
    · rw [if_pos hc2] at h2
      refine .inl ⟨(rJ ρ2 H2 s2 mo2 rs2 hc2).2, ?_⟩
      have DaT1 : Da ∉ ρ1.t := fun z => (rs1.tmp Da z).1 hDa
      have hlow : ∀ a, ¬ ρ2.has a → ¬ (⟨ρ2.l, ρ1.t⟩ : Rg).has a := fun a hn z => hn (z.elim .inl fun z => .inr (by rw [ht]; exact List.mem_cons_of_mem _ z))
      have ml : Mon ρ2 H2 ⟨ρ2.l, ρ1.t⟩ H2 := ⟨fun a o ha hn => ⟨ha, hlow a hn⟩, fun _ _ z => z⟩
      have rsl : RepS X.K ⟨ρ2.l, ρ1.t⟩ H2 s2 := ⟨rs2.len, rs2.nd, fun n a ob q1 q2 => (rs2.obj n a ob q1 q2).mono ml.f ml.g rfl, fun a ha => rs2.tmp a (by rw [ht]; exact List.mem_cons_of_mem _ ha)⟩
      cases fr with
      | true => exact h2 (.ref Da) ⟨ρ2.l, ρ1.t⟩ H2 e2 ⟨Da, vs, rfl, At.of hD, fun z => z.elim DaL DaT1, Reps.mon ml racc⟩ rsl
      | false =>
        have eL : Ext ρ1 H1 ⟨ρ2.l ++ [Da], ρ1.t⟩ H2 := by
          obtain ⟨x, hx⟩ := e2.pre
          refine ⟨⟨x ++ [Da], by show ρ2.l ++ [Da] = _; rw [show ρ2.l = ρ1.l ++ x from hx, List.append_assoc]⟩, rfl, e2.keep, fun a ha => ?_, e2.dom⟩
          rcases List.mem_append.mp ha with ha | ha
          · exact e2.new a ha
          · rw [List.mem_singleton.mp ha]; exact .inr hDa
        have hl2 : ∀ a, ¬ ρ2.has a → ¬ (⟨ρ2.l ++ [Da], ρ1.t⟩ : Rg).has a := fun a hn z => by
          rcases z with z | z
          · rcases List.mem_append.mp z with z | z
            · exact hn (.inl z)
            · rw [List.mem_singleton.mp z] at hn; exact hn (.inr DaT)
          · exact hn (.inr (by rw [ht]; exact List.mem_cons_of_mem _ z))
        have m2 : Mon ρ2 H2 ⟨ρ2.l ++ [Da], ρ1.t⟩ H2 := ⟨fun a o ha hn => ⟨ha, hl2 a hn⟩, fun n a hg => by
          show (ρ2.l ++ [Da])[n]? = some a
          rw [List.getElem?_append_left (List.getElem?_eq_some_iff.mp hg).1]; exact hg⟩
        refine h2 (.ref Da) ⟨ρ2.l ++ [Da], ρ1.t⟩ H2 eL ⟨Da, rfl, by show (ρ2.l ++ [Da])[s2.length]? = some Da; rw [rs2.len]; simp⟩ ⟨by simp [rs2.len], ?_, fun n a ob q1 q2 => ?_, fun a ha => ?_⟩
        · show (ρ2.l ++ [Da]).Nodup
          rw [List.nodup_append]
          refine ⟨rs2.nd, by simp, fun a ha b hb => ?_⟩
          rw [List.mem_singleton.mp hb]
          exact fun z => DaL (by rw [← z]; exact ha)
        · have q1 : (ρ2.l ++ [Da])[n]? = some a := q1
          by_cases hn : n < ρ2.l.length
          · rw [List.getElem?_append_left hn] at q1
            rw [List.getElem?_append_left (by rw [rs2.len]; exact hn)] at q2
            exact (rs2.obj n a ob q1 q2).mono m2.f m2.g rfl
          · have hn' : n = ρ2.l.length := by
              have := (List.getElem?_eq_some_iff.mp q1).1
              simp at this; omega
            subst hn'
            rw [List.getElem?_append_right (Nat.le_refl _)] at q1
            rw [List.getElem?_append_right (by rw [rs2.len]; exact Nat.le_refl _)] at q2
            simp [rs2.len] at q1 q2
            subst q1 q2
            exact ⟨vs, hD, Reps.mon m2 racc⟩
        · have z := rs2.tmp a (by rw [ht]; exact List.mem_cons_of_mem _ ha)
          refine ⟨z.1, fun hm => ?_⟩
          rcases List.mem_append.mp hm with hm | hm
          · exact z.2 hm
          · exact DaT1 (by rw [← List.mem_singleton.mp hm]; exact ha)
    · rw [if_neg hc2] at h2; exact h2.elim

theorem pts_any : PTs X [] (tMB X.K c W fun _ => ret true) := ⟨fun pins s σ H Q I h => by
  obtain ⟨ρ, lo, st, h1, h2, h⟩ := h
  exact pts_nil.run pins s σ H Q I (h true ρ H Ext.refl rfl h2)⟩
theorem pts_1 {e : Expr} {m : Lo → M Bool} (h : PT X e (tMB X.K c W m)) : PTs X [e] (tMB X.K c W m) := pts_one h
theorem pd_lc (fr : Bool) {elt tg iter : Expr} {ifs : List Expr} {scope : Scope} {T : Tg} (own : List (Str × Nat)) {mi : Lo → M Src} {mt : Lo → M Bool} {me : Lo → M D} (hc : X.calm = true) (hN : X.N.Nodup) (hi : PI X tg iter (tMI X.K c W mi)) (ok : BlkOk X.N X.env.scope scope own)
    (hg : ∀ (s : Shared) (H : Hp) (C : Addr) (cl : List (Str × Addr)) (fp : List Addr), PG (X.blk s H scope (compEnvC scope cl C X.env) fp) tg (gT X.K T)) (ht : ∀ (s : Shared) (H : Hp) (C : Addr) (cl : List (Str × Addr)) (fp : List Addr), PTs (X.blk s H scope (compEnvC scope cl C X.env) fp) ifs (tMB X.K c WF mt))
    (he : ∀ (s : Shared) (H : Hp) (C : Addr) (cl : List (Str × Addr)) (fp : List Addr), PE (X.blk s H scope (compEnvC scope cl C X.env) fp) elt (tM X.K c WF me)) (hT : ∀ i ∈ T.slots, i ∈ own.map (·.2) := by decide) (hs : ∀ x, foldedSetIterable iter X.env x = pure x := by intro _; rfl) :
    PE X (.ListComp elt [⟨tg, iter, ifs, 0⟩] scope pos) (tM X.K c W (mComp fr (own.map (·.2)) T mi mt me)) :=
  PE_imp (pe_lc hc hN hi ok hg ht he hs) fun _ _ _ h => comp_run hT h
theorem pd_setLc (fr : Bool) (i : Nat) {y : Str} {py : Pos} {elt tg iter : Expr} {ifs : List Expr} {scope : Scope} {lpos : Pos} {T : Tg} (own : List (Str × Nat)) {mi : Lo → M Src} {mt : Lo → M Bool} {me : Lo → M D} (hc : X.calm = true) (hN : X.N.Nodup) (hsw : swapsWith (.ListComp elt [⟨tg, iter, ifs, 0⟩] scope lpos) (some (.Name y py)) pos.line X.env = pure true)
    (hi : PI X tg iter (tMI X.K c W mi)) (ok : BlkOk X.N X.env.scope scope own)
    (hg : ∀ (s : Shared) (H : Hp) (C : Addr) (cl : List (Str × Addr)) (fp : List Addr), PG (X.blk s H scope (compEnvC scope cl C X.env) fp) tg (gT X.K T)) (ht : ∀ (s : Shared) (H : Hp) (C : Addr) (cl : List (Str × Addr)) (fp : List Addr), PTs (X.blk s H scope (compEnvC scope cl C X.env) fp) ifs (tMB X.K c WF mt))
    (he : ∀ (s : Shared) (H : Hp) (C : Addr) (cl : List (Str × Addr)) (fp : List Addr), PE (X.blk s H scope (compEnvC scope cl C X.env) fp) elt (tM X.K c WF me)) (hT : ∀ i ∈ T.slots, i ∈ own.map (·.2) := by decide) (hy : X.N[i]? = some y := by rfl) (hyl : X.env.scope.names.lookup y = some .local := by rfl) (hs : ∀ x, foldedSetIterable iter X.env x = pure x := by intro _; rfl) :
    PS X (.Assign [.Name y py] (.ListComp elt [⟨tg, iter, ifs, 0⟩] scope lpos) pos) (tMS X.K c W (mSet (.nm i) (mComp fr (own.map (·.2)) T mi mt me))) := by
  refine PS_imp (ps_setLc hc hN hy hyl hsw hi ok hg ht he hs) fun E σ H h => ?_
  refine comp_run (X := X) (c := c) (W := W) (fr := fr) hT ?_
  obtain ⟨ρ, lo, s, hl, hs, h⟩ := h
  refine ⟨ρ, lo, s, hl, hs, (okS.bind hl h).imp fun x H1 q => ?_⟩
  obtain ⟨ρ1, s1, a, e1, rs1, ra, h1⟩ := q
  exact h1 _ ρ1 H1 Ext.refl ((hl.ext e1).set i ra) rs1
end
end DL
set_option Elab.async false
set_option linter.all false
set_option maxRecDepth 100000
set_option maxHeartbeats 4000000
/-! DLg: operators and built-ins on data. -/
namespace DL
open PySem L2
/-- the items of a list -/
def listOf : D → Sto → Option (List D)
  | .lst xs, _ => some xs
  | .scr xs, _ => some xs
  | .loc n, s => match s[n]? with
    | some (.lst xs) => some xs
    | _ => none
  | _, _ => none
section
variable {K : PySem.W.Frag} {ρ : Rg} {H : Hp} {s : Sto}
theorem listOf_loc {n : Nat} {s : Sto} {xs : List D} (h : listOf (.loc n) s = some xs) : s[n]? = some (.lst xs) := by
  simp only [listOf] at h
  cases e : s[n]? with
  | none => rw [e] at h; cases h
  | some o =>
    rw [e] at h
    cases o with
    | lst ys => cases h; rfl
    | dct ks ys => cases h
theorem listOf_ok {d : D} {v : V} {xs : List D} (rs : RepS K ρ H s) (rd : Rep K ρ H d v) (h : listOf d s = some xs) : ∃ a vs, v = .ref a ∧ SqL K H a vs ∧ Reps K ρ H xs vs := by
  cases d with
  | lst ys => cases h; exact Rep.sqL rd
  | scr ys => cases h; exact Rep.scrL rd
  | loc n =>
    obtain ⟨a, rfl, ha⟩ := rd
    obtain ⟨vs, q1, q2⟩ := (rs.obj n a _ ha (listOf_loc h) : RepO K ρ H a (.lst xs))
    exact ⟨a, vs, rfl, SqL.of q1, q2⟩
  | _ => cases h
/-- the items of a list that is tracked as it is -/
def plOf : D → Sto → Option (List D)
  | .scr _, _ => none
  | d, s => listOf d s
theorem plOf_ok {d : D} {v : V} {xs : List D} (rs : RepS K ρ H s) (rd : Rep K ρ H d v) (h : plOf d s = some xs) : ∃ a vs, v = .ref a ∧ H a = some (.lst vs) ∧ Reps K ρ H xs vs := by
  cases d with
  | lst ys => cases h; obtain ⟨a, vs, h1, h2, _, h3⟩ := rd; exact ⟨a, vs, h1, h2.lst, h3⟩
  | loc n =>
    obtain ⟨a, rfl, ha⟩ := rd
    obtain ⟨vs, q1, q2⟩ := (rs.obj n a _ ha (listOf_loc h) : RepO K ρ H a (.lst xs))
    exact ⟨a, vs, rfl, q1, q2⟩
  | _ => cases h
/-- the items of a list or a tuple -/
def seqOf : D → Sto → Option (List D)
  | .tup xs, _ => some xs
  | d, s => listOf d s
theorem seqOf_ok {d : D} {v : V} {xs : List D} (rs : RepS K ρ H s) (rd : Rep K ρ H d v) (h : seqOf d s = some xs) : ∃ a vs, v = .ref a ∧ (SqL K H a vs ∨ SqT K H a vs) ∧ Reps K ρ H xs vs := by
  cases d with
  | tup ys => cases h; obtain ⟨a, vs, h1, h2, h3⟩ := Rep.sqT rd; exact ⟨a, vs, h1, .inr h2, h3⟩
  | lst ys => obtain ⟨a, vs, h1, h2, h3⟩ := listOf_ok rs rd h; exact ⟨a, vs, h1, .inl h2, h3⟩
  | scr ys => obtain ⟨a, vs, h1, h2, h3⟩ := listOf_ok rs rd h; exact ⟨a, vs, h1, .inl h2, h3⟩
  | loc n => obtain ⟨a, vs, h1, h2, h3⟩ := listOf_ok rs rd h; exact ⟨a, vs, h1, .inl h2, h3⟩
  | _ => cases h
/-- flat data as a value -/
def D.toV : D → V
  | .non => .non
  | .bl b => .bl b
  | .int i => .int i
  | .str x => .str x
  | _ => .ty ""
theorem flat_v {d : D} {v : V} (rd : Rep K ρ H d v) (h : flatV d.toV = true) : v = d.toV := by
  cases d <;> first
    | exact rd
    | exact absurd (show flatV (.ty "") = true from h) (by decide)
theorem flat_vs : ∀ {xs : List D} {vs : List V}, Reps K ρ H xs vs → (xs.map D.toV).all flatV = true → vs = xs.map D.toV
  | [], _, h, _ => h
  | x :: xs, _, h, f => by
    obtain ⟨v, r, rfl, h1, h2⟩ := h
    rw [List.map_cons, List.all_cons, Bool.and_eq_true] at f
    rw [List.map_cons, flat_v h1 f.1, flat_vs h2 f.2]
/- as the library's data -/
mutual
def toPy (s : Sto) : Nat → D → Option PyData
  | _, .non => some .none
  | _, .bl b => some (.bool b)
  | _, .int i => some (.int i)
  | _, .str x => some (.str x)
  | 0, _ => none
  | n + 1, .lst xs => (toPys s n xs).map .list
  | n + 1, .tup xs => (toPys s n xs).map .tuple
  | n + 1, .scr xs => (toPys s n xs).map .list
  | n + 1, .loc k => match s[k]? with
    | some (.lst xs) => (toPys s n xs).map .list
    | _ => none
  | _, .dct _ _ => none
def toPys (s : Sto) : Nat → List D → Option (List PyData)
  | _, [] => some []
  | n, x :: xs => match toPy s n x, toPys s n xs with
    | some p, some ps => some (p :: ps)
    | _, _ => none
end
mutual
theorem toPy_ok (rs : RepS K ρ H s) : ∀ (n : Nat) (d : D) (v : V) (p : PyData), Rep K ρ H d v → toPy s n d = some p → Dp K H v p
  | n, .non, _, _, r, h => by cases r; simp only [toPy] at h; cases h; exact .non
  | n, .bl b, _, _, r, h => by cases r; simp only [toPy] at h; cases h; exact .bl b
  | n, .int b, _, _, r, h => by cases r; simp only [toPy] at h; cases h; exact .int b
  | n, .str b, _, _, r, h => by cases r; simp only [toPy] at h; cases h; exact .str b
  | 0, .lst _, _, _, _, h => by simp only [toPy] at h; cases h
  | 0, .tup _, _, _, _, h => by simp only [toPy] at h; cases h
  | 0, .loc _, _, _, _, h => by simp only [toPy] at h; cases h
  | 0, .dct _ _, _, _, _, h => by simp only [toPy] at h; cases h
  | 0, .scr _, _, _, _, h => by simp only [toPy] at h; cases h
  | _ + 1, .dct _ _, _, _, _, h => by simp only [toPy] at h; cases h
  | n + 1, .lst xs, _, _, r, h => by
    simp only [toPy] at h
    obtain ⟨ps, h1, rfl⟩ := Option.map_eq_some_iff.mp h
    obtain ⟨a, vs, rfl, q1, q2⟩ := Rep.sqL r
    exact .lst q1 (toPys_ok rs n xs vs ps q2 h1)
  | n + 1, .scr xs, _, _, r, h => by
    simp only [toPy] at h
    obtain ⟨ps, h1, rfl⟩ := Option.map_eq_some_iff.mp h
    obtain ⟨a, vs, rfl, q1, q2⟩ := Rep.scrL r
    exact .lst q1 (toPys_ok rs n xs vs ps q2 h1)
  | n + 1, .tup xs, _, _, r, h => by
    simp only [toPy] at h
    obtain ⟨ps, h1, rfl⟩ := Option.map_eq_some_iff.mp h
    obtain ⟨a, vs, rfl, q1, q2⟩ := Rep.sqT r
    exact .tup q1 (toPys_ok rs n xs vs ps q2 h1)
  | n + 1, .loc k, _, _, r, h => by
    simp only [toPy] at h
    obtain ⟨a, rfl, ha⟩ := r
    cases e : s[k]? with
    | none => rw [e] at h; cases h
    | some o =>
      rw [e] at h
      cases o with
      | dct ks ys => cases h
      | lst xs =>
        obtain ⟨ps, h1, rfl⟩ := Option.map_eq_some_iff.mp h
        obtain ⟨vs, q1, q2⟩ := (rs.obj k a _ ha e : RepO K ρ H a (.lst xs))
        exact .lst (SqL.of q1) (toPys_ok rs n xs vs ps q2 h1)
theorem toPys_ok (rs : RepS K ρ H s) : ∀ (n : Nat) (ds : List D) (vs : List V) (ps : List PyData), Reps K ρ H ds vs → toPys s n ds = some ps → DpAll K H vs ps
  | _, [], _, _, r, h => by cases r; simp only [toPys] at h; cases h; exact .nil
  | n, x :: xs, _, _, r, h => by
    obtain ⟨v, q, rfl, h1, h2⟩ := r
    simp only [toPys] at h
    cases e1 : toPy s n x with
    | none => rw [e1] at h; cases h
    | some p =>
      cases e2 : toPys s n xs with
      | none => rw [e1, e2] at h; cases h
      | some ps =>
        rw [e1, e2] at h
        cases h
        exact .cons (toPy_ok rs n x v p h1 e1) (toPys_ok rs n xs q ps h2 e2)
end
end

/-! ### the operators -/
abbrev Op2 := D → D → Sto → Option D
def fAdd : Op2 := fun a b s => match a, b with
  | .int i, .int j => some (.int (i + j))
  | .str x, .str y => if x.length + y.length ≤ sizeLine then some (.str (x ++ y)) else none
  | .tup xs, .tup ys => if xs.length + ys.length ≤ sizeLine then some (.tup (xs ++ ys)) else none
  | a, b => match plOf a s, plOf b s with
    | some xs, some ys => if xs.length + ys.length ≤ sizeLine then some (.lst (xs ++ ys)) else none
    | _, _ => none
def fSub : Op2 := fun a b _ => match a, b with
  | .int i, .int j => some (.int (i - j))
  | _, _ => none
def fMul : Op2 := fun a b _ => match a, b with
  | .int i, .int j => if (-(2 ^ 64) < i ∧ i < 2 ^ 64) ∨ (-(2 ^ 64) < j ∧ j < 2 ^ 64) then some (.int (i * j)) else none
  | .str x, .int n => if 2 ≤ n ∧ n ≤ 1000 ∧ 1 ≤ x.length ∧ x.length ≤ 1000 then some (.str ⟨(List.replicate n.toNat x.cps).foldl (· ++ ·) #[]⟩) else none
  | _, _ => none
def fMod : Op2 := fun a b _ => match a, b with
  | .int i, .int j => if 0 < j then some (.int (i % j)) else none
  | _, _ => none
def fDiv : Op2 := fun a b _ => match a, b with
  | .int i, .int j => if 0 < j ∧ j < 1073741824 then some (.int (i / j)) else none
  | _, _ => none
def fPow : Op2 := fun a b _ => match a, b with
  | .int i, .int j => if 0 ≤ j ∧ j ≤ 1000000 ∧ i.natAbs < 2 ^ 64 then some (.int (i ^ j.toNat)) else none
  | _, _ => none
def fLt : Op2 := fun a b _ => match a, b with
  | .int i, .int j => some (.bl (decide (i < j)))
  | .str i, .str j => some (.bl (decide (i.cps.toList < j.cps.toList)))
  | _, _ => none
def fGt : Op2 := fun a b _ => match a, b with
  | .int i, .int j => some (.bl (decide (j < i)))
  | .str i, .str j => some (.bl (decide (j.cps.toList < i.cps.toList)))
  | _, _ => none
def fLe : Op2 := fun a b _ => match a, b with
  | .int i, .int j => some (.bl (decide (i ≤ j)))
  | .str i, .str j => some (.bl (!decide (j.cps.toList < i.cps.toList)))
  | _, _ => none
def fGe : Op2 := fun a b _ => match a, b with
  | .int i, .int j => some (.bl (decide (j ≤ i)))
  | .str i, .str j => some (.bl (!decide (i.cps.toList < j.cps.toList)))
  | _, _ => none
/-- ==, of scalars by value, else by data -/
def eqP (a b : D) (s : Sto) : Option Bool := if scal a.toV b.toV = true then some (decide (a.toV = b.toV)) else match toPy s 64 a, toPy s 64 b with
  | some p, some q => if (SeqAt.shaped p && SeqAt.shaped q) = true then some (PyData.eqv p q) else none
  | _, _ => none
def fEq : Op2 := fun a b s => (eqP a b s).map .bl
def fNe : Op2 := fun a b s => (eqP a b s).map fun k => .bl (!k)
def inP (a b : D) (s : Sto) : Option Bool := match a, b with
  | .str x, .str z => (match x.cps.toList with
    | [k] => some (decide (k ∈ z.cps.toList))
    | _ => some (!(Builtin.Str.occurrences z x 0 z.length 1).isEmpty))
  | a, b => match seqOf b s with
    | some xs => if (flatV a.toV && (xs.map D.toV).all flatV) = true then some (inV a.toV (xs.map D.toV)) else none
    | none => none
def fIn : Op2 := fun a b s => (inP a b s).map .bl
def fNotIn : Op2 := fun a b s => (inP a b s).map fun k => .bl (!k)
def fIx : Op2 := fun a b s => match b with
  | .int j => (match a with
    | .str x => if x.length ≤ sizeLine then (atI x.cps.toList j).map fun k => .str ⟨#[k]⟩ else none
    | a => match seqOf a s with
      | some xs => atI xs j
      | none => none)
  | _ => none
theorem atI_reps {K : PySem.W.Frag} {ρ : Rg} {H : Hp} {xs : List D} {vs : List V} {j : Int} {d : D} (h : Reps K ρ H xs vs) (e : atI xs j = some d) : ∃ v, atI vs j = some v ∧ Rep K ρ H d v := by
  unfold atI at e ⊢
  rw [← h.length]
  cases q : ixN xs.length j with
  | none => rw [q] at e; cases e
  | some k =>
    rw [q] at e
    obtain ⟨v, h1, h2⟩ := h.get (i := k) e
    exact ⟨v, h1, h2⟩
section
variable {X : Cx}
theorem od_add : OpR X (binaryOp .Add) (rP X.K fAdd) := by
  intro pins s σ H x y v u Q I rx ry h
  obtain ⟨ρ, st, a, b, d, ra, rb, rs, e, q⟩ := h
  have lists : (match plOf a st, plOf b st with | some xs, some ys => if xs.length + ys.length ≤ sizeLine then some (D.lst (xs ++ ys)) else none | _, _ => none) = some d → wpAny (model X.prog X.w) X.A (binaryOp .Add v u) (EP X pins σ Q) X.xe s := by
    intro e
    cases e1 : plOf a st with
    | none => rw [e1] at e; cases e
    | some xs =>
      cases e2 : plOf b st with
      | none => rw [e1, e2] at e; cases e
      | some ys =>
        rw [e1, e2] at e
        simp only at e
        split at e
        · rename_i hz
          cases e
          obtain ⟨p, vs, rfl, q1, q2⟩ := plOf_ok rs ra e1
          obtain ⟨p', us, rfl, q1', q2'⟩ := plOf_ok rs rb e2
          refine op_cat pins s σ H _ _ v u Q I rx ry ⟨p, p', vs, us, rfl, rfl, q1, q1', by rw [← q2.length, ← q2'.length]; exact hz, fun t ht => ?_⟩
          exact q _ _ (Ext.alloc ht) ⟨t, _, rfl, At.of upd_same, rs.fresh ht, Reps.ext (Ext.alloc ht) (Reps.append q2 q2')⟩ (rs.alloc ht)
        · cases e
  have hInt : ∀ {i j : Int}, a = .int i → b = .int j → wpAny (model X.prog X.w) X.A (binaryOp .Add v u) (EP X pins σ Q) X.xe s := by
    rintro i j rfl rfl
    cases e; cases ra; cases rb
    exact op_add pins s σ H _ _ v u Q I rx ry ⟨i, j, rfl, rfl, q _ H Ext.refl rfl rs⟩
  have hStr : ∀ {i j : Str}, a = .str i → b = .str j → wpAny (model X.prog X.w) X.A (binaryOp .Add v u) (EP X pins σ Q) X.xe s := by
    rintro i j rfl rfl
    simp only [fAdd] at e
    split at e
    · rename_i hz
      cases e; cases ra; cases rb
      exact op_add_str pins s σ H _ _ v u Q I rx ry ⟨i, j, rfl, rfl, hz, q _ H Ext.refl rfl rs⟩
    · cases e
  have hTup : ∀ {i j : List D}, a = .tup i → b = .tup j → wpAny (model X.prog X.w) X.A (binaryOp .Add v u) (EP X pins σ Q) X.xe s := by
    rintro xs ys rfl rfl
    simp only [fAdd] at e
    split at e
    · rename_i hz
      cases e
      obtain ⟨p, vs, rfl, q1, q2⟩ := Rep.sqT ra
      obtain ⟨p', us, rfl, q1', q2'⟩ := Rep.sqT rb
      refine op_catA pins s σ H _ _ v u Q I rx ry ⟨p, p', vs, us, rfl, rfl, q1, q1', by rw [← q2.length, ← q2'.length]; exact hz, fun z => ?_, fun z z' => ?_, fun z z' t ht => ?_⟩
      · subst z
        have := q2.length
        obtain rfl : xs = [] := List.length_eq_zero_iff.mp this
        exact q _ H Ext.refl rb rs
      · subst z'
        have := q2'.length
        obtain rfl : ys = [] := List.length_eq_zero_iff.mp this
        rw [List.append_nil] at q
        exact q _ H Ext.refl ra rs
      · exact q _ _ (Ext.alloc ht) ⟨t, _, rfl, .inl ⟨At.of upd_same, rs.fresh ht⟩, Reps.ext (Ext.alloc ht) (Reps.append q2 q2')⟩ (rs.alloc ht)
    · cases e
  cases a <;> cases b <;> first
    | exact hInt rfl rfl
    | exact hStr rfl rfl
    | exact hTup rfl rfl
    | exact lists e
theorem od_sub : OpR X (binaryOp .Sub) (rP X.K fSub) := by
  intro pins s σ H x y v u Q I rx ry h
  obtain ⟨ρ, st, a, b, d, ra, rb, rs, e, q⟩ := h
  cases a <;> cases b <;> simp only [fSub] at e <;> cases e
  cases ra; cases rb
  exact op_sub pins s σ H _ _ v u Q I rx ry ⟨_, _, rfl, rfl, q _ H Ext.refl rfl rs⟩
theorem od_mod : OpR X (binaryOp .Mod) (rP X.K fMod) := by
  intro pins s σ H x y v u Q I rx ry h
  obtain ⟨ρ, st, a, b, d, ra, rb, rs, e, q⟩ := h
  cases a <;> cases b <;> simp only [fMod] at e <;> try (cases e; done)
  split at e
  · rename_i hc
    cases e; cases ra; cases rb
    exact op_mod pins s σ H _ _ v u Q I rx ry ⟨_, _, rfl, rfl, hc, q _ H Ext.refl rfl rs⟩
  · cases e
theorem od_div : OpR X (binaryOp .FloorDiv) (rP X.K fDiv) := by
  intro pins s σ H x y v u Q I rx ry h
  obtain ⟨ρ, st, a, b, d, ra, rb, rs, e, q⟩ := h
  cases a <;> cases b <;> simp only [fDiv] at e <;> try (cases e; done)
  split at e
  · rename_i hc
    cases e; cases ra; cases rb
    exact op_fdiv pins s σ H _ _ v u Q I rx ry ⟨_, _, rfl, rfl, hc, q _ H Ext.refl rfl rs⟩
  · cases e
theorem od_pow : OpR X (binaryOp .Pow) (rP X.K fPow) := by
  intro pins s σ H x y v u Q I rx ry h
  obtain ⟨ρ, st, a, b, d, ra, rb, rs, e, q⟩ := h
  cases a <;> cases b <;> simp only [fPow] at e <;> try (cases e; done)
  split at e
  · rename_i hc
    cases e; cases ra; cases rb
    exact op_pow pins s σ H _ _ v u Q I rx ry ⟨_, _, rfl, rfl, hc, q _ H Ext.refl rfl rs⟩
  · cases e
theorem rep_size (a : Array Nat) : ∀ (n : Nat) (acc : Array Nat), ((List.replicate n a).foldl (· ++ ·) acc).size = acc.size + n * a.size
  | 0, acc => by simp
  | n + 1, acc => by
    rw [List.replicate_succ, List.foldl_cons, rep_size a n, Array.size_append, Nat.succ_mul]
    omega
theorem od_mul : OpR X (binaryOp .Mult) (rP X.K fMul) := by
  intro pins s σ H x y v u Q I rx ry h
  obtain ⟨ρ, st, a, b, d, ra, rb, rs, e, q⟩ := h
  cases a <;> cases b <;> simp only [fMul] at e <;> try (cases e; done)
  · split at e
    · rename_i hc
      cases e; cases ra; cases rb
      exact op_mul pins s σ H _ _ v u Q I rx ry ⟨_, _, rfl, rfl, hc, q _ H Ext.refl rfl rs⟩
    · cases e
  · split at e
    · rename_i x n hc
      cases e; cases ra; cases rb
      obtain ⟨t, rfl⟩ := rx
      obtain ⟨t', rfl⟩ := ry
      have n1 : ¬ n < 1 := by omega
      have n2 : (n == 1 || x.length == 0) = false := by
        rw [Bool.or_eq_false_iff]
        exact ⟨by simp; omega, by simp; omega⟩
      refine PySem.P.mul_str (by rw [decide_eq_false (by omega), decide_eq_false (by omega)]; rfl) (fun _ _ => ?_) (fun _ _ => ?_) ?_
      · have h1 : (1 : Int) ≤ (2 ^ 63 - 1) / 1000 := by decide
        have h2 : ((2 : Int) ^ 63 - 1) / 1000 ≤ (2 ^ 63 - 1) / n := by
          apply Int.le_ediv_of_mul_le (by omega)
          have : ((2 : Int) ^ 63 - 1) / 1000 * n ≤ ((2 : Int) ^ 63 - 1) / 1000 * 1000 := Int.mul_le_mul_of_nonneg_left hc.2.1 (by decide)
          exact Int.le_trans this (by decide)
        have h3 : (1000 : Int) ≤ (2 ^ 63 - 1) / 1000 := by decide
        omega
      · have h1 : x.length * n.toNat ≤ 1000 * 1000 := Nat.mul_le_mul hc.2.2.2 (by omega)
        unfold Builtin.Str.tooLong
        first
          | exact decide_eq_false (by have := sizeLine_eq; omega)
          | (simp; have := sizeLine_eq; omega)
      · rw [if_neg n1, if_neg (by rw [n2]; decide)]
        refine ⟨?_, ?_⟩
        · show Array.size _ ≤ sizeLine
          rw [rep_size]
          have h1 : x.cps.size * n.toNat ≤ 1000 * 1000 := Nat.mul_le_mul hc.2.2.2 (by omega)
          have := sizeLine_eq
          rw [Nat.mul_comm] at h1
          simp only [Array.size_empty, Nat.zero_add]
          omega
        · exact ⟨.str _, H, I.tok _, ⟨_, rfl⟩, q _ H Ext.refl rfl rs⟩
    · cases e
theorem od_lt : OpR X (compareOp .Lt) (rP X.K fLt) := by
  intro pins s σ H x y v u Q I rx ry h
  obtain ⟨ρ, st, a, b, d, ra, rb, rs, e, q⟩ := h
  cases a <;> cases b <;> simp only [fLt] at e <;> cases e <;> cases ra <;> cases rb
  · exact op_lt pins s σ H _ _ v u Q I rx ry ⟨_, _, rfl, rfl, q _ H Ext.refl rfl rs⟩
  · exact op_lt_str pins s σ H _ _ v u Q I rx ry ⟨_, _, rfl, rfl, q _ H Ext.refl rfl rs⟩
theorem od_gt : OpR X (compareOp .Gt) (rP X.K fGt) := by
  intro pins s σ H x y v u Q I rx ry h
  obtain ⟨ρ, st, a, b, d, ra, rb, rs, e, q⟩ := h
  cases a <;> cases b <;> simp only [fGt] at e <;> cases e <;> cases ra <;> cases rb
  · exact op_gt pins s σ H _ _ v u Q I rx ry ⟨_, _, rfl, rfl, q _ H Ext.refl rfl rs⟩
  · exact op_gt_str pins s σ H _ _ v u Q I rx ry ⟨_, _, rfl, rfl, q _ H Ext.refl rfl rs⟩
theorem od_le : OpR X (compareOp .LtE) (rP X.K fLe) := by
  intro pins s σ H x y v u Q I rx ry h
  obtain ⟨ρ, st, a, b, d, ra, rb, rs, e, q⟩ := h
  cases a <;> cases b <;> simp only [fLe] at e <;> cases e <;> cases ra <;> cases rb
  · exact op_le pins s σ H _ _ v u Q I rx ry ⟨_, _, rfl, rfl, q _ H Ext.refl rfl rs⟩
  · exact op_le_str pins s σ H _ _ v u Q I rx ry ⟨_, _, rfl, rfl, q _ H Ext.refl rfl rs⟩
theorem od_ge : OpR X (compareOp .GtE) (rP X.K fGe) := by
  intro pins s σ H x y v u Q I rx ry h
  obtain ⟨ρ, st, a, b, d, ra, rb, rs, e, q⟩ := h
  cases a <;> cases b <;> simp only [fGe] at e <;> cases e <;> cases ra <;> cases rb
  · exact op_ge pins s σ H _ _ v u Q I rx ry ⟨_, _, rfl, rfl, q _ H Ext.refl rfl rs⟩
  · exact op_ge_str pins s σ H _ _ v u Q I rx ry ⟨_, _, rfl, rfl, q _ H Ext.refl rfl rs⟩
theorem scal_v {K : PySem.W.Frag} {ρ : Rg} {H : Hp} {a b : D} {x y : V} (ra : Rep K ρ H a x) (rb : Rep K ρ H b y) (h : scal a.toV b.toV = true) : x = a.toV ∧ y = b.toV := by
  cases a <;> cases b <;> first
    | exact ⟨ra, rb⟩
    | exact absurd h (by simp [D.toV, scal])
theorem od_eq (hu : X.A.units + 64 < cLine) : OpR X (compareOp .Eq) (rP X.K fEq) := by
  intro pins s σ H x y v u Q I rx ry h
  obtain ⟨ρ, st, a, b, d, ra, rb, rs, e, q⟩ := h
  unfold fEq eqP at e
  split at e
  · rename_i hs
    cases e
    obtain ⟨rfl, rfl⟩ := scal_v ra rb hs
    exact op_eq pins s σ H _ _ v u Q I rx ry ⟨hs, q _ H Ext.refl rfl rs⟩
  · cases e1 : toPy st 64 a with
    | none => rw [e1] at e; cases e
    | some p =>
      cases e2 : toPy st 64 b with
      | none => rw [e1, e2] at e; cases e
      | some p' =>
        rw [e1, e2] at e
        simp only at e
        split at e
        · rename_i hz
          rw [Bool.and_eq_true] at hz
          cases e
          exact op_eqD hu pins s σ H _ _ v u Q I rx ry ⟨p, p', toPy_ok rs _ _ _ _ ra e1, toPy_ok rs _ _ _ _ rb e2, hz.1, hz.2, q _ H Ext.refl rfl rs⟩
        · cases e
theorem od_ne (hu : X.A.units + 64 < cLine) : OpR X (compareOp .NotEq) (rP X.K fNe) := by
  intro pins s σ H x y v u Q I rx ry h
  obtain ⟨ρ, st, a, b, d, ra, rb, rs, e, q⟩ := h
  unfold fNe eqP at e
  split at e
  · rename_i hs
    cases e
    obtain ⟨rfl, rfl⟩ := scal_v ra rb hs
    exact op_ne pins s σ H _ _ v u Q I rx ry ⟨hs, q _ H Ext.refl rfl rs⟩
  · cases e1 : toPy st 64 a with
    | none => rw [e1] at e; cases e
    | some p =>
      cases e2 : toPy st 64 b with
      | none => rw [e1, e2] at e; cases e
      | some p' =>
        rw [e1, e2] at e
        simp only at e
        split at e
        · rename_i hz
          rw [Bool.and_eq_true] at hz
          cases e
          exact op_neD hu pins s σ H _ _ v u Q I rx ry ⟨p, p', toPy_ok rs _ _ _ _ ra e1, toPy_ok rs _ _ _ _ rb e2, hz.1, hz.2, q _ H Ext.refl rfl rs⟩
        · cases e
theorem in_seq_run {neg : Bool} {pins : List (Addr × Obj)} {s : Shared} {σ : L2.St} {H : Hp} {x y : V} {v u : Value} {Q : VK} {op : CmpOp} (ho : OpR X (compareOp op) (rIn X.K neg)) (I : Inv X pins σ H s) (rx : RelV x v) (ry : RelV y u) {ρ : Rg} {st : Sto} {a b d : D} (ra : Rep X.K ρ H a x) (rb : Rep X.K ρ H b y) (rs : RepS X.K ρ H st)
    (e : (match seqOf b st with | some xs => if (flatV a.toV && (xs.map D.toV).all flatV) = true then some (inV a.toV (xs.map D.toV)) else none | none => none).map (fun k => D.bl (if neg then !k else k)) = some d)
    (q : ∀ v H', Ext ρ H ρ H' → Rep X.K ρ H' d v → RepS X.K ρ H' st → Q v H') : wpAny (model X.prog X.w) X.A (compareOp op v u) (EP X pins σ Q) X.xe s := by
  cases e1 : seqOf b st with
  | none => rw [e1] at e; cases e
  | some xs =>
    rw [e1] at e
    simp only at e
    by_cases hz : (flatV a.toV && (xs.map D.toV).all flatV) = true
    · rw [if_pos hz] at e
      rw [Bool.and_eq_true] at hz
      cases e
      obtain ⟨p, vs, rfl, q1, q2⟩ := seqOf_ok rs rb e1
      obtain rfl := flat_v ra hz.1
      obtain rfl := flat_vs q2 hz.2
      refine ho pins s σ H _ _ v u Q I rx ry ⟨p, _, rfl, q1, hz.1, hz.2, ?_⟩
      cases neg <;> exact q _ H Ext.refl rfl rs
    · rw [if_neg hz] at e; cases e
theorem sign_of {x : Str} {k : Nat} (h : x.cps.toList = [k]) : x = ⟨#[k]⟩ := by
  obtain ⟨a⟩ := x
  simp only at h
  rw [show a = #[k] from by rw [← Array.toArray_toList (xs := a), h]]
theorem od_in : OpR X (compareOp .In) (rP X.K fIn) := by
  intro pins s σ H x y v u Q I rx ry h
  obtain ⟨ρ, st, a, b, d, ra, rb, rs, e, q⟩ := h
  have txt : ∀ {i j : Str}, a = .str i → b = .str j → wpAny (model X.prog X.w) X.A (compareOp .In v u) (EP X pins σ Q) X.xe s := by
    rintro i j rfl rfl
    simp only [fIn, inP] at e
    split at e
    · rename_i k hk
      cases e; cases ra; cases rb
      exact op_in_sign pins s σ H _ _ v u Q I rx ry ⟨k, j, by rw [sign_of hk], rfl, q _ H Ext.refl rfl rs⟩
    · cases e; cases ra; cases rb
      exact op_in_str pins s σ H _ _ v u Q I rx ry ⟨i, j, rfl, rfl, q _ H Ext.refl rfl rs⟩
  cases a <;> cases b <;> first
    | exact txt rfl rfl
    | exact in_seq_run op_in_seq I rx ry ra rb rs e q
theorem od_notIn : OpR X (compareOp .NotIn) (rP X.K fNotIn) := by
  intro pins s σ H x y v u Q I rx ry h
  obtain ⟨ρ, st, a, b, d, ra, rb, rs, e, q⟩ := h
  have txt : ∀ {i j : Str}, a = .str i → b = .str j → wpAny (model X.prog X.w) X.A (compareOp .NotIn v u) (EP X pins σ Q) X.xe s := by
    rintro i j rfl rfl
    simp only [fNotIn, inP] at e
    split at e
    · rename_i k hk
      cases e; cases ra; cases rb
      exact op_notIn_sign pins s σ H _ _ v u Q I rx ry ⟨k, j, by rw [sign_of hk], rfl, q _ H Ext.refl rfl rs⟩
    · cases e; cases ra; cases rb
      exact op_notIn_str pins s σ H _ _ v u Q I rx ry ⟨i, j, rfl, rfl, q _ H Ext.refl rfl rs⟩
  cases a <;> cases b <;> first
    | exact txt rfl rfl
    | exact in_seq_run op_notIn_seq I rx ry ra rb rs e q
theorem od_ix : IxR X (rP X.K fIx) := by
  intro value slice pins s σ H x y v u Q I rx ry h hs
  obtain ⟨ρ, st, a, b, d, ra, rb, rs, e, q⟩ := h
  cases b <;> simp only [fIx] at e <;> try (cases e; done)
  cases rb
  rename_i j
  have seqs : ∀ (_ : (match seqOf a st with | some xs => atI xs j | none => none) = some d), wpAny (model X.prog X.w) X.A (PyProof.Rows.subscriptTail value slice v u) (EP X pins σ Q) X.xe s := by
    intro e
    cases e1 : seqOf a st with
    | none => rw [e1] at e; cases e
    | some xs =>
      rw [e1] at e
      obtain ⟨p, vs, rfl, q1, q2⟩ := seqOf_ok rs ra e1
      obtain ⟨w, h1, h2⟩ := atI_reps q2 e
      rcases q1 with q1 | q1
      · exact ix_list value slice pins s σ H _ _ v u Q I rx ry ⟨p, vs, j, w, rfl, rfl, q1, h1, q _ H Ext.refl h2 rs⟩ hs
      · exact ix_tup value slice pins s σ H _ _ v u Q I rx ry ⟨p, vs, j, w, rfl, rfl, q1, h1, q _ H Ext.refl h2 rs⟩ hs
  cases a with
  | str z =>
    simp only at e
    split at e
    · rename_i hz
      cases e1 : atI z.cps.toList j with
      | none => rw [e1] at e; cases e
      | some k =>
        rw [e1] at e
        cases e; cases ra
        exact ix_str value slice pins s σ H _ _ v u Q I rx ry ⟨z, j, k, rfl, rfl, hz, e1, q _ H Ext.refl rfl rs⟩ hs
    · cases e
  | _ => exact seqs e

def mNeg (m : Lo → M D) : Lo → M D := fun lo s => (m lo s).bind fun d s1 => match d with
  | .int i => .ok (.int (-i)) s1
  | _ => .bad
theorem pd_neg {c : ClsM} {W : WX} {a : Expr} {pos : Pos} {m : Lo → M D} (ha : PE X a (tM X.K c W m)) : PE X (.UnaryOp .USub a pos) (tM X.K c W (mNeg m)) := by
  refine PE_imp (pe_un un_neg ha) fun σ H Q h => ?_
  obtain ⟨ρ, lo, s, hl, hs, h⟩ := h
  refine ⟨ρ, lo, s, hl, hs, (okR.bind h).imp fun x H1 q => ?_⟩
  obtain ⟨ρ1, s1, d, e1, rs1, rd, h1⟩ := q
  cases d <;> try exact h1.elim
  rename_i i
  exact ⟨i, rd, h1 _ ρ1 H1 Ext.refl rfl rs1⟩
end
end DL
set_option Elab.async false
set_option linter.all false
set_option maxRecDepth 100000
set_option maxHeartbeats 4000000
/-! DLh: built-in functions, methods, stores, slices. -/
namespace DL
open PySem L2
section
variable {X : Cx} {c : ClsM} {W : WX} {pos : Pos}
theorem GlobD.int {K : PySem.W.Frag} {mg : Str → Option Value} {x : Str} {i : Int} {t : Tok} (h : mg x = some (.int i t)) : GlobD K mg x (.int i) := ⟨⟨.int i, _, h, ⟨t, rfl⟩, fun _ _ => rfl⟩⟩
theorem GlobD.str {K : PySem.W.Frag} {mg : Str → Option Value} {x y : Str} {t : Tok} (h : mg x = some (.str y t)) : GlobD K mg x (.str y) := ⟨⟨.str y, _, h, ⟨t, rfl⟩, fun _ _ => rfl⟩⟩

/-! ### one argument -/
theorem reps1 {K : PySem.W.Frag} {ρ : Rg} {H : Hp} {d : D} {vs : List V} (h : Reps K ρ H [d] vs) : ∃ v, vs = [v] ∧ Rep K ρ H d v := by
  obtain ⟨v, r, rfl, h1, h2⟩ := h
  cases h2
  exact ⟨v, rfl, h1⟩
theorem reps2 {K : PySem.W.Frag} {ρ : Rg} {H : Hp} {d e : D} {vs : List V} (h : Reps K ρ H [d, e] vs) : ∃ v u, vs = [v, u] ∧ Rep K ρ H d v ∧ Rep K ρ H e u := by
  obtain ⟨v, r, rfl, h1, h2⟩ := h
  obtain ⟨u, rfl, h3⟩ := reps1 h2
  exact ⟨v, u, rfl, h1, h3⟩
abbrev Fn1 := List D → Sto → Option D
def fLen : Fn1 := fun ds s => match ds with
  | [.str x] => if x.length ≤ sizeLine then some (.int x.length) else none
  | [d] => (seqOf d s).map fun xs => .int xs.length
  | _ => none
theorem cd_len : CallR X (.builtin "len") (rC X.K fLen) := by
  intro pins s σ H xs us Q I r h
  obtain ⟨ρ, st, ds, d, rd, rs, e, q⟩ := h
  have seqs : ∀ {a : D}, ds = [a] → (seqOf a st).map (fun xs => D.int xs.length) = some d → wpAny (model X.prog X.w) X.A (call (.builtin "len") us) (EP X pins σ Q) X.xe s := by
    rintro a rfl e
    obtain ⟨ys, e1, rfl⟩ := Option.map_eq_some_iff.mp e
    obtain ⟨v, rfl, r1⟩ := reps1 rd
    obtain ⟨p, vs, rfl, q1, q2⟩ := seqOf_ok rs r1 e1
    refine call_len_seq pins s σ H _ us Q I r ⟨p, vs, rfl, q1, ?_⟩
    rw [← q2.length]
    exact q _ H Ext.refl rfl rs
  unfold fLen at e
  split at e
  · rename_i z
    split at e
    · rename_i hz
      cases e
      obtain ⟨v, rfl, r1⟩ := reps1 rd
      cases r1
      exact call_len_str pins s σ H _ us Q I r ⟨z, rfl, hz, q _ H Ext.refl rfl rs⟩
    · cases e
  · exact seqs rfl e
  · cases e
def fMax : Fn1 := fun ds _ => match ds with
  | [.int i, .int j] => some (.int (if j > i then j else i))
  | _ => none
def fMin : Fn1 := fun ds _ => match ds with
  | [.int i, .int j] => some (.int (if j < i then j else i))
  | _ => none
theorem cd_max (hc : X.calm = true) : CallR X (.builtin "max") (rC X.K fMax) := by
  intro pins s σ H xs us Q I r h
  obtain ⟨ρ, st, ds, d, rd, rs, e, q⟩ := h
  unfold fMax at e
  split at e
  · rename_i i j
    cases e
    exact call_max2 hc pins s σ H _ us Q I r ⟨i, j, reps_int2 rd, q _ H Ext.refl rfl rs⟩
  · cases e
theorem cd_min (hc : X.calm = true) : CallR X (.builtin "min") (rC X.K fMin) := by
  intro pins s σ H xs us Q I r h
  obtain ⟨ρ, st, ds, d, rd, rs, e, q⟩ := h
  unfold fMin at e
  split at e
  · rename_i i j
    cases e
    exact call_min2 hc pins s σ H _ us Q I r ⟨i, j, reps_int2 rd, q _ H Ext.refl rfl rs⟩
  · cases e
def fInt : Fn1 := fun ds _ => match ds with
  | [.int i] => some (.int i)
  | [.bl k] => some (.int (if k then 1 else 0))
  | _ => none
theorem cd_int : CallR X (.type "int") (rC X.K fInt) := by
  intro pins s σ H xs us Q I r h
  obtain ⟨ρ, st, ds, d, rd, rs, e, q⟩ := h
  unfold fInt at e
  split at e
  · rename_i i
    cases e
    exact call_int1 pins s σ H _ us Q I r (.inl ⟨i, reps_int rd, q _ H Ext.refl rfl rs⟩)
  · rename_i k
    cases e
    obtain ⟨v, rfl, r1⟩ := reps1 rd
    cases r1
    exact call_int1 pins s σ H _ us Q I r (.inr ⟨k, rfl, q _ H Ext.refl rfl rs⟩)
  · cases e
def blsOf : List D → Option (List Bool)
  | [] => some []
  | .bl b :: r => (blsOf r).map (b :: ·)
  | _ => none
theorem bls_vs {K : PySem.W.Frag} {ρ : Rg} {H : Hp} : ∀ {ds : List D} {vs : List V} {bs : List Bool}, Reps K ρ H ds vs → blsOf ds = some bs → vs = bs.map V.bl
  | [], _, _, h, e => by cases h; cases e; rfl
  | d :: ds, _, _, h, e => by
    obtain ⟨v, r, rfl, h1, h2⟩ := h
    cases d <;> simp only [blsOf] at e <;> try (cases e; done)
    obtain ⟨bs, e1, rfl⟩ := Option.map_eq_some_iff.mp e
    cases h1
    rw [bls_vs h2 e1]; rfl
def fAll : Fn1 := fun ds s => match ds with
  | [d] => ((listOf d s).bind blsOf).map fun bs => .bl (bs.all id)
  | _ => none
def fAny : Fn1 := fun ds s => match ds with
  | [d] => ((listOf d s).bind blsOf).map fun bs => .bl (bs.any id)
  | _ => none
theorem cd_all (hc : X.calm = true) : CallR X (.builtin "all") (rC X.K fAll) := by
  intro pins s σ H xs us Q I r h
  obtain ⟨ρ, st, ds, d, rd, rs, e, q⟩ := h
  unfold fAll at e
  split at e
  · obtain ⟨bs, e1, rfl⟩ := Option.map_eq_some_iff.mp e
    obtain ⟨ys, e2, e3⟩ := Option.bind_eq_some_iff.mp e1
    obtain ⟨v, rfl, r1⟩ := reps1 rd
    obtain ⟨p, vs, rfl, q1, q2⟩ := listOf_ok rs r1 e2
    exact cr_all hc pins s σ H _ us Q I r ⟨p, bs, rfl, by rw [← bls_vs q2 e3]; exact q1, q _ H Ext.refl rfl rs⟩
  · cases e
theorem cd_any (hc : X.calm = true) : CallR X (.builtin "any") (rC X.K fAny) := by
  intro pins s σ H xs us Q I r h
  obtain ⟨ρ, st, ds, d, rd, rs, e, q⟩ := h
  unfold fAny at e
  split at e
  · obtain ⟨bs, e1, rfl⟩ := Option.map_eq_some_iff.mp e
    obtain ⟨ys, e2, e3⟩ := Option.bind_eq_some_iff.mp e1
    obtain ⟨v, rfl, r1⟩ := reps1 rd
    obtain ⟨p, vs, rfl, q1, q2⟩ := listOf_ok rs r1 e2
    exact cr_any hc pins s σ H _ us Q I r ⟨p, bs, rfl, by rw [← bls_vs q2 e3]; exact q1, q _ H Ext.refl rfl rs⟩
  · cases e

/-! ### types -/
inductive Ty where
  | non | bl | int | str | lst | tup | dct
  deriving DecidableEq
def Ty.name : Ty → String
  | .non => "NoneType" | .bl => "bool" | .int => "int" | .str => "str" | .lst => "list" | .tup => "tuple" | .dct => "dict"
def tyD : D → Sto → Option Ty
  | .non, _ => some .non
  | .bl _, _ => some .bl
  | .int _, _ => some .int
  | .str _, _ => some .str
  | .lst _, _ => some .lst
  | .scr _, _ => some .lst
  | .tup _, _ => some .tup
  | .dct _ _, _ => some .dct
  | .loc n, s => match s[n]? with
    | some (.lst _) => some .lst
    | some (.dct _ _) => some .dct
    | none => none
def isTy (t u : Ty) : Bool := decide (t = u) || (decide (t = .bl) && decide (u = .int))
theorem kit_isTy (t u : Ty) (hu : u ≠ .non) : kitB t.name u.name = some (isTy t u) := by
  cases u <;> first
    | exact absurd rfl hu
    | (cases t <;> decide +kernel)
theorem tyD_ok {K : PySem.W.Frag} {ρ : Rg} {H : Hp} {s : Sto} {d : D} {v : V} {t : Ty} (rs : RepS K ρ H s) (rd : Rep K ρ H d v) (h : tyD d s = some t) : TyX K H v (.type t.name) := by
  cases d with
  | non => cases h; cases rd; exact .base .non
  | bl b => cases h; cases rd; exact .base (.bl b)
  | int b => cases h; cases rd; exact .base (.int b)
  | str b => cases h; cases rd; exact .base (.str b)
  | lst xs => cases h; obtain ⟨a, vs, rfl, h1, _⟩ := rd; exact .base (.lst h1.lst)
  | scr xs =>
    cases h
    obtain ⟨a, vs, rfl, h1, _⟩ := rd
    rcases h1 with ⟨o, h1, _⟩ | ⟨o, _, _, h1, h2, _⟩
    · exact .base (.frz h1.frz)
    · exact .kList h1 h2
  | tup xs =>
    cases h
    obtain ⟨a, vs, rfl, h1, _⟩ := rd
    rcases h1 with ⟨h1, _⟩ | ⟨o, _, _, h1, h2, _⟩
    · exact .base (.tup h1.tup)
    · exact .kTuple h1 h2
  | dct ks xs =>
    cases h
    obtain ⟨a, vs, rfl, h1, _⟩ := rd
    rcases h1.dK with h1 | ⟨o, h1⟩
    · exact .base (.dK h1)
    · exact .fDict h1
  | loc n =>
    obtain ⟨a, rfl, ha⟩ := rd
    obtain ⟨ob, e1, e2⟩ := rs.at ha
    simp only [tyD, e1] at h
    cases ob with
    | lst xs => cases h; obtain ⟨vs, q1, _⟩ := e2; exact .base (.lst q1)
    | dct ks xs => cases h; obtain ⟨vs, q1, _⟩ := e2; exact .base (.dK q1)
def mIsi (u : Ty) (m : Lo → M D) : Lo → M D := fun lo s => (m lo s).bind fun d s1 => match tyD d s1 with
  | some t => .ok (.bl (isTy t u)) s1
  | none => .bad
/-- isinstance(e, T), T a built-in class -/
theorem pd_isi (u : Ty) {e : Expr} {p p2 : Pos} {m : Lo → M D} {T : Str} (he : PE X e (tM X.K c W m)) (hm : X.mg "isinstance" = none) (hmT : X.mg T = none) (hu : u ≠ .non := by decide) (hT : bootBuiltins T = some (.type u.name) := by decide +kernel) (hg : Gl X "isinstance" := by rfl) (hgT : Gl X T := by rfl)
    (hn : T ≠ "__name__" := by decide) (hd : (T == ("__debug__" : Str)) = false := by decide) (h1 : starEach [e, .Name T p2] X.env = (false, eval e X.env) :: starEach [.Name T p2] X.env := by rfl) (h2 : starEach [.Name T p2] X.env = (false, eval (.Name T p2) X.env) :: starEach [] X.env := by rfl)
    (hpl : (backTo pos (starEach [.Name T p2] X.env)).any (·.1) = false := by rfl) : PE X (.Call (.Name "isinstance" p) [e, .Name T p2] [] pos) (tM X.K c W (mIsi u m)) := by
  refine PE_imp (pe_callB call_isi hg hm (by decide +kernel) (pa_cons he (pa_cons (pe_bltn (v := .ty u.name) hgT hmT hT rfl hn hd) pa_nil h2) h1) (by decide) (by decide) h1 hpl) fun σ H Q h => ?_
  obtain ⟨ρ, lo, s, hl, hs, h⟩ := h
  refine ⟨ρ, lo, s, hl, hs, (okR.bind h).imp fun x H1 q => ?_⟩
  obtain ⟨ρ1, s1, a, e1, rs1, ra, h1⟩ := q
  cases et : tyD a s1 with
  | none => rw [et] at h1; exact h1.elim
  | some t =>
    rw [et] at h1
    exact ⟨x, .ty u.name, .type t.name, .type u.name, isTy t u, rfl, .ty _, tyD_ok rs1 ra et, kit_ty (kit_isTy t u hu), h1 _ ρ1 H1 Ext.refl rfl rs1⟩

/-! ### repr -/
def fRepr : Fn1 := fun ds s => match ds with
  | [d] => match toPy s 60 d with
    | some p => if (p.showable && !p.hasDict && decide (p.shown.length ≤ sizeLine) && decide (p.depth ≤ 60)) = true then some (.str p.shown) else none
    | none => none
  | _ => none
theorem cd_repr (hg : X.A.guards = some []) (hu : X.A.units + 64 < cLine) : CallR X (.builtin "repr") (rC X.K fRepr) := by
  intro pins s σ H xs us Q I r h
  obtain ⟨ρ, st, ds, d, rd, rs, e, q⟩ := h
  unfold fRepr at e
  split at e
  · rename_i a
    cases e1 : toPy st 60 a with
    | none => rw [e1] at e; cases e
    | some p =>
      rw [e1] at e
      simp only at e
      split at e
      · rename_i hz
        simp only [Bool.and_eq_true, Bool.not_eq_true', decide_eq_true_eq] at hz
        obtain ⟨⟨⟨z1, z2⟩, z3⟩, z4⟩ := hz
        cases e
        obtain ⟨v, rfl, r1⟩ := reps1 rd
        obtain ⟨u, rfl, r2⟩ := vals1 r
        have D1 := toPy_ok rs _ _ _ _ r1 e1
        have fin : ∀ h' t tk, (∀ b o, s.heap.get? b = some o → h'.get? b = some o) → EP X pins σ Q (.str p.shown t) { s with heap := h', toks := tk } := fun h' t tk hk => ⟨.str p.shown, H, I.kept hk, ⟨t, rfl⟩, q _ H Ext.refl rfl rs⟩
        cases D1 with
        | non => cases r2; exact PySem.P.repr_of_none (fin _ _ _ fun _ _ h => h)
        | bl b => cases r2; exact PySem.P.repr_of_bool (fin _ _ _ fun _ _ h => h)
        | int i => obtain ⟨t, rfl⟩ := r2; exact PySem.P.repr_of_int (of_decide_eq_true z1) (fin _ _ _ fun _ _ h => h)
        | str y => obtain ⟨t, rfl⟩ := r2; exact PySem.P.repr_of_str (fin _ _ _ fun _ _ h => h) z3
        | lst q1 q2 =>
          cases r2
          obtain ⟨as, hr⟩ := Dp.reads I _ _ _ (Dp.lst q1 q2) (show RelV (.ref _) (.ref _) from rfl)
          exact repr_of_reads' hr z1 (PyData.noDict_hsm z2) hg (by omega) (fun _ _ h => h) fin z3
        | tup q1 q2 =>
          cases r2
          obtain ⟨as, hr⟩ := Dp.reads I _ _ _ (Dp.tup q1 q2) (show RelV (.ref _) (.ref _) from rfl)
          exact repr_of_reads' hr z1 (PyData.noDict_hsm z2) hg (by omega) (fun _ _ h => h) fin z3
      · cases e
  · cases e

/-! ### what makes a list -/
def rCM (K : PySem.W.Frag) (g : List D → M D) : List V → Hp → VK → Prop := fun vs H Q => ∃ ρ s ds d s', Reps K ρ H ds vs ∧ RepS K ρ H s ∧ g ds s = .ok d s' ∧ ∀ v ρ' H', Ext ρ H ρ' H' → Rep K ρ' H' d v → RepS K ρ' H' s' → Q v H'
def mCM (g : List D → M D) (ma : Lo → M (List D)) : Lo → M D := fun lo s => (ma lo s).bind fun ds s1 => noX (g ds s1)
theorem okR.noX {K : PySem.W.Frag} {σ : L2.St} {ρ : Rg} {H : Hp} {Q : V → Hp → Prop} {r : R D} (h : okR K c W σ ρ H (rD K) Q (noX r)) : ∃ d s', r = .ok d s' ∧ ∀ v ρ' H', Ext ρ H ρ' H' → Rep K ρ' H' d v → RepS K ρ' H' s' → Q v H' := by
  cases r with
  | ok d s' => exact ⟨d, s', rfl, h⟩
  | exc x s' => exact h.elim
  | bad => exact h.elim
theorem callM_run {g : List D → M D} {ma : Lo → M (List D)} {σ : L2.St} {H : Hp} {Q : VK} (h : tM X.K c W (mCM g ma) σ H Q) : tCB (rCM X.K g) (tMA X.K c W ma) σ H Q := by
  obtain ⟨ρ, lo, s, hl, hs, h⟩ := h
  refine ⟨ρ, lo, s, hl, hs, (okR.bind h).imp fun x H1 q => ?_⟩
  obtain ⟨ρ1, s1, a, e1, rs1, ra, h1⟩ := q
  obtain ⟨d, s', e, q⟩ := h1.noX
  exact ⟨ρ1, s1, a, d, s', ra, rs1, e, q⟩
theorem pd_callTM {x : Str} {p : Pos} {e : Expr} {es : List Expr} {T : String} {g : List D → M D} {ma : Lo → M (List D)} (hc : CallR X (.type T) (rCM X.K g)) (ha : PA X (e :: es) (tMA X.K c W ma)) (hm : X.mg x = none) (hg : Gl X x := by rfl) (hv : bootBuiltins x = some (.type T) := by decide +kernel) (hn : x ≠ "__name__" := by decide)
    (hdb : (x == ("__debug__" : Str)) = false := by decide) (he : starEach (e :: es) X.env = (false, eval e X.env) :: starEach es X.env := by rfl) (hpl : (backTo pos (starEach es X.env)).any (·.1) = false := by rfl) : PE X (.Call (.Name x p) (e :: es) [] pos) (tM X.K c W (mCM g ma)) :=
  PE_imp (pe_callTy hc hg hm hv ha hn hdb he hpl) fun _ _ _ h => callM_run h
/-- a new list at p -/
theorem fin_new {fr : Bool} {ys : List D} {vs : List V} {ρ : Rg} {H : Hp} {s s' : Sto} {d : D} {Q : VK} (rs : RepS X.K ρ H s) (rv : Reps X.K ρ H ys vs) (e : finD fr ys s = .ok d s') (q : ∀ v ρ' H', Ext ρ H ρ' H' → Rep X.K ρ' H' d v → RepS X.K ρ' H' s' → Q v H') {p : Addr} (hp : H p = none) : Q (.ref p) (upd H p (.lst vs)) := by
  cases fr with
  | true =>
    cases e
    exact q _ ρ _ (Ext.alloc hp) ⟨p, vs, rfl, At.of upd_same, rs.fresh hp, Reps.ext (Ext.alloc hp) rv⟩ (rs.alloc hp)
  | false =>
    cases e
    exact q _ _ _ (Ext.allocL hp) ⟨p, rfl, by show (ρ.l ++ [p])[s.length]? = some p; rw [rs.len]; simp⟩ (rs.allocL hp rv)
def gList (fr : Bool) : List D → M D := fun ds s => match ds with
  | [.str x] => if x.length ≤ sizeLine then finD fr (x.cps.toList.map fun k => .str ⟨#[k]⟩) s else .bad
  | [d] => match seqOf d s with
    | some xs => finD fr xs s
    | none => .bad
  | _ => .bad
theorem cd_list (fr : Bool) (hc : X.calm = true) : CallR X (.type "list") (rCM X.K (gList fr)) := by
  intro pins s σ H xs us Q I r h
  obtain ⟨ρ, st, ds, d, st', rd, rs, e, q⟩ := h
  unfold gList at e
  split at e
  · rename_i x
    split at e
    · rename_i hz
      obtain ⟨v, rfl, r1⟩ := reps1 rd
      cases r1
      obtain ⟨u, rfl, t, rfl⟩ := vals1 r
      refine PySem.call_list_str (I.ok.hd hc) x t (fun h' tk acc' c' hk hS' hacc => ?_) hz
      have rv : Vals (x.cps.toList.map fun k => V.str ⟨#[k]⟩) acc'.toList := by
        have go : ∀ (l : List Nat) (us : List Value), us.length = l.length → (∀ (j : Nat) v, us[j]? = some v → ∃ k u, l[j]? = some k ∧ v = .str ⟨#[k]⟩ u) → Vals (l.map fun k => V.str ⟨#[k]⟩) us := by
          intro l
          induction l with
          | nil => intro us hl _; rw [List.length_eq_zero_iff.mp hl]; exact .nil
          | cons k l ih =>
            intro us hl hj
            cases us with
            | nil => simp at hl
            | cons v us =>
              obtain ⟨k', u, h1, h2⟩ := hj 0 v rfl
              cases h1
              exact .cons ⟨u, h2⟩ (ih us (by simpa using hl) fun j v hv => hj (j + 1) v hv)
        refine go _ _ (by rw [Array.length_toList, Array.length_toList]; exact hacc.1) fun j v hv => ?_
        obtain ⟨k, u, h1, h2⟩ := hacc.2 j v (by simpa using hv)
        exact ⟨k, u, by simpa using h1, h2⟩
      have hp : H s.heap.objs.size = none := I.hok.fresh (Nat.le_refl _)
      refine ⟨.ref s.heap.objs.size, _, I.laid (t' := tk) hk (Nat.le_refl _) (show ObjOk X.prog X.w _ h' _ (.lst (x.cps.toList.map fun k => V.str ⟨#[k]⟩)) from ⟨by rw [List.length_map, Array.length_toList]; exact hz, acc'.toList, c', rv, by rw [Array.toArray_toList]; exact hS'⟩), rfl, ?_⟩
      refine fin_new rs ?_ e q hp
      have go : ∀ l : List Nat, Reps X.K ρ H (l.map fun k => D.str ⟨#[k]⟩) (l.map fun k => V.str ⟨#[k]⟩) := by
        intro l
        induction l with
        | nil => rfl
        | cons k l ih => exact ⟨_, _, rfl, rfl, ih⟩
      exact go _
    · cases e
  · rename_i a _
    cases e1 : seqOf a st with
    | none => rw [e1] at e; cases e
    | some ys =>
      rw [e1] at e
      obtain ⟨v, rfl, r1⟩ := reps1 rd
      obtain ⟨p, vs, rfl, q1, q2⟩ := seqOf_ok rs r1 e1
      exact call_list_of pins s σ H _ us Q I r ⟨p, vs, rfl, q1, fun l hl => fin_new rs q2 e q hl⟩
  · cases e
def fTuple : Fn1 := fun ds s => match ds with
  | [.tup xs] => some (.tup xs)
  | [d] => (listOf d s).map .tup
  | _ => none
theorem cd_tuple : CallR X (.type "tuple") (rC X.K fTuple) := by
  intro pins s σ H xs us Q I r h
  obtain ⟨ρ, st, ds, d, rd, rs, e, q⟩ := h
  unfold fTuple at e
  split at e
  · rename_i ys
    cases e
    obtain ⟨v, rfl, r1⟩ := reps1 rd
    obtain ⟨p, vs, rfl, q1, q2⟩ := Rep.sqT r1
    exact call_tuple_of pins s σ H _ us Q I r ⟨p, vs, rfl, .inr ⟨q1, q _ H Ext.refl r1 rs⟩⟩
  · obtain ⟨ys, e1, rfl⟩ := Option.map_eq_some_iff.mp e
    obtain ⟨v, rfl, r1⟩ := reps1 rd
    obtain ⟨p, vs, rfl, q1, q2⟩ := listOf_ok rs r1 e1
    exact call_tuple_of pins s σ H _ us Q I r ⟨p, vs, rfl, .inl ⟨q1, fun l hl => q _ _ (Ext.alloc hl) ⟨l, _, rfl, .inl ⟨At.of upd_same, rs.fresh hl⟩, Reps.ext (Ext.alloc hl) q2⟩ (rs.alloc hl)⟩⟩
  · cases e
end
end DL
set_option Elab.async false
set_option linter.all false
set_option maxRecDepth 100000
set_option maxHeartbeats 4000000
/-! DLi: slices, join, stores by place, methods of lists. -/
namespace DL
open PySem L2
section
variable {X : Cx} {c : ClsM} {W : WX} {pos : Pos}
/-! ### slices -/
def rO : RepT (Option Int) (Option Int) := fun _ _ a b => a = b
abbrev tMO (K : PySem.W.Frag) (c : ClsM) (W : WX) (m : Lo → M (Option Int)) : TO := tG K c W rO m
def asI : D → M (Option Int)
  | .int i => ret (some i)
  | _ => fun _ => .bad
def mPart (m : Lo → M D) : Lo → M (Option Int) := fun lo s => (m lo s).bind asI
theorem pdo_none : PO X none (tMO X.K c W fun _ => ret none) := ⟨fun pins s σ H Q I h => by
  obtain ⟨ρ, lo, st, h1, h2, h⟩ := h
  exact po_none.run pins s σ H Q I (h none ρ H Ext.refl rfl h2)⟩
theorem pdo_some {e : Expr} {m : Lo → M D} (he : PE X e (tM X.K c W m)) : PO X (some e) (tMO X.K c W (mPart m)) := ⟨fun pins s σ H Q I h => by
  obtain ⟨ρ, lo, st, h1, h2, h⟩ := h
  refine (po_some he).run pins s σ H Q I ⟨ρ, lo, st, h1, h2, (okR.bind h).imp fun x H1 q => ?_⟩
  obtain ⟨ρ1, s1, a, e1, rs1, ra, h3⟩ := q
  cases a <;> try exact h3.elim
  rename_i i
  exact ⟨i, ra, h3 (some i) ρ1 H1 Ext.refl rfl rs1⟩⟩
def cutD {α : Type} (xs : List α) (lo hi : Option Int) : List α := (xs.drop (HT.sIx xs.length 0 lo)).take (HT.sIx xs.length xs.length hi - HT.sIx xs.length 0 lo)
def fCut (d : D) (lo hi : Option Int) (s : Sto) : Option D := match d with
  | .str x => if x.length ≤ sizeLine then some (.str (cutS x lo hi)) else none
  | .tup xs => some (.tup (cutD xs lo hi))
  | d => (listOf d s).map fun xs => .lst (cutD xs lo hi)
def mCut (m : Lo → M D) (ml mh : Lo → M (Option Int)) : Lo → M D := fun lo s => (m lo s).bind fun d s1 => (ml lo s1).bind fun l s2 => (mh lo s2).bind fun h s3 => liftP (fCut d l h) s3
theorem cut_reps {K : PySem.W.Frag} {ρ : Rg} {H : Hp} {xs : List D} {vs : List V} (h : Reps K ρ H xs vs) (lo hi : Option Int) : Reps K ρ H (cutD xs lo hi) (cutV vs lo hi) := by
  unfold cutD cutV
  rw [h.length]
  exact (h.drop _).take _
theorem cut_whole {xs : List D} {lo hi : Option Int} (h : HT.sIx xs.length 0 lo = 0 ∧ HT.sIx xs.length xs.length hi = xs.length) : cutD xs lo hi = xs := by
  unfold cutD
  rw [h.1, h.2, List.drop_zero, Nat.sub_zero, List.take_length]
theorem pd_slice {e : Expr} {lo hi : Option Expr} {p2 : Pos} {m : Lo → M D} {ml mh : Lo → M (Option Int)} (he : PE X e (tM X.K c W m)) (hl : PO X lo (tMO X.K c W ml)) (hh : PO X hi (tMO X.K c W mh)) : PE X (.Subscript e (.Slice lo hi none p2) pos) (tM X.K c W (mCut m ml mh)) := by
  refine PE_imp (pe_slice (SlR.or sl_str (SlR.or sl_tupA sl_list)) he hl hh) fun σ H Q h => ?_
  obtain ⟨ρ, lo, s, hl, hs, h⟩ := h
  refine ⟨ρ, lo, s, hl, hs, (okR.bind h).imp fun x H1 q => ?_⟩
  obtain ⟨ρ1, s1, d, e1, rs1, rd, h1⟩ := q
  refine ⟨ρ1, lo, s1, hl.ext e1, rs1, (okR.bind h1).imp fun l H2 q => ?_⟩
  obtain ⟨ρ2, s2, l', e2, rs2, rl, h2⟩ := q
  refine ⟨ρ2, lo, s2, (hl.ext e1).ext e2, rs2, (okR.bind h2).imp fun u H3 q => ?_⟩
  obtain ⟨ρ3, s3, u', e3, rs3, ru, h3⟩ := q
  obtain rfl : l' = l := rl
  obtain rfl : u' = u := ru
  obtain ⟨r, er, q⟩ := h3.lift
  have rd3 := Rep.ext e3 (Rep.ext e2 rd)
  have lists : (listOf d s3).map (fun xs => D.lst (cutD xs l' u')) = some r → rSlL X.K x l' u' H3 Q := by
    intro er
    obtain ⟨xs, ex, rfl⟩ := Option.map_eq_some_iff.mp er
    obtain ⟨a, vs, rfl, q1, q2⟩ := listOf_ok rs3 rd3 ex
    exact ⟨a, vs, rfl, q1, fun p hp => q _ _ _ (Ext.alloc hp) ⟨p, _, rfl, At.of upd_same, rs3.fresh hp, Reps.ext (Ext.alloc hp) (cut_reps q2 l' u')⟩ (rs3.alloc hp)⟩
  cases d with
  | str z =>
    simp only [fCut] at er
    split at er
    · rename_i hz
      cases er; cases rd3
      exact .inl ⟨z, rfl, hz, q _ ρ3 H3 Ext.refl rfl rs3⟩
    · cases er
  | tup xs =>
    cases er
    obtain ⟨a, vs, rfl, q1, q2⟩ := Rep.sqT rd3
    refine .inr (.inl ⟨a, vs, rfl, q1, fun hw => ?_, fun hw p hp => ?_⟩)
    · rw [← q2.length] at hw
      rw [cut_whole hw] at q
      exact q _ ρ3 H3 Ext.refl rd3 rs3
    · exact q _ ρ3 _ (Ext.alloc hp) ⟨p, _, rfl, .inl ⟨At.of upd_same, rs3.fresh hp⟩, Reps.ext (Ext.alloc hp) (cut_reps q2 l' u')⟩ (rs3.alloc hp)
  | _ => exact .inr (.inr (lists er))

/-! ### join -/
def strsOf : List D → Option (List Str)
  | [] => some []
  | .str b :: r => (strsOf r).map (b :: ·)
  | _ => none
theorem strs_vs {K : PySem.W.Frag} {ρ : Rg} {H : Hp} : ∀ {ds : List D} {vs : List V} {bs : List Str}, Reps K ρ H ds vs → strsOf ds = some bs → vs = bs.map V.str
  | [], _, _, h, e => by cases h; cases e; rfl
  | d :: ds, _, _, h, e => by
    obtain ⟨v, r, rfl, h1, h2⟩ := h
    cases d <;> simp only [strsOf] at e <;> try (cases e; done)
    obtain ⟨bs, e1, rfl⟩ := Option.map_eq_some_iff.mp e
    cases h1
    rw [strs_vs h2 e1]; rfl
def fJoin (a d : D) (s : Sto) : Option D := match a, (seqOf d s).bind strsOf with
  | .str x, some ys => if (ys.map (·.length)).sum + ys.length * x.length ≤ 16777216 then some (.str (Txt.join x ys)) else none
  | _, _ => none
def isStr : D → Bool
  | .str _ => true
  | _ => false
def mJoin (mo ma : Lo → M D) : Lo → M D := fun lo s => (mo lo s).bind fun a s1 => if isStr a = true then (ma lo s1).bind fun d s2 => liftP (fJoin a d) s2 else .bad
theorem isStr_ok {K : PySem.W.Frag} {ρ : Rg} {H : Hp} {d : D} {v : V} (rd : Rep K ρ H d v) (h : isStr d = true) : ∃ x, d = .str x ∧ v = .str x := by
  cases d <;> try (cases h; done)
  exact ⟨_, rfl, rd⟩
theorem pd_join {o e : Expr} {apos : Pos} {mo ma : Lo → M D} (ho : PE X o (tM X.K c W mo)) (he : PE X e (tM X.K c W ma)) (hs : starEach [e] X.env = [(false, eval e X.env)] := by rfl) (hbase : attributeBase o "join" X.env (eval o X.env) = eval o X.env := by rfl) (hline : (apos.endLine == pos.line) = true := by rfl) :
    PE X (.Call (.Attribute o "join" apos) [e] [] pos) (tM X.K c W (mJoin mo ma)) := by
  refine PE_imp (pe_join ho he hs hbase hline) fun σ H Q h => ?_
  obtain ⟨ρ, lo, s, hl, hs, h⟩ := h
  refine ⟨ρ, lo, s, hl, hs, (okR.bind h).imp fun x H1 q => ?_⟩
  obtain ⟨ρ1, s1, a, e1, rs1, ra, h1⟩ := q
  split at h1
  · rename_i hi
    obtain ⟨z, rfl, rfl⟩ := isStr_ok ra hi
    refine ⟨⟨z, rfl⟩, ρ1, lo, s1, hl.ext e1, rs1, (okR.bind h1).imp fun y H2 q => ?_⟩
    obtain ⟨ρ2, s2, b, e2, rs2, rb, h2⟩ := q
    obtain ⟨r, er, q⟩ := h2.lift
    simp only [fJoin] at er
    cases e3 : (seqOf b s2).bind strsOf with
    | none => rw [e3] at er; cases er
    | some ys =>
      rw [e3] at er
      simp only at er
      split at er
      · rename_i hz
        cases er
        obtain ⟨ds, e4, e5⟩ := Option.bind_eq_some_iff.mp e3
        obtain ⟨p, vs, rfl, q1, q2⟩ := seqOf_ok rs2 rb e4
        rw [strs_vs q2 e5] at q1
        exact ⟨z, p, ys, rfl, rfl, q1, hz, q _ ρ2 H2 Ext.refl rfl rs2⟩
      · cases er
  · exact h1.elim

/-! ### stores -/
def storeD (o i v : D) (s : Sto) : Option Sto := match o, i with
  | .loc n, .int k => match s[n]? with
    | some (.lst xs) => (ixN xs.length k).map fun j => s.set n (.lst (xs.set j v))
    | _ => none
  | _, _ => none
def mStore (mo mi me : Lo → M D) : Lo → Sto → SR := fun lo s => bindS (me lo s) lo fun v s1 => bindS (mo lo s1) lo fun o s2 => bindS (mi lo s2) lo fun i s3 => match storeD o i v s3 with
  | some s4 => .nx lo s4
  | none => .bad
theorem pd_store {o i e : Expr} {p2 : Pos} {mo mi me : Lo → M D} (ho : PE X o (tM X.K c W mo)) (hi : PE X i (tM X.K c W mi)) (he : PE X e (tM X.K c W me)) (hg : PG X (.Subscript o i p2) (gSub (tM X.K c W mo) (tM X.K c W mi) rSetL))
    (hs : swapsWithSole [.Subscript o i p2] e pos.line X.env = pure false := by rfl) (hw : swappedStores [.Subscript o i p2] e X.env = pure none := by rfl) (h1 : (assignEach [.Subscript o i p2] X.env).map (·.2) = [assign (.Subscript o i p2) X.env] := by rfl) :
    PS X (.Assign [.Subscript o i p2] e pos) (tMS X.K c W (mStore mo mi me)) := by
  refine PS_imp (ps_asg he hg hs hw h1) fun E σ H h => ?_
  obtain ⟨ρ, lo, s, hl, hs, h⟩ := h
  refine ⟨ρ, lo, s, hl, hs, (okS.bind hl h).imp fun x H1 q => ?_⟩
  obtain ⟨ρ1, s1, v, e1, rs1, rv, h1⟩ := q
  have hl1 := hl.ext e1
  refine ⟨ρ1, lo, s1, hl1, rs1, (okS.bind hl1 h1).imp fun y H2 q => ?_⟩
  obtain ⟨ρ2, s2, ov, e2, rs2, ro, h2⟩ := q
  have hl2 := hl1.ext e2
  refine ⟨ρ2, lo, s2, hl2, rs2, (okS.bind hl2 h2).imp fun z H3 q => ?_⟩
  obtain ⟨ρ3, s3, iv, e3, rs3, ri, h3⟩ := q
  have hl3 := hl2.ext e3
  cases est : storeD ov iv v s3 with
  | none => rw [est] at h3; exact h3.elim
  | some s4 =>
    rw [est] at h3
    cases ov <;> cases iv <;> simp only [storeD] at est <;> try (cases est; done)
    rename_i n k
    cases eo : s3[n]? with
    | none => rw [eo] at est; cases est
    | some ob =>
      rw [eo] at est
      cases ob with
      | dct ks ys => cases est
      | lst ys =>
        obtain ⟨j, ej, rfl⟩ := Option.map_eq_some_iff.mp est
        obtain ⟨a, rfl, ha⟩ := Rep.ext e3 ro
        cases ri
        obtain ⟨vs, q1, q2⟩ := (rs3.obj n a _ ha eo : RepO X.K ρ3 H3 a (.lst ys))
        refine ⟨a, vs, k, j, rfl, rfl, q1, by rw [← q2.length]; exact ej, ?_⟩
        have e4 : Ext ρ3 H3 ρ3 (upd H3 a (.lst (vs.set j x))) := Ext.write ha
        exact h3 σ ρ3 _ e4 (hl3.ext e4) (rs3.write ha (q2.set j (Rep.ext e3 (Rep.ext e2 rv))))

/-! ### methods of lists -/
def isLst (d : D) (s : Sto) : Bool := (listOf d s).isSome
def mMeth (g : D → List D → M D) (mo : Lo → M D) (ma : Lo → M (List D)) : Lo → M D := fun lo s => (mo lo s).bind fun d s1 => if isLst d s1 = true then (ma lo s1).bind fun ds s2 => noX (g d ds s2) else .bad
def rMt (K : PySem.W.Frag) (g : D → List D → M D) : V → List V → Hp → VK → Prop := fun x vs H Q => ∃ ρ s a ds d s', Rep K ρ H a x ∧ Reps K ρ H ds vs ∧ RepS K ρ H s ∧ g a ds s = .ok d s' ∧
  ∀ v ρ' H', Ext ρ H ρ' H' → Rep K ρ' H' d v → RepS K ρ' H' s' → Q v H'
theorem MtR_imp {id : String} {r r' : V → List V → Hp → VK → Prop} (h : MtR X id r) (q : ∀ x xs H Q, r' x xs H Q → r x xs H Q) : MtR X id r' := fun pins s σ H x xs v us Q I rx rs hw => h pins s σ H x xs v us Q I rx rs (q x xs H Q hw)
theorem pd_meth {o e : Expr} {es : List Expr} {name : Str} {apos : Pos} {id : String} {g : D → List D → M D} {mo : Lo → M D} {ma : Lo → M (List D)} (hm : MtR X id (rMt X.K g)) (ho : PE X o (tM X.K c W mo)) (ha : PA X (e :: es) (tMA X.K c W ma)) (slot : Slot "list" name id) (hty : typeOf (.builtin id) = pure (.type "method_descriptor"))
    (hbase : attributeBase o name X.env (eval o X.env) = eval o X.env := by rfl)
    (hfew : ((backTo pos (starEach (e :: es) X.env)).all (fun x => !x.1) && (backToKw pos (keywordEach [] X.env)).all (fun x => x.1.isSome)
      && decide ((e :: es).length + ([] : List Keyword).length + (if ([] : List Keyword).isEmpty then 0 else 1) < 30)) = true := by rfl)
    (hline : (apos.endLine == pos.line) = true := by rfl) (hs : starEach (e :: es) X.env = (false, eval e X.env) :: starEach es X.env := by rfl) (hplain : (backTo pos (starEach es X.env)).any (·.1) = false := by rfl) :
    PE X (.Call (.Attribute o name apos) (e :: es) [] pos) (tM X.K c W (mMeth g mo ma)) := by
  refine PE_imp (pe_bm F.plainAttrs_list slot hty hm ho ha hbase hfew hline hs hplain) fun σ H Q h => ?_
  obtain ⟨ρ, lo, s, hl, hs, h⟩ := h
  refine ⟨ρ, lo, s, hl, hs, (okR.bind h).imp fun x H1 q => ?_⟩
  obtain ⟨ρ1, s1, a, e1, rs1, ra, h1⟩ := q
  split at h1
  · rename_i hi
    obtain ⟨ys, ey⟩ := Option.isSome_iff_exists.mp hi
    obtain ⟨p, vs, hx, q1, q2⟩ := listOf_ok rs1 ra ey
    refine ⟨by rw [hx]; exact .inl ⟨rfl, vs, q1⟩, ρ1, lo, s1, hl.ext e1, rs1, (okR.bind h1).imp fun us H2 q => ?_⟩
    obtain ⟨ρ2, s2, ds, e2, rs2, rd, h2⟩ := q
    obtain ⟨d, s', ed, q⟩ := h2.noX
    exact ⟨ρ2, s2, a, ds, d, s', Rep.ext e2 ra, rd, rs2, ed, q⟩
  · exact h1.elim
def gAppend : D → List D → M D := fun d ds s => match d, ds with
  | .loc n, [x] => match s[n]? with
    | some (.lst xs) => if xs.length < sizeLine then .ok .non (s.set n (.lst (xs ++ [x]))) else .bad
    | _ => .bad
  | _, _ => .bad
theorem md_append : MtR X "list.append" (rMt X.K gAppend) := by
  refine MtR_imp mt_append fun x xs H Q h => ?_
  obtain ⟨ρ, s, a, ds, d, s', ra, rds, rs, e, q⟩ := h
  unfold gAppend at e
  split at e
  · rename_i n y
    cases eo : s[n]? with
    | none => rw [eo] at e; cases e
    | some ob =>
      rw [eo] at e
      cases ob with
      | dct ks ys => cases e
      | lst ys =>
        simp only at e
        split at e
        · rename_i hz
          cases e
          obtain ⟨p, rfl, ha⟩ := ra
          obtain ⟨v, rfl, rv⟩ := reps1 rds
          obtain ⟨vs, q1, q2⟩ := (rs.obj n p _ ha eo : RepO X.K ρ H p (.lst ys))
          exact ⟨p, vs, v, rfl, rfl, q1, by rw [← q2.length]; exact hz, q _ ρ _ (Ext.write ha) rfl (rs.write ha (q2.append ⟨v, [], rfl, rv, rfl⟩))⟩
        · cases e
  · cases e
theorem pd_append {o e : Expr} {apos : Pos} {mo : Lo → M D} {ma : Lo → M (List D)} (ho : PE X o (tM X.K c W mo)) (ha : PA X [e] (tMA X.K c W ma))
    (hbase : attributeBase o "append" X.env (eval o X.env) = eval o X.env := by rfl)
    (hfew : ((backTo pos (starEach [e] X.env)).all (fun x => !x.1) && (backToKw pos (keywordEach [] X.env)).all (fun x => x.1.isSome)
      && decide ([e].length + ([] : List Keyword).length + (if ([] : List Keyword).isEmpty then 0 else 1) < 30)) = true := by rfl)
    (hline : (apos.endLine == pos.line) = true := by rfl) (hs : starEach [e] X.env = (false, eval e X.env) :: starEach [] X.env := by rfl) (hplain : (backTo pos (starEach [] X.env)).any (·.1) = false := by rfl) :
    PE X (.Call (.Attribute o "append" apos) [e] [] pos) (tM X.K c W (mMeth gAppend mo ma)) :=
  pd_meth md_append ho ha PySem.F.slot_list_append PySem.F.type_list_append hbase hfew hline hs hplain
end
end DL
set_option Elab.async false
set_option linter.all false
set_option maxRecDepth 100000
set_option maxHeartbeats 4000000
/-! DLj: the end of a law's row. -/
namespace DL
open PySem PySem.Spec PyProof.Rows L2
theorem reps_ints {K : PySem.W.Frag} {ρ : Rg} {H : Hp} : ∀ ns : List Int, Reps K ρ H (ns.map D.int) (ns.map V.int)
  | [] => rfl
  | n :: ns => ⟨_, _, rfl, rfl, reps_ints ns⟩
section
variable {P : Program} {w : World} {K : PySem.W.Frag} {mg mb : Str → Option Value} {c : ClsM} {k : Nat} {fa a : Addr} {fd : FuncData} {x : Str} {s₁ : Shared} {vs : List Value} {ns : List Int} {m : List D → M D} {st : Sto}
/-- from an abstract heap that knows at most the script -/
theorem end_core {H : Hp} (inK : K.In s₁.heap) (hns : s₁.heap.Ns mainGlobals mg) (hb : s₁.heap.Ns builtinsNs mb) (hbb : ∀ x : Str, x ≠ "__name__" → mb x = bootBuiltins x) (hlim : s₁.heap.NoLimit) (hg : s₁.gens = #[])
    (ha : s₁.heap.get? a = some { cls := .type "list", data := .seq vs.toArray }) (hr : Room k callerA)
    (F : ∀ base : Heap, K.In base → base.Ns mainGlobals mg → FnG P w K mg base k fa fd [x] (spM K c 1 m)) (hbind : ∀ (s : Shared) (u : Value), BindsTo s fd ⟨[u], []⟩ [(x, u)])
    (hm : m [.scr (ns.map D.int)] [] = .ok (.bl true) st) (hrep : Rep K ⟨[], []⟩ H (.scr (ns.map D.int)) (.ref a)) (hok : HOk P w H s₁.heap) (only : ∀ b u, H b = some u → b = a ∧ ∃ o xs, u = .frz o (.lst xs)) (apart : H a ≠ none → K.lookup a = none) :
    codeAny (model P w) callerA (.call (.ref fa) ⟨[.ref a], []⟩) (fun r s' => r = .ok (.ret (.bool true)) ∧ OldK s₁.heap s'.heap ∧ s'.os = s₁.os ∧ AllBare s'.gens) s₁ := by
  let B := hidT s₁.heap H
  have unseen : ∀ {b : Addr} {o : Obj}, s₁.heap.get? b = some o → (b = a → H a = none) → B.get? b = some o := by
    intro b o e hn
    apply hidT_get e
    cases q : H b with
    | none => rfl
    | some u =>
      have hba := (only b u q).1
      have := hn hba
      rw [← hba, q] at this
      cases this
  have dictB : ∀ {b : Addr} {f : Str → Option Value}, s₁.heap.Ns b f → B.Ns b f := by
    rintro b f ⟨o, es, ep, e, d, r⟩
    refine ⟨o, es, ep, unseen e fun hba => ?_, d, r⟩
    subst hba
    rw [ha] at e
    cases e
    cases d
  have inB : K.In B := by
    intro b o e
    apply unseen (inK b o e)
    intro hba
    subst hba
    cases q : H b with
    | none => rfl
    | some u =>
      have := apart (by rw [q]; exact fun z => nomatch z)
      rw [this] at e
      cases e
  have md : Mod K mg B := ⟨inB, dictB hns, ⟨mb, dictB hb, hbb⟩, hlim.elim fun mc h => ⟨mc, dictB h.1, h.2⟩⟩
  have env : Env0 P w K mg B callerA [] s₁ H := by
    constructor
    · rfl
    · exact md
    · exact fun b o e => of_hidT e
    · exact Nat.le_of_eq (hidT_size _ _)
    · trivial
    · exact fun b hb => nomatch (show b ∈ ([] : List Addr) from hb)
    · exact hok
    · exact AllBare.of_eq hg
  have promise : spM K c 1 m [.ref a] H (fun v _ => v = .bl true) (fun _ _ _ => False) := by
    refine ⟨rfl, ⟨[], []⟩, [.scr (ns.map D.int)], [], ⟨_, _, rfl, hrep, rfl⟩, RepS.nil, ?_⟩
    rw [hm]
    exact fun v ρ' H' _ rv _ => rv
  apply codeAny_mono ((F B inB (dictB hns)).run (us := [.ref a]) (vs := [.ref a]) hr rfl env (hbind s₁ (.ref a)) (.cons rfl .nil) promise)
  intro r s' h
  cases r with
  | error e => let ⟨_, _, _, _, _, _, _, _, _, _, _, _, z⟩ := h; exact z.elim
  | ok fl =>
    cases fl <;> try exact False.elim h
    rename_i u
    obtain ⟨v, H', os, bare, un, hok', rv, hv⟩ := h
    have hv : v = .bl true := hv
    subst hv
    have hu : u = Value.bool true := rv
    subst hu
    refine ⟨rfl, OldK.of_keep fun b o e => ?_, os, bare⟩
    cases q : H b with
    | none => exact un.keep b o e q (fun z => nomatch (show b ∈ ([] : List Addr) from z)) (by simp)
    | some t =>
      obtain ⟨_, ob, xs, rfl⟩ := only b t q
      have e1 : s₁.heap.get? b = some ob := (hok b _ q).1
      have e2 : s'.heap.get? b = some ob := (hok' b _ (un.frzs b ob _ q)).1
      rw [e2, ← e1, e]
theorem end_call (inK : K.In s₁.heap) (hns : s₁.heap.Ns mainGlobals mg) (hb : s₁.heap.Ns builtinsNs mb) (hbb : ∀ x : Str, x ≠ "__name__" → mb x = bootBuiltins x) (hlim : s₁.heap.NoLimit) (hg : s₁.gens = #[])
    (ha : s₁.heap.get? a = some { cls := .type "list", data := .seq vs.toArray }) (hi : IntsAre vs ns) (hl : ns.length ≤ sizeLine) (hr : Room k callerA)
    (F : ∀ base : Heap, K.In base → base.Ns mainGlobals mg → FnG P w K mg base k fa fd [x] (spM K c 1 m)) (hbind : ∀ (s : Shared) (u : Value), BindsTo s fd ⟨[u], []⟩ [(x, u)])
    (hm : ∃ st, m [.scr (ns.map D.int)] [] = .ok (.bl true) st) :
    codeAny (model P w) callerA (.call (.ref fa) ⟨[.ref a], []⟩) (fun r s' => r = .ok (.ret (.bool true)) ∧ OldK s₁.heap s'.heap ∧ s'.os = s₁.os ∧ AllBare s'.gens) s₁ := by
  obtain ⟨st, hm⟩ := hm
  have rv := vals_ints hi
  have len := hi.length
  by_cases hk : K.lookup a = none
  · let H : Hp := fun b => if b = a then some (.frz { cls := .type "list", data := .seq vs.toArray } (.lst (ns.map V.int))) else none
    have Ha : H a = some (.frz { cls := .type "list", data := .seq vs.toArray } (.lst (ns.map V.int))) := if_pos rfl
    have Hb : ∀ {b u}, H b = some u → b = a ∧ u = .frz { cls := .type "list", data := .seq vs.toArray } (.lst (ns.map V.int)) := by
      intro b u e
      by_cases hba : b = a
      · subst hba
        rw [Ha] at e
        cases e
        exact ⟨rfl, rfl⟩
      · have : H b = none := if_neg hba
        rw [this] at e
        cases e
    refine end_core (H := H) inK hns hb hbb hlim hg ha hr F hbind hm ⟨a, ns.map V.int, rfl, .inl ⟨_, ⟨_, Ha, rfl⟩, fun z => by rcases z with z | z <;> cases z⟩, reps_ints ns⟩ ?_ (fun b u e => ⟨(Hb e).1, _, _, (Hb e).2⟩) (fun _ => hk)
    intro b u e
    obtain ⟨rfl, rfl⟩ := Hb e
    exact ⟨ha, by rw [List.length_map]; exact hl, vs, _, rv, ha⟩
  · obtain ⟨o, ho⟩ := Option.ne_none_iff_exists'.mp hk
    have e := inK a o ho
    rw [ha] at e
    cases e
    refine end_core (H := fun _ => none) inK hns hb hbb hlim hg ha hr F hbind hm ⟨a, ns.map V.int, rfl, .inr ⟨_, vs.toArray, _, ho, rfl, rfl, rfl, ?_, by rw [List.toList_toArray]; exact rv⟩, reps_ints ns⟩ (fun b u e => nomatch (show (none : Option HO) = some u from e)) (fun b u e => nomatch (show (none : Option HO) = some u from e)) (fun z => absurd rfl z)
    rw [List.size_toArray]
    omega
end
/-- what k_head leaves, from the law's meaning -/
theorem end_walk {l : PySem.W.OpenLaw} {n k : Nat} {q : Program} {loose : List Str} {XP : (Str → Option Value) → Heap → Prop} {YP : World → Heap → Prop} {d : DefRec} {K : Params → PySem.W.Frag} {x : Str} {m : List D → M D} {c : World → (Str → Option Value) → ClsM}
    (hn : l.most = some n) (hn2 : n ≤ sizeLine) (hdf : d.params.defaults = []) (hr : Room k callerA) (hY : ∀ (w : World) (h : Heap), YP w h → (K w.params).In h)
    (F : ∀ (w : World) (mg : Str → Option Value) (fa : Addr) (h : Heap), (K w.params).In h → h.Ns mainGlobals mg → mg d.name = some (.ref fa) →
      ∃ fd : FuncData, (∀ (s : Shared) (u : Value), BindsTo s fd ⟨[u], []⟩ [(x, u)]) ∧ ∀ base : Heap, (K w.params).In base → base.Ns mainGlobals mg → FnG l.prog w (K w.params) mg base k fa fd [x] (spM (K w.params) (c w mg) 1 m))
    (hm : ∀ ns : List Int, ns.length ≤ n → ∃ st, m [.scr (ns.map D.int)] [] = .ok (.bl true) st) : PySem.W.WalkO q loose XP YP l.row.toRowW d [] (fun f vs => PySem.call f vs) := by
  apply Att.attach_call hn hdf
  intro w s₀ s₁ mg mb fa o pm cd doc a vs ns G Y ho hd hcd hmg hobj hi hlen hg
  have inK := hY w _ Y
  obtain ⟨fd, hb, hF⟩ := F w mg fa _ inK G.T.g hmg
  exact end_call inK G.T.g G.T.b G.T.builtins G.T.nolimit hg hobj hi (Nat.le_trans hlen hn2) hr hF hb (hm ns hlen)
end DL
set_option Elab.async false
set_option linter.all false
set_option maxRecDepth 100000
set_option maxHeartbeats 4000000
/-! DLm: what holds behind a meaning's run (plain Lean, no program in sight). -/
namespace DL
open PySem L2
/-- behind a value: Q; behind an exception: E -/
def Wr {α : Type} (r : R α) (Q : α → Sto → Prop) (E : Xn → Sto → Prop) : Prop := match r with
  | .ok a s => Q a s
  | .exc x s => E x s
  | .bad => False
abbrev NoE : Xn → Sto → Prop := fun _ _ => False
/-- behind a statement -/
structure Po where
  nx : Lo → Sto → Prop := fun _ _ => False
  rt : D → Sto → Prop := fun _ _ => False
  bk : Lo → Sto → Prop := fun _ _ => False
  ct : Lo → Sto → Prop := fun _ _ => False
  ex : Xn → Lo → Sto → Prop := fun _ _ _ => False
def Ws (r : SR) (p : Po) : Prop := match r with
  | .nx lo s => p.nx lo s
  | .rt d s => p.rt d s
  | .bk lo s => p.bk lo s
  | .ct lo s => p.ct lo s
  | .exc x lo s => p.ex x lo s
  | .bad => False
section
variable {α β : Type} {r : R α} {Q Q' : α → Sto → Prop} {E E' : Xn → Sto → Prop} {lo : Lo} {s : Sto}
theorem Wr.mono (h : Wr r Q E) (q : ∀ a s, Q a s → Q' a s) (e : ∀ a s, E a s → E' a s) : Wr r Q' E' := by
  cases r with
  | ok a s => exact q a s h
  | exc x s => exact e x s h
  | bad => exact h
theorem Wr.then (h : Wr r Q NoE) (q : ∀ a s, Q a s → Q' a s) : Wr r Q' E' := h.mono q fun _ _ z => z.elim
theorem Wr.eq (h : Wr r Q NoE) : ∃ a s, r = .ok a s ∧ Q a s := by
  cases r with
  | ok a s => exact ⟨a, s, rfl, h⟩
  | exc x s => exact h.elim
  | bad => exact h.elim
@[simp] theorem wr_ok {a : α} : Wr (.ok a s) Q E ↔ Q a s := Iff.rfl
@[simp] theorem wr_exc {x : Xn} : Wr (.exc x s : R α) Q E ↔ E x s := Iff.rfl
@[simp] theorem wr_bad : Wr (.bad : R α) Q E ↔ False := Iff.rfl
@[simp] theorem wr_ret {a : α} : Wr (ret a s) Q E ↔ Q a s := Iff.rfl
@[simp] theorem wr_bind {f : α → M β} {Q : β → Sto → Prop} : Wr (r.bind f) Q E ↔ Wr r (fun a s => Wr (f a s) Q E) E := by cases r <;> exact Iff.rfl
@[simp] theorem wr_lift {g : Sto → Option α} : Wr (liftP g s) Q E ↔ ∃ d, g s = some d ∧ Q d s := by
  unfold liftP
  cases e : g s with
  | none => exact ⟨fun z => z.elim, fun ⟨_, z, _⟩ => nomatch z⟩
  | some d => exact ⟨fun z => ⟨d, rfl, z⟩, fun ⟨_, z, q⟩ => by cases z; exact q⟩
@[simp] theorem wr_noX : Wr (noX r) Q E ↔ Wr r Q NoE := by cases r <;> exact Iff.rfl
theorem wr_ite {c : Prop} [Decidable c] {r r' : R α} : Wr (if c then r else r') Q E ↔ (c → Wr r Q E) ∧ (¬ c → Wr r' Q E) := by
  by_cases h : c <;> simp [h]
theorem getV_at {i : Nat} {d : D} (h : lo[i]? = some (some d)) : getV i lo s = .ok d s := by unfold getV; rw [h]
@[simp] theorem getV_cons (x : Option D) (n : Nat) : getV (n + 1) (x :: lo) s = getV n lo s := rfl
@[simp] theorem getV_zero (d : D) : getV 0 (some d :: lo) s = .ok d s := rfl
end
section
variable {Q : D → Sto → Prop} {E : Xn → Sto → Prop} {lo : Lo} {s : Sto} {f f' : D → D → Sto → Option D} {ma mb mc : Lo → M D} {mt mt' : Lo → M Bool} {ml : Lo → M (List D)} {QB : Bool → Sto → Prop} {QL : List D → Sto → Prop}
@[simp] theorem w_bin : Wr (mBin f ma mb lo s) Q E ↔ Wr (ma lo s) (fun x s1 => Wr (mb lo s1) (fun y s2 => ∃ d, f x y s2 = some d ∧ Q d s2) E) E := by
  unfold mBin; simp only [wr_bind, wr_lift]
@[simp] theorem w_asB {d : D} : Wr (asB d s) QB E ↔ ∃ b, d = .bl b ∧ QB b s := by
  cases d <;> simp [asB, Wr, ret]
@[simp] theorem w_B : Wr (mB ma lo s) QB E ↔ Wr (ma lo s) (fun x s1 => ∃ b, x = .bl b ∧ QB b s1) E := by
  unfold mB; simp only [wr_bind, w_asB]
@[simp] theorem w_Tru : Wr (mTru ma lo s) QB E ↔ Wr (ma lo s) (fun x s1 => ∃ b, truD x s1 = some b ∧ QB b s1) E := by
  unfold mTru; simp only [wr_bind, wr_lift]
@[simp] theorem w_AndB : Wr (mAndB mt mt' lo s) QB E ↔ Wr (mt lo s) (fun b s1 => if b = true then Wr (mt' lo s1) QB E else QB false s1) E := by
  unfold mAndB; simp only [wr_bind]
  constructor <;> intro h <;> refine h.mono (fun b s1 q => ?_) (fun _ _ z => z) <;> cases b <;> exact q
@[simp] theorem w_OrB : Wr (mOrB mt mt' lo s) QB E ↔ Wr (mt lo s) (fun b s1 => if b = true then QB true s1 else Wr (mt' lo s1) QB E) E := by
  unfold mOrB; simp only [wr_bind]
  constructor <;> intro h <;> refine h.mono (fun b s1 q => ?_) (fun _ _ z => z) <;> cases b <;> exact q
@[simp] theorem w_NotB : Wr (mNotB mt lo s) QB E ↔ Wr (mt lo s) (fun b s1 => QB (!b) s1) E := by
  unfold mNotB; simp only [wr_bind, wr_ok]
@[simp] theorem w_And : Wr (mAnd ma mb lo s) Q E ↔ Wr (ma lo s) (fun x s1 => ∃ b, truD x s1 = some b ∧ if b = true then Wr (mb lo s1) Q E else Q x s1) E := by
  unfold mAnd; simp only [wr_bind]
  constructor <;> intro h <;> refine h.mono (fun x s1 q => ?_) (fun _ _ z => z)
  · cases e : truD x s1 with
    | none => rw [e] at q; exact q.elim
    | some b => rw [e] at q; cases b <;> exact ⟨_, rfl, q⟩
  · obtain ⟨b, e, q⟩ := q
    rw [e]
    cases b <;> exact q
@[simp] theorem w_Or : Wr (mOr ma mb lo s) Q E ↔ Wr (ma lo s) (fun x s1 => ∃ b, truD x s1 = some b ∧ if b = true then Q x s1 else Wr (mb lo s1) Q E) E := by
  unfold mOr; simp only [wr_bind]
  constructor <;> intro h <;> refine h.mono (fun x s1 q => ?_) (fun _ _ z => z)
  · cases e : truD x s1 with
    | none => rw [e] at q; exact q.elim
    | some b => rw [e] at q; cases b <;> exact ⟨_, rfl, q⟩
  · obtain ⟨b, e, q⟩ := q
    rw [e]
    cases b <;> exact q
@[simp] theorem w_Not : Wr (mNot ma lo s) Q E ↔ Wr (ma lo s) (fun x s1 => ∃ b, truD x s1 = some b ∧ Q (.bl (!b)) s1) E := by
  unfold mNot; simp only [wr_bind]
  constructor <;> intro h <;> refine h.mono (fun x s1 q => ?_) (fun _ _ z => z)
  · cases e : truD x s1 with
    | none => rw [e] at q; exact q.elim
    | some b => rw [e] at q; exact ⟨_, rfl, q⟩
  · obtain ⟨b, e, q⟩ := q
    rw [e]
    exact q
@[simp] theorem w_IfE : Wr (mIfE mt ma mb lo s) Q E ↔ Wr (mt lo s) (fun b s1 => if b = true then Wr (ma lo s1) Q E else Wr (mb lo s1) Q E) E := by
  unfold mIfE; simp only [wr_bind]
  constructor <;> intro h <;> refine h.mono (fun b s1 q => ?_) (fun _ _ z => z) <;> cases b <;> exact q
@[simp] theorem w_Chain : Wr (mChain f f' ma mb mc lo s) Q E ↔ Wr (ma lo s) (fun x s1 => Wr (mb lo s1) (fun y s2 => ∃ b, f x y s2 = some (.bl b) ∧ if b = true then Wr (mc lo s2) (fun z s3 => ∃ d, f' y z s3 = some d ∧ Q d s3) E else Q (.bl false) s2) E) E := by
  unfold mChain; simp only [wr_bind]
  constructor <;> intro h <;> refine h.mono (fun x s1 h => h.mono (fun y s2 q => ?_) (fun _ _ z => z)) (fun _ _ z => z)
  · cases e : f x y s2 with
    | none => rw [e] at q; exact q.elim
    | some d =>
      rw [e] at q
      cases d <;> try exact q.elim
      rename_i b
      cases b
      · exact ⟨false, rfl, q⟩
      · exact ⟨true, rfl, by simpa using q⟩
  · obtain ⟨b, e, q⟩ := q
    rw [e]
    cases b
    · exact q
    · simpa using q
@[simp] theorem w_Nil : Wr (mNil lo s) QL E ↔ QL [] s := Iff.rfl
@[simp] theorem w_Cons : Wr (mCons ma ml lo s) QL E ↔ Wr (ma lo s) (fun x s1 => Wr (ml lo s1) (fun xs s2 => QL (x :: xs) s2) E) E := by
  unfold mCons; simp only [wr_bind, wr_ok]
@[simp] theorem w_Tup : Wr (mTup ml lo s) Q E ↔ Wr (ml lo s) (fun xs s1 => xs.length ≤ sizeLine ∧ Q (.tup xs) s1) E := by
  unfold mTup; simp only [wr_bind]
  constructor <;> intro h <;> refine h.mono (fun x s1 q => ?_) (fun _ _ z => z)
  · split at q
    · exact ⟨by assumption, q⟩
    · exact q.elim
  · rw [if_pos q.1]; exact q.2
@[simp] theorem w_Lst : Wr (mLst ml lo s) Q E ↔ Wr (ml lo s) (fun xs s1 => xs.length ≤ sizeLine ∧ Q (.lst xs) s1) E := by
  unfold mLst; simp only [wr_bind]
  constructor <;> intro h <;> refine h.mono (fun x s1 q => ?_) (fun _ _ z => z)
  · split at q
    · exact ⟨by assumption, q⟩
    · exact q.elim
  · rw [if_pos q.1]; exact q.2
@[simp] theorem w_LstL : Wr (mLstL ml lo s) Q E ↔ Wr (ml lo s) (fun xs s1 => xs.length ≤ sizeLine ∧ Q (.loc s1.length) (s1 ++ [.lst xs])) E := by
  unfold mLstL; simp only [wr_bind]
  constructor <;> intro h <;> refine h.mono (fun x s1 q => ?_) (fun _ _ z => z)
  · split at q
    · exact ⟨by assumption, q⟩
    · exact q.elim
  · rw [if_pos q.1]; exact q.2
@[simp] theorem w_CB {g : List D → Sto → Option D} : Wr (mCB g ml lo s) Q E ↔ Wr (ml lo s) (fun xs s1 => ∃ d, g xs s1 = some d ∧ Q d s1) E := by
  unfold mCB; simp only [wr_bind, wr_lift]
@[simp] theorem w_CM {g : List D → M D} : Wr (mCM g ml lo s) Q E ↔ Wr (ml lo s) (fun xs s1 => Wr (g xs s1) Q NoE) E := by
  unfold mCM; simp only [wr_bind, wr_noX]
@[simp] theorem w_Isi {u : Ty} : Wr (mIsi u ma lo s) Q E ↔ Wr (ma lo s) (fun d s1 => ∃ t, tyD d s1 = some t ∧ Q (.bl (isTy t u)) s1) E := by
  unfold mIsi; simp only [wr_bind]
  constructor <;> intro h <;> refine h.mono (fun x s1 q => ?_) (fun _ _ z => z)
  · cases e : tyD x s1 with
    | none => rw [e] at q; exact q.elim
    | some b => rw [e] at q; exact ⟨_, rfl, q⟩
  · obtain ⟨b, e, q⟩ := q
    rw [e]
    exact q
@[simp] theorem w_Neg : Wr (mNeg ma lo s) Q E ↔ Wr (ma lo s) (fun d s1 => ∃ i, d = .int i ∧ Q (.int (-i)) s1) E := by
  unfold mNeg; simp only [wr_bind]
  constructor <;> intro h <;> refine h.mono (fun x s1 q => ?_) (fun _ _ z => z)
  · cases x <;> try exact q.elim
    exact ⟨_, rfl, q⟩
  · obtain ⟨i, rfl, q⟩ := q
    exact q
@[simp] theorem w_Call {n : Nat} {m : List D → M D} : Wr (mCall n m ml lo s) Q E ↔ Wr (ml lo s) (fun ds s1 => ds.length = n ∧ Wr (m ds s1) Q E) E := by
  unfold mCall; simp only [wr_bind]
  constructor <;> intro h <;> refine h.mono (fun x s1 q => ?_) (fun _ _ z => z)
  · split at q
    · exact ⟨by assumption, q⟩
    · exact q.elim
  · rw [if_pos q.1]; exact q.2
@[simp] theorem w_Part {QO : Option Int → Sto → Prop} : Wr (mPart ma lo s) QO E ↔ Wr (ma lo s) (fun d s1 => ∃ i, d = .int i ∧ QO (some i) s1) E := by
  unfold mPart; simp only [wr_bind]
  constructor <;> intro h <;> refine h.mono (fun x s1 q => ?_) (fun _ _ z => z)
  · cases x <;> try exact q.elim
    exact ⟨_, rfl, q⟩
  · obtain ⟨i, rfl, q⟩ := q
    exact q
@[simp] theorem w_Cut {l h : Lo → M (Option Int)} : Wr (mCut ma l h lo s) Q E ↔ Wr (ma lo s) (fun d s1 => Wr (l lo s1) (fun a s2 => Wr (h lo s2) (fun b s3 => ∃ r, fCut d a b s3 = some r ∧ Q r s3) E) E) E := by
  unfold mCut; simp only [wr_bind, wr_lift]
@[simp] theorem w_Join : Wr (mJoin ma mb lo s) Q E ↔ Wr (ma lo s) (fun a s1 => isStr a = true ∧ Wr (mb lo s1) (fun d s2 => ∃ r, fJoin a d s2 = some r ∧ Q r s2) E) E := by
  unfold mJoin; simp only [wr_bind]
  constructor <;> intro h <;> refine h.mono (fun x s1 q => ?_) (fun _ _ z => z)
  · split at q
    · exact ⟨by assumption, by simpa using q⟩
    · exact q.elim
  · rw [if_pos q.1]; simpa using q.2
@[simp] theorem w_Meth {g : D → List D → M D} : Wr (mMeth g ma ml lo s) Q E ↔ Wr (ma lo s) (fun a s1 => isLst a s1 = true ∧ Wr (ml lo s1) (fun ds s2 => Wr (g a ds s2) Q NoE) E) E := by
  unfold mMeth; simp only [wr_bind]
  constructor <;> intro h <;> refine h.mono (fun x s1 q => ?_) (fun _ _ z => z)
  · split at q
    · exact ⟨by assumption, by simpa using q⟩
    · exact q.elim
  · rw [if_pos q.1]; simpa using q.2
end

/-! ### statements -/
section
variable {p : Po} {lo : Lo} {s : Sto} {ma mb mc : Lo → M D} {mt : Lo → M Bool} {m1 m2 : Lo → Sto → SR}
theorem Ws.mono {r : SR} {p p' : Po} (h : Ws r p) (h1 : ∀ l s, p.nx l s → p'.nx l s) (h2 : ∀ l s, p.rt l s → p'.rt l s) (h3 : ∀ l s, p.bk l s → p'.bk l s) (h4 : ∀ l s, p.ct l s → p'.ct l s) (h5 : ∀ x l s, p.ex x l s → p'.ex x l s) : Ws r p' := by
  cases r with
  | nx l s => exact h1 _ _ h
  | rt l s => exact h2 _ _ h
  | bk l s => exact h3 _ _ h
  | ct l s => exact h4 _ _ h
  | exc x l s => exact h5 _ _ _ h
  | bad => exact h
@[simp] theorem ws_nx : Ws (.nx lo s) p ↔ p.nx lo s := Iff.rfl
@[simp] theorem ws_bad : Ws .bad p ↔ False := Iff.rfl
@[simp] theorem ws_rt {d : D} : Ws (.rt d s) p ↔ p.rt d s := Iff.rfl
@[simp] theorem ws_bk : Ws (.bk lo s) p ↔ p.bk lo s := Iff.rfl
@[simp] theorem ws_ct : Ws (.ct lo s) p ↔ p.ct lo s := Iff.rfl
@[simp] theorem ws_bindS {α : Type} {r : R α} {f : α → Sto → SR} : Ws (bindS r lo f) p ↔ Wr r (fun a s => Ws (f a s) p) (fun x s => p.ex x lo s) := by cases r <;> exact Iff.rfl
@[simp] theorem ws_seq : Ws (mSeq m1 m2 lo s) p ↔ Ws (m1 lo s) { p with nx := fun l s => Ws (m2 l s) p } := by
  unfold mSeq
  cases m1 lo s <;> exact Iff.rfl
@[simp] theorem ws_if : Ws (mIf mt m1 m2 lo s) p ↔ Wr (mt lo s) (fun b s1 => if b = true then Ws (m1 lo s1) p else Ws (m2 lo s1) p) (fun x s => p.ex x lo s) := by
  unfold mIf; simp only [ws_bindS]
  constructor <;> intro h <;> refine h.mono (fun b s1 q => ?_) (fun _ _ z => z) <;> cases b <;> exact q
@[simp] theorem ws_ret : Ws (mRet ma lo s) p ↔ Wr (ma lo s) p.rt (fun x s => p.ex x lo s) := by
  unfold mRet; simp only [ws_bindS, ws_rt]
@[simp] theorem ws_expr : Ws (mExpr ma lo s) p ↔ Wr (ma lo s) (fun _ s1 => p.nx lo s1) (fun x s => p.ex x lo s) := by
  unfold mExpr; simp only [ws_bindS, ws_nx]
@[simp] theorem ws_set {T : Tg} : Ws (mSet T ma lo s) p ↔ Wr (ma lo s) (fun d s1 => ∃ l, setT T d lo = some l ∧ p.nx l s1) (fun x s => p.ex x lo s) := by
  unfold mSet; simp only [ws_bindS]
  constructor <;> intro h <;> refine h.mono (fun b s1 q => ?_) (fun _ _ z => z)
  · cases e : setT T b lo with
    | none => rw [e] at q; exact q.elim
    | some l => rw [e] at q; exact ⟨l, rfl, q⟩
  · obtain ⟨l, e, q⟩ := q
    rw [e]; exact q
@[simp] theorem ws_store : Ws (mStore ma mb mc lo s) p ↔ Wr (mc lo s) (fun v s1 => Wr (ma lo s1) (fun o s2 => Wr (mb lo s2) (fun i s3 => ∃ s4, storeD o i v s3 = some s4 ∧ p.nx lo s4) (fun x s => p.ex x lo s)) (fun x s => p.ex x lo s)) (fun x s => p.ex x lo s) := by
  unfold mStore; simp only [ws_bindS]
  constructor <;> intro h <;> refine h.mono (fun v s1 h => h.mono (fun o s2 h => h.mono (fun i s3 q => ?_) (fun _ _ z => z)) (fun _ _ z => z)) (fun _ _ z => z)
  · cases e : storeD o i v s3 with
    | none => rw [e] at q; exact q.elim
    | some l => rw [e] at q; exact ⟨l, rfl, q⟩
  · obtain ⟨l, e, q⟩ := q
    rw [e]; exact q
@[simp] theorem ws_for {T : Tg} {mi : Lo → M Src} : Ws (mFor T mi m1 lo s) p ↔ Wr (mi lo s) (fun S s1 => Ws (forS T m1 S.cnd S.items lo s1) p) (fun x s => p.ex x lo s) := by
  unfold mFor; simp only [ws_bindS]
/-- a def's run -/
theorem w_callF {N n : Nat} {b : Lo → Sto → SR} {ds : List D} {Q : D → Sto → Prop} {E : Xn → Sto → Prop} : Wr (callF N n b ds s) Q E ↔ Ws (b (ds.map some ++ List.replicate (N - n) none) s) { nx := fun _ s => Q .non s, rt := Q, ex := fun x _ s => E x s } := by
  unfold callF
  cases b (ds.map some ++ List.replicate (N - n) none) s <;> exact Iff.rfl
/-- a loop by its invariant: I of what is left, the names, the store -/
theorem ws_forS {T : Tg} {cnd : Cnd} (I : List D → Lo → Sto → Prop) (step : ∀ d ds lo s, I (d :: ds) lo s → cndB cnd s = true ∧ ∃ l, setT T d lo = some l ∧ Ws (m1 l s) { p with nx := I ds, ct := I ds, bk := p.nx }) (done : ∀ lo s, I [] lo s → cndB cnd s = true ∧ p.nx lo s) :
    ∀ (ds : List D) (lo : Lo) (s : Sto), I ds lo s → Ws (forS T m1 cnd ds lo s) p
  | [], lo, s, h => by
    unfold forS
    rw [if_pos (done lo s h).1]
    exact (done lo s h).2
  | d :: ds, lo, s, h => by
    obtain ⟨h1, l, h2, h3⟩ := step d ds lo s h
    unfold forS
    rw [if_pos h1, h2]
    show Ws (match m1 l s with | .nx lo2 s2 => forS T m1 cnd ds lo2 s2 | .ct lo2 s2 => forS T m1 cnd ds lo2 s2 | .bk lo2 s2 => .nx lo2 s2 | .rt d s2 => .rt d s2 | .exc x lo2 s2 => .exc x lo2 s2 | .bad => .bad) p
    cases e : m1 l s with
    | nx lo2 s2 => rw [e] at h3; exact ws_forS I step done ds lo2 s2 h3
    | ct lo2 s2 => rw [e] at h3; exact ws_forS I step done ds lo2 s2 h3
    | bk lo2 s2 => rw [e] at h3; exact h3
    | rt d s2 => rw [e] at h3; exact h3
    | exc x lo2 s2 => rw [e] at h3; exact h3
    | bad => rw [e] at h3; exact h3
end

/-! ### comprehensions -/
section
variable {E : Xn → Sto → Prop} {T : Tg} {mt : Lo → M Bool} {me : Lo → M D} {cnd : Cnd} {lo : Lo}
/-- by an invariant: I of the items that are left, what is made, the store -/
theorem wr_compR {Q : List D → Sto → Prop} (I : List D → List D → Sto → Prop) (step : ∀ d ds acc s, I (d :: ds) acc s → cndB cnd s = true ∧ acc.length < sizeLine ∧ ∃ l, setT T d lo = some l ∧ Wr (mt l s) (fun b s1 => if b = true then Wr (me l s1) (fun y s2 => I ds (acc ++ [y]) s2) NoE else I ds acc s1) NoE)
    (done : ∀ acc s, I [] acc s → cndB cnd s = true ∧ Q acc s) : ∀ (ds acc : List D) (s : Sto), I ds acc s → Wr (compR T mt me cnd lo ds acc s) Q E
  | [], acc, s, h => by
    unfold compR
    rw [if_pos (done acc s h).1]
    exact (done acc s h).2
  | d :: ds, acc, s, h => by
    obtain ⟨h1, hz, l, h2, h3⟩ := step d ds acc s h
    unfold compR
    rw [if_pos h1, h2]
    show Wr ((noX (mt l s)).bind fun b s1 => if b = true then (noX (me l s1)).bind fun y s2 => (if acc.length < sizeLine then compR T mt me cnd lo ds (acc ++ [y]) s2 else .bad) else compR T mt me cnd lo ds acc s1) Q E
    rw [wr_bind, wr_noX]
    refine h3.mono (fun b s1 q => ?_) fun _ _ z => z
    cases b with
    | false => exact wr_compR I step done ds acc s1 q
    | true =>
      show Wr ((noX (me l s1)).bind fun y s2 => (if acc.length < sizeLine then compR T mt me cnd lo ds (acc ++ [y]) s2 else .bad)) Q E
      rw [wr_bind, wr_noX]
      refine Wr.mono (show Wr (me l s1) (fun y s2 => I ds (acc ++ [y]) s2) NoE from q) (fun y s2 q => ?_) fun _ _ z => z
      show Wr (if acc.length < sizeLine then compR T mt me cnd lo ds (acc ++ [y]) s2 else .bad) Q E
      rw [if_pos hz]
      exact wr_compR I step done ds (acc ++ [y]) s2 q
/-- where the parts are pure: f tells what becomes of an item -/
theorem compR_pure (f : D → Option D) (s : Sto) (hc : cndB cnd s = true) : ∀ (ds acc : List D), acc.length + ds.length ≤ sizeLine → (∀ d ∈ ds, ∃ l, setT T d lo = some l ∧ ((mt l s = .ok true s ∧ ∃ y, me l s = .ok y s ∧ f d = some y) ∨ (mt l s = .ok false s ∧ f d = none))) →
    compR T mt me cnd lo ds acc s = .ok (acc ++ ds.filterMap f) s
  | [], acc, _, _ => by
    unfold compR
    rw [if_pos hc, List.filterMap_nil, List.append_nil]
  | d :: ds, acc, hz, h => by
    obtain ⟨l, h1, h2⟩ := h d List.mem_cons_self
    rw [List.length_cons] at hz
    unfold compR
    rw [if_pos hc, h1]
    simp only
    rcases h2 with ⟨h2, y, h3, h4⟩ | ⟨h2, h4⟩
    · rw [h2]
      show (noX (me l s)).bind (fun y s2 => if acc.length < sizeLine then compR T mt me cnd lo ds (acc ++ [y]) s2 else .bad) = _
      rw [h3]
      show (if acc.length < sizeLine then compR T mt me cnd lo ds (acc ++ [y]) s else .bad) = _
      rw [if_pos (by omega), compR_pure f s hc ds (acc ++ [y]) (by rw [List.length_append, List.length_singleton]; omega) fun d hd => h d (List.mem_cons_of_mem _ hd)]
      rw [List.filterMap_cons_some h4, List.append_assoc]
      rfl
    · rw [h2]
      show compR T mt me cnd lo ds acc s = _
      rw [compR_pure f s hc ds acc (by omega) fun d hd => h d (List.mem_cons_of_mem _ hd), List.filterMap_cons_none h4]
@[simp] theorem w_Comp {Q : D → Sto → Prop} {lo : Lo} {s : Sto} {fr : Bool} {own : List Nat} {mi : Lo → M Src} : Wr (mComp fr own T mi mt me lo s) Q E ↔ Wr (mi lo s) (fun S s1 => Wr (compR T mt me S.cnd (wipeD lo own) S.items [] s1) (fun ys s2 => Wr (finD fr ys s2) Q E) E) E := by
  unfold mComp; simp only [wr_bind]
@[simp] theorem w_fin {Q : D → Sto → Prop} {s : Sto} {ys : List D} : Wr (finD true ys s) Q E ↔ Q (.lst ys) s := Iff.rfl
@[simp] theorem w_finL {Q : D → Sto → Prop} {s : Sto} {ys : List D} : Wr (finD false ys s) Q E ↔ Q (.loc s.length) (s ++ [.lst ys]) := Iff.rfl
@[simp] theorem w_Iter {Q : Src → Sto → Prop} {s : Sto} {lo : Lo} {ma : Lo → M D} : Wr (mIter ma lo s) Q E ↔ Wr (ma lo s) (fun d s1 => ∃ S, itemsD d s1 = some S ∧ Q S s1) E := by
  unfold mIter; simp only [wr_bind]
  constructor <;> intro h <;> refine h.mono (fun x s1 q => ?_) (fun _ _ z => z)
  · cases e : itemsD x s1 with
    | none => rw [e] at q; exact q.elim
    | some b => rw [e] at q; exact ⟨_, rfl, q⟩
  · obtain ⟨b, e, q⟩ := q
    rw [e]
    exact q
@[simp] theorem w_Rng1 {Q : Src → Sto → Prop} {s : Sto} {lo : Lo} {ml : Lo → M (List D)} : Wr (mRng1 ml lo s) Q E ↔ Wr (ml lo s) (fun ds s1 => ∃ j, ds = [.int j] ∧ (-(2 ^ 62) ≤ j ∧ j < 2 ^ 62) ∧ Q ⟨(List.range j.toNat).map fun (i : Nat) => .int (0 + (i : Int)), none⟩ s1) E := by
  unfold mRng1; simp only [wr_bind]
  constructor <;> intro h <;> refine h.mono (fun x s1 q => ?_) (fun _ _ z => z)
  · unfold rng1 at q
    split at q
    · split at q
      · exact ⟨_, rfl, by assumption, q⟩
      · exact q.elim
    · exact q.elim
  · obtain ⟨j, rfl, h, q⟩ := q
    unfold rng1
    simp only
    rw [if_pos h]
    exact q
end
end DL
set_option Elab.async false
set_option linter.all false
set_option maxRecDepth 100000
set_option maxHeartbeats 4000000
/-! DLn: the laws' own pools and draws. -/
namespace DL
open PySem L2
/-! ### operators by their kinds -/
section
variable {s : Sto} {i j : Int} {x y : Str}
@[simp] theorem fAdd_int : fAdd (.int i) (.int j) s = some (.int (i + j)) := rfl
@[simp] theorem fSub_int : fSub (.int i) (.int j) s = some (.int (i - j)) := rfl
theorem fMul_int (h : (-(2 ^ 64) < i ∧ i < 2 ^ 64) ∨ (-(2 ^ 64) < j ∧ j < 2 ^ 64)) : fMul (.int i) (.int j) s = some (.int (i * j)) := by unfold fMul; simp only; rw [if_pos h]
theorem fMod_int (h : 0 < j) : fMod (.int i) (.int j) s = some (.int (i % j)) := by unfold fMod; simp only; rw [if_pos h]
theorem fDiv_int (h : 0 < j) (h2 : j < 1073741824) : fDiv (.int i) (.int j) s = some (.int (i / j)) := by unfold fDiv; simp only; rw [if_pos ⟨h, h2⟩]
theorem fPow_int (h : 0 ≤ j) (h2 : j ≤ 1000000) (h3 : i.natAbs < 2 ^ 64) : fPow (.int i) (.int j) s = some (.int (i ^ j.toNat)) := by unfold fPow; simp only; rw [if_pos ⟨h, h2, h3⟩]
@[simp] theorem fLt_int : fLt (.int i) (.int j) s = some (.bl (decide (i < j))) := rfl
@[simp] theorem fLe_int : fLe (.int i) (.int j) s = some (.bl (decide (i ≤ j))) := rfl
@[simp] theorem fGt_int : fGt (.int i) (.int j) s = some (.bl (decide (j < i))) := rfl
@[simp] theorem fGe_int : fGe (.int i) (.int j) s = some (.bl (decide (j ≤ i))) := rfl
@[simp] theorem fEq_int : fEq (.int i) (.int j) s = some (.bl (decide (i = j))) := by
  unfold fEq eqP
  simp [D.toV, scal]
@[simp] theorem fNe_int : fNe (.int i) (.int j) s = some (.bl (!decide (i = j))) := by
  unfold fNe eqP
  simp [D.toV, scal]
@[simp] theorem fEq_str : fEq (.str x) (.str y) s = some (.bl (decide (x = y))) := by
  unfold fEq eqP
  simp [D.toV, scal]
@[simp] theorem fNe_str : fNe (.str x) (.str y) s = some (.bl (!decide (x = y))) := by
  unfold fNe eqP
  simp [D.toV, scal]
@[simp] theorem truD_bl {b : Bool} : truD (.bl b) s = some b := rfl
@[simp] theorem fMax_int : fMax [.int i, .int j] s = some (.int (if j > i then j else i)) := rfl
@[simp] theorem fMin_int : fMin [.int i, .int j] s = some (.int (if j < i then j else i)) := rfl
@[simp] theorem fInt_bl {b : Bool} : fInt [.bl b] s = some (.int (if b then 1 else 0)) := rfl
theorem fIx_seq {d : D} {xs : List D} (h : seqOf d s = some xs) : fIx d (.int j) s = atI xs j := by
  unfold fIx
  cases d <;> simp only [seqOf, listOf] at h <;> try (cases h; done)
  all_goals simp only [seqOf, listOf, h]
  all_goals cases h
  all_goals rfl
@[simp] theorem seqOf_lst {xs : List D} : seqOf (.lst xs) s = some xs := rfl
@[simp] theorem seqOf_tup {xs : List D} : seqOf (.tup xs) s = some xs := rfl
@[simp] theorem seqOf_scr {xs : List D} : seqOf (.scr xs) s = some xs := rfl
theorem seqOf_loc {n : Nat} {xs : List D} (h : s[n]? = some (.lst xs)) : seqOf (.loc n) s = some xs := by simp only [seqOf, listOf, h]
@[simp] theorem fIx_lst {xs : List D} : fIx (.lst xs) (.int j) s = atI xs j := rfl
@[simp] theorem fIx_tup {xs : List D} : fIx (.tup xs) (.int j) s = atI xs j := rfl
@[simp] theorem fIx_scr {xs : List D} : fIx (.scr xs) (.int j) s = atI xs j := rfl
@[simp] theorem atI_0 {α : Type} {a : α} {l : List α} : atI (a :: l) 0 = some a := by
  unfold atI ixN
  rw [if_pos (by decide), if_pos (by rw [List.length_cons]; omega)]
  rfl
@[simp] theorem atI_1 {α : Type} {a b : α} {l : List α} : atI (a :: b :: l) 1 = some b := by
  unfold atI ixN
  rw [if_pos (by decide), if_pos (by rw [List.length_cons, List.length_cons]; omega)]
  rfl
theorem atI_in {α : Type} {l : List α} {j : Int} (h0 : 0 ≤ j) (h1 : j < l.length) : ∃ a, atI l j = some a ∧ a ∈ l := by
  have hj : j.toNat < l.length := by omega
  refine ⟨l[j.toNat], ?_, List.getElem_mem hj⟩
  unfold atI ixN
  rw [if_pos h0, if_pos h1]
  exact List.getElem?_eq_getElem hj
theorem fLen_seq {d : D} {xs : List D} (h : seqOf d s = some xs) : fLen [d] s = some (.int xs.length) := by
  unfold fLen
  cases d <;> simp only [seqOf, listOf] at h <;> try (cases h; done)
  all_goals simp only [seqOf, listOf, h]
  all_goals (try (cases h; done))
  all_goals rfl
theorem fLen_str (h : x.length ≤ sizeLine) : fLen [.str x] s = some (.int x.length) := by unfold fLen; simp only; rw [if_pos h]
end

/-- the pool of numbers that are drawn from -/
def PoolAt (s : Sto) (p : Nat) : Prop := ∃ a b : Int, s[p]? = some (.lst [.int a, .int b]) ∧ 0 ≤ a
/-- from the pool at p was drawn, nothing else was changed -/
structure Lk (p : Nat) (s s' : Sto) : Prop where
  pool : PoolAt s' p
  len : s.length ≤ s'.length
  oth : ∀ q, q < s.length → q ≠ p → s'[q]? = s[q]?
theorem Lk.refl {p : Nat} {s : Sto} (h : PoolAt s p) : Lk p s s := ⟨h, Nat.le_refl _, fun _ _ _ => rfl⟩
theorem Lk.trans {p : Nat} {s s1 s2 : Sto} (a : Lk p s s1) (b : Lk p s1 s2) : Lk p s s2 :=
  ⟨b.pool, Nat.le_trans a.len b.len, fun q h1 h2 => (b.oth q (Nat.lt_of_lt_of_le h1 a.len) h2).trans (a.oth q h1 h2)⟩
theorem Lk.set {p : Nat} {s : Sto} {a b a' b' : Int} (h : s[p]? = some (.lst [.int a, .int b])) (h0 : 0 ≤ a') : Lk p s (s.set p (.lst [.int a', .int b'])) := by
  have hp := (List.getElem?_eq_some_iff.mp h).1
  exact ⟨⟨a', b', by rw [List.getElem?_set_self hp], h0⟩, by simp, fun q _ hq => List.getElem?_set_ne (Ne.symm hq)⟩

def gDraw : List D → M D := callF 3 2
    (mSeq (mIf (mB (mBin fGt (mBin fIx (getV 0) (fun _ => ret (.int 0))) (fun _ => ret (.int 0)))) (mSeq (mSet (.nm 2) (mBin fMod (mBin fIx (getV 0) (fun _ => ret (.int 0))) (getV 1)))
    (mSeq (mStore (getV 0) (fun _ => ret (.int 0)) (mBin fDiv (mBin fIx (getV 0) (fun _ => ret (.int 0))) (getV 1)))
    (mRet (getV 2)))) .nx)
    (mSeq (mStore (getV 0) (fun _ => ret (.int 1)) (mBin fMod (mBin fAdd (mBin fMul (mBin fIx (getV 0) (fun _ => ret (.int 1))) (fun _ => ret (.int 69621))) (fun _ => ret (.int 7))) (fun _ => ret (.int 2147483647))))
    (mRet (mBin fMod (mBin fDiv (mBin fMod (mBin fMul (mBin fIx (getV 0) (fun _ => ret (.int 1))) (mBin fIx (getV 0) (fun _ => ret (.int 1)))) (fun _ => ret (.int 2147483629))) (fun _ => ret (.int 32))) (getV 1)))))
theorem draw_ok {p : Nat} {n : Int} {s : Sto} (h : PoolAt s p) (h0 : 0 < n) (h1 : n < 1073741824) : Wr (gDraw [.loc p, .int n] s) (fun d s' => ∃ r, d = .int r ∧ 0 ≤ r ∧ r < n ∧ Lk p s s') NoE := by
  obtain ⟨a, b, hs, ha⟩ := h
  have hp := (List.getElem?_eq_some_iff.mp hs).1
  have ix : ∀ {a b : Int} {s : Sto} (j : Int), s[p]? = some (.lst [.int a, .int b]) → fIx (.loc p) (.int j) s = atI [.int a, .int b] j := fun j h => fIx_seq (seqOf_loc h)
  have st0 : ∀ v, storeD (.loc p) (.int 0) v s = some (s.set p (.lst [v, .int b])) := fun v => by
    simp only [storeD, hs]
    rfl
  have st1 : ∀ v, storeD (.loc p) (.int 1) v s = some (s.set p (.lst [.int a, v])) := fun v => by
    simp only [storeD, hs]
    rfl
  unfold gDraw
  rw [w_callF]
  simp only [List.map_cons, List.map_nil, List.cons_append, List.nil_append, List.replicate, Nat.reduceSub, ws_seq, ws_if, w_B, w_bin, getV_zero, getV_cons, wr_ok, wr_ret, ix _ hs, atI_0, atI_1, Option.some.injEq, exists_eq_left', fGt_int, D.bl.injEq, fMod_int h0, fDiv_int h0 h1, ws_set, setT, ws_store, st0, st1, ws_ret, ws_nx]
  by_cases hpos : 0 < a
  · rw [if_pos (by simpa using hpos)]
    simp only [List.set_cons_succ, List.set_cons_zero, getV_cons, getV_zero, wr_ok, ix _ hs, atI_0, Option.some.injEq, exists_eq_left', fDiv_int h0 h1, st0]
    exact ⟨_, rfl, Int.emod_nonneg _ (by omega), Int.emod_lt_of_pos _ h0, Lk.set hs (Int.ediv_nonneg ha (by omega))⟩
  · rw [if_neg (by simpa using hpos)]
    rw [fMul_int (.inr ⟨by decide, by decide⟩)]
    simp only [Option.some.injEq, exists_eq_left', fAdd_int, fMod_int (show (0 : Int) < 2147483647 by decide), st1]
    have he0 : 0 ≤ (b * 69621 + 7) % 2147483647 := Int.emod_nonneg _ (by decide)
    have he1 : (b * 69621 + 7) % 2147483647 < 2147483647 := Int.emod_lt_of_pos _ (by decide)
    generalize (b * 69621 + 7) % 2147483647 = e at *
    have hs' : (s.set p (.lst [.int a, .int e]))[p]? = some (.lst [.int a, .int e]) := List.getElem?_set_self hp
    simp only [ix _ hs', atI_1, Option.some.injEq, exists_eq_left']
    rw [fMul_int (.inl ⟨by omega, by omega⟩)]
    simp only [Option.some.injEq, exists_eq_left', fMod_int (show (0 : Int) < 2147483629 by decide), fDiv_int (show (0 : Int) < 32 by decide) (by decide), fMod_int h0]
    exact ⟨_, rfl, Int.emod_nonneg _ (by omega), Int.emod_lt_of_pos _ h0, Lk.set hs ha⟩

def gPoolR : Lo → Sto → SR :=
    (mSeq (mSet (.nm 3) (mCB fMax (mCons (getV 2) (mCons (mBin fSub (mNeg (fun _ => ret (.int 1))) (getV 2)) mNil))))
    (mSeq (mSet (.nm 4) (mBin fMod (mBin fMul (mBin fAdd (mBin fAdd (mBin fAdd (mBin fMod (getV 3) (fun _ => ret (.int 2147483629))) (mBin fMul (mBin fMul (fun _ => ret (.int 7919)) (getV 1)) (getV 1))) (mBin fMul (fun _ => ret (.int 31)) (getV 1))) (fun _ => ret (.int 17))) (fun _ => ret (.int 48271))) (fun _ => ret (.int 2147483647))))
    (mRet (mLstL (mCons (mBin fMul (getV 3) (mCB fInt (mCons (mBin fGe (getV 3) (mBin fPow (fun _ => ret (.int 10)) (fun _ => ret (.int 18)))) mNil))) (mCons (getV 4) mNil))))))
def gPool : List D → M D := callF 5 2
    (mSeq (mSet (.nm 2) (fun _ => ret (.int 0)))
    (mSeq (mIf (mB (mBin fLt (getV 1) (mCB fLen (mCons (getV 0) mNil)))) (mSet (.nm 2) (mBin fIx (getV 0) (getV 1))) .nx) gPoolR))
theorem pool_ok {ns : List Int} {k : Int} {s : Sto} (h0 : 0 ≤ k) (h1 : k < 1000) : Wr (gPool [.scr (ns.map D.int), .int k] s) (fun d s' => ∃ a b : Int, d = .loc s.length ∧ s' = s ++ [.lst [.int a, .int b]] ∧ 0 ≤ a) NoE := by
  have rest : ∀ i : Int, Ws (gPoolR [some (.scr (ns.map D.int)), some (.int k), some (.int i), none, none] s)
      { nx := fun _ s' => ∃ a b : Int, D.non = .loc s.length ∧ s' = s ++ [.lst [.int a, .int b]] ∧ 0 ≤ a, rt := fun d s' => ∃ a b : Int, d = .loc s.length ∧ s' = s ++ [.lst [.int a, .int b]] ∧ 0 ≤ a, ex := fun _ _ _ => False } := by
    intro i
    unfold gPoolR
    simp only [ws_seq, ws_set, w_CB, w_Cons, w_Nil, w_bin, w_Neg, getV_zero, getV_cons, wr_ok, wr_ret, setT, D.int.injEq, exists_eq_left', fSub_int, Option.some.injEq, fMax_int, List.set_cons_succ, List.set_cons_zero, fMod_int (show (0 : Int) < 2147483629 by decide), fMod_int (show (0 : Int) < 2147483647 by decide), fAdd_int, fGe_int, fInt_bl, ws_ret, w_LstL, ws_nx,
      fMul_int (.inl (show -(2 ^ 64) < (7919 : Int) ∧ (7919 : Int) < 2 ^ 64 by decide)), fMul_int (.inl (show -(2 ^ 64) < (31 : Int) ∧ (31 : Int) < 2 ^ 64 by decide)), fMul_int (.inr (show -(2 ^ 64) < (48271 : Int) ∧ (48271 : Int) < 2 ^ 64 by decide)), fMul_int (.inr (show -(2 ^ 64) < k ∧ k < 2 ^ 64 by omega)), fPow_int (show (0 : Int) ≤ 18 by decide) (by decide) (show (10 : Int).natAbs < 2 ^ 64 by decide)]
    generalize hm : (if -1 - i > i then -1 - i else i) = e
    have he : 0 ≤ e := by
      rw [← hm]
      split <;> omega
    generalize hd : decide ((10 : Int) ^ Int.toNat 18 ≤ e) = q
    cases q with
    | true =>
      simp only [if_true, fMul_int (.inr (show -(2 ^ 64) < (1 : Int) ∧ (1 : Int) < 2 ^ 64 by decide)), Option.some.injEq, exists_eq_left']
      exact ⟨by show 2 ≤ sizeLine; decide, _, _, trivial, rfl, by omega⟩
    | false =>
      simp only [Bool.false_eq_true, if_false, fMul_int (.inr (show -(2 ^ 64) < (0 : Int) ∧ (0 : Int) < 2 ^ 64 by decide)), Option.some.injEq, exists_eq_left']
      exact ⟨by show 2 ≤ sizeLine; decide, _, _, trivial, rfl, by omega⟩
  unfold gPool
  rw [w_callF]
  simp only [List.map_cons, List.map_nil, List.cons_append, List.nil_append, List.replicate, Nat.reduceSub, ws_seq, ws_if, w_B, w_bin, getV_zero, getV_cons, wr_ok, wr_ret, Option.some.injEq, exists_eq_left', D.bl.injEq, ws_set, setT, ws_nx, List.set_cons_succ, List.set_cons_zero, w_CB, w_Cons, w_Nil, fLen_seq seqOf_scr, fLt_int, fIx_scr]
  by_cases hk : k < ((ns.map D.int).length : Int)
  · rw [if_pos (by simpa using hk)]
    obtain ⟨d, hd, hm⟩ := atI_in h0 hk
    rw [hd]
    simp only [Option.some.injEq, exists_eq_left']
    obtain ⟨i, _, rfl⟩ := List.mem_map.mp hm
    exact rest i
  · rw [if_neg (by simpa using hk)]
    exact rest 0

/-! ### texts -/
theorem join_nil : ∀ ys : List Str, (Str.join ("" : Str) ys).cps.toList = (ys.map fun y => y.cps.toList).flatten
  | [] => rfl
  | [y] => by simp [Str.join]
  | x :: z :: r => by
    show (x ++ ("" : Str) ++ Str.join "" (z :: r)).cps.toList = _
    rw [show (x ++ ("" : Str) ++ Str.join "" (z :: r)).cps = x.cps ++ ("" : Str).cps ++ (Str.join "" (z :: r)).cps from rfl, Array.toList_append, Array.toList_append, join_nil (z :: r)]
    have : (("" : Str).cps).toList = [] := rfl
    rw [this, List.append_nil]
    rfl
end DL
set_option Elab.async false
set_option linter.all false
set_option maxRecDepth 100000
set_option maxHeartbeats 4000000
namespace K01
open PySem L2 DL
/-! ### the text by places, the meanings of its defs (printed by gen.py) -/
def top (i : Nat) : Stmt := PySem.Challenge.pw_formsacross_k01_words_and_marks.main.body.getD i (.Pass ⟨0, 0, 0, 0⟩)
def k_LONGEST : D := (.int 8)
def k_MOST_MARK : D := (.int 1000000000)
def k_SIGNS : D := (.str ("abcdefghijklmnopqrstuvwxyz" : PySem.Str))
abbrev s_is_whole : Stmt := top 4
def N_is_whole : List Str := ["thing"]
theorem sc_is_whole : FnScope N_is_whole ["thing"] (defScope s_is_whole) := ⟨rfl, rfl, rfl, by decide +kernel, rfl, by decide +kernel, by decide +kernel⟩
def b_is_whole : Lo → Sto → SR :=
    (mRet (mAnd (mIsi .int (getV 0)) (mNot (mIsi .bl (getV 0)))))
def m_is_whole : List D → M D := callF 1 1 b_is_whole
abbrev s_is_word : Stmt := top 5
def N_is_word : List Str := ["thing", "sign"]
theorem sc_is_word : FnScope N_is_word ["thing"] (defScope s_is_word) := ⟨rfl, rfl, rfl, by decide +kernel, rfl, by decide +kernel, by decide +kernel⟩
def b_is_word : Lo → Sto → SR :=
    (mSeq (mIf (mOrB (mNotB (mTru (mIsi .str (getV 0)))) (mNotB (mB (mChain fLe fLe (fun _ => ret (.int 1)) (mCB fLen (mCons (getV 0) mNil)) (fun _ => ret k_LONGEST))))) (mRet (fun _ => ret (.bl false))) .nx)
    (mRet (mCB fAll (mCons (mComp true [1] (.nm 1) (mIter (getV 0)) (fun _ => ret true) (mBin fIn (getV 1) (fun _ => ret k_SIGNS))) mNil))))
def m_is_word : List D → M D := callF 2 1 b_is_word
abbrev s_is_mark : Stmt := top 6
def N_is_mark : List Str := ["thing"]
theorem sc_is_mark : FnScope N_is_mark ["thing"] (defScope s_is_mark) := ⟨rfl, rfl, rfl, by decide +kernel, rfl, by decide +kernel, by decide +kernel⟩
def b_is_mark : Lo → Sto → SR :=
    (mSeq (mIf (mOrB (mNotB (mTru (mIsi .tup (getV 0)))) (mOrB (mB (mBin fNe (mCB fLen (mCons (getV 0) mNil)) (fun _ => ret (.int 2)))) (mNotB (mTru (mCall 1 (m_is_whole) (mCons (mBin fIx (getV 0) (fun _ => ret (.int 1))) mNil)))))) (mRet (fun _ => ret (.bl false))) .nx)
    (mRet (mAnd (mOr (mCall 1 (m_is_word) (mCons (mBin fIx (getV 0) (fun _ => ret (.int 0))) mNil)) (mAnd (mIsi .str (mBin fIx (getV 0) (fun _ => ret (.int 0)))) (mBin fEq (mBin fIx (getV 0) (fun _ => ret (.int 0))) (fun _ => ret (.str ("" : PySem.Str)))))) (mChain fLe fLe (fun _ => ret (.int 0)) (mBin fIx (getV 0) (fun _ => ret (.int 1))) (fun _ => ret k_MOST_MARK)))))
def m_is_mark : List D → M D := callF 1 1 b_is_mark
abbrev s_law_pool : Stmt := top 8
def N_law_pool : List Str := ["_law_script", "_law_k", "_law_cell", "_law_size", "_law_mixed"]
theorem sc_law_pool : FnScope N_law_pool ["_law_script", "_law_k"] (defScope s_law_pool) := ⟨rfl, rfl, rfl, by decide +kernel, rfl, by decide +kernel, by decide +kernel⟩
def b_law_pool : Lo → Sto → SR :=
    (mSeq (mSet (.nm 2) (fun _ => ret (.int 0)))
    (mSeq (mIf (mB (mBin fLt (getV 1) (mCB fLen (mCons (getV 0) mNil)))) (mSet (.nm 2) (mBin fIx (getV 0) (getV 1))) .nx)
    (mSeq (mSet (.nm 3) (mCB fMax (mCons (getV 2) (mCons (mBin fSub (mNeg (fun _ => ret (.int 1))) (getV 2)) mNil))))
    (mSeq (mSet (.nm 4) (mBin fMod (mBin fMul (mBin fAdd (mBin fAdd (mBin fAdd (mBin fMod (getV 3) (fun _ => ret (.int 2147483629))) (mBin fMul (mBin fMul (fun _ => ret (.int 7919)) (getV 1)) (getV 1))) (mBin fMul (fun _ => ret (.int 31)) (getV 1))) (fun _ => ret (.int 17))) (fun _ => ret (.int 48271))) (fun _ => ret (.int 2147483647))))
    (mRet (mLstL (mCons (mBin fMul (getV 3) (mCB fInt (mCons (mBin fGe (getV 3) (mBin fPow (fun _ => ret (.int 10)) (fun _ => ret (.int 18)))) mNil))) (mCons (getV 4) mNil))))))))
def m_law_pool : List D → M D := callF 5 2 b_law_pool
abbrev s_law_draw : Stmt := top 9
def N_law_draw : List Str := ["_law_pool_here", "_law_many", "_law_found"]
theorem sc_law_draw : FnScope N_law_draw ["_law_pool_here", "_law_many"] (defScope s_law_draw) := ⟨rfl, rfl, rfl, by decide +kernel, rfl, by decide +kernel, by decide +kernel⟩
def b_law_draw : Lo → Sto → SR :=
    (mSeq (mIf (mB (mBin fGt (mBin fIx (getV 0) (fun _ => ret (.int 0))) (fun _ => ret (.int 0)))) (mSeq (mSet (.nm 2) (mBin fMod (mBin fIx (getV 0) (fun _ => ret (.int 0))) (getV 1)))
    (mSeq (mStore (getV 0) (fun _ => ret (.int 0)) (mBin fDiv (mBin fIx (getV 0) (fun _ => ret (.int 0))) (getV 1)))
    (mRet (getV 2)))) .nx)
    (mSeq (mStore (getV 0) (fun _ => ret (.int 1)) (mBin fMod (mBin fAdd (mBin fMul (mBin fIx (getV 0) (fun _ => ret (.int 1))) (fun _ => ret (.int 69621))) (fun _ => ret (.int 7))) (fun _ => ret (.int 2147483647))))
    (mRet (mBin fMod (mBin fDiv (mBin fMod (mBin fMul (mBin fIx (getV 0) (fun _ => ret (.int 1))) (mBin fIx (getV 0) (fun _ => ret (.int 1)))) (fun _ => ret (.int 2147483629))) (fun _ => ret (.int 32))) (getV 1)))))
def m_law_draw : List D → M D := callF 3 2 b_law_draw
abbrev s_law_is_word : Stmt := top 10
def N_law_is_word : List Str := ["_law_thing_here", "_law_sign"]
theorem sc_law_is_word : FnScope N_law_is_word ["_law_thing_here"] (defScope s_law_is_word) := ⟨rfl, rfl, rfl, by decide +kernel, rfl, by decide +kernel, by decide +kernel⟩
def b_law_is_word : Lo → Sto → SR :=
    (mSeq (mIf (mOrB (mNotB (mTru (mIsi .str (getV 0)))) (mB (mBin fNotIn (mCB fLen (mCons (getV 0) mNil)) (mLst (mCons (fun _ => ret (.int 1)) (mCons (fun _ => ret (.int 2)) (mCons (fun _ => ret (.int 3)) (mCons (fun _ => ret (.int 4)) (mCons (fun _ => ret (.int 5)) (mCons (fun _ => ret (.int 6)) (mCons (fun _ => ret (.int 7)) (mCons (fun _ => ret (.int 8)) mNil)))))))))))) (mRet (fun _ => ret (.bl false))) .nx)
    (mRet (mBin fEq (mComp true [1] (.nm 1) (mIter (getV 0)) (mB (mBin fNotIn (getV 1) (mCM (gList true) (mCons (fun _ => ret (.str ("abcdefghijklmnopqrstuvwxyz" : PySem.Str))) mNil)))) (getV 1)) (mLst mNil))))
def m_law_is_word : List D → M D := callF 2 1 b_law_is_word
abbrev s_law_text : Stmt := top 11
def N_law_text : List Str := ["_law_pool_here", "_law_signs", "_law_turn"]
theorem sc_law_text : FnScope N_law_text ["_law_pool_here"] (defScope s_law_text) := ⟨rfl, rfl, rfl, by decide +kernel, rfl, by decide +kernel, by decide +kernel⟩
def b_law_text : Lo → Sto → SR :=
    (mSeq (mSet (.nm 1) (mBin fAdd (mBin fMul (fun _ => ret (.str ("abcdefghijklmnopqrstuvwxyz" : PySem.Str))) (fun _ => ret (.int 2))) (fun _ => ret (.str ("AZ0_ -.\n'" : PySem.Str)))))
    (mSeq (mIf (mB (mBin fEq (mCall 2 (m_law_draw) (mCons (getV 0) (mCons (fun _ => ret (.int 2)) mNil))) (fun _ => ret (.int 0)))) (mSet (.nm 1) (mCut (getV 1) (fun _ => ret none) (mPart (fun _ => ret (.int 26))))) .nx)
    (mRet (mJoin (fun _ => ret (.str ("" : PySem.Str))) (mComp true [2] (.nm 2) (mRng1 (mCons (mCall 2 (m_law_draw) (mCons (getV 0) (mCons (fun _ => ret (.int 11)) mNil))) mNil)) (fun _ => ret true) (mBin fIx (getV 1) (mCall 2 (m_law_draw) (mCons (getV 0) (mCons (mCB fLen (mCons (getV 1) mNil)) mNil)))))))))
def m_law_text : List D → M D := callF 3 1 b_law_text
abbrev s_law_thing : Stmt := top 12
def N_law_thing : List Str := ["_law_pool_here", "_law_deep", "_law_text_here", "_law_number", "_law_some"]
theorem sc_law_thing : FnScope N_law_thing ["_law_pool_here", "_law_deep"] (defScope s_law_thing) := ⟨rfl, rfl, rfl, by decide +kernel, rfl, by decide +kernel, by decide +kernel⟩
def b_law_thing (m_law_thing : List D → M D) : Lo → Sto → SR :=
    (mSeq (mSet (.nm 2) (mCall 1 (m_law_text) (mCons (getV 0) mNil)))
    (mSeq (mSet (.nm 3) (mBin fIx (mLst (mCons (fun _ => ret (.int 0)) (mCons (fun _ => ret (.int 1)) (mCons (mNeg (fun _ => ret (.int 1))) (mCons (mBin fPow (fun _ => ret (.int 10)) (fun _ => ret (.int 9))) (mCons (mBin fAdd (mBin fPow (fun _ => ret (.int 10)) (fun _ => ret (.int 9))) (fun _ => ret (.int 1))) (mCons (mCall 2 (m_law_draw) (mCons (getV 0) (mCons (fun _ => ret (.int 100)) mNil))) mNil))))))) (mCall 2 (m_law_draw) (mCons (getV 0) (mCons (fun _ => ret (.int 6)) mNil)))))
    (mSeq (mSet (.nm 4) (mLst (mCons (getV 2) (mCons (getV 2) (mCons (getV 3) (mCons (getV 3) (mCons (fun _ => ret (.str ("" : PySem.Str))) (mCons (fun _ => ret .non) (mCons (fun _ => ret (.bl true)) (mCons (fun _ => ret (.bl false)) (mCons (mLst (mCons (getV 2) mNil)) (mCons (fun _ => ret (.dct [] [])) (mCons (mTup mNil) (mCons (mTup (mCons (getV 2) mNil)) (mCons (mTup (mCons (getV 2) (mCons (getV 3) (mCons (fun _ => ret (.int 0)) mNil)))) mNil)))))))))))))))
    (mSeq (mIf (mAndB (mB (mBin fGt (getV 1) (fun _ => ret (.int 0)))) (mB (mBin fEq (mCall 2 (m_law_draw) (mCons (getV 0) (mCons (fun _ => ret (.int 2)) mNil))) (fun _ => ret (.int 0))))) (mRet (mTup (mCons (mCall 2 (m_law_thing) (mCons (getV 0) (mCons (fun _ => ret (.int 0)) mNil))) (mCons (mCall 2 (m_law_thing) (mCons (getV 0) (mCons (fun _ => ret (.int 0)) mNil))) mNil)))) .nx)
    (mRet (mBin fIx (getV 4) (mCall 2 (m_law_draw) (mCons (getV 0) (mCons (fun _ => ret (.int 13)) mNil)))))))))
def m_law_thing : Nat → List D → M D
  | 0 => fun _ _ => .bad
  | k + 1 => callF 5 2 (b_law_thing (m_law_thing k))
abbrev s_law_whole : Stmt := top 13
def N_law_whole : List Str := ["_law_thing_here"]
theorem sc_law_whole : FnScope N_law_whole ["_law_thing_here"] (defScope s_law_whole) := ⟨rfl, rfl, rfl, by decide +kernel, rfl, by decide +kernel, by decide +kernel⟩
def b_law_whole : Lo → Sto → SR :=
    (mRet (mAnd (mIsi .int (getV 0)) (mNot (mIsi .bl (getV 0)))))
def m_law_whole : List D → M D := callF 1 1 b_law_whole
abbrev s_law_is_mark : Stmt := top 14
def N_law_is_mark : List Str := ["_law_thing_here"]
theorem sc_law_is_mark : FnScope N_law_is_mark ["_law_thing_here"] (defScope s_law_is_mark) := ⟨rfl, rfl, rfl, by decide +kernel, rfl, by decide +kernel, by decide +kernel⟩
def b_law_is_mark : Lo → Sto → SR :=
    (mSeq (mIf (mOrB (mNotB (mTru (mIsi .tup (getV 0)))) (mOrB (mB (mBin fNe (mCB fLen (mCons (getV 0) mNil)) (fun _ => ret (.int 2)))) (mNotB (mTru (mIsi .str (mBin fIx (getV 0) (fun _ => ret (.int 0)))))))) (mRet (fun _ => ret (.bl false))) .nx)
    (mRet (mAnd (mOr (mBin fEq (mBin fIx (getV 0) (fun _ => ret (.int 0))) (fun _ => ret (.str ("" : PySem.Str)))) (mCall 1 (m_law_is_word) (mCons (mBin fIx (getV 0) (fun _ => ret (.int 0))) mNil))) (mAnd (mCall 1 (m_law_whole) (mCons (mBin fIx (getV 0) (fun _ => ret (.int 1))) mNil)) (mChain fLe fLe (fun _ => ret (.int 0)) (mBin fIx (getV 0) (fun _ => ret (.int 1))) (mBin fPow (fun _ => ret (.int 10)) (fun _ => ret (.int 9))))))))
def m_law_is_mark : List D → M D := callF 1 1 b_law_is_mark
abbrev s_law : Stmt := top 15
def N_law : List Str := ["_law_script", "_law_k", "_law_pool_here", "_law_turn", "_law_one", "_law_due"]
theorem sc_law : FnScope N_law ["_law_script"] (defScope s_law) := ⟨rfl, rfl, rfl, by decide +kernel, rfl, by decide +kernel, by decide +kernel⟩
def b_law : Lo → Sto → SR :=
    (mSeq (mFor (.nm 1) (mRng1 (mCons (mCB fMax (mCons (fun _ => ret (.int 1)) (mCons (mCB fMin (mCons (fun _ => ret (.int 40)) (mCons (mCB fLen (mCons (getV 0) mNil)) mNil))) mNil))) mNil)) (mSeq (mSet (.nm 2) (mCall 2 (m_law_pool) (mCons (getV 0) (mCons (getV 1) mNil))))
    (mFor (.nm 3) (mRng1 (mCons (fun _ => ret (.int 6)) mNil)) (mSeq (mSet (.nm 4) (mCall 2 (m_law_thing 2) (mCons (getV 2) (mCons (fun _ => ret (.int 1)) mNil))))
    (mSeq (mSet (.nm 5) (mLst (mCons (mCall 1 (m_law_is_word) (mCons (getV 4) mNil)) (mCons (mCall 1 (m_law_whole) (mCons (getV 4) mNil)) (mCons (mCall 1 (m_law_is_mark) (mCons (getV 4) mNil)) mNil)))))
    (mIf (mB (mBin fNe (mCB fRepr (mCons (mLst (mCons (mCall 1 (m_is_word) (mCons (getV 4) mNil)) (mCons (mCall 1 (m_is_whole) (mCons (getV 4) mNil)) (mCons (mCall 1 (m_is_mark) (mCons (getV 4) mNil)) mNil)))) mNil)) (mCB fRepr (mCons (getV 5) mNil)))) (mRet (fun _ => ret (.bl false))) .nx))))))
    (mRet (fun _ => ret (.bl true))))
def m_law : List D → M D := callF 6 1 b_law
section
variable {P : Program} {w : World} {K : PySem.W.Frag} {mg : Str → Option Value} {base : Heap} {c : ClsM}
def freeN : List Str := ["all", "bool", "int", "isinstance", "len", "list", "max", "min", "range", "repr", "str", "tuple"]
theorem d_is_whole {f : Addr} {fd : FuncData} (F : Fun K "is_whole" "is_whole" s_is_whole f fd) (hm : mg "is_whole" = some (.ref f)) (bd : Binds K fd ["thing"] []) (hf : ∀ x : Str, x ∈ freeN → mg x = none) : FnD P w K mg base c 1 "is_whole" ["thing"] m_is_whole :=
    FnD.of F hm bd sc_is_whole fun {_ _ _ _ _ _} hr hgd =>
     (pds_one (pd_ret (pd_and (pd_isi .int (pd_var 0) (hf ("isinstance" : PySem.Str) (by decide)) (hf ("int" : PySem.Str) (by decide))) (pe_one (pd_not (pd_isi .bl (pd_var 0) (hf ("isinstance" : PySem.Str) (by decide)) (hf ("bool" : PySem.Str) (by decide))))))))
theorem d_is_word {f : Addr} {fd : FuncData} (F : Fun K "is_word" "is_word" s_is_word f fd) (hm : mg "is_word" = some (.ref f)) (bd : Binds K fd ["thing"] []) (hf : ∀ x : Str, x ∈ freeN → mg x = none)
    (g_LONGEST : GlobD K mg "LONGEST" k_LONGEST)
    (g_SIGNS : GlobD K mg "SIGNS" k_SIGNS) : FnD P w K mg base c 1 "is_word" ["thing"] m_is_word :=
    FnD.of F hm bd sc_is_word fun {_ _ _ _ _ _} hr hgd =>
     (pds_cons (pd_if (PW.pt (pdw_or (pdt_not (pdt_val (pd_isi .str (pd_var 0) (hf ("isinstance" : PySem.Str) (by decide)) (hf ("str" : PySem.Str) (by decide))))) (pdw_or1 (pdt_not (pdt_chain od_le od_le pd_int (pd_callB cd_len (pda_cons (pd_var 0) pda_nil) (hf ("len" : PySem.Str) (by decide))) (pd_glob g_LONGEST rfl)))))) (pds_one (pd_ret pd_bl)) pds_nil)
      (pds_one (pd_ret (pd_callB (cd_all rfl) (pda_cons (pd_lc true [(("sign" : PySem.Str), 1)] rfl sc_is_word.nd (pdi_val (pd_var 0)) (blkOk_by (N := N_is_word) (sc := defScope s_is_word) (by decide +kernel)) (fun _ _ _ _ _ => (pg_nm 1 sc_is_word.nd)) (fun _ _ _ _ _ => pts_any) (fun _ _ _ _ _ => (pd_cmp od_in (pd_var 1) (pd_glob g_SIGNS rfl)))) pda_nil) (hf ("all" : PySem.Str) (by decide))))))
theorem d_is_mark {f : Addr} {fd : FuncData} (F : Fun K "is_mark" "is_mark" s_is_mark f fd) (hm : mg "is_mark" = some (.ref f)) (bd : Binds K fd ["thing"] []) (hf : ∀ x : Str, x ∈ freeN → mg x = none)
    (g_MOST_MARK : GlobD K mg "MOST_MARK" k_MOST_MARK)
    (F_is_whole : FnD P w K mg base c 1 "is_whole" ["thing"] (m_is_whole))
    (F_is_word : FnD P w K mg base c 1 "is_word" ["thing"] (m_is_word)) : FnD P w K mg base c 2 "is_mark" ["thing"] m_is_mark :=
    FnD.of F hm bd sc_is_mark fun {_ _ _ _ _ _} hr hgd =>
     (pds_cons (pd_if (PW.pt (pdw_or (pdt_not (pdt_val (pd_isi .tup (pd_var 0) (hf ("isinstance" : PySem.Str) (by decide)) (hf ("tuple" : PySem.Str) (by decide))))) (pdw_or (pdt_cmp (od_ne hr.units) (pd_callB cd_len (pda_cons (pd_var 0) pda_nil) (hf ("len" : PySem.Str) (by decide))) pd_int) (pdw_or1 (pdt_not (pdt_val (pd_call F_is_whole (hr.mono (by omega)) hgd (takes_of rfl rfl rfl rfl) (pda_cons (pd_ix od_ix (pd_var 0) pd_int) pda_nil)))))))) (pds_one (pd_ret pd_bl)) pds_nil)
      (pds_one (pd_ret (pd_and (pd_or (pd_call F_is_word (hr.mono (by omega)) hgd (takes_of rfl rfl rfl rfl) (pda_cons (pd_ix od_ix (pd_var 0) pd_int) pda_nil)) (pe_one (pd_and (pd_isi .str (pd_ix od_ix (pd_var 0) pd_int) (hf ("isinstance" : PySem.Str) (by decide)) (hf ("str" : PySem.Str) (by decide))) (pe_one (pd_cmp (od_eq hr.units) (pd_ix od_ix (pd_var 0) pd_int) pd_str))))) (pe_one (pd_chain od_le od_le pd_int (pd_ix od_ix (pd_var 0) pd_int) (pd_glob g_MOST_MARK rfl)))))))
theorem d_law_pool {f : Addr} {fd : FuncData} (F : Fun K "_law_pool" "_law_pool" s_law_pool f fd) (hm : mg "_law_pool" = some (.ref f)) (bd : Binds K fd ["_law_script", "_law_k"] []) (hf : ∀ x : Str, x ∈ freeN → mg x = none) : FnD P w K mg base c 1 "_law_pool" ["_law_script", "_law_k"] m_law_pool :=
    FnD.of F hm bd sc_law_pool fun {_ _ _ _ _ _} hr hgd =>
     (pds_cons (pd_set 2 sc_law_pool.nd pd_int)
      (pds_cons (pd_if (pdt_cmp od_lt (pd_var 1) (pd_callB cd_len (pda_cons (pd_var 0) pda_nil) (hf ("len" : PySem.Str) (by decide)))) (pds_one (pd_set 2 sc_law_pool.nd (pd_ix od_ix (pd_var 0) (pd_var 1)))) pds_nil)
      (pds_cons (pd_set 3 sc_law_pool.nd (pd_callB (cd_max rfl) (pda_cons (pd_var 2) (pda_cons (pd_bin od_sub (pd_neg pd_int) (pd_var 2)) pda_nil)) (hf ("max" : PySem.Str) (by decide))))
      (pds_cons (pd_set 4 sc_law_pool.nd (pd_bin od_mod (pd_bin od_mul (pd_bin od_add (pd_bin od_add (pd_bin od_add (pd_bin od_mod (pd_var 3) pd_int) (pd_bin od_mul (pd_bin od_mul pd_int (pd_var 1)) (pd_var 1))) (pd_bin od_mul pd_int (pd_var 1))) pd_int) pd_int) pd_int))
      (pds_one (pd_ret (pd_lstL (pda_cons (pd_bin od_mul (pd_var 3) (pd_callT cd_int (pda_cons (pd_cmp od_ge (pd_var 3) (pd_bin od_pow pd_int pd_int)) pda_nil) (hf ("int" : PySem.Str) (by decide)))) (pda_cons (pd_var 4) pda_nil)))))))))
theorem d_law_draw {f : Addr} {fd : FuncData} (F : Fun K "_law_draw" "_law_draw" s_law_draw f fd) (hm : mg "_law_draw" = some (.ref f)) (bd : Binds K fd ["_law_pool_here", "_law_many"] []) (hf : ∀ x : Str, x ∈ freeN → mg x = none) : FnD P w K mg base c 1 "_law_draw" ["_law_pool_here", "_law_many"] m_law_draw :=
    FnD.of F hm bd sc_law_draw fun {_ _ _ _ _ _} hr hgd =>
     (pds_cons (pd_if (pdt_cmp od_gt (pd_ix od_ix (pd_var 0) pd_int) pd_int) (pds_cons (pd_set 2 sc_law_draw.nd (pd_bin od_mod (pd_ix od_ix (pd_var 0) pd_int) (pd_var 1)))
      (pds_cons (pd_store (pd_var 0) pd_int (pd_bin od_div (pd_ix od_ix (pd_var 0) pd_int) (pd_var 1)) (pg_sub (pd_var 0) pd_int set_list))
      (pds_one (pd_ret (pd_var 2))))) pds_nil)
      (pds_cons (pd_store (pd_var 0) pd_int (pd_bin od_mod (pd_bin od_add (pd_bin od_mul (pd_ix od_ix (pd_var 0) pd_int) pd_int) pd_int) pd_int) (pg_sub (pd_var 0) pd_int set_list))
      (pds_one (pd_ret (pd_bin od_mod (pd_bin od_div (pd_bin od_mod (pd_bin od_mul (pd_ix od_ix (pd_var 0) pd_int) (pd_ix od_ix (pd_var 0) pd_int)) pd_int) pd_int) (pd_var 1))))))
theorem d_law_is_word {f : Addr} {fd : FuncData} (F : Fun K "_law_is_word" "_law_is_word" s_law_is_word f fd) (hm : mg "_law_is_word" = some (.ref f)) (bd : Binds K fd ["_law_thing_here"] []) (hf : ∀ x : Str, x ∈ freeN → mg x = none) : FnD P w K mg base c 1 "_law_is_word" ["_law_thing_here"] m_law_is_word :=
    FnD.of F hm bd sc_law_is_word fun {_ _ _ _ _ _} hr hgd =>
     (pds_cons (pd_if (PW.pt (pdw_or (pdt_not (pdt_val (pd_isi .str (pd_var 0) (hf ("isinstance" : PySem.Str) (by decide)) (hf ("str" : PySem.Str) (by decide))))) (pdw_or1 (pdt_cmp od_notIn (pd_callB cd_len (pda_cons (pd_var 0) pda_nil) (hf ("len" : PySem.Str) (by decide))) (pd_lst (pda_cons pd_int (pda_cons pd_int (pda_cons pd_int (pda_cons pd_int (pda_cons pd_int (pda_cons pd_int (pda_cons pd_int (pda_cons pd_int pda_nil))))))))))))) (pds_one (pd_ret pd_bl)) pds_nil)
      (pds_one (pd_ret (pd_cmp (od_eq hr.units) (pd_lc true [(("_law_sign" : PySem.Str), 1)] rfl sc_law_is_word.nd (pdi_val (pd_var 0)) (blkOk_by (N := N_law_is_word) (sc := defScope s_law_is_word) (by decide +kernel)) (fun _ _ _ _ _ => (pg_nm 1 sc_law_is_word.nd)) (fun _ _ _ _ _ => (pts_1 (pdt_cmp od_notIn (pd_var 1) (pd_callTM (cd_list true rfl) (pda_cons pd_str pda_nil) (hf ("list" : PySem.Str) (by decide)))))) (fun _ _ _ _ _ => (pd_var 1))) (pd_lst pda_nil)))))
theorem d_law_text {f : Addr} {fd : FuncData} (F : Fun K "_law_text" "_law_text" s_law_text f fd) (hm : mg "_law_text" = some (.ref f)) (bd : Binds K fd ["_law_pool_here"] []) (hf : ∀ x : Str, x ∈ freeN → mg x = none)
    (F_law_draw : FnD P w K mg base c 1 "_law_draw" ["_law_pool_here", "_law_many"] (m_law_draw)) : FnD P w K mg base c 2 "_law_text" ["_law_pool_here"] m_law_text :=
    FnD.of F hm bd sc_law_text fun {_ _ _ _ _ _} hr hgd =>
     (pds_cons (pd_set 1 sc_law_text.nd (pd_bin od_add (pd_bin od_mul pd_str pd_int) pd_str))
      (pds_cons (pd_if (pdt_cmp (od_eq hr.units) (pd_call F_law_draw (hr.mono (by omega)) hgd (takes_of rfl rfl rfl rfl) (pda_cons (pd_var 0) (pda_cons pd_int pda_nil))) pd_int) (pds_one (pd_set 1 sc_law_text.nd (pd_slice (pd_var 1) pdo_none (pdo_some pd_int)))) pds_nil)
      (pds_one (pd_ret (pd_join pd_str (pd_lc true [(("_law_turn" : PySem.Str), 2)] rfl sc_law_text.nd (pdi_range1 (pda_cons (pd_call F_law_draw (hr.mono (by omega)) hgd (takes_of rfl rfl rfl rfl) (pda_cons (pd_var 0) (pda_cons pd_int pda_nil))) pda_nil) (hf ("range" : PySem.Str) (by decide))) (blkOk_by (N := N_law_text) (sc := defScope s_law_text) (by decide +kernel)) (fun _ _ _ _ _ => (pg_nm 2 sc_law_text.nd)) (fun _ _ _ _ _ => pts_any) (fun _ _ _ _ _ => (pd_ix od_ix (pd_var 1) (pd_call F_law_draw (hr.mono (by omega)) hgd takes0 (pda_cons (pd_var 0) (pda_cons (pd_callB cd_len (pda_cons (pd_var 1) pda_nil) (hf ("len" : PySem.Str) (by decide))) pda_nil)))))))))))
theorem d_law_thing {f : Addr} {fd : FuncData} (F : Fun K "_law_thing" "_law_thing" s_law_thing f fd) (hm : mg "_law_thing" = some (.ref f)) (bd : Binds K fd ["_law_pool_here", "_law_deep"] []) (hf : ∀ x : Str, x ∈ freeN → mg x = none)
    (F_law_text : FnD P w K mg base c 2 "_law_text" ["_law_pool_here"] (m_law_text))
    (F_law_draw : FnD P w K mg base c 1 "_law_draw" ["_law_pool_here", "_law_many"] (m_law_draw)) : ∀ k : Nat, FnD P w K mg base c (3 + k) "_law_thing" ["_law_pool_here", "_law_deep"] (m_law_thing k)
  | 0 => FnD.none ⟨f, fd, hm, F.kp, bd⟩
  | k + 1 => by
    have F_law_thing := d_law_thing F hm bd hf F_law_text F_law_draw k
    exact FnD.of F hm bd sc_law_thing fun {_ _ _ _ _ _} hr hgd =>
     (pds_cons (pd_set 2 sc_law_thing.nd (pd_call F_law_text (hr.mono (show _ ≤ 3 + _ from Nat.le_add_right_of_le (by decide))) hgd (takes_of rfl rfl rfl rfl) (pda_cons (pd_var 0) pda_nil)))
      (pds_cons (pd_set 3 sc_law_thing.nd (pd_ix od_ix (pd_lst (pda_cons pd_int (pda_cons pd_int (pda_cons (pd_neg pd_int) (pda_cons (pd_bin od_pow pd_int pd_int) (pda_cons (pd_bin od_add (pd_bin od_pow pd_int pd_int) pd_int) (pda_cons (pd_call F_law_draw (hr.mono (show _ ≤ 3 + _ from Nat.le_add_right_of_le (by decide))) hgd (takes_of rfl rfl rfl rfl) (pda_cons (pd_var 0) (pda_cons pd_int pda_nil))) pda_nil))))))) (pd_call F_law_draw (hr.mono (show _ ≤ 3 + _ from Nat.le_add_right_of_le (by decide))) hgd (takes_of rfl rfl rfl rfl) (pda_cons (pd_var 0) (pda_cons pd_int pda_nil)))))
      (pds_cons (pd_set 4 sc_law_thing.nd (pd_lst (pda_cons (pd_var 2) (pda_cons (pd_var 2) (pda_cons (pd_var 3) (pda_cons (pd_var 3) (pda_cons pd_str (pda_cons pd_non (pda_cons pd_bl (pda_cons pd_bl (pda_cons (pd_lst (pda_cons (pd_var 2) pda_nil)) (pda_cons pd_dnew (pda_cons (pd_tup pda_nil) (pda_cons (pd_tup (pda_cons (pd_var 2) pda_nil)) (pda_cons (pd_tup (pda_cons (pd_var 2) (pda_cons (pd_var 3) (pda_cons pd_int pda_nil)))) pda_nil)))))))))))))))
      (pds_cons (pd_if (PW.pt (pdw_and (pdt_cmp od_gt (pd_var 1) pd_int) (pdw_and1 (pdt_cmp (od_eq hr.units) (pd_call F_law_draw (hr.mono (show _ ≤ 3 + _ from Nat.le_add_right_of_le (by decide))) hgd (takes_of rfl rfl rfl rfl) (pda_cons (pd_var 0) (pda_cons pd_int pda_nil))) pd_int)))) (pds_one (pd_ret (pd_tup (pda_cons (pd_call F_law_thing (hr.mono (Nat.le_refl _)) hgd (takes_of rfl rfl rfl rfl) (pda_cons (pd_var 0) (pda_cons pd_int pda_nil))) (pda_cons (pd_call F_law_thing (hr.mono (Nat.le_refl _)) hgd (takes_of rfl rfl rfl rfl) (pda_cons (pd_var 0) (pda_cons pd_int pda_nil))) pda_nil))))) pds_nil)
      (pds_one (pd_ret (pd_ix od_ix (pd_var 4) (pd_call F_law_draw (hr.mono (show _ ≤ 3 + _ from Nat.le_add_right_of_le (by decide))) hgd (takes_of rfl rfl rfl rfl) (pda_cons (pd_var 0) (pda_cons pd_int pda_nil))))))))))
theorem d_law_whole {f : Addr} {fd : FuncData} (F : Fun K "_law_whole" "_law_whole" s_law_whole f fd) (hm : mg "_law_whole" = some (.ref f)) (bd : Binds K fd ["_law_thing_here"] []) (hf : ∀ x : Str, x ∈ freeN → mg x = none) : FnD P w K mg base c 1 "_law_whole" ["_law_thing_here"] m_law_whole :=
    FnD.of F hm bd sc_law_whole fun {_ _ _ _ _ _} hr hgd =>
     (pds_one (pd_ret (pd_and (pd_isi .int (pd_var 0) (hf ("isinstance" : PySem.Str) (by decide)) (hf ("int" : PySem.Str) (by decide))) (pe_one (pd_not (pd_isi .bl (pd_var 0) (hf ("isinstance" : PySem.Str) (by decide)) (hf ("bool" : PySem.Str) (by decide))))))))
theorem d_law_is_mark {f : Addr} {fd : FuncData} (F : Fun K "_law_is_mark" "_law_is_mark" s_law_is_mark f fd) (hm : mg "_law_is_mark" = some (.ref f)) (bd : Binds K fd ["_law_thing_here"] []) (hf : ∀ x : Str, x ∈ freeN → mg x = none)
    (F_law_is_word : FnD P w K mg base c 1 "_law_is_word" ["_law_thing_here"] (m_law_is_word))
    (F_law_whole : FnD P w K mg base c 1 "_law_whole" ["_law_thing_here"] (m_law_whole)) : FnD P w K mg base c 2 "_law_is_mark" ["_law_thing_here"] m_law_is_mark :=
    FnD.of F hm bd sc_law_is_mark fun {_ _ _ _ _ _} hr hgd =>
     (pds_cons (pd_if (PW.pt (pdw_or (pdt_not (pdt_val (pd_isi .tup (pd_var 0) (hf ("isinstance" : PySem.Str) (by decide)) (hf ("tuple" : PySem.Str) (by decide))))) (pdw_or (pdt_cmp (od_ne hr.units) (pd_callB cd_len (pda_cons (pd_var 0) pda_nil) (hf ("len" : PySem.Str) (by decide))) pd_int) (pdw_or1 (pdt_not (pdt_val (pd_isi .str (pd_ix od_ix (pd_var 0) pd_int) (hf ("isinstance" : PySem.Str) (by decide)) (hf ("str" : PySem.Str) (by decide))))))))) (pds_one (pd_ret pd_bl)) pds_nil)
      (pds_one (pd_ret (pd_and (pd_or (pd_cmp (od_eq hr.units) (pd_ix od_ix (pd_var 0) pd_int) pd_str) (pe_one (pd_call F_law_is_word (hr.mono (by omega)) hgd (takes_of rfl rfl rfl rfl) (pda_cons (pd_ix od_ix (pd_var 0) pd_int) pda_nil)))) (pd_and (pd_call F_law_whole (hr.mono (by omega)) hgd (takes_of rfl rfl rfl rfl) (pda_cons (pd_ix od_ix (pd_var 0) pd_int) pda_nil)) (pe_one (pd_chain od_le od_le pd_int (pd_ix od_ix (pd_var 0) pd_int) (pd_bin od_pow pd_int pd_int))))))))
theorem d_law {f : Addr} {fd : FuncData} (F : Fun K "law" "law" s_law f fd) (hf : ∀ x : Str, x ∈ freeN → mg x = none)
    (F_law_pool : FnD P w K mg base c 1 "_law_pool" ["_law_script", "_law_k"] (m_law_pool))
    (F_law_thing : FnD P w K mg base c 5 "_law_thing" ["_law_pool_here", "_law_deep"] (m_law_thing 2))
    (F_law_is_word : FnD P w K mg base c 1 "_law_is_word" ["_law_thing_here"] (m_law_is_word))
    (F_law_whole : FnD P w K mg base c 1 "_law_whole" ["_law_thing_here"] (m_law_whole))
    (F_law_is_mark : FnD P w K mg base c 2 "_law_is_mark" ["_law_thing_here"] (m_law_is_mark))
    (F_is_word : FnD P w K mg base c 1 "is_word" ["thing"] (m_is_word))
    (F_is_whole : FnD P w K mg base c 1 "is_whole" ["thing"] (m_is_whole))
    (F_is_mark : FnD P w K mg base c 2 "is_mark" ["thing"] (m_is_mark)) : FnG P w K mg base 6 f fd ["_law_script"] (spM K c 1 m_law) :=
    FnG.of F sc_law fun {_ _ _ _ _ _} hr hgd =>
     (pds_cons (pd_for (passes_of rfl) rfl (pdi_range1 (pda_cons (pd_callB (cd_max rfl) (pda_cons pd_int (pda_cons (pd_callB (cd_min rfl) (pda_cons pd_int (pda_cons (pd_callB cd_len (pda_cons (pd_var 0) pda_nil) (hf ("len" : PySem.Str) (by decide))) pda_nil)) (hf ("min" : PySem.Str) (by decide))) pda_nil)) (hf ("max" : PySem.Str) (by decide))) pda_nil) (hf ("range" : PySem.Str) (by decide))) (pg_nm 1 sc_law.nd) (pds_cons (pd_set 2 sc_law.nd (pd_call F_law_pool (hr.mono (by omega)) hgd (takes_of rfl rfl rfl rfl) (pda_cons (pd_var 0) (pda_cons (pd_var 1) pda_nil))))
      (pds_one (pd_for (passes_of rfl) rfl (pdi_range1 (pda_cons pd_int pda_nil) (hf ("range" : PySem.Str) (by decide))) (pg_nm 3 sc_law.nd) (pds_cons (pd_set 4 sc_law.nd (pd_call F_law_thing (hr.mono (by omega)) hgd (takes_of rfl rfl rfl rfl) (pda_cons (pd_var 2) (pda_cons pd_int pda_nil))))
      (pds_cons (pd_set 5 sc_law.nd (pd_lst (pda_cons (pd_call F_law_is_word (hr.mono (by omega)) hgd (takes_of rfl rfl rfl rfl) (pda_cons (pd_var 4) pda_nil)) (pda_cons (pd_call F_law_whole (hr.mono (by omega)) hgd (takes_of rfl rfl rfl rfl) (pda_cons (pd_var 4) pda_nil)) (pda_cons (pd_call F_law_is_mark (hr.mono (by omega)) hgd (takes_of rfl rfl rfl rfl) (pda_cons (pd_var 4) pda_nil)) pda_nil)))))
      (pds_one (pd_if (pdt_cmp (od_ne hr.units) (pd_callB (cd_repr hgd hr.units) (pda_cons (pd_lst (pda_cons (pd_call F_is_word (hr.mono (by omega)) hgd (takes_of rfl rfl rfl rfl) (pda_cons (pd_var 4) pda_nil)) (pda_cons (pd_call F_is_whole (hr.mono (by omega)) hgd (takes_of rfl rfl rfl rfl) (pda_cons (pd_var 4) pda_nil)) (pda_cons (pd_call F_is_mark (hr.mono (by omega)) hgd (takes_of rfl rfl rfl rfl) (pda_cons (pd_var 4) pda_nil)) pda_nil)))) pda_nil) (hf ("repr" : PySem.Str) (by decide))) (pd_callB (cd_repr hgd hr.units) (pda_cons (pd_var 5) pda_nil) (hf ("repr" : PySem.Str) (by decide)))) (pds_one (pd_ret pd_bl)) pds_nil))))))))
      (pds_one (pd_ret pd_bl)))
end
/-! ### the program's top -/
theorem all_mk {P : Program} {w : World} {K : PySem.W.Frag} {h : Heap} {mg : Str → Option Value} {fa : Addr} {c : ClsM} (X : K.In h) (G : h.Ns mainGlobals mg) (hfa : mg "law" = some (.ref fa))
    {f0 f1 f2 f3 f4 f5 f6 f7 f8 f9 f10 : Addr} {od0 an0 od1 an1 od2 an2 od3 an3 od4 an4 od5 an5 od6 an6 od7 an7 od8 an8 od9 an9 od10 an10 : Option Addr} {sl0 sl1 sl2 sl3 sl4 sl5 sl6 sl7 sl8 sl9 sl10 : Array (Option Value)} {oc0 kV0 dc0 pm0 cd0 ct0 oc1 kV1 dc1 pm1 cd1 ct1 oc2 kV2 dc2 pm2 cd2 ct2 oc3 kV3 dc3 pm3 cd3 ct3 oc4 kV4 dc4 pm4 cd4 ct4 oc5 kV5 dc5 pm5 cd5 ct5 oc6 kV6 dc6 pm6 cd6 ct6 oc7 kV7 dc7 pm7 cd7 ct7 oc8 kV8 dc8 pm8 cd8 ct8 oc9 kV9 dc9 pm9 cd9 ct9 oc10 kV10 dc10 pm10 cd10 ct10 : Value} {t0 t1 t2 : Tok}
    (a0 : PySem.W.nsIn K mainGlobals "is_whole" = some (some (.ref f0))) (l0 : K.lookup f0 = some ⟨oc0, od0, .func (PySem.W.fnOf "is_whole" "is_whole" (defArgs s_is_whole) (defBody s_is_whole) (defScope s_is_whole) .none kV0 dc0 pm0 an0 cd0 ct0), sl0⟩) (c0 : PySem.W.codeIn K cd0 "is_whole" = true) (k0 : PySem.W.keepIn K (.ref f0) = true)
    (a1 : PySem.W.nsIn K mainGlobals "is_word" = some (some (.ref f1))) (l1 : K.lookup f1 = some ⟨oc1, od1, .func (PySem.W.fnOf "is_word" "is_word" (defArgs s_is_word) (defBody s_is_word) (defScope s_is_word) .none kV1 dc1 pm1 an1 cd1 ct1), sl1⟩) (c1 : PySem.W.codeIn K cd1 "is_word" = true) (k1 : PySem.W.keepIn K (.ref f1) = true)
    (a2 : PySem.W.nsIn K mainGlobals "is_mark" = some (some (.ref f2))) (l2 : K.lookup f2 = some ⟨oc2, od2, .func (PySem.W.fnOf "is_mark" "is_mark" (defArgs s_is_mark) (defBody s_is_mark) (defScope s_is_mark) .none kV2 dc2 pm2 an2 cd2 ct2), sl2⟩) (c2 : PySem.W.codeIn K cd2 "is_mark" = true) (k2 : PySem.W.keepIn K (.ref f2) = true)
    (a3 : PySem.W.nsIn K mainGlobals "_law_pool" = some (some (.ref f3))) (l3 : K.lookup f3 = some ⟨oc3, od3, .func (PySem.W.fnOf "_law_pool" "_law_pool" (defArgs s_law_pool) (defBody s_law_pool) (defScope s_law_pool) .none kV3 dc3 pm3 an3 cd3 ct3), sl3⟩) (c3 : PySem.W.codeIn K cd3 "_law_pool" = true) (k3 : PySem.W.keepIn K (.ref f3) = true)
    (a4 : PySem.W.nsIn K mainGlobals "_law_draw" = some (some (.ref f4))) (l4 : K.lookup f4 = some ⟨oc4, od4, .func (PySem.W.fnOf "_law_draw" "_law_draw" (defArgs s_law_draw) (defBody s_law_draw) (defScope s_law_draw) .none kV4 dc4 pm4 an4 cd4 ct4), sl4⟩) (c4 : PySem.W.codeIn K cd4 "_law_draw" = true) (k4 : PySem.W.keepIn K (.ref f4) = true)
    (a5 : PySem.W.nsIn K mainGlobals "_law_is_word" = some (some (.ref f5))) (l5 : K.lookup f5 = some ⟨oc5, od5, .func (PySem.W.fnOf "_law_is_word" "_law_is_word" (defArgs s_law_is_word) (defBody s_law_is_word) (defScope s_law_is_word) .none kV5 dc5 pm5 an5 cd5 ct5), sl5⟩) (c5 : PySem.W.codeIn K cd5 "_law_is_word" = true) (k5 : PySem.W.keepIn K (.ref f5) = true)
    (a6 : PySem.W.nsIn K mainGlobals "_law_text" = some (some (.ref f6))) (l6 : K.lookup f6 = some ⟨oc6, od6, .func (PySem.W.fnOf "_law_text" "_law_text" (defArgs s_law_text) (defBody s_law_text) (defScope s_law_text) .none kV6 dc6 pm6 an6 cd6 ct6), sl6⟩) (c6 : PySem.W.codeIn K cd6 "_law_text" = true) (k6 : PySem.W.keepIn K (.ref f6) = true)
    (a7 : PySem.W.nsIn K mainGlobals "_law_thing" = some (some (.ref f7))) (l7 : K.lookup f7 = some ⟨oc7, od7, .func (PySem.W.fnOf "_law_thing" "_law_thing" (defArgs s_law_thing) (defBody s_law_thing) (defScope s_law_thing) .none kV7 dc7 pm7 an7 cd7 ct7), sl7⟩) (c7 : PySem.W.codeIn K cd7 "_law_thing" = true) (k7 : PySem.W.keepIn K (.ref f7) = true)
    (a8 : PySem.W.nsIn K mainGlobals "_law_whole" = some (some (.ref f8))) (l8 : K.lookup f8 = some ⟨oc8, od8, .func (PySem.W.fnOf "_law_whole" "_law_whole" (defArgs s_law_whole) (defBody s_law_whole) (defScope s_law_whole) .none kV8 dc8 pm8 an8 cd8 ct8), sl8⟩) (c8 : PySem.W.codeIn K cd8 "_law_whole" = true) (k8 : PySem.W.keepIn K (.ref f8) = true)
    (a9 : PySem.W.nsIn K mainGlobals "_law_is_mark" = some (some (.ref f9))) (l9 : K.lookup f9 = some ⟨oc9, od9, .func (PySem.W.fnOf "_law_is_mark" "_law_is_mark" (defArgs s_law_is_mark) (defBody s_law_is_mark) (defScope s_law_is_mark) .none kV9 dc9 pm9 an9 cd9 ct9), sl9⟩) (c9 : PySem.W.codeIn K cd9 "_law_is_mark" = true) (k9 : PySem.W.keepIn K (.ref f9) = true)
    (a10 : PySem.W.nsIn K mainGlobals "law" = some (some (.ref f10))) (l10 : K.lookup f10 = some ⟨oc10, od10, .func (PySem.W.fnOf "law" "law" (defArgs s_law) (defBody s_law) (defScope s_law) .none kV10 dc10 pm10 an10 cd10 ct10), sl10⟩) (c10 : PySem.W.codeIn K cd10 "law" = true) (k10 : PySem.W.keepIn K (.ref f10) = true)
    (q0 : PySem.W.nsIn K mainGlobals "LONGEST" = some (some (.int 8 t0)))
    (q1 : PySem.W.nsIn K mainGlobals "MOST_MARK" = some (some (.int 1000000000 t1)))
    (q2 : PySem.W.nsIn K mainGlobals "SIGNS" = some (some (.str ("abcdefghijklmnopqrstuvwxyz" : PySem.Str) t2)))
    (z0 : PySem.W.nsIn K mainGlobals "all" = some none)
    (z1 : PySem.W.nsIn K mainGlobals "bool" = some none)
    (z2 : PySem.W.nsIn K mainGlobals "int" = some none)
    (z3 : PySem.W.nsIn K mainGlobals "isinstance" = some none)
    (z4 : PySem.W.nsIn K mainGlobals "len" = some none)
    (z5 : PySem.W.nsIn K mainGlobals "list" = some none)
    (z6 : PySem.W.nsIn K mainGlobals "max" = some none)
    (z7 : PySem.W.nsIn K mainGlobals "min" = some none)
    (z8 : PySem.W.nsIn K mainGlobals "range" = some none)
    (z9 : PySem.W.nsIn K mainGlobals "repr" = some none)
    (z10 : PySem.W.nsIn K mainGlobals "str" = some none)
    (z11 : PySem.W.nsIn K mainGlobals "tuple" = some none) :
    ∃ fd : FuncData, (∀ (s : Shared) (v : Value), BindsTo s fd ⟨[v], []⟩ [("_law_script", v)]) ∧ ∀ base : Heap, K.In base → base.Ns mainGlobals mg → FnG P w K mg base 6 fa fd ["_law_script"] (spM K c 1 m_law) := by
  have e := hfa.symm.trans (PySem.W.mg_of X G a10)
  cases e
  have hf : ∀ x : Str, x ∈ freeN → mg x = none := List.forall_mem_cons.mpr ⟨PySem.W.mg_none_of X G z0, List.forall_mem_cons.mpr ⟨PySem.W.mg_none_of X G z1, List.forall_mem_cons.mpr ⟨PySem.W.mg_none_of X G z2, List.forall_mem_cons.mpr ⟨PySem.W.mg_none_of X G z3, List.forall_mem_cons.mpr ⟨PySem.W.mg_none_of X G z4, List.forall_mem_cons.mpr ⟨PySem.W.mg_none_of X G z5, List.forall_mem_cons.mpr ⟨PySem.W.mg_none_of X G z6, List.forall_mem_cons.mpr ⟨PySem.W.mg_none_of X G z7, List.forall_mem_cons.mpr ⟨PySem.W.mg_none_of X G z8, List.forall_mem_cons.mpr ⟨PySem.W.mg_none_of X G z9, List.forall_mem_cons.mpr ⟨PySem.W.mg_none_of X G z10, List.forall_mem_cons.mpr ⟨PySem.W.mg_none_of X G z11, List.forall_mem_nil _⟩⟩⟩⟩⟩⟩⟩⟩⟩⟩⟩⟩
  have B_is_whole := fun_mk (st := s_is_whole) l0 c0 k0
  have b_is_whole := B_is_whole.binds (ps := ["thing"]) fun _ _ _ _ _ _ us hl => match us, hl with | [_], _ => rfl
  have B_is_word := fun_mk (st := s_is_word) l1 c1 k1
  have b_is_word := B_is_word.binds (ps := ["thing"]) fun _ _ _ _ _ _ us hl => match us, hl with | [_], _ => rfl
  have B_is_mark := fun_mk (st := s_is_mark) l2 c2 k2
  have b_is_mark := B_is_mark.binds (ps := ["thing"]) fun _ _ _ _ _ _ us hl => match us, hl with | [_], _ => rfl
  have B_law_pool := fun_mk (st := s_law_pool) l3 c3 k3
  have b_law_pool := B_law_pool.binds (ps := ["_law_script", "_law_k"]) fun _ _ _ _ _ _ us hl => match us, hl with | [_, _], _ => rfl
  have B_law_draw := fun_mk (st := s_law_draw) l4 c4 k4
  have b_law_draw := B_law_draw.binds (ps := ["_law_pool_here", "_law_many"]) fun _ _ _ _ _ _ us hl => match us, hl with | [_, _], _ => rfl
  have B_law_is_word := fun_mk (st := s_law_is_word) l5 c5 k5
  have b_law_is_word := B_law_is_word.binds (ps := ["_law_thing_here"]) fun _ _ _ _ _ _ us hl => match us, hl with | [_], _ => rfl
  have B_law_text := fun_mk (st := s_law_text) l6 c6 k6
  have b_law_text := B_law_text.binds (ps := ["_law_pool_here"]) fun _ _ _ _ _ _ us hl => match us, hl with | [_], _ => rfl
  have B_law_thing := fun_mk (st := s_law_thing) l7 c7 k7
  have b_law_thing := B_law_thing.binds (ps := ["_law_pool_here", "_law_deep"]) fun _ _ _ _ _ _ us hl => match us, hl with | [_, _], _ => rfl
  have B_law_whole := fun_mk (st := s_law_whole) l8 c8 k8
  have b_law_whole := B_law_whole.binds (ps := ["_law_thing_here"]) fun _ _ _ _ _ _ us hl => match us, hl with | [_], _ => rfl
  have B_law_is_mark := fun_mk (st := s_law_is_mark) l9 c9 k9
  have b_law_is_mark := B_law_is_mark.binds (ps := ["_law_thing_here"]) fun _ _ _ _ _ _ us hl => match us, hl with | [_], _ => rfl
  have B_law := fun_mk (st := s_law) l10 c10 k10
  have g_LONGEST : GlobD K mg ("LONGEST" : PySem.Str) k_LONGEST := GlobD.int (PySem.W.mg_of X G q0)
  have g_MOST_MARK : GlobD K mg ("MOST_MARK" : PySem.Str) k_MOST_MARK := GlobD.int (PySem.W.mg_of X G q1)
  have g_SIGNS : GlobD K mg ("SIGNS" : PySem.Str) k_SIGNS := GlobD.str (PySem.W.mg_of X G q2)
  refine ⟨PySem.W.fnOf "law" "law" (defArgs s_law) (defBody s_law) (defScope s_law) .none kV10 dc10 pm10 an10 cd10 ct10, fun s v => .of_eq rfl, fun base _ _ => ?_⟩
  have F_is_whole : FnD P w K mg base c 1 "is_whole" ["thing"] (m_is_whole) := d_is_whole B_is_whole (PySem.W.mg_of X G a0) b_is_whole hf 
  have F_is_word : FnD P w K mg base c 1 "is_word" ["thing"] (m_is_word) := d_is_word B_is_word (PySem.W.mg_of X G a1) b_is_word hf g_LONGEST g_SIGNS
  have F_is_mark : FnD P w K mg base c 2 "is_mark" ["thing"] (m_is_mark) := d_is_mark B_is_mark (PySem.W.mg_of X G a2) b_is_mark hf g_MOST_MARK F_is_whole F_is_word
  have F_law_pool : FnD P w K mg base c 1 "_law_pool" ["_law_script", "_law_k"] (m_law_pool) := d_law_pool B_law_pool (PySem.W.mg_of X G a3) b_law_pool hf 
  have F_law_draw : FnD P w K mg base c 1 "_law_draw" ["_law_pool_here", "_law_many"] (m_law_draw) := d_law_draw B_law_draw (PySem.W.mg_of X G a4) b_law_draw hf 
  have F_law_is_word : FnD P w K mg base c 1 "_law_is_word" ["_law_thing_here"] (m_law_is_word) := d_law_is_word B_law_is_word (PySem.W.mg_of X G a5) b_law_is_word hf 
  have F_law_text : FnD P w K mg base c 2 "_law_text" ["_law_pool_here"] (m_law_text) := d_law_text B_law_text (PySem.W.mg_of X G a6) b_law_text hf F_law_draw
  have F_law_thing : FnD P w K mg base c 5 "_law_thing" ["_law_pool_here", "_law_deep"] (m_law_thing 2) := d_law_thing B_law_thing (PySem.W.mg_of X G a7) b_law_thing hf F_law_text F_law_draw 2
  have F_law_whole : FnD P w K mg base c 1 "_law_whole" ["_law_thing_here"] (m_law_whole) := d_law_whole B_law_whole (PySem.W.mg_of X G a8) b_law_whole hf 
  have F_law_is_mark : FnD P w K mg base c 2 "_law_is_mark" ["_law_thing_here"] (m_law_is_mark) := d_law_is_mark B_law_is_mark (PySem.W.mg_of X G a9) b_law_is_mark hf F_law_is_word F_law_whole
  exact d_law B_law hf F_law_pool F_law_thing F_law_is_word F_law_whole F_law_is_mark F_is_word F_is_whole F_is_mark
end K01
set_option Elab.async false
set_option linter.all false
set_option maxRecDepth 100000
set_option maxHeartbeats 4000000
namespace K01
open PySem L2 DL
theorem e_draw : m_law_draw = gDraw := rfl
theorem e_pool : m_law_pool = gPool := rfl
/-! ### the drawn texts -/
def sgM : Str := ⟨(List.replicate 2 ("abcdefghijklmnopqrstuvwxyz" : Str).cps).foldl (· ++ ·) #[]⟩
def sgL : Str := sgM ++ ("AZ0_ -.\n'" : Str)
def sgS : Str := cutS sgL none (some 26)
theorem sg_mul {s : Sto} : fMul (.str ("abcdefghijklmnopqrstuvwxyz" : Str)) (.int 2) s = some (.str sgM) := by
  unfold fMul
  simp only
  rw [if_pos (by decide +kernel)]
  rfl
theorem sg_add {s : Sto} : fAdd (.str sgM) (.str ("AZ0_ -.\n'" : Str)) s = some (.str sgL) := by
  unfold fAdd
  simp only
  rw [if_pos (by decide +kernel)]
  rfl
theorem sgL_len : sgL.length = 61 := by decide +kernel
theorem sgS_len : sgS.length = 26 := by decide +kernel
theorem sgL_low : ∀ c ∈ sgL.cps.toList, c < 128 := by decide +kernel
theorem sgS_low : ∀ c ∈ sgS.cps.toList, c < 128 := by decide +kernel
theorem sg_cut {s : Sto} : fCut (.str sgL) none (some 26) s = some (.str sgS) := by
  unfold fCut
  simp only
  rw [if_pos (by rw [sgL_len]; decide)]
  rfl
/-- a text of none to ten signs below 128 -/
def Tx (x : Str) : Prop := x.length ≤ 10 ∧ ∀ c ∈ x.cps.toList, c < 128
def sign (c : Nat) : Str := ⟨#[c]⟩
theorem signs_of : ∀ {acc : List D}, (∀ d ∈ acc, ∃ c, d = .str (sign c) ∧ c < 128) → ∃ cs : List Nat, strsOf acc = some (cs.map sign) ∧ cs.length = acc.length ∧ ∀ c ∈ cs, c < 128
  | [], _ => ⟨[], rfl, rfl, fun _ h => nomatch h⟩
  | d :: acc, h => by
    obtain ⟨c, rfl, hc⟩ := h d List.mem_cons_self
    obtain ⟨cs, h1, h2, h3⟩ := signs_of (acc := acc) fun d hd => h d (List.mem_cons_of_mem _ hd)
    refine ⟨c :: cs, ?_, by rw [List.length_cons, List.length_cons, h2], fun k hk => ?_⟩
    · show (strsOf acc).map _ = _
      rw [h1]; rfl
    · rcases List.mem_cons.mp hk with hk | hk
      · rw [hk]; exact hc
      · exact h3 k hk
theorem flat_signs : ∀ cs : List Nat, (cs.map fun c => (sign c).cps.toList).flatten = cs
  | [] => rfl
  | c :: cs => by
    rw [List.map_cons, List.flatten_cons, flat_signs cs]
    rfl
theorem join_ok {acc : List D} {s : Sto} (h : ∀ d ∈ acc, ∃ c, d = .str (sign c) ∧ c < 128) (hl : acc.length ≤ 10) : ∃ x, fJoin (.str ("" : Str)) (.lst acc) s = some (.str x) ∧ Tx x := by
  obtain ⟨cs, h1, h2, h3⟩ := signs_of h
  have hcs : (Str.join ("" : Str) (cs.map sign)).cps.toList = cs := by
    rw [join_nil, List.map_map]
    exact flat_signs cs
  refine ⟨Str.join ("" : Str) (cs.map sign), ?_, ?_, ?_⟩
  · unfold fJoin
    simp only [seqOf_lst, Option.bind_some, h1]
    have hz : ((cs.map sign).map (·.length)).sum + (cs.map sign).length * ("" : Str).length ≤ 16777216 := by
      have e1 : ("" : Str).length = 0 := rfl
      have e2 : ∀ l : List Nat, ((l.map sign).map (·.length)).sum = l.length := by
        intro l
        induction l with
        | nil => rfl
        | cons c l ih =>
          rw [List.map_cons, List.map_cons, List.sum_cons, ih, List.length_cons]
          show 1 + l.length = _
          omega
      rw [e1, e2, Nat.mul_zero, h2]
      omega
    rw [if_pos hz]
    exact congrArg (fun z => some (D.str z)) (TL.join_eq _ _)
  · have : (Str.join ("" : Str) (cs.map sign)).length = cs.length := by
      have := congrArg List.length hcs
      rw [Array.length_toList] at this
      exact this
    omega
  · rw [hcs]; exact h3
theorem text_ok {p : Nat} {s : Sto} (h : PoolAt s p) : Wr (m_law_text [.loc p] s) (fun d s' => ∃ x, d = .str x ∧ Tx x ∧ Lk p s s') NoE := by
  have rest : ∀ (X : Str) (s1 : Sto) (po : Po), (∀ d s', (∃ x, d = .str x ∧ Tx x ∧ Lk p s s') → po.rt d s') → (X.length = 61 ∨ X.length = 26) → (∀ c ∈ X.cps.toList, c < 128) → Lk p s s1 → Ws (mRet (mJoin (fun _ => ret (.str ("" : PySem.Str))) (mComp true [2] (.nm 2) (mRng1 (mCons (mCall 2 (gDraw) (mCons (getV 0) (mCons (fun _ => ret (.int 11)) mNil))) mNil)) (fun _ => ret true) (mBin fIx (getV 1) (mCall 2 (gDraw) (mCons (getV 0) (mCons (mCB fLen (mCons (getV 1) mNil)) mNil)))))) [some (.loc p), some (.str X), none] s1) po := by
    intro X s1 po hpo hX hlow hk
    simp only [ws_ret, w_Join, wr_ret, w_Comp, w_Rng1, w_Cons, w_Nil, w_Call, getV_zero, getV_cons, wr_ok, e_draw]
    refine ⟨rfl, rfl, ?_⟩
    refine (draw_ok hk.pool (by decide) (by decide)).then ?_
    rintro _ s2 ⟨r, rfl, r0, r1, hk2⟩
    have hk12 := hk.trans hk2
    refine ⟨r, rfl, ⟨by omega, by omega⟩, ?_⟩
    refine wr_compR (fun ds acc s' => acc.length + ds.length ≤ 10 ∧ (∀ d ∈ acc, ∃ c, d = .str (sign c) ∧ c < 128) ∧ Lk p s s') ?_ ?_ _ _ _ ⟨by simp; omega, fun _ z => (nomatch z), hk12⟩
    · rintro d ds acc s3 ⟨h1, h2, h3⟩
      rw [List.length_cons] at h1
      refine ⟨rfl, Nat.lt_of_lt_of_le (show acc.length < 11 by omega) (by decide), _, rfl, ?_⟩
      rw [wr_ret, if_pos rfl]
      show Wr (mBin fIx (getV 1) (mCall 2 gDraw (mCons (getV 0) (mCons (mCB fLen (mCons (getV 1) mNil)) mNil))) [some (.loc p), some (.str X), some d] s3) _ _
      simp only [w_bin, w_Call, w_Cons, w_Nil, w_CB, getV_zero, getV_cons, wr_ok, e_draw]
      have hX2 : X.length ≤ sizeLine := Nat.le_trans (show X.length ≤ 61 by omega) (by decide)
      refine ⟨_, fLen_str hX2, rfl, ?_⟩
      refine (draw_ok h3.pool (by omega) (by omega)).then ?_
      rintro _ s4 ⟨r, rfl, r0, r1, h4⟩
      have hlen : X.cps.toList.length = X.length := by simp [Str.length]
      obtain ⟨c, hc, hm⟩ := atI_in (l := X.cps.toList) r0 (by rw [hlen]; exact r1)
      refine ⟨.str (sign c), ?_, by rw [List.length_append, List.length_singleton]; omega, fun d hd => ?_, h3.trans h4⟩
      · unfold fIx
        simp only
        rw [if_pos hX2, hc]
        rfl
      · rcases List.mem_append.mp hd with hd | hd
        · exact h2 d hd
        · rw [List.mem_singleton.mp hd]
          exact ⟨c, rfl, hlow c hm⟩
    · rintro acc s3 ⟨h1, h2, h3⟩
      refine ⟨rfl, ?_⟩
      rw [w_fin]
      obtain ⟨x, hx, tx⟩ := join_ok (s := s3) h2 (by simpa using h1)
      exact ⟨_, hx, hpo _ _ ⟨x, rfl, tx, h3⟩⟩
  unfold m_law_text b_law_text
  rw [w_callF]
  simp only [List.map_cons, List.map_nil, List.cons_append, List.nil_append, List.replicate, Nat.reduceSub]
  rw [ws_seq, ws_set]
  simp only [w_bin, wr_ret, sg_mul, Option.some.injEq, exists_eq_left', sg_add, setT, List.set_cons_succ, List.set_cons_zero]
  rw [ws_seq, ws_if]
  simp only [w_B, w_bin, w_Call, w_Cons, w_Nil, getV_zero, wr_ok, wr_ret, e_draw]
  refine ⟨rfl, ?_⟩
  refine (draw_ok h (by decide) (by decide)).then ?_
  rintro _ s1 ⟨r, rfl, _, _, hk⟩
  refine ⟨_, fEq_int, _, rfl, ?_⟩
  split
  · rw [ws_set]
    simp only [w_Cut, getV_cons, getV_zero, wr_ok, wr_ret, w_Part, D.int.injEq, exists_eq_left', sg_cut, Option.some.injEq, setT, List.set_cons_succ, List.set_cons_zero]
    exact rest sgS s1 _ (fun _ _ h => h) (.inr sgS_len) sgS_low hk
  · rw [ws_nx]
    exact rest sgL s1 _ (fun _ _ h => h) (.inl sgL_len) sgL_low hk
end K01
set_option Elab.async false
set_option linter.all false
set_option maxRecDepth 100000
set_option maxHeartbeats 4000000
namespace K01
open PySem L2 DL
/-- what is drawn -/
inductive Th : D → Prop
  | non : Th .non
  | bl (b : Bool) : Th (.bl b)
  | int (i : Int) : Th (.int i)
  | str {x : Str} : Tx x → Th (.str x)
  | lst {x : Str} : Th (.lst [.str x])
  | dct : Th (.dct [] [])
  | t0 : Th (.tup [])
  | t1 {a : D} : Th (.tup [a])
  | t2 {a b : D} : Th a → Th b → Th (.tup [a, b])
  | t3 {a b c : D} : Th (.tup [a, b, c])
theorem six_in {a1 a2 a3 a4 a5 a6 : Int} {r : Int} (r0 : 0 ≤ r) (r1 : r < 6) : ∃ i : Int, atI [D.int a1, .int a2, .int a3, .int a4, .int a5, .int a6] r = some (.int i) := by
  obtain ⟨d, hd, hm⟩ := atI_in (l := [D.int a1, .int a2, .int a3, .int a4, .int a5, .int a6]) r0 r1
  simp only [List.mem_cons, List.not_mem_nil, or_false] at hm
  rcases hm with rfl | rfl | rfl | rfl | rfl | rfl <;> exact ⟨_, hd⟩
theorem few_size {α : Type} {l : List α} (h : l.length ≤ 100) : l.length ≤ sizeLine := Nat.le_trans h (by decide)
theorem thing_gen {p k : Nat} {n : Int} (hr : 0 < n → ∀ s, PoolAt s p → Wr (m_law_thing k [.loc p, .int 0] s) (fun d s' => Th d ∧ Lk p s s') NoE) {s : Sto} (h : PoolAt s p) : Wr (m_law_thing (k + 1) [.loc p, .int n] s) (fun d s' => Th d ∧ Lk p s s') NoE := by
  show Wr (callF 5 2 (b_law_thing (m_law_thing k)) [.loc p, .int n] s) _ _
  rw [w_callF]
  unfold b_law_thing
  simp only [List.map_cons, List.map_nil, List.cons_append, List.nil_append, List.replicate, Nat.reduceSub]
  rw [ws_seq, ws_set]
  simp only [w_Call, w_Cons, w_Nil, getV_zero, wr_ok]
  refine ⟨rfl, (text_ok h).then ?_⟩
  rintro _ s1 ⟨x, rfl, tx, h1⟩
  refine ⟨_, rfl, ?_⟩
  simp only [List.set_cons_succ, List.set_cons_zero]
  rw [ws_seq, ws_set]
  simp only [w_bin, w_Lst, w_Call, w_Cons, w_Nil, w_Neg, getV_zero, getV_cons, wr_ok, wr_ret, fPow_int (show (0 : Int) ≤ 9 by decide) (by decide) (show (10 : Int).natAbs < 2 ^ 64 by decide), Option.some.injEq, exists_eq_left', fAdd_int, D.int.injEq, e_draw]
  refine ⟨rfl, (draw_ok h1.pool (by decide) (by decide)).then ?_⟩
  rintro _ s2 ⟨r2, rfl, _, _, h2⟩
  refine ⟨few_size (by simp), rfl, (draw_ok h2.pool (by decide) (by decide)).then ?_⟩
  rintro _ s3 ⟨r3, rfl, r0, r1, h3⟩
  obtain ⟨i, hi⟩ := six_in (a1 := 0) (a2 := 1) (a3 := -1) (a4 := 10 ^ (9 : Int).toNat) (a5 := 10 ^ (9 : Int).toNat + 1) (a6 := r2) r0 r1
  refine ⟨.int i, by rw [fIx_lst]; exact hi, ?_⟩
  refine ⟨_, rfl, ?_⟩
  simp only [List.set_cons_succ, List.set_cons_zero]
  rw [ws_seq, ws_set]
  simp only [w_Lst, w_Tup, w_Cons, w_Nil, getV_zero, getV_cons, wr_ok, wr_ret]
  refine ⟨few_size (by simp), few_size (by simp), few_size (by simp only [List.length_cons, List.length_nil]; decide), few_size (by simp only [List.length_cons, List.length_nil]; decide), few_size (by simp only [List.length_cons, List.length_nil]; decide), _, rfl, ?_⟩
  simp only [List.set_cons_succ, List.set_cons_zero]
  have h13 := (h1.trans h2).trans h3
  have last : ∀ (s4 : Sto), Lk p s s4 → Ws (mRet (mBin fIx (getV 4) (mCall 2 (m_law_draw) (mCons (getV 0) (mCons (fun _ => ret (.int 13)) mNil)))) [some (.loc p), some (.int n), some (.str x), some (.int i), some (.lst [.str x, .str x, .int i, .int i, .str ("" : Str), .non, .bl true, .bl false, .lst [.str x], .dct [] [], .tup [], .tup [.str x], .tup [.str x, .int i, .int 0]])] s4) { nx := fun _ s' => Th .non ∧ Lk p s s', rt := fun d s' => Th d ∧ Lk p s s', ex := fun _ _ _ => False } := by
    intro s4 h4
    simp only [ws_ret, w_bin, w_Call, w_Cons, w_Nil, getV_zero, getV_cons, wr_ok, wr_ret, e_draw]
    refine ⟨rfl, (draw_ok h4.pool (by decide) (by decide)).then ?_⟩
    rintro _ s5 ⟨r5, rfl, r0, r1, h5⟩
    obtain ⟨d, hd, hm⟩ := atI_in (l := [D.str x, .str x, .int i, .int i, .str ("" : Str), .non, .bl true, .bl false, .lst [.str x], .dct [] [], .tup [], .tup [.str x], .tup [.str x, .int i, .int 0]]) r0 r1
    refine ⟨d, by rw [fIx_lst]; exact hd, ?_, h4.trans h5⟩
    have te : Tx ("" : Str) := ⟨by decide, by decide⟩
    simp only [List.mem_cons, List.not_mem_nil, or_false] at hm
    rcases hm with rfl | rfl | rfl | rfl | rfl | rfl | rfl | rfl | rfl | rfl | rfl | rfl | rfl
    all_goals first
      | exact .str tx
      | exact .str te
      | constructor
  rw [ws_seq, ws_if]
  simp only [w_AndB, w_B, w_bin, w_Call, w_Cons, w_Nil, getV_zero, getV_cons, wr_ok, wr_ret, fGt_int, fEq_int, Option.some.injEq, exists_eq_left', D.bl.injEq, e_draw]
  by_cases hn : 0 < n
  · rw [if_pos (by simpa using hn)]
    refine ⟨rfl, (draw_ok h13.pool (by decide) (by decide)).then ?_⟩
    rintro _ s4 ⟨r4, rfl, _, _, h4⟩
    have h14 := h13.trans h4
    simp only [fEq_int, Option.some.injEq, exists_eq_left', D.bl.injEq]
    split
    · simp only [ws_ret, w_Tup, w_Cons, w_Nil, w_Call, getV_zero, getV_cons, wr_ok, wr_ret]
      refine ⟨rfl, (hr hn s4 h14.pool).then ?_⟩
      rintro a s5 ⟨ta, h5⟩
      refine ⟨rfl, (hr hn s5 h5.pool).then ?_⟩
      rintro b s6 ⟨tb, h6⟩
      exact ⟨few_size (by simp), .t2 ta tb, (h14.trans h5).trans h6⟩
    · rw [ws_nx]
      exact last s4 h14
  · rw [if_neg (by simpa using hn), if_neg Bool.false_ne_true, ws_nx]
    exact last s3 h13
theorem thing_ok {p : Nat} {s : Sto} (h : PoolAt s p) : Wr (m_law_thing 2 [.loc p, .int 1] s) (fun d s' => Th d ∧ Lk p s s') NoE :=
  thing_gen (fun _ s h => thing_gen (fun z => absurd z (by decide)) h) h
end K01
set_option Elab.async false
set_option linter.all false
set_option maxRecDepth 100000
set_option maxHeartbeats 4000000
namespace K01
open PySem L2 DL
def abc : List Nat := ("abcdefghijklmnopqrstuvwxyz" : Str).cps.toList
def wordX (x : Str) : Bool := (decide (1 ≤ x.length) && decide (x.length ≤ 8)) && x.cps.toList.all fun c => decide (c ∈ abc)
def wordD : D → Bool
  | .str x => wordX x
  | _ => false
def wholeD : D → Bool
  | .int _ => true
  | _ => false
theorem Wr.okEq {α : Type} {r : R α} {x : α} {s : Sto} (h : Wr r (fun a s' => a = x ∧ s' = s) NoE) : r = .ok x s := by
  cases r with
  | ok a t => obtain ⟨rfl, rfl⟩ := h; rfl
  | exc x t => exact h.elim
  | bad => exact h.elim
theorem okWr {α : Type} {r : R α} {x : α} {s : Sto} {Q : α → Sto → Prop} {E : Xn → Sto → Prop} (h : r = .ok x s) (q : Q x s) : Wr r Q E := by rw [h]; exact q
variable {s : Sto} {d : D} {x : Str}
theorem bls_map (f : Nat → Bool) : ∀ l : List Nat, blsOf (l.map fun c => D.bl (f c)) = some (l.map f)
  | [] => rfl
  | c :: l => by
    show (blsOf (l.map fun c => D.bl (f c))).map _ = _
    rw [bls_map f l]; rfl
theorem word_no {t : Ty} (ht : tyD d s = some t) (hn : isTy t .str = false) : m_is_word [d] s = .ok (.bl false) s := by
  refine Wr.okEq ?_
  unfold m_is_word b_is_word
  rw [w_callF]
  simp only [List.map_cons, List.map_nil, List.cons_append, List.nil_append, List.replicate, Nat.reduceSub]
  rw [ws_seq, ws_if]
  simp only [w_OrB, w_NotB, w_Tru, w_Isi, getV_zero, wr_ok, ht, Option.some.injEq, exists_eq_left', hn, truD_bl, Bool.not_false, if_true, ws_ret, wr_ret]
  exact ⟨trivial, trivial⟩
theorem word_str (tx : Tx x) : m_is_word [.str x] s = .ok (.bl (wordX x)) s := by
  refine Wr.okEq ?_
  unfold m_is_word b_is_word
  rw [w_callF]
  simp only [List.map_cons, List.map_nil, List.cons_append, List.nil_append, List.replicate, Nat.reduceSub]
  have hx : x.length ≤ sizeLine := few_size (Nat.le_trans tx.1 (by decide))
  rw [ws_seq, ws_if]
  simp only [w_OrB, w_NotB, w_Tru, w_Isi, getV_zero, wr_ok, wr_ret, tyD, Option.some.injEq, exists_eq_left', show isTy .str .str = true from rfl, truD_bl, Bool.not_true, Bool.false_eq_true, if_false, w_B, w_Chain, w_CB, w_Cons, w_Nil, fLen_str hx, fLe_int, D.bl.injEq, k_LONGEST]
  have rest : wordX x = (x.cps.toList.all fun c => decide (c ∈ abc)) → Ws (mRet (mCB fAll (mCons (mComp true [1] (.nm 1) (mIter (getV 0)) (fun _ => ret true) (mBin fIn (getV 1) (fun _ => ret k_SIGNS))) mNil)) [some (.str x), none] s) { nx := fun _ s' => D.non = .bl (wordX x) ∧ s' = s, rt := fun r s' => r = .bl (wordX x) ∧ s' = s, ex := fun _ _ _ => False } := by
    intro hw
    simp only [ws_ret, w_CB, w_Cons, w_Nil, w_Comp, w_Iter, getV_zero, wr_ok]
    refine ⟨_, rfl, ?_⟩
    rw [compR_pure (fun d => match d with | .str y => some (.bl (match y.cps.toList with | [k] => decide (k ∈ abc) | _ => false)) | _ => none) s rfl]
    · simp only [wr_ok, w_fin, List.nil_append, List.filterMap_map]
      rw [show (fun (d : D) => match d with | .str y => some (D.bl (match y.cps.toList with | [k] => decide (k ∈ abc) | _ => false)) | _ => none) ∘ (fun c => D.str ⟨#[c]⟩) = some ∘ (fun c => D.bl (decide (c ∈ abc))) from rfl]
      rw [← List.filterMap_map, List.filterMap_some]
      refine ⟨.bl ((x.cps.toList.map fun c => decide (c ∈ abc)).all id), by unfold fAll; simp only [DL.listOf, Option.bind_some, bls_map]; rfl, ?_, ?_⟩
      · rw [hw, List.all_map]
        rfl
      · first | exact trivial | rfl
    · simp only [List.length_nil, List.length_map, Array.length_toList, Nat.zero_add]
      exact hx
    · intro d hd
      obtain ⟨c, _, rfl⟩ := List.mem_map.mp hd
      exact ⟨_, rfl, .inl ⟨rfl, _, rfl, rfl⟩⟩
  by_cases h1 : 1 ≤ x.length
  · by_cases h8 : x.length ≤ 8
    · simp only [show (1 : Int) ≤ (x.length : Int) from by omega, show (x.length : Int) ≤ 8 from by omega, decide_true, if_true, Option.some.injEq, exists_eq_left', D.bl.injEq, Bool.not_true, Bool.false_eq_true, if_false, ws_nx]
      exact rest (by unfold wordX; simp [h1, h8])
    · simp only [show (1 : Int) ≤ (x.length : Int) from by omega, show ¬ (x.length : Int) ≤ 8 from by omega, decide_true, decide_false, if_true, Option.some.injEq, exists_eq_left', D.bl.injEq, Bool.not_false, Bool.false_eq_true, if_false, ws_ret, wr_ret]
      exact ⟨by unfold wordX; simp [h8], trivial⟩
  · simp only [show ¬ (1 : Int) ≤ (x.length : Int) from by omega, decide_true, decide_false, if_true, Option.some.injEq, exists_eq_left', D.bl.injEq, Bool.not_false, Bool.false_eq_true, if_false, ws_ret, wr_ret]
    exact ⟨by unfold wordX; simp [h1], trivial⟩
theorem whole_ok (h : Th d) : m_is_whole [d] s = .ok (.bl (wholeD d)) s := by
  cases h <;> rfl
theorem lwhole_ok (h : Th d) : m_law_whole [d] s = .ok (.bl (wholeD d)) s := by
  cases h <;> rfl
theorem word_ok (h : Th d) : m_is_word [d] s = .ok (.bl (wordD d)) s := by
  cases h
  case str tx => exact word_str tx
  all_goals exact word_no rfl rfl
end K01
set_option Elab.async false
set_option linter.all false
set_option maxRecDepth 100000
set_option maxHeartbeats 4000000
namespace K01
open PySem L2 DL
variable {s : Sto} {d : D} {x : Str}
theorem notIn8 {n : Int} : fNotIn (.int n) (.lst [.int 1, .int 2, .int 3, .int 4, .int 5, .int 6, .int 7, .int 8]) s = some (.bl (!(decide (1 ≤ n) && decide (n ≤ 8)))) := by
  show some (D.bl (!inV (V.int n) [.int 1, .int 2, .int 3, .int 4, .int 5, .int 6, .int 7, .int 8])) = _
  congr 3
  show (((1 : Int) == n) || ((2 : Int) == n || ((3 : Int) == n || ((4 : Int) == n || ((5 : Int) == n || ((6 : Int) == n || ((7 : Int) == n || ((8 : Int) == n || false)))))))) = _
  rw [Bool.eq_iff_iff]
  simp only [Bool.or_eq_true, beq_iff_eq, Bool.and_eq_true, decide_eq_true_eq, Bool.false_eq_true, or_false]
  omega
theorem flat_sg (l : List Nat) : ((l.map fun k => D.str ⟨#[k]⟩).map D.toV).all flatV = true := by
  rw [List.map_map, List.all_map, List.all_eq_true]
  intro c _
  rfl
theorem inV_sg (k : Nat) : ∀ l : List Nat, inV (V.str ⟨#[k]⟩) ((l.map fun k => D.str ⟨#[k]⟩).map D.toV) = decide (k ∈ l)
  | [] => rfl
  | c :: l => by
    have ih := inV_sg k l
    unfold inV at ih ⊢
    rw [List.map_cons, List.map_cons, List.any_cons, ih]
    show ((⟨#[c]⟩ : Str) == ⟨#[k]⟩ || decide (k ∈ l)) = _
    rw [Bool.eq_iff_iff]
    simp only [Bool.or_eq_true, beq_iff_eq, decide_eq_true_eq, List.mem_cons, Str.mk.injEq, Array.mk.injEq, List.cons.injEq, and_true]
    constructor
    · rintro (h | h)
      · exact .inl h.symm
      · exact .inr h
    · rintro (h | h)
      · exact .inl h.symm
      · exact .inr h
theorem notIn_sg {k : Nat} {l : List Nat} : fNotIn (.str ⟨#[k]⟩) (.lst (l.map fun k => D.str ⟨#[k]⟩)) s = some (.bl (!decide (k ∈ l))) := by
  unfold fNotIn inP
  simp only [seqOf_lst]
  rw [if_pos (by rw [flat_sg]; rfl)]
  rw [← inV_sg]
  rfl
theorem pys_sg {n : Nat} : ∀ l : List Nat, toPys s n (l.map fun k => D.str ⟨#[k]⟩) = some (l.map fun k => PyData.str ⟨#[k]⟩)
  | [] => by rw [List.map_nil, List.map_nil, toPys]
  | c :: l => by
    rw [List.map_cons, List.map_cons, toPys, pys_sg l]
    simp only [toPy]
theorem lay_sg : ∀ {l : List Nat}, (∀ c ∈ l, c < 128) → PyData.canLayAll0 (l.map fun k => PyData.str ⟨#[k]⟩) = true ∧ PyData.depthAll (l.map fun k => PyData.str ⟨#[k]⟩) = 0
  | [], _ => ⟨rfl, rfl⟩
  | c :: l, h => by
    obtain ⟨h1, h2⟩ := lay_sg (l := l) fun k hk => h k (List.mem_cons_of_mem _ hk)
    have hc := h c List.mem_cons_self
    rw [List.map_cons, PyData.canLayAll0, PyData.depthAll, h1, h2]
    refine ⟨?_, by rfl⟩
    have : PyData.strOk ⟨#[c]⟩ = true := by
      unfold PyData.strOk
      simp
      omega
    rw [PyData.canLay0, this]; rfl
theorem eq_nil {l : List Nat} (h : ∀ c ∈ l, c < 128) : fEq (.lst (l.map fun k => D.str ⟨#[k]⟩)) (.lst []) s = some (.bl l.isEmpty) := by
  obtain ⟨h1, h2⟩ := lay_sg h
  have e1 : toPy s 64 (.lst (l.map fun k => D.str ⟨#[k]⟩)) = some (.list (l.map fun k => PyData.str ⟨#[k]⟩)) := by
    rw [toPy, pys_sg]; rfl
  have e2 : toPy s 64 (.lst []) = some (.list []) := by rw [toPy, toPys]; rfl
  unfold fEq eqP
  rw [if_neg (show ¬ (scal (D.lst (l.map fun k => D.str ⟨#[k]⟩)).toV (D.lst []).toV = true) from Bool.false_ne_true), e1, e2]
  simp only
  have e3 : SeqAt.shaped (.list (l.map fun k => PyData.str ⟨#[k]⟩)) = true := by
    unfold SeqAt.shaped
    rw [PyData.canLay0, h1, PyData.depth, h2]; rfl
  rw [e3, if_pos (by decide +kernel)]
  cases l <;> rfl
theorem lword_no {t : Ty} (ht : tyD d s = some t) (hn : isTy t .str = false) : m_law_is_word [d] s = .ok (.bl false) s := by
  refine Wr.okEq ?_
  unfold m_law_is_word b_law_is_word
  rw [w_callF]
  simp only [List.map_cons, List.map_nil, List.cons_append, List.nil_append, List.replicate, Nat.reduceSub]
  rw [ws_seq, ws_if]
  simp only [w_OrB, w_NotB, w_Tru, w_Isi, getV_zero, wr_ok, ht, Option.some.injEq, exists_eq_left', hn, truD_bl, Bool.not_false, if_true, ws_ret, wr_ret]
  exact ⟨trivial, trivial⟩
theorem lword_str (tx : Tx x) : m_law_is_word [.str x] s = .ok (.bl (wordX x)) s := by
  refine Wr.okEq ?_
  unfold m_law_is_word b_law_is_word
  rw [w_callF]
  simp only [List.map_cons, List.map_nil, List.cons_append, List.nil_append, List.replicate, Nat.reduceSub]
  have hx : x.length ≤ sizeLine := few_size (Nat.le_trans tx.1 (by decide))
  rw [ws_seq, ws_if]
  simp only [w_OrB, w_NotB, w_Tru, w_Isi, getV_zero, wr_ok, wr_ret, tyD, Option.some.injEq, exists_eq_left', show isTy .str .str = true from rfl, truD_bl, Bool.not_true, Bool.false_eq_true, if_false, w_B, w_bin, w_CB, w_Cons, w_Nil, fLen_str hx, w_Lst, notIn8, D.bl.injEq]
  refine ⟨few_size (by simp), ?_⟩
  have hi : (decide ((1 : Int) ≤ (x.length : Int)) && decide ((x.length : Int) ≤ 8)) = (decide (1 ≤ x.length) && decide (x.length ≤ 8)) := by
    congr 1 <;> (apply decide_eq_decide.mpr; omega)
  rw [hi]
  cases hb : (decide (1 ≤ x.length) && decide (x.length ≤ 8)) with
  | false =>
    simp only [Bool.not_false, if_true, ws_ret, wr_ret]
    exact ⟨by unfold wordX; rw [hb]; rfl, by first | exact trivial | rfl⟩
  | true =>
    simp only [Bool.not_true, Bool.false_eq_true, if_false, ws_nx, ws_ret, w_bin, w_Comp, w_Iter, getV_zero, wr_ok]
    refine ⟨_, rfl, ?_⟩
    rw [compR_pure (fun d => match d with | .str y => (match y.cps.toList with | [k] => (if k ∈ abc then none else some d) | _ => none) | _ => none) s rfl]
    · simp only [wr_ok, w_fin, List.nil_append, List.filterMap_map, w_Lst, w_Nil]
      have fg : ∀ l : List Nat, l.filterMap (Option.guard fun c => !decide (c ∈ abc)) = l.filter fun c => !decide (c ∈ abc) := fun l => by
        induction l with
        | nil => rfl
        | cons c l ih =>
          by_cases h : c ∈ abc <;> simp [Option.guard, h, ih]
      have ef : ((fun (d : D) => match d with | .str y => (match y.cps.toList with | [k] => (if k ∈ abc then none else some d) | _ => none) | _ => none) ∘ (fun c => D.str ⟨#[c]⟩)) = fun c => Option.map (fun k => D.str ⟨#[k]⟩) (Option.guard (fun c => !decide (c ∈ abc)) c) := by
        funext c
        show (if c ∈ abc then none else some (D.str ⟨#[c]⟩)) = _
        by_cases h : c ∈ abc
        · rw [if_pos h]; simp [Option.guard, h]
        · rw [if_neg h]; simp [Option.guard, h]
      rw [ef, ← List.map_filterMap, fg]
      refine ⟨few_size (by simp), _, eq_nil (fun c hc => tx.2 c ((List.mem_filter.mp hc).1)), ?_, ?_⟩
      · congr 1
        unfold wordX
        rw [hb, Bool.true_and, Bool.eq_iff_iff, List.isEmpty_iff, List.filter_eq_nil_iff, List.all_eq_true]
        simp
      · first | exact trivial | rfl
    · simp only [List.length_nil, List.length_map, Array.length_toList, Nat.zero_add]
      exact hx
    · intro d hd
      obtain ⟨c, _, rfl⟩ := List.mem_map.mp hd
      refine ⟨_, rfl, ?_⟩
      have hm : mB (mBin fNotIn (getV 1) (mCM (gList true) (mCons (fun _ => ret (.str ("abcdefghijklmnopqrstuvwxyz" : PySem.Str))) mNil))) [some (.str x), some (D.str ⟨#[c]⟩)] s = .ok (!decide (c ∈ abc)) s := by
        refine Wr.okEq ?_
        simp only [w_B, w_bin, w_CM, w_Cons, w_Nil, getV_zero, getV_cons, wr_ok, wr_ret]
        unfold gList
        simp only
        rw [if_pos (show (Str.ofString "abcdefghijklmnopqrstuvwxyz").length ≤ sizeLine from few_size (l := abc) (by decide)), w_fin]
        exact ⟨_, notIn_sg, _, rfl, rfl, rfl⟩
      by_cases h : c ∈ abc
      · exact .inr ⟨hm.trans (by rw [decide_eq_true h]; rfl), if_pos h⟩
      · exact .inl ⟨hm.trans (by rw [decide_eq_false h]; rfl), _, rfl, if_neg h⟩
theorem lword_ok (h : Th d) : m_law_is_word [d] s = .ok (.bl (wordD d)) s := by
  cases h
  case str tx => exact lword_str tx
  all_goals exact lword_no rfl rfl
end K01
set_option Elab.async false
set_option linter.all false
set_option maxRecDepth 100000
set_option maxHeartbeats 4000000
namespace K01
open PySem L2 DL
variable {s : Sto} {d : D} {x : Str}
def emptyD : D → Bool
  | .str x => decide (x = ("" : Str))
  | _ => false
def markD : D → Bool
  | .tup [a, .int i] => (wordD a || emptyD a) && (decide (0 ≤ i) && decide (i ≤ 1000000000))
  | _ => false
def rangeD : D → Bool
  | .int i => decide (0 ≤ i) && decide (i ≤ 1000000000)
  | _ => false
theorem mark_no {t : Ty} (ht : tyD d s = some t) (hn : isTy t .tup = false) : m_is_mark [d] s = .ok (.bl false) s := by
  refine Wr.okEq ?_
  unfold m_is_mark b_is_mark
  rw [w_callF]
  simp only [List.map_cons, List.map_nil, List.cons_append, List.nil_append, List.replicate, Nat.reduceSub]
  rw [ws_seq, ws_if]
  simp only [w_OrB, w_NotB, w_Tru, w_Isi, getV_zero, wr_ok, ht, Option.some.injEq, exists_eq_left', hn, truD_bl, Bool.not_false, if_true, ws_ret, wr_ret]
  exact ⟨trivial, trivial⟩
theorem lmark_no {t : Ty} (ht : tyD d s = some t) (hn : isTy t .tup = false) : m_law_is_mark [d] s = .ok (.bl false) s := by
  refine Wr.okEq ?_
  unfold m_law_is_mark b_law_is_mark
  rw [w_callF]
  simp only [List.map_cons, List.map_nil, List.cons_append, List.nil_append, List.replicate, Nat.reduceSub]
  rw [ws_seq, ws_if]
  simp only [w_OrB, w_NotB, w_Tru, w_Isi, getV_zero, wr_ok, ht, Option.some.injEq, exists_eq_left', hn, truD_bl, Bool.not_false, if_true, ws_ret, wr_ret]
  exact ⟨trivial, trivial⟩
theorem mark_len {ds : List D} (hn : ds.length ≠ 2) : m_is_mark [.tup ds] s = .ok (.bl false) s := by
  refine Wr.okEq ?_
  unfold m_is_mark b_is_mark
  rw [w_callF]
  simp only [List.map_cons, List.map_nil, List.cons_append, List.nil_append, List.replicate, Nat.reduceSub]
  rw [ws_seq, ws_if]
  simp only [w_OrB, w_NotB, w_Tru, w_Isi, getV_zero, wr_ok, wr_ret, tyD, Option.some.injEq, exists_eq_left', show isTy .tup .tup = true from rfl, truD_bl, Bool.not_true, Bool.false_eq_true, if_false, w_B, w_bin, w_CB, w_Cons, w_Nil, fLen_seq seqOf_tup, fNe_int, D.bl.injEq, show decide ((ds.length : Int) = 2) = false from decide_eq_false (by omega), Bool.not_false, if_true, ws_ret]
  exact ⟨trivial, trivial⟩
theorem lmark_len {ds : List D} (hn : ds.length ≠ 2) : m_law_is_mark [.tup ds] s = .ok (.bl false) s := by
  refine Wr.okEq ?_
  unfold m_law_is_mark b_law_is_mark
  rw [w_callF]
  simp only [List.map_cons, List.map_nil, List.cons_append, List.nil_append, List.replicate, Nat.reduceSub]
  rw [ws_seq, ws_if]
  simp only [w_OrB, w_NotB, w_Tru, w_Isi, getV_zero, wr_ok, wr_ret, tyD, Option.some.injEq, exists_eq_left', show isTy .tup .tup = true from rfl, truD_bl, Bool.not_true, Bool.false_eq_true, if_false, w_B, w_bin, w_CB, w_Cons, w_Nil, fLen_seq seqOf_tup, fNe_int, D.bl.injEq, show decide ((ds.length : Int) = 2) = false from decide_eq_false (by omega), Bool.not_false, if_true, ws_ret]
  exact ⟨trivial, trivial⟩
theorem mark_pair {a b : D} (ha : Th a) (hb : Th b) : m_is_mark [.tup [a, b]] s = .ok (.bl (markD (.tup [a, b]))) s := by
  refine Wr.okEq ?_
  unfold m_is_mark b_is_mark
  rw [w_callF]
  simp only [List.map_cons, List.map_nil, List.cons_append, List.nil_append, List.replicate, Nat.reduceSub]
  rw [ws_seq, ws_if]
  simp only [w_OrB, w_NotB, w_Tru, w_Isi, getV_zero, wr_ok, wr_ret, tyD, Option.some.injEq, exists_eq_left', show isTy .tup .tup = true from rfl, truD_bl, Bool.not_true, Bool.false_eq_true, if_false, w_B, w_bin, w_CB, w_Cons, w_Nil, fLen_seq seqOf_tup, fNe_int, D.bl.injEq, show decide ((([a, b] : List D).length : Int) = 2) = true from rfl, w_Call, fIx_tup, atI_1, atI_0, whole_ok hb]
  refine ⟨rfl, ?_⟩
  have last : ∀ i : Int, b = .int i → Ws (mRet (mAnd (mOr (mCall 1 (m_is_word) (mCons (mBin fIx (getV 0) (fun _ => ret (.int 0))) mNil)) (mAnd (mIsi .str (mBin fIx (getV 0) (fun _ => ret (.int 0)))) (mBin fEq (mBin fIx (getV 0) (fun _ => ret (.int 0))) (fun _ => ret (.str ("" : PySem.Str)))))) (mChain fLe fLe (fun _ => ret (.int 0)) (mBin fIx (getV 0) (fun _ => ret (.int 1))) (fun _ => ret k_MOST_MARK))) [some (.tup [a, b])] s) { nx := fun _ s' => D.non = .bl (markD (.tup [a, b])) ∧ s' = s, rt := fun r s' => r = .bl (markD (.tup [a, b])) ∧ s' = s, ex := fun _ _ _ => False } := by
    rintro i rfl
    have hch : Wr (mChain fLe fLe (fun _ => ret (.int 0)) (mBin fIx (getV 0) (fun _ => ret (.int 1))) (fun _ => ret k_MOST_MARK) [some (.tup [a, .int i])] s) (fun r s' => r = .bl (decide (0 ≤ i) && decide (i ≤ 1000000000)) ∧ s' = s) NoE := by
      simp only [w_Chain, w_bin, getV_zero, wr_ok, wr_ret, fIx_tup, atI_1, Option.some.injEq, exists_eq_left', fLe_int, D.bl.injEq, k_MOST_MARK]
      by_cases h0 : 0 ≤ i <;> simp [h0]
    have hch := Wr.okEq hch
    simp only [ws_ret, w_And, w_Or, w_Call, w_Cons, w_Nil, w_bin, w_Isi, getV_zero, wr_ok, wr_ret, fIx_tup, atI_0, Option.some.injEq, exists_eq_left', word_ok ha, truD_bl, hch]
    refine ⟨rfl, ?_⟩
    cases hw : wordD a with
    | true =>
      simp only [if_true, exists_eq_left', Option.some.injEq, truD_bl, wr_ok]
      exact ⟨by simp only [markD, hw]; rfl, by first | exact trivial | rfl⟩
    | false =>
      simp only [Bool.false_eq_true, if_false]
      cases ha with
      | @str y tx =>
        simp only [tyD, Option.some.injEq, exists_eq_left', show isTy .str .str = true from rfl, truD_bl, if_true, fEq_str, wr_ok]
        cases he : decide (y = ("" : Str)) with
        | true =>
          simp only [if_true, hch, wr_ok]
          exact ⟨by simp only [markD, emptyD, hw, he]; rfl, by first | exact trivial | rfl⟩
        | false =>
          simp only [Bool.false_eq_true, if_false]
          exact ⟨by simp only [markD, emptyD, hw, he]; rfl, by first | exact trivial | rfl⟩
      | _ => (refine ⟨_, rfl, ?_⟩; (first | trivial | rfl | exact ⟨rfl, rfl⟩ | exact ⟨rfl, trivial⟩ | exact ⟨trivial, trivial⟩ | exact ⟨trivial, rfl⟩))
  cases hb with
  | int i =>
    simp only [wholeD, Bool.not_true, Bool.false_eq_true, if_false, ws_nx]
    exact last i rfl
  | _ => (first | trivial | rfl | exact ⟨rfl, rfl⟩ | exact ⟨rfl, trivial⟩ | exact ⟨trivial, trivial⟩ | exact ⟨trivial, rfl⟩)
theorem lmark_pair {a b : D} (ha : Th a) (hb : Th b) : m_law_is_mark [.tup [a, b]] s = .ok (.bl (markD (.tup [a, b]))) s := by
  refine Wr.okEq ?_
  unfold m_law_is_mark b_law_is_mark
  rw [w_callF]
  simp only [List.map_cons, List.map_nil, List.cons_append, List.nil_append, List.replicate, Nat.reduceSub]
  rw [ws_seq, ws_if]
  simp only [w_OrB, w_NotB, w_Tru, w_Isi, getV_zero, wr_ok, wr_ret, tyD, Option.some.injEq, exists_eq_left', show isTy .tup .tup = true from rfl, truD_bl, Bool.not_true, Bool.false_eq_true, if_false, w_B, w_bin, w_CB, w_Cons, w_Nil, fLen_seq seqOf_tup, fNe_int, D.bl.injEq, show decide ((([a, b] : List D).length : Int) = 2) = true from rfl, w_Call, fIx_tup, atI_1, atI_0]
  have last : ∀ y : Str, a = .str y → Tx y → Ws (mRet (mAnd (mOr (mBin fEq (mBin fIx (getV 0) (fun _ => ret (.int 0))) (fun _ => ret (.str ("" : PySem.Str)))) (mCall 1 (m_law_is_word) (mCons (mBin fIx (getV 0) (fun _ => ret (.int 0))) mNil))) (mAnd (mCall 1 (m_law_whole) (mCons (mBin fIx (getV 0) (fun _ => ret (.int 1))) mNil)) (mChain fLe fLe (fun _ => ret (.int 0)) (mBin fIx (getV 0) (fun _ => ret (.int 1))) (mBin fPow (fun _ => ret (.int 10)) (fun _ => ret (.int 9)))))) [some (.tup [a, b])] s) { nx := fun _ s' => D.non = .bl (markD (.tup [a, b])) ∧ s' = s, rt := fun r s' => r = .bl (markD (.tup [a, b])) ∧ s' = s, ex := fun _ _ _ => False } := by
    rintro y rfl ty
    have hch : Wr (mAnd (mCall 1 (m_law_whole) (mCons (mBin fIx (getV 0) (fun _ => ret (.int 1))) mNil)) (mChain fLe fLe (fun _ => ret (.int 0)) (mBin fIx (getV 0) (fun _ => ret (.int 1))) (mBin fPow (fun _ => ret (.int 10)) (fun _ => ret (.int 9)))) [some (.tup [.str y, b])] s) (fun r s' => r = .bl (rangeD b) ∧ s' = s) NoE := by
      simp only [w_And, w_Call, w_Cons, w_Nil, w_Chain, w_bin, getV_zero, wr_ok, wr_ret, fIx_tup, atI_1, Option.some.injEq, exists_eq_left', lwhole_ok hb, truD_bl]
      refine ⟨rfl, ?_⟩
      cases hb with
      | int i =>
        simp only [wholeD, rangeD, if_true, fLe_int, Option.some.injEq, exists_eq_left', D.bl.injEq, fPow_int (show (0 : Int) ≤ 9 by decide) (by decide) (show (10 : Int).natAbs < 2 ^ 64 by decide), show (10 : Int) ^ Int.toNat 9 = 1000000000 from rfl]
        by_cases h0 : 0 ≤ i <;> simp [h0]
      | _ => (first | trivial | rfl | exact ⟨rfl, rfl⟩ | exact ⟨rfl, trivial⟩ | exact ⟨trivial, trivial⟩ | exact ⟨trivial, rfl⟩)
    have hch := Wr.okEq hch
    have hw := lword_ok (s := s) (Th.str ty)
    simp only [ws_ret, w_And (ma := mOr _ _), w_Or, w_Call (m := m_law_is_word), w_Cons, w_Nil, w_bin, getV_zero, wr_ok, wr_ret, fIx_tup, atI_0, Option.some.injEq, exists_eq_left', fEq_str, truD_bl, hw, hch]
    have hm : markD (.tup [.str y, b]) = ((decide (y = ("" : Str)) || wordD (.str y)) && (rangeD b)) := by
      cases hb with
      | int i => simp only [markD, emptyD, rangeD, Bool.or_comm]
      | _ => simp [markD, rangeD]
    rw [hm]
    cases he : decide (y = ("" : Str)) with
    | true =>
      simp only [if_true, truD_bl, Option.some.injEq, exists_eq_left', Bool.true_or, Bool.true_and]
      first | trivial | rfl | exact ⟨rfl, rfl⟩ | exact ⟨rfl, trivial⟩ | exact ⟨trivial, trivial⟩ | exact ⟨trivial, rfl⟩
    | false =>
      simp only [Bool.false_eq_true, if_false, truD_bl, Option.some.injEq, exists_eq_left', Bool.false_or]
      refine ⟨rfl, ?_⟩
      cases wordD (.str y) with
      | true => (first | trivial | rfl | exact ⟨rfl, rfl⟩ | exact ⟨rfl, trivial⟩ | exact ⟨trivial, trivial⟩ | exact ⟨trivial, rfl⟩)
      | false => (first | trivial | rfl | exact ⟨rfl, rfl⟩ | exact ⟨rfl, trivial⟩ | exact ⟨trivial, trivial⟩ | exact ⟨trivial, rfl⟩)
  cases ha with
  | @str y ty =>
    simp only [tyD, Option.some.injEq, exists_eq_left', show isTy .str .str = true from rfl, truD_bl, Bool.not_true, Bool.false_eq_true, if_false, ws_nx]
    exact last y rfl ty
  | _ => (refine ⟨_, rfl, ?_, by first | trivial | rfl⟩; cases hb <;> rfl)
theorem mark_ok (h : Th d) : m_is_mark [d] s = .ok (.bl (markD d)) s := by
  cases h
  case t2 ha hb => exact mark_pair ha hb
  all_goals first
    | exact mark_no rfl rfl
    | exact (mark_len (ds := []) (by simp))
    | exact (mark_len (ds := [_]) (by simp))
    | (rename_i a b c; rw [show markD (.tup [a, b, c]) = false from by cases b <;> rfl]; exact mark_len (by simp))
theorem lmark_ok (h : Th d) : m_law_is_mark [d] s = .ok (.bl (markD d)) s := by
  cases h
  case t2 ha hb => exact lmark_pair ha hb
  all_goals first
    | exact lmark_no rfl rfl
    | exact (lmark_len (ds := []) (by simp))
    | exact (lmark_len (ds := [_]) (by simp))
    | (rename_i a b c; rw [show markD (.tup [a, b, c]) = false from by cases b <;> rfl]; exact lmark_len (by simp))
theorem repr3 (a b c : Bool) : ∃ z, ∀ s, fRepr [.lst [.bl a, .bl b, .bl c]] s = some (.str z) := by
  refine ⟨(PyData.list [.bool a, .bool b, .bool c]).shown, fun s => ?_⟩
  have e : toPy s 60 (.lst [.bl a, .bl b, .bl c]) = some (.list [.bool a, .bool b, .bool c]) := by
    simp [toPy, toPys]
  unfold fRepr
  simp only [e]
  rw [if_pos]
  cases a <;> cases b <;> cases c <;> decide +kernel
end K01
set_option Elab.async false
set_option linter.all false
set_option maxRecDepth 100000
set_option maxHeartbeats 4000000
namespace K01
open PySem L2 DL
theorem law_true (ns : List Int) (hl : ns.length ≤ 63) : ∃ st, m_law [.scr (ns.map D.int)] [] = .ok (.bl true) st := by
  have main : Wr (m_law [.scr (ns.map D.int)] []) (fun d _ => d = .bl true) NoE := by
    unfold m_law b_law
    rw [w_callF]
    simp only [List.map_cons, List.map_nil, List.cons_append, List.nil_append, List.replicate, Nat.reduceSub]
    rw [ws_seq, ws_for]
    simp only [w_Rng1, w_CB, w_Cons, w_Nil, getV_zero, wr_ok, wr_ret, fLen_seq seqOf_scr, Option.some.injEq, exists_eq_left', fMin_int, fMax_int, List.cons.injEq, D.int.injEq, and_true]
    generalize hN : (if (if ((ns.map D.int).length : Int) < 40 then ((ns.map D.int).length : Int) else 40) > 1 then (if ((ns.map D.int).length : Int) < 40 then ((ns.map D.int).length : Int) else 40) else 1) = N
    have hN0 : 1 ≤ N := by rw [← hN]; split <;> omega
    have hN1 : N ≤ 40 := by rw [← hN]; split <;> (try split) <;> omega
    refine ⟨⟨by omega, by omega⟩, ?_⟩
    refine ws_forS (fun ds lo _ => (∀ d ∈ ds, ∃ k : Int, d = .int k ∧ 0 ≤ k ∧ k < 1000) ∧ ∃ a b c d e, lo = [some (.scr (ns.map D.int)), a, b, c, d, e]) ?_ ?_ _ _ _ ⟨?_, _, _, _, _, _, rfl⟩
    · rintro d ds lo s ⟨h1, a, b, c, e, f, rfl⟩
      obtain ⟨k, rfl, k0, k1⟩ := h1 d List.mem_cons_self
      refine ⟨rfl, _, rfl, ?_⟩
      simp only [List.set_cons_succ, List.set_cons_zero]
      rw [ws_seq, ws_set]
      simp only [w_Call, w_Cons, w_Nil, getV_zero, getV_cons, wr_ok, e_pool]
      refine ⟨rfl, (pool_ok k0 k1).then ?_⟩
      rintro _ s1 ⟨u, v, rfl, rfl, u0⟩
      refine ⟨_, rfl, ?_⟩
      simp only [List.set_cons_succ, List.set_cons_zero]
      rw [ws_for]
      simp only [w_Rng1, w_Cons, w_Nil, wr_ret]
      refine ⟨6, rfl, ⟨by decide, by decide⟩, ?_⟩
      refine ws_forS (fun _ lo s1 => PoolAt s1 s.length ∧ ∃ b c d, lo = [some (.scr (ns.map D.int)), some (.int k), some (.loc s.length), b, c, d]) ?_ ?_ _ _ _ ⟨⟨u, v, by simp, u0⟩, _, _, _, rfl⟩
      · rintro d2 ds2 lo s2 ⟨hp, b, c, d, rfl⟩
        refine ⟨rfl, _, rfl, ?_⟩
        simp only [List.set_cons_succ, List.set_cons_zero]
        rw [ws_seq, ws_set]
        simp only [w_Call, w_Cons, w_Nil, getV_zero, getV_cons, wr_ok, wr_ret]
        refine ⟨rfl, (thing_ok hp).then ?_⟩
        rintro t s3 ⟨ht, h3⟩
        refine ⟨_, rfl, ?_⟩
        simp only [List.set_cons_succ, List.set_cons_zero]
        rw [ws_seq, ws_set]
        simp only [w_Lst, w_Call, w_Cons, w_Nil, getV_zero, getV_cons, wr_ok, wr_ret, lword_ok ht, lwhole_ok ht, lmark_ok ht]
        refine ⟨rfl, rfl, rfl, few_size (by simp), _, rfl, ?_⟩
        simp only [List.set_cons_succ, List.set_cons_zero]
        rw [ws_if]
        obtain ⟨z, hz⟩ := repr3 (wordD t) (wholeD t) (markD t)
        simp only [w_B, w_bin, w_CB, w_Lst, w_Call, w_Cons, w_Nil, getV_zero, getV_cons, wr_ok, wr_ret, word_ok ht, whole_ok ht, mark_ok ht, hz, Option.some.injEq, exists_eq_left', fNe_str, decide_true, Bool.not_true, D.bl.injEq, Bool.false_eq_true, if_false, ws_nx]
        exact ⟨rfl, rfl, rfl, few_size (by simp), h3.pool, _, _, _, rfl⟩
      · rintro lo s2 ⟨_, b, c, d, rfl⟩
        exact ⟨rfl, fun d hd => h1 d (List.mem_cons_of_mem _ hd), _, _, _, _, _, rfl⟩
    · rintro lo s ⟨_, a, b, c, d, e, rfl⟩
      exact ⟨rfl, rfl⟩
    · intro d hd
      obtain ⟨i, hi, rfl⟩ := List.mem_map.mp hd
      have := List.mem_range.mp hi
      exact ⟨_, rfl, by omega, by omega⟩
  obtain ⟨d, st, e, rfl⟩ := main.eq
  exact ⟨st, e⟩
end K01
set_option Elab.async false
open PySem PySem.W PyProof.Rows
open PySem PySem.W PyProof.Rows
set_option maxRecDepth 100000 in
set_option maxHeartbeats 0 in
theorem PySem.Challenge.cw_formsacross_k01_words_and_marks_holds : PySem.Challenge.rw_formsacross_k01_words_and_marks.Holds := by
  w_on; o_law; k_head; (case hw => w_witness2)
  k_fill
  refine DL.end_walk (l := PySem.Challenge.rw_formsacross_k01_words_and_marks) (k := 6) (x := "_law_script") (m := K01.m_law) (c := fun _ _ _ => .none) rfl (by decide) rfl ⟨rfl, by decide, by decide⟩ (fun w h Y => PySem.W.kIn_of Y) ?F K01.law_true
  case F =>
    intro w mg fa h KX G hmg
    refine' K01.all_mk KX G hmg ?a0 ?l0 ?c0 ?k0 ?a1 ?l1 ?c1 ?k1 ?a2 ?l2 ?c2 ?k2 ?a3 ?l3 ?c3 ?k3 ?a4 ?l4 ?c4 ?k4 ?a5 ?l5 ?c5 ?k5 ?a6 ?l6 ?c6 ?k6 ?a7 ?l7 ?c7 ?k7 ?a8 ?l8 ?c8 ?k8 ?a9 ?l9 ?c9 ?k9 ?a10 ?l10 ?c10 ?k10 ?q0 ?q1 ?q2 ?z0 ?z1 ?z2 ?z3 ?z4 ?z5 ?z6 ?z7 ?z8 ?z9 ?z10 ?z11
    (case a0 => k_is)
    (case l0 => k_is)
    (case c0 => k_is)
    (case k0 => k_is)
    (case a1 => k_is)
    (case l1 => k_is)
    (case c1 => k_is)
    (case k1 => k_is)
    (case a2 => k_is)
    (case l2 => k_is)
    (case c2 => k_is)
    (case k2 => k_is)
    (case a3 => k_is)
    (case l3 => k_is)
    (case c3 => k_is)
    (case k3 => k_is)
    (case a4 => k_is)
    (case l4 => k_is)
    (case c4 => k_is)
    (case k4 => k_is)
    (case a5 => k_is)
    (case l5 => k_is)
    (case c5 => k_is)
    (case k5 => k_is)
    (case a6 => k_is)
    (case l6 => k_is)
    (case c6 => k_is)
    (case k6 => k_is)
    (case a7 => k_is)
    (case l7 => k_is)
    (case c7 => k_is)
    (case k7 => k_is)
    (case a8 => k_is)
    (case l8 => k_is)
    (case c8 => k_is)
    (case k8 => k_is)
    (case a9 => k_is)
    (case l9 => k_is)
    (case c9 => k_is)
    (case k9 => k_is)
    (case a10 => k_is)
    (case l10 => k_is)
    (case c10 => k_is)
    (case k10 => k_is)
    (case q0 => k_is)
    (case q1 => k_is)
    (case q2 => k_is)
    (case z0 => k_is)
    (case z1 => k_is)
    (case z2 => k_is)
    (case z3 => k_is)
    (case z4 => k_is)
    (case z5 => k_is)
    (case z6 => k_is)
    (case z7 => k_is)
    (case z8 => k_is)
    (case z9 => k_is)
    (case z10 => k_is)
    (case z11 => k_is)
