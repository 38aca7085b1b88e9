import PyProof.Rows.All
import Wide.All
import OpenK.AllK
import Wide.FinOn
import HandS.ForMost
import HandS.Exc
import HandS.ExcOwn
import HandS.WordsExc
import HandS.IsInst
import HandS.Walk
import HandS.Zip
import HandS.CallSlots
import HandS.TupAny
import HandS.Conv
import HandS.Flow
import KE.GoesMore
import KE.GoesEnum
import HandS.TupSets
import HandS.SetFor
import HandS.SortInts
import HandS.SortRule
import HandS.Deep
import HandS.Style
import HandS.Wide
import PyProof.ReprRoads
import PyProof.CallFns
import HandS.Strs
import KE.KRevSl
import PySem.Challenge.RW_paperslapse_k64_whole_stretches_covered
set_option Elab.async false
set_option linter.all false
set_option maxRecDepth 100000
set_option maxHeartbeats 4000000
/-! The data layer: values without addresses, what stands for them in the heap, denotations that may stop. -/
namespace Dn
open PySem PySem.Spec PyProof.Rows L2

/-- a value: tuples and lists that nobody changes any more as data, the n-th of the live lists by its number -/
inductive D where
  | non | bl (b : Bool) | int (i : Int) | str (x : Str)
  | tup (ds : List D) | lst (ds : List D) | ref (n : Nat)
  /-- the script: it is cut, nothing else -/
  | scr (ds : List D)

/-- a live object -/
inductive IO where
  | lst (ds : List D)
abbrev IHp := List IO
abbrev ISt := List (Option D)

/-- what an evaluation gives: a value, an exception of the class named, or a stop of the denotation (nothing is promised then) -/
inductive R (β : Type) where
  | ok (a : β) (h : IHp)
  | ex (c : Str) (h : IHp)
  | bad
def R.bind {β γ : Type} (r : R β) (f : β → IHp → R γ) : R γ :=
  match r with
  | .ok a h => f a h
  | .ex c h => .ex c h
  | .bad => .bad
@[simp] theorem R.bind_ok {β γ : Type} (a : β) (h : IHp) (f : β → IHp → R γ) : (R.ok a h).bind f = f a h := (rfl)
@[simp] theorem R.bind_ex {β γ : Type} (c : Str) (h : IHp) (f : β → IHp → R γ) : (R.ex c h : R β).bind f = .ex c h := (rfl)
@[simp] theorem R.bind_bad {β γ : Type} (f : β → IHp → R γ) : (R.bad : R β).bind f = .bad := (rfl)
theorem R.bind_assoc {β γ δ : Type} (r : R β) (f : β → IHp → R γ) (k : γ → IHp → R δ) : (r.bind f).bind k = r.bind fun a h => (f a h).bind k := by cases r <;> rfl
/-- a guard -/
def R.when {β : Type} (c : Bool) (r : R β) : R β := if c = true then r else .bad

abbrev ME := ISt → IHp → R D
abbrev MT := ISt → IHp → R Bool
abbrev MA := ISt → IHp → R (List D)

/-! ### what stands for a value -/
/-- the addresses of the live lists, and of lists that are being made -/
structure Al where
  lv : List Addr
  hd : List Addr
section
variable (K : PySem.W.Frag) (α : Al) (H : Hp)
/-- a list that is not live -/
def SqF (a : Addr) (xs : List V) : Prop := Rd H a (.lst xs) ∧ a ∉ α.lv ∧ a ∉ α.hd
/-- .. or stands in the written part -/
def SqK (a : Addr) (xs : List V) : Prop :=
  SqF α H a xs ∨
    ∃ (o : Obj) (its : Array Value) (n : Nat), K.lookup a = some o ∧ o.cls = .type "list" ∧ o.dict = none ∧ o.data = .seq its n ∧ its.size ≤ sizeLine ∧ Vals xs its.toList
mutual
inductive Rep : D → V → Prop
  | non : Rep .non .non
  | bl (b : Bool) : Rep (.bl b) (.bl b)
  | int (i : Int) : Rep (.int i) (.int i)
  | str (x : Str) : Rep (.str x) (.str x)
  | tup {ds : List D} {a : Addr} {vs : List V} : SqT K H a vs → Reps ds vs → Rep (.tup ds) (.ref a)
  | lst {ds : List D} {a : Addr} {vs : List V} : SqF α H a vs → Reps ds vs → Rep (.lst ds) (.ref a)
  | scr {ds : List D} {a : Addr} {vs : List V} : SqK K α H a vs → Reps ds vs → Rep (.scr ds) (.ref a)
  | ref {n : Nat} {a : Addr} : α.lv[n]? = some a → Rep (.ref n) (.ref a)
inductive Reps : List D → List V → Prop
  | nil : Reps [] []
  | cons {d : D} {ds : List D} {v : V} {vs : List V} : Rep d v → Reps ds vs → Reps (d :: ds) (v :: vs)
end
def RepO : IO → HO → Prop
  | .lst ds, .lst vs => Reps K α H ds vs
  | _, _ => False
/-- the live objects -/
structure RH (ih : IHp) : Prop where
  len : α.lv.length = ih.length
  nd : α.lv.Nodup
  ob : ∀ (n : Nat) (o : IO), ih[n]? = some o → ∃ a ho, α.lv[n]? = some a ∧ H a = some ho ∧ RepO K α H o ho
  dj : ∀ a ∈ α.hd, a ∉ α.lv
  hl : ∀ a ∈ α.hd, ∃ vs, H a = some (.lst vs)
/-- the slots -/
def RS (iσ : ISt) (σ : L2.St) : Prop := iσ.length = σ.length ∧ ∀ (i : Nat) (d : D), iσ[i]? = some (some d) → ∃ v, σ[i]? = some (some v) ∧ Rep K α H d v
end

/-- the live ones stay the same places (more may come), all else that is tracked stays -/
structure Ext (α : Al) (H : Hp) (α' : Al) (H' : Hp) : Prop where
  pre : α.lv <+: α'.lv
  hd : ∀ a xs, Rd H a (.lst xs) → a ∉ α.lv → a ∉ α.hd → a ∉ α'.hd
  hs : ∀ a ∈ α.hd, a ∈ α'.hd
  keep : ∀ a u, H a = some u → (∀ ps, u ≠ .tbl ps) → a ∉ α.lv → H' a = some u ∧ a ∉ α'.lv
theorem Ext.refl {α : Al} {H : Hp} : Ext α H α H := ⟨List.prefix_refl _, fun _ _ _ _ n => n, fun _ h => h, fun _ _ h _ n => ⟨h, n⟩⟩
theorem Rd.keep {α α' : Al} {H H' : Hp} (k : ∀ a u, H a = some u → (∀ ps, u ≠ .tbl ps) → a ∉ α.lv → H' a = some u ∧ a ∉ α'.lv) {a : Addr} {u : HO} (ht : ∀ ps, u ≠ .tbl ps) (n : a ∉ α.lv) (h : Rd H a u) : Rd H' a u ∧ a ∉ α'.lv := by
  rcases h with h | ⟨o, h⟩
  · obtain ⟨h1, h2⟩ := k a _ h ht n
    exact ⟨.inl h1, h2⟩
  · obtain ⟨h1, h2⟩ := k a _ h (fun ps e => by cases e) n
    exact ⟨.inr ⟨o, h1⟩, h2⟩
theorem Ext.trans {α β γ : Al} {H H1 H2 : Hp} (x : Ext α H β H1) (y : Ext β H1 γ H2) : Ext α H γ H2 :=
  ⟨x.pre.trans y.pre, fun a xs r n m => let z := Rd.keep x.keep (fun ps e => by cases e) n r; y.hd a xs z.1 z.2 (x.hd a xs r n m), fun a h => y.hs a (x.hs a h), fun a u h nt n => let ⟨h1, n1⟩ := x.keep a u h nt n; y.keep a u h1 nt n1⟩

section
variable {K : PySem.W.Frag} {α α' : Al} {H H' : Hp}
theorem Reps.length : ∀ {ds : List D} {vs : List V}, Reps K α H ds vs → ds.length = vs.length
  | _, _, .nil => rfl
  | _, _, .cons _ t => by rw [List.length_cons, List.length_cons, t.length]
theorem Reps.get : ∀ {ds : List D} {vs : List V} {i : Nat} {d : D}, Reps K α H ds vs → ds[i]? = some d → ∃ v, vs[i]? = some v ∧ Rep K α H d v
  | _, _, _, _, .nil, e => by simp at e
  | _, _, 0, _, .cons r _, e => by
    simp at e; subst e; exact ⟨_, rfl, r⟩
  | _, _, i + 1, _, .cons _ t, e => by
    obtain ⟨v, h1, h2⟩ := Reps.get (i := i) t (by simpa using e)
    exact ⟨v, by simpa using h1, h2⟩
theorem Reps.getV : ∀ {ds : List D} {vs : List V} {i : Nat} {v : V}, Reps K α H ds vs → vs[i]? = some v → ∃ d, ds[i]? = some d ∧ Rep K α H d v
  | _, _, _, _, .nil, e => by simp at e
  | _, _, 0, _, .cons r _, e => by
    simp at e; subst e; exact ⟨_, rfl, r⟩
  | _, _, i + 1, _, .cons _ t, e => by
    obtain ⟨v, h1, h2⟩ := Reps.getV (i := i) t (by simpa using e)
    exact ⟨v, by simpa using h1, h2⟩
theorem Reps.append : ∀ {ds es : List D} {vs us : List V}, Reps K α H ds vs → Reps K α H es us → Reps K α H (ds ++ es) (vs ++ us)
  | _, _, _, _, .nil, s => s
  | _, _, _, _, .cons r t, s => .cons r (Reps.append t s)
theorem Reps.take : ∀ {ds : List D} {vs : List V} (n : Nat), Reps K α H ds vs → Reps K α H (ds.take n) (vs.take n)
  | _, _, 0, _ => .nil
  | _, _, _ + 1, .nil => .nil
  | _, _, n + 1, .cons r t => .cons r (Reps.take n t)
theorem Reps.drop : ∀ {ds : List D} {vs : List V} (n : Nat), Reps K α H ds vs → Reps K α H (ds.drop n) (vs.drop n)
  | _, _, 0, r => r
  | _, _, _ + 1, .nil => .nil
  | _, _, n + 1, .cons _ t => Reps.drop n t
theorem Reps.set {d : D} {v : V} (r : Rep K α H d v) : ∀ {ds : List D} {vs : List V} (i : Nat), Reps K α H ds vs → Reps K α H (ds.set i d) (vs.set i v)
  | _, _, _, .nil => .nil
  | _, _, 0, .cons _ t => .cons r t
  | _, _, i + 1, .cons q t => .cons q (Reps.set r i t)
theorem Reps.one {d : D} {v : V} (r : Rep K α H d v) : Reps K α H [d] [v] := .cons r .nil

/-- another way to stand for the same -/
structure Mp (K : PySem.W.Frag) (α : Al) (H : Hp) (α' : Al) (H' : Hp) : Prop where
  f : ∀ a vs, SqF α H a vs → SqF α' H' a vs
  t : ∀ a vs, SqT K H a vs → SqT K H' a vs
  l : ∀ (n : Nat) (a : Addr), α.lv[n]? = some a → α'.lv[n]? = some a
mutual
theorem Rep.mp (m : Mp K α H α' H') : ∀ {d : D} {v : V}, Rep K α H d v → Rep K α' H' d v
  | _, _, .non => .non
  | _, _, .bl b => .bl b
  | _, _, .int i => .int i
  | _, _, .str y => .str y
  | _, _, .tup q r => .tup (m.t _ _ q) (Reps.mp m r)
  | _, _, .lst q r => .lst (m.f _ _ q) (Reps.mp m r)
  | _, _, .scr q r => .scr (q.elim (fun z => .inl (m.f _ _ z)) .inr) (Reps.mp m r)
  | _, _, .ref e => .ref (m.l _ _ e)
theorem Reps.mp (m : Mp K α H α' H') : ∀ {ds : List D} {vs : List V}, Reps K α H ds vs → Reps K α' H' ds vs
  | _, _, .nil => .nil
  | _, _, .cons r t => .cons (Rep.mp m r) (Reps.mp m t)
end
theorem RS.mp (m : Mp K α H α' H') {iσ : ISt} {σ : L2.St} (s : RS K α H iσ σ) : RS K α' H' iσ σ :=
  ⟨s.1, fun i d e => let ⟨v, e1, r⟩ := s.2 i d e; ⟨v, e1, r.mp m⟩⟩
theorem RepO.lst {ho : HO} {ds : List D} (h : RepO K α H (.lst ds) ho) : ∃ vs, ho = .lst vs ∧ Reps K α H ds vs := by
  cases ho <;> first | exact ⟨_, rfl, h⟩ | exact False.elim h
theorem RepO.mp (m : Mp K α H α' H') {o : IO} {ho : HO} (r : RepO K α H o ho) : RepO K α' H' o ho := by
  cases o with
  | lst ds =>
    obtain ⟨vs, rfl, q⟩ := r.lst
    exact q.mp m

theorem Rd.ext (x : Ext α H α' H') {a : Addr} {u : HO} (ht : ∀ ps, u ≠ .tbl ps) (n : a ∉ α.lv) (h : Rd H a u) : Rd H' a u ∧ a ∉ α'.lv := Rd.keep x.keep ht n h
theorem SqF.ext (x : Ext α H α' H') {a : Addr} {vs : List V} (h : SqF α H a vs) : SqF α' H' a vs := by
  obtain ⟨h, n, m⟩ := h
  have z := Rd.ext x (fun ps e => by cases e) n h
  exact ⟨z.1, z.2, x.hd a vs h n m⟩
theorem SqF.seq {a : Addr} {vs : List V} (h : SqF α H a vs) : SqL K H a vs := .inl h.1
theorem SqK.seq {a : Addr} {vs : List V} (h : SqK K α H a vs) : SqL K H a vs := by
  rcases h with h | h
  · exact .inl h.1
  · exact .inr h
/-- a live place holds a list -/
theorem RH.at {ih : IHp} (h : RH K α H ih) {a : Addr} (m : a ∈ α.lv) : ∃ (n : Nat) (o : IO) (ho : HO), α.lv[n]? = some a ∧ ih[n]? = some o ∧ H a = some ho ∧ RepO K α H o ho := by
  obtain ⟨n, hn, e⟩ := List.getElem_of_mem m
  have hn' : n < ih.length := by rw [← h.len]; exact hn
  obtain ⟨a', ho, e1, e2, e3⟩ := h.ob n ih[n] (List.getElem?_eq_getElem hn')
  rw [List.getElem?_eq_getElem hn] at e1
  have e4 : a = a' := by rw [← e]; exact Option.some.inj e1
  subst e4
  exact ⟨n, _, ho, by rw [List.getElem?_eq_getElem hn, e], List.getElem?_eq_getElem hn', e2, e3⟩
theorem RH.tup_ne {ih : IHp} (h : RH K α H ih) {a : Addr} {xs : List V} (e : Rd H a (.tup xs)) : a ∉ α.lv := fun m => by
  obtain ⟨n, o, ho, _, _, e2, e3⟩ := h.at m
  cases o with
  | lst ds =>
    obtain ⟨vs, rfl, _⟩ := e3.lst
    rcases e with e | ⟨ob, e⟩ <;> (rw [e2] at e; cases e)
theorem SqT.ext {ih : IHp} (h : RH K α H ih) (x : Ext α H α' H') {a : Addr} {vs : List V} (q : SqT K H a vs) : SqT K H' a vs := by
  rcases q with q | q
  · exact .inl (Rd.ext x (fun ps e => by cases e) (h.tup_ne q) q).1
  · exact .inr q
theorem prefix_get {l l' : List Addr} (p : l <+: l') {n : Nat} {a : Addr} (e : l[n]? = some a) : l'[n]? = some a := by
  obtain ⟨t, rfl⟩ := p
  rw [List.getElem?_append_left (List.getElem?_eq_some_iff.mp e).1]
  exact e
theorem Ext.mp {ih : IHp} (h : RH K α H ih) (x : Ext α H α' H') : Mp K α H α' H' := ⟨fun _ _ q => q.ext x, fun _ _ q => SqT.ext h x q, fun _ _ e => prefix_get x.pre e⟩
theorem Rep.ext {ih : IHp} (h : RH K α H ih) (x : Ext α H α' H') {d : D} {v : V} (r : Rep K α H d v) : Rep K α' H' d v := r.mp (x.mp h)
theorem Reps.ext {ih : IHp} (h : RH K α H ih) (x : Ext α H α' H') {ds : List D} {vs : List V} (r : Reps K α H ds vs) : Reps K α' H' ds vs := r.mp (x.mp h)
theorem RS.ext {ih : IHp} (h : RH K α H ih) (x : Ext α H α' H') {iσ : ISt} {σ : L2.St} (s : RS K α H iσ σ) : RS K α' H' iσ σ := s.mp (x.mp h)
theorem RepO.ext {ih : IHp} (h : RH K α H ih) (x : Ext α H α' H') {o : IO} {ho : HO} (r : RepO K α H o ho) : RepO K α' H' o ho := r.mp (x.mp h)
theorem RS.set {iσ : ISt} {σ : L2.St} (s : RS K α H iσ σ) {i : Nat} {d : D} {v : V} (r : Rep K α H d v) : RS K α H (iσ.set i (some d)) (σ.set i (some v)) := by
  refine ⟨by rw [List.length_set, List.length_set, s.1], fun j e he => ?_⟩
  by_cases hj : i = j
  · subst hj
    by_cases hl : i < iσ.length
    · rw [List.getElem?_set_self hl] at he
      cases he
      exact ⟨v, by rw [List.getElem?_set_self (by rw [← s.1]; exact hl)], r⟩
    · rw [List.getElem?_eq_none (by rw [List.length_set]; omega)] at he
      cases he
  · rw [List.getElem?_set_ne hj] at he ⊢
    exact s.2 j e he

/-- a new tracked object that is not live -/
theorem Ext.new {p : Addr} {o : HO} (n : H p = none) : Ext α H α (upd H p o) :=
  ⟨List.prefix_refl _, fun _ _ _ _ z => z, fun _ z => z, fun a u e _ m => ⟨by rw [upd_ne (ne_of_none e n)]; exact e, m⟩⟩
/-- all live objects stand as they stood -/
theorem RH.same {ih : IHp} (h : RH K α H ih) (x : Ext α H α H') (s : ∀ a ∈ α.lv, H' a = H a) : RH K α H' ih :=
  ⟨h.len, h.nd, fun n o e => by
    obtain ⟨a, ho, e1, e2, e3⟩ := h.ob n o e
    exact ⟨a, ho, e1, by rw [s a (List.mem_iff_getElem?.mpr ⟨n, e1⟩)]; exact e2, e3.ext h x⟩, h.dj, fun a m => by
    obtain ⟨vs, e⟩ := h.hl a m
    exact ⟨vs, (x.keep a _ e (fun _ z => by cases z) (h.dj a m)).1⟩⟩
theorem RH.free {ih : IHp} (h : RH K α H ih) {p : Addr} (n : H p = none) : p ∉ α.lv := fun m => by
  obtain ⟨_, _, _, _, _, e, _⟩ := h.at m
  rw [n] at e; cases e
theorem RH.freeH {ih : IHp} (h : RH K α H ih) {p : Addr} (n : H p = none) : p ∉ α.hd := fun m => by
  obtain ⟨_, e⟩ := h.hl p m
  rw [n] at e; cases e
theorem RH.new {ih : IHp} (h : RH K α H ih) {p : Addr} {o : HO} (n : H p = none) : RH K α (upd H p o) ih :=
  h.same (Ext.new n) fun a m => upd_ne fun e => by subst e; exact h.free n m
/-- a new live object -/
def Al.add (α : Al) (p : Addr) : Al := { α with lv := α.lv ++ [p] }
theorem Ext.live {p : Addr} {o : HO} (n : H p = none) : Ext α H (α.add p) (upd H p o) :=
  ⟨List.prefix_append _ _, fun _ _ _ _ z => z, fun _ z => z, fun a u e _ m => ⟨by rw [upd_ne (ne_of_none e n)]; exact e, fun z => by
    rcases List.mem_append.mp z with z | z
    · exact m z
    · rw [List.mem_singleton.mp z, n] at e; cases e⟩⟩
theorem RH.live {ih : IHp} (h : RH K α H ih) {p : Addr} {o : IO} {ho : HO} (n : H p = none) (r : RepO K α H o ho) : RH K (α.add p) (upd H p ho) (ih ++ [o]) := by
  have x : Ext α H (α.add p) (upd H p ho) := Ext.live n
  refine ⟨by unfold Al.add; rw [List.length_append, List.length_append, h.len]; rfl, ?_, fun k u e => ?_, fun a m z => ?_, fun a m => ?_⟩
  · unfold Al.add
    rw [List.nodup_append]
    exact ⟨h.nd, List.nodup_cons.mpr ⟨List.not_mem_nil, List.nodup_nil⟩, fun a ha b hb e => by
      rw [List.mem_singleton.mp hb] at e; subst e; exact h.free n ha⟩
  · by_cases hk : k < ih.length
    · rw [List.getElem?_append_left hk] at e
      obtain ⟨a, w, e1, e2, e3⟩ := h.ob k u e
      exact ⟨a, w, prefix_get x.pre e1, by rw [upd_ne (ne_of_none e2 n)]; exact e2, e3.ext h x⟩
    · rw [List.getElem?_append_right (by omega)] at e
      cases hz : k - ih.length with
      | zero =>
        rw [hz] at e
        cases e
        have ek : k = α.lv.length := by rw [h.len]; omega
        exact ⟨p, ho, by unfold Al.add; rw [ek, List.getElem?_append_right (Nat.le_refl _), Nat.sub_self]; rfl, upd_same, r.ext h x⟩
      | succ m =>
        rw [hz] at e
        simp at e
  · rcases List.mem_append.mp z with z | z
    · exact h.dj a m z
    · obtain ⟨vs, e⟩ := h.hl a m
      rw [List.mem_singleton.mp z, n] at e; cases e
  · obtain ⟨vs, e⟩ := h.hl a m
    exact ⟨vs, by rw [upd_ne (ne_of_none e n)]; exact e⟩
/-- a live object is changed -/
theorem Ext.write {n : Nat} {a : Addr} {o : HO} (e : α.lv[n]? = some a) : Ext α H α (upd H a o) :=
  ⟨List.prefix_refl _, fun _ _ _ _ z => z, fun _ z => z, fun b u q _ m => ⟨by rw [upd_ne (fun z => m (by subst z; exact List.mem_iff_getElem?.mpr ⟨n, e⟩))]; exact q, m⟩⟩
theorem RH.write {ih : IHp} (h : RH K α H ih) {n : Nat} {a : Addr} {o : IO} {ho : HO} (e : α.lv[n]? = some a) (r : RepO K α H o ho) : RH K α (upd H a ho) (ih.set n o) := by
  have x : Ext α H α (upd H a ho) := Ext.write e
  refine ⟨by rw [List.length_set]; exact h.len, h.nd, fun k u q => ?_, h.dj, fun b m => ?_⟩
  · by_cases hk : n = k
    · subst hk
      by_cases hl : n < ih.length
      · rw [List.getElem?_set_self hl] at q
        cases q
        exact ⟨a, ho, e, upd_same, r.ext h x⟩
      · rw [List.getElem?_eq_none (by rw [List.length_set]; omega)] at q
        cases q
    · rw [List.getElem?_set_ne hk] at q
      obtain ⟨b, w, e1, e2, e3⟩ := h.ob k u q
      refine ⟨b, w, e1, ?_, e3.ext h x⟩
      rw [upd_ne]
      · exact e2
      · intro z
        subst z
        have h1 := List.getElem?_eq_some_iff.mp e
        have h2 := List.getElem?_eq_some_iff.mp e1
        obtain ⟨l1, g1⟩ := h1
        obtain ⟨l2, g2⟩ := h2
        exact hk ((List.getElem_inj h.nd).mp (g1.trans g2.symm))
  · obtain ⟨vs, e2⟩ := h.hl b m
    exact ⟨vs, (x.keep b _ e2 (fun _ z => by cases z) (h.dj b m)).1⟩

/-! ### a list that is being made -/
def Al.hide (α : Al) (p : Addr) : Al := { α with hd := p :: α.hd }
theorem Rd.upd {p a : Addr} {u o : HO} (ne : a ≠ p) (r : Rd H a u) : Rd (upd H p o) a u := by
  rcases r with r | ⟨w, r⟩
  · exact .inl (by rw [upd_ne ne]; exact r)
  · exact .inr ⟨w, by rw [upd_ne ne]; exact r⟩
theorem Mp.hide {ih : IHp} (h : RH K α H ih) {p : Addr} {vs : List V} (n : H p = none) : Mp K α H (α.hide p) (upd H p (.lst vs)) :=
  ⟨fun a us ⟨r, m1, m2⟩ => by
    have ne : a ≠ p := by
      rintro rfl
      rcases r with r | ⟨o, r⟩ <;> (rw [n] at r; cases r)
    exact ⟨Rd.upd ne r, m1, fun z => (List.mem_cons.mp z).elim ne m2⟩, fun a us q => SqT.ext h (Ext.new n) q, fun _ _ e => e⟩
theorem RH.hide {ih : IHp} (h : RH K α H ih) {p : Addr} {vs : List V} (n : H p = none) : RH K (α.hide p) (upd H p (.lst vs)) ih :=
  ⟨h.len, h.nd, fun k o e => by
    obtain ⟨a, ho, e1, e2, e3⟩ := h.ob k o e
    exact ⟨a, ho, e1, by rw [upd_ne (ne_of_none e2 n)]; exact e2, e3.mp (Mp.hide h n)⟩, fun a m => by
    rcases List.mem_cons.mp m with z | z
    · subst z; exact h.free n
    · exact h.dj a z, fun a m => by
    by_cases hz : a = p
    · subst hz; exact ⟨vs, upd_same⟩
    · rcases List.mem_cons.mp m with z | z
      · exact absurd z hz
      · obtain ⟨us, e⟩ := h.hl a z
        exact ⟨us, by rw [upd_ne hz]; exact e⟩⟩
theorem Ext.hide {p : Addr} {o : HO} (n : H p = none) : Ext α H (α.hide p) (upd H p o) :=
  ⟨List.prefix_refl _, fun a xs r _ m z => (List.mem_cons.mp z).elim (fun e => by
    subst e
    rcases r with r | ⟨w, r⟩ <;> (rw [n] at r; cases r)) m, fun a h => List.mem_cons_of_mem _ h, fun a u e _ m => ⟨by rw [upd_ne (ne_of_none e n)]; exact e, m⟩⟩
/-- what was not there at the start may change -/
theorem Ext.wr {p : Addr} {o : HO} (x : Ext α H α' H') (n : H p = none) : Ext α H α' (upd H' p o) :=
  ⟨x.pre, x.hd, x.hs, fun a u e nt m => let z := x.keep a u e nt m; ⟨by rw [upd_ne (ne_of_none e n)]; exact z.1, z.2⟩⟩
/-- it is changed -/
theorem Mp.wr {p : Addr} {vs us : List V} (m : p ∈ α.hd) (e : H p = some (.lst us)) : Mp K α H α (upd H p (.lst vs)) :=
  ⟨fun a ws ⟨r, m1, m2⟩ => by
    have ne : a ≠ p := by
      rintro rfl
      exact m2 m
    exact ⟨Rd.upd ne r, m1, m2⟩, fun a ws q => by
    rcases q with r | r
    · have ne : a ≠ p := by
        rintro rfl
        rcases r with r | ⟨o, r⟩ <;> (rw [e] at r; cases r)
      exact .inl (Rd.upd ne r)
    · exact .inr r, fun _ _ e => e⟩
theorem RH.wr {ih : IHp} (h : RH K α H ih) {p : Addr} {vs us : List V} (m : p ∈ α.hd) (e : H p = some (.lst us)) : RH K α (upd H p (.lst vs)) ih :=
  ⟨h.len, h.nd, fun k o q => by
    obtain ⟨a, ho, e1, e2, e3⟩ := h.ob k o q
    have ne : a ≠ p := by
      rintro rfl
      exact h.dj _ m (List.mem_iff_getElem?.mpr ⟨k, e1⟩)
    exact ⟨a, ho, e1, by rw [upd_ne ne]; exact e2, e3.mp (Mp.wr m e)⟩, h.dj, fun a q => by
    by_cases hz : a = p
    · subst hz; exact ⟨vs, upd_same⟩
    · obtain ⟨ws, e2⟩ := h.hl a q
      exact ⟨ws, by rw [upd_ne hz]; exact e2⟩⟩
/-- it is done -/
def Al.bare (α : Al) (p : Addr) : Al := { α with hd := α.hd.filter fun a => decide (a ≠ p) }
theorem Al.of_bare {p a : Addr} (z : a ∈ (α.bare p).hd) : a ∈ α.hd := (List.mem_filter.mp z).1
theorem Al.not_bare {p : Addr} : p ∉ (α.bare p).hd := fun z => by
  have := (List.mem_filter.mp z).2
  simp at this
theorem Mp.bare {p : Addr} : Mp K α H (α.bare p) H :=
  ⟨fun a us ⟨r, m1, m2⟩ => ⟨r, m1, fun z => m2 (Al.of_bare z)⟩, fun _ _ q => q, fun _ _ e => e⟩
theorem RH.bare {ih : IHp} (h : RH K α H ih) {p : Addr} : RH K (α.bare p) H ih :=
  ⟨h.len, h.nd, fun k o q => by
    obtain ⟨a, ho, e1, e2, e3⟩ := h.ob k o q
    exact ⟨a, ho, e1, e2, e3.mp Mp.bare⟩, fun a m => h.dj a (Al.of_bare m), fun a m => h.hl a (Al.of_bare m)⟩
theorem Ext.bare {ih : IHp} (h : RH K α H ih) {p : Addr} (x : Ext α H α' H') (n : H p = none) : Ext α H (α'.bare p) H' :=
  ⟨x.pre, fun a xs r m1 m2 z => x.hd a xs r m1 m2 (Al.of_bare z), fun a m => List.mem_filter.mpr ⟨x.hs a m, by
    obtain ⟨vs, e⟩ := h.hl a m
    exact decide_eq_true (ne_of_none e n)⟩, x.keep⟩
end

/-! ### readings -/
/-- what must hold so that r tells what is wanted. The class of an exception by its name -/
def Go (K : PySem.W.Frag) (mg : Str → Option Value) (W : Value → Hp → Prop) {β : Type} (rep : Al → Hp → β → γ → Prop) (α : Al) (H : Hp) (r : R β) (Q : γ → Hp → Prop) : Prop :=
  match r with
  | .ok d ih => ∀ α' v H', Ext α H α' H' → RH K α' H' ih → rep α' H' d v → Q v H'
  | .ex c ih => ∀ C α' H', mg c = some (.ref C) → Ext α H α' H' → RH K α' H' ih → W (.ref C) H'
  | .bad => False
section
variable {K : PySem.W.Frag} {mg : Str → Option Value} {W : Value → Hp → Prop} {β γ δ ε : Type} {rep : Al → Hp → β → γ → Prop} {rep' : Al → Hp → δ → ε → Prop} {α α' : Al} {H H' : Hp} {r : R β} {Q Q' : γ → Hp → Prop}
theorem Go.ext (x : Ext α H α' H') (g : Go K mg W rep α H r Q) : Go K mg W rep α' H' r Q := by
  cases r with
  | ok d ih => exact fun β v K x' => g β v K (x.trans x')
  | ex c ih => exact fun C β K hc x' => g C β K hc (x.trans x')
  | bad => exact g
theorem Go.mono (g : Go K mg W rep α H r Q) (h : ∀ v K, Q v K → Q' v K) : Go K mg W rep α H r Q' := by
  cases r with
  | ok d ih => exact fun β v K x r1 r2 => h _ _ (g β v K x r1 r2)
  | ex c ih => exact g
  | bad => exact g
/-- one after another -/
theorem Go.bind {f : β → IHp → R δ} {P : ε → Hp → Prop} (g : Go K mg W rep' α H (r.bind f) P) :
    Go K mg W rep α H r fun v H' => ∃ α' d ih', Ext α H α' H' ∧ RH K α' H' ih' ∧ rep α' H' d v ∧ Go K mg W rep' α' H' (f d ih') P := by
  cases r with
  | ok d ih => exact fun α' v H' x h q => ⟨α', d, ih, x, h, q, g.ext x⟩
  | ex c ih => exact g
  | bad => exact g
/-- the same, seen from further on -/
theorem Go.bind2 {f : β → IHp → R δ} {P : ε → Hp → Prop} (x : Ext α H α' H') (g : Go K mg W rep' α H (r.bind f) P) :
    Go K mg W rep α' H' r fun v H1 => ∃ α1 d ih1, Ext α' H' α1 H1 ∧ RH K α1 H1 ih1 ∧ rep α1 H1 d v ∧ Go K mg W rep' α H (f d ih1) P := by
  cases r with
  | ok d ih => exact fun α1 v H1 x1 h q => ⟨α1, d, ih, x1, h, q, g⟩
  | ex c ih => exact fun C α1 H1 hc x1 => g C α1 H1 hc (x.trans x1)
  | bad => exact g
theorem Go.ok {d : β} {ih : IHp} {v : γ} (h : RH K α H ih) (q : rep α H d v) (g : Go K mg W rep α H (.ok d ih) Q) : Q v H := g α v H Ext.refl h q
theorem Go.okE {d : β} {ih : IHp} {v : γ} (x : Ext α H α' H') (h : RH K α' H' ih) (q : rep α' H' d v) (g : Go K mg W rep α H (.ok d ih) Q) : Q v H' := g α' v H' x h q
end
abbrev repB : Al → Hp → Bool → Bool → Prop := fun _ _ b c => b = c

/-- readings of denotations -/
def rdE (X : Cx) (W : WX) (m : ME) : TE := fun σ H Q => ∃ α iσ ih, RH X.K α H ih ∧ RS X.K α H iσ σ ∧ Go X.K X.mg (fun c H' => W c none σ H') (Rep X.K) α H (m iσ ih) Q
def rdT (X : Cx) (W : WX) (m : MT) : TT := fun σ H Q => ∃ α iσ ih, RH X.K α H ih ∧ RS X.K α H iσ σ ∧ Go X.K X.mg (fun c H' => W c none σ H') repB α H (m iσ ih) Q
def rdA (X : Cx) (W : WX) (m : MA) : TA := fun σ H Q => ∃ α iσ ih, RH X.K α H ih ∧ RS X.K α H iσ σ ∧ Go X.K X.mg (fun c H' => W c none σ H') (Reps X.K) α H (m iσ ih) Q

theorem PE.mono {X : Cx} {e : Expr} {t t' : TE} (h : PE X e t) (f : ∀ σ H Q, t' σ H Q → t σ H Q) : PE X e t' := ⟨fun pins s σ H Q I q => h.run pins s σ H Q I (f σ H Q q)⟩
theorem PT.mono {X : Cx} {e : Expr} {t t' : TT} (h : PT X e t) (f : ∀ σ H Q, t' σ H Q → t σ H Q) : PT X e t' := ⟨fun pins s σ H Q I q => h.run pins s σ H Q I (f σ H Q q)⟩
theorem PA.mono {X : Cx} {e : List Expr} {t t' : TA} (h : PA X e t) (f : ∀ σ H Q, t' σ H Q → t σ H Q) : PA X e t' := ⟨fun pos pins s σ H Q I q => h.run pos pins s σ H Q I (f σ H Q q)⟩

/-- judgements: e is worth m -/
def DE (X : Cx) (e : Expr) (m : ME) : Prop := ∀ W, Takes X W → PE X e (rdE X W m)
def DT (X : Cx) (e : Expr) (m : MT) : Prop := ∀ W, Takes X W → PT X e (rdT X W m)
def DA (X : Cx) (es : List Expr) (m : MA) : Prop := ∀ W, Takes X W → PA X es (rdA X W m)
end Dn

set_option Elab.async false
set_option linter.all false
set_option maxRecDepth 100000
set_option maxHeartbeats 4000000
namespace Dn
open PySem PySem.Spec PyProof.Rows L2

/-! ### names, constants -/
def mVar (i : Nat) : ME := fun σ h => match σ[i]? with
  | some (some d) => .ok d h
  | _ => .bad
def mC (d : D) : ME := fun _ h => .ok d h
section
variable {X : Cx}
theorem de_var (i : Nat) {x : Str} {pos : Pos} (hN : X.N[i]? = some x := by rfl) (hv : Vis X.env.scope x := by first | exact Or.inl rfl | exact Or.inr (Or.inl rfl) | exact Or.inr (Or.inr rfl)) (hd : (x == ("__debug__" : Str)) = false := by decide)
    (hcd : (x == ("__classdict__" : Str)) = false := by decide) : DE X (.Name x pos) (mVar i) := fun W tk => PE.mono (pv i hN hv hd hcd) fun σ H Q ⟨α, iσ, ih, h, s, g⟩ => by
  unfold mVar at g
  split at g
  · next d e =>
    obtain ⟨v, e1, r⟩ := s.2 i d e
    exact ⟨v, e1, g.ok h r⟩
  · exact g.elim
theorem de_const {e : Expr} {d : D} {v : V} (p : PE X e (tC v)) (r : ∀ α H, Rep X.K α H d v) : DE X e (mC d) := fun W tk => PE.mono p fun σ H Q ⟨α, iσ, ih, h, s, g⟩ => g.ok h (r α H)
theorem de_int {i : Int} {j pos} : DE X (.Constant (.int i) j pos) (mC (.int i)) := de_const pe_int fun _ _ => .int i
theorem de_bl {b : Bool} {j pos} : DE X (.Constant (.bool b) j pos) (mC (.bl b)) := de_const pe_bl fun _ _ => .bl b
theorem de_non {j pos} : DE X (.Constant .none j pos) (mC .non) := de_const pe_non fun _ _ => .non
theorem de_str {x : Str} {j pos} : DE X (.Constant (.str x) j pos) (mC (.str x)) := de_const pe_str fun _ _ => .str x
/-- a constant of the module: an int, a text -/
theorem de_globI {x : Str} {i : Int} {t : Tok} {pos : Pos} (hg : Gl X x) (hm : X.mg x = some (.int i t)) (hd : (x == ("__debug__" : Str)) = false := by decide) : DE X (.Name x pos) (mC (.int i)) :=
  de_const (pe_glob (v := .int i) hg hm ⟨t, rfl⟩ hd) fun _ _ => .int i
theorem de_globS {x y : Str} {t : Tok} {pos : Pos} (hg : Gl X x) (hm : X.mg x = some (.str y t)) (hd : (x == ("__debug__" : Str)) = false := by decide) : DE X (.Name x pos) (mC (.str y)) :=
  de_const (pe_glob (v := .str y) hg hm ⟨t, rfl⟩ hd) fun _ _ => .str y

/-! ### arguments -/
def mNil : MA := fun _ h => .ok [] h
def mCons (m : ME) (ms : MA) : MA := fun σ h => (m σ h).bind fun d h => (ms σ h).bind fun ds h => .ok (d :: ds) h
theorem da_nil : DA X [] mNil := fun W tk => PA.mono pa_nil fun σ H Q ⟨α, iσ, ih, h, s, g⟩ => g.ok h .nil
theorem da_cons {e : Expr} {es : List Expr} {m : ME} {ms : MA} (ha : DE X e m) (hr : DA X es ms) (hs : starEach (e :: es) X.env = (false, eval e X.env) :: starEach es X.env := by rfl) : DA X (e :: es) (mCons m ms) := fun W tk =>
  PA.mono (pa_cons (ha W tk) (hr W tk) hs) fun σ H Q ⟨α, iσ, ih, h, s, g⟩ =>
    ⟨α, iσ, ih, h, s, g.bind.mono fun v H1 ⟨α1, d, ih1, x1, h1, r1, g1⟩ => ⟨α1, iσ, ih1, h1, s.ext h x1, g1.bind.mono fun vs H2 ⟨α2, ds, ih2, x2, h2, r2, g2⟩ =>
      g2.ok h2 (.cons (r1.ext h1 x2) r2)⟩⟩

/-! ### what a value operation gives: nothing raised, the live objects as they were -/
abbrev Fin1 (K : PySem.W.Frag) (α : Al) (H : Hp) (ih : IHp) (d : D) (Q : VK) : Prop := ∀ v H', Ext α H α H' → RH K α H' ih → Rep K α H' d v → Q v H'
def R.opt {β : Type} (o : Option β) (h : IHp) : R β := match o with
  | some d => .ok d h
  | none => .bad
theorem go_opt {K : PySem.W.Frag} {mg : Str → Option Value} {W : Value → Hp → Prop} {α : Al} {H : Hp} {o : Option D} {ih : IHp} {Q : VK} (g : Go K mg W (Rep K) α H (R.opt o ih) Q) :
    ∃ d, o = some d ∧ Fin1 K α H ih d Q := by
  cases o with
  | none => exact g.elim
  | some d => exact ⟨d, rfl, fun v H' x h r => g α v H' x h r⟩
theorem Fin1.here {K : PySem.W.Frag} {α : Al} {H : Hp} {ih : IHp} {d : D} {Q : VK} {v : V} (f : Fin1 K α H ih d Q) (h : RH K α H ih) (r : Rep K α H d v) : Q v H := f v H Ext.refl h r
/-- a new list, a new tuple -/
theorem Fin1.lst {K : PySem.W.Frag} {α : Al} {H : Hp} {ih : IHp} {ds : List D} {Q : VK} {vs : List V} (f : Fin1 K α H ih (.lst ds) Q) (h : RH K α H ih) (r : Reps K α H ds vs) {p : Addr} (n : H p = none) : Q (.ref p) (upd H p (.lst vs)) :=
  f _ _ (Ext.new n) (h.new n) (.lst ⟨.inl upd_same, h.free n, h.freeH n⟩ (r.ext h (Ext.new n)))
theorem Fin1.tup {K : PySem.W.Frag} {α : Al} {H : Hp} {ih : IHp} {ds : List D} {Q : VK} {vs : List V} (f : Fin1 K α H ih (.tup ds) Q) (h : RH K α H ih) (r : Reps K α H ds vs) {p : Addr} (n : H p = none) : Q (.ref p) (upd H p (.tup vs)) :=
  f _ _ (Ext.new n) (h.new n) (.tup (.inl (.inl upd_same)) (r.ext h (Ext.new n)))
/-- as Fin1, the value given beforehand -/
def Op2 := IHp → D → D → Option D
def OpD (X : Cx) (f : Value → Value → Sem Value) (g : Op2) : Prop := OpR X f fun x y H Q => ∃ α dx dy ih d, RH X.K α H ih ∧ Rep X.K α H dx x ∧ Rep X.K α H dy y ∧ g ih dx dy = some d ∧ Fin1 X.K α H ih d Q
def mOp (g : Op2) (ma mb : ME) : ME := fun σ h => (ma σ h).bind fun x h => (mb σ h).bind fun y h => R.opt (g h x y) h
theorem rd_op {W : WX} {ma mb : ME} {g : Op2} {f : Value → Value → Sem Value} (σ : L2.St) (H : Hp) (Q : VK) : rdE X W (mOp g ma mb) σ H Q → tOp (fun x y H Q => ∃ α dx dy ih d, RH X.K α H ih ∧ Rep X.K α H dx x ∧ Rep X.K α H dy y ∧ g ih dx dy = some d ∧ Fin1 X.K α H ih d Q) (rdE X W ma) (rdE X W mb) σ H Q :=
  fun ⟨α, iσ, ih, h, s, g⟩ => ⟨α, iσ, ih, h, s, g.bind.mono fun v H1 ⟨α1, d, ih1, x1, h1, r1, g1⟩ => ⟨α1, iσ, ih1, h1, s.ext h x1, g1.bind.mono fun vs H2 ⟨α2, ds, ih2, x2, h2, r2, g2⟩ =>
    let ⟨z, e, fz⟩ := go_opt g2
    ⟨α2, d, ds, ih2, z, h2, r1.ext h1 x2, r2, e, fz⟩⟩⟩
theorem de_op {op : Operator} {a b : Expr} {ma mb : ME} {g : Op2} {pos : Pos} (ho : OpD X (binaryOp op) g) (ha : DE X a ma) (hb : DE X b mb) : DE X (.BinOp a op b pos) (mOp g ma mb) := fun W tk =>
  PE.mono (pe_op ho (ha W tk) (hb W tk)) fun σ H Q q => rd_op (f := binaryOp op) σ H Q q
theorem de_cmp {op : CmpOp} {a b : Expr} {ma mb : ME} {g : Op2} {pos : Pos} (ho : OpD X (compareOp op) g) (ha : DE X a ma) (hb : DE X b mb) (hm : behindInMarks op b = false := by first | exact nomark _ | rfl) : DE X (.Compare a [op] [b] pos) (mOp g ma mb) := fun W tk =>
  PE.mono (pe_cmpR ho (ha W tk) (hb W tk) hm) fun σ H Q q => rd_op (f := compareOp op) σ H Q q

/-! ### tests -/
/-- a flag -/
def mB (m : ME) : MT := fun σ h => (m σ h).bind fun d h => match d with
  | .bl b => .ok b h
  | _ => .bad
theorem rd_B {W : WX} {m : ME} (σ : L2.St) (H : Hp) (Q : Bool → Hp → Prop) : rdT X W (mB m) σ H Q → rdE X W m σ H fun x H1 => ∃ k, x = .bl k ∧ Q k H1 :=
  fun ⟨α, iσ, ih, h, s, g⟩ => ⟨α, iσ, ih, h, s, g.bind.mono fun v H1 ⟨α1, d, ih1, x1, h1, r1, g1⟩ => by
    cases d <;> first | exact g1.elim | skip
    cases r1
    exact ⟨_, rfl, g1.ok h1 rfl⟩⟩
theorem dt_cmp {op : CmpOp} {a b : Expr} {ma mb : ME} {g : Op2} {pos : Pos} (ho : OpD X (compareOp op) g) (ha : DE X a ma) (hb : DE X b mb) (hm : behindInMarks op b = false := by first | exact nomark _ | rfl) : DT X (.Compare a [op] [b] pos) (mB (mOp g ma mb)) := fun W tk =>
  PT.mono (pt_cmpR ho (ha W tk) (hb W tk) hm) fun σ H Q q => rd_op (f := compareOp op) σ H _ (rd_B σ H Q q)
theorem dt_val {e : Expr} {m : ME} (h : DE X e m) (he : ∀ whole, isTrue e X.env whole = (do let v ← whole; standAt e.pos; holding [v] (truthy v)) := by intro _; rfl) : DT X e (mB m) := fun W tk =>
  PT.mono (pt_val (h W tk) he) fun σ H Q q => rd_B σ H Q q
/-- by truth -/
def truD (h : IHp) : D → Option Bool
  | .non => some false
  | .bl b => some b
  | .int i => some (i != 0)
  | .str y => if y.length ≤ sizeLine then some ((y.length : Int) != 0) else none
  | .tup ds => some !ds.isEmpty
  | .lst ds => some !ds.isEmpty
  | .ref n => match h[n]? with
    | some (.lst ds) => some !ds.isEmpty
    | none => none
  | .scr _ => none
def mTru (m : ME) : MT := fun σ h => (m σ h).bind fun d h => R.opt (truD h d) h
theorem Reps.isEmpty {K : PySem.W.Frag} {α : Al} {H : Hp} {ds : List D} {vs : List V} (r : Reps K α H ds vs) : ds.isEmpty = vs.isEmpty := by cases r <;> rfl
theorem tru_rep {K : PySem.W.Frag} {α : Al} {H : Hp} {ih : IHp} {d : D} {v : V} {b : Bool} (h : RH K α H ih) (r : Rep K α H d v) (e : truD ih d = some b) : TruV K v H b := by
  cases r with
  | non => cases e; rfl
  | bl c => cases e; rfl
  | int i => cases e; rfl
  | str y =>
    have e' : (if y.length ≤ sizeLine then some ((y.length : Int) != 0) else none) = some b := e
    split at e'
    · next hz => cases e'; exact ⟨hz, rfl⟩
    · cases e'
  | tup q rs => cases e; exact .inr (.inl ⟨_, q, by rw [rs.isEmpty]⟩)
  | lst q rs => cases e; exact .inl ⟨_, q.seq, by rw [rs.isEmpty]⟩
  | scr q rs => cases e
  | ref ea =>
    unfold truD at e
    dsimp only at e
    split at e
    · next ds eo =>
      cases e
      obtain ⟨a, ho, e1, e2, e3⟩ := h.ob _ _ eo
      rw [ea] at e1; cases e1
      obtain ⟨vs, rfl, rs⟩ := e3.lst
      exact .inl ⟨vs, .inl (.inl e2), by rw [rs.isEmpty]⟩
    · cases e
theorem dt_tru {e : Expr} {m : ME} (h : DE X e m) (he : ∀ whole, isTrue e X.env whole = (do let v ← whole; standAt e.pos; holding [v] (truthy v)) := by intro _; rfl) : DT X e (mTru m) := fun W tk =>
  PT.mono (pt_truth (h W tk) he) fun σ H Q ⟨α, iσ, ih, h, s, g⟩ => ⟨α, iσ, ih, h, s, g.bind.mono fun v H1 ⟨α1, d, ih1, x1, h1, r1, g1⟩ => by
    cases et : truD ih1 d with
    | none => rw [et] at g1; exact g1.elim
    | some b => rw [et] at g1; exact ⟨b, tru_rep h1 r1 et, g1.ok h1 rfl⟩⟩
def mAnd (a b : MT) : MT := fun σ h => (a σ h).bind fun c h => if c = true then b σ h else .ok false h
def mOr (a b : MT) : MT := fun σ h => (a σ h).bind fun c h => if c = true then .ok true h else b σ h
def mNot (a : MT) : MT := fun σ h => (a σ h).bind fun c h => .ok (!c) h
/-- and, or: of any whole -/
def DW (X : Cx) (e : Expr) (m : MT) : Prop := ∀ W, Takes X W → PW X e (rdT X W m)
theorem DW.dt {e : Expr} {m : MT} (h : DW X e m) : DT X e m := fun W tk => (h W tk).pt
theorem PW.mono {e : Expr} {t t' : TT} (h : PW X e t) (f : ∀ σ H Q, t' σ H Q → t σ H Q) : PW X e t' := ⟨fun wh pins s σ H Q I q => h.run wh pins s σ H Q I (f σ H Q q)⟩
theorem dw_and1 {a : Expr} {m : MT} {pos : Pos} (ha : DT X a m) : DW X (.BoolOp .And [a] pos) m := fun W tk => pw_and1 (ha W tk)
theorem dw_or1 {a : Expr} {m : MT} {pos : Pos} (ha : DT X a m) : DW X (.BoolOp .Or [a] pos) m := fun W tk => pw_or1 (ha W tk)
theorem dw_and {a b : Expr} {rest : List Expr} {m m' : MT} {pos : Pos} (ha : DT X a m) (hb : DW X (.BoolOp .And (b :: rest) pos) m') : DW X (.BoolOp .And (a :: b :: rest) pos) (mAnd m m') := fun W tk =>
  PW.mono (pw_and (ha W tk) (hb W tk)) fun σ H Q ⟨α, iσ, ih, h, s, g⟩ => ⟨α, iσ, ih, h, s, g.bind.mono fun c H1 ⟨α1, d, ih1, x1, h1, r1, g1⟩ => by
    cases r1
    cases c with
    | true => exact ⟨α1, iσ, ih1, h1, s.ext h x1, g1⟩
    | false => exact g1.ok h1 rfl⟩
theorem dw_or {a b : Expr} {rest : List Expr} {m m' : MT} {pos : Pos} (ha : DT X a m) (hb : DW X (.BoolOp .Or (b :: rest) pos) m') : DW X (.BoolOp .Or (a :: b :: rest) pos) (mOr m m') := fun W tk =>
  PW.mono (pw_or (ha W tk) (hb W tk)) fun σ H Q ⟨α, iσ, ih, h, s, g⟩ => ⟨α, iσ, ih, h, s, g.bind.mono fun c H1 ⟨α1, d, ih1, x1, h1, r1, g1⟩ => by
    cases r1
    cases c with
    | true => exact g1.ok h1 rfl
    | false => exact ⟨α1, iσ, ih1, h1, s.ext h x1, g1⟩⟩
theorem dt_not {a : Expr} {m : MT} {pos : Pos} (ha : DT X a m) : DT X (.UnaryOp .Not a pos) (mNot m) := fun W tk =>
  PT.mono (pt_not (ha W tk)) fun σ H Q ⟨α, iσ, ih, h, s, g⟩ => ⟨α, iσ, ih, h, s, g.bind.mono fun c H1 ⟨α1, d, ih1, x1, h1, r1, g1⟩ => by
    cases r1
    exact g1.ok h1 rfl⟩
/-- .. as values: flags -/
def mAndV (a b : ME) : ME := fun σ h => (a σ h).bind fun c h => match c with
  | .bl true => b σ h
  | .bl false => .ok (.bl false) h
  | _ => .bad
def mOrV (a b : ME) : ME := fun σ h => (a σ h).bind fun c h => match c with
  | .bl true => .ok (.bl true) h
  | .bl false => b σ h
  | _ => .bad
def mNotV (a : ME) : ME := fun σ h => (a σ h).bind fun c h => match c with
  | .bl b => .ok (.bl (!b)) h
  | _ => .bad
theorem de_one {op} {a : Expr} {m : ME} {pos : Pos} (ha : DE X a m) : DE X (.BoolOp op [a] pos) m := fun W tk => pe_one (ha W tk)
theorem de_and {a b : Expr} {rest : List Expr} {m m' : ME} {pos : Pos} (ha : DE X a m) (hb : DE X (.BoolOp .And (b :: rest) pos) m') : DE X (.BoolOp .And (a :: b :: rest) pos) (mAndV m m') := fun W tk =>
  PE.mono (pe_and (ha W tk) (hb W tk)) fun σ H Q ⟨α, iσ, ih, h, s, g⟩ => ⟨α, iσ, ih, h, s, g.bind.mono fun v H1 ⟨α1, d, ih1, x1, h1, r1, g1⟩ => by
    obtain ⟨b, rfl, rfl⟩ : ∃ b, d = .bl b ∧ v = .bl b := by cases r1 <;> first | exact g1.elim | exact ⟨_, rfl, rfl⟩
    cases b with
    | true => exact ⟨_, rfl, ⟨α1, iσ, ih1, h1, s.ext h x1, g1⟩⟩
    | false => exact ⟨_, rfl, g1.ok h1 (.bl _)⟩⟩
theorem de_or {a b : Expr} {rest : List Expr} {m m' : ME} {pos : Pos} (ha : DE X a m) (hb : DE X (.BoolOp .Or (b :: rest) pos) m') : DE X (.BoolOp .Or (a :: b :: rest) pos) (mOrV m m') := fun W tk =>
  PE.mono (pe_or (ha W tk) (hb W tk)) fun σ H Q ⟨α, iσ, ih, h, s, g⟩ => ⟨α, iσ, ih, h, s, g.bind.mono fun v H1 ⟨α1, d, ih1, x1, h1, r1, g1⟩ => by
    obtain ⟨b, rfl, rfl⟩ : ∃ b, d = .bl b ∧ v = .bl b := by cases r1 <;> first | exact g1.elim | exact ⟨_, rfl, rfl⟩
    cases b with
    | true => exact ⟨_, rfl, g1.ok h1 (.bl _)⟩
    | false => exact ⟨_, rfl, ⟨α1, iσ, ih1, h1, s.ext h x1, g1⟩⟩⟩
theorem de_not {a : Expr} {m : ME} {pos : Pos} (ha : DE X a m) : DE X (.UnaryOp .Not a pos) (mNotV m) := fun W tk =>
  PE.mono (pe_not (ha W tk)) fun σ H Q ⟨α, iσ, ih, h, s, g⟩ => ⟨α, iσ, ih, h, s, g.bind.mono fun v H1 ⟨α1, d, ih1, x1, h1, r1, g1⟩ => by
    cases r1 <;> first | exact g1.elim | skip
    exact ⟨_, rfl, g1.ok h1 (.bl _)⟩⟩
/-- a if t else b -/
def mIf (t : MT) (a b : ME) : ME := fun σ h => (t σ h).bind fun c h => if c = true then a σ h else b σ h
theorem de_if {c a b : Expr} {t : MT} {ma mb : ME} {pos : Pos} (hc : DT X c t) (ha : DE X a ma) (hb : DE X b mb) : DE X (.IfExp c a b pos) (mIf t ma mb) := fun W tk =>
  PE.mono (pe_ifExp (hc W tk) (ha W tk) (hb W tk)) fun σ H Q ⟨α, iσ, ih, h, s, g⟩ => ⟨α, iσ, ih, h, s, g.bind.mono fun c H1 ⟨α1, d, ih1, x1, h1, r1, g1⟩ => by
    cases r1
    cases c with
    | true => exact ⟨α1, iσ, ih1, h1, s.ext h x1, g1⟩
    | false => exact ⟨α1, iσ, ih1, h1, s.ext h x1, g1⟩⟩
/-- two comparisons in a row -/
def mChain (g g' : Op2) (ma mb mc : ME) : ME := fun σ h => (ma σ h).bind fun x h => (mb σ h).bind fun y h => (R.opt (g h x y) h).bind fun z h => match z with
  | .bl true => (mc σ h).bind fun w h => R.opt (g' h y w) h
  | .bl false => .ok (.bl false) h
  | _ => .bad
theorem rd_chain {W : WX} {g g' : Op2} {ma mb mc : ME} (σ : L2.St) (H : Hp) (Q : VK) : rdE X W (mChain g g' ma mb mc) σ H Q →
    tChain (fun x y H Q => ∃ α dx dy ih d, RH X.K α H ih ∧ Rep X.K α H dx x ∧ Rep X.K α H dy y ∧ g ih dx dy = some d ∧ Fin1 X.K α H ih d Q)
      (fun x y H Q => ∃ α dx dy ih d, RH X.K α H ih ∧ Rep X.K α H dx x ∧ Rep X.K α H dy y ∧ g' ih dx dy = some d ∧ Fin1 X.K α H ih d Q) (rdE X W ma) (rdE X W mb) (rdE X W mc) σ H Q :=
  fun ⟨α, iσ, ih, h, s, g⟩ => ⟨α, iσ, ih, h, s, g.bind.mono fun v H1 ⟨α1, d1, ih1, x1, h1, r1, g1⟩ => ⟨α1, iσ, ih1, h1, s.ext h x1, g1.bind.mono fun v2 H2 ⟨α2, d2, ih2, x2, h2, r2, g2⟩ => by
    obtain ⟨z, e, fz⟩ := go_opt g2.bind
    refine ⟨α2, d1, d2, ih2, z, h2, r1.ext h1 x2, r2, e, fun v3 H3 x3 h3 r3 => ?_⟩
    obtain ⟨α4, d4, ih4, x4, h4, r4, g4⟩ := fz v3 H3 x3 h3 r3
    obtain ⟨b, rfl, rfl⟩ : ∃ b, d4 = .bl b ∧ v3 = .bl b := by cases r4 <;> first | exact g4.elim | exact ⟨_, rfl, rfl⟩
    refine ⟨b, rfl, ?_⟩
    cases b with
    | true =>
      rw [if_pos rfl]
      have s4 := ((s.ext h x1).ext h1 x2).ext h2 x4
      refine ⟨α4, iσ, ih4, h4, s4, g4.bind.mono fun v5 H5 ⟨α5, d5, ih5, x5, h5, r5, g5⟩ => ?_⟩
      obtain ⟨z', e', fz'⟩ := go_opt g5
      exact ⟨α5, d2, d5, ih5, z', h5, (r2.ext h2 x4).ext h4 x5, r5, e', fz'⟩
    | false => exact iteF (g4.ok h4 (.bl _))⟩⟩
theorem de_chain {op op' : CmpOp} {a b c : Expr} {g g' : Op2} {ma mb mc : ME} {pos : Pos} (ho : OpD X (compareOp op) g) (ho' : OpD X (compareOp op') g') (ha : DE X a ma) (hb : DE X b mb) (hc : DE X c mc)
    (hm : lastMarks [op, op'] [b, c] = false := by with_unfolding_all rfl) : DE X (.Compare a [op, op'] [b, c] pos) (mChain g g' ma mb mc) := fun W tk =>
  PE.mono (pe_chain ho ho' (ha W tk) (hb W tk) (hc W tk) hm) fun σ H Q q => rd_chain σ H Q q
theorem dt_chain {op op' : CmpOp} {a b c : Expr} {g g' : Op2} {ma mb mc : ME} {pos : Pos} (ho : OpD X (compareOp op) g) (ho' : OpD X (compareOp op') g') (ha : DE X a ma) (hb : DE X b mb) (hc : DE X c mc)
    (hm : lastMarks [op, op'] [b, c] = false := by with_unfolding_all rfl) : DT X (.Compare a [op, op'] [b, c] pos) (mB (mChain g g' ma mb mc)) := fun W tk =>
  PT.mono (pt_chain ho ho' (ha W tk) (hb W tk) (hc W tk) hm) fun σ H Q q => rd_chain σ H _ (rd_B σ H Q q)

/-! ### tuples, lists -/
def mTup (ms : MA) : ME := fun σ h => (ms σ h).bind fun ds h => if ds.length ≤ sizeLine then .ok (.tup ds) h else .bad
def mLst (ms : MA) : ME := fun σ h => (ms σ h).bind fun ds h => if ds.length ≤ sizeLine then .ok (.lst ds) h else .bad
/-- a list that will be changed -/
def mNew (ms : MA) : ME := fun σ h => (ms σ h).bind fun ds h => if ds.length ≤ sizeLine then .ok (.ref h.length) (h ++ [.lst ds]) else .bad
theorem de_tup {es : List Expr} {ms : MA} {x1} {pos : Pos} (ha : DA X es ms) : DE X (.Tuple es x1 pos) (mTup ms) := fun W tk =>
  PE.mono (pe_tup (ha W tk)) fun σ H Q ⟨α, iσ, ih, h, s, g⟩ => ⟨α, iσ, ih, h, s, g.bind.mono fun vs H1 ⟨α1, ds, ih1, x1, h1, r1, g1⟩ => by
    split at g1
    · next hz =>
      refine ⟨by rw [← r1.length]; exact hz, fun p n => ?_⟩
      exact Fin1.tup (fun v H' x h r => g1 _ v H' x h r) h1 r1 n
    · exact g1.elim⟩
theorem de_lst {es : List Expr} {ms : MA} {pos : Pos} (ha : DA X es ms) : DE X (.List es pos) (mLst ms) := fun W tk =>
  PE.mono (pe_lst (ha W tk)) fun σ H Q ⟨α, iσ, ih, h, s, g⟩ => ⟨α, iσ, ih, h, s, g.bind.mono fun vs H1 ⟨α1, ds, ih1, x1, h1, r1, g1⟩ => by
    split at g1
    · next hz =>
      refine ⟨by rw [← r1.length]; exact hz, fun p n => ?_⟩
      exact Fin1.lst (fun v H' x h r => g1 _ v H' x h r) h1 r1 n
    · exact g1.elim⟩
theorem de_new {es : List Expr} {ms : MA} {pos : Pos} (ha : DA X es ms) : DE X (.List es pos) (mNew ms) := fun W tk =>
  PE.mono (pe_lst (ha W tk)) fun σ H Q ⟨α, iσ, ih, h, s, g⟩ => ⟨α, iσ, ih, h, s, g.bind.mono fun vs H1 ⟨α1, ds, ih1, x1, h1, r1, g1⟩ => by
    split at g1
    · next hz =>
      refine ⟨by rw [← r1.length]; exact hz, fun p n => ?_⟩
      exact g1 (α1.add p) _ _ (Ext.live n) (h1.live n (ho := .lst vs) r1) (.ref (by unfold Al.add; rw [← h1.len, List.getElem?_append_right (Nat.le_refl _), Nat.sub_self]; rfl))
    · exact g1.elim⟩

/-! ### reading lists -/
def lstOf (h : IHp) : D → Option (List D)
  | .lst ds => some ds
  | .ref n => match h[n]? with
    | some (.lst ds) => some ds
    | none => none
  | _ => none
def tupOf : D → Option (List D)
  | .tup ds => some ds
  | _ => none
theorem lst_rep {K : PySem.W.Frag} {α : Al} {H : Hp} {ih : IHp} {d : D} {v : V} {ds : List D} (h : RH K α H ih) (r : Rep K α H d v) (e : lstOf ih d = some ds) : ∃ a vs, v = .ref a ∧ Rd H a (.lst vs) ∧ Reps K α H ds vs := by
  cases r with
  | non => cases e
  | bl c => cases e
  | int i => cases e
  | str y => cases e
  | tup q rs => cases e
  | lst q rs => cases e; exact ⟨_, _, rfl, q.1, rs⟩
  | scr q rs => cases e
  | ref ea =>
    unfold lstOf at e
    dsimp only at e
    split at e
    · next ds' eo =>
      cases e
      obtain ⟨a, ho, e1, e2, e3⟩ := h.ob _ _ eo
      rw [ea] at e1; cases e1
      obtain ⟨vs, rfl, rs⟩ := e3.lst
      exact ⟨_, vs, rfl, .inl e2, rs⟩
    · cases e
theorem tup_rep {K : PySem.W.Frag} {α : Al} {H : Hp} {d : D} {v : V} {ds : List D} (r : Rep K α H d v) (e : tupOf d = some ds) : ∃ a vs, v = .ref a ∧ SqT K H a vs ∧ Reps K α H ds vs := by
  cases r with
  | tup q rs => cases e; exact ⟨_, _, rfl, q, rs⟩
  | _ => cases e
def seqOf (h : IHp) (d : D) : Option (List D) := match d with
  | .tup ds => some ds
  | d => lstOf h d
theorem seq_rep {K : PySem.W.Frag} {α : Al} {H : Hp} {ih : IHp} {d : D} {v : V} {ds : List D} (h : RH K α H ih) (r : Rep K α H d v) (e : seqOf ih d = some ds) : ∃ a vs, v = .ref a ∧ (SqL K H a vs ∨ SqT K H a vs) ∧ Reps K α H ds vs := by
  unfold seqOf at e
  split at e
  · obtain ⟨a, vs, e1, q, rs⟩ := tup_rep r e
    exact ⟨a, vs, e1, .inr q, rs⟩
  · obtain ⟨a, vs, e1, q, rs⟩ := lst_rep h r e
    exact ⟨a, vs, e1, .inl (.inl q), rs⟩
theorem Reps.atI {K : PySem.W.Frag} {α : Al} {H : Hp} {ds : List D} {vs : List V} {i : Int} {d : D} (r : Reps K α H ds vs) (e : L2.atI ds i = some d) : ∃ v, L2.atI vs i = some v ∧ Rep K α H d v := by
  unfold L2.atI at e ⊢
  rw [r.length] at e
  cases q : ixN vs.length i with
  | none => rw [q] at e; cases e
  | some j =>
    rw [q] at e
    obtain ⟨v, e1, e2⟩ := r.get (i := j) e
    exact ⟨v, e1, e2⟩
def gIx : Op2 := fun h x y => match y with
  | .int i => (seqOf h x).bind fun ds => L2.atI ds i
  | _ => none
def IxD (X : Cx) (g : Op2) : Prop := IxR X fun x y H Q => ∃ α dx dy ih d, RH X.K α H ih ∧ Rep X.K α H dx x ∧ Rep X.K α H dy y ∧ g ih dx dy = some d ∧ Fin1 X.K α H ih d Q
theorem ix_D : IxD X gIx := fun value slice pins s σ H x y v u Q I rx ry h => by
  obtain ⟨α, dx, dy, ih, d, hh, r1, r2, e, f⟩ := h
  refine ix_seq value slice pins s σ H x y v u Q I rx ry ?_
  cases r2 <;> first | (cases e; done) | skip
  next i =>
  unfold gIx at e
  dsimp only at e
  cases es : seqOf ih dx with
  | none => rw [es] at e; cases e
  | some ds =>
    rw [es] at e
    obtain ⟨a, vs, e1, q, rs⟩ := seq_rep hh r1 es
    subst e1
    obtain ⟨z, e2, rz⟩ := rs.atI (i := i) (d := d) e
    rcases q with q | q
    · exact .inl ⟨_, _, _, z, rfl, rfl, q, e2, f.here hh rz⟩
    · exact .inr (.inl ⟨_, _, _, z, rfl, rfl, q, e2, f.here hh rz⟩)
theorem de_ix {a b : Expr} {ma mb : ME} {pos : Pos} (ha : DE X a ma) (hb : DE X b mb) (hs : PlainIx b := by intro _ _; rfl) : DE X (.Subscript a b pos) (mOp gIx ma mb) := fun W tk =>
  PE.mono (pe_ix ix_D (ha W tk) (hb W tk) hs) fun σ H Q q => rd_op (f := binaryOp .Add) σ H Q q
/-! slices -/
def cutD (xs : List D) (lo hi : Option Int) : List D := (xs.drop (HT.sIx xs.length 0 lo)).take (HT.sIx xs.length xs.length hi - HT.sIx xs.length 0 lo)
theorem Reps.cut {K : PySem.W.Frag} {α : Al} {H : Hp} {ds : List D} {vs : List V} (r : Reps K α H ds vs) (lo hi : Option Int) : Reps K α H (cutD ds lo hi) (cutV vs lo hi) := by
  unfold cutD cutV
  rw [r.length]
  exact (r.drop _).take _
abbrev MO := ISt → IHp → R (Option Int)
def mPart (m : ME) : MO := fun σ h => (m σ h).bind fun d h => match d with
  | .int i => .ok (some i) h
  | _ => .bad
def mNoPart : MO := fun _ h => .ok none h
abbrev repI : Al → Hp → Option Int → Option Int → Prop := fun _ _ b c => b = c
def rdO (X : Cx) (W : WX) (m : MO) : TO := fun σ H Q => ∃ α iσ ih, RH X.K α H ih ∧ RS X.K α H iσ σ ∧ Go X.K X.mg (fun c H' => W c none σ H') repI α H (m iσ ih) Q
def DO (X : Cx) (e : Option Expr) (m : MO) : Prop := ∀ W, Takes X W → PO X e (rdO X W m)
theorem PO.mono {e : Option Expr} {t t' : TO} (h : PO X e t) (f : ∀ σ H Q, t' σ H Q → t σ H Q) : PO X e t' := ⟨fun pins s σ H Q I q => h.run pins s σ H Q I (f σ H Q q)⟩
theorem do_none : DO X none mNoPart := fun W tk => PO.mono po_none fun σ H Q ⟨α, iσ, ih, h, s, g⟩ => g.ok h rfl
theorem do_some {e : Expr} {m : ME} (ha : DE X e m) : DO X (some e) (mPart m) := fun W tk => PO.mono (po_some (ha W tk)) fun σ H Q ⟨α, iσ, ih, h, s, g⟩ =>
  ⟨α, iσ, ih, h, s, g.bind.mono fun v H1 ⟨α1, d, ih1, x1, h1, r1, g1⟩ => by
    cases r1 <;> first | exact g1.elim | skip
    exact ⟨_, rfl, g1.ok h1 rfl⟩⟩
def gSl (h : IHp) (d : D) (lo hi : Option Int) : Option D := match d with
  | .tup ds => some (.tup (cutD ds lo hi))
  | .scr ds => some (.lst (cutD ds lo hi))
  | d => (lstOf h d).map fun ds => .lst (cutD ds lo hi)
theorem cut_whole {β : Type} (xs : List β) (lo hi : Option Int) (h : HT.sIx xs.length 0 lo = 0 ∧ HT.sIx xs.length xs.length hi = xs.length) : (xs.drop (HT.sIx xs.length 0 lo)).take (HT.sIx xs.length xs.length hi - HT.sIx xs.length 0 lo) = xs := by
  rw [h.1, h.2]
  simp
def SlD (X : Cx) : Prop := SlR X fun x lo hi H Q => ∃ α dx ih d, RH X.K α H ih ∧ Rep X.K α H dx x ∧ gSl ih dx lo hi = some d ∧ Fin1 X.K α H ih d Q
theorem sl_D : SlD X := fun pins s σ H x v vl vu lo hi sl Q I rx hs p1 p2 h => by
  obtain ⟨α, dx, ih, d, hh, r1, e, f⟩ := h
  unfold gSl at e
  split at e
  · next ds =>
    cases e
    cases r1 with
    | tup q rs =>
    refine sl_tupA pins s σ H _ v vl vu lo hi sl Q I rx hs p1 p2 ⟨_, _, rfl, q, fun w => f.here hh (.tup q ?_), fun w p n => f.tup hh (rs.cut lo hi) n⟩
    have e1 : cutD ds lo hi = ds := cut_whole ds lo hi (by rw [rs.length]; exact w)
    rw [e1]; exact rs
  · next ds =>
    cases e
    cases r1 with
    | scr q rs => exact sl_list pins s σ H _ v vl vu lo hi sl Q I rx hs p1 p2 ⟨_, _, rfl, q.seq, fun p n => f.lst hh (rs.cut lo hi) n⟩
  · cases es : lstOf ih dx with
    | none => rw [es] at e; cases e
    | some ds =>
      rw [es] at e
      cases e
      obtain ⟨a, vs, e1, q, rs⟩ := lst_rep hh r1 es
      subst e1
      exact sl_list pins s σ H _ v vl vu lo hi sl Q I rx hs p1 p2 ⟨_, _, rfl, .inl q, fun p n => f.lst hh (rs.cut lo hi) n⟩
def mSl (m : ME) (ml mu : MO) : ME := fun σ h => (m σ h).bind fun x h => (ml σ h).bind fun lo h => (mu σ h).bind fun hi h => R.opt (gSl h x lo hi) h
theorem de_slice {e : Expr} {lo hi : Option Expr} {m : ME} {ml mu : MO} {pos p2 : Pos} (he : DE X e m) (hl : DO X lo ml) (hu : DO X hi mu) : DE X (.Subscript e (.Slice lo hi none p2) pos) (mSl m ml mu) := fun W tk =>
  PE.mono (pe_slice sl_D (he W tk) (hl W tk) (hu W tk)) fun σ H Q ⟨α, iσ, ih, h, s, g⟩ => ⟨α, iσ, ih, h, s, g.bind.mono fun v H1 ⟨α1, d1, ih1, x1, h1, r1, g1⟩ =>
    ⟨α1, iσ, ih1, h1, s.ext h x1, g1.bind.mono fun v2 H2 ⟨α2, d2, ih2, x2, h2, r2, g2⟩ => ⟨α2, iσ, ih2, h2, (s.ext h x1).ext h1 x2, g2.bind.mono fun v3 H3 ⟨α3, d3, ih3, x3, h3, r3, g3⟩ => by
      cases r2
      cases r3
      obtain ⟨z, e, fz⟩ := go_opt g3
      exact ⟨α3, d1, ih3, z, h3, (r1.ext h1 x2).ext h2 x3, e, fz⟩⟩⟩⟩
end
end Dn

set_option Elab.async false
set_option linter.all false
set_option maxRecDepth 100000
set_option maxHeartbeats 4000000
namespace Dn
open PySem PySem.Spec PyProof.Rows L2

/-! ### what a statement gives -/
inductive RT where
  | nx (s : ISt) (h : IHp) | rt (d : D) (h : IHp) | bk (s : ISt) (h : IHp) | ct (s : ISt) (h : IHp) | ex (c : Str) (s : ISt) (h : IHp) | bad
abbrev MS := ISt → IHp → RT
def bindS {β : Type} (r : R β) (s : ISt) (f : β → IHp → RT) : RT := match r with
  | .ok a h => f a h
  | .ex c h => .ex c s h
  | .bad => .bad
@[simp] theorem bindS_ok {β : Type} (a : β) (h : IHp) (s : ISt) (f : β → IHp → RT) : bindS (.ok a h) s f = f a h := (rfl)
@[simp] theorem bindS_ex {β : Type} (c : Str) (h : IHp) (s : ISt) (f : β → IHp → RT) : bindS (.ex c h : R β) s f = .ex c s h := (rfl)
@[simp] theorem bindS_bad {β : Type} (s : ISt) (f : β → IHp → RT) : bindS (.bad : R β) s f = .bad := (rfl)
def GoS (K : PySem.W.Frag) (mg : Str → Option Value) (W : WX) (α : Al) (H : Hp) (r : RT) (D : Ends) : Prop :=
  match r with
  | .nx s h => ∀ α' σ' H', Ext α H α' H' → RH K α' H' h → RS K α' H' s σ' → D.nx σ' H'
  | .bk s h => ∀ α' σ' H', Ext α H α' H' → RH K α' H' h → RS K α' H' s σ' → D.bk σ' H'
  | .ct s h => ∀ α' σ' H', Ext α H α' H' → RH K α' H' h → RS K α' H' s σ' → D.ct σ' H'
  | .rt d h => ∀ α' v H', Ext α H α' H' → RH K α' H' h → Rep K α' H' d v → D.rt v H'
  | .ex c s h => ∀ C α' σ' H', mg c = some (.ref C) → Ext α H α' H' → RH K α' H' h → RS K α' H' s σ' → W (.ref C) none σ' H'
  | .bad => False
section
variable {K : PySem.W.Frag} {mg : Str → Option Value} {W : WX} {β γ : Type} {rep : Al → Hp → β → γ → Prop} {α α' : Al} {H H' : Hp} {D D' : Ends} {r : RT}
theorem GoS.ext (x : Ext α H α' H') (g : GoS K mg W α H r D) : GoS K mg W α' H' r D := by
  cases r with
  | nx s h => exact fun β σ K x' => g β σ K (x.trans x')
  | bk s h => exact fun β σ K x' => g β σ K (x.trans x')
  | ct s h => exact fun β σ K x' => g β σ K (x.trans x')
  | rt d h => exact fun β v K x' => g β v K (x.trans x')
  | ex c s h => exact fun C β σ K hc x' => g C β σ K hc (x.trans x')
  | bad => exact g
theorem GoS.bind {q : R β} {s : ISt} {σ : L2.St} {ih : IHp} {f : β → IHp → RT} (h : RH K α H ih) (hs : RS K α H s σ) (g : GoS K mg W α H (bindS q s f) D) :
    Go K mg (fun c H' => W c none σ H') rep α H q fun v H' => ∃ α' d ih', Ext α H α' H' ∧ RH K α' H' ih' ∧ rep α' H' d v ∧ GoS K mg W α' H' (f d ih') D := by
  cases q with
  | ok d ih => exact fun α' v H' x h q => ⟨α', d, ih, x, h, q, g.ext x⟩
  | ex c ih => exact fun C α' H' hc x h' => g C α' σ H' hc x h' (hs.ext h x)
  | bad => exact g
end
def rdS (X : Cx) (W : WX) (m : MS) : TS := fun D σ H => ∃ α iσ ih, RH X.K α H ih ∧ RS X.K α H iσ σ ∧ GoS X.K X.mg W α H (m iσ ih) D
theorem PS.mono {X : Cx} {e : Stmt} {t t' : TS} (h : PS X e t) (f : ∀ D σ H, t' D σ H → t D σ H) : PS X e t' := ⟨fun pins s σ H D I q => h.run pins s σ H D I (f D σ H q)⟩
theorem PSs.mono {X : Cx} {e : List Stmt} {t t' : TS} (h : PSs X e t) (f : ∀ D σ H, t' D σ H → t D σ H) : PSs X e t' := ⟨fun pins s σ H D I q => h.run pins s σ H D I (f D σ H q)⟩
theorem PI.mono {X : Cx} {tg e : Expr} {t t' : TI} (h : PI X tg e t) (f : ∀ σ H R, t' σ H R → t σ H R) : PI X tg e t' := ⟨fun pins s σ H R I q => h.run pins s σ H R I (f σ H R q)⟩
theorem PG.mono {X : Cx} {tg : Expr} {t t' : TG} (h : PG X tg t) (f : ∀ v σ H Q, t' v σ H Q → t v σ H Q) : PG X tg t' := ⟨fun pins s σ H v u Q I r q => h.run pins s σ H v u Q I r (f v σ H Q q)⟩
theorem PGs.mono {X : Cx} {tg : List Expr} {t t' : TGs} (h : PGs X tg t) (f : ∀ v σ H Q, t' v σ H Q → t v σ H Q) : PGs X tg t' := ⟨fun pins s σ H v u Q I r q => h.run pins s σ H v u Q I r (f v σ H Q q)⟩
/-- what stands behind every statement rule: no name twice, not in a suite, exceptions go up -/
structure Okx (X : Cx) : Prop where
  calm : X.calm = true
  nd : X.N.Nodup
  ps : PassesOwn (model X.prog X.w) X.A X.env X.xe
  gd : X.A.guards = some []
def DS (X : Cx) (st : Stmt) (m : MS) : Prop := ∀ W, Takes X W → PS X st (rdS X W m)
def DSs (X : Cx) (st : List Stmt) (m : MS) : Prop := ∀ W, Takes X W → PSs X st (rdS X W m)

/-! ### blocks -/
section
variable {X : Cx}
def sNx : MS := fun s h => .nx s h
def sBk : MS := fun s h => .bk s h
def sCt : MS := fun s h => .ct s h
def sSeq (a b : MS) : MS := fun s h => match a s h with
  | .nx s h => b s h
  | r => r
def sNever : MS := fun _ _ => .bad
theorem ds_never {st : Stmt} : DS X st sNever := fun W tk => PS.mono ps_never fun D σ H ⟨α, iσ, ih, h, s, g⟩ => g
theorem dss_nil : DSs X [] sNx := fun W tk => PSs.mono pss_nil fun D σ H ⟨α, iσ, ih, h, s, g⟩ => g α σ H Ext.refl h s
theorem dss_one {st : Stmt} {m : MS} (h : DS X st m) : DSs X [st] m := fun W tk => pss_one (h W tk)
theorem dss_cons {st : Stmt} {rest : List Stmt} {m m' : MS} (h1 : DS X st m) (h2 : DSs X rest m') : DSs X (st :: rest) (sSeq m m') := fun W tk =>
  PSs.mono (pss_cons (h1 W tk) (h2 W tk)) fun D σ H ⟨α, iσ, ih, h, s, g⟩ => ⟨α, iσ, ih, h, s, by
    unfold sSeq at g
    cases e : m iσ ih with
    | nx s' h' => rw [e] at g; exact fun α' σ' H' x hh ss => ⟨α', s', h', hh, ss, g.ext x⟩
    | rt d h' => rw [e] at g; exact g
    | bk s' h' => rw [e] at g; exact g
    | ct s' h' => rw [e] at g; exact g
    | ex c s' h' => rw [e] at g; exact g
    | bad => rw [e] at g; exact g⟩
theorem ds_pass {pos : Pos} : DS X (.Pass pos) sNx := fun W tk => PS.mono ps_pass fun D σ H ⟨α, iσ, ih, h, s, g⟩ => g α σ H Ext.refl h s
theorem ds_break {pos : Pos} : DS X (.Break pos) sBk := fun W tk => PS.mono ps_break fun D σ H ⟨α, iσ, ih, h, s, g⟩ => g α σ H Ext.refl h s
theorem ds_continue {pos : Pos} : DS X (.Continue pos) sCt := fun W tk => PS.mono ps_continue fun D σ H ⟨α, iσ, ih, h, s, g⟩ => g α σ H Ext.refl h s
def sExpr (m : ME) : MS := fun s h => bindS (m s h) s fun _ h => .nx s h
theorem ds_expr {e : Expr} {m : ME} {pos : Pos} (he : DE X e m) (hs : swapsWith e none pos.line X.env = pure false := by rfl) : DS X (.Expr e pos) (sExpr m) := fun W tk =>
  PS.mono (ps_expr (he W tk) hs) fun D σ H ⟨α, iσ, ih, h, s, g⟩ => ⟨α, iσ, ih, h, s, (g.bind h s).mono fun v H1 ⟨α1, d, ih1, x1, h1, r1, g1⟩ => g1 α1 σ H1 Ext.refl h1 (s.ext h x1)⟩
def sRet (m : ME) : MS := fun s h => bindS (m s h) s fun d h => .rt d h
theorem ds_ret {e : Expr} {m : ME} {pos : Pos} (he : DE X e m) : DS X (.Return (some e) pos) (sRet m) := fun W tk =>
  PS.mono (ps_ret (he W tk)) fun D σ H ⟨α, iσ, ih, h, s, g⟩ => ⟨α, iσ, ih, h, s, (g.bind h s).mono fun v H1 ⟨α1, d, ih1, x1, h1, r1, g1⟩ => g1 α1 v H1 Ext.refl h1 r1⟩
def sRetN : MS := fun _ h => .rt .non h
theorem ds_retN {pos : Pos} : DS X (.Return none pos) sRetN := fun W tk => PS.mono ps_retN fun D σ H ⟨α, iσ, ih, h, s, g⟩ => g α _ H Ext.refl h .non
def sIf (t : MT) (a b : MS) : MS := fun s h => bindS (t s h) s fun c h => if c = true then a s h else b s h
theorem ds_if {c : Expr} {a b : List Stmt} {t : MT} {ma mb : MS} {pos : Pos} (hc : DT X c t) (ha : DSs X a ma) (hb : DSs X b mb) : DS X (.If c a b pos) (sIf t ma mb) := fun W tk =>
  PS.mono (ps_if (hc W tk) (ha W tk) (hb W tk)) fun D σ H ⟨α, iσ, ih, h, s, g⟩ => ⟨α, iσ, ih, h, s, (g.bind h s).mono fun c H1 ⟨α1, d, ih1, x1, h1, r1, g1⟩ => by
    cases r1
    cases c with
    | true => exact ⟨α1, iσ, ih1, h1, s.ext h x1, g1⟩
    | false => exact ⟨α1, iσ, ih1, h1, s.ext h x1, g1⟩⟩

/-! ### targets -/
inductive Tg where
  | name (i : Nat) | tup (ts : List Tg)
mutual
def Tg.vars : Tg → List Nat
  | .name i => [i]
  | .tup ts => Tg.varss ts
def Tg.varss : List Tg → List Nat
  | [] => []
  | t :: ts => t.vars ++ Tg.varss ts
end
mutual
def Tg.set : Tg → D → ISt → Option ISt
  | .name i, d, s => some (s.set i (some d))
  | .tup ts, .tup ds, s => Tg.sets ts ds s
  | .tup _, _, _ => none
def Tg.sets : List Tg → List D → ISt → Option ISt
  | [], [], s => some s
  | t :: ts, d :: ds, s => match t.set d s with
    | some s1 => Tg.sets ts ds s1
    | none => none
  | _, _, _ => none
end
theorem Tg.sets_len : ∀ {ts : List Tg} {ds : List D} {s s' : ISt}, Tg.sets ts ds s = some s' → ds.length = ts.length
  | [], [], _, _, _ => rfl
  | t :: ts, d :: ds, s, s', e => by
    rw [Tg.sets] at e
    split at e
    · next s1 _ => rw [List.length_cons, List.length_cons, Tg.sets_len e]
    · cases e
  | [], _ :: _, _, _, e => by simp [Tg.sets] at e
  | _ :: _, [], _, _, e => by simp [Tg.sets] at e
/-- nothing but these slots changed -/
def Wp (is : List Nat) (σ σ' : L2.St) : Prop := ∀ vs : List Nat, (∀ i ∈ is, i ∈ vs) → wipe σ' vs = wipe σ vs
theorem wipe_get (σ : L2.St) : ∀ (vs : List Nat) (j : Nat), (wipe σ vs)[j]? = if j ∈ vs then (σ[j]?).map (fun _ => none) else σ[j]?
  | [], j => by simp [wipe]
  | v :: vs, j => by
    unfold wipe
    rw [List.getElem?_set, wipe_length]
    by_cases h : v = j
    · subst h
      by_cases hl : v < σ.length
      · simp [hl]
      · simp [hl, List.getElem?_eq_none (Nat.le_of_not_lt hl)]
    · rw [if_neg h, wipe_get σ vs j]
      by_cases h2 : j ∈ vs
      · simp [h2]
      · simp [h2, Ne.symm h]
theorem wipe_set {σ : L2.St} {i : Nat} {v : Option V} {vs : List Nat} (hi : i ∈ vs) : wipe (σ.set i v) vs = wipe σ vs := by
  apply List.ext_getElem?
  intro j
  rw [wipe_get, wipe_get, List.getElem?_set]
  by_cases h : i = j
  · subst h
    rw [if_pos hi, if_pos hi]
    by_cases hl : i < σ.length
    · simp [hl]
    · simp [hl]
  · simp [h]
theorem Wp.refl {is : List Nat} {σ : L2.St} : Wp is σ σ := fun _ _ => rfl
theorem Wp.set {i : Nat} {σ : L2.St} {v : Option V} : Wp [i] σ (σ.set i v) := fun _ h => wipe_set (h i (List.mem_singleton.mpr rfl))
theorem Wp.trans {a b : List Nat} {σ σ1 σ2 : L2.St} (x : Wp a σ σ1) (y : Wp b σ1 σ2) : Wp (a ++ b) σ σ2 := fun vs h =>
  (y vs fun i m => h i (List.mem_append_right _ m)).trans (x vs fun i m => h i (List.mem_append_left _ m))
def rdG (X : Cx) (t : Tg) : TG := fun v σ H Q => ∃ α d iσ ih iσ', RH X.K α H ih ∧ RS X.K α H iσ σ ∧ Rep X.K α H d v ∧ t.set d iσ = some iσ' ∧ ∀ σ', RS X.K α H iσ' σ' → Wp t.vars σ σ' → Q σ' H
def rdGs (X : Cx) (ts : List Tg) : TGs := fun vs σ H Q => ∃ α ds iσ ih iσ', RH X.K α H ih ∧ RS X.K α H iσ σ ∧ Reps X.K α H ds vs ∧ Tg.sets ts ds iσ = some iσ' ∧ ∀ σ', RS X.K α H iσ' σ' → Wp (Tg.varss ts) σ σ' → Q σ' H
def DG (X : Cx) (e : Expr) (t : Tg) : Prop := PG X e (rdG X t)
def DGs (X : Cx) (es : List Expr) (ts : List Tg) : Prop := PGs X es (rdGs X ts)
theorem dg_name (i : Nat) {x : Str} {pos : Pos} (hN : X.N.Nodup) (hi : X.N[i]? = some x := by rfl) (hx : Loc X.env.scope x := by first | exact Or.inl rfl | exact Or.inr rfl) (hf : X.fn x = true ∨ X.env.scope.names.lookup x = some .local := by first | exact .inl rfl | exact .inr rfl | assumption) : DG X (.Name x pos) (.name i) :=
  PG.mono (pg_name hN hi hx hf) fun v σ H Q ⟨α, d, iσ, ih, iσ', h, s, r, e, q⟩ => by
    rw [Tg.set] at e
    cases e
    exact q _ (s.set r) Wp.set
theorem dgs_nil : DGs X [] [] := PGs.mono pgs_nil fun vs σ H Q ⟨α, ds, iσ, ih, iσ', h, s, r, e, q⟩ => by
  cases ds with
  | nil =>
    cases r
    rw [Tg.sets] at e
    cases e
    exact ⟨rfl, q _ s Wp.refl⟩
  | cons d ds => have z := Tg.sets_len e; cases z
theorem dgs_cons {e : Expr} {es : List Expr} {t : Tg} {ts : List Tg} (h1 : DG X e t) (h2 : DGs X es ts) (hs : (assignEach (e :: es) X.env).map (·.2) = assign e X.env :: (assignEach es X.env).map (·.2) := by rfl) : DGs X (e :: es) (t :: ts) :=
  PGs.mono (pgs_cons h1 h2 hs) fun vs σ H Q ⟨α, ds, iσ, ih, iσ', h, s, r, e, q⟩ => by
    cases r with
    | nil => have z := Tg.sets_len e; cases z
    | cons r rs =>
      rw [Tg.sets] at e
      split at e
      · next s1 e1 => exact ⟨_, _, rfl, α, _, iσ, ih, s1, h, s, r, e1, fun σ1 hs1 w1 => ⟨α, _, s1, ih, iσ', h, hs1, rs, e, fun σ2 hs2 w2 => q σ2 hs2 (by rw [Tg.varss]; exact w1.trans w2)⟩⟩
      · cases e
theorem dg_tup {es : List Expr} {k : Nat} {ts : List Tg} {pos : Pos} (hc : X.calm = true) (h : DGs X es ts) (hn : (assignEach es X.env).length = ts.length := by rfl) (hst : (assignEach es X.env).findIdx? (·.1) = none := by rfl) : DG X (.Tuple es k pos) (.tup ts) :=
  PG.mono (pg_tup hc h hn hst) fun v σ H Q ⟨α, d, iσ, ih, iσ', h, s, r, e, q⟩ => by
    cases r with
    | tup q1 rs =>
      rw [Tg.set] at e
      exact ⟨_, _, rfl, q1, by rw [← rs.length]; exact Tg.sets_len e, α, _, iσ, ih, iσ', h, s, rs, e, fun σ' hs w => q σ' hs (by rw [Tg.vars]; exact w)⟩
    | _ => simp [Tg.set] at e
/-- name = e; a, b = e -/
def sAsg (m : ME) (t : Tg) : MS := fun s h => bindS (m s h) s fun d h => match t.set d s with
  | some s' => .nx s' h
  | none => .bad
theorem ds_asg {tg e : Expr} {m : ME} {t : Tg} {pos : Pos} (he : DE X e m) (hg : DG X tg t) (hs : swapsWithSole [tg] e pos.line X.env = pure false := by rfl) (hw : swappedStores [tg] e X.env = pure none := by rfl)
    (h1 : (assignEach [tg] X.env).map (·.2) = [assign tg X.env] := by rfl) : DS X (.Assign [tg] e pos) (sAsg m t) := fun W tk =>
  PS.mono (ps_asg (he W tk) hg hs hw h1) fun D σ H ⟨α, iσ, ih, h, s, g⟩ => ⟨α, iσ, ih, h, s, (g.bind h s).mono fun v H1 ⟨α1, d, ih1, x1, h1, r1, g1⟩ => by
    split at g1
    · next s' e => exact ⟨α1, d, iσ, ih1, s', h1, s.ext h x1, r1, e, fun σ' hs' _ => g1 α1 σ' H1 Ext.refl h1 hs'⟩
    · exact g1.elim⟩
def sSet (i : Nat) (m : ME) : MS := fun s h => bindS (m s h) s fun d h => .nx (s.set i (some d)) h
theorem ds_set (i : Nat) {x : Str} {e : Expr} {m : ME} {pos pos' : Pos} (hN : X.N.Nodup) (he : DE X e m) (hi : X.N[i]? = some x := by rfl) (hx : Loc X.env.scope x := by first | exact Or.inl rfl | exact Or.inr rfl) (hs : swapsWith e (some (.Name x pos')) pos.line X.env = pure false := by rfl)
    (hf : X.fn x = true ∨ X.env.scope.names.lookup x = some .local := by first | exact .inl rfl | exact .inr rfl | assumption) : DS X (.Assign [.Name x pos'] e pos) (sSet i m) := fun W tk =>
  PS.mono (ps_set hN hi hx (he W tk) hs hf) fun D σ H ⟨α, iσ, ih, h, s, g⟩ => ⟨α, iσ, ih, h, s, (g.bind h s).mono fun v H1 ⟨α1, d, ih1, x1, h1, r1, g1⟩ =>
    g1 α1 _ H1 Ext.refl h1 ((s.ext h x1).set r1)⟩
/-- a, b = x, y (both sides written): stored from the right -/
def sPar (i j : Nat) (ms : MA) : MS := fun s h => bindS (ms s h) s fun ds h => match ds with
  | [d, e] => .nx ((s.set i (some d)).set j (some e)) h
  | _ => .bad
theorem ds_par (i j : Nat) {x y : Str} {a b : Expr} {ms : MA} {px py pt pos : Pos} {kt k2 pt2} (hc : X.calm = true) (hN : X.N.Nodup) (ha : DA X [a, b] ms) (hi : X.N[i]? = some x := by rfl) (hj : X.N[j]? = some y := by rfl) (hij : i ≠ j := by decide)
    (hx : X.env.scope.names.lookup x = some .local := by rfl) (hy : X.env.scope.names.lookup y = some .local := by rfl)
    (hw : swappedStores [.Tuple [.Name x px, .Name y py] kt pt] (.Tuple [a, b] k2 pt2) X.env = pure (some [x, y]) := by rfl)
    (hs : swapsWithSole [.Tuple [.Name x px, .Name y py] kt pt] (.Tuple [a, b] k2 pt2) pos.line X.env = pure false := by rfl) :
    DS X (.Assign [.Tuple [.Name x px, .Name y py] kt pt] (.Tuple [a, b] k2 pt2) pos) (sPar i j ms) := fun W tk =>
  PS.mono (ps_par hc hN hi hj hij hx hy (ha W tk) hw hs) fun D σ H ⟨α, iσ, ih, h, s, g⟩ => ⟨α, iσ, ih, h, s, (g.bind h s).mono fun vs H1 ⟨α1, ds, ih1, x1, h1, r1, g1⟩ => by
    split at g1
    · next d e =>
      cases r1 with
      | cons q1 r1 =>
      cases r1 with
      | cons q2 r1 =>
      cases r1
      exact ⟨_, _, rfl, g1 α1 _ H1 Ext.refl h1 (((s.ext h x1).set q1).set q2)⟩
    · exact g1.elim⟩
/-- xs[i] = v, xs live -/
def gSt (h : IHp) (o i v : D) : Option IHp := match o, i with
  | .ref n, .int k => match h[n]? with
    | some (.lst ds) => (ixN ds.length k).map fun j => h.set n (.lst (ds.set j v))
    | none => none
  | _, _ => none
def sSt (m mo mi : ME) : MS := fun s h => bindS (m s h) s fun v h => bindS (mo s h) s fun o h => bindS (mi s h) s fun i h => match gSt h o i v with
  | some h' => .nx s h'
  | none => .bad
theorem ds_st {o i e : Expr} {m mo mi : ME} {pos p2 : Pos} (he : DE X e m) (ho : DE X o mo) (hi : DE X i mi)
    (ha : ∀ v, assign (.Subscript o i p2) X.env v = (do
      let ov ← holding [v] (eval o X.env)
      let iv ← holding [v, ov] (eval i X.env)
      standAt p2
      holding [v, ov, iv] (setItem ov iv v)
      release [v, ov, iv] []) := by intro _; rfl)
    (hs : swapsWithSole [.Subscript o i p2] e pos.line X.env = pure false := by rfl) (hw : swappedStores [.Subscript o i p2] e X.env = pure none := by rfl)
    (h1 : (assignEach [.Subscript o i p2] X.env).map (·.2) = [assign (.Subscript o i p2) X.env] := by rfl) : DS X (.Assign [.Subscript o i p2] e pos) (sSt m mo mi) := fun W tk =>
  PS.mono (ps_asg (he W tk) (pg_sub (ho W tk) (hi W tk) set_list ha) hs hw h1) fun D σ H ⟨α, iσ, ih, h, s, g⟩ => ⟨α, iσ, ih, h, s, (g.bind h s).mono fun v H1 ⟨α1, d, ih1, x1, h1, r1, g1⟩ =>
    ⟨α1, iσ, ih1, h1, s.ext h x1, (g1.bind h1 (s.ext h x1)).mono fun ov H2 ⟨α2, d2, ih2, x2, h2, r2, g2⟩ => ⟨α2, iσ, ih2, h2, (s.ext h x1).ext h1 x2, (g2.bind h2 ((s.ext h x1).ext h1 x2)).mono fun iv H3 ⟨α3, d3, ih3, x3, h3, r3, g3⟩ => by
      cases e : gSt ih3 d2 d3 d with
      | none => rw [e] at g3; exact g3.elim
      | some h' =>
        rw [e] at g3
        have q2 := r2.ext h2 x3
        cases q2 with
        | ref ea =>
          cases r3 with
          | int k =>
            unfold gSt at e
            dsimp only at e
            split at e
            · next ds eo =>
              cases ej : ixN ds.length k with
              | none => rw [ej] at e; cases e
              | some j =>
                rw [ej] at e
                cases e
                obtain ⟨a, ho, e1, e2, e3⟩ := h3.ob _ _ eo
                rw [ea] at e1; cases e1
                obtain ⟨vs, rfl, rs⟩ := e3.lst
                refine ⟨_, vs, k, j, rfl, rfl, e2, by rw [← rs.length]; exact ej, ?_⟩
                have hn : RepO X.K α3 H3 (.lst (ds.set j d)) (.lst (vs.set j v)) := rs.set ((r1.ext h1 x2).ext h2 x3) j
                exact g3 α3 σ _ (Ext.write ea) (h3.write ea hn) ((((s.ext h x1).ext h1 x2).ext h2 x3).ext h3 (Ext.write ea))
            · cases e
          | _ => cases e
        | _ => cases e⟩⟩⟩

/-! ### what is walked -/
abbrev It1 := List D × Option Nat
def Stable (g : It1) (h : IHp) : Prop := ∀ n, g.2 = some n → h[n]? = some (.lst g.1)
def WalkD (K : PySem.W.Frag) (α : Al) (H : Hp) (g : It1) (J : It) : Prop := ∃ G Y, Walk J g.1.length G Y ∧ (∀ α' H' ih', Ext α H α' H' → RH K α' H' ih' → Stable g ih' → G H') ∧
  ∀ i H1 x H2 α1 ih1, i < g.1.length → Ext α H α1 H1 → RH K α1 H1 ih1 → Stable g ih1 → Y i H1 x H2 → ∃ d, g.1[i]? = some d ∧ Ext α1 H1 α1 H2 ∧ RH K α1 H2 ih1 ∧ Rep K α1 H2 d x
abbrev MI := ISt → IHp → R It1
def rdI (X : Cx) (W : WX) (m : MI) : TI := fun σ H R => ∃ α iσ ih, RH X.K α H ih ∧ RS X.K α H iσ σ ∧ Go X.K X.mg (fun c H' => W c none σ H') (WalkD X.K) α H (m iσ ih) R
def DI (X : Cx) (tg e : Expr) (m : MI) : Prop := ∀ W, Takes X W → PI X tg e (rdI X W m)
def itOf (h : IHp) : D → Option It1
  | .tup ds => some (ds, none)
  | .lst ds => some (ds, none)
  | .ref n => match h[n]? with
    | some (.lst ds) => some (ds, some n)
    | none => none
  | _ => none
def mIt (m : ME) : MI := fun σ h => (m σ h).bind fun d h => R.opt (itOf h d) h
theorem walkD_tup {K : PySem.W.Frag} {α : Al} {H : Hp} {ih : IHp} {ds : List D} {a : Addr} {vs : List V} (h : RH K α H ih) (q : SqT K H a vs) (rs : Reps K α H ds vs) : WalkD K α H (ds, none) (Itt K a) := by
  refine ⟨fun H => SqT K H a vs, _, by rw [show (ds, (none : Option Nat)).1.length = vs.length from rs.length]; exact walk_tup, fun α' H' ih' x _ _ => SqT.ext h x q, fun i H1 x H2 α1 ih1 hi x1 h1 _ y => ?_⟩
  obtain ⟨e1, e2⟩ := y
  subst e1
  obtain ⟨d, e3, r⟩ := (rs.ext h x1).getV e2
  exact ⟨d, e3, Ext.refl, h1, r⟩
theorem walkD_lst {K : PySem.W.Frag} {α : Al} {H : Hp} {ih : IHp} {ds : List D} {a : Addr} {vs : List V} (h : RH K α H ih) (q : SqF α H a vs) (rs : Reps K α H ds vs) : WalkD K α H (ds, none) (Itl K a) := by
  refine ⟨fun H => SqL K H a vs, _, by rw [show (ds, (none : Option Nat)).1.length = vs.length from rs.length]; exact walk_list, fun α' H' ih' x _ _ => (q.ext x).seq, fun i H1 x H2 α1 ih1 hi x1 h1 _ y => ?_⟩
  obtain ⟨e1, e2⟩ := y
  subst e1
  obtain ⟨d, e3, r⟩ := (rs.ext h x1).getV e2
  exact ⟨d, e3, Ext.refl, h1, r⟩
theorem walkD_ref {K : PySem.W.Frag} {α : Al} {H : Hp} {ih : IHp} {ds : List D} {n : Nat} {a : Addr} (h : RH K α H ih) (ea : α.lv[n]? = some a) : WalkD K α H (ds, some n) (Itl K a) := by
  refine ⟨fun H' => ∃ vs, SqL K H' a vs ∧ vs.length = ds.length ∧ ∃ α', Reps K α' H' ds vs, fun i H x H' => H' = H ∧ ∀ xs, SqL K H a xs → xs[i]? = some x, ⟨fun i H' hi ⟨vs, q, el, _⟩ => ⟨vs, vs[i]'(by rw [el]; exact hi), q, by simp⟩, fun H' ⟨vs, q, el, _⟩ => ⟨vs, q, by rw [el]; exact Nat.le_refl _⟩, fun i H' x H2 hi ⟨vs, q, el, _⟩ y => y⟩, fun α' H' ih' x h' st => ?_, fun i H1 x H2 α1 ih1 hi x1 h1 st y => ?_⟩
  · obtain ⟨a', ho, e1, e2, e3⟩ := h'.ob _ _ (st n rfl)
    rw [prefix_get x.pre ea] at e1; cases e1
    obtain ⟨vs, rfl, rs⟩ := e3.lst
    exact ⟨vs, .inl (.inl e2), rs.length.symm, α', rs⟩
  · obtain ⟨e1, e2⟩ := y
    subst e1
    obtain ⟨a', ho, e1, e3, e4⟩ := h1.ob _ _ (st n rfl)
    rw [prefix_get x1.pre ea] at e1; cases e1
    obtain ⟨vs, rfl, rs⟩ := e4.lst
    obtain ⟨d, e5, r⟩ := rs.getV (e2 vs (.inl (.inl e3)))
    exact ⟨d, e5, Ext.refl, h1, r⟩
theorem di_seq {tg e : Expr} {m : ME} (he : DE X e m) : DI X tg e (mIt m) := fun W tk => ⟨fun pins s σ H R I q => by
  obtain ⟨α, iσ, ih, h, ss, g⟩ := q
  refine thn ((he W tk).run pins s σ H (fun x H1 => (∃ a, x = .ref a ∧ (∃ xs, SqT X.K H1 a xs) ∧ R (Itt X.K a) H1) ∨ ∃ a, x = .ref a ∧ (∃ xs, SqL X.K H1 a xs) ∧ R (Itl X.K a) H1) I ⟨α, iσ, ih, h, ss, g.bind.mono fun v H1 ⟨α1, d, ih1, x1, h1, r1, g1⟩ => ?_⟩) fun v s1 ⟨x, H1, I1, r1, q1⟩ => ?_
  · cases et : itOf ih1 d with
    | none => rw [et] at g1; exact g1.elim
    | some z =>
      rw [et] at g1
      cases r1 with
      | tup q rs => cases et; exact .inl ⟨_, rfl, ⟨_, q⟩, g1.ok h1 (walkD_tup h1 q rs)⟩
      | lst q rs => cases et; exact .inr ⟨_, rfl, ⟨_, q.seq⟩, g1.ok h1 (walkD_lst h1 q rs)⟩
      | ref ea =>
        unfold itOf at et
        dsimp only at et
        split at et
        · next ds eo =>
          cases et
          obtain ⟨a', ho, e1, e2, e3⟩ := h1.ob _ _ eo
          rw [ea] at e1; cases e1
          obtain ⟨vs, rfl, rs⟩ := e3.lst
          exact .inr ⟨_, rfl, ⟨_, .inl (.inl e2)⟩, g1.ok h1 (walkD_ref h1 ea)⟩
        · cases et
      | _ => cases et
  · rcases q1 with ⟨a, e, ⟨xs, hq⟩, q⟩ | ⟨a, e, ⟨xs, hq⟩, q⟩
    · subst e
      cases r1
      obtain ⟨its, rv, p, hz⟩ := I1.tuple hq
      refine wpAny_pyIter_tuple (show s1.heap.IsTuple a its.toArray from p) ?_
      refine ⟨s1.heap.objs.size, [s1.heap.objs.size], _, _, H1, rfl, I1.kept (t' := s1.toks) fun b o e => Heap.get?_push_of_some _ e, turn_tuple a _, ⟨_, Heap.get?_push_size _ rfl, rfl, rfl⟩, fun b hb => ?_, q⟩
      have e : b = s1.heap.objs.size := by simpa using hb
      subst e
      exact I1.fpOk (Nat.le_refl _) (I1.hok.fresh (Nat.le_refl _))
    · subst e
      cases r1
      obtain ⟨its, rv, p, hz⟩ := I1.list hq
      refine wpAny_pyIter_list p.isList ?_
      refine ⟨s1.heap.objs.size, [s1.heap.objs.size], _, _, H1, rfl, I1.kept (t' := s1.toks) fun b o e => Heap.get?_push_of_some _ e, turn_list a _, ⟨_, Heap.get?_push_size _ rfl, rfl, rfl⟩, fun b hb => ?_, q⟩
      have e : b = s1.heap.objs.size := by simpa using hb
      subst e
      exact I1.fpOk (Nat.le_refl _) (I1.hok.fresh (Nat.le_refl _))⟩
/-- range(n), range(a, b) -/
def rngD (lo : Int) (n : Nat) : List D := (List.range n).map fun i => .int (lo + (i : Nat))
theorem walkD_range {K : PySem.W.Frag} {α : Al} {H : Hp} {lo : Int} {n : Nat} : WalkD K α H (rngD lo n, none) (Itr lo n) := by
  have el : (rngD lo n, (none : Option Nat)).1.length = n := by simp [rngD]
  refine ⟨_, _, by rw [el]; exact walk_range, fun _ _ _ _ _ _ => trivial, fun i H1 x H2 α1 ih1 hi x1 h1 _ y => ?_⟩
  obtain ⟨e1, e2⟩ := y
  subst e1 e2
  rw [el] at hi
  exact ⟨.int (lo + (i : Nat)), by simp [rngD, hi], Ext.refl, h1, .int _⟩
def rng1 (ds : List D) : Option It1 := match ds with
  | [.int j] => if -(2 ^ 62) ≤ j ∧ j < 2 ^ 62 then some (rngD 0 j.toNat, none) else none
  | _ => none
def rng2 (ds : List D) : Option It1 := match ds with
  | [.int i, .int j] => if -(2 ^ 62) ≤ i ∧ i < 2 ^ 62 ∧ -(2 ^ 62) ≤ j ∧ j < 2 ^ 62 then some (rngD i (j - i).toNat, none) else none
  | _ => none
def mRng1 (ms : MA) : MI := fun σ h => (ms σ h).bind fun ds h => R.opt (rng1 ds) h
def mRng2 (ms : MA) : MI := fun σ h => (ms σ h).bind fun ds h => R.opt (rng2 ds) h
theorem di_range1 {tg a : Expr} {ms : MA} {p pos : Pos} (hg : Gl X "range") (hm : X.mg "range" = none) (ha : DA X [a] ms) (hs : starEach [a] X.env = [(false, eval a X.env)] := by rfl) : DI X tg (.Call (.Name "range" p) [a] [] pos) (mRng1 ms) := fun W tk =>
  PI.mono (pi_range1 hg hm (ha W tk) hs) fun σ H R ⟨α, iσ, ih, h, s, g⟩ => ⟨α, iσ, ih, h, s, g.bind.mono fun vs H1 ⟨α1, ds, ih1, x1, h1, r1, g1⟩ => by
    cases er : rng1 ds with
    | none => rw [er] at g1; exact g1.elim
    | some z =>
      rw [er] at g1
      unfold rng1 at er
      split at er
      · next j =>
        split at er
        · next hj =>
          cases er
          cases r1 with
          | cons q1 r1 =>
          cases r1
          cases q1
          exact ⟨j, rfl, hj.1, hj.2, g1.ok h1 walkD_range⟩
        · cases er
      · cases er⟩
theorem di_range2 {tg a b : Expr} {ms : MA} {p pos : Pos} (hg : Gl X "range") (hm : X.mg "range" = none) (ha : DA X [a, b] ms) (hs : starEach [a, b] X.env = [(false, eval a X.env), (false, eval b X.env)] := by rfl) (hs2 : starEach [b] X.env = [(false, eval b X.env)] := by rfl) : DI X tg (.Call (.Name "range" p) [a, b] [] pos) (mRng2 ms) := fun W tk =>
  PI.mono (pi_range2 hg hm (ha W tk) hs hs2) fun σ H R ⟨α, iσ, ih, h, s, g⟩ => ⟨α, iσ, ih, h, s, g.bind.mono fun vs H1 ⟨α1, ds, ih1, x1, h1, r1, g1⟩ => by
    cases er : rng2 ds with
    | none => rw [er] at g1; exact g1.elim
    | some z =>
      rw [er] at g1
      unfold rng2 at er
      split at er
      · next i j =>
        split at er
        · next hj =>
          cases er
          cases r1 with
          | cons q1 r1 =>
          cases r1 with
          | cons q2 r1 =>
          cases r1
          cases q1
          cases q2
          exact ⟨i, j, rfl, hj, g1.ok h1 walkD_range⟩
        · cases er
      · cases er⟩

/-! ### for -/
open Classical in
/-- the turns -/
noncomputable def loopD (g : It1) (t : Tg) (body : MS) : List D → MS
  | [], s, h => if Stable g h then .nx s h else .bad
  | d :: ds, s, h => if Stable g h then (match t.set d s with
      | none => .bad
      | some s1 => match body s1 h with
        | .nx s2 h2 => loopD g t body ds s2 h2
        | .ct s2 h2 => loopD g t body ds s2 h2
        | .bk s2 h2 => .nx s2 h2
        | r => r) else .bad
theorem loopD_stable {K : PySem.W.Frag} {mg : Str → Option Value} {W : WX} {α : Al} {H : Hp} {T : Ends} {g : It1} {t : Tg} {body : MS} {ds : List D} {s : ISt} {h : IHp} (q : GoS K mg W α H (loopD g t body ds s h) T) : Stable g h := by
  cases ds with
  | nil =>
    rw [loopD] at q
    split at q
    · assumption
    · exact q.elim
  | cons d ds =>
    rw [loopD] at q
    split at q
    · assumption
    · exact q.elim
noncomputable def sFor (mi : MI) (t : Tg) (body : MS) : MS := fun s h => bindS (mi s h) s fun g h => loopD g t body g.1 s h
theorem ds_for {tg iter : Expr} {body : List Stmt} {mi : MI} {t : Tg} {mb : MS} {pos : Pos} (O : Okx X) (hi : DI X tg iter mi) (hg : DG X tg t) (hb : DSs X body mb) (hs : ∀ x, foldedSetIterable iter X.env x = pure x := by intro _; rfl) : DS X (.For tg iter body [] pos) (sFor mi t mb) := fun W tk =>
  PS.mono (ps_for O.ps O.calm (hi W tk) hg (hb W tk) hs) fun D σ H ⟨α, iσ, ih, h, s, g⟩ => ⟨α, iσ, ih, h, s, (g.bind h s).mono fun J H1 ⟨α1, it, ih1, x1, h1, ⟨G, Y, wk, stab, yld⟩, g1⟩ => by
    refine for_it wk (fun i σ' H' => ∃ α' iσ' ih', Ext α1 H1 α' H' ∧ RH X.K α' H' ih' ∧ RS X.K α' H' iσ' σ' ∧ GoS X.K X.mg W α' H' (loopD it t mb (it.1.drop i) iσ' ih') D) ⟨α1, iσ, ih1, Ext.refl, h1, s.ext h x1, g1⟩ ?_ ?_ ?_
    · intro i σ' H' hi ⟨α', iσ', ih', x', h', s', g'⟩
      exact stab α' H' ih' x' h' (loopD_stable g')
    · intro i x σ' H' H'' hi ⟨α', iσ', ih', x', h', s', g'⟩ y
      have st := loopD_stable g'
      obtain ⟨d, ed, x2, h2, r2⟩ := yld i H' x H'' α' ih' hi x' h' st y
      have es : it.1.drop i = d :: it.1.drop (i + 1) := by
        rw [List.drop_eq_getElem_cons hi]
        rw [List.getElem?_eq_getElem hi] at ed
        rw [Option.some.inj ed]
      rw [es, loopD, if_pos st] at g'
      cases et : t.set d iσ' with
      | none => rw [et] at g'; exact g'.elim
      | some s1 =>
        rw [et] at g'
        dsimp only at g'
        refine ⟨α', d, iσ', ih', s1, h2, s'.ext h' x2, r2, et, fun σ2 hs2 _ => ⟨α', s1, ih', h2, hs2, ?_⟩⟩
        have x12 := x'.trans x2
        cases eb : mb s1 ih' with
        | nx s2 h2' => rw [eb] at g'; exact fun α3 σ3 H3 x3 h3 s3 => ⟨α3, s2, h2', x12.trans x3, h3, s3, g'.ext (x2.trans x3)⟩
        | ct s2 h2' => rw [eb] at g'; exact fun α3 σ3 H3 x3 h3 s3 => ⟨α3, s2, h2', x12.trans x3, h3, s3, g'.ext (x2.trans x3)⟩
        | bk s2 h2' => rw [eb] at g'; exact fun α3 σ3 H3 x3 h3 s3 => g' α3 σ3 H3 (x2.trans x3) h3 s3
        | rt d2 h2' => rw [eb] at g'; exact fun α3 v H3 x3 h3 s3 => g' α3 v H3 (x2.trans x3) h3 s3
        | ex c s2 h2' => rw [eb] at g'; exact fun C α3 σ3 H3 hc x3 h3 s3 => g' C α3 σ3 H3 hc (x2.trans x3) h3 s3
        | bad => rw [eb] at g'; exact g'.elim
    · intro σ' H' ⟨α', iσ', ih', x', h', s', g'⟩
      have st := loopD_stable g'
      rw [List.drop_length, loopD, if_pos st] at g'
      exact g' α' σ' H' Ext.refl h' s'⟩

/-! ### while -/
/-- at most n turns -/
def whileD (t : MT) (body : MS) : Nat → MS
  | 0, _, _ => .bad
  | n + 1, s, h => bindS (t s h) s fun c h => if c = true then (match body s h with
      | .nx s2 h2 => whileD t body n s2 h2
      | .ct s2 h2 => whileD t body n s2 h2
      | .bk s2 h2 => .nx s2 h2
      | r => r) else .nx s h
def sWhile (n : Nat) (t : MT) (body : MS) : MS := whileD t body n
theorem ds_while (n : Nat) {c : Expr} {body : List Stmt} {t : MT} {mb : MS} {pos : Pos} (O : Okx X) (hc : DT X c t) (hb : DSs X body mb) : DS X (.While c body [] pos) (sWhile n t mb) := fun W tk =>
  PS.mono (ps_while O.ps (hc W tk) (hb W tk)) fun D σ H ⟨α, iσ, ih, h, s, g⟩ => by
    refine ⟨fun m σ' H' => ∃ α' iσ' ih', RH X.K α' H' ih' ∧ RS X.K α' H' iσ' σ' ∧ GoS X.K X.mg W α' H' (whileD t mb m iσ' ih') D, ⟨n, α, iσ, ih, h, s, g⟩, ?_⟩
    rintro m σ' H' ⟨α', iσ', ih', h', s', g'⟩
    cases m with
    | zero => exact g'.elim
    | succ m =>
      rw [whileD] at g'
      refine ⟨α', iσ', ih', h', s', (g'.bind h' s').mono fun b H1 ⟨α1, d, ih1, x1, h1, r1, g1⟩ => ?_⟩
      cases r1
      cases b with
      | false =>
        rw [if_neg Bool.false_ne_true] at g1 ⊢
        exact g1 α1 σ' H1 Ext.refl h1 (s'.ext h' x1)
      | true =>
        rw [if_pos rfl] at g1 ⊢
        refine ⟨fun σ2 H2 => ∃ α2 iσ2 ih2, RH X.K α2 H2 ih2 ∧ RS X.K α2 H2 iσ2 σ2 ∧ GoS X.K X.mg W α2 H2 (whileD t mb m iσ2 ih2) D, fun σ2 H2 q => ⟨m, Nat.lt_succ_self m, q⟩, α1, iσ', ih1, h1, s'.ext h' x1, ?_⟩
        cases eb : mb iσ' ih1 with
        | nx s2 h2' => rw [eb] at g1; exact fun α3 σ3 H3 x3 h3 s3 => ⟨α3, s2, h2', h3, s3, g1.ext x3⟩
        | ct s2 h2' => rw [eb] at g1; exact fun α3 σ3 H3 x3 h3 s3 => ⟨α3, s2, h2', h3, s3, g1.ext x3⟩
        | bk s2 h2' => rw [eb] at g1; exact g1
        | rt d2 h2' => rw [eb] at g1; exact g1
        | ex c s2 h2' => rw [eb] at g1; exact g1
        | bad => rw [eb] at g1; exact g1.elim

/-! ### comprehensions -/
def noex {β : Type} (r : R β) : R β := match r with
  | .ex _ _ => .bad
  | r => r
abbrev W0 : WX := fun _ _ _ _ => False
def wipeD (s : ISt) : List Nat → ISt
  | [] => s
  | v :: vs => (wipeD s vs).set v none
theorem wipeD_len (s : ISt) : ∀ vs : List Nat, (wipeD s vs).length = s.length
  | [] => rfl
  | v :: vs => by unfold wipeD; rw [List.length_set, wipeD_len s vs]
theorem RS.none {K : PySem.W.Frag} {α : Al} {H : Hp} {iσ : ISt} {σ : L2.St} (s : RS K α H iσ σ) (i : Nat) : RS K α H (iσ.set i none) (σ.set i none) := by
  refine ⟨by rw [List.length_set, List.length_set, s.1], fun j e he => ?_⟩
  by_cases hj : i = j
  · subst hj
    rw [List.getElem?_set] at he
    simp at he
  · rw [List.getElem?_set_ne hj] at he ⊢
    exact s.2 j e he
theorem RS.wipe {K : PySem.W.Frag} {α : Al} {H : Hp} {iσ : ISt} {σ : L2.St} (s : RS K α H iσ σ) : ∀ vs : List Nat, RS K α H (wipeD iσ vs) (L2.wipe σ vs)
  | [] => s
  | v :: vs => by
    unfold wipeD L2.wipe
    exact (RS.wipe s vs).none v
open Classical in
noncomputable def lcD (g : It1) (t : Tg) (c : MT) (e : ME) (s0 : ISt) : List Dn.D → List Dn.D → IHp → R (List Dn.D)
  | [], acc, h => if Stable g h then .ok acc h else .bad
  | d :: ds, acc, h => if Stable g h then (match t.set d s0 with
      | none => .bad
      | some s1 => (noex (c s1 h)).bind fun b h => if b = true then (noex (e s1 h)).bind fun v h => if acc.length < sizeLine then lcD g t c e s0 ds (acc ++ [v]) h else .bad else lcD g t c e s0 ds acc h) else .bad
theorem lcD_stable {K : PySem.W.Frag} {mg : Str → Option Value} {W : Value → Hp → Prop} {α : Al} {H : Hp} {Q : V → Hp → Prop} {g : It1} {t : Tg} {c : MT} {e : ME} {s0 : ISt} {ds acc : List D} {h : IHp} {k : List D → IHp → R D} (q : Go K mg W (Rep K) α H ((lcD g t c e s0 ds acc h).bind k) Q) : Stable g h := by
  cases ds with
  | nil =>
    rw [lcD] at q
    split at q
    · assumption
    · exact q.elim
  | cons d ds =>
    rw [lcD] at q
    split at q
    · assumption
    · exact q.elim
noncomputable def mLc (mi : MI) (t : Tg) (c : MT) (e : ME) (vs : List Nat) : ME := fun s h => (mi s h).bind fun g h => (lcD g t c e (wipeD s vs) g.1 [] h).bind fun ds h => .ok (.lst ds) h
theorem go_noex {K : PySem.W.Frag} {mg : Str → Option Value} {W : Value → Hp → Prop} {β γ : Type} {rep : Al → Hp → β → γ → Prop} {α : Al} {H : Hp} {r : R β} {Q : γ → Hp → Prop} (g : Go K mg W rep α H (noex r) Q) : Go K mg (fun _ _ => False) rep α H r Q := by
  cases r with
  | ok a h => exact g
  | ex c h => exact g.elim
  | bad => exact g.elim
/-- no test -/
def mYes : MT := fun _ h => .ok true h
def DTs (X : Cx) (ifs : List Expr) (m : MT) : Prop := ∀ W, Takes X W → PTs X ifs (rdT X W m)
theorem PTs.mono {ifs : List Expr} {t t' : TT} (h : PTs X ifs t) (f : ∀ σ H Q, t' σ H Q → t σ H Q) : PTs X ifs t' := ⟨fun pins s σ H Q I q => h.run pins s σ H Q I (f σ H Q q)⟩
theorem dts_nil : DTs X [] mYes := fun W tk => PTs.mono pts_nil fun σ H Q ⟨α, iσ, ih, h, s, g⟩ => g.ok h rfl
theorem dts_one {c : Expr} {m : MT} (hc : DT X c m) : DTs X [c] m := fun W tk => pts_one (hc W tk)
theorem rd_lc {W : WX} {mi : MI} {t : Tg} {mc : MT} {me : ME} {vs : List Nat} (hv : ∀ i ∈ t.vars, i ∈ vs) {X' : Shared → Hp → Addr → List (Str × Addr) → List Addr → Cx} (hX : True) (σ : L2.St) (H : Hp) (Q : VK) :
    rdE X W (mLc mi t mc me vs) σ H Q → tLc (rdI X W mi) (rdG X t) (rdT X W0 mc) (rdE X W0 me) vs σ H Q :=
  fun ⟨α, iσ, ih, h, s, g⟩ => ⟨α, iσ, ih, h, s, g.bind.mono fun J H1 ⟨α1, it, ih1, x1, h1, ⟨G, Y, wk, stab, yld⟩, g1⟩ => fun Dd nD => by
    have hs1 : RS X.K α1 H1 iσ σ := s.ext h x1
    refine lc_it wk (fun i H' => ∃ α' ih' acc vacc, Ext α1 H1 α' H' ∧ Dd ∈ α'.hd ∧ RH X.K α' H' ih' ∧ RS X.K α' H' iσ σ ∧ H' Dd = some (.lst vacc) ∧ Reps X.K α' H' acc vacc ∧
        Go X.K X.mg (fun c H' => W c none σ H') (Rep X.K) α1 H1 ((lcD it t mc me (wipeD iσ vs) (it.1.drop i) acc ih').bind fun ds h => .ok (.lst ds) h) Q) ?_ ?_ ?_ ?_
    · exact ⟨α1.hide Dd, ih1, [], [], Ext.hide nD, List.mem_cons_self, h1.hide nD, hs1.mp (Mp.hide h1 nD), upd_same, .nil, g1⟩
    · intro i H' hi ⟨α', ih', acc, vacc, x', nd, h', s', eD, ra, g'⟩
      exact stab α' H' ih' x' h' (lcD_stable g')
    · intro i x H' H'' hi ⟨α', ih', acc, vacc, x', nd, h', s', eD, ra, g'⟩ y
      have st := lcD_stable g'
      obtain ⟨d, ed, x2, h2, r2⟩ := yld i H' x H'' α' ih' hi x' h' st y
      have es : it.1.drop i = d :: it.1.drop (i + 1) := by
        rw [List.drop_eq_getElem_cons hi]
        rw [List.getElem?_eq_getElem hi] at ed
        rw [Option.some.inj ed]
      rw [es, lcD, if_pos st] at g'
      cases et : t.set d (wipeD iσ vs) with
      | none => rw [et] at g'; exact g'.elim
      | some s1 =>
        rw [et] at g'
        dsimp only at g'
        rw [R.bind_assoc] at g'
        refine ⟨α', d, wipeD iσ vs, ih', s1, h2, ((s'.ext h' x2).wipe vs), r2, et, fun σ2 hs2 wp => ⟨?_, ?_⟩⟩
        · have e1 := wp vs hv
          have e2 : wipe (wipe σ vs) vs = wipe σ vs := by
            apply List.ext_getElem?
            intro j
            simp only [wipe_get]
            by_cases hj : j ∈ vs
            · cases σ[j]? <;> simp [hj]
            · simp [hj]
          rw [e1, e2]
        · refine ⟨α', s1, ih', h2, hs2, ?_⟩
          refine Go.mono (go_noex (Go.bind2 (rep := repB) (x'.trans x2) g')) fun b H3 ⟨α3, b', ih3, x3, h3, r3, g3⟩ => ?_
          cases r3
          have eD3 := x3.keep Dd _ ((x2.keep Dd _ eD (fun _ z => by cases z) (h'.dj Dd nd)).1) (fun _ z => by cases z) (h'.dj Dd nd)
          have m3 := x3.hs Dd (x2.hs Dd nd)
          cases b with
          | false =>
            rw [if_neg Bool.false_ne_true] at g3 ⊢
            exact ⟨α3, ih3, acc, vacc, (x'.trans x2).trans x3, m3, h3, (s'.ext h' x2).ext h2 x3, eD3.1, (ra.ext h' x2).ext h2 x3, g3⟩
          | true =>
            rw [if_pos rfl, R.bind_assoc] at g3
            rw [if_pos rfl]
            refine ⟨α3, s1, ih3, h3, hs2.ext h2 x3, Go.mono (go_noex (Go.bind2 (rep := Rep X.K) ((x'.trans x2).trans x3) g3)) fun v H4 ⟨α4, dv, ih4, x4, h4, r4, g4⟩ => ?_⟩
            have eD4 := x4.keep Dd _ eD3.1 (fun _ z => by cases z) eD3.2
            have m4 := x4.hs Dd m3
            have ra4 := ((ra.ext h' x2).ext h2 x3).ext h3 x4
            split at g4
            · next hl =>
              refine ⟨vacc, eD4.1, by rw [← ra4.length]; exact hl, ?_⟩
              have mp : Mp X.K α4 H4 α4 (upd H4 Dd (.lst (vacc ++ [v]))) := Mp.wr m4 eD4.1
              exact ⟨α4, ih4, acc ++ [dv], vacc ++ [v], (((x'.trans x2).trans x3).trans x4).wr nD, m4, h4.wr m4 eD4.1, (((s'.ext h' x2).ext h2 x3).ext h3 x4).mp mp, upd_same, (ra4.append (.one r4)).mp mp, g4⟩
            · exact g4.elim
    · intro H' ⟨α', ih', acc, vacc, x', nd, h', s', eD, ra, g'⟩
      have st := lcD_stable g'
      rw [List.drop_length, lcD, if_pos st] at g'
      exact g' (α'.bare Dd) (.ref Dd) H' (x'.bare h1 nD) h'.bare (.lst ⟨.inl eD, h'.dj Dd nd, Al.not_bare⟩ (ra.mp Mp.bare))⟩
theorem de_lc {elt tg iter : Expr} {ifs : List Expr} {scope : Scope} (own : List (Str × Nat)) {pos : Pos} {mi : MI} {t : Tg} {mc : MT} {me : ME} (hc : X.calm = true) (hN : X.N.Nodup) (hi : DI X tg iter mi) (ok : BlkOk X.N X.env.scope scope own)
    (hg : ∀ (s : Shared) (H : Hp) (C : Addr) (cl : List (Str × Addr)) (fp : List Addr), DG (X.blk s H scope (compEnvC scope cl C X.env) fp) tg t) (ht : ∀ (s : Shared) (H : Hp) (C : Addr) (cl : List (Str × Addr)) (fp : List Addr), DTs (X.blk s H scope (compEnvC scope cl C X.env) fp) ifs mc)
    (he : ∀ (s : Shared) (H : Hp) (C : Addr) (cl : List (Str × Addr)) (fp : List Addr), DE (X.blk s H scope (compEnvC scope cl C X.env) fp) elt me) (hv : ∀ i ∈ t.vars, i ∈ own.map (·.2) := by decide) (hs : ∀ x, foldedSetIterable iter X.env x = pure x := by intro _; rfl) :
    DE X (.ListComp elt [⟨tg, iter, ifs, 0⟩] scope pos) (mLc mi t mc me (own.map (·.2))) := fun W tk =>
  PE.mono (pe_lc (X := X) (own := own) (g := rdG X t) (tt := rdT X W0 mc) (te := rdE X W0 me) hc hN (hi W tk) ok (fun s H C cl fp => hg s H C cl fp) (fun s H C cl fp => ht s H C cl fp W0 takes0) (fun s H C cl fp => he s H C cl fp W0 takes0) hs) fun σ H Q q => rd_lc hv (X' := fun _ _ _ _ _ => X) True.intro σ H Q q
/-- name = [..], the name a local -/
noncomputable def sSetLc (i : Nat) (mi : MI) (t : Tg) (c : MT) (e : ME) (vs : List Nat) : MS := sSet i (mLc mi t c e vs)
theorem ds_setLc (i : Nat) {y : Str} {py : Pos} {elt tg iter : Expr} {ifs : List Expr} {scope : Scope} (own : List (Str × Nat)) {pos spos : Pos} {mi : MI} {t : Tg} {mc : MT} {me : ME} (hc : X.calm = true) (hN : X.N.Nodup) (hi : DI X tg iter mi) (ok : BlkOk X.N X.env.scope scope own)
    (hg : ∀ (s : Shared) (H : Hp) (C : Addr) (cl : List (Str × Addr)) (fp : List Addr), DG (X.blk s H scope (compEnvC scope cl C X.env) fp) tg t) (ht : ∀ (s : Shared) (H : Hp) (C : Addr) (cl : List (Str × Addr)) (fp : List Addr), DTs (X.blk s H scope (compEnvC scope cl C X.env) fp) ifs mc)
    (he : ∀ (s : Shared) (H : Hp) (C : Addr) (cl : List (Str × Addr)) (fp : List Addr), DE (X.blk s H scope (compEnvC scope cl C X.env) fp) elt me) (hsw : swapsWith (.ListComp elt [⟨tg, iter, ifs, 0⟩] scope pos) (some (.Name y py)) spos.line X.env = pure true)
    (hy : X.N[i]? = some y := by rfl) (hyl : X.env.scope.names.lookup y = some .local := by rfl) (hv : ∀ i ∈ t.vars, i ∈ own.map (·.2) := by decide) (hs : ∀ x, foldedSetIterable iter X.env x = pure x := by intro _; rfl) :
    DS X (.Assign [.Name y py] (.ListComp elt [⟨tg, iter, ifs, 0⟩] scope pos) spos) (sSetLc i mi t mc me (own.map (·.2))) := fun W tk =>
  PS.mono (ps_setLc (X := X) (own := own) (g := rdG X t) (tt := rdT X W0 mc) (te := rdE X W0 me) hc hN hy hyl hsw (hi W tk) ok (fun s H C cl fp => hg s H C cl fp) (fun s H C cl fp => ht s H C cl fp W0 takes0) (fun s H C cl fp => he s H C cl fp W0 takes0) hs)
    fun D σ H ⟨α, iσ, ih, h, s, g⟩ => rd_lc hv (X' := fun _ _ _ _ _ => X) True.intro σ H (fun x H1 => gName i x σ H1 D.nx) ⟨α, iσ, ih, h, s, (g.bind h s).mono fun v H1 ⟨α1, d, ih1, x1, h1, r1, g1⟩ => g1 α1 _ H1 Ext.refl h1 ((s.ext h x1).set r1)⟩
end
end Dn

set_option Elab.async false
set_option linter.all false
set_option maxRecDepth 100000
set_option maxHeartbeats 4000000
/-! enumerate over a tuple -/
namespace PySem
open Sem (wp)
open AutoSeq1 (wpAny_loadPart')
theorem meets_enumerate_newTup (l : Addr) (items : Array Value) (n : Nat) (dct : Option Addr) (sl : Array (Option Value)) :
    Meets (Builtin.«enumerate.__new__» ⟨[.type "enumerate", .ref l], []⟩) (fun _ R s => s.heap.get? l = some { cls := .type "tuple", dict := dct, data := .seq items n, slots := sl } ∧
      R (.ok (.ret (.ref (s.heap.push { cls := .type "tuple_iterator", data := .fields #[.ref l, .int 0 0] }).objs.size)))
        { s with heap := (s.heap.push { cls := .type "tuple_iterator", data := .fields #[.ref l, .int 0 0] }).push { cls := .type "enumerate", data := .fields #[.none, .bool false, .ref s.heap.objs.size, rawInt 0, .none, .none] } }) :=
  .of_wp fun prog w A R s h => by
    obtain ⟨hp, g, d, tk, os⟩ := s; obtain ⟨hl, h⟩ := h
    have hsub := sub_enumerate
    have hL : Heap.IsTuple (Shared.heap ⟨hp, g, d, tk, os⟩) l items := ⟨_, hl, rfl, n, rfl⟩
    wp_walk using wpAny_loadPart' hl
    refine wpAny_stack_any fun st => wpAny_pure ?_
    split
    · rename_i c _ _ _ _ _
      cases (c == Value.type "enumerate")
      · wp_walk using wpAny_loadPart' hl, wpAny_pyIter_tuple hL
        exact ⟨_, rfl, h⟩
      · wp_walk using wpAny_loadPart' hl, wpAny_pyIter_tuple hL
        exact ⟨_, rfl, h⟩
    · wp_walk using wpAny_loadPart' hl, wpAny_pyIter_tuple hL
      exact ⟨_, rfl, h⟩
section
variable {prog : Program} {w : World} {A : Around} {E : Value → Shared → Prop} {s : Shared}
theorem call_enumerate_tup {l : Addr} {items : Array Value} {Q : Value → Shared → Prop} (hL : s.heap.IsTuple l items)
    (h : ∀ h', IsEnum h' (s.heap.objs.size + 1) s.heap.objs.size 0 .none → h'.IsTupleIter s.heap.objs.size l 0 → h'.objs.size = s.heap.objs.size + 2 →
      (∀ b o, s.heap.get? b = some o → h'.get? b = some o) → Q (.ref (s.heap.objs.size + 1)) { s with heap := h' }) :
    wpAny (model prog w) A (call (.type "enumerate") [.ref l]) Q E s := by
  obtain ⟨⟨c, dct, dt, sl⟩, hl, hc, n, hd⟩ := hL
  replace hc : c = .type "tuple" := hc
  replace hd : dt = .seq items n := hd
  subst hc hd
  refine callType_new F.called_enumerate (by decide) (F.typeCall_enumerate_1 _) (F.newCall_enumerate_1 _) (fun obj => F.args_object_init_2 obj _) F.entry_enumerate_new
    (meets_enumerate_newTup l items n dct sl) ⟨hl, ?_⟩
  have hz : (s.heap.push { cls := .type "tuple_iterator", data := .fields #[.ref l, .int 0 0] }).objs.size = s.heap.objs.size + 1 := Heap.size_push ..
  show _ ∧ _
  rw [hz]
  have he : IsEnum ((s.heap.push { cls := .type "tuple_iterator", data := .fields #[.ref l, .int 0 0] }).push
      { cls := .type "enumerate", data := .fields #[.none, .bool false, .ref s.heap.objs.size, rawInt 0, .none, .none] }) (s.heap.objs.size + 1) s.heap.objs.size 0 .none := by
    have := Heap.get?_push_size (s.heap.push { cls := .type "tuple_iterator", data := .fields #[.ref l, .int 0 0] })
      (o := { cls := .type "enumerate", data := .fields #[.none, .bool false, .ref s.heap.objs.size, rawInt 0, .none, .none] }) rfl
    rw [hz] at this; exact this
  refine ⟨⟨_, he, rfl⟩, h _ he ⟨_, Heap.get?_push_of_some _ (Heap.get?_push_size _ rfl), rfl, rfl⟩ (by rw [Heap.size_push, hz]) fun b o x => Heap.get?_push_of_some _ (Heap.get?_push_of_some _ x)⟩
end
end PySem
namespace Dn
open PySem PySem.Spec PyProof.Rows L2
def Iet (K : PySem.W.Frag) (a : Addr) : It :=
  ⟨fun i H => ∃ (xs : List V) (x : V), SqT K H a xs ∧ xs[i]? = some x, fun i H v H' => ∃ T x, v = .ref T ∧ H T = none ∧ H' = upd H T (.tup [.int (i : Nat), x]) ∧ ∀ xs, SqT K H a xs → xs[i]? = some x, fun i H => ∃ xs : List V, SqT K H a xs ∧ xs.length ≤ i⟩
theorem turn_enumT {P : Program} {w : World} {K : PySem.W.Frag} {elts : List Expr} {kk : Nat} {tpos : Pos} (a e it : Addr) :
    Turn P w K (.Tuple elts kk tpos) (Iet K a) [e, it] e (fun i h => (∃ old, IsEnum h e it ((i : Nat) : Int) old) ∧ h.IsTupleIter it a i ∧ e ≠ it) where
  mem := by simp
  obj := fun i h st b hb => by
    obtain ⟨⟨old, he⟩, ⟨o, ho, hc, hd⟩, _⟩ := st
    have e' : b = e ∨ b = it := by simpa using hb
    rcases e' with z | z
    · rw [z]; exact ⟨_, he, fun v q => nomatch q⟩
    · rw [z]; exact ⟨o, ho, fun v q => by rw [hd] at q; cases q⟩
  keep := fun i h h' st k => let ⟨⟨old, he⟩, hi, hne⟩ := st; ⟨⟨old, k e (by simp) _ he⟩, hi.at fun o q => k it (by simp) o q, hne⟩
  item := by
    intro X hP hw hK hc i pins s σ H E I hf st hg
    subst hP hw hK
    obtain ⟨⟨old, he⟩, hit, hne⟩ := st
    obtain ⟨xs, x, hq, hx⟩ := hg
    obtain ⟨its, rv, p, hz⟩ := I.tuple hq
    obtain ⟨u, hu, ru⟩ := rv.get hx
    have hel : e < s.heap.objs.size := Heap.lt_size he
    have hil : it < s.heap.objs.size := by obtain ⟨_, q, _⟩ := hit; exact Heap.lt_size q
    have pT : s.heap.IsTuple a its.toArray := p
    have hae : a ≠ it := fun z => by
      obtain ⟨o, q, c, _⟩ := hit
      obtain ⟨o', q', c', _⟩ := pT
      rw [z, q] at q'; cases q'
      rw [c] at c'; exact absurd c' (by decide)
    have hae2 : e ≠ a := fun z => by
      obtain ⟨o', q', c', _⟩ := pT
      have he' : s.heap.get? e = some _ := he
      rw [z, q'] at he'
      cases he'
      exact absurd (show Value.type "enumerate" = Value.type "tuple" from c') (by decide)
    have hh : X.A.handled = none := I.ok.hd hc
    have hil' : i < its.toArray.size := by
      have := (List.getElem?_eq_some_iff.mp hu).1
      simpa using this
    refine wpAny_pyNext_enum_itemD (Draws.tuple (A := X.A.in1) hh it a hae its.toArray) he ⟨hit, pT⟩ hil' hne (by simp [hne, hae2]) fun x' h' tk' hx' ho hst hT hsz hk => ?_
    have ex : x' = u := by
      have : (its.toArray)[i]? = some u := by simpa using hu
      rw [hx'] at this
      exact Option.some.inj this
    subst ex
    refine ⟨_, rfl, wpAny_letOwnedTupleGo_enum (s := { s with heap := h', toks := tk' + 1 }) ho fun h'' he' sb => ?_⟩
    have hT2 : h''.get? s.heap.objs.size = some { cls := .type "tuple", data := .seq #[.int i tk', x'] } := (sb.2 _ (Nat.ne_of_gt hel)).trans hT
    have new : ObjOk X.prog X.w (upd H s.heap.objs.size (.tup [.int (i : Nat), x])) h'' s.heap.objs.size (.tup [.int (i : Nat), x]) :=
      ⟨by show 2 ≤ sizeLine; decide, [.int i tk', x'], .cons ⟨_, rfl⟩ (.cons ru .nil), ⟨_, hT2, rfl, _, rfl⟩⟩
    have I1 : L2.Inv X pins σ (upd H s.heap.objs.size (.tup [.int (i : Nat), x])) { s with heap := h'', toks := tk' + 1 } :=
      I.turnedNew (ch := [e, it]) (fun b ob hb q => (sb.2 b (fun z => hb (by simp [z]))).trans (hk b ob (fun z => hb (by simp [z])) (fun z => hb (by simp [z])) q)) hf (Nat.le_refl _) new
    refine ⟨.ref s.heap.objs.size, _, I1, rfl, ⟨_, x, rfl, I.hok.fresh (Nat.le_refl _), rfl, fun ys hy => by rw [I.tuple_inj hy hq]; exact hx⟩, ⟨⟨x', ?_⟩, hst.1.at fun o q => (sb.2 it (Ne.symm hne)).trans q, hne⟩, fun b hb => ?_⟩
    · have e1 : ((i + 1 : Nat) : Int) = (i : Int) + 1 := by omega
      rw [e1]; exact he'
    · have hb' : b < s.heap.objs.size := by
        have e' : b = e ∨ b = it := by simpa using hb
        rcases e' with z | z
        · rw [z]; exact hel
        · rw [z]; exact hil
      rw [upd_ne (Nat.ne_of_lt hb')]
      exact (hf b hb).1
  done := by
    intro X hP hw hK hc i pins s σ H E I hf st hg
    subst hP hw hK
    obtain ⟨⟨old, he⟩, hit, hne⟩ := st
    obtain ⟨xs, hq, hx⟩ := hg
    obtain ⟨its, rv, p, hz⟩ := I.tuple hq
    obtain ⟨f0, f1, f2, f3, f4, f5⟩ := hf it (by simp)
    have hl := rv.length
    have hh : X.A.handled = none := I.ok.hd hc
    have pT : s.heap.IsTuple a its.toArray := p
    have hT : s.TypeIs (.ref e) "enumerate" := ⟨_, he, rfl⟩
    unfold pyNext
    refine wpAny_bind (wpAny_attempt (wpAny_callSpecial?_slot (name := Str.ofString "__next__") hT F.slot_enumerate_next
      (wpAny_call_entry F.slot_enumerate_next hT F.entry_enumerate_next ?_ (F.args_enumerate_next_1 _))))
    show wpAny _ _ (field (.ref e) 2 >>= _) _ _ _
    refine wpAny_bind (wpAny_field he rfl (x := .ref it) rfl ?_)
    refine wpAny_bind (wpAny_nextOf_tuple_end (A := X.A.in1) hh hit pT (by simp; omega) fun h' x he' hx' => ?_)
    obtain ⟨o, ho, hcc⟩ := hx'
    refine wpAny_bind (wpAny_isInstance (T := "StopIteration") (b := true) ⟨o, ho, hcc⟩ isSubtype_stop ?_)
    exact wpAny_pure ⟨rfl, I.turned (t' := s.toks) (fun b o hb q => he' b o hb q) f0 f1 f3 f4 f5⟩
  self := fun A i s Q E st h => let ⟨⟨_, he⟩, _⟩ := st; wpAny_pyIter_enum he h
/-! ### enumerate of what there is -/
def enumD (ds : List D) : List D := (List.range ds.length).zipWith (fun i d => .tup [.int (i : Nat), d]) ds
theorem enumD_get {ds : List D} {i : Nat} {d : D} (h : ds[i]? = some d) : (enumD ds)[i]? = some (.tup [.int (i : Nat), d]) := by
  obtain ⟨hi, e⟩ := List.getElem?_eq_some_iff.mp h
  simp [enumD, hi, e]
theorem enumD_len (ds : List D) : (enumD ds).length = ds.length := by simp [enumD]
section
variable {X : Cx}
theorem walkD_enumT {K : PySem.W.Frag} {α : Al} {H : Hp} {ih : IHp} {ds : List D} {a : Addr} {vs : List V} (h : RH K α H ih) (q : SqT K H a vs) (rs : Reps K α H ds vs) : WalkD K α H (enumD ds, none) (Iet K a) := by
  have el : (enumD ds, (none : Option Nat)).1.length = vs.length := by show (enumD ds).length = _; rw [enumD_len, rs.length]
  refine ⟨fun H => SqT K H a vs, fun i H v H' => ∃ T x, v = .ref T ∧ H T = none ∧ H' = upd H T (.tup [.int (i : Nat), x]) ∧ vs[i]? = some x,
    ⟨fun i H hi q => ⟨vs, vs[i]'(by rw [← el]; exact hi), q, by simp⟩, fun H q => ⟨vs, q, by rw [el]; exact Nat.le_refl _⟩, fun i H x H' hi q ⟨T, y, e1, e2, e3, e4⟩ => ⟨T, y, e1, e2, e3, e4 vs q⟩⟩, fun α' H' ih' x _ _ => SqT.ext h x q, fun i H1 x H2 α1 ih1 hi x1 h1 _ y => ?_⟩
  obtain ⟨T, y, e1, e2, e3, e4⟩ := y
  subst e1 e3
  obtain ⟨d, e5, r⟩ := (rs.ext h x1).getV e4
  exact ⟨_, enumD_get e5, Ext.new e2, h1.new e2, .tup (.inl (.inl upd_same)) (.cons (.int _) (.one (r.ext h1 (Ext.new e2))))⟩
theorem walkD_enumL {K : PySem.W.Frag} {α : Al} {H : Hp} {ih : IHp} {ds : List D} {a : Addr} {vs : List V} (h : RH K α H ih) (q : SqF α H a vs) (rs : Reps K α H ds vs) : WalkD K α H (enumD ds, none) (Ite K a) := by
  have el : (enumD ds, (none : Option Nat)).1.length = vs.length := by show (enumD ds).length = _; rw [enumD_len, rs.length]
  refine ⟨fun H => SqL K H a vs, fun i H v H' => ∃ T x, v = .ref T ∧ H T = none ∧ H' = upd H T (.tup [.int (i : Nat), x]) ∧ vs[i]? = some x,
    ⟨fun i H hi q => ⟨vs, vs[i]'(by rw [← el]; exact hi), q, by simp⟩, fun H q => ⟨vs, q, by rw [el]; exact Nat.le_refl _⟩, fun i H x H' hi q ⟨T, y, e1, e2, e3, e4⟩ => ⟨T, y, e1, e2, e3, e4 vs q⟩⟩, fun α' H' ih' x _ _ => (q.ext x).seq, fun i H1 x H2 α1 ih1 hi x1 h1 _ y => ?_⟩
  obtain ⟨T, y, e1, e2, e3, e4⟩ := y
  subst e1 e3
  obtain ⟨d, e5, r⟩ := (rs.ext h x1).getV e4
  exact ⟨_, enumD_get e5, Ext.new e2, h1.new e2, .tup (.inl (.inl upd_same)) (.cons (.int _) (.one (r.ext h1 (Ext.new e2))))⟩
def enumOf (ds : List D) : Option It1 := match ds with
  | [.tup ds] => some (enumD ds, none)
  | [.lst ds] => some (enumD ds, none)
  | _ => none
def mEnum (ms : MA) : MI := fun σ h => (ms σ h).bind fun ds h => R.opt (enumOf ds) h
theorem di_enum {e : Expr} {ms : MA} {p pos tpos : Pos} {elts : List Expr} {kk : Nat} (hg : Gl X "enumerate") (hm : X.mg "enumerate" = none) (ha : DA X [e] ms) (hs : starEach [e] X.env = [(false, eval e X.env)] := by rfl) :
    DI X (.Tuple elts kk tpos) (.Call (.Name "enumerate" p) [e] [] pos) (mEnum ms) := fun W tk => ⟨fun pins s σ H R I ⟨α, iσ, ih, h, ss, g⟩ => by
  refine Call_ (ld_blt I hg hm boot_enumerate (PyProof.Rows.callWith_type1 (thn ((ha W tk).run pos pins s σ H (fun vs H1 => (∃ a xs, vs = [.ref a] ∧ SqT X.K H1 a xs ∧ R (Iet X.K a) H1) ∨ ∃ a xs, vs = [.ref a] ∧ SqL X.K H1 a xs ∧ R (Ite X.K a) H1) I ⟨α, iσ, ih, h, ss, g.bind.mono fun vs H1 ⟨α1, ds, ih1, x1, h1, r1, g1⟩ => ?_⟩) fun us s1 ⟨vs, H1, I1, r1, q1⟩ => ?_) hs rfl))
  · cases ee : enumOf ds with
    | none => rw [ee] at g1; exact g1.elim
    | some z =>
      rw [ee] at g1
      unfold enumOf at ee
      split at ee
      · cases ee
        cases r1 with
        | cons q1 r1 =>
        cases r1
        cases q1 with
        | tup q rs => exact .inl ⟨_, _, rfl, q, g1.ok h1 (walkD_enumT h1 q rs)⟩
      · cases ee
        cases r1 with
        | cons q1 r1 =>
        cases r1
        cases q1 with
        | lst q rs => exact .inr ⟨_, _, rfl, q.seq, g1.ok h1 (walkD_enumL h1 q rs)⟩
      · cases ee
  · rcases q1 with ⟨a, xs, ex, hq, q⟩ | ⟨a, xs, ex, hq, q⟩
    · subst ex
      cases r1 with
      | cons r rr =>
        cases rr
        cases r
        obtain ⟨its, rv, p', hz⟩ := I1.tuple hq
        refine call_enumerate_tup (show s1.heap.IsTuple a its.toArray from p') fun h' he hit hsz hk => wpAny_pyIter_enum he ?_
        have I2 : L2.Inv X pins σ H1 { s1 with heap := h' } := I1.kept (t' := s1.toks) hk
        refine ⟨s1.heap.objs.size + 1, [s1.heap.objs.size + 1, s1.heap.objs.size], _, _, H1, rfl, I2, turn_enumT a (s1.heap.objs.size + 1) s1.heap.objs.size, ⟨⟨.none, he⟩, hit, Nat.succ_ne_self _⟩, fun b hb => ?_, q⟩
        have e' : b = s1.heap.objs.size + 1 ∨ b = s1.heap.objs.size := by simpa using hb
        have hle : s1.heap.objs.size ≤ b := by
          rcases e' with z | z
          · rw [z]; exact Nat.le_add_right _ _
          · rw [z]; exact Nat.le_refl _
        exact I1.fpOk hle (I1.hok.fresh hle)
    · subst ex
      cases r1 with
      | cons r rr =>
        cases rr
        cases r
        obtain ⟨its, rv, p', hz⟩ := I1.list hq
        refine call_enumerate_list p'.isList fun h' he hit hsz hk => wpAny_pyIter_enum he ?_
        have I2 : L2.Inv X pins σ H1 { s1 with heap := h' } := I1.kept (t' := s1.toks) hk
        refine ⟨s1.heap.objs.size + 1, [s1.heap.objs.size + 1, s1.heap.objs.size], _, _, H1, rfl, I2, turn_enum a (s1.heap.objs.size + 1) s1.heap.objs.size, ⟨⟨.none, he⟩, hit, Nat.succ_ne_self _⟩, fun b hb => ?_, q⟩
        have e' : b = s1.heap.objs.size + 1 ∨ b = s1.heap.objs.size := by simpa using hb
        have hle : s1.heap.objs.size ≤ b := by
          rcases e' with z | z
          · rw [z]; exact Nat.le_add_right _ _
          · rw [z]; exact Nat.le_refl _
        exact I1.fpOk hle (I1.hok.fresh hle)⟩
end
end Dn

set_option Elab.async false
set_option linter.all false
set_option maxRecDepth 100000
set_option maxHeartbeats 4000000
/-! defs that run where no repr is under way -/
namespace Dn
open PySem PySem.Spec PyProof.Rows L2
/-- the def at f keeps sp wherever nothing is being shown -/
structure FnG (P : Program) (w : World) (K : PySem.W.Frag) (mg : Str → Option Value) (base : Heap) (k : Nat) (f : Addr) (fd : FuncData) (ps : List Str) (sp : Sp) : Prop where
  len : ∀ vs H Q E, sp vs H Q E → vs.length = ps.length
  go : ∀ (A : Around) (outer : List Env) (s : Shared) (H : Hp) (args : Args) (us : List Value) (vs : List V) (Q : VK) (E : XK), A.guards = some [] → Room k A → Env0 P w K mg base A outer s H →
    BindsTo s fd args (ps.zip us) → Vals vs us → sp vs H Q E → codeAny (model P w) A (.call (.ref f) args) (CR (L2.CX P w) outer P w H s Q E) s
section
variable {P : Program} {w : World} {K : PySem.W.Frag} {mg : Str → Option Value} {base : Heap} {k : Nat} {f : Addr} {fd : FuncData} {ps : List Str} {sp : Sp}
theorem FnG.mono {j : Nat} (F : FnG P w K mg base j f fd ps sp) (h : j ≤ k) : FnG P w K mg base k f fd ps sp :=
  ⟨F.len, fun A outer s H args us vs Q E hg hr => F.go A outer s H args us vs Q E hg (hr.mono h)⟩
theorem FnG.imp {sp' : Sp} (F : FnG P w K mg base k f fd ps sp) (h : ∀ vs H Q E, sp' vs H Q E → sp vs H Q E) : FnG P w K mg base k f fd ps sp' :=
  ⟨fun vs H Q E q => F.len vs H Q E (h _ _ _ _ q), fun A outer s H args us vs Q E hg hr he hb hv hs => F.go A outer s H args us vs Q E hg hr he hb hv (h _ _ _ _ hs)⟩
/-- by its body -/
theorem FnG.of_body {x qual : Str} {st : Stmt} {N : List Str} (F : Fun K x qual st f fd) (S : FnScope N ps (defScope st)) (len : ∀ vs H Q E, sp vs H Q E → vs.length = ps.length)
    (body : ∀ (cdv : Value) (A : Around) (outer : List Env) (s : Shared) (H : Hp) (vs : List V) (Q : VK) (E : XK), A.guards = some [] → Room k (A.deeper (envOfC qual (defScope st) s.heap.objs.size f cdv)) → sp vs H Q E →
      ∃ t, PSs (cxOf (L2.CX P w) P w K mg base N qual (defScope st) f cdv A outer s H E) (defBody st) t ∧ t { nx := fun _ H' => Q .non H', rt := Q } (L2.start N vs) H) : FnG P w K mg base (k + 1) f fd ps sp := by
  obtain ⟨oc, od, kV, doc, pm, an, cdv, ct, osl, rfl, lk, hcd⟩ := F.ex
  refine ⟨len, fun A outer s H args us vs Q E hg hr e0 hb r hsp => ?_⟩
  have KX : K.In s.heap := e0.mod.kin.keeps fun b o e => (e0.bs b o e).1
  have lim : s.heap.NoLimit := e0.mod.nolimit.keeps fun b o e => (e0.bs b o e).1
  have kd : ∀ y ∈ ps.zip us, (defScope st).names.lookup y.1 = some .local ∨ ((defScope st).names.lookup y.1 = some .cell ∧ ((cellsFrom (s.heap.objs.size + 1) (defScope st).names []).lookup y.1).isSome = true) := by
    rintro ⟨n, v⟩ hy
    exact (S.par n (List.of_mem_zip hy).1).elim .inl fun q => .inr ⟨q, PySem.W.cellsFrom_some _ _ _ (.inl q)⟩
  refine codeAny_call_function hr.depth (KX _ _ lk) rfl S.co S.gen rfl (PySem.W.codeRec_of KX hcd) (hb _ _ _ _ (wpAny_newFunctionEnv_cells S.kind kd fun env he s1 x => ?_))
  subst he
  obtain ⟨t, ht, hq⟩ := body cdv A outer s H vs Q E hg (hr.deeper _) hsp
  refine ⟨lim.keeps x.toInCall.keep, codeAny_func (wpAny_mono (ht.run [] s1 (L2.start N vs) H _ (inv_start S hr.hd e0 (len _ _ _ _ hsp) r x) hq) (fun fl s' hs => ?_) fun e s' hs => hs)⟩
  cases fl with
  | ret u => exact let ⟨v, σ', H', J, rv, q⟩ := hs; ⟨v, H', J.os, J.bare, J.base, J.hok, rv, q⟩
  | next => exact let ⟨σ', H', J, q⟩ := hs; ⟨.non, H', J.os, J.bare, J.base, J.hok, rfl, q⟩
  | brk => exact let ⟨_, _, _, q⟩ := hs; False.elim q
  | cont => exact let ⟨_, _, _, q⟩ := hs; False.elim q
end
section
variable {X : Cx} {k : Nat} {f : Addr} {fd : FuncData} {ps : List Str} {sp : Sp} {E : L2.St → XK} {x : Str} {p pos : Pos} {e : Expr} {es : List Expr} {t : TA}
theorem FnG.run {pins : List (Addr × Obj)} {σ : L2.St} {H : Hp} {s : Shared} {Q : VK} {us : List Value} {vs : List V} (F : FnG X.prog X.w X.K X.mg X.base k f fd ps sp) (gd : X.A.guards = some []) (hr : Room k X.A) (hb : Binds X.K fd ps []) (hx : PassesAt (L2.CX X.prog X.w) X σ (E σ))
    (I : L2.Inv X pins σ H s) (r : Vals vs us) (h : sp vs H Q (E σ)) : wpAny (model X.prog X.w) X.A (call (.ref f) us) (EP X pins σ Q) X.xe s := by
  have b := hb s us I.kIn (by rw [List.append_nil, ← r.length]; exact F.len _ _ _ _ h)
  rw [List.append_nil] at b
  refine wpAny_call (codeAny_mono (F.go X.A X.stack s H ⟨us, []⟩ us vs Q (E σ) gd hr I.env0 b r h) fun r s' hq => ?_)
  rcases r with e | (_ | _ | _ | _)
  · exact hx pins H s e s' I hq
  all_goals first | exact I.after hq | exact False.elim hq
theorem FnG.pe (F : FnG X.prog X.w X.K X.mg X.base k f fd ps sp) (gd : X.A.guards = some []) (hr : Room k X.A) (hg : Gl X x) (hm : X.mg x = some (.ref f)) (hk : PySem.W.keepIn X.K (.ref f) = true) (hb : Binds X.K fd ps []) (hx : ∀ σ, PassesAt (L2.CX X.prog X.w) X σ (E σ))
    (ha : PA X (e :: es) t) (hdb : (x == ("__debug__" : Str)) = false) (he : starEach (e :: es) X.env = (false, eval e X.env) :: starEach es X.env) (hpl : (backTo pos (starEach es X.env)).any (·.1) = false) :
    PE X (.Call (.Name x p) (e :: es) [] pos) (tCallS sp E t) := ⟨fun pins s σ H Q I h => wpAny_Call_Name_kw (ld_glob I hg hm
  (PySem.W.callWith_K (h₀ := X.base) I.ok.mod.kin hk (thn (ha.run pos pins s σ H _ I h) fun us s1 ⟨vs, H1, I1, r, q⟩ => ⟨I1.kIn, F.run gd hr hb (hx σ) I1 r q⟩) he hpl) hdb)⟩
end

/-! ### the law's own call -/
/-- what the law's def must keep: called with the script it gives True -/
def LawSp (K : PySem.W.Frag) (n : Nat) (sp : Sp) : Prop := ∀ (H : Hp) (a : Addr) (ns : List Int), ns.length ≤ n → Only H → SqL K H a (ns.map V.int) → sp [.ref a] H (fun v _ => v = .bl true) fun _ _ _ => False
theorem FnG.law_at {P : Program} {w : World} {K : PySem.W.Frag} {mg mb : Str → Option Value} {k n : Nat} {fa a : Addr} {fd : FuncData} {x : Str} {sp : Sp} {s₁ : Shared} {vs : List Value} {ns : List Int}
    (KX : K.In s₁.heap) (hns : s₁.heap.Ns mainGlobals mg) (hb : s₁.heap.Ns builtinsNs mb) (hbb : ∀ x : Str, x ≠ "__name__" → mb x = bootBuiltins x) (hlim : s₁.heap.NoLimit) (hg : s₁.gens = #[])
    (ha : s₁.heap.get? a = some { cls := .type "list", data := .seq vs.toArray }) (hi : IntsAre vs ns) (hn : ns.length ≤ n) (hz : n ≤ sizeLine) (hr : Room k callerA)
    (F : ∀ base : Heap, K.In base → base.Ns mainGlobals mg → FnG P w K mg base k fa fd [x] sp) (hbind : ∀ (s : Shared) (u : Value), BindsTo s fd ⟨[u], []⟩ [(x, u)]) (hsp : LawSp K n sp) (H : Hp) (hO : Only H) (hS : SqL K H a (ns.map V.int)) (hok : HOk P w H s₁.heap)
    (hA : ∀ b, H b ≠ none → b = a) (hK : H a ≠ none → K.lookup a = none) :
    codeAny (model P w) callerA (.call (.ref fa) ⟨[.ref a], []⟩) (fun r s' => r = .ok (.ret (.bool true)) ∧ OldK s₁.heap s'.heap ∧ s'.os = s₁.os ∧ AllBare s'.gens) s₁ := by
  have at_a : ∀ {b : Addr} {u : HO}, H b = some u → b = a := fun {b u} q => hA b (by rw [q]; exact fun z => nomatch z)
  have nsK : ∀ {b : Addr} {m : Str → Option Value}, s₁.heap.Ns b m → (hidT s₁.heap H).Ns b m := fun {b m} ⟨o, es, ep, e, d, r⟩ => ⟨o, es, ep, hidT_get e (by
    cases q : H b with
    | none => rfl
    | some u =>
      rw [at_a q, ha] at e
      cases e
      exact nomatch (show Data.seq vs.toArray _ = Data.dict es ep from d)), d, r⟩
  have hKb : K.In (hidT s₁.heap H) := fun b o e => hidT_get (KX b o e) (by
    cases q : H b with
    | none => rfl
    | some u =>
      have z := at_a q
      subst z
      rw [hK (by rw [q]; exact fun z => nomatch z)] at e
      cases e)
  have hM : Mod K mg (hidT s₁.heap H) := ⟨hKb, nsK hns, ⟨mb, nsK hb, hbb⟩, let ⟨mc, h1, h2⟩ := hlim; ⟨mc, nsK h1, h2⟩⟩
  have nil_no : ∀ b : Addr, b ∉ frs ([] : List Env) := fun b hb => by
    have z : b ∈ ([] : List Addr) := hb
    cases z
  have e0 : Env0 P w K mg (hidT s₁.heap H) callerA [] s₁ H := ⟨rfl, hM, fun b o e => of_hidT e, Nat.le_of_eq (hidT_size _ _), trivial, fun b hb => absurd hb (nil_no b), hok, .of_eq hg⟩
  refine codeAny_mono ((F _ hKb (nsK hns)).go callerA [] s₁ H ⟨[.ref a], []⟩ [.ref a] [.ref a] _ _ rfl hr e0 (hbind s₁ (.ref a)) (.cons rfl .nil) (hsp H a ns hn hO hS)) fun r s' h => ?_
  rcases r with e | (_ | _ | _ | _)
  · obtain ⟨_, _, _, _, _, _, _, _, _, _, _, _, z⟩ := (show L2.CX P w [] H s₁ _ e s' from h)
    exact z.elim
  case ok.ret u =>
    obtain ⟨v, H', os, bare, un, hok', r', q⟩ := h
    have q' : v = .bl true := q
    subst q'
    have ru : u = Value.bool true := r'
    subst ru
    refine ⟨rfl, OldK.of_keep fun b o e => ?_, os, bare⟩
    cases q : H b with
    | none => exact un.keep b o e q (nil_no b) List.not_mem_nil
    | some u =>
      rcases hO b with z | ⟨ob, xs, z⟩
      · rw [q] at z; cases z
      · have e1 := (hok b _ z).1
        have e2 := (hok' b _ (un.frzs b ob _ z)).1
        rw [e] at e1
        cases e1
        exact e2
  all_goals exact False.elim h
theorem FnG.law_call {P : Program} {w : World} {K : PySem.W.Frag} {mg mb : Str → Option Value} {k n : Nat} {fa a : Addr} {fd : FuncData} {x : Str} {sp : Sp} {s₁ : Shared} {vs : List Value} {ns : List Int}
    (KX : K.In s₁.heap) (hns : s₁.heap.Ns mainGlobals mg) (hb : s₁.heap.Ns builtinsNs mb) (hbb : ∀ x : Str, x ≠ "__name__" → mb x = bootBuiltins x) (hlim : s₁.heap.NoLimit) (hg : s₁.gens = #[])
    (ha : s₁.heap.get? a = some { cls := .type "list", data := .seq vs.toArray }) (hi : IntsAre vs ns) (hn : ns.length ≤ n) (hz : n ≤ sizeLine) (hr : Room k callerA)
    (F : ∀ base : Heap, K.In base → base.Ns mainGlobals mg → FnG P w K mg base k fa fd [x] sp) (hbind : ∀ (s : Shared) (u : Value), BindsTo s fd ⟨[u], []⟩ [(x, u)]) (hsp : LawSp K n sp) :
    codeAny (model P w) callerA (.call (.ref fa) ⟨[.ref a], []⟩) (fun r s' => r = .ok (.ret (.bool true)) ∧ OldK s₁.heap s'.heap ∧ s'.os = s₁.os ∧ AllBare s'.gens) s₁ := by
  have rv := vals_ints hi
  have lz : ns.length ≤ sizeLine := Nat.le_trans hn hz
  have core := FnG.law_at (P := P) (w := w) KX hns hb hbb hlim hg ha hi hn hz hr F hbind hsp
  cases hk : K.lookup a with
  | some o =>
    have e := KX a o hk
    rw [ha] at e
    cases e
    exact core (fun _ => none) (fun _ => .inl rfl) (.inr ⟨_, vs.toArray, _, hk, rfl, rfl, rfl, by rw [List.size_toArray, hi.length]; exact lz, by simpa using rv⟩) (fun b u z => nomatch (show (none : Option HO) = some u from z)) (fun b z => absurd rfl z) fun z => absurd rfl z
  | none =>
    have at1 : ∀ b, b = a → (fun b => if b = a then some (HO.frz { cls := .type "list", data := .seq vs.toArray } (.lst (ns.map V.int))) else none) b = some (HO.frz { cls := .type "list", data := .seq vs.toArray } (.lst (ns.map V.int))) := fun b hb => if_pos hb
    have at2 : ∀ b, b ≠ a → (fun b => if b = a then some (HO.frz { cls := .type "list", data := .seq vs.toArray } (.lst (ns.map V.int))) else none) b = none := fun b hb => if_neg hb
    refine core (fun b => if b = a then some (.frz { cls := .type "list", data := .seq vs.toArray } (.lst (ns.map V.int))) else none) (fun b => ?_) (.inl (.inr ⟨_, at1 a rfl⟩)) (fun b u z => ?_) (fun b z => Classical.byContradiction fun hb => z (at2 b hb)) fun _ => hk
    · exact (Classical.em (b = a)).elim (fun hb => .inr ⟨_, _, at1 b hb⟩) fun hb => .inl (at2 b hb)
    · by_cases hb : b = a
      · have z' := (at1 b hb).symm.trans z
        cases z'
        subst hb
        exact ⟨ha, by rw [List.length_map]; exact lz, vs, _, rv, ha⟩
      · exact nomatch (at2 b hb).symm.trans z
theorem walkG {l : PySem.W.OpenLaw} {n k : Nat} {q : Program} {loose : List Str} {XP : (Str → Option Value) → Heap → Prop} {YP : World → Heap → Prop} {d : DefRec} {K : Params → PySem.W.Frag} {sp : World → Sp} {x : Str}
    (hn : l.most = some n) (hn2 : n ≤ sizeLine) (hdf : d.params.defaults = []) (hr : Room k callerA) (hY : ∀ (w : World) (h : Heap), YP w h → (K w.params).In h)
    (F : ∀ (w : World) (mg : Str → Option Value) (fa : Addr) (h : Heap), (K w.params).In h → h.Ns mainGlobals mg → mg d.name = some (.ref fa) → ∃ fd : FuncData, (∀ (s : Shared) (u : Value), BindsTo s fd ⟨[u], []⟩ [(x, u)]) ∧
        ∀ base : Heap, (K w.params).In base → base.Ns mainGlobals mg → FnG l.prog w (K w.params) mg base k fa fd [x] (sp w))
    (hsp : ∀ w : World, LawSp (K w.params) n (sp w)) : PySem.W.WalkO q loose XP YP l.row.toRowW d [] (fun f vs => PySem.call f vs) := by
  refine Att.attach_call hn hdf fun w s₀ s₁ mg mb fa o pm cd doc a vs ns G Y ho hd hcd hmg hobj hints hlen hg => ?_
  obtain ⟨fd, hb, hF⟩ := F w mg fa _ (hY w _ Y) G.T.g hmg
  exact FnG.law_call (hY w _ Y) G.T.g G.T.b G.T.builtins G.T.nolimit hg hobj hints hlen hn2 hr hF hb (hsp w)
end Dn

set_option Elab.async false
set_option linter.all false
set_option maxRecDepth 100000
set_option maxHeartbeats 4000000
namespace Dn
open PySem PySem.Spec PyProof.Rows L2

/-! ### defs -/
abbrev MF := List D → IHp → R D
def spD (K : PySem.W.Frag) (mg : Str → Option Value) (n : Nat) (m : MF) : Sp := fun vs H Q E => vs.length = n ∧ ∃ α ds ih, RH K α H ih ∧ Reps K α H ds vs ∧ Go K mg (fun c H' => E c none H') (Rep K) α H (m ds ih) Q
/-- the def of this name is worth m -/
structure DefAt (P : Program) (w : World) (K : PySem.W.Frag) (mg : Str → Option Value) (base : Heap) (j : Nat) (x : Str) (n : Nat) (m : MF) : Prop where
  ex : ∃ (f : Addr) (fd : FuncData) (ps : List Str), mg x = some (.ref f) ∧ PySem.W.keepIn K (.ref f) = true ∧ Binds K fd ps [] ∧ FnG P w K mg base j f fd ps (spD K mg n m)
abbrev DefX (X : Cx) (j : Nat) (x : Str) (n : Nat) (m : MF) : Prop := DefAt X.prog X.w X.K X.mg X.base j x n m
theorem DefAt.mono {P : Program} {w : World} {K : PySem.W.Frag} {mg : Str → Option Value} {base : Heap} {j k : Nat} {x : Str} {n : Nat} {m : MF} (d : DefAt P w K mg base j x n m) (h : j ≤ k) : DefAt P w K mg base k x n m := by
  obtain ⟨f, fd, ps, a, b, c, F⟩ := d.ex
  exact ⟨f, fd, ps, a, b, c, F.mono h⟩
/-- m' stands for m where it does not stop: the result may stand for the same value otherwise, live lists that nobody names may be forgotten -/
def Rf (K : PySem.W.Frag) (m m' : MF) : Prop := ∀ mg (α : Al) H ds vs ih (E : Value → Hp → Prop) (Q : VK), RH K α H ih → Reps K α H ds vs → Go K mg E (Rep K) α H (m' ds ih) Q → Go K mg E (Rep K) α H (m ds ih) Q
theorem DefAt.rf {P : Program} {w : World} {K : PySem.W.Frag} {mg : Str → Option Value} {base : Heap} {j : Nat} {x : Str} {n : Nat} {m m' : MF} (d : DefAt P w K mg base j x n m) (h : Rf K m m') : DefAt P w K mg base j x n m' := by
  obtain ⟨f, fd, ps, a, b, c, F⟩ := d.ex
  exact ⟨f, fd, ps, a, b, c, F.imp fun vs H Q E ⟨hl, α, ds, ih, hh, rs, g⟩ => ⟨hl, α, ds, ih, hh, rs, h mg α H ds vs ih _ Q hh rs g⟩⟩
def mCall (n : Nat) (m : MF) (ms : MA) : ME := fun σ h => (ms σ h).bind fun ds h => if ds.length = n then m ds h else .bad
section
variable {X : Cx}
theorem de_call {j : Nat} {x : Str} {n : Nat} {m : MF} {p pos : Pos} {e : Expr} {es : List Expr} {ms : MA} (gd : X.A.guards = some []) (G : DefX X j x n m) (hr : Room j X.A) (hg : Gl X x) (ha : DA X (e :: es) ms)
    (hdb : (x == ("__debug__" : Str)) = false := by decide) (he : starEach (e :: es) X.env = (false, eval e X.env) :: starEach es X.env := by rfl) (hpl : (backTo pos (starEach es X.env)).any (·.1) = false := by rfl) :
    DE X (.Call (.Name x p) (e :: es) [] pos) (mCall n m ms) := fun W tk => by
  obtain ⟨f, fd, ps, hm, hk, hb, F⟩ := G.ex
  refine PE.mono (F.pe (E := fun σ cls d H => W cls d σ H) gd hr hg hm hk hb (fun σ => passAt tk σ) (ha W tk) hdb he hpl) fun σ H Q ⟨α, iσ, ih, h, s, g⟩ => ⟨α, iσ, ih, h, s, g.bind.mono fun vs H1 ⟨α1, ds, ih1, x1, h1, r1, g1⟩ => ?_⟩
  split at g1
  · next hl => exact ⟨by rw [← r1.length]; exact hl, α1, ds, ih1, h1, r1, g1⟩
  · exact g1.elim
end
/-- a def's body, run -/
def runD (N : Nat) (mb : MS) : MF := fun ds h => match mb (ds.map some ++ List.replicate (N - ds.length) Option.none) h with
  | .nx _ h => .ok .non h
  | .rt d h => .ok d h
  | .ex c _ h => .ex c h
  | _ => .bad
theorem RS.start {K : PySem.W.Frag} {α : Al} {H : Hp} {ds : List D} {vs : List V} (r : Reps K α H ds vs) (N : List Str) : RS K α H (ds.map some ++ List.replicate (N.length - ds.length) Option.none) (L2.start N vs) := by
  unfold L2.start
  refine ⟨by simp [r.length], fun i d e => ?_⟩
  by_cases hi : i < ds.length
  · rw [List.getElem?_append_left (by simpa using hi)] at e
    have hi2 : i < vs.length := by rw [← r.length]; exact hi
    rw [List.getElem?_append_left (by simpa using hi2)]
    rw [List.getElem?_map] at e
    cases q : ds[i]? with
    | none => rw [q] at e; cases e
    | some d' =>
      rw [q] at e
      cases e
      obtain ⟨v, e1, e2⟩ := r.get q
      exact ⟨v, by rw [List.getElem?_map, e1]; rfl, e2⟩
  · rw [List.getElem?_append_right (by simpa using Nat.le_of_not_lt hi), List.getElem?_replicate] at e
    split at e <;> cases e
theorem def_fn {P : Program} {w : World} {K : PySem.W.Frag} {mg : Str → Option Value} {base : Heap} {x qual : Str} {st : Stmt} {f : Addr} {fd : FuncData} {N ps : List Str} {k : Nat} {mb : MS} (F : Fun K x qual st f fd) (S : FnScope N ps (defScope st))
    (hb : ∀ (cdv : Value) (A : Around) (outer : List Env) (s : Shared) (H : Hp) (E : XK), Room k (A.deeper (envOfC qual (defScope st) s.heap.objs.size f cdv)) → Okx (cxOf (L2.CX P w) P w K mg base N qual (defScope st) f cdv A outer s H E) →
      DSs (cxOf (L2.CX P w) P w K mg base N qual (defScope st) f cdv A outer s H E) (defBody st) mb) : FnG P w K mg base (k + 1) f fd ps (spD K mg ps.length (runD N.length mb)) := by
  refine FnG.of_body F S (fun vs H Q E h => h.1) fun cdv A outer s H vs Q E gd hr ⟨hl, α, ds, ih, h, r, g⟩ => ?_
  refine ⟨_, hb cdv A outer s H E hr ⟨rfl, S.nd, passes_of rfl, gd⟩ _ (takes_of rfl rfl rfl rfl), α, _, ih, h, RS.start r N, ?_⟩
  unfold runD at g
  cases e : mb (ds.map some ++ List.replicate (N.length - ds.length) none) ih with
  | nx s' h' => rw [e] at g; exact fun α' σ' H' x' hh _ => g α' _ H' x' hh .non
  | rt d h' => rw [e] at g; exact g
  | ex c s' h' => rw [e] at g; exact fun C α' σ' H' hc x' hh _ => g C α' H' hc x' hh
  | bk s' h' => rw [e] at g; exact g.elim
  | ct s' h' => rw [e] at g; exact g.elim
  | bad => rw [e] at g; exact g.elim

theorem def_ok {P : Program} {w : World} {K : PySem.W.Frag} {mg : Str → Option Value} {base : Heap} {x qual : Str} {st : Stmt} {f : Addr} {fd : FuncData} {N ps : List Str} {k : Nat} {mb : MS} (F : Fun K x qual st f fd) (hm : mg x = some (.ref f)) (b : Binds K fd ps []) (S : FnScope N ps (defScope st))
    (hb : ∀ (cdv : Value) (A : Around) (outer : List Env) (s : Shared) (H : Hp) (E : XK), Room k (A.deeper (envOfC qual (defScope st) s.heap.objs.size f cdv)) → Okx (cxOf (L2.CX P w) P w K mg base N qual (defScope st) f cdv A outer s H E) →
      DSs (cxOf (L2.CX P w) P w K mg base N qual (defScope st) f cdv A outer s H E) (defBody st) mb) : DefAt P w K mg base (k + 1) x ps.length (runD N.length mb) := ⟨f, fd, ps, hm, F.kp, b, def_fn F S hb⟩
/-- the law's promise -/
def spLaw (K : PySem.W.Frag) (n : Nat) : Sp := fun vs H Q _ => ∃ (a : Addr) (ns : List Int), vs = [.ref a] ∧ SqL K H a (ns.map V.int) ∧ ns.length ≤ n ∧ Only H ∧ ∀ H', Q (.bl true) H'
theorem reps_int {K : PySem.W.Frag} {α : Al} {H : Hp} : ∀ ns : List Int, Reps K α H (ns.map D.int) (ns.map V.int)
  | [] => .nil
  | n :: ns => .cons (.int n) (reps_int ns)
theorem law_imp {P : Program} {w : World} {K : PySem.W.Frag} {mg : Str → Option Value} {base : Heap} {k n : Nat} {f : Addr} {fd : FuncData} {ps : List Str} {m : MF} (F : FnG P w K mg base k f fd ps (spD K mg 1 m))
    (h : ∀ ns : List Int, ns.length ≤ n → ∃ h, m [.scr (ns.map D.int)] [] = .ok (.bl true) h) : FnG P w K mg base k f fd ps (spLaw K n) := by
  refine F.imp fun vs H Q E ⟨a, ns, e, sq, hl, on, q⟩ => ?_
  subst e
  obtain ⟨h', e⟩ := h ns hl
  refine ⟨rfl, ⟨[], []⟩, [.scr (ns.map D.int)], [], ?_, .cons (.scr ?_ (reps_int ns)) .nil, ?_⟩
  · exact ⟨rfl, List.nodup_nil, (fun n o e => by simp at e), (fun a h => by simp at h), fun a h => by simp at h⟩
  · rcases sq with sq | sq
    · exact .inl ⟨sq, by simp, by simp⟩
    · exact .inr sq
  · rw [e]
    intro α' v H' _ _ r
    cases r
    exact q H'
/-! ### built-ins -/
abbrev GA := IHp → List D → Option D
def CallD (X : Cx) (f : Value) (g : GA) : Prop := CallR X f fun xs H Q => ∃ α ds ih d, RH X.K α H ih ∧ Reps X.K α H ds xs ∧ g ih ds = some d ∧ Fin1 X.K α H ih d Q
def mB1 (g : GA) (ms : MA) : ME := fun σ h => (ms σ h).bind fun ds h => R.opt (g h ds) h
section
variable {X : Cx}
theorem rd_B1 {W : WX} {g : GA} {ms : MA} (σ : L2.St) (H : Hp) (Q : VK) : rdE X W (mB1 g ms) σ H Q → tCB (fun xs H Q => ∃ α ds ih d, RH X.K α H ih ∧ Reps X.K α H ds xs ∧ g ih ds = some d ∧ Fin1 X.K α H ih d Q) (rdA X W ms) σ H Q :=
  fun ⟨α, iσ, ih, h, s, g⟩ => ⟨α, iσ, ih, h, s, g.bind.mono fun vs H1 ⟨α1, ds, ih1, x1, h1, r1, g1⟩ =>
    let ⟨z, e, fz⟩ := go_opt g1
    ⟨α1, ds, ih1, z, h1, r1, e, fz⟩⟩
theorem de_callB {id : String} {x : Str} {g : GA} {ms : MA} {e : Expr} {es : List Expr} {p pos : Pos} (hc : CallD X (.builtin id) g) (hg : Gl X x) (hm : X.mg x = none) (hv : bootBuiltins x = some (.builtin id)) (ha : DA X (e :: es) ms) (hn : x ≠ "__name__" := by decide) (hdb : (x == ("__debug__" : Str)) = false := by decide)
    (he : starEach (e :: es) X.env = (false, eval e X.env) :: starEach es X.env := by rfl) (hpl : (backTo pos (starEach es X.env)).any (·.1) = false := by rfl) : DE X (.Call (.Name x p) (e :: es) [] pos) (mB1 g ms) := fun W tk =>
  PE.mono (pe_callB hc hg hm hv (ha W tk) hn hdb he hpl) fun σ H Q q => rd_B1 σ H Q q
theorem de_callTy {T : String} {x : Str} {g : GA} {ms : MA} {e : Expr} {es : List Expr} {p pos : Pos} (hc : CallD X (.type T) g) (hg : Gl X x) (hm : X.mg x = none) (hv : bootBuiltins x = some (.type T)) (ha : DA X (e :: es) ms) (hn : x ≠ "__name__" := by decide) (hdb : (x == ("__debug__" : Str)) = false := by decide)
    (he : starEach (e :: es) X.env = (false, eval e X.env) :: starEach es X.env := by rfl) (hpl : (backTo pos (starEach es X.env)).any (·.1) = false := by rfl) : DE X (.Call (.Name x p) (e :: es) [] pos) (mB1 g ms) := fun W tk =>
  PE.mono (pe_callTy hc hg hm hv (ha W tk) hn hdb he hpl) fun σ H Q q => rd_B1 σ H Q q
end
theorem hu64 {k : Nat} {A : Around} (hr : Room k A) : A.units + 64 < cLine := by have := hr.un; omega
section
variable {X : Cx}
theorem de_cI {x : Str} {i : Int} {pos : Pos} (hg : Gl X x) (hm : ∃ t, X.mg x = some (.int i t)) (hd : (x == ("__debug__" : Str)) = false := by decide) : DE X (.Name x pos) (mC (.int i)) := by
  obtain ⟨t, e⟩ := hm
  exact de_globI hg e hd
theorem de_cS {x y : Str} {pos : Pos} (hg : Gl X x) (hm : ∃ t, X.mg x = some (.str y t)) (hd : (x == ("__debug__" : Str)) = false := by decide) : DE X (.Name x pos) (mC (.str y)) := by
  obtain ⟨t, e⟩ := hm
  exact de_globS hg e hd
end
end Dn

set_option Elab.async false
set_option linter.all false
set_option maxRecDepth 100000
set_option maxHeartbeats 4000000
namespace Dn
open PySem PySem.Spec PyProof.Rows L2
section
variable {X : Cx}
/-! ### operators -/
def gI (c : Int → Int → Bool) (k : Int → Int → D) : Op2 := fun _ x y => match x, y with
  | .int i, .int j => if c i j = true then some (k i j) else none
  | _, _ => none
theorem opd_I {f : Value → Value → Sem Value} {C : Int → Int → Prop} {kv : Int → Int → V} {c : Int → Int → Bool} {k : Int → Int → D} (ho : OpR X f (rI C kv)) (hc : ∀ i j, c i j = true → C i j) (hk : ∀ α H i j, Rep X.K α H (k i j) (kv i j)) : OpD X f (gI c k) :=
  fun pins s σ H x y v u Q I rx ry ⟨α, dx, dy, ih, d, hh, r1, r2, e, fz⟩ => by
    refine ho pins s σ H x y v u Q I rx ry ?_
    unfold gI at e
    cases r1 with
    | int i =>
      cases r2 with
      | int j =>
        dsimp only at e
        split at e
        · next h =>
          cases e
          exact ⟨i, j, rfl, rfl, hc i j h, fz.here hh (hk α H i j)⟩
        · cases e
      | _ => cases e
    | _ => cases e
theorem opd_I0 {f : Value → Value → Sem Value} {kv : Int → Int → V} {k : Int → Int → D} (ho : OpR X f (rI0 kv)) (hk : ∀ α H i j, Rep X.K α H (k i j) (kv i j)) : OpD X f (gI (fun _ _ => true) k) :=
  opd_I (C := fun _ _ => True) (fun pins s σ H x y v u Q I rx ry ⟨i, j, e1, e2, _, q⟩ => ho pins s σ H x y v u Q I rx ry ⟨i, j, e1, e2, q⟩) (fun _ _ _ => trivial) hk
def gSub : Op2 := gI (fun _ _ => true) fun i j => .int (i - j)
theorem od_sub : OpD X (binaryOp .Sub) gSub := opd_I0 op_sub fun _ _ _ _ => .int _
def mulOk (i j : Int) : Bool := decide (i.natAbs < 2 ^ 64) || decide (j.natAbs < 2 ^ 64) || (decide (i.natAbs < 2 ^ 9000) && decide (j.natAbs < 2 ^ 9000))
def gMul : Op2 := gI mulOk fun i j => .int (i * j)
theorem od_mul : OpD X (binaryOp .Mult) gMul := opd_I (C := fun i j => IntMulOk i j) (fun pins s σ H x y v u Q I rx ry ⟨i, j, e1, e2, c, q⟩ => by
  subst e1 e2
  obtain ⟨t, rfl⟩ := rx
  obtain ⟨t', rfl⟩ := ry
  exact mul_int ⟨.int _, H, I.tok _, ⟨_, rfl⟩, q⟩ c) (fun i j h => by
  unfold mulOk at h
  rw [Bool.or_eq_true, Bool.or_eq_true, Bool.and_eq_true, decide_eq_true_eq, decide_eq_true_eq, decide_eq_true_eq, decide_eq_true_eq] at h
  rcases h with (h | h) | h
  · exact CMul.ok (.inl ⟨by omega, by omega⟩)
  · exact CMul.ok (.inr ⟨by omega, by omega⟩)
  · exact (wide_mul h.1 h.2 (by decide) (by decide) (by decide)).ok) fun _ _ _ _ => .int _
def gDiv : Op2 := gI (fun _ j => decide (0 < j) && decide (j.natAbs < 2 ^ 9000)) fun i j => .int (i / j)
theorem od_div : OpD X (binaryOp .FloorDiv) gDiv := opd_I op_fdivW (fun i j h => by
  rw [Bool.and_eq_true, decide_eq_true_eq, decide_eq_true_eq] at h
  exact wide_div h.1 h.2 (by decide) (by decide)) fun _ _ _ _ => .int _
def gMod : Op2 := gI (fun _ j => decide (0 < j)) fun i j => .int (i % j)
theorem od_mod : OpD X (binaryOp .Mod) gMod := opd_I op_mod (fun i j h => of_decide_eq_true h) fun _ _ _ _ => .int _
def gPow : Op2 := gI (fun i j => decide (0 ≤ j) && decide (j ≤ 1000000) && decide (i.natAbs < 2 ^ 64)) fun i j => .int (i ^ j.toNat)
theorem od_pow : OpD X (binaryOp .Pow) gPow := opd_I op_pow (fun i j h => by
  rw [Bool.and_eq_true, Bool.and_eq_true, decide_eq_true_eq, decide_eq_true_eq, decide_eq_true_eq] at h
  exact ⟨h.1.1, h.1.2, h.2⟩) fun _ _ _ _ => .int _
def gLt : Op2 := gI (fun _ _ => true) fun i j => .bl (decide (i < j))
def gLe : Op2 := gI (fun _ _ => true) fun i j => .bl (decide (i ≤ j))
def gGt : Op2 := gI (fun _ _ => true) fun i j => .bl (decide (j < i))
def gGe : Op2 := gI (fun _ _ => true) fun i j => .bl (decide (j ≤ i))
theorem od_lt : OpD X (compareOp .Lt) gLt := opd_I0 op_lt fun _ _ _ _ => .bl _
theorem od_le : OpD X (compareOp .LtE) gLe := opd_I0 op_le fun _ _ _ _ => .bl _
theorem od_gt : OpD X (compareOp .Gt) gGt := opd_I0 op_gt fun _ _ _ _ => .bl _
theorem od_ge : OpD X (compareOp .GtE) gGe := opd_I0 op_ge fun _ _ _ _ => .bl _
/-- + : ints, texts, tuples, lists -/
def gAdd : Op2 := fun h x y => match x, y with
  | .int i, .int j => some (.int (i + j))
  | .str a, .str b => if a.length + b.length ≤ sizeLine then some (.str (a ++ b)) else none
  | .tup a, .tup b => if a.length + b.length ≤ sizeLine then some (.tup (a ++ b)) else none
  | x, y => match lstOf h x, lstOf h y with
    | some a, some b => if a.length + b.length ≤ sizeLine then some (.lst (a ++ b)) else none
    | _, _ => none
theorem Reps.nilD {K : PySem.W.Frag} {α : Al} {H : Hp} {ds : List D} {vs : List V} (r : Reps K α H ds vs) : vs = [] ↔ ds = [] := by
  cases r <;> simp
/-- lists that stand anywhere -/
def rCatL : R2 := fun x y H Q => ∃ l b xs zs, x = .ref l ∧ y = .ref b ∧ Rd H l (.lst xs) ∧ Rd H b (.lst zs) ∧ xs.length + zs.length ≤ sizeLine ∧ ∀ p, H p = none → Q (.ref p) (upd H p (.lst (xs ++ zs)))
theorem lstR {pins : List (Addr × Obj)} {s : Shared} {σ : L2.St} {H : Hp} {l : Addr} {xs : List V} (I : L2.Inv X pins σ H s) (h : Rd H l (.lst xs)) : ∃ (its : List Value) (n : Nat), Vals xs its ∧ s.heap.get? l = some { cls := .type "list", data := .seq its.toArray n } := by
  obtain ⟨z, its, n, r, e⟩ := h.ok I.hok
  exact ⟨its, n, r, e⟩
theorem op_catL : OpR X (binaryOp .Add) rCatL := by
  intro pins s σ H x y v u Q I rx ry h
  obtain ⟨l, b, xs, zs, rfl, rfl, hH, hB, hz, q⟩ := h
  cases rx
  cases ry
  obtain ⟨its, n, r, e⟩ := lstR I hH
  obtain ⟨its2, n2, r2, e2⟩ := lstR I hB
  have hl := r.length
  have hl2 := r2.length
  refine PySem.P.add_list e e2 ?_ (by rw [List.size_toArray, List.size_toArray]; omega)
  have ea : its.toArray ++ its2.toArray = (its ++ its2).toArray := by simp
  rw [ea]
  exact ⟨.ref _, _, I.lnew (t' := s.toks) (r.append r2) (by rw [List.length_append]; omega), rfl, q _ I.fresh⟩
theorem od_add : OpD X (binaryOp .Add) gAdd := fun pins s σ H x y v u Q I rx ry ⟨α, dx, dy, ih, d, hh, r1, r2, e, fz⟩ => by
  unfold gAdd at e
  split at e
  · cases e
    cases r1
    cases r2
    exact op_add pins s σ H _ _ v u Q I rx ry ⟨_, _, rfl, rfl, fz.here hh (.int _)⟩
  · split at e
    · next hz =>
      cases e
      cases r1
      cases r2
      exact op_add_str pins s σ H _ _ v u Q I rx ry ⟨_, _, rfl, rfl, hz, fz.here hh (.str _)⟩
    · cases e
  · next a b =>
    split at e
    · next hz =>
      cases e
      cases r1 with
      | tup q1 s1 =>
      cases r2 with
      | tup q2 s2 =>
      refine op_catA pins s σ H _ _ v u Q I rx ry ⟨_, _, _, _, rfl, rfl, q1, q2, by rw [← s1.length, ← s2.length]; exact hz, fun z => fz.here hh (.tup q2 ?_), fun _ z => fz.here hh (.tup q1 ?_), fun _ _ p n => fz.tup hh (s1.append s2) n⟩
      · have ea := s1.nilD.mp z
        subst ea
        exact s2
      · have eb := s2.nilD.mp z
        subst eb
        rw [List.append_nil]
        exact s1
    · cases e
  · split at e
    · next a b ea eb =>
      split at e
      · next hz =>
        cases e
        obtain ⟨p1, v1, e1, q1, s1⟩ := lst_rep hh r1 ea
        obtain ⟨p2, v2, e2, q2, s2⟩ := lst_rep hh r2 eb
        subst e1 e2
        exact op_catL pins s σ H _ _ v u Q I rx ry ⟨_, _, _, _, rfl, rfl, q1, q2, by rw [← s1.length, ← s2.length]; exact hz, fun p n => fz.lst hh (s1.append s2) n⟩
      · cases e
    · cases e
end
end Dn

set_option Elab.async false
set_option linter.all false
set_option maxRecDepth 100000
set_option maxHeartbeats 4000000
namespace Dn
open PySem PySem.Spec PyProof.Rows L2
/-! ### data -/
mutual
def toPy : D → Option PyData
  | .non => some .none
  | .bl b => some (.bool b)
  | .int i => some (.int i)
  | .str x => some (.str x)
  | .tup ds => (toPys ds).map .tuple
  | .lst ds => (toPys ds).map .list
  | .ref _ => none
  | .scr _ => none
def toPys : List D → Option (List PyData)
  | [] => some []
  | d :: ds => match toPy d, toPys ds with
    | some p, some ps => some (p :: ps)
    | _, _ => none
end
def toPyH (h : IHp) : D → Option PyData
  | .ref n => match h[n]? with
    | some (.lst ds) => (toPys ds).map .list
    | none => none
  | d => toPy d
section
variable {K : PySem.W.Frag} {α : Al} {H : Hp}
mutual
theorem Rep.dp : ∀ {d : D} {v : V} {p : PyData}, Rep K α H d v → toPy d = some p → Dp K H v p
  | _, _, _, .non, e => by rw [toPy] at e; cases e; exact .non
  | _, _, _, .bl b, e => by rw [toPy] at e; cases e; exact .bl b
  | _, _, _, .int i, e => by rw [toPy] at e; cases e; exact .int i
  | _, _, _, .str x, e => by rw [toPy] at e; cases e; exact .str x
  | .tup ds, _, _, .tup q r, e => by
    rw [toPy] at e
    cases e2 : toPys ds with
    | none => rw [e2] at e; cases e
    | some ps => rw [e2] at e; cases e; exact .tup q (Reps.dp r e2)
  | .lst ds, _, _, .lst q r, e => by
    rw [toPy] at e
    cases e2 : toPys ds with
    | none => rw [e2] at e; cases e
    | some ps => rw [e2] at e; cases e; exact .lst q.seq (Reps.dp r e2)
  | _, _, _, .ref _, e => by rw [toPy] at e; cases e
  | _, _, _, .scr _ _, e => by rw [toPy] at e; cases e
theorem Reps.dp : ∀ {ds : List D} {vs : List V} {ps : List PyData}, Reps K α H ds vs → toPys ds = some ps → DpAll K H vs ps
  | _, _, _, .nil, e => by rw [toPys] at e; cases e; exact .nil
  | d :: ds, _, _, .cons r t, e => by
    rw [toPys] at e
    cases e1 : toPy d with
    | none => rw [e1] at e; cases e
    | some p =>
      cases e2 : toPys ds with
      | none => rw [e1, e2] at e; cases e
      | some ps => rw [e1, e2] at e; cases e; exact .cons (Rep.dp r e1) (Reps.dp t e2)
end
theorem Rep.dpH {ih : IHp} {d : D} {v : V} {p : PyData} (h : RH K α H ih) (r : Rep K α H d v) (e : toPyH ih d = some p) : Dp K H v p := by
  cases r with
  | ref ea =>
    unfold toPyH at e
    dsimp only at e
    split at e
    · next ds eo =>
      obtain ⟨a, ho, e1, e2, e3⟩ := h.ob _ _ eo
      rw [ea] at e1; cases e1
      obtain ⟨vs, rfl, rs⟩ := e3.lst
      cases e4 : toPys ds with
      | none => rw [e4] at e; cases e
      | some ps => rw [e4] at e; cases e; exact .lst (.inl (.inl e2)) (rs.dp e4)
    · cases e
  | non => exact Rep.dp (α := α) .non e
  | bl b => exact Rep.dp (α := α) (.bl b) e
  | int i => exact Rep.dp (α := α) (.int i) e
  | str x => exact Rep.dp (α := α) (.str x) e
  | tup q rs => exact Rep.dp (.tup q rs) e
  | lst q rs => exact Rep.dp (.lst q rs) e
  | scr q rs => exact Rep.dp (.scr q rs) e
end
/-- == -/
def gEq : Op2 := fun h x y => match x, y with
  | .str a, .str b => some (.bl (decide (a = b)))
  | x, y => match toPyH h x, toPyH h y with
    | some a, some b => if SeqAt.shaped a = true ∧ SeqAt.shaped b = true then some (.bl (PyData.eqv a b)) else none
    | _, _ => none
def gNe : Op2 := fun h x y => match x, y with
  | .str a, .str b => some (.bl (!decide (a = b)))
  | x, y => match toPyH h x, toPyH h y with
    | some a, some b => if SeqAt.shaped a = true ∧ SeqAt.shaped b = true then some (.bl (!PyData.eqv a b)) else none
    | _, _ => none
section
variable {X : Cx}
theorem dStr (a b : Str) : decide (V.str a = V.str b) = decide (a = b) := by simp
theorem od_eq (hu : X.A.units + 64 < cLine) : OpD X (compareOp .Eq) gEq := fun pins s σ H x y v u Q I rx ry ⟨α, dx, dy, ih, d, hh, r1, r2, e, fz⟩ => by
  unfold gEq at e
  split at e
  · cases e
    cases r1
    cases r2
    exact op_eq pins s σ H _ _ v u Q I rx ry ⟨rfl, by rw [dStr]; exact fz.here hh (.bl _)⟩
  · split at e
    · next a b ea eb =>
      split at e
      · next hs =>
        cases e
        exact op_eqD hu pins s σ H x y v u Q I rx ry ⟨a, b, r1.dpH hh ea, r2.dpH hh eb, hs.1, hs.2, fz.here hh (.bl _)⟩
      · cases e
    · cases e
theorem od_ne (hu : X.A.units + 64 < cLine) : OpD X (compareOp .NotEq) gNe := fun pins s σ H x y v u Q I rx ry ⟨α, dx, dy, ih, d, hh, r1, r2, e, fz⟩ => by
  unfold gNe at e
  split at e
  · cases e
    cases r1
    cases r2
    exact op_ne pins s σ H _ _ v u Q I rx ry ⟨rfl, by rw [dStr]; exact fz.here hh (.bl _)⟩
  · split at e
    · next a b ea eb =>
      split at e
      · next hs =>
        cases e
        exact op_neD hu pins s σ H x y v u Q I rx ry ⟨a, b, r1.dpH hh ea, r2.dpH hh eb, hs.1, hs.2, fz.here hh (.bl _)⟩
      · cases e
    · cases e
/-- is None, is not None -/
def D.isNon : D → Bool
  | .non => true
  | _ => false
theorem Rep.isNon {K : PySem.W.Frag} {α : Al} {H : Hp} {d : D} {v : V} (r : Rep K α H d v) : decide (v = .non) = d.isNon := by cases r <;> first | rfl | (apply decide_eq_false; intro z; cases z)
def gIsN : Op2 := fun _ x y => match y with
  | .non => some (.bl x.isNon)
  | _ => none
def gNotN : Op2 := fun _ x y => match y with
  | .non => some (.bl (!x.isNon))
  | _ => none
theorem op_notN' : OpR X (compareOp .IsNot) (fun x y H Q => y = .non ∧ Q (.bl (!decide (x = .non))) H) := by
  intro pins s σ H x y v u Q I rx ry ⟨e, q⟩
  subst e
  cases (show u = Value.none from ry)
  exact isnot_none_gen ⟨.bl _, H, I, by rw [rx.none_iff]; rfl, q⟩
theorem od_isN : OpD X (compareOp .Is) gIsN := fun pins s σ H x y v u Q I rx ry ⟨α, dx, dy, ih, d, hh, r1, r2, e, fz⟩ => by
  cases r2 with
  | non =>
    cases e
    exact op_isN pins s σ H x _ v u Q I rx ry ⟨rfl, by rw [r1.isNon]; exact fz.here hh (.bl _)⟩
  | _ => cases e
theorem od_notN : OpD X (compareOp .IsNot) gNotN := fun pins s σ H x y v u Q I rx ry ⟨α, dx, dy, ih, d, hh, r1, r2, e, fz⟩ => by
  cases r2 with
  | non =>
    cases e
    exact op_notN' pins s σ H x _ v u Q I rx ry ⟨rfl, by rw [r1.isNon]; exact fz.here hh (.bl _)⟩
  | _ => cases e
/-- is True, is not False -/
def gIsB : Op2 := fun _ x y => match x, y with
  | .bl a, .bl b => some (.bl (decide (a = b)))
  | _, _ => none
def gNotB : Op2 := fun _ x y => match x, y with
  | .bl a, .bl b => some (.bl (!decide (a = b)))
  | _, _ => none
theorem od_isB : OpD X (compareOp .Is) gIsB := fun pins s σ H x y v u Q I rx ry ⟨α, dx, dy, ih, d, hh, r1, r2, e, fz⟩ => by
  cases r1 with
  | bl a =>
    cases r2 with
    | bl b => cases e; exact op_isBl pins s σ H _ _ v u Q I rx ry ⟨a, b, rfl, rfl, fz.here hh (.bl _)⟩
    | _ => cases e
  | _ => cases e
theorem od_notB : OpD X (compareOp .IsNot) gNotB := fun pins s σ H x y v u Q I rx ry ⟨α, dx, dy, ih, d, hh, r1, r2, e, fz⟩ => by
  cases r1 with
  | bl a =>
    cases r2 with
    | bl b => cases e; exact op_notBl pins s σ H _ _ v u Q I rx ry ⟨a, b, rfl, rfl, fz.here hh (.bl _)⟩
    | _ => cases e
  | _ => cases e
/-- -e -/
def mNeg (m : ME) : ME := fun σ h => (m σ h).bind fun d h => match d with
  | .int i => .ok (.int (-i)) h
  | _ => .bad
theorem de_neg {a : Expr} {m : ME} {pos : Pos} (ha : DE X a m) : DE X (.UnaryOp .USub a pos) (mNeg m) := fun W tk =>
  PE.mono (pe_un un_neg (ha W tk)) fun σ H Q ⟨α, iσ, ih, h, s, g⟩ => ⟨α, iσ, ih, h, s, g.bind.mono fun v H1 ⟨α1, d, ih1, x1, h1, r1, g1⟩ => by
    cases r1 <;> first | exact g1.elim | exact ⟨_, rfl, g1.ok h1 (.int _)⟩⟩

/-! ### isinstance -/
def tyD (h : IHp) : D → String
  | .non => "NoneType"
  | .bl _ => "bool"
  | .int _ => "int"
  | .str _ => "str"
  | .tup _ => "tuple"
  | _ => "list"
def isTy (t T : String) : Bool := t == T || (t == "bool" && T == "int")
theorem rep_ty {K : PySem.W.Frag} {α : Al} {H : Hp} {ih : IHp} {d : D} {v : V} (h : RH K α H ih) (r : Rep K α H d v) : TyX K H v (.type (tyD ih d)) := by
  cases r with
  | non => exact .base .non
  | bl b => exact .base (.bl b)
  | int i => exact .base (.int i)
  | str x => exact .base (.str x)
  | tup q rs =>
    rcases q with (q | ⟨o, q⟩) | ⟨o, its, n, q, c, _⟩
    · exact .base (.tup q)
    · exact .fTuple q
    · exact .kTuple q c
  | lst q rs =>
    rcases q.1 with q | ⟨o, q⟩
    · exact .base (.lst q)
    · exact .base (.frz q)
  | scr q rs =>
    rcases q with ⟨q | ⟨o, q⟩, _⟩ | ⟨o, its, n, q, c, _⟩
    · exact .base (.lst q)
    · exact .base (.frz q)
    · exact .kList q c
  | ref ea =>
    obtain ⟨n, o, ho, e1, e2, e3, e4⟩ := h.at (List.mem_iff_getElem?.mpr ⟨_, ea⟩)
    cases o with
    | lst ds =>
      obtain ⟨vs, rfl, _⟩ := e4.lst
      exact .base (.lst e3)
def tysB : List String := ["NoneType", "bool", "int", "str", "tuple", "list"]
theorem kit_tys (T : String) (hT : T ∈ ["int", "bool", "str", "tuple", "list", "dict"]) : ∀ t ∈ tysB, kitB t T = some (isTy t T) := by
  simp only [List.mem_cons, List.not_mem_nil, or_false] at hT
  rcases hT with rfl | rfl | rfl | rfl | rfl | rfl <;> decide +kernel
theorem tyD_mem (h : IHp) (d : D) : tyD h d ∈ tysB := by cases d <;> simp [tyD, tysB]
def mIsi (T : String) (m : ME) : ME := fun σ h => (m σ h).bind fun d h => .ok (.bl (isTy (tyD h d) T)) h
theorem de_isi (T : String) {y : Str} {e : Expr} {m : ME} {p p2 pos : Pos} (hT : T ∈ ["int", "bool", "str", "tuple", "list", "dict"]) (hg : Gl X "isinstance") (hm : X.mg "isinstance" = none) (hgy : Gl X y) (hmy : X.mg y = none) (hy : bootBuiltins y = some (.type T)) (he : DE X e m)
    (hv : bootBuiltins "isinstance" = some (.builtin "isinstance")) (hn : y ≠ "__name__" := by decide) (hdb : (y == ("__debug__" : Str)) = false := by decide)
    (h1 : starEach [e, .Name y p2] X.env = (false, eval e X.env) :: starEach [.Name y p2] X.env := by rfl) (hpl : (backTo pos (starEach [.Name y p2] X.env)).any (·.1) = false := by rfl)
    (h2 : starEach [.Name y p2] X.env = (false, eval (.Name y p2) X.env) :: starEach [] X.env := by rfl) : DE X (.Call (.Name "isinstance" p) [e, .Name y p2] [] pos) (mIsi T m) := fun W tk =>
  PE.mono (pe_callB call_isi hg hm hv (pa_cons (he W tk) (pa_cons (pe_bltn (v := .ty T) hgy hmy hy rfl hn hdb) pa_nil h2) h1) (by decide) (by decide) h1 hpl) fun σ H Q ⟨α, iσ, ih, h, s, g⟩ => ⟨α, iσ, ih, h, s, g.bind.mono fun v H1 ⟨α1, d, ih1, x1, h1, r1, g1⟩ =>
    ⟨v, .ty T, _, _, _, rfl, .ty T, rep_ty h1 r1, kit_ty (kit_tys T hT _ (tyD_mem ih1 d)), g1.ok h1 (.bl _)⟩⟩
end
end Dn

set_option Elab.async false
set_option linter.all false
set_option maxRecDepth 100000
set_option maxHeartbeats 4000000
namespace Dn
open PySem PySem.Spec PyProof.Rows L2
section
variable {X : Cx}
/-- a rule of one argument -/
theorem reps1 {K : PySem.W.Frag} {α : Al} {H : Hp} {d : D} {xs : List V} (r : Reps K α H [d] xs) : ∃ v, xs = [v] ∧ Rep K α H d v := by
  cases r with
  | cons q t => cases t; exact ⟨_, rfl, q⟩
theorem reps2 {K : PySem.W.Frag} {α : Al} {H : Hp} {d e : D} {xs : List V} (r : Reps K α H [d, e] xs) : ∃ v u, xs = [v, u] ∧ Rep K α H d v ∧ Rep K α H e u := by
  cases r with
  | cons q t => obtain ⟨u, rfl, q2⟩ := reps1 t; exact ⟨_, u, rfl, q, q2⟩
/-- len -/
def gLen : GA := fun h ds => match ds with
  | [.str x] => if x.length ≤ sizeLine then some (.int x.length) else none
  | [d] => (seqOf h d).map fun l => .int l.length
  | _ => none
theorem cd_len : CallD X (.builtin "len") gLen := fun pins s σ H xs us Q I r ⟨α, ds, ih, d, hh, rs, e, fz⟩ => by
  unfold gLen at e
  split at e
  · next x =>
    split at e
    · next hz =>
      cases e
      obtain ⟨v, rfl, q⟩ := reps1 rs
      cases q
      exact call_len pins s σ H _ us Q I r ⟨_, x.length, rfl, ⟨hz, rfl⟩, fz.here hh (.int _)⟩
    · cases e
  · next d0 _ =>
    cases es : seqOf ih d0 with
    | none => rw [es] at e; cases e
    | some l =>
      rw [es] at e
      cases e
      obtain ⟨v, rfl, q⟩ := reps1 rs
      obtain ⟨a, vs, e1, q1, r1⟩ := seq_rep hh q es
      subst e1
      exact call_len_seq pins s σ H _ us Q I r ⟨a, vs, rfl, q1, by rw [← r1.length]; exact fz.here hh (.int _)⟩
  · cases e
/-- int of an int -/
def gInt : GA := fun _ ds => match ds with
  | [.int i] => some (.int i)
  | [.bl b] => some (.int (if b then 1 else 0))
  | _ => none
theorem cd_int : CallD X (.type "int") gInt := fun pins s σ H xs us Q I r ⟨α, ds, ih, d, hh, rs, e, fz⟩ => by
  unfold gInt at e
  split at e
  · cases e
    obtain ⟨v, rfl, q⟩ := reps1 rs
    cases q
    exact call_int1 pins s σ H _ us Q I r (.inl ⟨_, rfl, fz.here hh (.int _)⟩)
  · cases e
    obtain ⟨v, rfl, q⟩ := reps1 rs
    cases q
    exact call_int1 pins s σ H _ us Q I r (.inr ⟨_, rfl, fz.here hh (.int _)⟩)
  · cases e
def gAbs : GA := fun _ ds => match ds with
  | [.int i] => some (.int (if i < 0 then -i else i))
  | _ => none
theorem cd_abs : CallD X (.builtin "abs") gAbs := fun pins s σ H xs us Q I r ⟨α, ds, ih, d, hh, rs, e, fz⟩ => by
  unfold gAbs at e
  split at e
  · cases e
    obtain ⟨v, rfl, q⟩ := reps1 rs
    cases q
    exact call_abs pins s σ H _ us Q I r ⟨_, rfl, fz.here hh (.int _)⟩
  · cases e
def gMax : GA := fun _ ds => match ds with
  | [.int i, .int j] => some (.int (if j > i then j else i))
  | _ => none
def gMin : GA := fun _ ds => match ds with
  | [.int i, .int j] => some (.int (if j < i then j else i))
  | _ => none
theorem cd_max (hc : X.calm = true) : CallD X (.builtin "max") gMax := fun pins s σ H xs us Q I r ⟨α, ds, ih, d, hh, rs, e, fz⟩ => by
  unfold gMax at e
  split at e
  · cases e
    obtain ⟨v, u, rfl, q, q2⟩ := reps2 rs
    cases q
    cases q2
    exact call_max2 hc pins s σ H _ us Q I r ⟨_, _, rfl, fz.here hh (.int _)⟩
  · cases e
theorem cd_min (hc : X.calm = true) : CallD X (.builtin "min") gMin := fun pins s σ H xs us Q I r ⟨α, ds, ih, d, hh, rs, e, fz⟩ => by
  unfold gMin at e
  split at e
  · cases e
    obtain ⟨v, u, rfl, q, q2⟩ := reps2 rs
    cases q
    cases q2
    exact call_min2 hc pins s σ H _ us Q I r ⟨_, _, rfl, fz.here hh (.int _)⟩
  · cases e
/-- tuple(xs), list(xs) -/
def gTupOf : GA := fun h ds => match ds with
  | [d] => (seqOf h d).map .tup
  | _ => none
theorem cd_tup : CallD X (.type "tuple") gTupOf := fun pins s σ H xs us Q I r ⟨α, ds, ih, d, hh, rs, e, fz⟩ => by
  unfold gTupOf at e
  split at e
  · next d0 =>
    cases es : seqOf ih d0 with
    | none => rw [es] at e; cases e
    | some l =>
      rw [es] at e
      cases e
      obtain ⟨v, rfl, q⟩ := reps1 rs
      obtain ⟨a, vs, e1, q1, r1⟩ := seq_rep hh q es
      subst e1
      refine call_tuple_of pins s σ H _ us Q I r ⟨a, vs, rfl, ?_⟩
      rcases q1 with q1 | q1
      · exact .inl ⟨q1, fun p n => fz.tup hh r1 n⟩
      · exact .inr ⟨q1, fz.here hh (.tup q1 r1)⟩
  · cases e
def gLstOf : GA := fun h ds => match ds with
  | [d] => (seqOf h d).map .lst
  | _ => none
theorem cd_lst : CallD X (.type "list") gLstOf := fun pins s σ H xs us Q I r ⟨α, ds, ih, d, hh, rs, e, fz⟩ => by
  unfold gLstOf at e
  split at e
  · next d0 =>
    cases es : seqOf ih d0 with
    | none => rw [es] at e; cases e
    | some l =>
      rw [es] at e
      cases e
      obtain ⟨v, rfl, q⟩ := reps1 rs
      obtain ⟨a, vs, e1, q1, r1⟩ := seq_rep hh q es
      subst e1
      exact call_list_of pins s σ H _ us Q I r ⟨a, vs, rfl, q1, fun p n => fz.lst hh r1 n⟩
  · cases e
/-- all, any of flags -/
def blsOf : List D → Option (List Bool)
  | [] => some []
  | .bl b :: ds => (blsOf ds).map (b :: ·)
  | _ :: _ => none
def intsOf : List D → Option (List Int)
  | [] => some []
  | .int i :: ds => (intsOf ds).map (i :: ·)
  | _ :: _ => none
theorem bls_rep {K : PySem.W.Frag} {α : Al} {H : Hp} : ∀ {ds : List D} {vs : List V} {bs : List Bool}, Reps K α H ds vs → blsOf ds = some bs → vs = bs.map V.bl
  | [], _, _, .nil, e => by cases e; rfl
  | d :: ds, _, _, .cons r t, e => by
    cases r <;> first | (cases e; done) | skip
    next b =>
    unfold blsOf at e
    cases e2 : blsOf ds with
    | none => rw [e2] at e; cases e
    | some bs => rw [e2] at e; cases e; rw [bls_rep t e2]; rfl
theorem ints_rep {K : PySem.W.Frag} {α : Al} {H : Hp} : ∀ {ds : List D} {vs : List V} {bs : List Int}, Reps K α H ds vs → intsOf ds = some bs → vs = bs.map V.int
  | [], _, _, .nil, e => by cases e; rfl
  | d :: ds, _, _, .cons r t, e => by
    cases r <;> first | (cases e; done) | skip
    next b =>
    unfold intsOf at e
    cases e2 : intsOf ds with
    | none => rw [e2] at e; cases e
    | some bs => rw [e2] at e; cases e; rw [ints_rep t e2]; rfl
def gAll : GA := fun h ds => match ds with
  | [d] => ((lstOf h d).bind blsOf).map fun bs => .bl (bs.all id)
  | _ => none
def gAny : GA := fun h ds => match ds with
  | [d] => ((lstOf h d).bind blsOf).map fun bs => .bl (bs.any id)
  | _ => none
def gSum : GA := fun h ds => match ds with
  | [d] => ((lstOf h d).bind intsOf).map fun bs => .int bs.sum
  | _ => none
theorem cd_all (hc : X.calm = true) : CallD X (.builtin "all") gAll := fun pins s σ H xs us Q I r ⟨α, ds, ih, d, hh, rs, e, fz⟩ => by
  unfold gAll at e
  split at e
  · next d0 =>
    cases es : lstOf ih d0 with
    | none => rw [es] at e; cases e
    | some l =>
      rw [es] at e
      dsimp only [Option.bind_some] at e
      cases eb : blsOf l with
      | none => rw [eb] at e; cases e
      | some bs =>
        rw [eb] at e
        cases e
        obtain ⟨v, rfl, q⟩ := reps1 rs
        obtain ⟨a, vs, e1, q1, r1⟩ := lst_rep hh q es
        subst e1
        have ev := bls_rep r1 eb
        subst ev
        exact cr_all hc pins s σ H _ us Q I r ⟨a, bs, rfl, .inl q1, fz.here hh (.bl _)⟩
  · cases e
theorem cd_any (hc : X.calm = true) : CallD X (.builtin "any") gAny := fun pins s σ H xs us Q I r ⟨α, ds, ih, d, hh, rs, e, fz⟩ => by
  unfold gAny at e
  split at e
  · next d0 =>
    cases es : lstOf ih d0 with
    | none => rw [es] at e; cases e
    | some l =>
      rw [es] at e
      dsimp only [Option.bind_some] at e
      cases eb : blsOf l with
      | none => rw [eb] at e; cases e
      | some bs =>
        rw [eb] at e
        cases e
        obtain ⟨v, rfl, q⟩ := reps1 rs
        obtain ⟨a, vs, e1, q1, r1⟩ := lst_rep hh q es
        subst e1
        have ev := bls_rep r1 eb
        subst ev
        exact cr_any hc pins s σ H _ us Q I r ⟨a, bs, rfl, .inl q1, fz.here hh (.bl _)⟩
  · cases e
theorem cd_sum (hc : X.calm = true) : CallD X (.builtin "sum") gSum := fun pins s σ H xs us Q I r ⟨α, ds, ih, d, hh, rs, e, fz⟩ => by
  unfold gSum at e
  split at e
  · next d0 =>
    cases es : lstOf ih d0 with
    | none => rw [es] at e; cases e
    | some l =>
      rw [es] at e
      dsimp only [Option.bind_some] at e
      cases eb : intsOf l with
      | none => rw [eb] at e; cases e
      | some bs =>
        rw [eb] at e
        cases e
        obtain ⟨v, rfl, q⟩ := reps1 rs
        obtain ⟨a, vs, e1, q1, r1⟩ := lst_rep hh q es
        subst e1
        have ev := ints_rep r1 eb
        subst ev
        exact cr_sum hc pins s σ H _ us Q I r ⟨a, bs, rfl, .inl q1, fz.here hh (.int _)⟩
  · cases e
/-- list(range(..)), tuple(range(..)) -/
def rgOk (a b : Int) : Bool := decide (-(2 ^ 62) ≤ a) && decide (a < 2 ^ 62) && decide (-(2 ^ 62) ≤ b) && decide (b < 2 ^ 62) && decide ((b - a).toNat ≤ 2 ^ 24)
theorem rgOk_of {a b : Int} (h : rgOk a b = true) : RgOk a b := by
  unfold rgOk at h
  simp only [Bool.and_eq_true, decide_eq_true_eq] at h
  exact ⟨h.1.1.1.1, h.1.1.1.2, h.1.1.2, h.1.2, h.2⟩
theorem rng_reps {K : PySem.W.Frag} {α : Al} {H : Hp} (a b : Int) : Reps K α H (rngD a (b - a).toNat) (rgV a b) := by
  unfold rngD rgV
  generalize List.range (b - a).toNat = l
  induction l with
  | nil => exact .nil
  | cons x l ih => exact .cons (.int _) ih
/-- what a range(..) is worth: its ends -/
abbrev MR := ISt → IHp → R (Int × Int)
abbrev repR : Al → Hp → Int × Int → Int × Int → Prop := fun _ _ b c => b = c
def rdR (X : Cx) (W : WX) (m : MR) : L2.St → Hp → (Int → Int → Hp → Prop) → Prop := fun σ H Q => ∃ α iσ ih, RH X.K α H ih ∧ RS X.K α H iσ σ ∧ Go X.K X.mg (fun c H' => W c none σ H') repR α H (m iσ ih) fun p H' => Q p.1 p.2 H'
def DR (X : Cx) (e : Expr) (m : MR) : Prop := ∀ W, Takes X W → PRg X e (rdR X W m)
def mR1 (m : ME) : MR := fun σ h => (m σ h).bind fun d h => match d with
  | .int n => .ok (0, n) h
  | _ => .bad
def mR2 (m m' : ME) : MR := fun σ h => (m σ h).bind fun d h => (m' σ h).bind fun e h => match d, e with
  | .int a, .int b => .ok (a, b) h
  | _, _ => .bad
theorem dr_1 {a : Expr} {m : ME} {p pos : Pos} (hg : Gl X "range") (hm : X.mg "range" = none) (ha : DE X a m) (na : starEach [a] X.env = (false, eval a X.env) :: starEach [] X.env := by rfl) : DR X (.Call (.Name "range" p) [a] [] pos) (mR1 m) := fun W tk pins s σ H Q I ⟨α, iσ, ih, h, ss, g⟩ =>
  prg_1 hg hm (ha W tk) na pins s σ H Q I ⟨α, iσ, ih, h, ss, g.bind.mono fun v H1 ⟨α1, d, ih1, x1, h1, r1, g1⟩ => by
    cases r1 <;> first | exact g1.elim | exact ⟨_, rfl, g1.ok (v := (0, _)) h1 rfl⟩⟩
theorem dr_2 {a b : Expr} {m m' : ME} {p pos : Pos} (hg : Gl X "range") (hm : X.mg "range" = none) (ha : DE X a m) (hb : DE X b m') (na : starEach [a, b] X.env = (false, eval a X.env) :: starEach [b] X.env := by rfl)
    (nb : starEach [b] X.env = (false, eval b X.env) :: starEach [] X.env := by rfl) (hp : (backTo pos (starEach [b] X.env)).any (·.1) = false := by rfl) : DR X (.Call (.Name "range" p) [a, b] [] pos) (mR2 m m') := fun W tk pins s σ H Q I ⟨α, iσ, ih, h, ss, g⟩ =>
  prg_2 hg hm (ha W tk) (hb W tk) na nb hp pins s σ H Q I ⟨α, iσ, ih, h, ss, g.bind.mono fun v H1 ⟨α1, d, ih1, x1, h1, r1, g1⟩ => ⟨α1, iσ, ih1, h1, ss.ext h x1, g1.bind.mono fun v2 H2 ⟨α2, d2, ih2, x2, h2, r2, g2⟩ => by
    have r1' := r1.ext h1 x2
    cases r1' <;> cases r2 <;> first | exact g2.elim | exact ⟨_, _, rfl, rfl, g2.ok (v := (_, _)) h2 rfl⟩⟩⟩
def mLstR (m : MR) : ME := fun σ h => (m σ h).bind fun p h => if rgOk p.1 p.2 = true then .ok (.lst (rngD p.1 (p.2 - p.1).toNat)) h else .bad
def mTupR (m : MR) : ME := fun σ h => (m σ h).bind fun p h => if rgOk p.1 p.2 = true then .ok (.tup (rngD p.1 (p.2 - p.1).toNat)) h else .bad
theorem de_lstR {e : Expr} {m : MR} {p pos : Pos} (hc : X.calm = true) (hg : Gl X "list") (hm : X.mg "list" = none) (he : DR X e m) (na : starEach [e] X.env = (false, eval e X.env) :: starEach [] X.env := by rfl) : DE X (.Call (.Name "list" p) [e] [] pos) (mLstR m) := fun W tk =>
  PE.mono (pe_listRg hc hg hm (he W tk) na) fun σ H Q ⟨α, iσ, ih, h, s, g⟩ => ⟨α, iσ, ih, h, s, g.bind.mono fun v H1 ⟨α1, d, ih1, x1, h1, r1, g1⟩ => by
    cases r1
    split at g1
    · next hr => exact ⟨rgOk_of hr, fun q n => Fin1.lst (fun v H' x h r => g1 _ v H' x h r) h1 (rng_reps _ _) n⟩
    · exact g1.elim⟩
theorem de_tupR {e : Expr} {m : MR} {p pos : Pos} (hc : X.calm = true) (hg : Gl X "tuple") (hm : X.mg "tuple" = none) (he : DR X e m) (na : starEach [e] X.env = (false, eval e X.env) :: starEach [] X.env := by rfl) : DE X (.Call (.Name "tuple" p) [e] [] pos) (mTupR m) := fun W tk =>
  PE.mono (pe_tupRg hc hg hm (he W tk) na) fun σ H Q ⟨α, iσ, ih, h, s, g⟩ => ⟨α, iσ, ih, h, s, g.bind.mono fun v H1 ⟨α1, d, ih1, x1, h1, r1, g1⟩ => by
    cases r1
    split at g1
    · next hr => exact ⟨rgOk_of hr, fun q n => Fin1.tup (fun v H' x h r => g1 _ v H' x h r) h1 (rng_reps _ _) n⟩
    · exact g1.elim⟩
/-- xs.append(e), xs live -/
def gApp (h : IHp) (o v : D) : Option IHp := match o with
  | .ref n => match h[n]? with
    | some (.lst ds) => if ds.length < sizeLine then some (h.set n (.lst (ds ++ [v]))) else none
    | none => none
  | _ => none
def isSeqL (h : IHp) (o : D) : Bool := (lstOf h o).isSome
def mApp (mo m : ME) : ME := fun σ h => (mo σ h).bind fun o h => if isSeqL h o = true then (m σ h).bind fun v h => match gApp h o v with
  | some h' => .ok .non h'
  | none => .bad
  else .bad
theorem de_app {o e : Expr} {mo m : ME} {apos cpos : Pos} (ho : DE X o mo) (he : DE X e m)
    (hbase : attributeBase o "append" X.env (eval o X.env) = eval o X.env := by rfl)
    (hfew : ((backTo cpos (starEach [e] X.env)).all (fun x => !x.1) && (backToKw cpos (keywordEach [] X.env)).all (fun x => x.1.isSome)
      && decide (([e] : List Expr).length + ([] : List Keyword).length + (if ([] : List Keyword).isEmpty then 0 else 1) < 30)) = true := by rfl)
    (hline : (apos.endLine == cpos.line) = true := by rfl) (hs : starEach [e] X.env = (false, eval e X.env) :: starEach [] X.env := by rfl) (hplain : (backTo cpos (starEach [] X.env)).any (·.1) = false := by rfl) :
    DE X (.Call (.Attribute o "append" apos) [e] [] cpos) (mApp mo m) := fun W tk =>
  PE.mono (pe_bm PySem.F.plainAttrs_list PySem.F.slot_list_append PySem.F.type_list_append mt_append (ho W tk) (pa_cons (he W tk) pa_nil hs) hbase hfew hline hs hplain) fun σ H Q ⟨α, iσ, ih, h, s, g⟩ => ⟨α, iσ, ih, h, s, g.bind.mono fun v H1 ⟨α1, d1, ih1, x1, h1, r1, g1⟩ => by
    split at g1
    · next hq =>
      unfold isSeqL at hq
      obtain ⟨ds, eds⟩ := Option.isSome_iff_exists.mp hq
      obtain ⟨a, vs, e1, q1, rs1⟩ := lst_rep h1 r1 eds
      subst e1
      refine ⟨.inl ⟨rfl, vs, .inl q1⟩, α1, iσ, ih1, h1, s.ext h x1, g1.bind.mono fun v2 H2 ⟨α2, d2, ih2, x2, h2, r2, g2⟩ => ?_⟩
      have r1' := r1.ext h1 x2
      cases r1' with
      | ref ea =>
        cases eg : gApp ih2 (.ref _) d2 with
        | none => rw [eg] at g2; exact g2.elim
        | some h' =>
          rw [eg] at g2
          unfold gApp at eg
          dsimp only at eg
          split at eg
          · next ds' eo =>
            split at eg
            · next hl =>
              cases eg
              obtain ⟨a', ho', e1, e2, e3⟩ := h2.ob _ _ eo
              rw [ea] at e1; cases e1
              obtain ⟨vs', rfl, rs⟩ := e3.lst
              refine ⟨_, vs', v2, rfl, rfl, e2, by rw [← rs.length]; exact hl, ?_⟩
              have hn : RepO X.K α2 H2 (.lst (ds' ++ [d2])) (.lst (vs' ++ [v2])) := rs.append (.one r2)
              exact g2 α2 _ _ (Ext.write ea) (h2.write ea hn) .non
            · cases eg
          · cases eg
      | _ => exact g2.elim
    · exact g1.elim⟩
end
end Dn

set_option Elab.async false
set_option linter.all false
set_option maxRecDepth 100000
set_option maxHeartbeats 4000000
namespace Dn
open PySem PySem.Spec PyProof.Rows L2
section
variable {X : Cx}
/-! ### repr -/
def gRepr : GA := fun h ds => match ds with
  | [d] => (toPyH h d).bind fun p => if p.showable = true ∧ p.hasDict = false ∧ p.shown.length ≤ sizeLine ∧ p.depth ≤ 60 then some (.str p.shown) else none
  | _ => none
theorem cd_repr (gd : X.A.guards = some []) (hu : X.A.units + 64 < cLine) : CallD X (.builtin "repr") gRepr := fun pins s σ H xs us Q I r ⟨α, ds, ih, d, hh, rs, e, fz⟩ => by
  unfold gRepr at e
  split at e
  · next d0 =>
    cases ep : toPyH ih d0 with
    | none => rw [ep] at e; cases e
    | some p =>
      rw [ep] at e
      dsimp only [Option.bind_some] at e
      split at e
      · next hc =>
        obtain ⟨c1, c2, c3, c4⟩ := hc
        cases e
        obtain ⟨v, rfl, q⟩ := reps1 rs
        obtain ⟨u, rfl, ru⟩ := vals1 r
        have dp := q.dpH hh ep
        obtain ⟨as, rd⟩ := Dp.reads I p v u dp ru
        have fin : ∀ (h' : Heap) (tk tok : Nat), (∀ b o, s.heap.get? b = some o → h'.get? b = some o) → EP X pins σ Q (.str p.shown tok) { s with heap := h', toks := tk } :=
          fun h' tk tok k => ⟨.str p.shown, H, I.kept (t' := tk) k, ⟨tok, rfl⟩, fz.here hh (.str _)⟩
        cases rd with
        | none => exact PySem.P.repr_of_none (fin s.heap _ _ fun _ _ z => z)
        | bool b => exact PySem.P.repr_of_bool (fin s.heap _ _ fun _ _ z => z)
        | int i t => exact PySem.P.repr_of_int (by simpa [PyData.showable] using c1) (fin s.heap _ _ fun _ _ z => z)
        | str x t => exact PySem.P.repr_of_str (fin s.heap _ _ fun _ _ z => z) c3
        | list a1 a2 a3 a4 => exact repr_of_reads' (.list a1 a2 a3 a4) c1 (PyData.noDict_hsm c2) gd (by omega) (fun _ _ z => z) (fun h' u tk k => fin h' _ _ k) c3
        | tuple a1 a2 a3 a4 => exact repr_of_reads' (.tuple a1 a2 a3 a4) c1 (PyData.noDict_hsm c2) gd (by omega) (fun _ _ z => z) (fun h' u tk k => fin h' _ _ k) c3
        | dict a1 a2 a3 a4 a5 => cases c2
      · cases e
  · cases e

/-! ### sorted(set(xs)), xs ints -/
theorem cr_setT (hc : X.calm = true) : CallR X (.type "set") (fun xs H Q => ∃ (l : Addr) (ns : List Int), xs = [.ref l] ∧ SqT X.K H l (ns.map V.int) ∧ ns.length + 1 < scanBound ∧
    ∀ (a : Addr) (c : Nat), H a = none → c ≤ ns.length → Q (.ref a) (upd H a (SetO X.w a (fun j => decide (j ∈ ns)) c))) := by
  intro pins s σ H xs us Q I r ⟨l, ns, e, hq, hb, q⟩
  subst e
  rw [Vals.ref1 r]
  obtain ⟨its, rv, p, hz⟩ := I.tuple hq
  refine call_set_tupI ns (I.ok.hd hc) (show s.heap.IsTuple l its.toArray from p) (by simpa using rv.ints) hb fun h' tk c R hcl k => ?_
  have hn : H s.heap.objs.size = none := I.hok.fresh (Nat.le_refl _)
  exact ⟨.ref s.heap.objs.size, _, I.laid (t' := tk) k (Nat.le_refl _) (setO_new R), rfl, q _ c hn hcl⟩
/-- ascending, each once -/
def insI (k : Int) : List Int → List Int
  | [] => [k]
  | x :: xs => if k < x then k :: x :: xs else if k = x then x :: xs else x :: insI k xs
def asc (ns : List Int) : List Int := ns.foldr insI []
theorem mem_insI {k j : Int} : ∀ {xs : List Int}, j ∈ insI k xs ↔ j = k ∨ j ∈ xs
  | [] => by simp [insI]
  | x :: xs => by
    unfold insI
    split
    · simp
    · split
      · next h => subst h; simp
      · rw [List.mem_cons, mem_insI, List.mem_cons]
        constructor
        · rintro (h | h | h)
          · exact .inr (.inl h)
          · exact .inl h
          · exact .inr (.inr h)
        · rintro (h | h | h)
          · exact .inr (.inl h)
          · exact .inl h
          · exact .inr (.inr h)
theorem insI_sorted {k : Int} : ∀ {xs : List Int}, xs.Pairwise (· < ·) → (insI k xs).Pairwise (· < ·)
  | [], _ => by simp [insI]
  | x :: xs, h => by
    rw [List.pairwise_cons] at h
    unfold insI
    split
    · next hk =>
      rw [List.pairwise_cons]
      exact ⟨fun y hy => (List.mem_cons.mp hy).elim (fun e => by rw [e]; exact hk) fun m => Int.lt_trans hk (h.1 y m), by rw [List.pairwise_cons]; exact h⟩
    · split
      · rw [List.pairwise_cons]; exact h
      · next h1 h2 =>
        rw [List.pairwise_cons]
        refine ⟨fun y hy => ?_, insI_sorted h.2⟩
        rcases mem_insI.mp hy with e | m
        · omega
        · exact h.1 y m
theorem mem_asc {j : Int} : ∀ {ns : List Int}, j ∈ asc ns ↔ j ∈ ns
  | [] => by simp [asc]
  | n :: ns => by
    have ih := mem_asc (j := j) (ns := ns)
    unfold asc at ih ⊢
    rw [List.foldr_cons, mem_insI, ih, List.mem_cons]
theorem asc_sorted : ∀ ns : List Int, (asc ns).Pairwise (· < ·)
  | [] => .nil
  | n :: ns => by
    have ih := asc_sorted ns
    unfold asc at ih ⊢
    exact insI_sorted ih
theorem asc_uniq : ∀ {xs ys : List Int}, xs.Pairwise (· < ·) → ys.Pairwise (· < ·) → (∀ j, j ∈ xs ↔ j ∈ ys) → xs = ys
  | [], [], _, _, _ => rfl
  | [], y :: ys, _, _, h => absurd ((h y).mpr List.mem_cons_self) List.not_mem_nil
  | x :: xs, [], _, _, h => absurd ((h x).mp List.mem_cons_self) List.not_mem_nil
  | x :: xs, y :: ys, h1, h2, h => by
    rw [List.pairwise_cons] at h1 h2
    have e : x = y := by
      have a := (h x).mp List.mem_cons_self
      have b := (h y).mpr List.mem_cons_self
      rcases List.mem_cons.mp a with a | a
      · exact a
      · rcases List.mem_cons.mp b with b | b
        · exact b.symm
        · have := h1.1 y b
          have := h2.1 x a
          omega
    subst e
    rw [asc_uniq h1.2 h2.2 fun j => ⟨fun m => ?_, fun m => ?_⟩]
    · have z := (h j).mp (List.mem_cons_of_mem _ m)
      rcases List.mem_cons.mp z with z | z
      · have := h1.1 j m; omega
      · exact z
    · have z := (h j).mpr (List.mem_cons_of_mem _ m)
      rcases List.mem_cons.mp z with z | z
      · have := h2.1 j m; omega
      · exact z
theorem intD_reps {K : PySem.W.Frag} {α : Al} {H : Hp} : ∀ ns : List Int, Reps K α H (ns.map D.int) (ns.map V.int)
  | [] => .nil
  | n :: ns => .cons (.int n) (intD_reps ns)
def gSortSet (h : IHp) (d : D) : Option D := match d with
  | .tup ds => (intsOf ds).bind fun ns => if ns.length < 64 then some (.lst ((asc ns).map D.int)) else none
  | _ => none
def mSortSet (m : ME) : ME := fun σ h => (m σ h).bind fun d h => R.opt (gSortSet h d) h
theorem de_sortSet {e : Expr} {m : ME} {p p2 pos pos2 : Pos} (hc : X.calm = true) (hg : Gl X "sorted") (hm : X.mg "sorted" = none) (hg2 : Gl X "set") (hm2 : X.mg "set" = none) (he : DE X e m) (hv : bootBuiltins "sorted" = some (.builtin "sorted")) (hv2 : bootBuiltins "set" = some (.type "set"))
    (na : starEach [e] X.env = (false, eval e X.env) :: starEach [] X.env := by rfl)
    (nb : starEach [.Call (.Name "set" p2) [e] [] pos2] X.env = (false, eval (.Call (.Name "set" p2) [e] [] pos2) X.env) :: starEach [] X.env := by rfl) (hpl : (backTo pos2 (starEach [] X.env)).any (·.1) = false := by rfl) (hpl2 : (backTo pos (starEach [] X.env)).any (·.1) = false := by rfl) :
    DE X (.Call (.Name "sorted" p) [.Call (.Name "set" p2) [e] [] pos2] [] pos) (mSortSet m) := fun W tk =>
  PE.mono (pe_callB (cr_sortedSet hc) hg hm hv (pa_cons (pe_callTy (cr_setT hc) hg2 hm2 hv2 (pa_cons (he W tk) pa_nil na) (by decide) (by decide) na hpl) pa_nil nb) (by decide) (by decide) nb hpl2) fun σ H Q ⟨α, iσ, ih, h, s, g⟩ => ⟨α, iσ, ih, h, s, g.bind.mono fun v H1 ⟨α1, d, ih1, x1, h1, r1, g1⟩ => by
    obtain ⟨z, ez, fz⟩ := go_opt g1
    unfold gSortSet at ez
    split at ez
    · next ds =>
      cases ei : intsOf ds with
      | none => rw [ei] at ez; cases ez
      | some ns =>
        rw [ei] at ez
        dsimp only [Option.bind_some] at ez
        split at ez
        · next hl =>
          cases ez
          cases r1 with
          | tup q rs =>
          have ev := ints_rep rs ei
          subst ev
          refine ⟨_, ns, rfl, q, by unfold scanBound; omega, fun a c n hcl => ⟨a, _, c, rfl, upd_same, by omega, fun ns' p h1' h2' h3' n' => ?_⟩⟩
          have e1 : ns' = asc ns := asc_uniq h1' (asc_sorted ns) fun j => by rw [h2', mem_asc]; simp
          subst e1
          exact fz _ _ ((Ext.new n).trans (Ext.new n')) ((h1.new n).new n') (.lst ⟨.inl upd_same, (h1.new n).free n', (h1.new n).freeH n'⟩ (intD_reps _))
        · cases ez
    · cases ez⟩
/-! ### t[::-1] -/
theorem fm_congr {β γ : Type} {f g : β → Option γ} : ∀ {l : List β}, (∀ x ∈ l, f x = g x) → l.filterMap f = l.filterMap g
  | [], _ => rfl
  | x :: l, h => by
    rw [List.filterMap_cons, List.filterMap_cons, h x List.mem_cons_self, fm_congr fun y hy => h y (List.mem_cons_of_mem _ hy)]
theorem tup_back {prog : Program} {w : World} {A : Around} {E : Value → Shared → Prop} {s : Shared} {t sl : Addr} {items : Array Value} {vl vu vs : Value} {Q : Value → Shared → Prop} (ht : IsTup s.heap t items) (hs : s.heap.IsSliceOf sl vl vu vs) (pl : IsPart vl none) (pu : IsPart vu none) (ps : IsPart vs (some (-1)))
    (h : Q (.ref s.heap.objs.size) { s with heap := s.heap.push { cls := .type "tuple", data := .seq items.toList.reverse.toArray } }) (hsz : items.size ≤ sizeLine) : wpAny (model prog w) A (getItem (.ref t) (.ref sl)) Q E s := by
  have fits : sizeOk (.seq items.toList.reverse.toArray) := by
    show items.toList.reverse.toArray.size ≤ sizeLine
    simpa using hsz
  obtain ⟨os, hos, hcs, hds⟩ := id hs
  have hTs : s.TypeIs (.ref sl) "slice" := ⟨os, hos, hcs⟩
  unfold getItem
  try with_reducible refine wpAny_holding ?_
  first | refine wpAny_bind (wpAny_pure ?_) | skip
  refine wpAny_bind (wpAny_sequenceKey ht.typeIs (by decide) (wpAny_bind (wpAny_callSpecial?_slot (name := Str.ofString "__getitem__") ht.typeIs PyProof.Rows.slot_tuple_getitem
    (wpAny_call_entry PyProof.Rows.slot_tuple_getitem ht.typeIs entry_tuple_getitem ?_ (args_tuple_getitem _ _)))))
  show wpAny _ _ (Builtin.Tuple.tupleItemsOf (.ref t) >>= _) _ _ s
  refine wpAny_bind (tupleItemsOf_ ht (wpAny_bind (wpAny_typeOf hTs ?_)))
  rw [if_pos (by decide)]
  have adj : Builtin.Slice.sliceAdjust none none (-1) (items.size : Int) = ((items.size : Int) - 1, -1) := rfl
  have plc : Builtin.Slice.slicePlaces ((items.size : Int) - 1) (-1) (-1) = items.size := by
    unfold Builtin.Slice.slicePlaces
    rw [if_neg (by decide)]
    split
    · simp
    · omega
  have app : wpAny (model prog w) A.in1 (Builtin.Slice.sliceApplied (.ref sl) (pure (items.size : Int))) (fun p s' => p = ((items.size : Int) - 1, (-1 : Int), items.size) ∧ s' = s) (fun _ _ => False) s := by
    unfold Builtin.Slice.sliceApplied Builtin.Slice.sliceFields
    refine wpAny_bind (wpAny_bind (wpAny_field hos hds (x := vl) rfl (wpAny_bind (wpAny_field hos hds (x := vu) rfl (wpAny_bind (wpAny_field hos hds (x := vs) rfl (wpAny_pure ?_)))))))
    refine wpAny_bind (HT.slicePart_ ps ?_)
    show wpAny _ _ (if ((-1 : Int) == 0) = true then _ else _) _ _ s
    rw [if_neg (by decide)]
    refine wpAny_bind (HT.slicePart_ pl (wpAny_bind (HT.slicePart_ pu (wpAny_bind (wpAny_pure ?_)))))
    show wpAny _ _ (match Builtin.Slice.sliceAdjust none none (-1) (items.size : Int) with | (lo, hi) => pure (lo, (-1 : Int), Builtin.Slice.slicePlaces lo hi (-1))) _ _ s
    rw [adj]
    show wpAny _ _ (pure ((items.size : Int) - 1, (-1 : Int), Builtin.Slice.slicePlaces ((items.size : Int) - 1) (-1) (-1))) _ _ s
    rw [plc]
    exact wpAny_pure ⟨rfl, rfl⟩
  refine wpAny_bind (wpAny_mono app (fun p s' ⟨e1, e2⟩ => ?_) fun _ _ z => False.elim z)
  subst e1 e2
  show wpAny _ _ (if (((items.size : Int) - 1) == 0 && (-1 : Int) == 1 && items.size == items.size) = true then _ else _) _ _ s'
  rw [if_neg (by simp)]
  have pick : ((List.range items.size).filterMap fun (k : Nat) => items[((items.size : Int) - 1 + (k : Int) * (-1)).toNat]?).toArray = items.toList.reverse.toArray := by
    congr 1
    have e : ∀ n (l : List Value), l.length = n → (List.range n).filterMap (fun (k : Nat) => l[(((n : Nat) : Int) - 1 + (k : Int) * (-1)).toNat]?) = l.reverse := by
      intro n l hl
      have e1 : (List.range n).filterMap (fun (k : Nat) => l[(((n : Nat) : Int) - 1 + (k : Int) * (-1)).toNat]?) = (List.range n).filterMap (fun (k : Nat) => l.reverse[k]?) := by
        apply fm_congr
        intro k hk
        have hk' : k < n := List.mem_range.mp hk
        rw [List.getElem?_reverse (by omega)]
        congr 1
        omega
      rw [e1]
      have e2 : ∀ (m : List Value) (j : Nat), j = m.length → (List.range j).filterMap (fun (k : Nat) => m[k]?) = m := by
        intro m
        induction m with
        | nil => intro j hj; subst hj; rfl
        | cons x m ih =>
          intro j hj
          subst hj
          rw [List.length_cons, List.range_succ_eq_map, List.filterMap_cons]
          show x :: ((List.range m.length).map Nat.succ).filterMap (fun (k : Nat) => (x :: m)[k]?) = x :: m
          rw [List.filterMap_map]
          congr 1
          exact ih m.length rfl
      exact e2 _ n (by rw [List.length_reverse, hl])
    have e3 := e items.size items.toList (by simp)
    rw [← e3]
    apply fm_congr
    intro k _
    simp
  rw [pick]
  first
    | exact wpAny_bind (m := Builtin.Tuple.tupleExact _) (wpAny_newObj_type (wpAny_pure ⟨_, rfl, wpAny_pure h⟩) fits)
    | exact wpAny_bind (m := Builtin.Tuple.tupleExact _) (wpAny_newObj_type (wpAny_bind (wpAny_pure (wpAny_pure ⟨_, rfl, wpAny_pure h⟩))) fits)
    | exact wpAny_bind (wpAny_bind (m := Builtin.Tuple.tupleExact _) (wpAny_newObj_type (wpAny_pure (wpAny_pure ⟨_, rfl, wpAny_pure h⟩)) fits))
theorem Reps.reverse {K : PySem.W.Frag} {α : Al} {H : Hp} : ∀ {ds : List D} {vs : List V}, Reps K α H ds vs → Reps K α H ds.reverse vs.reverse
  | _, _, .nil => .nil
  | _, _, .cons r t => by
    rw [List.reverse_cons, List.reverse_cons]
    exact (Reps.reverse t).append (.one r)
def tRevT (K : PySem.W.Frag) (te : TE) : TE := fun σ H Q => te σ H fun x H1 => ∃ a xs, x = .ref a ∧ SqT K H1 a xs ∧ ∀ p, H1 p = none → Q (.ref p) (upd H1 p (.tup xs.reverse))
theorem pe_revT {e : Expr} {te : TE} {k : Nat} {p1 p2 p3 pos : Pos} (he : PE X e te) : PE X (.Subscript e (.Slice none none (some (.UnaryOp .USub (.Constant (.int 1) k p1) p2)) p3) pos) (tRevT X.K te) := by
  refine ⟨fun pins s σ H Q I h => Subscript_ (thn (he.run pins s σ H _ I h) fun v s1 ⟨x, H1, I1, r1, a, xs, ex, hx, q⟩ => ?_)⟩
  subst ex
  cases r1
  have one : PO X (some (.UnaryOp .USub (.Constant (.int 1) k p1) p2)) (tPart (tUn (rU fun i => .int (-i)) (tC (.int 1)))) := po_some (pe_un un_neg pe_int)
  refine wpAny_Slice (thn (po_none.run pins s1 σ H1 (fun o H2 => o = none ∧ H2 = H1) I1 ⟨rfl, rfl⟩) fun vl s2 ⟨l, H2, I2, pl, el, e2⟩ => ?_)
  subst el e2
  refine thn (po_none.run pins s2 σ H2 (fun o H3 => o = none ∧ H3 = H2) I2 ⟨rfl, rfl⟩) fun vu s3 ⟨u, H3, I3, pu, eu, e3⟩ => ?_
  subst eu e3
  refine thn (one.run pins s3 σ H3 (fun o H4 => o = some (-1) ∧ H4 = H3) I3 ⟨1, rfl, -1, rfl, rfl, rfl⟩) fun vs s4 ⟨o, H4, I4, ps, eo, e4⟩ => ?_
  subst eo e4
  have I5 : L2.Inv X pins σ H4 { s4 with heap := s4.heap.push { cls := .type "slice", data := .fields #[vl, vu, vs] } } := I4.kept (t' := s4.toks) fun b ob q => Heap.get?_push_of_some _ q
  obtain ⟨its, r, ht, hz⟩ := I5.tuple hx
  have hlen := r.length
  show wpAny (model X.prog X.w) X.A (subscriptTail e (.Slice none none (some (.UnaryOp .USub (.Constant (.int 1) k p1) p2)) p3) (.ref a) (.ref s4.heap.objs.size)) (EP X pins σ Q) X.xe { s4 with heap := s4.heap.push { cls := .type "slice", data := .fields #[vl, vu, vs] } }
  refine tail_any (ops := [.ref a, .ref s4.heap.objs.size]) ht.typeIs PyProof.Rows.slot_tuple_getitem.lookup (tup_back ht (Heap.IsSliceOf.new _ vl vu vs) pl pu ps ?_ (by rw [List.size_toArray]; omega)) (by with_unfolding_all rfl)
  refine ⟨.ref _, _, I5.laid (t' := s4.toks) (o := .tup xs.reverse) (fun b ob q => Heap.get?_push_of_some _ q) (Nat.le_refl _) ?_, rfl, q _ (I5.hok.fresh (Nat.le_refl _))⟩
  exact ⟨by rw [List.length_reverse]; exact hz, _, r.reverse, IsTup.new _ _⟩
def gRev (h : IHp) (d : D) : Option D := match d with
  | .tup ds => some (.tup ds.reverse)
  | d => (lstOf h d).map fun ds => .lst ds.reverse
def mRev (m : ME) : ME := fun σ h => (m σ h).bind fun d h => R.opt (gRev h d) h
theorem de_rev {e : Expr} {m : ME} {k : Nat} {p1 p2 p3 pos : Pos} (he : DE X e m) : DE X (.Subscript e (.Slice none none (some (.UnaryOp .USub (.Constant (.int 1) k p1) p2)) p3) pos) (mRev m) := fun W tk => ⟨fun pins s σ H Q I ⟨α, iσ, ih, h, ss, g⟩ => by
  have g' := g
  unfold mRev at g
  cases em : m iσ ih with
  | bad => rw [em] at g; exact g.elim
  | ex c h' =>
    refine (pe_revT (he W tk)).run pins s σ H Q I ⟨α, iσ, ih, h, ss, ?_⟩
    rw [em] at g ⊢
    exact g
  | ok d h' =>
    rw [em] at g
    cases ez : gRev h' d with
    | none => 
      have g2 : Go X.K X.mg (fun c H' => W c none σ H') (Rep X.K) α H (R.opt (gRev h' d) h') Q := g
      rw [ez] at g2
      exact g2.elim
    | some z =>
    have g2 : Go X.K X.mg (fun c H' => W c none σ H') (Rep X.K) α H (R.opt (gRev h' d) h') Q := g
    rw [ez] at g2
    have fz2 : ∀ {α1 : Al} {v : V} {H1 : Hp}, Ext α H α1 H1 → RH X.K α1 H1 h' → Rep X.K α1 H1 z v → Q v H1 := fun {α1 v H1} a b c => g2 α1 v H1 a b c
    unfold gRev at ez
    split at ez
    · cases ez
      refine (pe_revT (he W tk)).run pins s σ H Q I ⟨α, iσ, ih, h, ss, ?_⟩
      rw [em]
      intro α1 v H1 x1 h1 r1
      cases r1 with
      | tup q rs => exact ⟨_, _, rfl, q, fun p n => fz2 (x1.trans (Ext.new n)) (h1.new n) (.tup (.inl (.inl upd_same)) (rs.reverse.ext h1 (Ext.new n)))⟩
    · cases el : lstOf h' d with
      | none => rw [el] at ez; cases ez
      | some ds =>
        rw [el] at ez
        cases ez
        refine (pe_revL (he W tk)).run pins s σ H Q I ⟨α, iσ, ih, h, ss, ?_⟩
        rw [em]
        intro α1 v H1 x1 h1 r1
        obtain ⟨a, vs, e1, q, rs⟩ := lst_rep h1 r1 el
        exact ⟨a, vs, e1, .inl q, fun p n => fz2 (x1.trans (Ext.new n)) (h1.new n) (.lst ⟨.inl upd_same, h1.free n, h1.freeH n⟩ (rs.reverse.ext h1 (Ext.new n)))⟩⟩
end
end Dn

set_option Elab.async false
set_option linter.all false
set_option maxRecDepth 100000
set_option maxHeartbeats 4000000
/-! reckoning with denotations: what unfolds by itself -/
namespace Dn
open PySem L2
/-- of a flag -/
def onB {β : Type} (d : D) (f : Bool → R β) : R β := match d with
  | .bl b => f b
  | _ => .bad
@[simp] theorem onB_bl {β : Type} {b : Bool} {f : Bool → R β} : onB (.bl b) f = f b := (rfl)
@[simp] theorem ite_ok {β : Type} {c : Prop} [Decidable c] {x y : β} {h : IHp} : (if c then R.ok x h else R.ok y h) = R.ok (if c then x else y) h := by split <;> rfl
@[simp] theorem ite_rt {c : Prop} [Decidable c] {x y : D} {h : IHp} : (if c then RT.rt x h else RT.rt y h) = RT.rt (if c then x else y) h := by split <;> rfl
@[simp] theorem ite_bl {c : Prop} [Decidable c] {x y : Bool} : (if c then D.bl x else D.bl y) = D.bl (if c then x else y) := by split <;> rfl
section
variable {σ s : ISt} {h : IHp} {d : D} {m a b c : ME} {t u : MT} {ms : MA} {i n : Nat} {g g' : Op2}
@[simp] theorem mVar_some (e : σ[i]? = some (some d)) : mVar i σ h = .ok d h := by unfold mVar; rw [e]
@[simp] theorem mC_eq : mC d σ h = .ok d h := (rfl)
@[simp] theorem mNil_eq : mNil σ h = .ok [] h := (rfl)
@[simp] theorem mCons_eq : mCons m ms σ h = (m σ h).bind fun d h => (ms σ h).bind fun ds h => .ok (d :: ds) h := (rfl)
@[simp] theorem mOp_eq : mOp g a b σ h = (a σ h).bind fun x h => (b σ h).bind fun y h => R.opt (g h x y) h := (rfl)
@[simp] theorem opt_some {β : Type} {x : β} : R.opt (some x) h = .ok x h := (rfl)
@[simp] theorem opt_none {β : Type} : R.opt (none : Option β) h = .bad := (rfl)
@[simp] theorem mB_eq : mB m σ h = (m σ h).bind fun d h => onB d fun b => .ok b h := (rfl)
@[simp] theorem mTru_eq : mTru m σ h = (m σ h).bind fun d h => R.opt (truD h d) h := (rfl)
@[simp] theorem truD_bl {x : Bool} : truD h (.bl x) = some x := (rfl)
@[simp] theorem truD_int {x : Int} : truD h (.int x) = some (x != 0) := (rfl)
@[simp] theorem truD_non : truD h .non = some false := (rfl)
@[simp] theorem truD_tup {ds : List D} : truD h (.tup ds) = some !ds.isEmpty := (rfl)
@[simp] theorem truD_lst {ds : List D} : truD h (.lst ds) = some !ds.isEmpty := (rfl)
@[simp] theorem mAnd_eq : mAnd t u σ h = (t σ h).bind fun c h => if c = true then u σ h else .ok false h := (rfl)
@[simp] theorem mOr_eq : mOr t u σ h = (t σ h).bind fun c h => if c = true then .ok true h else u σ h := (rfl)
@[simp] theorem mNot_eq : mNot t σ h = (t σ h).bind fun c h => .ok (!c) h := (rfl)
@[simp] theorem mAndV_eq : mAndV a b σ h = (a σ h).bind fun c h => onB c fun k => if k = true then b σ h else .ok (.bl false) h := by
  unfold mAndV
  congr 1
  funext c h
  cases c <;> first | rfl | (rename_i k; cases k <;> rfl)
@[simp] theorem mOrV_eq : mOrV a b σ h = (a σ h).bind fun c h => onB c fun k => if k = true then .ok (.bl true) h else b σ h := by
  unfold mOrV
  congr 1
  funext c h
  cases c <;> first | rfl | (rename_i k; cases k <;> rfl)
@[simp] theorem mNotV_eq : mNotV a σ h = (a σ h).bind fun c h => onB c fun b => .ok (.bl (!b)) h := (rfl)
@[simp] theorem mIf_eq : mIf t a b σ h = (t σ h).bind fun c h => if c = true then a σ h else b σ h := (rfl)
@[simp] theorem mChain_eq : mChain g g' a b c σ h = (a σ h).bind fun x h => (b σ h).bind fun y h => (R.opt (g h x y) h).bind fun z h => onB z fun k => if k = true then (c σ h).bind fun w h => R.opt (g' h y w) h else .ok (.bl false) h := by
  unfold mChain
  congr 1
  funext x h
  congr 1
  funext y h
  congr 1
  funext z h
  cases z <;> first | rfl | (rename_i k; cases k <;> rfl)
@[simp] theorem mTup_eq : mTup ms σ h = (ms σ h).bind fun ds h => if ds.length ≤ sizeLine then .ok (.tup ds) h else .bad := (rfl)
@[simp] theorem mLst_eq : mLst ms σ h = (ms σ h).bind fun ds h => if ds.length ≤ sizeLine then .ok (.lst ds) h else .bad := (rfl)
@[simp] theorem mNew_eq : mNew ms σ h = (ms σ h).bind fun ds h => if ds.length ≤ sizeLine then .ok (.ref h.length) (h ++ [.lst ds]) else .bad := (rfl)
@[simp] theorem mNeg_eq : mNeg m σ h = (m σ h).bind fun d h => match d with | .int i => .ok (.int (-i)) h | _ => .bad := (rfl)
@[simp] theorem mIsi_eq {T : String} : mIsi T m σ h = (m σ h).bind fun d h => .ok (.bl (isTy (tyD h d) T)) h := (rfl)
@[simp] theorem mB1_eq {g : GA} : mB1 g ms σ h = (ms σ h).bind fun ds h => R.opt (g h ds) h := (rfl)
@[simp] theorem mCall_eq {f : MF} : mCall n f ms σ h = (ms σ h).bind fun ds h => if ds.length = n then f ds h else .bad := (rfl)
@[simp] theorem mSl_eq {l r : MO} : mSl m l r σ h = (m σ h).bind fun x h => (l σ h).bind fun lo h => (r σ h).bind fun hi h => R.opt (gSl h x lo hi) h := (rfl)
@[simp] theorem mPart_eq : mPart m σ h = (m σ h).bind fun d h => match d with | .int i => .ok (some i) h | _ => .bad := (rfl)
@[simp] theorem mNoPart_eq : mNoPart σ h = .ok none h := (rfl)
@[simp] theorem mRev_eq : mRev m σ h = (m σ h).bind fun d h => R.opt (gRev h d) h := (rfl)
@[simp] theorem mApp_eq : mApp a m σ h = (a σ h).bind fun o h => if isSeqL h o = true then (m σ h).bind fun v h => match gApp h o v with | some h' => .ok .non h' | none => .bad else .bad := (rfl)
@[simp] theorem mR1_eq : mR1 m σ h = (m σ h).bind fun d h => match d with | .int n => .ok ((0 : Int), n) h | _ => .bad := (rfl)
@[simp] theorem mR2_eq : mR2 m a σ h = (m σ h).bind fun d h => (a σ h).bind fun e h => match d, e with | .int a, .int b => .ok (a, b) h | _, _ => .bad := (rfl)
@[simp] theorem mLstR_eq {r : MR} : mLstR r σ h = (r σ h).bind fun p h => if rgOk p.1 p.2 = true then .ok (.lst (rngD p.1 (p.2 - p.1).toNat)) h else .bad := (rfl)
@[simp] theorem mTupR_eq {r : MR} : mTupR r σ h = (r σ h).bind fun p h => if rgOk p.1 p.2 = true then .ok (.tup (rngD p.1 (p.2 - p.1).toNat)) h else .bad := (rfl)
@[simp] theorem mSortSet_eq : mSortSet m σ h = (m σ h).bind fun d h => R.opt (gSortSet h d) h := (rfl)
@[simp] theorem mIt_eq : mIt m σ h = (m σ h).bind fun d h => R.opt (itOf h d) h := (rfl)
@[simp] theorem mEnum_eq : mEnum ms σ h = (ms σ h).bind fun ds h => R.opt (enumOf ds) h := (rfl)
@[simp] theorem mRng1_eq : mRng1 ms σ h = (ms σ h).bind fun ds h => R.opt (rng1 ds) h := (rfl)
@[simp] theorem mRng2_eq : mRng2 ms σ h = (ms σ h).bind fun ds h => R.opt (rng2 ds) h := (rfl)
@[simp] theorem mYes_eq : mYes σ h = .ok true h := (rfl)
/-! statements -/
variable {x y : MS}
@[simp] theorem sRet_eq : sRet m s h = bindS (m s h) s fun d h => .rt d h := (rfl)
@[simp] theorem sExpr_eq : sExpr m s h = bindS (m s h) s fun _ h => .nx s h := (rfl)
@[simp] theorem sNx_eq : sNx s h = .nx s h := (rfl)
@[simp] theorem sNever_eq : sNever s h = .bad := (rfl)
@[simp] theorem sIf_eq : sIf t x y s h = bindS (t s h) s fun c h => if c = true then x s h else y s h := (rfl)
@[simp] theorem sSet_eq : sSet i m s h = bindS (m s h) s fun d h => .nx (s.set i (some d)) h := (rfl)
@[simp] theorem sSeq_eq : sSeq x y s h = match x s h with | .nx s h => y s h | r => r := (rfl)
@[simp] theorem sAsg_eq {t : Tg} : sAsg m t s h = bindS (m s h) s fun d h => match t.set d s with | some s' => .nx s' h | none => .bad := (rfl)
@[simp] theorem sPar_eq {j : Nat} : sPar i j ms s h = bindS (ms s h) s fun ds h => match ds with | [d, e] => .nx ((s.set i (some d)).set j (some e)) h | _ => .bad := (rfl)
@[simp] theorem sSt_eq : sSt m a b s h = bindS (m s h) s fun v h => bindS (a s h) s fun o h => bindS (b s h) s fun i h => match gSt h o i v with | some h' => .nx s h' | none => .bad := (rfl)
@[simp] theorem sFor_eq {mi : MI} {t : Tg} : sFor mi t x s h = bindS (mi s h) s fun g h => loopD g t x g.1 s h := (rfl)
@[simp] theorem mLc_eq {mi : MI} {tg : Tg} {vs : List Nat} : mLc mi tg t m vs s h = (mi s h).bind fun g h => (lcD g tg t m (wipeD s vs) g.1 [] h).bind fun ds h => .ok (.lst ds) h := (rfl)
@[simp] theorem sSetLc_eq {mi : MI} {tg : Tg} {vs : List Nat} : sSetLc i mi tg t m vs s h = bindS ((mi s h).bind fun g h => (lcD g tg t m (wipeD s vs) g.1 [] h).bind fun ds h => .ok (.lst ds) h) s fun d h => .nx (s.set i (some d)) h := (rfl)
/-- the slots of a call -/
@[simp] theorem runD_eq {ds : List D} : runD n x ds h = match x (ds.map some ++ List.replicate (n - ds.length) Option.none) h with
  | .nx _ h => .ok .non h
  | .rt d h => .ok d h
  | .ex c _ h => .ex c h
  | _ => .bad := rfl
/-! values -/
variable {p q : Int} {v w : D} {ds es : List D}
@[simp] theorem gSub_int : gSub h (.int p) (.int q) = some (.int (p - q)) := (rfl)
@[simp] theorem gAdd_int : gAdd h (.int p) (.int q) = some (.int (p + q)) := (rfl)
@[simp] theorem gLt_int : gLt h (.int p) (.int q) = some (.bl (decide (p < q))) := (rfl)
@[simp] theorem gLe_int : gLe h (.int p) (.int q) = some (.bl (decide (p ≤ q))) := (rfl)
@[simp] theorem gGt_int : gGt h (.int p) (.int q) = some (.bl (decide (q < p))) := (rfl)
@[simp] theorem gGe_int : gGe h (.int p) (.int q) = some (.bl (decide (q ≤ p))) := (rfl)
@[simp] theorem gEq_int : gEq h (.int p) (.int q) = some (.bl (decide (p = q))) := by
  show (if SeqAt.shaped (.int p) = true ∧ SeqAt.shaped (.int q) = true then some (D.bl (PyData.eqv (.int p) (.int q))) else none) = _
  rw [if_pos ⟨rfl, rfl⟩, PyData.eqv, Bool.beq_eq_decide_eq]
@[simp] theorem gNe_int : gNe h (.int p) (.int q) = some (.bl (!decide (p = q))) := by
  show (if SeqAt.shaped (.int p) = true ∧ SeqAt.shaped (.int q) = true then some (D.bl (!PyData.eqv (.int p) (.int q))) else none) = _
  rw [if_pos ⟨rfl, rfl⟩, PyData.eqv, Bool.beq_eq_decide_eq]
@[simp] theorem gEq_str {a b : Str} : gEq h (.str a) (.str b) = some (.bl (decide (a = b))) := (rfl)
@[simp] theorem gNe_str {a b : Str} : gNe h (.str a) (.str b) = some (.bl (!decide (a = b))) := (rfl)
@[simp] theorem gIsN_eq : gIsN h v .non = some (.bl v.isNon) := (rfl)
@[simp] theorem gNotN_eq : gNotN h v .non = some (.bl (!v.isNon)) := (rfl)
@[simp] theorem isNon_non : D.isNon .non = true := (rfl)
@[simp] theorem isNon_int : D.isNon (.int p) = false := (rfl)
@[simp] theorem isNon_tup : D.isNon (.tup ds) = false := (rfl)
@[simp] theorem gLen_tup : gLen h [.tup ds] = some (.int ds.length) := (rfl)
@[simp] theorem gLen_lst : gLen h [.lst ds] = some (.int ds.length) := (rfl)
@[simp] theorem gIx_tup : gIx h (.tup ds) (.int p) = atI ds p := (rfl)
@[simp] theorem gIx_lst : gIx h (.lst ds) (.int p) = atI ds p := (rfl)
theorem gLen_ref (e : h[n]? = some (.lst ds)) : gLen h [.ref n] = some (.int ds.length) := by
  show (seqOf h (.ref n)).map _ = _
  unfold seqOf lstOf
  dsimp only
  rw [e]
  rfl
theorem gIx_ref (e : h[n]? = some (.lst ds)) : gIx h (.ref n) (.int p) = atI ds p := by
  show (seqOf h (.ref n)).bind _ = _
  unfold seqOf lstOf
  dsimp only
  rw [e]
  rfl
@[simp] theorem gInt_int : gInt h [.int p] = some (.int p) := (rfl)
@[simp] theorem gAbs_int : gAbs h [.int p] = some (.int (if p < 0 then -p else p)) := (rfl)
@[simp] theorem gMax_int : gMax h [.int p, .int q] = some (.int (if q > p then q else p)) := (rfl)
@[simp] theorem gMin_int : gMin h [.int p, .int q] = some (.int (if q < p then q else p)) := (rfl)
@[simp] theorem gTupOf_tup : gTupOf h [.tup ds] = some (.tup ds) := (rfl)
@[simp] theorem gTupOf_lst : gTupOf h [.lst ds] = some (.tup ds) := (rfl)
@[simp] theorem gLstOf_tup : gLstOf h [.tup ds] = some (.lst ds) := (rfl)
@[simp] theorem gLstOf_lst : gLstOf h [.lst ds] = some (.lst ds) := (rfl)
@[simp] theorem gSl_tup {lo hi : Option Int} : gSl h (.tup ds) lo hi = some (.tup (cutD ds lo hi)) := (rfl)
@[simp] theorem gSl_lst {lo hi : Option Int} : gSl h (.lst ds) lo hi = some (.lst (cutD ds lo hi)) := (rfl)
@[simp] theorem gSl_scr {lo hi : Option Int} : gSl h (.scr ds) lo hi = some (.lst (cutD ds lo hi)) := (rfl)
@[simp] theorem gRev_tup : gRev h (.tup ds) = some (.tup ds.reverse) := (rfl)
@[simp] theorem itOf_tup : itOf h (.tup ds) = some (ds, none) := (rfl)
@[simp] theorem itOf_lst : itOf h (.lst ds) = some (ds, none) := (rfl)
@[simp] theorem enumOf_tup : enumOf [.tup ds] = some (enumD ds, none) := (rfl)
@[simp] theorem enumOf_lst : enumOf [.lst ds] = some (enumD ds, none) := (rfl)
theorem gAdd_tup (hz : ds.length + es.length ≤ sizeLine) : gAdd h (.tup ds) (.tup es) = some (.tup (ds ++ es)) := by
  show (if ds.length + es.length ≤ sizeLine then some (D.tup (ds ++ es)) else none) = _
  rw [if_pos hz]
theorem gAdd_lst (hz : ds.length + es.length ≤ sizeLine) : gAdd h (.lst ds) (.lst es) = some (.lst (ds ++ es)) := by
  show (if ds.length + es.length ≤ sizeLine then some (D.lst (ds ++ es)) else none) = _
  rw [if_pos hz]
theorem gMul_r (hq : q.natAbs < 2 ^ 64) : gMul h (.int p) (.int q) = some (.int (p * q)) := by
  show (if mulOk p q = true then some (D.int (p * q)) else none) = _
  rw [if_pos (by unfold mulOk; rw [decide_eq_true hq]; simp)]
theorem gMul_l (hp : p.natAbs < 2 ^ 64) : gMul h (.int p) (.int q) = some (.int (p * q)) := by
  show (if mulOk p q = true then some (D.int (p * q)) else none) = _
  rw [if_pos (by unfold mulOk; rw [decide_eq_true hp]; simp)]
theorem gDiv_int (h0 : 0 < q) (hq : q.natAbs < 2 ^ 9000) : gDiv h (.int p) (.int q) = some (.int (p / q)) := by
  show (if (decide (0 < q) && decide (q.natAbs < 2 ^ 9000)) = true then some (D.int (p / q)) else none) = _
  rw [decide_eq_true h0, decide_eq_true hq]
  rfl
theorem gMod_int (h0 : 0 < q) : gMod h (.int p) (.int q) = some (.int (p % q)) := by
  show (if decide (0 < q) = true then some (D.int (p % q)) else none) = _
  rw [decide_eq_true h0]
  rfl
theorem gPow_int (h0 : 0 ≤ q) (h1 : q ≤ 1000000) (h2 : p.natAbs < 2 ^ 64) : gPow h (.int p) (.int q) = some (.int (p ^ q.toNat)) := by
  show (if (decide (0 ≤ q) && decide (q ≤ 1000000) && decide (p.natAbs < 2 ^ 64)) = true then some (D.int (p ^ q.toNat)) else none) = _
  rw [decide_eq_true h0, decide_eq_true h1, decide_eq_true h2]
  rfl
theorem rng1_eq (h1 : -(2 ^ 62) ≤ p) (h2 : p < 2 ^ 62) : rng1 [.int p] = some (rngD 0 p.toNat, none) := by
  show (if -(2 ^ 62) ≤ p ∧ p < 2 ^ 62 then _ else _) = _
  rw [if_pos ⟨h1, h2⟩]
theorem rng2_eq (h1 : -(2 ^ 62) ≤ p) (h2 : p < 2 ^ 62) (h3 : -(2 ^ 62) ≤ q) (h4 : q < 2 ^ 62) : rng2 [.int p, .int q] = some (rngD p (q - p).toNat, none) := by
  show (if -(2 ^ 62) ≤ p ∧ p < 2 ^ 62 ∧ -(2 ^ 62) ≤ q ∧ q < 2 ^ 62 then _ else _) = _
  rw [if_pos ⟨h1, h2, h3, h4⟩]
@[simp] theorem isTy_int_int : isTy (tyD h (.int p)) "int" = true := (rfl)
@[simp] theorem isTy_int_bool : isTy (tyD h (.int p)) "bool" = false := (rfl)
end
theorem rgOk_ok {a b : Int} (h1 : -(2 ^ 62) ≤ a) (h2 : a < 2 ^ 62) (h3 : -(2 ^ 62) ≤ b) (h4 : b < 2 ^ 62) (h5 : (b - a).toNat ≤ 2 ^ 24) : rgOk a b = true := by
  unfold rgOk
  rw [decide_eq_true h1, decide_eq_true h2, decide_eq_true h3, decide_eq_true h4, decide_eq_true h5]
  rfl
@[simp] theorem sl_0 : 0 ≤ sizeLine := by decide
@[simp] theorem sl_1 : 1 ≤ sizeLine := by decide
@[simp] theorem sl_2 : 2 ≤ sizeLine := by decide
@[simp] theorem sl_3 : 3 ≤ sizeLine := by decide
@[simp] theorem sl_4 : 4 ≤ sizeLine := by decide
@[simp] theorem sl_5 : 5 ≤ sizeLine := by decide
@[simp] theorem sl_6 : 6 ≤ sizeLine := by decide
@[simp] theorem sl_7 : 7 ≤ sizeLine := by decide
@[simp] theorem sl_8 : 8 ≤ sizeLine := by decide
@[simp] theorem sl_9 : 9 ≤ sizeLine := by decide
@[simp] theorem sl_10 : 10 ≤ sizeLine := by decide
@[simp] theorem sl_11 : 11 ≤ sizeLine := by decide
@[simp] theorem sl_12 : 12 ≤ sizeLine := by decide
@[simp] theorem sl_13 : 13 ≤ sizeLine := by decide
@[simp] theorem sl_14 : 14 ≤ sizeLine := by decide
@[simp] theorem sl_15 : 15 ≤ sizeLine := by decide
@[simp] theorem sl_p : 0 < sizeLine := by decide
theorem mTupR_ok {r : MR} {σ : ISt} {h h' : IHp} {a b : Int} (e : r σ h = .ok (a, b) h') (o : rgOk a b = true) : mTupR r σ h = .ok (.tup (rngD a (b - a).toNat)) h' := by
  rw [mTupR_eq, e, R.bind_ok, if_pos o]
theorem mLstR_ok {r : MR} {σ : ISt} {h h' : IHp} {a b : Int} (e : r σ h = .ok (a, b) h') (o : rgOk a b = true) : mLstR r σ h = .ok (.lst (rngD a (b - a).toNat)) h' := by
  rw [mLstR_eq, e, R.bind_ok, if_pos o]
/-! ### comprehensions, loops -/
@[simp] theorem stable_none {ds : List D} {h : IHp} : Stable (ds, none) h = True := by
  apply propext
  exact ⟨fun _ => trivial, fun _ n e => nomatch e⟩
/-- nothing in the heap is changed -/
theorem lcD_pure {g : It1} {t : Tg} {c : MT} {e : ME} {s0 : ISt} {h : IHp} (p : D → Bool) (f : D → D) (st : Stable g h) : ∀ (ds acc : List D), (∀ d ∈ ds, ∃ s1, t.set d s0 = some s1 ∧ c s1 h = .ok (p d) h ∧ (p d = true → e s1 h = .ok (f d) h)) →
    acc.length + ds.length ≤ sizeLine → lcD g t c e s0 ds acc h = .ok (acc ++ (ds.filter p).map f) h
  | [], acc, _, _ => by rw [lcD, if_pos st]; simp
  | d :: ds, acc, hd, hz => by
    obtain ⟨s1, e1, e2, e3⟩ := hd d List.mem_cons_self
    rw [List.length_cons] at hz
    rw [lcD, if_pos st, e1]
    dsimp only
    rw [e2]
    show (if p d = true then _ else _) = _
    cases hp : p d with
    | true =>
      rw [if_pos rfl, e3 hp]
      show (if acc.length < sizeLine then _ else _) = _
      rw [if_pos (by omega), lcD_pure p f st ds _ (fun d' m => hd d' (List.mem_cons_of_mem _ m)) (by rw [List.length_append, List.length_singleton]; omega), List.filter_cons, if_pos hp]
      simp
    | false =>
      rw [if_neg Bool.false_ne_true, lcD_pure p f st ds _ (fun d' m => hd d' (List.mem_cons_of_mem _ m)) (by omega), List.filter_cons, hp]
      rfl
/-- with an invariant of the heap; G tells what is made of an item -/
theorem lcD_inv {g : It1} {t : Tg} {c : MT} {e : ME} {s0 : ISt} (P : IHp → Prop) (G : D → Prop) (st : ∀ h, P h → Stable g h) : ∀ (ds acc : List D) (h : IHp), P h →
    (∀ d ∈ ds, ∀ h, P h → ∃ s1 b h1, t.set d s0 = some s1 ∧ c s1 h = .ok b h1 ∧ P h1 ∧ (b = true → ∃ v h2, e s1 h1 = .ok v h2 ∧ P h2 ∧ G v)) → (∀ v ∈ acc, G v) →
    acc.length + ds.length ≤ sizeLine → ∃ vs h', lcD g t c e s0 ds acc h = .ok vs h' ∧ P h' ∧ (∀ v ∈ vs, G v) ∧ vs.length ≤ acc.length + ds.length
  | [], acc, h, ph, _, ga, _ => by
    rw [lcD, if_pos (st h ph)]
    exact ⟨acc, h, rfl, ph, ga, Nat.le_refl _⟩
  | d :: ds, acc, h, ph, hd, ga, hz => by
    obtain ⟨s1, b, h1, e1, e2, p1, e3⟩ := hd d List.mem_cons_self h ph
    rw [List.length_cons] at hz
    rw [lcD, if_pos (st h ph), e1]
    dsimp only
    rw [e2]
    show ∃ vs h', (if b = true then _ else _) = R.ok vs h' ∧ _
    cases b with
    | true =>
      obtain ⟨v, h2, e4, p2, gv⟩ := e3 rfl
      rw [if_pos rfl, e4]
      show ∃ vs h', (if acc.length < sizeLine then _ else _) = R.ok vs h' ∧ _
      rw [if_pos (by omega)]
      obtain ⟨vs, h', q1, q2, q3, q4⟩ := lcD_inv P G st ds (acc ++ [v]) h2 p2 (fun d' m => hd d' (List.mem_cons_of_mem _ m)) (fun w m => by
        rcases List.mem_append.mp m with m | m
        · exact ga w m
        · rw [List.mem_singleton.mp m]; exact gv) (by rw [List.length_append, List.length_singleton]; omega)
      exact ⟨vs, h', q1, q2, q3, by rw [List.length_append, List.length_singleton] at q4; rw [List.length_cons]; omega⟩
    | false =>
      rw [if_neg Bool.false_ne_true]
      obtain ⟨vs, h', q1, q2, q3, q4⟩ := lcD_inv P G st ds acc h1 p1 (fun d' m => hd d' (List.mem_cons_of_mem _ m)) ga (by omega)
      exact ⟨vs, h', q1, q2, q3, by rw [List.length_cons]; omega⟩
/-- a loop that goes on, or hands back: nothing in the heap is changed -/
def lastS (s : ISt) (i : Nat) (ds : List D) : ISt := match ds.getLast? with
  | some d => s.set i (some d)
  | none => s
theorem loopD_find {g : It1} {i : Nat} {body : MS} {h : IHp} (p : D → Bool) (r : D → D) (st : Stable g h) : ∀ (ds : List D) (s : ISt), (∀ d ∈ ds, body (s.set i (some d)) h = if p d = true then .rt (r d) h else .nx (s.set i (some d)) h) →
    loopD g (.name i) body ds s h = match ds.find? p with | some d => .rt (r d) h | none => .nx (lastS s i ds) h
  | [], s, _ => by rw [loopD, if_pos st]; rfl
  | d :: ds, s, hb => by
    have ss : ∀ x, (s.set i (some d)).set i x = s.set i x := fun x => by rw [List.set_set]
    rw [loopD, if_pos st, Tg.set]
    dsimp only
    rw [hb d List.mem_cons_self, List.find?_cons]
    cases hp : p d with
    | true => rw [if_pos rfl]
    | false =>
      rw [if_neg Bool.false_ne_true]
      dsimp only
      rw [loopD_find p r st ds (s.set i (some d)) fun d' m => by rw [ss]; exact hb d' (List.mem_cons_of_mem _ m)]
      cases ds.find? p with
      | some x => rfl
      | none =>
        dsimp only
        congr 1
        unfold lastS
        cases ds with
        | nil => rfl
        | cons x xs =>
          rw [List.getLast?_cons_cons, List.getLast?_eq_some_getLast (List.cons_ne_nil x xs)]
          exact ss _
/-- a loop with an invariant that is never left -/
theorem loopD_all {g : It1} {t : Tg} {body : MS} (P : ISt → IHp → Prop) (st : ∀ s h, P s h → Stable g h) : ∀ (ds : List D) (s : ISt) (h : IHp), P s h → (∀ d ∈ ds, ∀ s h, P s h → ∃ s1 s2 h2, t.set d s = some s1 ∧ (body s1 h = .nx s2 h2 ∨ body s1 h = .ct s2 h2) ∧ P s2 h2) →
    ∃ s' h', loopD g t body ds s h = .nx s' h' ∧ P s' h'
  | [], s, h, p, _ => by
    rw [loopD, if_pos (st s h p)]
    exact ⟨s, h, rfl, p⟩
  | d :: ds, s, h, p, hb => by
    obtain ⟨s1, s2, h2, e1, e2, p2⟩ := hb d List.mem_cons_self s h p
    rw [loopD, if_pos (st s h p), e1]
    dsimp only
    rcases e2 with e2 | e2 <;> (rw [e2]; exact loopD_all P st ds s2 h2 p2 fun d' m => hb d' (List.mem_cons_of_mem _ m))
section
end
end Dn

set_option Elab.async false
set_option linter.all false
set_option maxRecDepth 100000
set_option maxHeartbeats 4000000
/-! the drawing hand that all laws share -/
namespace Dn
open PySem L2
/-- the draw of a digit, as gen.py prints it -/
noncomputable def mDraw : MF := runD 5
 (sSeq (sIf (mAnd (mB (mOp gEq (mOp gIx (mVar 0) (mC (.int 2))) (mC (.int 0)))) (mB (mOp gLt (mOp gIx (mVar 0) (mC (.int 1))) (mB1 gLen (mCons (mOp gIx (mVar 0) (mC (.int 0))) mNil)))))
  (sSeq (sSet 2 (mOp gIx (mOp gIx (mVar 0) (mC (.int 0))) (mOp gIx (mVar 0) (mC (.int 1)))))
 (sSeq (sSt (mOp gAdd (mOp gIx (mVar 0) (mC (.int 1))) (mC (.int 1))) (mVar 0) (mC (.int 1)))
 (sSeq (sSt (mOp gMod (mB1 gInt (mCons (mOp gAdd (mOp gAdd (mOp gMul (mOp gIx (mVar 0) (mC (.int 3))) (mC (.int 69621))) (mOp gMul (mVar 2) (mC (.int 48271)))) (mC (.int 811))) mNil)) (mC (.int 2147483629))) (mVar 0) (mC (.int 3)))
 (sIf (mB (mOp gGe (mVar 2) (mOp gPow (mC (.int 10)) (mC (.int 18)))))
  (sSt (mVar 2) (mVar 0) (mC (.int 2)))
  sNx))))
  sNx)
 (sSeq (sIf (mB (mOp gGt (mOp gIx (mVar 0) (mC (.int 2))) (mC (.int 0))))
  (sSeq (sSet 3 (mOp gMod (mB1 gInt (mCons (mOp gIx (mVar 0) (mC (.int 2))) mNil)) (mVar 1)))
 (sSeq (sSt (mOp gDiv (mOp gIx (mVar 0) (mC (.int 2))) (mVar 1)) (mVar 0) (mC (.int 2)))
 (sRet (mVar 3))))
  sNx)
 (sSeq (sSt (mOp gAdd (mOp gIx (mVar 0) (mC (.int 4))) (mC (.int 1))) (mVar 0) (mC (.int 4)))
 (sSeq (sSet 4 (mOp gMod (mB1 gInt (mCons (mOp gMul (mB1 gInt (mCons (mOp gAdd (mOp gIx (mVar 0) (mC (.int 3))) (mOp gMul (mC (.int 7919)) (mOp gIx (mVar 0) (mC (.int 4))))) mNil)) (mC (.int 40692))) mNil)) (mC (.int 2147483647))))
 (sSeq (sSet 4 (mOp gMod (mB1 gInt (mCons (mOp gMul (mVar 4) (mOp gAdd (mOp gDiv (mVar 4) (mC (.int 1009))) (mC (.int 69621)))) mNil)) (mC (.int 2147483647))))
 (sSeq (sSet 4 (mOp gMod (mB1 gInt (mCons (mOp gMul (mVar 4) (mOp gAdd (mOp gDiv (mVar 4) (mC (.int 2003))) (mC (.int 40014)))) mNil)) (mC (.int 2147483563))))
 (sRet (mOp gMod (mB1 gInt (mCons (mOp gDiv (mVar 4) (mC (.int 16))) mNil)) (mVar 1)))))))))
/-- the hand: cells, a place among them, what is left of a great one, a mix, a count -/
def hnd (cs : List Int) (p g m c : Int) : List D := [.lst (cs.map D.int), .int p, .int g, .int m, .int c]
/-- the hand lies at 0 -/
def HO (h : IHp) : Prop := ∃ cs p g m c, h[0]? = some (.lst (hnd cs p g m c)) ∧ 0 ≤ p
/-- the heap is as it was, but for the hand -/
def Hs (h h' : IHp) : Prop := h'.length = h.length ∧ ∀ k, k ≠ 0 → h'[k]? = h[k]?
theorem Hs.refl (h : IHp) : Hs h h := ⟨rfl, fun _ _ => rfl⟩
theorem Hs.trans {a b c : IHp} (x : Hs a b) (y : Hs b c) : Hs a c := ⟨y.1.trans x.1, fun k e => (y.2 k e).trans (x.2 k e)⟩
theorem Hs.set (h : IHp) (o : IO) : Hs h (h.set 0 o) := ⟨List.length_set, fun k e => List.getElem?_set_ne (Ne.symm e)⟩
section
variable {h : IHp} {cs : List Int} {p g m c : Int}
theorem ix0 (e : h[0]? = some (.lst (hnd cs p g m c))) : gIx h (.ref 0) (.int 0) = some (.lst (cs.map D.int)) := gIx_ref e
theorem ix1 (e : h[0]? = some (.lst (hnd cs p g m c))) : gIx h (.ref 0) (.int 1) = some (.int p) := gIx_ref e
theorem ix2 (e : h[0]? = some (.lst (hnd cs p g m c))) : gIx h (.ref 0) (.int 2) = some (.int g) := gIx_ref e
theorem ix3 (e : h[0]? = some (.lst (hnd cs p g m c))) : gIx h (.ref 0) (.int 3) = some (.int m) := gIx_ref e
theorem ix4 (e : h[0]? = some (.lst (hnd cs p g m c))) : gIx h (.ref 0) (.int 4) = some (.int c) := gIx_ref e
theorem st_ (e : h[0]? = some (.lst (hnd cs p g m c))) (k : Nat) (hk : k < 5) (v : D) : gSt h (.ref 0) (.int k) v = some (h.set 0 (.lst ((hnd cs p g m c).set k v))) := by
  unfold gSt
  dsimp only
  rw [e]
  dsimp only
  have : ixN (hnd cs p g m c).length (k : Int) = some k := by
    unfold ixN hnd
    rw [if_pos (by omega), if_pos (by simp; omega)]
    simp
  rw [this]
  rfl
theorem set0 (e : h[0]? = some (.lst (hnd cs p g m c))) (l : List D) : (h.set 0 (.lst l))[0]? = some (.lst l) := by
  have := (List.getElem?_eq_some_iff.mp e).1
  rw [List.getElem?_set_self this]
theorem st1 (e : h[0]? = some (.lst (hnd cs p g m c))) (v : Int) : gSt h (.ref 0) (.int 1) (.int v) = some (h.set 0 (.lst (hnd cs v g m c))) := st_ e 1 (by decide) _
theorem st2 (e : h[0]? = some (.lst (hnd cs p g m c))) (v : Int) : gSt h (.ref 0) (.int 2) (.int v) = some (h.set 0 (.lst (hnd cs p v m c))) := st_ e 2 (by decide) _
theorem st3 (e : h[0]? = some (.lst (hnd cs p g m c))) (v : Int) : gSt h (.ref 0) (.int 3) (.int v) = some (h.set 0 (.lst (hnd cs p g v c))) := st_ e 3 (by decide) _
theorem st4 (e : h[0]? = some (.lst (hnd cs p g m c))) (v : Int) : gSt h (.ref 0) (.int 4) (.int v) = some (h.set 0 (.lst (hnd cs p g m v))) := st_ e 4 (by decide) _
end
theorem seq_nx {x y : MS} {s s' : ISt} {h h' : IHp} (e : x s h = .nx s' h') : sSeq x y s h = y s' h' := by rw [sSeq_eq, e]
theorem small_lt {n : Nat} (h : n < 2 ^ 64) : n < 2 ^ 9000 := Nat.lt_of_lt_of_le h (Nat.pow_le_pow_right (by decide) (by decide))
/-- the last part: a mixed number -/
theorem draw_mix {h : IHp} {cs : List Int} {p g m c n : Int} {a b : Option D} (e : h[0]? = some (.lst (hnd cs p g m c))) (h0 : 0 ≤ p) (hn : 0 < n) :
    ∃ r h', (sSeq (sSt (mOp gAdd (mOp gIx (mVar 0) (mC (.int 4))) (mC (.int 1))) (mVar 0) (mC (.int 4)))
 (sSeq (sSet 4 (mOp gMod (mB1 gInt (mCons (mOp gMul (mB1 gInt (mCons (mOp gAdd (mOp gIx (mVar 0) (mC (.int 3))) (mOp gMul (mC (.int 7919)) (mOp gIx (mVar 0) (mC (.int 4))))) mNil)) (mC (.int 40692))) mNil)) (mC (.int 2147483647))))
 (sSeq (sSet 4 (mOp gMod (mB1 gInt (mCons (mOp gMul (mVar 4) (mOp gAdd (mOp gDiv (mVar 4) (mC (.int 1009))) (mC (.int 69621)))) mNil)) (mC (.int 2147483647))))
 (sSeq (sSet 4 (mOp gMod (mB1 gInt (mCons (mOp gMul (mVar 4) (mOp gAdd (mOp gDiv (mVar 4) (mC (.int 2003))) (mC (.int 40014)))) mNil)) (mC (.int 2147483563))))
 (sRet (mOp gMod (mB1 gInt (mCons (mOp gDiv (mVar 4) (mC (.int 16))) mNil)) (mVar 1))))))) [some (.ref 0), some (.int n), a, b, none] h = .rt (.int r) h' ∧ HO h' ∧ Hs h h' ∧ 0 ≤ r ∧ r < n := by
  have e1 := set0 e (hnd cs p g m (c + 1))
  generalize hq : h.set 0 (.lst (hnd cs p g m (c + 1))) = h1 at e1
  have hs1 : Hs h h1 := by rw [← hq]; exact Hs.set _ _
  rw [seq_nx (s' := [some (.ref 0), some (.int n), a, b, none]) (h' := h1) (by simp [ix4 e, st4 e, hq])]
  obtain ⟨z1, hz1⟩ : ∃ z : Int, z = (m + 7919 * (c + 1)) * 40692 % 2147483647 := ⟨_, rfl⟩
  have b1 : 0 ≤ z1 ∧ z1 < 2147483647 := by rw [hz1]; exact ⟨Int.emod_nonneg _ (by decide), Int.emod_lt_of_pos _ (by decide)⟩
  rw [seq_nx (s' := [some (.ref 0), some (.int n), a, b, some (.int z1)]) (h' := h1) (by
    simp [ix4 e1, ix3 e1, gMul_l (show (7919 : Int).natAbs < 2 ^ 64 by decide), gMul_r (show (40692 : Int).natAbs < 2 ^ 64 by decide), gMod_int (show (0 : Int) < 2147483647 by decide), hz1])]
  obtain ⟨z2, hz2⟩ : ∃ z : Int, z = z1 * (z1 / 1009 + 69621) % 2147483647 := ⟨_, rfl⟩
  have b2 : 0 ≤ z2 ∧ z2 < 2147483647 := by rw [hz2]; exact ⟨Int.emod_nonneg _ (by decide), Int.emod_lt_of_pos _ (by decide)⟩
  rw [seq_nx (s' := [some (.ref 0), some (.int n), a, b, some (.int z2)]) (h' := h1) (by
    simp [gDiv_int (show (0 : Int) < 1009 by decide) (small_lt (show (1009 : Int).natAbs < 2 ^ 64 by decide)), gMul_l (show z1.natAbs < 2 ^ 64 by omega), gMod_int (show (0 : Int) < 2147483647 by decide), hz2])]
  obtain ⟨z3, hz3⟩ : ∃ z : Int, z = z2 * (z2 / 2003 + 40014) % 2147483563 := ⟨_, rfl⟩
  rw [seq_nx (s' := [some (.ref 0), some (.int n), a, b, some (.int z3)]) (h' := h1) (by
    simp [gDiv_int (show (0 : Int) < 2003 by decide) (small_lt (show (2003 : Int).natAbs < 2 ^ 64 by decide)), gMul_l (show z2.natAbs < 2 ^ 64 by omega), gMod_int (show (0 : Int) < 2147483563 by decide), hz3])]
  exact ⟨z3 / 16 % n, h1, by simp [gDiv_int (show (0 : Int) < 16 by decide) (small_lt (show (16 : Int).natAbs < 2 ^ 64 by decide)), gMod_int hn], ⟨cs, p, g, m, c + 1, e1, h0⟩, hs1, Int.emod_nonneg _ (by omega), Int.emod_lt_of_pos _ hn⟩
/-- the part from the great one on -/
theorem draw_rest {h : IHp} {cs : List Int} {p g m c n : Int} {a b : Option D} (e : h[0]? = some (.lst (hnd cs p g m c))) (h0 : 0 ≤ p) (hn : 0 < n) (hs : n.natAbs < 2 ^ 64) :
    ∃ r h', (sSeq (sIf (mB (mOp gGt (mOp gIx (mVar 0) (mC (.int 2))) (mC (.int 0))))
  (sSeq (sSet 3 (mOp gMod (mB1 gInt (mCons (mOp gIx (mVar 0) (mC (.int 2))) mNil)) (mVar 1)))
 (sSeq (sSt (mOp gDiv (mOp gIx (mVar 0) (mC (.int 2))) (mVar 1)) (mVar 0) (mC (.int 2)))
 (sRet (mVar 3))))
  sNx)
 (sSeq (sSt (mOp gAdd (mOp gIx (mVar 0) (mC (.int 4))) (mC (.int 1))) (mVar 0) (mC (.int 4)))
 (sSeq (sSet 4 (mOp gMod (mB1 gInt (mCons (mOp gMul (mB1 gInt (mCons (mOp gAdd (mOp gIx (mVar 0) (mC (.int 3))) (mOp gMul (mC (.int 7919)) (mOp gIx (mVar 0) (mC (.int 4))))) mNil)) (mC (.int 40692))) mNil)) (mC (.int 2147483647))))
 (sSeq (sSet 4 (mOp gMod (mB1 gInt (mCons (mOp gMul (mVar 4) (mOp gAdd (mOp gDiv (mVar 4) (mC (.int 1009))) (mC (.int 69621)))) mNil)) (mC (.int 2147483647))))
 (sSeq (sSet 4 (mOp gMod (mB1 gInt (mCons (mOp gMul (mVar 4) (mOp gAdd (mOp gDiv (mVar 4) (mC (.int 2003))) (mC (.int 40014)))) mNil)) (mC (.int 2147483563))))
 (sRet (mOp gMod (mB1 gInt (mCons (mOp gDiv (mVar 4) (mC (.int 16))) mNil)) (mVar 1)))))))) [some (.ref 0), some (.int n), a, none, none] h = .rt (.int r) h' ∧ HO h' ∧ Hs h h' ∧ 0 ≤ r ∧ r < n := by
  by_cases hg : 0 < g
  · have e1 := set0 e (hnd cs p (g / n) m c)
    generalize hq : h.set 0 (.lst (hnd cs p (g / n) m c)) = h1 at e1
    have hs1 : Hs h h1 := by rw [← hq]; exact Hs.set _ _
    exact ⟨g % n, h1, by simp [ix2 e, hg, gMod_int hn, gDiv_int hn (small_lt hs), st2 e, hq], ⟨cs, p, _, m, c, e1, h0⟩, hs1, Int.emod_nonneg _ (by omega), Int.emod_lt_of_pos _ hn⟩
  · obtain ⟨r, h', q⟩ := draw_mix (a := a) (b := none) e h0 hn
    rw [seq_nx (s' := [some (.ref 0), some (.int n), a, none, none]) (h' := h) (by simp [ix2 e, hg])]
    exact ⟨r, h', q⟩
theorem e_draw {h : IHp} (ho : HO h) {n : Int} (hn : 0 < n) (hs : n.natAbs < 2 ^ 64) : ∃ r h', mDraw [.ref 0, .int n] h = .ok (.int r) h' ∧ HO h' ∧ Hs h h' ∧ 0 ≤ r ∧ r < n := by
  obtain ⟨cs, p, g, m, c, e, h0⟩ := ho
  unfold mDraw
  rw [runD_eq]
  show ∃ r h', (match sSeq _ _ [some (.ref 0), some (.int n), none, none, none] h with
    | .nx _ h => .ok .non h
    | .rt d h => .ok d h
    | .ex c _ h => .ex c h
    | _ => .bad) = R.ok (.int r) h' ∧ _
  by_cases hc : g = 0 ∧ p < (cs.length : Int)
  · obtain ⟨hg, hp⟩ := hc
    subst hg
    have hpl : p.toNat < cs.length := by omega
    have ec : L2.atI (cs.map D.int) p = some (.int cs[p.toNat]) := by
      unfold L2.atI ixN
      rw [List.length_map, if_pos h0, if_pos hp]
      simp [hpl]
    obtain ⟨cell, hcell⟩ : ∃ z, z = cs[p.toNat] := ⟨_, rfl⟩
    rw [← hcell] at ec
    have e1 := set0 e (hnd cs (p + 1) 0 m c)
    generalize hq : h.set 0 (.lst (hnd cs (p + 1) 0 m c)) = h1 at e1
    have hs1 : Hs h h1 := by rw [← hq]; exact Hs.set _ _
    obtain ⟨mm, hmm⟩ : ∃ z : Int, z = (m * 69621 + cell * 48271 + 811) % 2147483629 := ⟨_, rfl⟩
    have e2 := set0 e1 (hnd cs (p + 1) 0 mm c)
    generalize hq2 : h1.set 0 (.lst (hnd cs (p + 1) 0 mm c)) = h2 at e2
    have hs2 : Hs h1 h2 := by rw [← hq2]; exact Hs.set _ _
    have pw : gPow h2 (.int 10) (.int 18) = some (.int 1000000000000000000) := by
      rw [gPow_int (by decide) (by decide) (by decide)]
      rfl
    by_cases hb : 1000000000000000000 ≤ cell
    · have e3 := set0 e2 (hnd cs (p + 1) cell mm c)
      generalize hq3 : h2.set 0 (.lst (hnd cs (p + 1) cell mm c)) = h3 at e3
      have hs3 : Hs h2 h3 := by rw [← hq3]; exact Hs.set _ _
      rw [seq_nx (s' := [some (.ref 0), some (.int n), some (.int cell), none, none]) (h' := h3) (by
        simp [ix2 e, ix1 e, ix0 e, hp, ec, st1 e]
        simp [hq, ix3 e1, gMul_r (show (69621 : Int).natAbs < 2 ^ 64 by decide), gMul_r (show (48271 : Int).natAbs < 2 ^ 64 by decide), gMod_int (show (0 : Int) < 2147483629 by decide), st3 e1, ← hmm, hq2, pw, hb, st2 e2, hq3])]
      obtain ⟨r, h', q1, q2, q3, q4, q5⟩ := draw_rest (a := some (.int cell)) (b := none) e3 (by omega) hn hs
      exact ⟨r, h', by rw [q1], q2, ((hs1.trans hs2).trans hs3).trans q3, q4, q5⟩
    · rw [seq_nx (s' := [some (.ref 0), some (.int n), some (.int cell), none, none]) (h' := h2) (by
        simp [ix2 e, ix1 e, ix0 e, hp, ec, st1 e]
        simp [hq, ix3 e1, gMul_r (show (69621 : Int).natAbs < 2 ^ 64 by decide), gMul_r (show (48271 : Int).natAbs < 2 ^ 64 by decide), gMod_int (show (0 : Int) < 2147483629 by decide), st3 e1, ← hmm, hq2, pw, hb])]
      obtain ⟨r, h', q1, q2, q3, q4, q5⟩ := draw_rest (a := some (.int cell)) (b := none) e2 (by omega) hn hs
      exact ⟨r, h', by rw [q1], q2, (hs1.trans hs2).trans q3, q4, q5⟩
  · rw [seq_nx (s' := [some (.ref 0), some (.int n), none, none, none]) (h' := h) (by
      by_cases hg : g = 0
      · have hp : ¬ p < (cs.length : Int) := fun z => hc ⟨hg, z⟩
        simp [ix2 e, hg, ix1 e, ix0 e, hp]
      · simp [ix2 e, hg])]
    obtain ⟨r, h', q1, q2, q3, q4, q5⟩ := draw_rest (a := none) (b := none) e h0 hn hs
    exact ⟨r, h', by rw [q1], q2, q3, q4, q5⟩
end Dn

set_option Elab.async false
set_option linter.all false
set_option maxRecDepth 100000
set_option maxHeartbeats 4000000
namespace Dn
open PySem PyProof L2
theorem pys {k : Nat} : ∀ {ds : List D}, (∀ d ∈ ds, ∃ p, toPy d = some p ∧ p.canLay0 = true ∧ p.depth ≤ k) → ∃ ps, toPys ds = some ps ∧ PyData.canLayAll0 ps = true ∧ PyData.depthAll ps ≤ k ∧ ps.length = ds.length
  | [], _ => ⟨[], by rw [toPys], by rw [PyData.canLayAll0], by rw [PyData.depthAll]; omega, rfl⟩
  | d :: ds, q => by
    obtain ⟨p, a1, a2, a3⟩ := q d List.mem_cons_self
    obtain ⟨ps, b1, b2, b3, b4⟩ := pys (fun d m => q d (List.mem_cons_of_mem _ m))
    exact ⟨p :: ps, by rw [toPys, a1, b1], by rw [PyData.canLayAll0, a2, b2]; rfl, by rw [PyData.depthAll]; omega, by simp [b4]⟩
theorem eqvAll_nil : ∀ ps : List PyData, PyData.eqvAll ps [] = ps.isEmpty
  | [] => by rw [PyData.eqvAll]; rfl
  | _ :: _ => by rw [PyData.eqvAll]; rfl
theorem nil_py {h : IHp} : toPyH h (.lst []) = some (.list []) := by
  show toPy (.lst []) = _
  rw [toPy, toPys]
  rfl
theorem shaped_nil : SeqAt.shaped (.list []) = true := by
  unfold SeqAt.shaped
  rw [PyData.canLay0, PyData.canLayAll0, PyData.depth, PyData.depthAll]
  rfl
theorem lst_py {h : IHp} {o : D} {ds : List D} {k : Nat} (e : lstOf h o = some ds) (q : ∀ d ∈ ds, ∃ p, toPy d = some p ∧ p.canLay0 = true ∧ p.depth ≤ k) (hk : k ≤ 60) :
    ∃ ps, toPyH h o = some (.list ps) ∧ SeqAt.shaped (.list ps) = true ∧ ps.isEmpty = ds.isEmpty ∧ (∀ s, o ≠ .str s) := by
  obtain ⟨ps, b1, b2, b3, b4⟩ := pys q
  refine ⟨ps, ?_, ?_, ?_, ?_⟩
  · cases o with
    | lst es =>
      cases e
      show toPy (.lst ds) = _
      rw [toPy, b1]
      rfl
    | ref n =>
      unfold lstOf at e
      dsimp only at e
      unfold toPyH
      dsimp only
      split at e
      · next ds' he => cases e; first | (rw [he]; dsimp only; rw [b1]; rfl) | (rw [b1]; rfl)
      · cases e
    | _ => cases e
  · unfold SeqAt.shaped
    rw [PyData.canLay0, b2, PyData.depth]
    simp
    omega
  · cases ps <;> cases ds <;> first | rfl | (simp at b4)
  · rintro s rfl
    cases e
theorem gNe_nil {h : IHp} {o : D} {ds : List D} {k : Nat} (e : lstOf h o = some ds) (q : ∀ d ∈ ds, ∃ p, toPy d = some p ∧ p.canLay0 = true ∧ p.depth ≤ k) (hk : k ≤ 60) : gNe h o (.lst []) = some (.bl (!ds.isEmpty)) := by
  obtain ⟨ps, c1, c2, c3, c4⟩ := lst_py (h := h) e q hk
  unfold gNe
  split
  · next x y a b => exact absurd rfl (c4 _)
  · rw [c1, nil_py]
    dsimp only
    rw [if_pos ⟨c2, shaped_nil⟩, PyData.eqv, eqvAll_nil, c3]
theorem gEq_nil {h : IHp} {o : D} {ds : List D} {k : Nat} (e : lstOf h o = some ds) (q : ∀ d ∈ ds, ∃ p, toPy d = some p ∧ p.canLay0 = true ∧ p.depth ≤ k) (hk : k ≤ 60) : gEq h o (.lst []) = some (.bl ds.isEmpty) := by
  obtain ⟨ps, c1, c2, c3, c4⟩ := lst_py (h := h) e q hk
  unfold gEq
  split
  · next x y a b => exact absurd rfl (c4 _)
  · rw [c1, nil_py]
    dsimp only
    rw [if_pos ⟨c2, shaped_nil⟩, PyData.eqv, eqvAll_nil, c3]
theorem int_py (i : Int) : ∃ p, toPy (.int i) = some p ∧ p.canLay0 = true ∧ p.depth ≤ 0 := ⟨.int i, by rw [toPy], by rw [PyData.canLay0], by rw [PyData.depth]; omega⟩
theorem repr_bl {h : IHp} (b : Bool) : ∃ w, gRepr h [.bl b] = some (.str w) := by
  have e : toPyH h (.bl b) = some (.bool b) := by show toPy _ = _; rw [toPy]
  unfold gRepr
  dsimp only
  rw [e]
  cases b
  · exact ⟨_, rfl⟩
  · exact ⟨_, rfl⟩
/-- a loop with a numbered invariant that is never left -/
theorem loopD_ix {g : It1} {t : Tg} {body : MS} (P : Nat → ISt → IHp → Prop) (st : ∀ i s h, P i s h → Stable g h) (N : Nat) : ∀ (ds : List D) (i : Nat) (s : ISt) (h : IHp), i + ds.length ≤ N → P i s h → (∀ d ∈ ds, ∀ i s h, i < N → P i s h → ∃ s1 s2 h2, t.set d s = some s1 ∧ body s1 h = .nx s2 h2 ∧ P (i + 1) s2 h2) →
    ∃ s' h', loopD g t body ds s h = .nx s' h' ∧ P (i + ds.length) s' h'
  | [], i, s, h, _, p, _ => by
    rw [loopD, if_pos (st i s h p)]
    exact ⟨s, h, rfl, p⟩
  | d :: ds, i, s, h, hN, p, hb => by
    rw [List.length_cons] at hN
    obtain ⟨s1, s2, h2, e1, e2, p2⟩ := hb d List.mem_cons_self i s h (by omega) p
    rw [loopD, if_pos (st i s h p), e1]
    dsimp only
    rw [e2]
    obtain ⟨s', h', q1, q2⟩ := loopD_ix P st N ds (i + 1) s2 h2 (by omega) p2 fun d' m => hb d' (List.mem_cons_of_mem _ m)
    exact ⟨s', h', q1, by rw [List.length_cons]; rwa [show i + (ds.length + 1) = i + 1 + ds.length by omega]⟩
/-- one of a list or a tuple -/
noncomputable def mAny : MF := runD 2
 (sRet (mOp gIx (mVar 1) (mCall 2 mDraw (mCons (mVar 0) (mCons (mB1 gLen (mCons (mVar 1) mNil)) mNil)))))
theorem atI_mem {ds : List D} {i : Int} (h0 : 0 ≤ i) (h1 : i < ds.length) : ∃ d, L2.atI ds i = some d ∧ d ∈ ds := by
  have : i.toNat < ds.length := by omega
  refine ⟨ds[i.toNat], ?_, List.getElem_mem _⟩
  unfold L2.atI ixN
  rw [if_pos h0, if_pos h1]
  simp [this]
theorem e_any {h : IHp} (ho : HO h) {x : D} {ds : List D} (hx : x = .lst ds ∨ x = .tup ds) (h0 : 0 < ds.length) (hs : ds.length < 2 ^ 62) : ∃ d h', mAny [.ref 0, x] h = .ok d h' ∧ HO h' ∧ Hs h h' ∧ d ∈ ds := by
  obtain ⟨r, h', e, o, s, r0, r1⟩ := e_draw ho (n := (ds.length : Nat)) (by omega) (by omega)
  obtain ⟨d, e1, e2⟩ := atI_mem r0 r1
  refine ⟨d, h', ?_, o, s, e2⟩
  unfold mAny
  rcases hx with rfl | rfl <;> simp [e, e1]
theorem cutD_len (ds : List D) (lo hi : Option Int) : (cutD ds lo hi).length ≤ ds.length := by
  unfold cutD
  rw [List.length_take, List.length_drop]
  omega
theorem insI_len (k : Int) : ∀ xs : List Int, (insI k xs).length ≤ xs.length + 1
  | [] => by simp [insI]
  | x :: xs => by
    unfold insI
    split
    · simp
    · split
      · simp
      · have := insI_len k xs
        simp
        omega
theorem asc_len : ∀ ns : List Int, (asc ns).length ≤ ns.length
  | [] => by simp [asc]
  | n :: ns => by
    have := asc_len ns
    have := insI_len n (asc ns)
    show (insI n (asc ns)).length ≤ _
    rw [List.length_cons]
    omega
theorem intsOf_map : ∀ ns : List Int, intsOf (ns.map D.int) = some ns
  | [] => rfl
  | n :: ns => by rw [List.map_cons, intsOf, intsOf_map ns]; rfl
theorem gSortSet_ok {h : IHp} {ns : List Int} (hz : ns.length < 64) : gSortSet h (.tup (ns.map D.int)) = some (.lst ((asc ns).map D.int)) := by
  unfold gSortSet
  dsimp only
  rw [intsOf_map, Option.bind_some, if_pos hz]
theorem HO.pos {h : IHp} (o : HO h) : 0 < h.length := by
  obtain ⟨cs, p, g, m, c, e, _⟩ := o
  exact (List.getElem?_eq_some_iff.mp e).1
theorem HO.app {h : IHp} (o : HO h) (x : List IO) : HO (h ++ x) := by
  have hp := o.pos
  obtain ⟨cs, p, g, m, c, e, q⟩ := o
  exact ⟨cs, p, g, m, c, by rw [List.getElem?_append_left hp]; exact e, q⟩
theorem HO.set {h : IHp} (o : HO h) {k : Nat} (hk : k ≠ 0) (x : IO) : HO (h.set k x) := by
  obtain ⟨cs, p, g, m, c, e, q⟩ := o
  exact ⟨cs, p, g, m, c, by rw [List.getElem?_set_ne hk]; exact e, q⟩
/-- the hand is made -/
noncomputable def mHand (K0 : Int) : MF := runD 3
 (sSeq (sSetLc 1 (mIt (mSl (mVar 0) mNoPart (mPart (mC (.int 63))))) (.name 2) mYes (mOp gMod (mB1 gInt (mCons (mB1 gAbs (mCons (mB1 gInt (mCons (mVar 2) mNil)) mNil)) mNil)) (mOp gPow (mC (.int 10)) (mC (.int 60)))) [2])
 (sRet (mNew (mCons (mVar 1) (mCons (mC (.int 0)) (mCons (mC (.int 0)) (mCons (mOp gAdd (mC (.int K0)) (mOp gMul (mC (.int 29)) (mB1 gLen (mCons (mVar 1) mNil)))) (mCons (mC (.int 0)) mNil))))))))
theorem cut_map {α : Type} (f : α → D) (xs : List α) (hi : Option Int) : ∃ ys : List α, cutD (xs.map f) none hi = ys.map f ∧ ys.length ≤ xs.length := by
  refine ⟨(xs.drop (HT.sIx xs.length 0 none)).take (HT.sIx xs.length xs.length hi - HT.sIx xs.length 0 none), ?_, ?_⟩
  · unfold cutD
    rw [List.length_map, List.map_take, List.map_drop]
  · rw [List.length_take, List.length_drop]
    omega
theorem e_hand (K0 : Int) {ns : List Int} (hn : ns.length ≤ 63) : ∃ h, mHand K0 [.scr (ns.map D.int)] [] = .ok (.ref 0) h ∧ HO h := by
  obtain ⟨ys, y1, y2⟩ := cut_map D.int ns (some 63)
  obtain ⟨M, hM, p0⟩ : ∃ M : Int, M = 10 ^ 60 ∧ 0 < M := ⟨10 ^ 60, rfl, by decide⟩
  have pw : ∀ h, gPow h (.int 10) (.int 60) = some (.int M) := fun h => by rw [gPow_int (by decide) (by decide) (by decide), hM]; rfl
  have lz : ys.length ≤ sizeLine := Nat.le_trans (show ys.length ≤ 63 by omega) (by decide)
  have l1 : lcD (ys.map D.int, none) (.name 2) mYes (mOp gMod (mB1 gInt (mCons (mB1 gAbs (mCons (mB1 gInt (mCons (mVar 2) mNil)) mNil)) mNil)) (mOp gPow (mC (.int 10)) (mC (.int 60)))) [some (.scr (ns.map D.int)), none, none] (ys.map D.int) [] [] = .ok ((ys.map fun y => (if y < 0 then -y else y) % M).map D.int) [] := by
    rw [lcD_pure (fun _ => true) (fun x => match x with | .int y => .int ((if y < 0 then -y else y) % M) | _ => .non) (by simp) _ [] (fun x hx => ⟨_, rfl, rfl, fun _ => by
      obtain ⟨y, hm, rfl⟩ := List.mem_map.mp hx
      simp [pw, gMod_int p0]⟩) (by simpa using lz)]
    rw [List.filter_eq_self.mpr (fun _ _ => rfl), List.map_map, List.map_map]
    rfl
  generalize (ys.map fun y => (if y < 0 then -y else y) % M) = cs at l1
  refine ⟨[.lst (hnd cs 0 0 (K0 + 29 * (cs.length : Nat)) 0)], ?_, ⟨cs, 0, 0, K0 + 29 * (cs.length : Nat), 0, rfl, by omega⟩⟩
  unfold mHand
  rw [runD_eq, seq_nx (s' := [some (.scr (ns.map D.int)), some (.lst (cs.map D.int)), none]) (h' := []) (by simp [y1, wipeD, l1])]
  simp [gMul_l (show (29 : Int).natAbs < 2 ^ 64 by decide), hnd]
end Dn

set_option Elab.async false
set_option linter.all false
set_option maxRecDepth 100000
set_option maxHeartbeats 4000000
namespace K64
open PySem PySem.Spec PyProof.Rows L2 Dn
noncomputable def m_is_integer : MF := runD 1
 (sRet (mAndV (mIsi "int" (mVar 0)) (mNotV (mIsi "bool" (mVar 0)))))
noncomputable def m_is_between : MF := runD 3
 (sRet (mAndV (mCall 1 m_is_integer (mCons (mVar 0) mNil)) (mChain gLe gLe (mVar 1) (mVar 0) (mVar 2))))
noncomputable def m_is_under : MF := runD 2
 (sRet (mAndV (mCall 1 m_is_integer (mCons (mVar 0) mNil)) (mChain gLe gLt (mC (.int 0)) (mVar 0) (mVar 1))))
noncomputable def m_is_tuple_of : MF := runD 2
 (sRet (mAndV (mIsi "tuple" (mVar 0)) (mOp gEq (mB1 gLen (mCons (mVar 0) mNil)) (mVar 1))))
noncomputable def m_are_under : MF := runD 3
 (sRet (mAndV (mIsi "tuple" (mVar 0)) (mB1 gAll (mCons (mLc (mIt (mVar 0)) (.name 2) mYes (mCall 2 m_is_under (mCons (mVar 2) (mCons (mVar 1) mNil))) [2]) mNil))))
noncomputable def m_is_lot : MF := runD 3
 (sRet (mAndV (mCall 2 m_are_under (mCons (mVar 0) (mCons (mVar 1) mNil))) (mB1 gAll (mCons (mLc (mRng2 (mCons (mC (.int 1)) (mCons (mB1 gLen (mCons (mVar 0) mNil)) mNil))) (.name 2) mYes (mOp gLt (mOp gIx (mVar 0) (mOp gSub (mVar 2) (mC (.int 1)))) (mOp gIx (mVar 0) (mVar 2))) [2]) mNil))))
noncomputable def m_is_day : MF := runD 1
 (sRet (mCall 3 m_is_between (mCons (mVar 0) (mCons (mC (.int 0)) (mCons (mC (.int 400)) mNil)))))
noncomputable def m_need_days : MF := runD 2
 (sIf (mOr (mNot (mTru (mCall 1 m_is_day (mCons (mVar 0) mNil)))) (mOr (mNot (mTru (mCall 1 m_is_day (mCons (mVar 1) mNil)))) (mB (mOp gLt (mVar 1) (mVar 0)))))
  sNever
  sNx)
noncomputable def m_is_stretch : MF := runD 1
 (sRet (mAndV (mCall 2 m_is_tuple_of (mCons (mVar 0) (mCons (mC (.int 2)) mNil))) (mAndV (mCall 1 m_is_day (mCons (mOp gIx (mVar 0) (mC (.int 0))) mNil)) (mAndV (mCall 1 m_is_day (mCons (mOp gIx (mVar 0) (mC (.int 1))) mNil)) (mOp gLe (mOp gIx (mVar 0) (mC (.int 0))) (mOp gIx (mVar 0) (mC (.int 1))))))))
noncomputable def m_need_spans : MF := runD 2
 (sIf (mOr (mNot (mTru (mIsi "tuple" (mVar 0)))) (mOr (mB (mOp gGt (mB1 gLen (mCons (mVar 0) mNil)) (mC (.int 20)))) (mNot (mTru (mB1 gAll (mCons (mLc (mIt (mVar 0)) (.name 1) mYes (mCall 1 m_is_stretch (mCons (mVar 1) mNil)) [1]) mNil))))))
  sNever
  sNx)
noncomputable def m_need_times : MF := runD 1
 (sIf (mNot (mTru (mCall 3 m_is_between (mCons (mVar 0) (mCons (mC (.int 1)) (mCons (mC (.int 3)) mNil))))))
  sNever
  sNx)
noncomputable def m_raw_on : MF := runD 5
 (sRet (mLc (mEnum (mCons (mVar 0) mNil)) (.tup [(.name 4), (.tup [(.name 2), (.name 3)])]) (mB (mChain gLe gLe (mVar 2) (mVar 1) (mVar 3))) (mVar 4) [4, 2, 3]))
noncomputable def m_first_bare : MF := runD 8
 (sSeq (sSetLc 5 (mIt (mVar 1)) (.name 7) mYes (mOp gIx (mVar 0) (mVar 7)) [7])
 (sSeq (sFor (mRng2 (mCons (mVar 2) (mCons (mOp gAdd (mVar 3) (mC (.int 1))) mNil))) (.name 6)
  (sIf (mB (mOp gLt (mB1 gLen (mCons (mCall 2 m_raw_on (mCons (mVar 5) (mCons (mVar 6) mNil))) mNil)) (mVar 4)))
  (sRet (mVar 6))
  sNx))
 (sRet (mC .non))))
noncomputable def m_all_of : MF := runD 1
 (sRet (mTupR (mR1 (mB1 gLen (mCons (mVar 0) mNil)))))
noncomputable def m_cover_paper : MF := runD 5
 (sSeq (sExpr (mCall 1 m_need_spans (mCons (mVar 0) mNil)))
 (sSeq (sExpr (mCall 2 m_need_days (mCons (mVar 1) (mCons (mVar 2) mNil))))
 (sSeq (sExpr (mCall 1 m_need_times (mCons (mVar 3) mNil)))
 (sSeq (sSet 4 (mCall 5 m_first_bare (mCons (mVar 0) (mCons (mCall 1 m_all_of (mCons (mVar 0) mNil)) (mCons (mVar 1) (mCons (mVar 2) (mCons (mVar 3) mNil)))))))
 (sRet (mIf (mB (mOp gIsN (mVar 4) (mC .non))) (mTup (mCons (mC (.str "cover")) (mCons (mCall 1 m_all_of (mCons (mVar 0) mNil)) mNil))) (mTup (mCons (mC (.str "day")) (mCons (mVar 4) mNil)))))))))
noncomputable def m_is_cover_paper : MF := runD 5
 (sSeq (sExpr (mCall 1 m_need_spans (mCons (mVar 0) mNil)))
 (sSeq (sExpr (mCall 2 m_need_days (mCons (mVar 1) (mCons (mVar 2) mNil))))
 (sSeq (sExpr (mCall 1 m_need_times (mCons (mVar 3) mNil)))
 (sSeq (sIf (mOr (mNot (mTru (mCall 2 m_is_tuple_of (mCons (mVar 4) (mCons (mC (.int 2)) mNil))))) (mNot (mTru (mIsi "str" (mOp gIx (mVar 4) (mC (.int 0)))))))
  (sRet (mC (.bl false)))
  sNx)
 (sSeq (sIf (mB (mOp gEq (mOp gIx (mVar 4) (mC (.int 0))) (mC (.str "cover"))))
  (sRet (mAndV (mCall 2 m_is_lot (mCons (mOp gIx (mVar 4) (mC (.int 1))) (mCons (mB1 gLen (mCons (mVar 0) mNil)) mNil))) (mOp gIsN (mCall 5 m_first_bare (mCons (mVar 0) (mCons (mOp gIx (mVar 4) (mC (.int 1))) (mCons (mVar 1) (mCons (mVar 2) (mCons (mVar 3) mNil)))))) (mC .non))))
  sNx)
 (sSeq (sIf (mOr (mB (mOp gNe (mOp gIx (mVar 4) (mC (.int 0))) (mC (.str "day")))) (mNot (mTru (mCall 3 m_is_between (mCons (mOp gIx (mVar 4) (mC (.int 1))) (mCons (mVar 1) (mCons (mVar 2) mNil)))))))
  (sRet (mC (.bl false)))
  sNx)
 (sRet (mOp gLt (mB1 gLen (mCons (mCall 2 m_raw_on (mCons (mVar 0) (mCons (mOp gIx (mVar 4) (mC (.int 1))) mNil))) mNil)) (mVar 3)))))))))
noncomputable def m__law_hand : MF := runD 3
 (sSeq (sSetLc 1 (mIt (mSl (mVar 0) mNoPart (mPart (mC (.int 63))))) (.name 2) mYes (mOp gMod (mB1 gInt (mCons (mB1 gAbs (mCons (mB1 gInt (mCons (mVar 2) mNil)) mNil)) mNil)) (mOp gPow (mC (.int 10)) (mC (.int 60)))) [2])
 (sRet (mNew (mCons (mVar 1) (mCons (mC (.int 0)) (mCons (mC (.int 0)) (mCons (mOp gAdd (mC (.int 6401)) (mOp gMul (mC (.int 29)) (mB1 gLen (mCons (mVar 1) mNil)))) (mCons (mC (.int 0)) mNil))))))))
noncomputable def m__law_draw : MF := runD 5
 (sSeq (sIf (mAnd (mB (mOp gEq (mOp gIx (mVar 0) (mC (.int 2))) (mC (.int 0)))) (mB (mOp gLt (mOp gIx (mVar 0) (mC (.int 1))) (mB1 gLen (mCons (mOp gIx (mVar 0) (mC (.int 0))) mNil)))))
  (sSeq (sSet 2 (mOp gIx (mOp gIx (mVar 0) (mC (.int 0))) (mOp gIx (mVar 0) (mC (.int 1)))))
 (sSeq (sSt (mOp gAdd (mOp gIx (mVar 0) (mC (.int 1))) (mC (.int 1))) (mVar 0) (mC (.int 1)))
 (sSeq (sSt (mOp gMod (mB1 gInt (mCons (mOp gAdd (mOp gAdd (mOp gMul (mOp gIx (mVar 0) (mC (.int 3))) (mC (.int 69621))) (mOp gMul (mVar 2) (mC (.int 48271)))) (mC (.int 811))) mNil)) (mC (.int 2147483629))) (mVar 0) (mC (.int 3)))
 (sIf (mB (mOp gGe (mVar 2) (mOp gPow (mC (.int 10)) (mC (.int 18)))))
  (sSt (mVar 2) (mVar 0) (mC (.int 2)))
  sNx))))
  sNx)
 (sSeq (sIf (mB (mOp gGt (mOp gIx (mVar 0) (mC (.int 2))) (mC (.int 0))))
  (sSeq (sSet 3 (mOp gMod (mB1 gInt (mCons (mOp gIx (mVar 0) (mC (.int 2))) mNil)) (mVar 1)))
 (sSeq (sSt (mOp gDiv (mOp gIx (mVar 0) (mC (.int 2))) (mVar 1)) (mVar 0) (mC (.int 2)))
 (sRet (mVar 3))))
  sNx)
 (sSeq (sSt (mOp gAdd (mOp gIx (mVar 0) (mC (.int 4))) (mC (.int 1))) (mVar 0) (mC (.int 4)))
 (sSeq (sSet 4 (mOp gMod (mB1 gInt (mCons (mOp gMul (mB1 gInt (mCons (mOp gAdd (mOp gIx (mVar 0) (mC (.int 3))) (mOp gMul (mC (.int 7919)) (mOp gIx (mVar 0) (mC (.int 4))))) mNil)) (mC (.int 40692))) mNil)) (mC (.int 2147483647))))
 (sSeq (sSet 4 (mOp gMod (mB1 gInt (mCons (mOp gMul (mVar 4) (mOp gAdd (mOp gDiv (mVar 4) (mC (.int 1009))) (mC (.int 69621)))) mNil)) (mC (.int 2147483647))))
 (sSeq (sSet 4 (mOp gMod (mB1 gInt (mCons (mOp gMul (mVar 4) (mOp gAdd (mOp gDiv (mVar 4) (mC (.int 2003))) (mC (.int 40014)))) mNil)) (mC (.int 2147483563))))
 (sRet (mOp gMod (mB1 gInt (mCons (mOp gDiv (mVar 4) (mC (.int 16))) mNil)) (mVar 1)))))))))
noncomputable def m__law_any : MF := runD 2
 (sRet (mOp gIx (mVar 1) (mCall 2 m__law_draw (mCons (mVar 0) (mCons (mB1 gLen (mCons (mVar 1) mNil)) mNil)))))
noncomputable def m__law_case : MF := runD 10
 (sSeq (sSet 2 (mCall 2 m__law_any (mCons (mVar 0) (mCons (mLst (mCons (mC (.int 1)) (mCons (mC (.int 2)) (mCons (mC (.int 5)) (mCons (mC (.int 9)) (mCons (mC (.int 20)) mNil)))))) mNil))))
 (sSeq (sSet 3 (mCall 2 m__law_any (mCons (mVar 0) (mCons (mLst (mCons (mC (.int 0)) (mCons (mC (.int 3)) (mCons (mC (.int 100)) (mCons (mOp gSub (mC (.int 401)) (mVar 2)) mNil))))) mNil))))
 (sSeq (sPar 4 5 (mCons (mOp gSub (mOp gAdd (mVar 3) (mVar 2)) (mC (.int 1))) (mCons (mNew mNil) mNil)))
 (sSeq (sFor (mRng1 (mCons (mIf (mB (mOp gGt (mCall 2 m__law_draw (mCons (mVar 0) (mCons (mC (.int 5)) mNil))) (mC (.int 0)))) (mOp gSub (mVar 1) (mCall 2 m__law_draw (mCons (mVar 0) (mCons (mC (.int 4)) mNil)))) (mCall 2 m__law_draw (mCons (mVar 0) (mCons (mOp gAdd (mVar 1) (mC (.int 1))) mNil)))) mNil)) (.name 6)
  (sSeq (sSet 7 (mCall 2 m__law_draw (mCons (mVar 0) (mCons (mC (.int 6)) mNil))))
 (sSeq (sSet 8 (mOp gAdd (mVar 3) (mCall 2 m__law_draw (mCons (mVar 0) (mCons (mVar 2) mNil)))))
 (sSeq (sSet 9 (mB1 gMin (mCons (mC (.int 400)) (mCons (mOp gAdd (mVar 8) (mCall 2 m__law_draw (mCons (mVar 0) (mCons (mCall 2 m__law_any (mCons (mVar 0) (mCons (mLst (mCons (mC (.int 1)) (mCons (mC (.int 3)) (mCons (mVar 2) mNil)))) mNil))) mNil)))) mNil))))
 (sSeq (sIf (mB (mOp gEq (mVar 7) (mC (.int 0))))
  (sPar 8 9 (mCons (mB1 gMax (mCons (mC (.int 0)) (mCons (mOp gSub (mVar 3) (mCall 2 m__law_draw (mCons (mVar 0) (mCons (mC (.int 3)) mNil)))) mNil))) (mCons (mVar 9) mNil)))
  sNx)
 (sSeq (sIf (mAnd (mB (mOp gEq (mVar 7) (mC (.int 1)))) (mB (mOp gNe (mVar 5) (mLst mNil))))
  (sSeq (sSet 8 (mB1 gMin (mCons (mC (.int 400)) (mCons (mOp gAdd (mOp gIx (mOp gIx (mVar 5) (mNeg (mC (.int 1)))) (mC (.int 1))) (mCall 2 m__law_any (mCons (mVar 0) (mCons (mLst (mCons (mC (.int 1)) (mCons (mC (.int 1)) (mCons (mC (.int 2)) (mCons (mC (.int 0)) mNil))))) mNil)))) mNil))))
 (sSet 9 (mB1 gMin (mCons (mC (.int 400)) (mCons (mB1 gMax (mCons (mVar 8) (mCons (mOp gAdd (mVar 8) (mCall 2 m__law_draw (mCons (mVar 0) (mCons (mVar 2) mNil)))) mNil))) mNil)))))
  sNx)
 (sSeq (sIf (mB (mOp gEq (mVar 7) (mC (.int 2))))
  (sPar 8 9 (mCons (mVar 3) (mCons (mB1 gMin (mCons (mC (.int 400)) (mCons (mOp gAdd (mVar 4) (mCall 2 m__law_draw (mCons (mVar 0) (mCons (mC (.int 2)) mNil)))) mNil))) mNil)))
  sNx)
 (sExpr (mApp (mVar 5) (mTup (mCons (mVar 8) (mCons (mB1 gMax (mCons (mVar 8) (mCons (mVar 9) mNil))) mNil))))))))))))
 (sRet (mTup (mCons (mB1 gTupOf (mCons (mVar 5) mNil)) (mCons (mVar 3) (mCons (mVar 4) mNil)))))))))
noncomputable def m__law_cover : MF := runD 4
 (sRet (mB1 gLen (mCons (mLc (mIt (mVar 1)) (.name 3) (mB (mChain gLe gLe (mOp gIx (mOp gIx (mVar 0) (mVar 3)) (mC (.int 0))) (mVar 2) (mOp gIx (mOp gIx (mVar 0) (mVar 3)) (mC (.int 1))))) (mVar 3) [3]) mNil)))
noncomputable def m__law_is_under : MF := runD 2
 (sRet (mAndV (mIsi "int" (mVar 0)) (mAndV (mNotV (mIsi "bool" (mVar 0))) (mChain gLe gLt (mC (.int 0)) (mVar 0) (mVar 1)))))
noncomputable def m__law_is_lot : MF := runD 4
 (sSeq (sIf (mOr (mNot (mTru (mIsi "tuple" (mVar 0)))) (mNot (mTru (mB1 gAll (mCons (mLc (mIt (mVar 0)) (.name 3) mYes (mCall 2 m__law_is_under (mCons (mVar 3) (mCons (mVar 1) mNil))) [3]) mNil)))))
  (sRet (mC (.bl false)))
  sNx)
 (sRet (mB1 gAll (mCons (mLc (mRng2 (mCons (mC (.int 1)) (mCons (mB1 gLen (mCons (mVar 0) mNil)) mNil))) (.name 2) mYes (mOp gLt (mOp gIx (mVar 0) (mOp gSub (mVar 2) (mC (.int 1)))) (mOp gIx (mVar 0) (mVar 2))) [2]) mNil))))
noncomputable def m__law_judged : MF := runD 6
 (sSeq (sIf (mOr (mNot (mTru (mIsi "tuple" (mVar 4)))) (mOr (mB (mOp gNe (mB1 gLen (mCons (mVar 4) mNil)) (mC (.int 2)))) (mNot (mTru (mIsi "str" (mOp gIx (mVar 4) (mC (.int 0))))))))
  (sRet (mC (.bl false)))
  sNx)
 (sSeq (sIf (mB (mOp gEq (mOp gIx (mVar 4) (mC (.int 0))) (mC (.str "cover"))))
  (sSeq (sIf (mNot (mTru (mCall 2 m__law_is_lot (mCons (mOp gIx (mVar 4) (mC (.int 1))) (mCons (mB1 gLen (mCons (mVar 0) mNil)) mNil)))))
  (sRet (mC (.bl false)))
  sNx)
 (sRet (mB1 gAll (mCons (mLc (mRng2 (mCons (mVar 1) (mCons (mOp gAdd (mVar 2) (mC (.int 1))) mNil))) (.name 5) mYes (mOp gGe (mCall 3 m__law_cover (mCons (mVar 0) (mCons (mOp gIx (mVar 4) (mC (.int 1))) (mCons (mVar 5) mNil)))) (mVar 3)) [5]) mNil))))
  sNx)
 (sSeq (sIf (mOr (mB (mOp gNe (mOp gIx (mVar 4) (mC (.int 0))) (mC (.str "day")))) (mOr (mNot (mTru (mCall 2 m__law_is_under (mCons (mOp gIx (mVar 4) (mC (.int 1))) (mCons (mOp gAdd (mVar 2) (mC (.int 1))) mNil))))) (mB (mOp gLt (mOp gIx (mVar 4) (mC (.int 1))) (mVar 1)))))
  (sRet (mC (.bl false)))
  sNx)
 (sRet (mOp gLt (mCall 3 m__law_cover (mCons (mVar 0) (mCons (mLstR (mR1 (mB1 gLen (mCons (mVar 0) mNil)))) (mCons (mOp gIx (mVar 4) (mC (.int 1))) mNil)))) (mVar 3))))))
noncomputable def m__law_near : MF := runD 11
 (sSeq (sSet 5 (mTupR (mR1 (mB1 gLen (mCons (mVar 1) mNil)))))
 (sSeq (sSet 6 (mLst (mCons (mVar 5) (mCons (mSl (mVar 5) (mPart (mC (.int 1))) mNoPart) (mCons (mSl (mVar 5) mNoPart (mPart (mNeg (mC (.int 1))))) (mCons (mB1 gTupOf (mCons (mLc (mIt (mVar 5)) (.name 7) (mB (mOp gGt (mCall 2 m__law_draw (mCons (mVar 0) (mCons (mC (.int 4)) mNil))) (mC (.int 0)))) (mVar 7) [7]) mNil)) (mCons (mTup mNil) mNil)))))))
 (sSeq (sIf (mB (mOp gEq (mOp gIx (mVar 4) (mC (.int 0))) (mC (.str "cover"))))
  (sSeq (sSet 7 (mCall 2 m__law_draw (mCons (mVar 0) (mCons (mOp gAdd (mB1 gLen (mCons (mOp gIx (mVar 4) (mC (.int 1))) mNil)) (mC (.int 1))) mNil))))
 (sSeq (sSet 6 (mOp gAdd (mVar 6) (mLst (mCons (mOp gAdd (mSl (mOp gIx (mVar 4) (mC (.int 1))) mNoPart (mPart (mVar 7))) (mSl (mOp gIx (mVar 4) (mC (.int 1))) (mPart (mOp gAdd (mVar 7) (mC (.int 1)))) mNoPart)) (mCons (mRev (mOp gIx (mVar 4) (mC (.int 1)))) (mCons (mOp gAdd (mOp gIx (mVar 4) (mC (.int 1))) (mSl (mOp gIx (mVar 4) (mC (.int 1))) (mPart (mNeg (mC (.int 1)))) mNoPart)) (mCons (mB1 gLstOf (mCons (mOp gIx (mVar 4) (mC (.int 1))) mNil)) mNil)))))))
 (sSet 6 (mOp gAdd (mVar 6) (mLst (mCons (mB1 gTupOf (mCons (mSortSet (mOp gAdd (mOp gIx (mVar 4) (mC (.int 1))) (mTup (mCons (mCall 2 m__law_draw (mCons (mVar 0) (mCons (mB1 gLen (mCons (mVar 1) mNil)) mNil))) mNil)))) mNil)) (mCons (mOp gAdd (mOp gIx (mVar 4) (mC (.int 1))) (mTup (mCons (mB1 gLen (mCons (mVar 1) mNil)) mNil))) mNil)))))))
  sNx)
 (sSeq (sSet 8 (mLst (mCons (mVar 2) (mCons (mVar 3) (mCons (mOp gSub (mVar 2) (mC (.int 1))) (mCons (mOp gAdd (mVar 3) (mC (.int 1))) (mCons (mOp gAdd (mVar 2) (mCall 2 m__law_draw (mCons (mVar 0) (mCons (mOp gAdd (mOp gSub (mVar 3) (mVar 2)) (mC (.int 1))) mNil)))) (mCons (mC .non) (mCons (mC (.bl true)) mNil)))))))))
 (sSeq (sSet 8 (mOp gAdd (mVar 8) (mIf (mB (mOp gEq (mOp gIx (mVar 4) (mC (.int 0))) (mC (.str "day")))) (mLst (mCons (mOp gAdd (mOp gIx (mVar 4) (mC (.int 1))) (mC (.int 1))) (mCons (mOp gSub (mOp gIx (mVar 4) (mC (.int 1))) (mC (.int 1))) mNil))) (mLst mNil))))
 (sRet (mOp gAdd (mLc (mIt (mVar 6)) (.name 10) mYes (mTup (mCons (mC (.str "cover")) (mCons (mVar 10) mNil))) [10]) (mLc (mIt (mVar 8)) (.name 9) mYes (mTup (mCons (mC (.str "day")) (mCons (mVar 9) mNil))) [9]))))))))
noncomputable def m__law_is_right : MF := runD 11
 (sSeq (sSetLc 5 (mRng2 (mCons (mVar 2) (mCons (mOp gAdd (mVar 3) (mC (.int 1))) mNil))) (.name 10) (mB (mOp gLt (mCall 3 m__law_cover (mCons (mVar 1) (mCons (mLstR (mR1 (mB1 gLen (mCons (mVar 1) mNil)))) (mCons (mVar 10) mNil)))) (mVar 4))) (mVar 10) [10])
 (sSeq (sSet 6 (mCall 4 m_cover_paper (mCons (mVar 1) (mCons (mVar 2) (mCons (mVar 3) (mCons (mVar 4) mNil))))))
 (sSeq (sIf (mOr (mB (mOp gNe (mOp gIx (mVar 6) (mC (.int 0))) (mIf (mB (mOp gEq (mVar 5) (mLst mNil))) (mC (.str "cover")) (mC (.str "day"))))) (mNot (mTru (mCall 5 m__law_judged (mCons (mVar 1) (mCons (mVar 2) (mCons (mVar 3) (mCons (mVar 4) (mCons (mVar 6) mNil)))))))))
  (sRet (mC (.bl false)))
  sNx)
 (sSeq (sIf (mAnd (mB (mOp gNe (mVar 5) (mLst mNil))) (mB (mOp gNe (mOp gIx (mVar 6) (mC (.int 1))) (mOp gIx (mVar 5) (mC (.int 0))))))
  (sRet (mC (.bl false)))
  sNx)
 (sSeq (sSet 7 (mLst (mCons (mVar 6) (mCons (mB1 gLstOf (mCons (mVar 6) mNil)) (mCons (mOp gAdd (mVar 6) (mTup (mCons (mC (.int 0)) mNil))) (mCons (mSl (mVar 6) mNoPart (mPart (mC (.int 1)))) (mCons (mTup (mCons (mOp gIx (mVar 6) (mC (.int 1))) (mCons (mOp gIx (mVar 6) (mC (.int 0))) mNil))) (mCons (mC .non) (mCons (mTup mNil) (mCons (mC (.str "cover")) (mCons (mTup (mCons (mC (.str "covers")) (mCons (mOp gIx (mVar 6) (mC (.int 1))) mNil))) mNil)))))))))))
 (sSeq (sFor (mIt (mOp gAdd (mVar 7) (mCall 5 m__law_near (mCons (mVar 0) (mCons (mVar 1) (mCons (mVar 2) (mCons (mVar 3) (mCons (mVar 6) mNil)))))))) (.name 8)
  (sSeq (sSet 9 (mCall 5 m__law_judged (mCons (mVar 1) (mCons (mVar 2) (mCons (mVar 3) (mCons (mVar 4) (mCons (mVar 8) mNil)))))))
 (sIf (mB (mOp gNe (mB1 gRepr (mCons (mCall 5 m_is_cover_paper (mCons (mVar 1) (mCons (mVar 2) (mCons (mVar 3) (mCons (mVar 4) (mCons (mVar 8) mNil)))))) mNil)) (mB1 gRepr (mCons (mVar 9) mNil))))
  (sRet (mC (.bl false)))
  sNx)))
 (sRet (mC (.bl true)))))))))
noncomputable def m_law : MF := runD 7
 (sSeq (sSet 1 (mCall 1 m__law_hand (mCons (mVar 0) mNil)))
 (sSeq (sIf (mOr (mB (mOp gNe (mCall 4 m_cover_paper (mCons (mTup mNil) (mCons (mC (.int 0)) (mCons (mC (.int 400)) (mCons (mC (.int 1)) mNil))))) (mTup (mCons (mC (.str "day")) (mCons (mC (.int 0)) mNil))))) (mB (mOp gNe (mCall 4 m_cover_paper (mCons (mTup (mCons (mTup (mCons (mC (.int 0)) (mCons (mC (.int 400)) mNil))) mNil)) (mCons (mC (.int 0)) (mCons (mC (.int 400)) (mCons (mC (.int 1)) mNil))))) (mTup (mCons (mC (.str "cover")) (mCons (mTup (mCons (mC (.int 0)) mNil)) mNil))))))
  (sRet (mC (.bl false)))
  sNx)
 (sSeq (sFor (mRng1 (mCons (mC (.int 8)) mNil)) (.name 2)
  (sSeq (sAsg (mCall 2 m__law_case (mCons (mVar 1) (mCons (mC (.int 20)) mNil))) (.tup [(.name 3), (.name 4), (.name 5)]))
 (sFor (mIt (mTup (mCons (mC (.int 1)) (mCons (mOp gAdd (mC (.int 1)) (mCall 2 m__law_draw (mCons (mVar 1) (mCons (mC (.int 3)) mNil)))) mNil)))) (.name 6)
  (sIf (mNot (mTru (mCall 5 m__law_is_right (mCons (mVar 1) (mCons (mVar 3) (mCons (mVar 4) (mCons (mVar 5) (mCons (mVar 6) mNil))))))))
  (sRet (mC (.bl false)))
  sNx))))
 (sRet (mC (.bl true))))))
end K64

set_option Elab.async false
set_option linter.all false
set_option maxRecDepth 100000
set_option maxHeartbeats 4000000
namespace K64
open PySem L2 Dn
def isIntD : D → Bool
  | .int _ => true
  | _ => false
theorem e_is_integer (d : D) (h : IHp) : m_is_integer [d] h = .ok (.bl (isIntD d)) h := by
  cases d <;> simp [m_is_integer, isIntD, tyD, isTy]
def isBetw (d : D) (a b : Int) : Bool := match d with
  | .int i => decide (a ≤ i) && decide (i ≤ b)
  | _ => false
theorem e_is_between (d : D) (a b : Int) (h : IHp) : m_is_between [d, .int a, .int b] h = .ok (.bl (isBetw d a b)) h := by
  cases d <;> simp [m_is_between, e_is_integer, isIntD, isBetw]
def isUnd (d : D) (n : Int) : Bool := match d with
  | .int i => decide (0 ≤ i) && decide (i < n)
  | _ => false
theorem e_is_under (d : D) (n : Int) (h : IHp) : m_is_under [d, .int n] h = .ok (.bl (isUnd d n)) h := by
  cases d <;> simp [m_is_under, e_is_integer, isIntD, isUnd]
theorem e_law_is_under (d : D) (n : Int) (h : IHp) : m__law_is_under [d, .int n] h = .ok (.bl (isUnd d n)) h := by
  cases d <;> simp [m__law_is_under, isUnd, tyD, isTy]
theorem e_is_day (d : D) (h : IHp) : m_is_day [d] h = .ok (.bl (isBetw d 0 400)) h := by
  simp [m_is_day, e_is_between]
theorem blsOf_map {α : Type} (p : α → Bool) : ∀ ds : List α, blsOf (ds.map fun d => D.bl (p d)) = some (ds.map p)
  | [] => rfl
  | d :: ds => by rw [List.map_cons, blsOf, blsOf_map p ds]; rfl
theorem gAll_map {α : Type} {h : IHp} (p : α → Bool) (ds : List α) : gAll h [.lst (ds.map fun d => D.bl (p d))] = some (.bl (ds.all p)) := by
  unfold gAll
  dsimp only [lstOf, Option.bind_some]
  rw [blsOf_map, Option.map_some, List.all_map]
  rfl
def areUnd (d : D) (n : Int) : Bool := match d with
  | .tup ds => ds.all fun d => isUnd d n
  | _ => false
/-- a tuple of which a copy can be made -/
def Sm (d : D) : Prop := ∀ ds, d = .tup ds → ds.length ≤ 1000
theorem le_line {n : Nat} (h : n ≤ 1000) : n ≤ sizeLine := Nat.le_trans h (by decide)
theorem filter_true {α : Type} (ds : List α) : ds.filter (fun _ => true) = ds := by simp
theorem e_are_under (d : D) (n : Int) (h : IHp) (z : Sm d) : m_are_under [d, .int n] h = .ok (.bl (areUnd d n)) h := by
  cases d with
  | tup ds =>
    simp [m_are_under, tyD, isTy, areUnd, wipeD]
    rw [lcD_pure (fun _ => true) (fun d => .bl (isUnd d n)) (by simp) ds [] (fun d _ => ⟨_, rfl, rfl, fun _ => by simp [e_is_under]⟩) (by have := le_line (z ds rfl); simpa using this)]
    simp [gAll_map, filter_true]
  | _ => simp [m_are_under, tyD, isTy, areUnd]
def risB (is : List Int) : Bool := (List.range (is.length - 1)).all fun i => decide (is.getD i 0 < is.getD (i + 1) 0)
theorem atI_map {is : List Int} {i : Nat} (hi : i < is.length) : L2.atI (is.map D.int) (i : Int) = some (.int (is.getD i 0)) := by
  unfold L2.atI ixN
  rw [List.length_map, if_pos (by omega), if_pos (by omega)]
  simp [hi]
theorem lot_lc {s : ISt} {is : List Int} {h : IHp} (hs : 2 < s.length) (e0 : s[0]? = some (some (.tup (is.map D.int)))) (hz : is.length ≤ 1000) :
    (mLc (mRng2 (mCons (mC (.int 1)) (mCons (mB1 gLen (mCons (mVar 0) mNil)) mNil))) (.name 2) mYes (mOp gLt (mOp gIx (mVar 0) (mOp gSub (mVar 2) (mC (.int 1)))) (mOp gIx (mVar 0) (mVar 2))) [2]) s h = .ok (.lst ((List.range (is.length - 1)).map fun i => .bl (decide (is.getD i 0 < is.getD (i + 1) 0)))) h := by
  have hr : rng2 [.int 1, .int (is.length : Nat)] = some (rngD 1 (is.length - 1), none) := by
    rw [rng2_eq (by decide) (by decide) (by omega) (by omega)]
    congr 3
    omega
  simp [e0, hr]
  have hl : (rngD 1 (is.length - 1)).length = is.length - 1 := by simp [rngD]
  rw [lcD_pure (fun _ => true) (fun d => match d with | .int k => .bl (decide (is.getD (k - 1).toNat 0 < is.getD k.toNat 0)) | _ => .non) (by simp) _ [] (fun d hd => by
    unfold rngD at hd
    obtain ⟨i, hi, rfl⟩ := List.mem_map.mp hd
    have hi : i < is.length - 1 := List.mem_range.mp hi
    refine ⟨_, rfl, rfl, fun _ => ?_⟩
    have a0 : ((wipeD s [2]).set 2 (some (.int (1 + (i : Nat)))))[0]? = some (some (.tup (is.map D.int))) := by simp [wipeD, e0]
    have a2 : ((wipeD s [2]).set 2 (some (.int (1 + (i : Nat)))))[2]? = some (some (.int (1 + (i : Nat)))) := by simp [wipeD, hs]
    simp only [mOp_eq, mVar_some a0, mVar_some a2, mC_eq, R.bind_ok, gSub_int, opt_some, gIx_tup]
    have x1 : (1 + (i : Int) - 1) = ((i : Nat) : Int) := by omega
    have x2 : (1 + (i : Int)) = ((i + 1 : Nat) : Int) := by omega
    rw [x1, atI_map (by omega)]
    rw [x2, atI_map (by omega)]
    simp) (by rw [hl]; have := le_line hz; simp; omega)]
  simp [filter_true, rngD]
  intro i hi
  have x1 : (1 + (i : Int) - 1).toNat = i := by omega
  have x2 : (1 + (i : Int)).toNat = i + 1 := by omega
  rw [x2, Nat.add_sub_cancel]
def intsD : List D → List Int
  | .int i :: ds => i :: intsD ds
  | _ :: ds => 0 :: intsD ds
  | [] => []
theorem intsD_of {n : Int} : ∀ {ds : List D}, (ds.all fun d => isUnd d n) = true → ds = (intsD ds).map D.int
  | [], _ => rfl
  | d :: ds, h => by
    rw [List.all_cons, Bool.and_eq_true] at h
    cases d with
    | int i => rw [intsD, List.map_cons, ← intsD_of h.2]
    | _ => exact absurd h.1 (by simp [isUnd])
def isLot (d : D) (n : Int) : Bool := match d with
  | .tup ds => (ds.all fun d => isUnd d n) && risB (intsD ds)
  | _ => false
theorem e_is_lot (d : D) (n : Int) (h : IHp) (z : Sm d) : m_is_lot [d, .int n] h = .ok (.bl (isLot d n)) h := by
  unfold m_is_lot
  cases d with
  | tup ds =>
    cases ha : (ds.all fun d => isUnd d n) with
    | false => simp [e_are_under _ _ _ z, areUnd, ha, isLot, -mLc_eq]
    | true =>
      have e0 := intsD_of ha
      have hz : (intsD ds).length ≤ 1000 := by have := z ds rfl; have h2 := congrArg List.length e0; rw [List.length_map] at h2; omega
      simp [e_are_under _ _ _ z, areUnd, ha, isLot, -mLc_eq]
      rw [lot_lc (is := intsD ds) (by simp) (by simp [← e0]) hz]
      simp [gAll_map, risB]
  | _ => simp [e_are_under _ _ _ z, areUnd, isLot, -mLc_eq]
theorem e_law_is_lot (d : D) (n : Int) (h : IHp) (z : Sm d) : m__law_is_lot [d, .int n] h = .ok (.bl (isLot d n)) h := by
  unfold m__law_is_lot
  cases d with
  | tup ds =>
    have l1 : lcD (ds, none) (.name 3) mYes (mCall 2 m__law_is_under (mCons (mVar 3) (mCons (mVar 1) mNil))) [some (.tup ds), some (.int n), none, none] ds [] h = .ok (ds.map fun d => .bl (isUnd d n)) h := by
      rw [lcD_pure (fun _ => true) (fun d => .bl (isUnd d n)) (by simp) ds [] (fun d _ => ⟨_, rfl, rfl, fun _ => by simp [e_law_is_under]⟩) (by have := le_line (z ds rfl); simpa using this)]
      simp [filter_true]
    cases ha : (ds.all fun d => isUnd d n) with
    | false =>
      simp [tyD, isTy, wipeD, l1, gAll_map, ha, isLot]
    | true =>
      have e0 := intsD_of ha
      have hz : (intsD ds).length ≤ 1000 := by have := z ds rfl; have h2 := congrArg List.length e0; rw [List.length_map] at h2; omega
      rw [runD_eq, seq_nx (s' := [some (.tup ds), some (.int n), none, none]) (h' := h) (by simp [tyD, isTy, wipeD, l1, gAll_map, ha])]
      rw [sRet_eq, mB1_eq, mCons_eq, lot_lc (is := intsD ds) (by simp) (by simp [← e0]) hz]
      simp [gAll_map, risB, isLot, ha]
  | _ => simp [tyD, isTy, isLot]
end K64

set_option Elab.async false
set_option linter.all false
set_option maxRecDepth 100000
set_option maxHeartbeats 4000000
namespace K64
open PySem L2 Dn
abbrev Sp := Int × Int
def onS (d : Int) (p : Sp) : Bool := decide (p.1 ≤ d) && decide (d ≤ p.2)
def spT (p : Sp) : D := .tup [.int p.1, .int p.2]
def cnt (S : List Sp) (d : Int) : Nat := (S.filter (onS d)).length
def OkS (S : List Sp) : Prop := S.length ≤ 20 ∧ ∀ p ∈ S, 0 ≤ p.1 ∧ p.1 ≤ p.2 ∧ p.2 ≤ 400
def dys (f : Int) (n : Nat) : List Int := (List.range n).map fun i => f + (i : Nat)
theorem rngD_dys (f : Int) (n : Nat) : rngD f n = (dys f n).map D.int := by simp [rngD, dys]
theorem mem_dys {f d : Int} {n : Nat} : d ∈ dys f n ↔ f ≤ d ∧ d < f + n := by
  unfold dys
  rw [List.mem_map]
  constructor
  · rintro ⟨i, hi, rfl⟩
    have := List.mem_range.mp hi
    omega
  · rintro ⟨a, b⟩
    exact ⟨(d - f).toNat, List.mem_range.mpr (by omega), by omega⟩
theorem dys_len (f : Int) (n : Nat) : (dys f n).length = n := by simp [dys]
variable {S : List Sp} {h : IHp}
theorem e_is_stretch {p : Sp} (o : 0 ≤ p.1 ∧ p.1 ≤ p.2 ∧ p.2 ≤ 400) : m_is_stretch [spT p] h = .ok (.bl true) h := by
  have a1 : L2.atI [D.int p.1, D.int p.2] 0 = some (.int p.1) := rfl
  have a2 : L2.atI [D.int p.1, D.int p.2] 1 = some (.int p.2) := rfl
  simp [m_is_stretch, m_is_tuple_of, spT, tyD, isTy, a1, a2, e_is_day, isBetw]
  omega
theorem all_true {α : Type} {p : α → Bool} {l : List α} (q : ∀ a ∈ l, p a = true) : l.all p = true := List.all_eq_true.mpr q
theorem e_need_spans (o : OkS S) : m_need_spans [.tup (S.map spT)] h = .ok .non h := by
  have z : ([] : List D).length + (S.map spT).length ≤ sizeLine := by have := le_line (show S.length ≤ 1000 by have := o.1; omega); simpa using this
  have g : gAll h [.lst ((S.map spT).map fun _ => D.bl true)] = some (.bl true) := by rw [gAll_map (fun _ => true)]; simp
  have l1 : ¬ (20 : Int) < S.length := by have := o.1; omega
  unfold m_need_spans
  simp [tyD, isTy, l1, wipeD]
  rw [lcD_pure (fun _ => true) (fun _ => .bl true) (by simp) _ [] (fun d hd => ⟨_, rfl, rfl, fun _ => by
    obtain ⟨p, hp, rfl⟩ := List.mem_map.mp hd
    simp [e_is_stretch (o.2 p hp)]⟩) z]
  rw [filter_true]
  simp only [List.nil_append, R.bind_ok, mB1_eq, g, opt_some]
  simp [g]
theorem e_need_days {f l : Int} (h0 : 0 ≤ f) (h1 : f ≤ l) (h2 : l ≤ 400) : m_need_days [.int f, .int l] h = .ok .non h := by
  have a : isBetw (.int f) 0 400 = true := by simp [isBetw]; omega
  have b : isBetw (.int l) 0 400 = true := by simp [isBetw]; omega
  have c : ¬ l < f := by omega
  simp [m_need_days, e_is_day, a, b, c]
theorem e_need_times {t : Int} (h0 : 1 ≤ t) (h1 : t ≤ 3) : m_need_times [.int t] h = .ok .non h := by
  have a : isBetw (.int t) 1 3 = true := by simp [isBetw]; omega
  simp [m_need_times, e_is_between, a]
theorem zip_filter {p q : D → Bool} (hp : ∀ i d, p (.tup [.int i, d]) = q d) : ∀ (l : List Nat) (ds : List D), l.length = ds.length → ((l.zipWith (fun i d => D.tup [.int (i : Nat), d]) ds).filter p).length = (ds.filter q).length
  | [], [], _ => rfl
  | i :: l, d :: ds, e => by
    have ih := zip_filter hp l ds (by simpa using e)
    rw [List.zipWith_cons_cons, List.filter_cons, List.filter_cons, hp]
    split <;> simp [ih]
  | [], _ :: _, e => by simp at e
  | _ :: _, [], e => by simp at e
def qD (d : Int) (x : D) : Bool := match x with
  | .tup [.int a, .int b] => onS d (a, b)
  | _ => false
def pD (d : Int) (x : D) : Bool := match x with
  | .tup [_, y] => qD d y
  | _ => false
def fD (x : D) : D := match x with
  | .tup [k, _] => k
  | _ => .non
theorem raw_lc {x : D} {d : Int} (hz : S.length ≤ 1000) :
    ∃ es, lcD (enumD (S.map spT), none) (.tup [(.name 4), (.tup [(.name 2), (.name 3)])]) (mB (mChain gLe gLe (mVar 2) (mVar 1) (mVar 3))) (mVar 4) [some x, some (.int d), none, none, none] (enumD (S.map spT)) [] h = .ok es h ∧ es.length = cnt S d := by
  refine ⟨_, lcD_pure (pD d) fD (by simp) _ [] (fun x hx => ?_) (by rw [enumD_len]; have := le_line hz; simpa using this), ?_⟩
  · unfold enumD at hx
    rw [List.mem_iff_getElem] at hx
    obtain ⟨i, hi, rfl⟩ := hx
    rw [List.getElem_zipWith, List.getElem_map]
    obtain ⟨p, hp⟩ : ∃ p, p = S[i]'(by simpa using hi) := ⟨_, rfl⟩
    rw [← hp]
    refine ⟨_, rfl, ?_, fun _ => ?_⟩
    · simp [pD, spT, qD, onS]
    · simp [fD, spT]
  · rw [List.nil_append, List.length_map]
    unfold enumD
    rw [zip_filter (q := qD d) (fun i x => rfl) _ _ (by simp)]
    unfold cnt
    rw [List.filter_map, List.length_map]
    rfl
theorem e_raw_on {x : D} {d : Int} (hx : x = .tup (S.map spT) ∨ x = .lst (S.map spT)) (hz : S.length ≤ 1000) : ∃ es, m_raw_on [x, .int d] h = .ok (.lst es) h ∧ es.length = cnt S d := by
  obtain ⟨es, e1, e2⟩ := raw_lc (S := S) (h := h) (x := x) (d := d) hz
  refine ⟨es, ?_, e2⟩
  unfold m_raw_on
  rcases hx with rfl | rfl <;> simp [wipeD, e1]
/-- the stretches of a lot -/
def pick (S : List Sp) (is : List Int) : List Sp := is.map fun i => S.getD i.toNat (0, 0)
theorem atI_spT {i : Int} (h0 : 0 ≤ i) (h1 : i < S.length) : L2.atI (S.map spT) i = some (spT (S.getD i.toNat (0, 0))) := by
  unfold L2.atI ixN
  have : i.toNat < S.length := by omega
  rw [List.length_map, if_pos (by omega), if_pos (by omega)]
  simp [this]
def bare (T : List Sp) (f : Int) (n : Nat) (t : Int) : Option Int := (dys f n).find? fun d => decide ((cnt T d : Int) < t)
def orN : Option Int → D
  | some d => .int d
  | none => .non
def InL (is : List Int) (n : Int) : Prop := ∀ i ∈ is, 0 ≤ i ∧ i < n
theorem e_first_bare {is : List Int} {f l t : Int} (hz : is.length ≤ 1000) (hi : InL is S.length) (hf : -1000 ≤ f) (hf2 : f ≤ 1000) (hl : -1000 ≤ l) (hl2 : l ≤ 1000) :
    m_first_bare [.tup (S.map spT), .tup (is.map D.int), .int f, .int l, .int t] h = .ok (orN (bare (pick S is) f (l + 1 - f).toNat t)) h := by
  unfold m_first_bare
  have c1 : lcD (is.map D.int, none) (.name 7) mYes (mOp gIx (mVar 0) (mVar 7)) [some (.tup (S.map spT)), some (.tup (is.map D.int)), some (.int f), some (.int l), some (.int t), none, none, none] (is.map D.int) [] h = .ok ((pick S is).map spT) h := by
    rw [lcD_pure (fun _ => true) (fun x => match x with | .int i => spT (S.getD i.toNat (0, 0)) | _ => .non) (by simp) _ [] (fun x hx => ⟨_, rfl, rfl, fun _ => by
      obtain ⟨i, hm, rfl⟩ := List.mem_map.mp hx
      simp [atI_spT (hi i hm).1 (hi i hm).2]⟩) (by have := le_line hz; simpa using this)]
    simp [filter_true, pick]
  rw [runD_eq]
  rw [seq_nx (s' := [some (.tup (S.map spT)), some (.tup (is.map D.int)), some (.int f), some (.int l), some (.int t), some (.lst ((pick S is).map spT)), none, none]) (h' := h) (by simp [wipeD, c1])]
  have hr : rng2 [.int f, .int (l + 1)] = some ((dys f (l + 1 - f).toNat).map D.int, none) := by
    rw [rng2_eq (by omega) (by omega) (by omega) (by omega), rngD_dys]
  have hb : ∀ d : Int, (sIf (mB (mOp gLt (mB1 gLen (mCons (mCall 2 m_raw_on (mCons (mVar 5) (mCons (mVar 6) mNil))) mNil)) (mVar 4)))
  (sRet (mVar 6))
  sNx) [some (.tup (S.map spT)), some (.tup (is.map D.int)), some (.int f), some (.int l), some (.int t), some (.lst ((pick S is).map spT)), some (.int d), none] h = if ((cnt (pick S is) d : Nat) : Int) < t then .rt (.int d) h else .nx [some (.tup (S.map spT)), some (.tup (is.map D.int)), some (.int f), some (.int l), some (.int t), some (.lst ((pick S is).map spT)), some (.int d), none] h := fun d => by
    obtain ⟨es, q1, q2⟩ := e_raw_on (S := pick S is) (h := h) (x := .lst ((pick S is).map spT)) (d := d) (.inr rfl) (by simpa [pick] using hz)
    simp [q1, q2]
  have e3 : mRng2 (mCons (mVar 2) (mCons (mOp gAdd (mVar 3) (mC (.int 1))) mNil)) [some (.tup (S.map spT)), some (.tup (is.map D.int)), some (.int f), some (.int l), some (.int t), some (.lst ((pick S is).map spT)), none, none] h = .ok ((dys f (l + 1 - f).toNat).map D.int, none) h := by simp [hr]
  rw [sSeq_eq, sFor_eq, e3, bindS_ok]
  rw [loopD_find (fun x => match x with | .int d => decide ((cnt (pick S is) d : Int) < t) | _ => false) id (by simp) _ _ (fun x hx => by
    obtain ⟨d, hm, rfl⟩ := List.mem_map.mp hx
    refine (hb d).trans ?_
    simp)]
  rw [List.find?_map]
  show (match (match (match ((dys f (l + 1 - f).toNat).find? fun d => decide ((cnt (pick S is) d : Int) < t)).map D.int with | some d => RT.rt d h | none => RT.nx _ h) with | .nx s h => sRet (mC .non) s h | r => r) with | .nx _ h => _ | .rt d h => _ | .ex c _ h => _ | _ => _) = _
  unfold bare
  cases ((dys f (l + 1 - f).toNat).find? fun d => decide ((cnt (pick S is) d : Int) < t)) with
  | some d => rfl
  | none => simp [orN]
/-- all numbers of a tuple -/
def alls (n : Nat) : List Int := dys 0 n
theorem alls_in (n : Nat) : InL (alls n) n := fun i hi => by have := mem_dys.mp hi; omega
theorem alls_len (n : Nat) : (alls n).length = n := dys_len _ _
theorem pick_alls : pick S (alls S.length) = S := by
  unfold pick alls dys
  apply List.ext_getElem
  · simp
  · intro i h1 h2
    simp [h2]
theorem all_r {h : IHp} : mR1 (mB1 gLen (mCons (mVar 0) mNil)) [some (.tup (S.map spT))] h = .ok (0, (S.length : Nat)) h := by simp
theorem all_t {h : IHp} (hz : S.length ≤ 1000) : mTupR (mR1 (mB1 gLen (mCons (mVar 0) mNil))) [some (.tup (S.map spT))] h = .ok (.tup (rngD 0 ((S.length : Int) - 0).toNat)) h :=
  mTupR_ok all_r (rgOk_ok (by decide) (by decide) (by omega) (by omega) (by omega))
theorem all_m {h : IHp} (hz : S.length ≤ 1000) : m_all_of [.tup (S.map spT)] h = .ok (.tup (rngD 0 ((S.length : Int) - 0).toNat)) h := by
  have t := all_t (h := h) hz
  unfold m_all_of
  rw [runD_eq]
  simp [-mTupR_eq, t]
theorem e_all_of {h : IHp} (hz : S.length ≤ 1000) : m_all_of [.tup (S.map spT)] h = .ok (.tup ((alls S.length).map D.int)) h := by
  rw [all_m hz, rngD_dys, Int.sub_zero, Int.toNat_natCast]
  rfl
/-- the paper of a cover -/
def paper (S : List Sp) (f : Int) (n : Nat) (t : Int) : D := match bare S f n t with
  | some d => .tup [.str "day", .int d]
  | none => .tup [.str "cover", .tup ((alls S.length).map D.int)]
section
variable {f l t : Int}
theorem e_cover_paper (o : OkS S) (h0 : 0 ≤ f) (h1 : f ≤ l) (h2 : l ≤ 400) (t1 : 1 ≤ t) (t3 : t ≤ 3) :
    m_cover_paper [.tup (S.map spT), .int f, .int l, .int t] h = .ok (paper S f (l + 1 - f).toNat t) h := by
  have z : S.length ≤ 1000 := by have := o.1; omega
  have fb := e_first_bare (S := S) (h := h) (is := alls S.length) (f := f) (l := l) (t := t) (by rw [alls_len]; exact z) (alls_in _) (by omega) (by omega) (by omega) (by omega)
  rw [pick_alls] at fb
  unfold m_cover_paper paper
  cases hb : bare S f (l + 1 - f).toNat t with
  | some d =>
    rw [hb] at fb
    simp [e_need_spans o, e_need_days h0 h1 h2, e_need_times t1 t3, e_all_of z, fb, orN]
  | none =>
    rw [hb] at fb
    simp [e_need_spans o, e_need_days h0 h1 h2, e_need_times t1 t3, e_all_of z, fb, orN]
theorem lot_in {ds : List D} {n : Int} (e : (ds.all fun d => isUnd d n) = true) : InL (intsD ds) n := fun i hi => by
  have e0 := intsD_of e
  have hm : D.int i ∈ ds := by rw [e0]; exact List.mem_map.mpr ⟨i, hi, rfl⟩
  have := List.all_eq_true.mp e _ hm
  simpa [isUnd] using this
/-- what is due for a thing -/
def due (S : List Sp) (f : Int) (n : Nat) (l t : Int) (x : D) : Bool := match x with
  | .tup [.str s, b] => if s = "cover" then isLot b S.length && (match b with | .tup ds => (bare (pick S (intsD ds)) f n t).isNone | _ => false)
    else if s = "day" then (match b with | .int d => decide (f ≤ d) && decide (d ≤ l) && decide ((cnt S d : Int) < t) | _ => false)
    else false
  | _ => false
def OkT (x : D) : Prop := ∀ a b, x = .tup [a, b] → Sm b
theorem e_is_cover (o : OkS S) (h0 : 0 ≤ f) (h1 : f ≤ l) (h2 : l ≤ 400) (t1 : 1 ≤ t) (t3 : t ≤ 3) {x : D} (ox : OkT x) :
    m_is_cover_paper [.tup (S.map spT), .int f, .int l, .int t, x] h = .ok (.bl (due S f (l + 1 - f).toNat l t x)) h := by
  have z : S.length ≤ 1000 := by have := o.1; omega
  unfold m_is_cover_paper
  rw [runD_eq]
  rw [seq_nx (s' := [some (.tup (S.map spT)), some (.int f), some (.int l), some (.int t), some x]) (h' := h) (by simp [e_need_spans o])]
  rw [seq_nx (s' := [some (.tup (S.map spT)), some (.int f), some (.int l), some (.int t), some x]) (h' := h) (by simp [e_need_days h0 h1 h2])]
  rw [seq_nx (s' := [some (.tup (S.map spT)), some (.int f), some (.int l), some (.int t), some x]) (h' := h) (by simp [e_need_times t1 t3])]
  cases x with
  | tup ds =>
    match ds, ox with
    | [], _ => simp [m_is_tuple_of, tyD, isTy, due]
    | [a], _ => simp [m_is_tuple_of, tyD, isTy, due]
    | a :: b :: c :: r, _ =>
      have : ¬ ((r.length : Int) + 1 + 1 + 1 = 2) := by omega
      simp [m_is_tuple_of, tyD, isTy, due, this]
    | [a, b], ox =>
      have a1 : L2.atI [a, b] 0 = some a := rfl
      have a2 : L2.atI [a, b] 1 = some b := rfl
      cases a with
      | str s =>
        rw [seq_nx (s' := [some (.tup (S.map spT)), some (.int f), some (.int l), some (.int t), some (.tup [.str s, b])]) (h' := h) (by simp [m_is_tuple_of, tyD, isTy, a1])]
        by_cases e1 : s = "cover"
        · subst e1
          have sb : Sm b := ox _ _ rfl
          cases hb : isLot b S.length with
          | false => simp [a1, a2, e_is_lot _ _ _ sb, hb, due]
          | true =>
            cases b with
            | tup bs =>
              have hb2 := hb
              unfold isLot at hb2
              rw [Bool.and_eq_true] at hb2
              have e0 := intsD_of hb2.1
              have li := lot_in hb2.1
              have lz : (intsD bs).length ≤ 1000 := by have := sb bs rfl; have h2 := congrArg List.length e0; rw [List.length_map] at h2; omega
              have fb := e_first_bare (S := S) (h := h) (is := intsD bs) (f := f) (l := l) (t := t) lz li (by omega) (by omega) (by omega) (by omega)
              rw [← e0] at fb
              simp [a1, a2, e_is_lot _ _ _ sb, hb, due, fb]
              cases bare (pick S (intsD bs)) f (l + 1 - f).toNat t <;> rfl
            | _ => cases hb
        · by_cases e2 : s = "day"
          · subst e2
            cases b with
            | int d =>
              by_cases hd : f ≤ d ∧ d ≤ l
              · obtain ⟨es, q1, q2⟩ := e_raw_on (S := S) (h := h) (x := .tup (S.map spT)) (d := d) (.inl rfl) z
                simp [a1, a2, e1, e_is_between, isBetw, hd, q1, q2, due]
              · have : (decide (f ≤ d) && decide (d ≤ l)) = false := by simpa using hd
                simp [a1, a2, e1, e_is_between, isBetw, this, due]
            | _ => simp [a1, a2, e1, e_is_between, isBetw, due]
          · simp [a1, a2, e1, e2, due]
      | _ => simp [m_is_tuple_of, tyD, isTy, a1, due]
  | _ => simp [m_is_tuple_of, tyD, isTy, due]
end
end K64

set_option Elab.async false
set_option linter.all false
set_option maxRecDepth 100000
set_option maxHeartbeats 4000000
namespace K64
open PySem L2 Dn
variable {S : List Sp} {h : IHp} {f l t : Int}
theorem e_law_cover {x : D} {is : List Int} {d : Int} (hx : x = .tup (is.map D.int) ∨ x = .lst (is.map D.int)) (hz : is.length ≤ 1000) (hi : InL is S.length) :
    m__law_cover [.tup (S.map spT), x, .int d] h = .ok (.int (cnt (pick S is) d)) h := by
  have c1 : lcD (is.map D.int, none) (.name 3) (mB (mChain gLe gLe (mOp gIx (mOp gIx (mVar 0) (mVar 3)) (mC (.int 0))) (mVar 2) (mOp gIx (mOp gIx (mVar 0) (mVar 3)) (mC (.int 1))))) (mVar 3) [some (.tup (S.map spT)), some x, some (.int d), none] (is.map D.int) [] h = .ok ((is.filter fun i => onS d (S.getD i.toNat (0, 0))).map D.int) h := by
    rw [lcD_pure (fun x => match x with | .int i => onS d (S.getD i.toNat (0, 0)) | _ => false) id (by simp) _ [] (fun y hy => by
      obtain ⟨i, hm, rfl⟩ := List.mem_map.mp hy
      have a0 := atI_spT (hi i hm).1 (hi i hm).2
      obtain ⟨p, hp⟩ : ∃ p, p = S.getD i.toNat (0, 0) := ⟨_, rfl⟩
      rw [← hp] at a0
      have a1 : L2.atI [D.int p.1, D.int p.2] 0 = some (.int p.1) := rfl
      have a2 : L2.atI [D.int p.1, D.int p.2] 1 = some (.int p.2) := rfl
      refine ⟨_, rfl, ?_, fun _ => by simp⟩
      show _ = R.ok (onS d (S.getD i.toNat (0, 0))) h
      rw [← hp]
      simp [a0]
      simp [spT, a1, a2, onS]) (by have := le_line hz; simpa using this)]
    rw [List.filter_map, List.map_id, List.nil_append]
    rfl
  have c2 : cnt (pick S is) d = (is.filter fun i => onS d (S.getD i.toNat (0, 0))).length := by
    unfold cnt pick
    rw [List.filter_map, List.length_map]
    rfl
  unfold m__law_cover
  rw [c2]
  rcases hx with rfl | rfl <;> simp [wipeD, c1]
theorem all_l (hz : S.length ≤ 1000) {a b c x e : Option D} : mLstR (mR1 (mB1 gLen (mCons (mVar 0) mNil))) [some (.tup (S.map spT)), a, b, c, x, e] h = .ok (.lst (rngD 0 ((S.length : Int) - 0).toNat)) h :=
  mLstR_ok (by simp) (rgOk_ok (by decide) (by decide) (by omega) (by omega) (by omega))
theorem all_d : rngD 0 ((S.length : Int) - 0).toNat = (alls S.length).map D.int := by rw [rngD_dys, Int.sub_zero, Int.toNat_natCast]; rfl
theorem ge_all {T : List Sp} {n : Nat} : ((dys f n).all fun d => decide (t ≤ (cnt T d : Int))) = (bare T f n t).isNone := by
  unfold bare
  rw [Bool.eq_iff_iff, List.all_eq_true, Option.isNone_iff_eq_none, List.find?_eq_none]
  constructor
  · intro a d hd
    have := a d hd
    simp at this ⊢
    omega
  · intro a d hd
    have := a d hd
    simp at this ⊢
    omega
theorem e_judged (z : S.length ≤ 1000) (h0 : 0 ≤ f) (h1 : f ≤ l) (h2 : l ≤ 400) {x : D} (ox : OkT x) :
    m__law_judged [.tup (S.map spT), .int f, .int l, .int t, x] h = .ok (.bl (due S f (l + 1 - f).toNat l t x)) h := by
  unfold m__law_judged
  cases x with
  | tup ds =>
    match ds, ox with
    | [], _ => simp [tyD, isTy, due]
    | [a], _ => simp [tyD, isTy, due]
    | a :: b :: c :: r, _ =>
      have : ¬ ((r.length : Int) + 1 + 1 + 1 = 2) := by omega
      simp [tyD, isTy, due, this]
    | [a, b], ox =>
      have a1 : L2.atI [a, b] 0 = some a := rfl
      have a2 : L2.atI [a, b] 1 = some b := rfl
      cases a with
      | str s =>
        rw [runD_eq]
        rw [seq_nx (s' := [some (.tup (S.map spT)), some (.int f), some (.int l), some (.int t), some (.tup [.str s, b]), none]) (h' := h) (by simp [tyD, isTy, a1])]
        by_cases e1 : s = "cover"
        · subst e1
          have sb : Sm b := ox _ _ rfl
          cases hb : isLot b S.length with
          | false => simp [a1, a2, e_law_is_lot _ _ _ sb, hb, due, -mLc_eq]
          | true =>
            cases b with
            | tup bs =>
              have hb2 := hb
              unfold isLot at hb2
              rw [Bool.and_eq_true] at hb2
              have e0 := intsD_of hb2.1
              have li := lot_in hb2.1
              have lz : (intsD bs).length ≤ 1000 := by have := sb bs rfl; have h2 := congrArg List.length e0; rw [List.length_map] at h2; omega
              have hr : rng2 [.int f, .int (l + 1)] = some ((dys f (l + 1 - f).toNat).map D.int, none) := by
                rw [rng2_eq (by omega) (by omega) (by omega) (by omega), rngD_dys]
              have dl : (dys f (l + 1 - f).toNat).length ≤ sizeLine := le_line (by rw [dys_len]; omega)
              have c1 : lcD ((dys f (l + 1 - f).toNat).map D.int, none) (.name 5) mYes (mOp gGe (mCall 3 m__law_cover (mCons (mVar 0) (mCons (mOp gIx (mVar 4) (mC (.int 1))) (mCons (mVar 5) mNil)))) (mVar 3)) [some (.tup (S.map spT)), some (.int f), some (.int l), some (.int t), some (.tup [.str "cover", .tup bs]), none] ((dys f (l + 1 - f).toNat).map D.int) [] h
                  = .ok ((dys f (l + 1 - f).toNat).map fun d => .bl (decide (t ≤ (cnt (pick S (intsD bs)) d : Int)))) h := by
                rw [lcD_pure (fun _ => true) (fun x => match x with | .int d => .bl (decide (t ≤ (cnt (pick S (intsD bs)) d : Int))) | _ => .non) (by simp) _ [] (fun y hy => ⟨_, rfl, rfl, fun _ => by
                  obtain ⟨d, hm, rfl⟩ := List.mem_map.mp hy
                  have lc := e_law_cover (S := S) (h := h) (x := .tup bs) (is := intsD bs) (d := d) (.inl (by rw [← e0])) lz li
                  simp [a2, lc]⟩) (by simpa using dl)]
                rw [filter_true, List.map_map, List.nil_append]
                rfl
              simp [a1, a2, e_law_is_lot _ _ _ sb, hb, due, hr, wipeD, c1, gAll_map, ge_all]
            | _ => cases hb
        · by_cases e2 : s = "day"
          · subst e2
            cases b with
            | int d =>
              have lc := e_law_cover (S := S) (h := h) (x := .lst ((alls S.length).map D.int)) (is := alls S.length) (d := d) (.inr rfl) (by rw [alls_len]; exact z) (alls_in _)
              rw [pick_alls] at lc
              have al := all_l (S := S) (h := h) z (a := some (.int f)) (b := some (.int l)) (c := some (.int t)) (x := some (.tup [.str "day", .int d])) (e := none)
              rw [all_d] at al
              by_cases hd : f ≤ d ∧ d ≤ l
              · have u : isUnd (.int d) (l + 1) = true := by simp [isUnd]; omega
                have nb : ¬ d < f := by omega
                simp [a1, a2, e1, e_law_is_under, u, nb, hd, due, -mLstR_eq, al, lc]
              · have dd : (decide (f ≤ d) && decide (d ≤ l)) = false := by simpa using hd
                cases u : isUnd (.int d) (l + 1) with
                | false => simp [a1, a2, e1, e_law_is_under, u, dd, due, -mLstR_eq]
                | true =>
                  have nb : d < f := by simp [isUnd] at u; omega
                  simp [a1, a2, e1, e_law_is_under, u, nb, dd, due, -mLstR_eq]
            | _ => simp [a1, a2, e1, e_law_is_under, isUnd, due, -mLstR_eq]
          · simp [a1, a2, e1, e2, due, -mLstR_eq]
      | _ => simp [tyD, isTy, a1, due]
  | _ => simp [tyD, isTy, due]
end K64

set_option Elab.async false
set_option linter.all false
set_option maxRecDepth 100000
set_option maxHeartbeats 4000000
namespace K64
open PySem L2 Dn
variable {S : List Sp} {h : IHp} {f l t : Int}
theorem draw_is : m__law_draw = mDraw := rfl
theorem any_is : m__law_any = mAny := rfl
theorem hand_is : m__law_hand = mHand 6401 := rfl
theorem paper_ok (z : S.length ≤ 1000) (n : Nat) : OkT (paper S f n t) := by
  unfold paper OkT
  intro a b e
  split at e
  · cases e
    rintro ds ⟨⟩
  · cases e
    rintro ds ⟨⟩
    rw [List.length_map, alls_len]
    exact z
noncomputable def near_t : MS :=
 (sSeq (sSet 8 (mLst (mCons (mVar 2) (mCons (mVar 3) (mCons (mOp gSub (mVar 2) (mC (.int 1))) (mCons (mOp gAdd (mVar 3) (mC (.int 1))) (mCons (mOp gAdd (mVar 2) (mCall 2 m__law_draw (mCons (mVar 0) (mCons (mOp gAdd (mOp gSub (mVar 3) (mVar 2)) (mC (.int 1))) mNil)))) (mCons (mC .non) (mCons (mC (.bl true)) mNil)))))))))
 (sSeq (sSet 8 (mOp gAdd (mVar 8) (mIf (mB (mOp gEq (mOp gIx (mVar 4) (mC (.int 0))) (mC (.str "day")))) (mLst (mCons (mOp gAdd (mOp gIx (mVar 4) (mC (.int 1))) (mC (.int 1))) (mCons (mOp gSub (mOp gIx (mVar 4) (mC (.int 1))) (mC (.int 1))) mNil))) (mLst mNil))))
 (sRet (mOp gAdd (mLc (mIt (mVar 6)) (.name 10) mYes (mTup (mCons (mC (.str "cover")) (mCons (mVar 10) mNil))) [10]) (mLc (mIt (mVar 8)) (.name 9) mYes (mTup (mCons (mC (.str "day")) (mCons (mVar 9) mNil))) [9])))))
theorem near_end {a b c d e : Option D} {L : List D} (hL : ∀ x ∈ L, Sm x) (Ll : L.length ≤ 20) (h0 : 0 ≤ f) (h1 : f ≤ l) (h2 : l ≤ 400) (ho : HO h) {n : Nat} :
    ∃ ts h', near_t [some (.ref 0), some (.tup (S.map spT)), some (.int f), some (.int l), some (paper S f n t), a, some (.lst L), b, c, d, e] h = .rt (.lst ts) h' ∧ HO h' ∧ (∀ x ∈ ts, OkT x) ∧ ts.length ≤ 100 := by
  obtain ⟨r, h', e1, o, s, r0, r1⟩ := e_draw ho (n := l - f + 1) (by omega) (by omega)
  have fin : ∀ {ds : List D} {b c d e : Option D}, (∀ x ∈ ds, Sm x) → ds.length ≤ 9 → ∃ ts h'', (sRet (mOp gAdd (mLc (mIt (mVar 6)) (.name 10) mYes (mTup (mCons (mC (.str "cover")) (mCons (mVar 10) mNil))) [10]) (mLc (mIt (mVar 8)) (.name 9) mYes (mTup (mCons (mC (.str "day")) (mCons (mVar 9) mNil))) [9]))) [some (.ref 0), some (.tup (S.map spT)), some (.int f), some (.int l), some (paper S f n t), a, some (.lst L), b, some (.lst ds), d, e] h' = .rt (.lst ts) h'' ∧ HO h'' ∧ (∀ x ∈ ts, OkT x) ∧ ts.length ≤ 100 := by
    intro ds b c d e hd dl
    have c1 : ∀ s0 : ISt, 10 < s0.length → lcD (L, none) (.name 10) mYes (mTup (mCons (mC (.str "cover")) (mCons (mVar 10) mNil))) s0 L [] h' = .ok (L.map fun x => .tup [.str "cover", x]) h' := fun s0 sl => by
      rw [lcD_pure (fun _ => true) (fun x => .tup [.str "cover", x]) (by simp) _ [] (fun y hy => ⟨_, rfl, rfl, fun _ => by
        have : (s0.set 10 (some y))[10]? = some (some y) := by simp [sl]
        simp [mVar_some this]⟩) (by have := le_line (show L.length ≤ 1000 by omega); simpa using this)]
      rw [filter_true, List.nil_append]
    have c2 : ∀ s0 : ISt, 9 < s0.length → lcD (ds, none) (.name 9) mYes (mTup (mCons (mC (.str "day")) (mCons (mVar 9) mNil))) s0 ds [] h' = .ok (ds.map fun x => .tup [.str "day", x]) h' := fun s0 sl => by
      rw [lcD_pure (fun _ => true) (fun x => .tup [.str "day", x]) (by simp) _ [] (fun y hy => ⟨_, rfl, rfl, fun _ => by
        have : (s0.set 9 (some y))[9]? = some (some y) := by simp [sl]
        simp [mVar_some this]⟩) (by have := le_line (show ds.length ≤ 1000 by omega); simpa using this)]
      rw [filter_true, List.nil_append]
    refine ⟨(L.map fun x => .tup [.str "cover", x]) ++ (ds.map fun x => .tup [.str "day", x]), h', ?_, o, ?_, ?_⟩
    · have g := gAdd_lst (h := h') (ds := L.map fun x => D.tup [.str "cover", x]) (es := ds.map fun x => D.tup [.str "day", x]) (le_line (by rw [List.length_map, List.length_map]; omega))
      simp [wipeD, c1, c2, g]
    · intro x hx
      rcases List.mem_append.mp hx with hx | hx
      · obtain ⟨y, hy, rfl⟩ := List.mem_map.mp hx
        rintro a b ⟨⟩
        exact hL _ hy
      · obtain ⟨y, hy, rfl⟩ := List.mem_map.mp hx
        rintro a b ⟨⟩
        exact hd _ hy
    · rw [List.length_append, List.length_map, List.length_map]
      omega
  unfold near_t
  rw [seq_nx (s' := [some (.ref 0), some (.tup (S.map spT)), some (.int f), some (.int l), some (paper S f n t), a, some (.lst L), b, some (.lst [.int f, .int l, .int (f - 1), .int (l + 1), .int (f + r), .non, .bl true]), d, e]) (h' := h') (by simp [draw_is, e1])]
  have si : ∀ i : Int, Sm (.int i) := fun i ds e => by cases e
  have s7 : ∀ x ∈ [D.int f, .int l, .int (f - 1), .int (l + 1), .int (f + r), .non, .bl true], Sm x := by
    intro x hx ds e
    subst e
    simp at hx
  have m0 : 9 ≤ 9 := Nat.le_refl 9
  cases hb : bare S f n t with
  | some d0 =>
    have a0 : L2.atI [D.str "day", D.int d0] 0 = some (.str "day") := rfl
    have a1 : L2.atI [D.str "day", D.int d0] 1 = some (.int d0) := rfl
    have g := gAdd_lst (h := h') (ds := [.int f, .int l, .int (f - 1), .int (l + 1), .int (f + r), .non, .bl true]) (es := [.int (d0 + 1), .int (d0 - 1)]) (le_line (by simp))
    simp at g
    rw [seq_nx (s' := [some (.ref 0), some (.tup (S.map spT)), some (.int f), some (.int l), some (paper S f n t), a, some (.lst L), b, some (.lst ([.int f, .int l, .int (f - 1), .int (l + 1), .int (f + r), .non, .bl true] ++ [.int (d0 + 1), .int (d0 - 1)])), d, e]) (h' := h') (by simp [paper, hb, a0, a1, g])]
    exact fin (c := none) (fun x hx => by
      rcases List.mem_append.mp hx with hx | hx
      · exact s7 x hx
      · intro ds e
        subst e
        simp at hx) (by simp)
  | none =>
    have a0 : L2.atI [D.str "cover", D.tup ((alls S.length).map D.int)] 0 = some (.str "cover") := rfl
    have g := gAdd_lst (h := h') (ds := [.int f, .int l, .int (f - 1), .int (l + 1), .int (f + r), .non, .bl true]) (es := []) (le_line (by simp))
    simp at g
    have nd : ¬ (Str.ofString "cover" = Str.ofString "day") := by decide
    rw [seq_nx (s' := [some (.ref 0), some (.tup (S.map spT)), some (.int f), some (.int l), some (paper S f n t), a, some (.lst L), b, some (.lst ([.int f, .int l, .int (f - 1), .int (l + 1), .int (f + r), .non, .bl true] ++ [])), d, e]) (h' := h') (by simp [paper, hb, a0, nd, g])]
    exact fin (c := none) (fun x hx => by
      rw [List.append_nil] at hx
      exact s7 x hx) (by simp)
noncomputable def near_c : MS :=
 (sSeq (sSet 7 (mCall 2 m__law_draw (mCons (mVar 0) (mCons (mOp gAdd (mB1 gLen (mCons (mOp gIx (mVar 4) (mC (.int 1))) mNil)) (mC (.int 1))) mNil))))
 (sSeq (sSet 6 (mOp gAdd (mVar 6) (mLst (mCons (mOp gAdd (mSl (mOp gIx (mVar 4) (mC (.int 1))) mNoPart (mPart (mVar 7))) (mSl (mOp gIx (mVar 4) (mC (.int 1))) (mPart (mOp gAdd (mVar 7) (mC (.int 1)))) mNoPart)) (mCons (mRev (mOp gIx (mVar 4) (mC (.int 1)))) (mCons (mOp gAdd (mOp gIx (mVar 4) (mC (.int 1))) (mSl (mOp gIx (mVar 4) (mC (.int 1))) (mPart (mNeg (mC (.int 1)))) mNoPart)) (mCons (mB1 gLstOf (mCons (mOp gIx (mVar 4) (mC (.int 1))) mNil)) mNil)))))))
 (sSet 6 (mOp gAdd (mVar 6) (mLst (mCons (mB1 gTupOf (mCons (mSortSet (mOp gAdd (mOp gIx (mVar 4) (mC (.int 1))) (mTup (mCons (mCall 2 m__law_draw (mCons (mVar 0) (mCons (mB1 gLen (mCons (mVar 1) mNil)) mNil))) mNil)))) mNil)) (mCons (mOp gAdd (mOp gIx (mVar 4) (mC (.int 1))) (mTup (mCons (mB1 gLen (mCons (mVar 1) mNil)) mNil))) mNil)))))))
theorem ne_of_bare (h1 : f ≤ l) (t1 : 1 ≤ t) (hb : bare S f (l + 1 - f).toNat t = none) : 0 < S.length := by
  rcases Nat.eq_zero_or_pos S.length with e | e
  · exfalso
    rw [List.length_eq_zero_iff] at e
    subst e
    unfold bare at hb
    rw [List.find?_eq_none] at hb
    have := hb f (mem_dys.mpr ⟨by omega, by omega⟩)
    exact this (decide_eq_true (by rw [show cnt [] f = 0 from rfl]; omega))
  · exact e
theorem cut_A (A : List D) (lo hi : Option Int) (hz : A.length ≤ 40) : Sm (.tup (cutD A lo hi)) := fun ds e => by
  cases e
  have := cutD_len A lo hi
  omega
theorem near_cov {A L : List D} {a : Option D} (hA : A = (alls S.length).map D.int) (hL : ∀ x ∈ L, Sm x) (Ll : L.length ≤ 5) (hz : S.length ≤ 20) (hp : 0 < S.length) (ho : HO h) :
    ∃ L2 x h', near_c [some (.ref 0), some (.tup (S.map spT)), some (.int f), some (.int l), some (.tup [.str "cover", .tup A]), a, some (.lst L), none, none, none, none] h = .nx [some (.ref 0), some (.tup (S.map spT)), some (.int f), some (.int l), some (.tup [.str "cover", .tup A]), a, some (.lst L2), x, none, none, none] h' ∧ HO h' ∧ (∀ x ∈ L2, Sm x) ∧ L2.length ≤ 20 := by
  have Al : A.length = S.length := by rw [hA, List.length_map, alls_len]
  obtain ⟨r, h', e1, o, s, r0, r1⟩ := e_draw ho (n := (A.length : Int) + 1) (by omega) (by omega)
  obtain ⟨q, h'', e2, o2, s2, q0, q1⟩ := e_draw o (n := (S.length : Nat)) (by omega) (by omega)
  have a1 : L2.atI [D.str "cover", D.tup A] 1 = some (.tup A) := rfl
  have k1 := cutD_len A none (some r)
  have k2 := cutD_len A (some (r + 1)) none
  have k3 := cutD_len A (some (-1)) none
  have g1 := gAdd_tup (h := h') (ds := cutD A none (some r)) (es := cutD A (some (r + 1)) none) (le_line (by omega))
  have g2 := gAdd_tup (h := h') (ds := A) (es := cutD A (some (-1)) none) (le_line (by omega))
  obtain ⟨M1, hM1⟩ : ∃ M, M = [D.tup (cutD A none (some r) ++ cutD A (some (r + 1)) none), .tup A.reverse, .tup (A ++ cutD A (some (-1)) none), .lst A] := ⟨_, rfl⟩
  have g3 := gAdd_lst (h := h') (ds := L) (es := M1) (le_line (by rw [hM1]; simp; omega))
  have g4 := gAdd_tup (h := h'') (ds := A) (es := [.int q]) (le_line (by simp; omega))
  have g5 := gAdd_tup (h := h'') (ds := A) (es := [.int (S.length : Nat)]) (le_line (by simp; omega))
  have ss := gSortSet_ok (h := h'') (ns := alls S.length ++ [q]) (by rw [List.length_append, alls_len]; simp; omega)
  rw [List.map_append, ← hA] at ss
  have asl := asc_len (alls S.length ++ [q])
  rw [List.length_append, alls_len, List.length_singleton] at asl
  generalize asc (alls S.length ++ [q]) = B at ss asl
  obtain ⟨M2, hM2⟩ : ∃ M, M = [D.tup (B.map D.int), .tup (A ++ [.int (S.length : Nat)])] := ⟨_, rfl⟩
  have g6 := gAdd_lst (h := h'') (ds := L ++ M1) (es := M2) (le_line (by rw [hM1, hM2]; simp; omega))
  refine ⟨L ++ M1 ++ M2, some (.int r), h'', ?_, o2, ?_, ?_⟩
  · unfold near_c
    rw [seq_nx (s' := [some (.ref 0), some (.tup (S.map spT)), some (.int f), some (.int l), some (.tup [.str "cover", .tup A]), a, some (.lst L), some (.int r), none, none, none]) (h' := h') (by simp [draw_is, a1, e1])]
    rw [seq_nx (s' := [some (.ref 0), some (.tup (S.map spT)), some (.int f), some (.int l), some (.tup [.str "cover", .tup A]), a, some (.lst (L ++ M1)), some (.int r), none, none, none]) (h' := h') (by simp [a1, g1, g2]; rw [hM1] at g3; rw [g3, hM1]; rfl)]
    have ss2 : gSortSet h'' (.tup (A ++ [.int q])) = some (.lst (B.map D.int)) := ss
    rw [hM2] at g6 ⊢
    simp [draw_is, a1, e2, g4, ss2, g5, g6, -List.append_assoc]
  · intro x hx
    rcases List.mem_append.mp hx with hx | hx
    · rcases List.mem_append.mp hx with hx | hx
      · exact hL x hx
      · rw [hM1] at hx
        simp at hx
        rcases hx with rfl | rfl | rfl | rfl <;> (intro ds e; cases e) <;> simp <;> omega
    · rw [hM2] at hx
      simp at hx
      rcases hx with rfl | rfl <;> (intro ds e; cases e) <;> simp <;> omega
  · rw [hM1, hM2]
    simp
    omega
theorem all_n (hz : S.length ≤ 1000) {k a b c x e w y z u v : Option D} : mTupR (mR1 (mB1 gLen (mCons (mVar 1) mNil))) [k, some (.tup (S.map spT)), a, b, c, x, e, w, y, z, u] h = .ok (.tup (rngD 0 ((S.length : Int) - 0).toNat)) h :=
  mTupR_ok (by simp) (rgOk_ok (by decide) (by decide) (by omega) (by omega) (by omega))
theorem e_near (oz : OkS S) (h0 : 0 ≤ f) (h1 : f ≤ l) (h2 : l ≤ 400) (t1 : 1 ≤ t) (ho : HO h) :
    ∃ ts h', m__law_near [.ref 0, .tup (S.map spT), .int f, .int l, paper S f (l + 1 - f).toNat t] h = .ok (.lst ts) h' ∧ HO h' ∧ (∀ x ∈ ts, OkT x) ∧ ts.length ≤ 100 := by
  have z := oz.1
  obtain ⟨A, hA⟩ : ∃ A, A = (alls S.length).map D.int := ⟨_, rfl⟩
  have Al : A.length = S.length := by rw [hA, List.length_map, alls_len]
  obtain ⟨P, hP⟩ : ∃ P, P = paper S f (l + 1 - f).toNat t := ⟨_, rfl⟩
  rw [← hP]
  unfold m__law_near
  rw [runD_eq]
  have al := fun P => all_n (S := S) (h := h) (by omega) (k := some (.ref 0)) (a := some (.int f)) (b := some (.int l)) (c := some P) (x := none) (e := none) (w := none) (y := none) (z := none) (u := none) (v := none)
  simp only [all_d, ← hA] at al
  rw [seq_nx (s' := [some (.ref 0), some (.tup (S.map spT)), some (.int f), some (.int l), some P, some (.tup A), none, none, none, none, none]) (h' := h) (by simp [-mTupR_eq, al])]
  obtain ⟨vs, h', c1, c2, _, c4⟩ := lcD_inv (g := (A, none)) (t := .name 7) (c := mB (mOp gGt (mCall 2 m__law_draw (mCons (mVar 0) (mCons (mC (.int 4)) mNil))) (mC (.int 0)))) (e := mVar 7)
    (s0 := [some (.ref 0), some (.tup (S.map spT)), some (.int f), some (.int l), some P, some (.tup A), none, none, none, none, none]) HO (fun _ => True) (by simp) A [] h ho (fun d hd h ho => by
      obtain ⟨r, h', e1, o, s, r0, r1⟩ := e_draw ho (n := 4) (by decide) (by decide)
      exact ⟨_, _, h', rfl, by simp [draw_is, e1]; rfl, o, fun _ => ⟨d, h', by simp, o, trivial⟩⟩) (by simp) (by have := le_line (show A.length ≤ 1000 by omega); simpa using this)
  simp only [List.length_nil] at c4
  obtain ⟨L, hL⟩ : ∃ L, L = [D.tup A, .tup (cutD A (some 1) none), .tup (cutD A none (some (-1))), .tup vs, .tup []] := ⟨_, rfl⟩
  rw [seq_nx (s' := [some (.ref 0), some (.tup (S.map spT)), some (.int f), some (.int l), some P, some (.tup A), some (.lst L), none, none, none, none]) (h' := h') (by simp [wipeD, -mB_eq, c1, hL])]
  have sL : ∀ x ∈ L, Sm x := by
    intro x hx
    rw [hL] at hx
    simp at hx
    have k1 := cutD_len A (some 1) none
    have k2 := cutD_len A none (some (-1))
    rcases hx with rfl | rfl | rfl | rfl | rfl <;> (intro ds e; cases e) <;> first | omega | simp
  have lL : L.length = 5 := by rw [hL]; rfl
  cases hb : bare S f (l + 1 - f).toNat t with
  | some d0 =>
    have eP : P = .tup [.str "day", .int d0] := by rw [hP, paper, hb]
    have a0 : L2.atI [D.str "day", D.int d0] 0 = some (.str "day") := rfl
    rw [seq_nx (s' := [some (.ref 0), some (.tup (S.map spT)), some (.int f), some (.int l), some P, some (.tup A), some (.lst L), none, none, none, none]) (h' := h') (by
      have nd : ¬ (Str.ofString "day" = Str.ofString "cover") := by decide
      simp [eP, a0, nd])]
    obtain ⟨ts, h'', q1, q2, q3, q4⟩ := near_end (S := S) (t := t) (n := (l + 1 - f).toNat) (a := some (.tup A)) (b := none) (c := none) (d := none) (e := none) sL (by omega) h0 h1 h2 c2
    rw [← hP] at q1
    unfold near_t at q1
    refine ⟨ts, h'', ?_, q2, q3, q4⟩
    rw [q1]
  | none =>
    have eP : P = .tup [.str "cover", .tup A] := by rw [hP, paper, hb, hA]
    have a0 : L2.atI [D.str "cover", D.tup A] 0 = some (.str "cover") := rfl
    obtain ⟨L2, x, h'', n1, n2, n3, n4⟩ := near_cov (S := S) (f := f) (l := l) (a := some (.tup A)) hA sL (by omega) z (ne_of_bare h1 t1 hb) c2
    unfold near_c at n1
    rw [seq_nx (s' := [some (.ref 0), some (.tup (S.map spT)), some (.int f), some (.int l), some P, some (.tup A), some (.lst L2), x, none, none, none]) (h' := h'') (by
      rw [sIf_eq, eP]
      have hc : mB (mOp gEq (mOp gIx (mVar 4) (mC (.int 0))) (mC (.str "cover"))) [some (.ref 0), some (.tup (S.map spT)), some (.int f), some (.int l), some (.tup [.str "cover", .tup A]), some (.tup A), some (.lst L), none, none, none, none] h' = .ok true h' := by simp [a0]
      rw [hc, bindS_ok, if_pos rfl]
      exact n1)]
    obtain ⟨ts, h3, q1, q2, q3, q4⟩ := near_end (S := S) (t := t) (n := (l + 1 - f).toNat) (a := some (.tup A)) (b := x) (c := none) (d := none) (e := none) n3 n4 h0 h1 h2 n2
    rw [← hP] at q1
    unfold near_t at q1
    refine ⟨ts, h3, ?_, q2, q3, q4⟩
    rw [q1]
end K64

set_option Elab.async false
set_option linter.all false
set_option maxRecDepth 100000
set_option maxHeartbeats 4000000
namespace K64
open PySem L2 Dn
variable {S : List Sp} {h : IHp} {f l t : Int}
def lowL (S : List Sp) (f : Int) (n : Nat) (t : Int) : List Int := (dys f n).filter fun d => decide ((cnt S d : Int) < t)
theorem low_head {n : Nat} : (lowL S f n t).head? = bare S f n t := by unfold lowL bare; rw [List.head?_filter]
theorem lstR_1 (hz : S.length ≤ 1000) {s : ISt} (e : s[1]? = some (some (.tup (S.map spT)))) : mLstR (mR1 (mB1 gLen (mCons (mVar 1) mNil))) s h = .ok (.lst ((alls S.length).map D.int)) h := by
  rw [← all_d]
  exact mLstR_ok (by simp [mVar_some e]) (rgOk_ok (by decide) (by decide) (by omega) (by omega) (by omega))
theorem low_lc (hz : S.length ≤ 1000) (n : Nat) (hn : n ≤ 1000) : lcD ((dys f n).map D.int, none) (.name 10) (mB (mOp gLt (mCall 3 m__law_cover (mCons (mVar 1) (mCons (mLstR (mR1 (mB1 gLen (mCons (mVar 1) mNil)))) (mCons (mVar 10) mNil)))) (mVar 4))) (mVar 10) [some (.ref 0), some (.tup (S.map spT)), some (.int f), some (.int l), some (.int t), none, none, none, none, none, none] ((dys f n).map D.int) [] h = .ok ((lowL S f n t).map D.int) h := by
  rw [lcD_pure (fun x => match x with | .int d => decide ((cnt S d : Int) < t) | _ => false) id (by simp) _ [] (fun y hy => by
    obtain ⟨d, hm, rfl⟩ := List.mem_map.mp hy
    have lc := e_law_cover (S := S) (h := h) (x := .lst ((alls S.length).map D.int)) (is := alls S.length) (d := d) (.inr rfl) (by rw [alls_len]; exact hz) (alls_in _)
    rw [pick_alls] at lc
    have r := lstR_1 (S := S) (h := h) hz (s := [some (.ref 0), some (.tup (S.map spT)), some (.int f), some (.int l), some (.int t), none, none, none, none, none, some (.int d)]) rfl
    exact ⟨_, rfl, by simp [-mLstR_eq, r, lc], fun _ => by simp⟩) (by have := le_line (show n ≤ 1000 by omega); simpa [dys_len] using this)]
  rw [List.filter_map, List.map_id, List.nil_append]
  rfl
theorem intsD_map : ∀ is : List Int, intsD (is.map D.int) = is
  | [] => rfl
  | i :: is => by rw [List.map_cons, intsD, intsD_map is]
theorem ris_alls (n : Nat) : risB (alls n) = true := by
  unfold risB
  refine all_true fun i hi => ?_
  have hi := List.mem_range.mp hi
  rw [alls_len] at hi
  have a : ∀ j, j < n → (alls n).getD j 0 = j := fun j hj => by simp [alls, dys, hj]
  rw [a i (by omega), a (i + 1) (by omega)]
  exact decide_eq_true (by omega)
theorem due_paper : due S f (l + 1 - f).toNat l t (paper S f (l + 1 - f).toNat t) = true := by
  unfold paper
  cases hb : bare S f (l + 1 - f).toNat t with
  | some d =>
    have p := List.find?_some hb
    have m := mem_dys.mp (List.mem_of_find?_eq_some hb)
    have nd : ¬ (Str.ofString "day" = Str.ofString "cover") := by decide
    simp at p
    simp [due, nd, p]
    omega
  | none =>
    have u : (((alls S.length).map D.int).all fun d => isUnd d S.length) = true := all_true fun x hx => by
      obtain ⟨i, hi, rfl⟩ := List.mem_map.mp hx
      have := alls_in _ i hi
      simp [isUnd, this]
    unfold due
    dsimp only
    rw [if_pos rfl, isLot]
    rw [u, intsD_map, ris_alls, pick_alls, hb]
    rfl
theorem e_right (o : OkS S) (h0 : 0 ≤ f) (h1 : f ≤ l) (h2 : l ≤ 400) (t1 : 1 ≤ t) (t3 : t ≤ 3) (ho : HO h) :
    ∃ h', m__law_is_right [.ref 0, .tup (S.map spT), .int f, .int l, .int t] h = .ok (.bl true) h' ∧ HO h' := by
  have z : S.length ≤ 1000 := by have := o.1; omega
  obtain ⟨n, hn⟩ : ∃ n, n = (l + 1 - f).toNat := ⟨_, rfl⟩
  have hr : rng2 [.int f, .int (l + 1)] = some ((dys f n).map D.int, none) := by
    rw [rng2_eq (by omega) (by omega) (by omega) (by omega), rngD_dys, hn]
  obtain ⟨P, hP⟩ : ∃ P, P = paper S f n t := ⟨_, rfl⟩
  obtain ⟨Lo, hLo⟩ : ∃ Lo, Lo = (lowL S f n t).map D.int := ⟨_, rfl⟩
  have lc := low_lc (S := S) (f := f) (l := l) (t := t) (h := h) z n (by omega)
  have cp := e_cover_paper (S := S) (h := h) o h0 h1 h2 t1 t3
  have jd := fun {x : D} (ox : OkT x) (h : IHp) => e_judged (S := S) (h := h) (t := t) z h0 h1 h2 ox
  have ic := fun {x : D} (ox : OkT x) (h : IHp) => e_is_cover (S := S) (h := h) o h0 h1 h2 t1 t3 ox
  have dp := due_paper (S := S) (f := f) (l := l) (t := t)
  obtain ⟨ts, h', nr, ho', ot, tl⟩ := e_near (S := S) (h := h) o h0 h1 h2 t1 ho
  rw [← hn] at dp cp nr
  rw [← hP] at dp cp nr
  rw [← hLo] at lc
  have okP : OkT P := by rw [hP]; exact paper_ok z n
  have jp := jd okP h
  rw [← hn, dp] at jp
  have qL : ∀ d ∈ Lo, ∃ p, toPy d = some p ∧ p.canLay0 = true ∧ p.depth ≤ 0 := fun d hd => by
    rw [hLo] at hd
    obtain ⟨i, _, rfl⟩ := List.mem_map.mp hd
    exact int_py i
  have ge := gEq_nil (h := h) (o := .lst Lo) rfl qL (by decide)
  have gn := gNe_nil (h := h) (o := .lst Lo) rfl qL (by decide)
  unfold m__law_is_right
  rw [runD_eq]
  rw [seq_nx (s' := [some (.ref 0), some (.tup (S.map spT)), some (.int f), some (.int l), some (.int t), some (.lst Lo), none, none, none, none, none]) (h' := h) (by simp [-mB_eq, hr, wipeD, lc])]
  rw [seq_nx (s' := [some (.ref 0), some (.tup (S.map spT)), some (.int f), some (.int l), some (.int t), some (.lst Lo), some P, none, none, none, none]) (h' := h) (by simp [cp])]
  have hh := low_head (S := S) (f := f) (n := n) (t := t)
  have nd : ¬ (Str.ofString "day" = Str.ofString "cover") := by decide
  have nd2 : ¬ (Str.ofString "cover" = Str.ofString "day") := by decide
  have both : ∃ s b, P = .tup [.str s, b] ∧ (if Lo.isEmpty = true then Str.ofString "cover" else Str.ofString "day") = s ∧ (Lo.isEmpty = false → ∃ d : Int, L2.atI Lo 0 = some (.int d) ∧ b = .int d) := by
    rw [hP, hLo]
    unfold paper
    rw [← hh]
    cases hL : lowL S f n t with
    | nil => exact ⟨_, _, rfl, rfl, fun e => by cases e⟩
    | cons d r => exact ⟨_, _, rfl, rfl, fun _ => ⟨d, by have := atI_map (is := d :: r) (i := 0) (by simp); simpa using this, rfl⟩⟩
  obtain ⟨s, b, eP, es, eb⟩ := both
  have a0 : L2.atI [D.str s, b] 0 = some (.str s) := rfl
  have a1 : L2.atI [D.str s, b] 1 = some b := rfl
  rw [seq_nx (s' := [some (.ref 0), some (.tup (S.map spT)), some (.int f), some (.int l), some (.int t), some (.lst Lo), some P, none, none, none, none]) (h' := h) (by
    rw [eP] at jp ⊢
    cases hE : Lo.isEmpty with
    | true => rw [hE] at es ge; simp at es; simp [a0, ge, jp, es]
    | false => rw [hE] at es ge; simp at es; simp [a0, ge, jp, es])]
  rw [seq_nx (s' := [some (.ref 0), some (.tup (S.map spT)), some (.int f), some (.int l), some (.int t), some (.lst Lo), some P, none, none, none, none]) (h' := h) (by
    rw [eP]
    cases hE : Lo.isEmpty with
    | true => rw [hE] at gn; simp [gn]
    | false =>
      obtain ⟨d, e1, e2⟩ := eb hE
      rw [hE] at gn
      subst e2
      simp [gn, a1, e1])]
  have ga := gAdd_tup (h := h) (ds := [.str s, b]) (es := [.int 0]) (le_line (by simp))
  simp at ga
  obtain ⟨T, hT⟩ : ∃ T, T = [P, .lst [.str s, b], .tup [.str s, b, .int 0], .tup (cutD [.str s, b] none (some 1)), .tup [b, .str s], .non, .tup [], .str "cover", .tup [.str "covers", b]] := ⟨_, rfl⟩
  rw [seq_nx (s' := [some (.ref 0), some (.tup (S.map spT)), some (.int f), some (.int l), some (.int t), some (.lst Lo), some P, some (.lst T), none, none, none]) (h' := h) (by
    rw [hT, eP]
    simp [a0, a1, ga])]
  have okT : ∀ x ∈ T ++ ts, OkT x := by
    intro x hx
    rcases List.mem_append.mp hx with hx | hx
    · have sb : Sm b := okP _ _ eP
      rw [hT] at hx
      simp at hx
      rcases hx with rfl | rfl | rfl | rfl | rfl | rfl | rfl | rfl | rfl
      · exact okP
      · intro _ _ e; cases e
      · intro _ _ e; cases e
      · intro _ _ e; cases e
      · intro _ _ e
        cases e
        intro ds e; cases e
      · intro _ _ e; cases e
      · intro _ _ e; cases e
      · intro _ _ e; cases e
      · intro _ _ e
        cases e
        exact sb
    · exact ot x hx
  have gT := gAdd_lst (h := h') (ds := T) (es := ts) (le_line (by rw [hT]; simp; omega))
  obtain ⟨s', hx, l1, l2⟩ := loopD_all (g := (T ++ ts, none)) (t := .name 8) (body := (sSeq (sSet 9 (mCall 5 m__law_judged (mCons (mVar 1) (mCons (mVar 2) (mCons (mVar 3) (mCons (mVar 4) (mCons (mVar 8) mNil)))))))
 (sIf (mB (mOp gNe (mB1 gRepr (mCons (mCall 5 m_is_cover_paper (mCons (mVar 1) (mCons (mVar 2) (mCons (mVar 3) (mCons (mVar 4) (mCons (mVar 8) mNil)))))) mNil)) (mB1 gRepr (mCons (mVar 9) mNil))))
  (sRet (mC (.bl false)))
  sNx)))
    (fun s hh => hh = h' ∧ ∃ y z, s = [some (.ref 0), some (.tup (S.map spT)), some (.int f), some (.int l), some (.int t), some (.lst Lo), some P, some (.lst T), y, z, none]) (by simp) (T ++ ts) [some (.ref 0), some (.tup (S.map spT)), some (.int f), some (.int l), some (.int t), some (.lst Lo), some P, some (.lst T), none, none, none] h' ⟨rfl, _, _, rfl⟩
    (fun x hx s hh ⟨e1, y, z, e2⟩ => by
      subst e1 e2
      have j := jd (okT x hx) hh
      have i := ic (okT x hx) hh
      obtain ⟨w, rw_⟩ := repr_bl (h := hh) (due S f (l + 1 - f).toNat l t x)
      exact ⟨_, [some (.ref 0), some (.tup (S.map spT)), some (.int f), some (.int l), some (.int t), some (.lst Lo), some P, some (.lst T), some x, some (.bl (due S f (l + 1 - f).toNat l t x)), none], hh, rfl, .inl (by simp [j, i, rw_]), rfl, _, _, rfl⟩)
  obtain ⟨rfl, y, z, rfl⟩ := l2
  rw [seq_nx (s' := [some (.ref 0), some (.tup (S.map spT)), some (.int f), some (.int l), some (.int t), some (.lst Lo), some P, some (.lst T), y, z, none]) (h' := hx) (by
    rw [sFor_eq]
    have e : mIt (mOp gAdd (mVar 7) (mCall 5 m__law_near (mCons (mVar 0) (mCons (mVar 1) (mCons (mVar 2) (mCons (mVar 3) (mCons (mVar 6) mNil))))))) [some (.ref 0), some (.tup (S.map spT)), some (.int f), some (.int l), some (.int t), some (.lst Lo), some P, some (.lst T), none, none, none] h = .ok (T ++ ts, none) hx := by
      simp [nr, gT]
    rw [e, bindS_ok]
    exact l1)]
  exact ⟨hx, by simp, ho'⟩
end K64

set_option Elab.async false
set_option linter.all false
set_option maxRecDepth 100000
set_option maxHeartbeats 4000000
namespace K64
open PySem PyProof L2 Dn
variable {S : List Sp} {h : IHp} {f l t : Int}
def OkP (p : Sp) : Prop := 0 ≤ p.1 ∧ p.1 ≤ p.2 ∧ p.2 ≤ 400
theorem sp_py (p : Sp) : ∃ q, toPy (spT p) = some q ∧ q.canLay0 = true ∧ q.depth ≤ 1 := by
  refine ⟨.tuple [.int p.1, .int p.2], ?_, ?_, ?_⟩
  · unfold spT
    rw [toPy, toPys, toPys, toPys, toPy, toPy]
    rfl
  · rw [PyData.canLay0, PyData.canLayAll0, PyData.canLayAll0, PyData.canLayAll0, PyData.canLay0, PyData.canLay0]
    rfl
  · rw [PyData.depth, PyData.depthAll, PyData.depthAll, PyData.depthAll, PyData.depth, PyData.depth]
    decide
theorem last_sp : ∀ {S : List Sp}, S ≠ [] → ∃ p, p ∈ S ∧ L2.atI (S.map spT) (-1) = some (spT p) := by
  intro S e
  have hp : 0 < S.length := List.length_pos_iff.mpr e
  refine ⟨S[S.length - 1], List.getElem_mem _, ?_⟩
  unfold L2.atI ixN
  rw [List.length_map, if_neg (by omega), if_pos (by omega)]
  have e2 : (-1 + (S.length : Int)).toNat = S.length - 1 := by omega
  have e3 : S.length - 1 < S.length := by omega
  simp [e2, e3]
/-- the step of the loop, from the second kind of stretch on -/
noncomputable def case_b : MS :=
 (sSeq (sSet 7 (mCall 2 m__law_draw (mCons (mVar 0) (mCons (mC (.int 6)) mNil))))
 (sSeq (sSet 8 (mOp gAdd (mVar 3) (mCall 2 m__law_draw (mCons (mVar 0) (mCons (mVar 2) mNil)))))
 (sSeq (sSet 9 (mB1 gMin (mCons (mC (.int 400)) (mCons (mOp gAdd (mVar 8) (mCall 2 m__law_draw (mCons (mVar 0) (mCons (mCall 2 m__law_any (mCons (mVar 0) (mCons (mLst (mCons (mC (.int 1)) (mCons (mC (.int 3)) (mCons (mVar 2) mNil)))) mNil))) mNil)))) mNil))))
 (sSeq (sIf (mB (mOp gEq (mVar 7) (mC (.int 0))))
  (sPar 8 9 (mCons (mB1 gMax (mCons (mC (.int 0)) (mCons (mOp gSub (mVar 3) (mCall 2 m__law_draw (mCons (mVar 0) (mCons (mC (.int 3)) mNil)))) mNil))) (mCons (mVar 9) mNil)))
  sNx)
 (sSeq (sIf (mAnd (mB (mOp gEq (mVar 7) (mC (.int 1)))) (mB (mOp gNe (mVar 5) (mLst mNil))))
  (sSeq (sSet 8 (mB1 gMin (mCons (mC (.int 400)) (mCons (mOp gAdd (mOp gIx (mOp gIx (mVar 5) (mNeg (mC (.int 1)))) (mC (.int 1))) (mCall 2 m__law_any (mCons (mVar 0) (mCons (mLst (mCons (mC (.int 1)) (mCons (mC (.int 1)) (mCons (mC (.int 2)) (mCons (mC (.int 0)) mNil))))) mNil)))) mNil))))
 (sSet 9 (mB1 gMin (mCons (mC (.int 400)) (mCons (mB1 gMax (mCons (mVar 8) (mCons (mOp gAdd (mVar 8) (mCall 2 m__law_draw (mCons (mVar 0) (mCons (mVar 2) mNil)))) mNil))) mNil)))))
  sNx)
 (sSeq (sIf (mB (mOp gEq (mVar 7) (mC (.int 2))))
  (sPar 8 9 (mCons (mVar 3) (mCons (mB1 gMin (mCons (mC (.int 400)) (mCons (mOp gAdd (mVar 4) (mCall 2 m__law_draw (mCons (mVar 0) (mCons (mC (.int 2)) mNil)))) mNil))) mNil)))
  sNx)
 (sExpr (mApp (mVar 5) (mTup (mCons (mVar 8) (mCons (mB1 gMax (mCons (mVar 8) (mCons (mVar 9) mNil))) mNil)))))))))))
def Inv (k : Nat) (h : IHp) (S : List Sp) : Prop := HO h ∧ h[k]? = some (.lst (S.map spT)) ∧ ∀ p ∈ S, OkP p
theorem Inv.go {k : Nat} (hk : k ≠ 0) {h h' : IHp} {S : List Sp} (i : Inv k h S) (o : HO h') (s : Hs h h') : Inv k h' S := ⟨o, by rw [s.2 k hk]; exact i.2.1, i.2.2⟩
theorem case_step {w : Int} {k : Nat} (hk : k ≠ 0) (w1 : 1 ≤ w) (w2 : w ≤ 20) (f0 : 0 ≤ f) (hl : l = f + w - 1) (l2 : l ≤ 400) (sl : S.length < 100) {x a b c : Option D} (iv : Inv k h S) :
    ∃ p h' q1 q2 q3, case_b [some (.ref 0), some (.int 20), some (.int w), some (.int f), some (.int l), some (.ref k), x, a, b, c] h = .nx [some (.ref 0), some (.int 20), some (.int w), some (.int f), some (.int l), some (.ref k), x, q1, q2, q3] h' ∧ Inv k h' (S ++ [p]) := by
  obtain ⟨r1, h1, e1, o1, s1, r10, r11⟩ := e_draw iv.1 (n := 6) (by decide) (by decide)
  have iv := iv.go hk o1 s1
  obtain ⟨r2, h2, e2, o2, s2, r20, r21⟩ := e_draw iv.1 (n := w) (by omega) (by omega)
  have iv := iv.go hk o2 s2
  obtain ⟨d3, h3, e3, o3, s3, m3⟩ := e_any iv.1 (x := .lst [.int 1, .int 3, .int w]) (.inl rfl) (by simp) (by simp)
  have iv := iv.go hk o3 s3
  obtain ⟨v3, rfl, v30, v31⟩ : ∃ v, d3 = .int v ∧ 1 ≤ v ∧ v ≤ 20 := by
    simp at m3
    rcases m3 with rfl | rfl | rfl
    · exact ⟨_, rfl, by decide, by decide⟩
    · exact ⟨_, rfl, by decide, by decide⟩
    · exact ⟨_, rfl, w1, w2⟩
  obtain ⟨r4, h4, e4, o4, s4, r40, r41⟩ := e_draw iv.1 (n := v3) (by omega) (by omega)
  have iv := iv.go hk o4 s4
  unfold case_b
  rw [seq_nx (s' := [some (.ref 0), some (.int 20), some (.int w), some (.int f), some (.int l), some (.ref k), x, some (.int r1), b, c]) (h' := h1) (by simp [draw_is, e1])]
  rw [seq_nx (s' := [some (.ref 0), some (.int 20), some (.int w), some (.int f), some (.int l), some (.ref k), x, some (.int r1), some (.int (f + r2)), c]) (h' := h2) (by simp [draw_is, e2])]
  obtain ⟨E, hE⟩ : ∃ E : Int, E = if f + r2 + r4 < 400 then f + r2 + r4 else 400 := ⟨_, rfl⟩
  rw [seq_nx (s' := [some (.ref 0), some (.int 20), some (.int w), some (.int f), some (.int l), some (.ref k), x, some (.int r1), some (.int (f + r2)), some (.int E)]) (h' := h4) (by simp [draw_is, any_is, e3, e4, hE])]
  have E4 : E ≤ 400 := by rw [hE]; split <;> omega
  obtain ⟨B, hB⟩ : ∃ B : Int, B = f + r2 := ⟨_, rfl⟩
  rw [← hB]
  have B0 : 0 ≤ B := by omega
  have B4 : B ≤ 400 := by omega
  clear hE hB e1 e2 e3 e4 s1 s2 s3 s4 o1 o2 o3 m3
  -- the first kind
  have k0 : ∃ B' h5, (sIf (mB (mOp gEq (mVar 7) (mC (.int 0))))
  (sPar 8 9 (mCons (mB1 gMax (mCons (mC (.int 0)) (mCons (mOp gSub (mVar 3) (mCall 2 m__law_draw (mCons (mVar 0) (mCons (mC (.int 3)) mNil)))) mNil))) (mCons (mVar 9) mNil)))
  sNx) [some (.ref 0), some (.int 20), some (.int w), some (.int f), some (.int l), some (.ref k), x, some (.int r1), some (.int B), some (.int E)] h4 = .nx [some (.ref 0), some (.int 20), some (.int w), some (.int f), some (.int l), some (.ref k), x, some (.int r1), some (.int B'), some (.int E)] h5 ∧ Inv k h5 S ∧ 0 ≤ B' ∧ B' ≤ 400 := by
    by_cases c : r1 = 0
    · obtain ⟨r5, h5, e5, o5, s5, r50, r51⟩ := e_draw iv.1 (n := 3) (by decide) (by decide)
      refine ⟨if f - r5 > 0 then f - r5 else 0, h5, ?_, iv.go hk o5 s5, ?_, ?_⟩
      · simp [c, draw_is, e5]
      · split <;> omega
      · split <;> omega
    · exact ⟨B, h4, by simp [c], iv, B0, B4⟩
  obtain ⟨B', h5, q5, iv, B0, B4⟩ := k0
  rw [seq_nx q5]
  have k1 : ∃ B2 E2 h6, (sIf (mAnd (mB (mOp gEq (mVar 7) (mC (.int 1)))) (mB (mOp gNe (mVar 5) (mLst mNil))))
  (sSeq (sSet 8 (mB1 gMin (mCons (mC (.int 400)) (mCons (mOp gAdd (mOp gIx (mOp gIx (mVar 5) (mNeg (mC (.int 1)))) (mC (.int 1))) (mCall 2 m__law_any (mCons (mVar 0) (mCons (mLst (mCons (mC (.int 1)) (mCons (mC (.int 1)) (mCons (mC (.int 2)) (mCons (mC (.int 0)) mNil))))) mNil)))) mNil))))
 (sSet 9 (mB1 gMin (mCons (mC (.int 400)) (mCons (mB1 gMax (mCons (mVar 8) (mCons (mOp gAdd (mVar 8) (mCall 2 m__law_draw (mCons (mVar 0) (mCons (mVar 2) mNil)))) mNil))) mNil)))))
  sNx) [some (.ref 0), some (.int 20), some (.int w), some (.int f), some (.int l), some (.ref k), x, some (.int r1), some (.int B'), some (.int E)] h5 = .nx [some (.ref 0), some (.int 20), some (.int w), some (.int f), some (.int l), some (.ref k), x, some (.int r1), some (.int B2), some (.int E2)] h6 ∧ Inv k h6 S ∧ 0 ≤ B2 ∧ B2 ≤ 400 ∧ E2 ≤ 400 := by
    have gn := gNe_nil (h := h5) (o := .ref k) (ds := S.map spT) (k := 1) (by unfold lstOf; dsimp only; rw [iv.2.1]) (fun d hd => by
      obtain ⟨p, _, rfl⟩ := List.mem_map.mp hd
      exact sp_py p) (by decide)
    by_cases c : r1 = 1
    · by_cases cs : S = []
      · exact ⟨B', E, h5, by simp [c, gn, cs], iv, B0, B4, E4⟩
      · obtain ⟨p, pm, pe⟩ := last_sp cs
        have po := iv.2.2 p pm
        have gx := gIx_ref (p := -1) iv.2.1
        rw [pe] at gx
        obtain ⟨d6, h6, e6, o6, s6, m6⟩ := e_any iv.1 (x := .lst [.int 1, .int 1, .int 2, .int 0]) (.inl rfl) (by simp) (by simp)
        have iv := iv.go hk o6 s6
        obtain ⟨v6, rfl, v60, v61⟩ : ∃ v, d6 = .int v ∧ 0 ≤ v ∧ v ≤ 2 := by
          simp at m6
          rcases m6 with rfl | rfl | rfl
          · exact ⟨_, rfl, by decide, by decide⟩
          · exact ⟨_, rfl, by decide, by decide⟩
          · exact ⟨_, rfl, by decide, by decide⟩
        obtain ⟨r7, h7, e7, o7, s7, r70, r71⟩ := e_draw iv.1 (n := w) (by omega) (by omega)
        have iv := iv.go hk o7 s7
        have ap : L2.atI [D.int p.1, D.int p.2] 1 = some (.int p.2) := rfl
        have ne : S.isEmpty = false := by cases S <;> first | rfl | exact absurd rfl cs
        have po1 := po.1
        have po2 := po.2.1
        refine ⟨if p.2 + v6 < 400 then p.2 + v6 else 400, if (if (if p.2 + v6 < 400 then p.2 + v6 else 400) + r7 > (if p.2 + v6 < 400 then p.2 + v6 else 400) then (if p.2 + v6 < 400 then p.2 + v6 else 400) + r7 else (if p.2 + v6 < 400 then p.2 + v6 else 400)) < 400 then (if (if p.2 + v6 < 400 then p.2 + v6 else 400) + r7 > (if p.2 + v6 < 400 then p.2 + v6 else 400) then (if p.2 + v6 < 400 then p.2 + v6 else 400) + r7 else (if p.2 + v6 < 400 then p.2 + v6 else 400)) else 400, h7, ?_, iv, ?_, ?_, ?_⟩
        · have hc : (mAnd (mB (mOp gEq (mVar 7) (mC (.int 1)))) (mB (mOp gNe (mVar 5) (mLst mNil)))) [some (.ref 0), some (.int 20), some (.int w), some (.int f), some (.int l), some (.ref k), x, some (.int r1), some (.int B'), some (.int E)] h5 = .ok true h5 := by simp [c, gn, ne, cs]
          rw [sIf_eq, hc, bindS_ok, if_pos rfl]
          obtain ⟨Z, hZ⟩ : ∃ Z : Int, Z = if p.2 + v6 < 400 then p.2 + v6 else 400 := ⟨_, rfl⟩
          rw [← hZ]
          rw [seq_nx (s' := [some (.ref 0), some (.int 20), some (.int w), some (.int f), some (.int l), some (.ref k), x, some (.int r1), some (.int Z), some (.int E)]) (h' := h6) (by simp [gx]; simp [spT, ap, any_is, e6, hZ])]
          simp [draw_is, e7]
        · split <;> omega
        · split <;> omega
        · split <;> omega
    · exact ⟨B', E, h5, by simp [c], iv, B0, B4, E4⟩
  obtain ⟨B2, E2, h6, q6, iv, B0, B4, E4⟩ := k1
  rw [seq_nx q6]
  have k2 : ∃ B3 E3 h7, (sIf (mB (mOp gEq (mVar 7) (mC (.int 2))))
  (sPar 8 9 (mCons (mVar 3) (mCons (mB1 gMin (mCons (mC (.int 400)) (mCons (mOp gAdd (mVar 4) (mCall 2 m__law_draw (mCons (mVar 0) (mCons (mC (.int 2)) mNil)))) mNil))) mNil)))
  sNx) [some (.ref 0), some (.int 20), some (.int w), some (.int f), some (.int l), some (.ref k), x, some (.int r1), some (.int B2), some (.int E2)] h6 = .nx [some (.ref 0), some (.int 20), some (.int w), some (.int f), some (.int l), some (.ref k), x, some (.int r1), some (.int B3), some (.int E3)] h7 ∧ Inv k h7 S ∧ 0 ≤ B3 ∧ B3 ≤ 400 ∧ E3 ≤ 400 := by
    by_cases c : r1 = 2
    · obtain ⟨r8, h8, e8, o8, s8, r80, r81⟩ := e_draw iv.1 (n := 2) (by decide) (by decide)
      refine ⟨f, if l + r8 < 400 then l + r8 else 400, h8, ?_, iv.go hk o8 s8, ?_, ?_, ?_⟩
      · simp [c, draw_is, e8]
      · omega
      · omega
      · split <;> omega
    · exact ⟨B2, E2, h6, by simp [c], iv, B0, B4, E4⟩
  obtain ⟨B3, E3, h7, q7, iv, B0, B4, E4⟩ := k2
  rw [seq_nx q7]
  obtain ⟨M, hM⟩ : ∃ M : Int, M = if E3 > B3 then E3 else B3 := ⟨_, rfl⟩
  have hsq : isSeqL h7 (.ref k) = true := by unfold isSeqL lstOf; dsimp only; rw [iv.2.1]; rfl
  have ap : gApp h7 (.ref k) (.tup [.int B3, .int M]) = some (h7.set k (.lst ((S ++ [(B3, M)]).map spT))) := by
    unfold gApp
    dsimp only
    rw [iv.2.1]
    dsimp only
    rw [if_pos (by have : 100 < sizeLine := by decide
                   rw [List.length_map]; omega), List.map_append]
    rfl
  refine ⟨(B3, M), h7.set k (.lst ((S ++ [(B3, M)]).map spT)), some (.int r1), some (.int B3), some (.int E3), ?_, iv.1.set hk _, ?_, ?_⟩
  · simp [hsq]
    rw [← hM]
    simp [ap]
  · rw [List.getElem?_set_self (List.getElem?_eq_some_iff.mp iv.2.1).1]
  · intro p hp
    rcases List.mem_append.mp hp with hp | hp
    · exact iv.2.2 p hp
    · rw [List.mem_singleton.mp hp]
      refine ⟨B0, ?_, ?_⟩
      · show B3 ≤ M
        rw [hM]; split <;> omega
      · show M ≤ 400
        rw [hM]; split <;> omega
end K64

set_option Elab.async false
set_option linter.all false
set_option maxRecDepth 100000
set_option maxHeartbeats 4000000
namespace K64
open PySem PyProof L2 Dn
variable {S : List Sp} {h : IHp} {f l t : Int}
theorem e_count {w : Int} {k : Nat} {a b c d : Option D} (ho : HO h) : ∃ n h', (mRng1 (mCons (mIf (mB (mOp gGt (mCall 2 m__law_draw (mCons (mVar 0) (mCons (mC (.int 5)) mNil))) (mC (.int 0)))) (mOp gSub (mVar 1) (mCall 2 m__law_draw (mCons (mVar 0) (mCons (mC (.int 4)) mNil)))) (mCall 2 m__law_draw (mCons (mVar 0) (mCons (mOp gAdd (mVar 1) (mC (.int 1))) mNil)))) mNil)) [some (.ref 0), some (.int 20), some (.int w), some (.int f), some (.int l), some (.ref k), a, b, c, d] h = .ok (rngD 0 n, none) h' ∧ n ≤ 20 ∧ HO h' ∧ Hs h h' := by
  obtain ⟨r1, h1, e1, o1, s1, r10, r11⟩ := e_draw ho (n := 5) (by decide) (by decide)
  by_cases hc : 0 < r1
  · obtain ⟨r2, h2, e2, o2, s2, r20, r21⟩ := e_draw o1 (n := 4) (by decide) (by decide)
    have hr : rng1 [.int (20 - r2)] = some (rngD 0 (20 - r2).toNat, none) := rng1_eq (by omega) (by omega)
    exact ⟨(20 - r2).toNat, h2, by simp [draw_is, e1, hc, e2, hr], by omega, o2, s1.trans s2⟩
  · obtain ⟨r2, h2, e2, o2, s2, r20, r21⟩ := e_draw o1 (n := 21) (by decide) (by decide)
    have hr : rng1 [.int r2] = some (rngD 0 r2.toNat, none) := rng1_eq (by omega) (by omega)
    exact ⟨r2.toNat, h2, by simp [draw_is, e1, hc, e2, hr], by omega, o2, s1.trans s2⟩
theorem e_case (ho : HO h) : ∃ S f l h', m__law_case [.ref 0, .int 20] h = .ok (.tup [.tup (S.map spT), .int f, .int l]) h' ∧ HO h' ∧ OkS S ∧ 0 ≤ f ∧ f ≤ l ∧ l ≤ 400 := by
  obtain ⟨d1, h1, e1, o1, s1, m1⟩ := e_any ho (x := .lst [.int 1, .int 2, .int 5, .int 9, .int 20]) (.inl rfl) (by simp) (by simp)
  obtain ⟨w, rfl, w1, w2⟩ : ∃ v, d1 = .int v ∧ 1 ≤ v ∧ v ≤ 20 := by
    simp at m1
    rcases m1 with rfl | rfl | rfl | rfl | rfl <;> exact ⟨_, rfl, by decide, by decide⟩
  obtain ⟨d2, h2, e2, o2, s2, m2⟩ := e_any o1 (x := .lst [.int 0, .int 3, .int 100, .int (401 - w)]) (.inl rfl) (by simp) (by simp)
  obtain ⟨f, rfl, f0, f1⟩ : ∃ v, d2 = .int v ∧ 0 ≤ v ∧ v + w - 1 ≤ 400 := by
    simp at m2
    rcases m2 with rfl | rfl | rfl | rfl <;> exact ⟨_, rfl, by omega, by omega⟩
  obtain ⟨l, hl⟩ : ∃ l, l = f + w - 1 := ⟨_, rfl⟩
  obtain ⟨k, hk⟩ : ∃ k, k = h2.length := ⟨_, rfl⟩
  have kp : k ≠ 0 := by have := o2.pos; omega
  obtain ⟨n, h3, e3, n20, o3, s3⟩ := e_count (f := f) (l := l) (w := w) (k := k) (a := none) (b := none) (c := none) (d := none) (o2.app [.lst []])
  have i3 : Inv k h3 [] := ⟨o3, by rw [s3.2 k kp, hk]; simp, by simp⟩
  have rl : (rngD 0 n).length = n := by simp [rngD]
  obtain ⟨s', h4, l1, S, a, b, c, d, rfl, l3, l4⟩ := loopD_ix (g := (rngD 0 n, none)) (t := .name 6) (body := case_b)
    (fun i s hh => ∃ S a b c d, s = [some (.ref 0), some (.int 20), some (.int w), some (.int f), some (.int l), some (.ref k), a, b, c, d] ∧ Inv k hh S ∧ S.length = i) (by simp) n (rngD 0 n) 0 [some (.ref 0), some (.int 20), some (.int w), some (.int f), some (.int l), some (.ref k), none, none, none, none] h3 (by omega) ⟨[], _, _, _, _, rfl, i3, rfl⟩
    (fun x hx i s hh hi ⟨S, a, b, c, d, e, iv, q⟩ => by
      subst e
      obtain ⟨p, h', q1, q2, q3, e, iv'⟩ := case_step (S := S) (h := hh) (f := f) (l := l) (w := w) (x := some x) (a := b) (b := c) (c := d) kp w1 w2 f0 hl (by omega) (by omega) iv
      exact ⟨_, _, h', rfl, e, S ++ [p], _, _, _, _, rfl, iv', by rw [List.length_append, List.length_singleton]; omega⟩)
  have sl : S.length ≤ 20 := by omega
  refine ⟨S, f, l, h4, ?_, l3.1, ⟨sl, fun p hp => l3.2.2 p hp⟩, f0, by omega, by omega⟩
  unfold m__law_case
  rw [runD_eq]
  rw [seq_nx (s' := [some (.ref 0), some (.int 20), some (.int w), none, none, none, none, none, none, none]) (h' := h1) (by simp [any_is, e1])]
  rw [seq_nx (s' := [some (.ref 0), some (.int 20), some (.int w), some (.int f), none, none, none, none, none, none]) (h' := h2) (by simp [any_is, e2])]
  rw [seq_nx (s' := [some (.ref 0), some (.int 20), some (.int w), some (.int f), some (.int l), some (.ref k), none, none, none, none]) (h' := h2 ++ [.lst []]) (by simp [hl, hk])]
  rw [seq_nx (s' := [some (.ref 0), some (.int 20), some (.int w), some (.int f), some (.int l), some (.ref k), a, b, c, d]) (h' := h4) (by
    rw [sFor_eq, e3, bindS_ok]
    exact l1)]
  have gt : gTupOf h4 [.ref k] = some (.tup (S.map spT)) := by
    unfold gTupOf seqOf lstOf
    dsimp only
    rw [l3.2.1]
    rfl
  simp [gt]
theorem bare_first {n : Nat} (hc : (cnt S f : Int) < t) : bare S f (n + 1) t = some f := by
  unfold bare dys
  rw [List.range_succ_eq_map, List.map_cons, List.find?_cons]
  simp [hc]
theorem e_law {ns : List Int} (hn : ns.length ≤ 63) : ∃ h, m_law [.scr (ns.map D.int)] [] = .ok (.bl true) h := by
  obtain ⟨h1, e1, o1⟩ := e_hand 6401 hn
  have c1 := e_cover_paper (S := []) (h := h1) (f := 0) (l := 400) (t := 1) ⟨by decide, by simp⟩ (by decide) (by decide) (by decide) (by decide) (by decide)
  have p1 : paper [] 0 (400 + 1 - 0 : Int).toNat 1 = .tup [.str "day", .int 0] := by
    have : bare [] 0 (400 + 1) 1 = some 0 := bare_first (by decide)
    unfold paper
    rw [show (400 + 1 - 0 : Int).toNat = 400 + 1 from rfl, this]
  have c2 := e_cover_paper (S := [(0, 400)]) (h := h1) (f := 0) (l := 400) (t := 1) ⟨by decide, by simp⟩ (by decide) (by decide) (by decide) (by decide) (by decide)
  have p2 : paper [(0, 400)] 0 (400 + 1 - 0 : Int).toNat 1 = .tup [.str "cover", .tup [.int 0]] := by
    have : bare [(0, 400)] 0 (400 + 1 - 0 : Int).toNat 1 = none := by
      unfold bare
      rw [List.find?_eq_none]
      intro d hd
      have := mem_dys.mp hd
      have hon : onS d (0, 400) = true := by simp [onS]; omega
      simp [cnt, List.filter_cons, hon]
    unfold paper
    rw [this]
    rfl
  rw [p1] at c1
  rw [p2] at c2
  have g1 : gNe h1 (.tup [.str "day", .int 0]) (.tup [.str "day", .int 0]) = some (.bl false) := by
    simp [gNe, toPyH, toPy, toPys, SeqAt.shaped, PyData.canLay0, PyData.canLayAll0, PyData.depth, PyData.depthAll, PyData.eqv, PyData.eqvAll]
    try decide +kernel
  have g2 : gNe h1 (.tup [.str "cover", .tup [.int 0]]) (.tup [.str "cover", .tup [.int 0]]) = some (.bl false) := by
    simp [gNe, toPyH, toPy, toPys, SeqAt.shaped, PyData.canLay0, PyData.canLayAll0, PyData.depth, PyData.depthAll, PyData.eqv, PyData.eqvAll]
    try decide +kernel
  unfold m_law
  rw [runD_eq]
  rw [seq_nx (s' := [some (.scr (ns.map D.int)), some (.ref 0), none, none, none, none, none]) (h' := h1) (by simp [hand_is, e1])]
  rw [seq_nx (s' := [some (.scr (ns.map D.int)), some (.ref 0), none, none, none, none, none]) (h' := h1) (by
    have c1' : m_cover_paper [.tup [], .int 0, .int 400, .int 1] h1 = _ := c1
    have c2' : m_cover_paper [.tup [.tup [.int 0, .int 400]], .int 0, .int 400, .int 1] h1 = _ := c2
    simp [c1', c2', g1, g2])]
  obtain ⟨s', h2, l1, _⟩ := loopD_all (g := (rngD 0 8, none)) (t := .name 2) (body := (sSeq (sAsg (mCall 2 m__law_case (mCons (mVar 1) (mCons (mC (.int 20)) mNil))) (.tup [(.name 3), (.name 4), (.name 5)]))
 (sFor (mIt (mTup (mCons (mC (.int 1)) (mCons (mOp gAdd (mC (.int 1)) (mCall 2 m__law_draw (mCons (mVar 1) (mCons (mC (.int 3)) mNil)))) mNil)))) (.name 6)
  (sIf (mNot (mTru (mCall 5 m__law_is_right (mCons (mVar 1) (mCons (mVar 3) (mCons (mVar 4) (mCons (mVar 5) (mCons (mVar 6) mNil))))))))
  (sRet (mC (.bl false)))
  sNx))))
    (fun s hh => HO hh ∧ ∃ a b c d e, s = [some (.scr (ns.map D.int)), some (.ref 0), a, b, c, d, e]) (by simp) (rngD 0 8) [some (.scr (ns.map D.int)), some (.ref 0), none, none, none, none, none] h1 ⟨o1, _, _, _, _, _, rfl⟩
    (fun x hx s h ⟨ho, a, b, c, d, e, es⟩ => by
      subst es
      obtain ⟨S, f, l, h3, e3, o3, os, f0, fl, l4⟩ := e_case ho
      obtain ⟨r, h4, e4, o4, s4, r0, r1⟩ := e_draw o3 (n := 3) (by decide) (by decide)
      obtain ⟨s6, h6, l6, o6, z, es6⟩ := loopD_all (g := ([.int 1, .int (1 + r)], none)) (t := .name 6) (body := (sIf (mNot (mTru (mCall 5 m__law_is_right (mCons (mVar 1) (mCons (mVar 3) (mCons (mVar 4) (mCons (mVar 5) (mCons (mVar 6) mNil))))))))
  (sRet (mC (.bl false)))
  sNx))
        (fun s hh => HO hh ∧ ∃ e, s = [some (.scr (ns.map D.int)), some (.ref 0), some x, some (.tup (S.map spT)), some (.int f), some (.int l), e]) (by simp) [.int 1, .int (1 + r)] [some (.scr (ns.map D.int)), some (.ref 0), some x, some (.tup (S.map spT)), some (.int f), some (.int l), e] h4 ⟨o4, _, rfl⟩
        (fun y hy s hh ⟨ho, e, es⟩ => by
          subst es
          obtain ⟨t, rfl, t1, t3⟩ : ∃ t, y = .int t ∧ 1 ≤ t ∧ t ≤ 3 := by
            simp at hy
            rcases hy with rfl | rfl
            · exact ⟨_, rfl, by decide, by decide⟩
            · exact ⟨_, rfl, by omega, by omega⟩
          obtain ⟨h7, e7, o7⟩ := e_right (S := S) (f := f) (l := l) (t := t) os f0 fl l4 t1 t3 ho
          exact ⟨_, [some (.scr (ns.map D.int)), some (.ref 0), some x, some (.tup (S.map spT)), some (.int f), some (.int l), some (.int t)], h7, rfl, .inl (by simp [e7]), o7, _, rfl⟩)
      subst es6
      refine ⟨[some (.scr (ns.map D.int)), some (.ref 0), some x, b, c, d, e], [some (.scr (ns.map D.int)), some (.ref 0), some x, some (.tup (S.map spT)), some (.int f), some (.int l), z], h6, rfl, .inl ?_, o6, _, _, _, _, _, rfl⟩
      rw [seq_nx (s' := [some (.scr (ns.map D.int)), some (.ref 0), some x, some (.tup (S.map spT)), some (.int f), some (.int l), e]) (h' := h3) (by
        have ec : mCall 2 m__law_case (mCons (mVar 1) (mCons (mC (.int 20)) mNil)) [some (.scr (ns.map D.int)), some (.ref 0), some x, b, c, d, e] h = .ok (.tup [.tup (S.map spT), .int f, .int l]) h3 := by simp [e3]
        rw [sAsg_eq, ec, bindS_ok]
        rfl)]
      rw [sFor_eq]
      have ei : mIt (mTup (mCons (mC (.int 1)) (mCons (mOp gAdd (mC (.int 1)) (mCall 2 m__law_draw (mCons (mVar 1) (mCons (mC (.int 3)) mNil)))) mNil))) [some (.scr (ns.map D.int)), some (.ref 0), some x, some (.tup (S.map spT)), some (.int f), some (.int l), e] h3 = .ok ([.int 1, .int (1 + r)], none) h4 := by simp [draw_is, e4]
      rw [ei, bindS_ok]
      exact l6)
  have hr : rng1 [.int 8] = some (rngD 0 8, none) := rng1_eq (by decide) (by decide)
  refine ⟨h2, ?_⟩
  rw [seq_nx (s' := s') (h' := h2) (by
    rw [sFor_eq]
    have ei : mRng1 (mCons (mC (.int 8)) mNil) [some (.scr (ns.map D.int)), some (.ref 0), none, none, none, none, none] h1 = .ok (rngD 0 8, none) h1 := by simp [hr]
    rw [ei, bindS_ok]
    exact l1)]
  simp
end K64

set_option Elab.async false
set_option linter.all false
set_option maxRecDepth 100000
set_option maxHeartbeats 4000000
namespace K64
open PySem PySem.Spec PyProof.Rows L2 Dn
def topS (i : Nat) : Stmt := PySem.Challenge.pw_paperslapse_k64_whole_stretches_covered.main.body.getD i (.Pass ⟨0, 0, 0, 0⟩)
structure Tops (mg : Str → Option Value) : Prop where
  b_abs : mg "abs" = none
  b_all : mg "all" = none
  b_bool : mg "bool" = none
  b_enumerate : mg "enumerate" = none
  b_int : mg "int" = none
  b_isinstance : mg "isinstance" = none
  b_len : mg "len" = none
  b_list : mg "list" = none
  b_max : mg "max" = none
  b_min : mg "min" = none
  b_range : mg "range" = none
  b_repr : mg "repr" = none
  b_set : mg "set" = none
  b_sorted : mg "sorted" = none
  b_str : mg "str" = none
  b_tuple : mg "tuple" = none
  c_COVER : ∃ t, mg "COVER" = some (.str "cover" t)
  c_DAY : ∃ t, mg "DAY" = some (.str "day" t)
  c_LAST_DAY : ∃ t, mg "LAST_DAY" = some (.int 400 t)
  c_MOST_SPANS : ∃ t, mg "MOST_SPANS" = some (.int 20 t)
  c_MOST_TIMES : ∃ t, mg "MOST_TIMES" = some (.int 3 t)
section
variable {P : Program} {w : World} {K : PySem.W.Frag} {mg : Str → Option Value} {base : Heap} {k : Nat} {f : Addr} {fd : FuncData}
abbrev s_is_integer : Stmt := topS 6
theorem sc_is_integer : FnScope ["thing"] ["thing"] (defScope s_is_integer) := ⟨rfl, rfl, rfl, by decide +kernel, rfl, by decide +kernel, by decide +kernel⟩
theorem ok_is_integer (F : Fun K "is_integer" "is_integer" s_is_integer f fd) (hm : mg "is_integer" = some (.ref f)) (b : L2.Binds K fd ["thing"] []) (T : Tops mg) : DefAt P w K mg base (k + 1) "is_integer" 1 m_is_integer :=
 def_ok F hm b sc_is_integer fun cdv A outer s H E hr O =>
 (dss_one (ds_ret (de_and (de_isi "int" (by decide) (by rfl) T.b_isinstance (by rfl) T.b_int boot_int (de_var 0) boot_isinstance) (de_one (de_not (de_isi "bool" (by decide) (by rfl) T.b_isinstance (by rfl) T.b_bool boot_bool (de_var 0) boot_isinstance))))))
abbrev s_is_between : Stmt := topS 7
theorem sc_is_between : FnScope ["thing", "least", "most"] ["thing", "least", "most"] (defScope s_is_between) := ⟨rfl, rfl, rfl, by decide +kernel, rfl, by decide +kernel, by decide +kernel⟩
theorem ok_is_between (F : Fun K "is_between" "is_between" s_is_between f fd) (hm : mg "is_between" = some (.ref f)) (b : L2.Binds K fd ["thing", "least", "most"] []) (T : Tops mg) (g_is_integer : DefAt P w K mg base k "is_integer" 1 m_is_integer) : DefAt P w K mg base (k + 1) "is_between" 3 m_is_between :=
 def_ok F hm b sc_is_between fun cdv A outer s H E hr O =>
 (dss_one (ds_ret (de_and (de_call O.gd g_is_integer hr (by rfl) (da_cons (de_var 0) da_nil)) (de_one (de_chain od_le od_le (de_var 1) (de_var 0) (de_var 2))))))
abbrev s_is_under : Stmt := topS 8
theorem sc_is_under : FnScope ["thing", "many"] ["thing", "many"] (defScope s_is_under) := ⟨rfl, rfl, rfl, by decide +kernel, rfl, by decide +kernel, by decide +kernel⟩
theorem ok_is_under (F : Fun K "is_under" "is_under" s_is_under f fd) (hm : mg "is_under" = some (.ref f)) (b : L2.Binds K fd ["thing", "many"] []) (T : Tops mg) (g_is_integer : DefAt P w K mg base k "is_integer" 1 m_is_integer) : DefAt P w K mg base (k + 1) "is_under" 2 m_is_under :=
 def_ok F hm b sc_is_under fun cdv A outer s H E hr O =>
 (dss_one (ds_ret (de_and (de_call O.gd g_is_integer hr (by rfl) (da_cons (de_var 0) da_nil)) (de_one (de_chain od_le od_lt de_int (de_var 0) (de_var 1))))))
abbrev s_is_tuple_of : Stmt := topS 9
theorem sc_is_tuple_of : FnScope ["thing", "many"] ["thing", "many"] (defScope s_is_tuple_of) := ⟨rfl, rfl, rfl, by decide +kernel, rfl, by decide +kernel, by decide +kernel⟩
theorem ok_is_tuple_of (F : Fun K "is_tuple_of" "is_tuple_of" s_is_tuple_of f fd) (hm : mg "is_tuple_of" = some (.ref f)) (b : L2.Binds K fd ["thing", "many"] []) (T : Tops mg) : DefAt P w K mg base (k + 1) "is_tuple_of" 2 m_is_tuple_of :=
 def_ok F hm b sc_is_tuple_of fun cdv A outer s H E hr O =>
 (dss_one (ds_ret (de_and (de_isi "tuple" (by decide) (by rfl) T.b_isinstance (by rfl) T.b_tuple boot_tuple (de_var 0) boot_isinstance) (de_one (de_cmp (od_eq (hu64 hr)) (de_callB cd_len (by rfl) T.b_len boot_len (da_cons (de_var 0) da_nil)) (de_var 1))))))
abbrev s_are_under : Stmt := topS 10
theorem sc_are_under : FnScope ["thing", "many", "one"] ["thing", "many"] (defScope s_are_under) := ⟨rfl, rfl, rfl, by decide +kernel, rfl, by decide +kernel, by decide +kernel⟩
theorem ok_are_under (F : Fun K "are_under" "are_under" s_are_under f fd) (hm : mg "are_under" = some (.ref f)) (b : L2.Binds K fd ["thing", "many"] []) (T : Tops mg) (g_is_under : DefAt P w K mg base k "is_under" 2 m_is_under) : DefAt P w K mg base (k + 1) "are_under" 2 m_are_under :=
 def_ok F hm b sc_are_under fun cdv A outer s H E hr O =>
 (dss_one (ds_ret (de_and (de_isi "tuple" (by decide) (by rfl) T.b_isinstance (by rfl) T.b_tuple boot_tuple (de_var 0) boot_isinstance) (de_one (de_callB (cd_all O.calm) (by rfl) T.b_all boot_all (da_cons (de_lc  [("one", 2)] O.calm O.nd (di_seq (de_var 0)) (blkOk_by (by kernel_rfl)) (fun _ _ _ _ _ => (dg_name 2 O.nd)) (fun _ _ _ _ _ => dts_nil) (fun _ _ _ _ _ => (de_call O.gd g_is_under hr (by rfl) (da_cons (de_var 2) (da_cons (de_var 1) da_nil))))) da_nil))))))
abbrev s_is_lot : Stmt := topS 11
theorem sc_is_lot : FnScope ["thing", "many", "at"] ["thing", "many"] (defScope s_is_lot) := ⟨rfl, rfl, rfl, by decide +kernel, rfl, by decide +kernel, by decide +kernel⟩
theorem ok_is_lot (F : Fun K "is_lot" "is_lot" s_is_lot f fd) (hm : mg "is_lot" = some (.ref f)) (b : L2.Binds K fd ["thing", "many"] []) (T : Tops mg) (g_are_under : DefAt P w K mg base k "are_under" 2 m_are_under) : DefAt P w K mg base (k + 1) "is_lot" 2 m_is_lot :=
 def_ok F hm b sc_is_lot fun cdv A outer s H E hr O =>
 (dss_one (ds_ret (de_and (de_call O.gd g_are_under hr (by rfl) (da_cons (de_var 0) (da_cons (de_var 1) da_nil))) (de_one (de_callB (cd_all O.calm) (by rfl) T.b_all boot_all (da_cons (de_lc  [("at", 2)] O.calm O.nd (di_range2 (by rfl) T.b_range (da_cons de_int (da_cons (de_callB cd_len (by rfl) T.b_len boot_len (da_cons (de_var 0) da_nil)) da_nil))) (blkOk_by (by kernel_rfl)) (fun _ _ _ _ _ => (dg_name 2 O.nd)) (fun _ _ _ _ _ => dts_nil) (fun _ _ _ _ _ => (de_cmp od_lt (de_ix (de_var 0) (de_op od_sub (de_var 2) de_int)) (de_ix (de_var 0) (de_var 2))))) da_nil))))))
abbrev s_is_day : Stmt := topS 14
theorem sc_is_day : FnScope ["thing"] ["thing"] (defScope s_is_day) := ⟨rfl, rfl, rfl, by decide +kernel, rfl, by decide +kernel, by decide +kernel⟩
theorem ok_is_day (F : Fun K "is_day" "is_day" s_is_day f fd) (hm : mg "is_day" = some (.ref f)) (b : L2.Binds K fd ["thing"] []) (T : Tops mg) (g_is_between : DefAt P w K mg base k "is_between" 3 m_is_between) : DefAt P w K mg base (k + 1) "is_day" 1 m_is_day :=
 def_ok F hm b sc_is_day fun cdv A outer s H E hr O =>
 (dss_one (ds_ret (de_call O.gd g_is_between hr (by rfl) (da_cons (de_var 0) (da_cons de_int (da_cons (de_cI (by rfl) T.c_LAST_DAY) da_nil))))))
abbrev s_need_days : Stmt := topS 15
theorem sc_need_days : FnScope ["first", "last"] ["first", "last"] (defScope s_need_days) := ⟨rfl, rfl, rfl, by decide +kernel, rfl, by decide +kernel, by decide +kernel⟩
theorem ok_need_days (F : Fun K "need_days" "need_days" s_need_days f fd) (hm : mg "need_days" = some (.ref f)) (b : L2.Binds K fd ["first", "last"] []) (T : Tops mg) (g_is_day : DefAt P w K mg base k "is_day" 1 m_is_day) : DefAt P w K mg base (k + 1) "need_days" 2 m_need_days :=
 def_ok F hm b sc_need_days fun cdv A outer s H E hr O =>
 (dss_one (ds_if (dw_or (dt_not (dt_tru (de_call O.gd g_is_day hr (by rfl) (da_cons (de_var 0) da_nil)))) (dw_or (dt_not (dt_tru (de_call O.gd g_is_day hr (by rfl) (da_cons (de_var 1) da_nil)))) (dw_or1 (dt_cmp od_lt (de_var 1) (de_var 0))))).dt
  (dss_one ds_never)
  dss_nil))
abbrev s_is_stretch : Stmt := topS 16
theorem sc_is_stretch : FnScope ["thing"] ["thing"] (defScope s_is_stretch) := ⟨rfl, rfl, rfl, by decide +kernel, rfl, by decide +kernel, by decide +kernel⟩
theorem ok_is_stretch (F : Fun K "is_stretch" "is_stretch" s_is_stretch f fd) (hm : mg "is_stretch" = some (.ref f)) (b : L2.Binds K fd ["thing"] []) (T : Tops mg) (g_is_tuple_of : DefAt P w K mg base k "is_tuple_of" 2 m_is_tuple_of) (g_is_day : DefAt P w K mg base k "is_day" 1 m_is_day) : DefAt P w K mg base (k + 1) "is_stretch" 1 m_is_stretch :=
 def_ok F hm b sc_is_stretch fun cdv A outer s H E hr O =>
 (dss_one (ds_ret (de_and (de_call O.gd g_is_tuple_of hr (by rfl) (da_cons (de_var 0) (da_cons de_int da_nil))) (de_and (de_call O.gd g_is_day hr (by rfl) (da_cons (de_ix (de_var 0) de_int) da_nil)) (de_and (de_call O.gd g_is_day hr (by rfl) (da_cons (de_ix (de_var 0) de_int) da_nil)) (de_one (de_cmp od_le (de_ix (de_var 0) de_int) (de_ix (de_var 0) de_int))))))))
abbrev s_need_spans : Stmt := topS 22
theorem sc_need_spans : FnScope ["thing", "one"] ["thing"] (defScope s_need_spans) := ⟨rfl, rfl, rfl, by decide +kernel, rfl, by decide +kernel, by decide +kernel⟩
theorem ok_need_spans (F : Fun K "need_spans" "need_spans" s_need_spans f fd) (hm : mg "need_spans" = some (.ref f)) (b : L2.Binds K fd ["thing"] []) (T : Tops mg) (g_is_stretch : DefAt P w K mg base k "is_stretch" 1 m_is_stretch) : DefAt P w K mg base (k + 1) "need_spans" 1 m_need_spans :=
 def_ok F hm b sc_need_spans fun cdv A outer s H E hr O =>
 (dss_one (ds_if (dw_or (dt_not (dt_tru (de_isi "tuple" (by decide) (by rfl) T.b_isinstance (by rfl) T.b_tuple boot_tuple (de_var 0) boot_isinstance))) (dw_or (dt_cmp od_gt (de_callB cd_len (by rfl) T.b_len boot_len (da_cons (de_var 0) da_nil)) (de_cI (by rfl) T.c_MOST_SPANS)) (dw_or1 (dt_not (dt_tru (de_callB (cd_all O.calm) (by rfl) T.b_all boot_all (da_cons (de_lc  [("one", 1)] O.calm O.nd (di_seq (de_var 0)) (blkOk_by (by kernel_rfl)) (fun _ _ _ _ _ => (dg_name 1 O.nd)) (fun _ _ _ _ _ => dts_nil) (fun _ _ _ _ _ => (de_call O.gd g_is_stretch hr (by rfl) (da_cons (de_var 1) da_nil)))) da_nil))))))).dt
  (dss_one ds_never)
  dss_nil))
abbrev s_need_times : Stmt := topS 23
theorem sc_need_times : FnScope ["thing"] ["thing"] (defScope s_need_times) := ⟨rfl, rfl, rfl, by decide +kernel, rfl, by decide +kernel, by decide +kernel⟩
theorem ok_need_times (F : Fun K "need_times" "need_times" s_need_times f fd) (hm : mg "need_times" = some (.ref f)) (b : L2.Binds K fd ["thing"] []) (T : Tops mg) (g_is_between : DefAt P w K mg base k "is_between" 3 m_is_between) : DefAt P w K mg base (k + 1) "need_times" 1 m_need_times :=
 def_ok F hm b sc_need_times fun cdv A outer s H E hr O =>
 (dss_one (ds_if (dt_not (dt_tru (de_call O.gd g_is_between hr (by rfl) (da_cons (de_var 0) (da_cons de_int (da_cons (de_cI (by rfl) T.c_MOST_TIMES) da_nil))))))
  (dss_one ds_never)
  dss_nil))
abbrev s_raw_on : Stmt := topS 24
theorem sc_raw_on : FnScope ["spans", "day", "first", "last", "number"] ["spans", "day"] (defScope s_raw_on) := ⟨rfl, rfl, rfl, by decide +kernel, rfl, by decide +kernel, by decide +kernel⟩
theorem ok_raw_on (F : Fun K "raw_on" "raw_on" s_raw_on f fd) (hm : mg "raw_on" = some (.ref f)) (b : L2.Binds K fd ["spans", "day"] []) (T : Tops mg) : DefAt P w K mg base (k + 1) "raw_on" 2 m_raw_on :=
 def_ok F hm b sc_raw_on fun cdv A outer s H E hr O =>
 (dss_one (ds_ret (de_lc  [("number", 4), ("first", 2), ("last", 3)] O.calm O.nd (di_enum (by rfl) T.b_enumerate (da_cons (de_var 0) da_nil)) (blkOk_by (by kernel_rfl)) (fun _ _ _ _ _ => (dg_tup O.calm (dgs_cons (dg_name 4 O.nd) (dgs_cons (dg_tup O.calm (dgs_cons (dg_name 2 O.nd) (dgs_cons (dg_name 3 O.nd) dgs_nil))) dgs_nil)))) (fun _ _ _ _ _ => (dts_one (dt_chain od_le od_le (de_var 2) (de_var 1) (de_var 3)))) (fun _ _ _ _ _ => (de_var 4)))))
abbrev s_first_bare : Stmt := topS 25
theorem sc_first_bare : FnScope ["spans", "lot", "first", "last", "times", "some", "day", "number"] ["spans", "lot", "first", "last", "times"] (defScope s_first_bare) := ⟨rfl, rfl, rfl, by decide +kernel, rfl, by decide +kernel, by decide +kernel⟩
theorem ok_first_bare (F : Fun K "first_bare" "first_bare" s_first_bare f fd) (hm : mg "first_bare" = some (.ref f)) (b : L2.Binds K fd ["spans", "lot", "first", "last", "times"] []) (T : Tops mg) (g_raw_on : DefAt P w K mg base k "raw_on" 2 m_raw_on) : DefAt P w K mg base (k + 1) "first_bare" 5 m_first_bare :=
 def_ok F hm b sc_first_bare fun cdv A outer s H E hr O =>
 (dss_cons (ds_setLc 5 [("number", 7)] O.calm O.nd (di_seq (de_var 1)) (blkOk_by (by kernel_rfl)) (fun _ _ _ _ _ => (dg_name 7 O.nd)) (fun _ _ _ _ _ => dts_nil) (fun _ _ _ _ _ => (de_ix (de_var 0) (de_var 7))) (by exact sw_true rfl rfl rfl (by decide +kernel)))
 (dss_cons (ds_for O (di_range2 (by rfl) T.b_range (da_cons (de_var 2) (da_cons (de_op od_add (de_var 3) de_int) da_nil))) (dg_name 6 O.nd)
  (dss_one (ds_if (dt_cmp od_lt (de_callB cd_len (by rfl) T.b_len boot_len (da_cons (de_call O.gd g_raw_on hr (by rfl) (da_cons (de_var 5) (da_cons (de_var 6) da_nil))) da_nil)) (de_var 4))
  (dss_one (ds_ret (de_var 6)))
  dss_nil)))
 (dss_one (ds_ret de_non))))
abbrev s_all_of : Stmt := topS 26
theorem sc_all_of : FnScope ["spans"] ["spans"] (defScope s_all_of) := ⟨rfl, rfl, rfl, by decide +kernel, rfl, by decide +kernel, by decide +kernel⟩
theorem ok_all_of (F : Fun K "all_of" "all_of" s_all_of f fd) (hm : mg "all_of" = some (.ref f)) (b : L2.Binds K fd ["spans"] []) (T : Tops mg) : DefAt P w K mg base (k + 1) "all_of" 1 m_all_of :=
 def_ok F hm b sc_all_of fun cdv A outer s H E hr O =>
 (dss_one (ds_ret (de_tupR O.calm (by rfl) T.b_tuple (dr_1 (by rfl) T.b_range (de_callB cd_len (by rfl) T.b_len boot_len (da_cons (de_var 0) da_nil))))))
abbrev s_cover_paper : Stmt := topS 27
theorem sc_cover_paper : FnScope ["spans", "first", "last", "times", "day"] ["spans", "first", "last", "times"] (defScope s_cover_paper) := ⟨rfl, rfl, rfl, by decide +kernel, rfl, by decide +kernel, by decide +kernel⟩
theorem ok_cover_paper (F : Fun K "cover_paper" "cover_paper" s_cover_paper f fd) (hm : mg "cover_paper" = some (.ref f)) (b : L2.Binds K fd ["spans", "first", "last", "times"] []) (T : Tops mg) (g_need_spans : DefAt P w K mg base k "need_spans" 1 m_need_spans) (g_need_days : DefAt P w K mg base k "need_days" 2 m_need_days) (g_need_times : DefAt P w K mg base k "need_times" 1 m_need_times) (g_first_bare : DefAt P w K mg base k "first_bare" 5 m_first_bare) (g_all_of : DefAt P w K mg base k "all_of" 1 m_all_of) : DefAt P w K mg base (k + 1) "cover_paper" 4 m_cover_paper :=
 def_ok F hm b sc_cover_paper fun cdv A outer s H E hr O =>
 (dss_cons (ds_expr (de_call O.gd g_need_spans hr (by rfl) (da_cons (de_var 0) da_nil)))
 (dss_cons (ds_expr (de_call O.gd g_need_days hr (by rfl) (da_cons (de_var 1) (da_cons (de_var 2) da_nil))))
 (dss_cons (ds_expr (de_call O.gd g_need_times hr (by rfl) (da_cons (de_var 3) da_nil)))
 (dss_cons (ds_set 4 O.nd (de_call O.gd g_first_bare hr (by rfl) (da_cons (de_var 0) (da_cons (de_call O.gd g_all_of hr (by rfl) (da_cons (de_var 0) da_nil)) (da_cons (de_var 1) (da_cons (de_var 2) (da_cons (de_var 3) da_nil)))))))
 (dss_one (ds_ret (de_if (dt_cmp od_isN (de_var 4) de_non) (de_tup (da_cons (de_cS (by rfl) T.c_COVER) (da_cons (de_call O.gd g_all_of hr (by rfl) (da_cons (de_var 0) da_nil)) da_nil))) (de_tup (da_cons (de_cS (by rfl) T.c_DAY) (da_cons (de_var 4) da_nil))))))))))
abbrev s_is_cover_paper : Stmt := topS 28
theorem sc_is_cover_paper : FnScope ["spans", "first", "last", "times", "thing"] ["spans", "first", "last", "times", "thing"] (defScope s_is_cover_paper) := ⟨rfl, rfl, rfl, by decide +kernel, rfl, by decide +kernel, by decide +kernel⟩
theorem ok_is_cover_paper (F : Fun K "is_cover_paper" "is_cover_paper" s_is_cover_paper f fd) (hm : mg "is_cover_paper" = some (.ref f)) (b : L2.Binds K fd ["spans", "first", "last", "times", "thing"] []) (T : Tops mg) (g_need_spans : DefAt P w K mg base k "need_spans" 1 m_need_spans) (g_need_days : DefAt P w K mg base k "need_days" 2 m_need_days) (g_need_times : DefAt P w K mg base k "need_times" 1 m_need_times) (g_is_tuple_of : DefAt P w K mg base k "is_tuple_of" 2 m_is_tuple_of) (g_is_lot : DefAt P w K mg base k "is_lot" 2 m_is_lot) (g_first_bare : DefAt P w K mg base k "first_bare" 5 m_first_bare) (g_is_between : DefAt P w K mg base k "is_between" 3 m_is_between) (g_raw_on : DefAt P w K mg base k "raw_on" 2 m_raw_on) : DefAt P w K mg base (k + 1) "is_cover_paper" 5 m_is_cover_paper :=
 def_ok F hm b sc_is_cover_paper fun cdv A outer s H E hr O =>
 (dss_cons (ds_expr (de_call O.gd g_need_spans hr (by rfl) (da_cons (de_var 0) da_nil)))
 (dss_cons (ds_expr (de_call O.gd g_need_days hr (by rfl) (da_cons (de_var 1) (da_cons (de_var 2) da_nil))))
 (dss_cons (ds_expr (de_call O.gd g_need_times hr (by rfl) (da_cons (de_var 3) da_nil)))
 (dss_cons (ds_if (dw_or (dt_not (dt_tru (de_call O.gd g_is_tuple_of hr (by rfl) (da_cons (de_var 4) (da_cons de_int da_nil))))) (dw_or1 (dt_not (dt_tru (de_isi "str" (by decide) (by rfl) T.b_isinstance (by rfl) T.b_str boot_str (de_ix (de_var 4) de_int) boot_isinstance))))).dt
  (dss_one (ds_ret de_bl))
  dss_nil)
 (dss_cons (ds_if (dt_cmp (od_eq (hu64 hr)) (de_ix (de_var 4) de_int) (de_cS (by rfl) T.c_COVER))
  (dss_one (ds_ret (de_and (de_call O.gd g_is_lot hr (by rfl) (da_cons (de_ix (de_var 4) de_int) (da_cons (de_callB cd_len (by rfl) T.b_len boot_len (da_cons (de_var 0) da_nil)) da_nil))) (de_one (de_cmp od_isN (de_call O.gd g_first_bare hr (by rfl) (da_cons (de_var 0) (da_cons (de_ix (de_var 4) de_int) (da_cons (de_var 1) (da_cons (de_var 2) (da_cons (de_var 3) da_nil)))))) de_non)))))
  dss_nil)
 (dss_cons (ds_if (dw_or (dt_cmp (od_ne (hu64 hr)) (de_ix (de_var 4) de_int) (de_cS (by rfl) T.c_DAY)) (dw_or1 (dt_not (dt_tru (de_call O.gd g_is_between hr (by rfl) (da_cons (de_ix (de_var 4) de_int) (da_cons (de_var 1) (da_cons (de_var 2) da_nil)))))))).dt
  (dss_one (ds_ret de_bl))
  dss_nil)
 (dss_one (ds_ret (de_cmp od_lt (de_callB cd_len (by rfl) T.b_len boot_len (da_cons (de_call O.gd g_raw_on hr (by rfl) (da_cons (de_var 0) (da_cons (de_ix (de_var 4) de_int) da_nil))) da_nil)) (de_var 3))))))))))
abbrev s__law_hand : Stmt := topS 30
theorem sc__law_hand : FnScope ["script", "cells", "cell"] ["script"] (defScope s__law_hand) := ⟨rfl, rfl, rfl, by decide +kernel, rfl, by decide +kernel, by decide +kernel⟩
theorem ok__law_hand (F : Fun K "_law_hand" "_law_hand" s__law_hand f fd) (hm : mg "_law_hand" = some (.ref f)) (b : L2.Binds K fd ["script"] []) (T : Tops mg) : DefAt P w K mg base (k + 1) "_law_hand" 1 m__law_hand :=
 def_ok F hm b sc__law_hand fun cdv A outer s H E hr O =>
 (dss_cons (ds_setLc 1 [("cell", 2)] O.calm O.nd (di_seq (de_slice (de_var 0) do_none (do_some de_int))) (blkOk_by (by kernel_rfl)) (fun _ _ _ _ _ => (dg_name 2 O.nd)) (fun _ _ _ _ _ => dts_nil) (fun _ _ _ _ _ => (de_op od_mod (de_callTy cd_int (by rfl) T.b_int boot_int (da_cons (de_callB cd_abs (by rfl) T.b_abs boot_abs (da_cons (de_callTy cd_int (by rfl) T.b_int boot_int (da_cons (de_var 2) da_nil)) da_nil)) da_nil)) (de_op od_pow de_int de_int))) (by exact sw_true rfl rfl rfl (by decide +kernel)))
 (dss_one (ds_ret (de_new (da_cons (de_var 1) (da_cons de_int (da_cons de_int (da_cons (de_op od_add de_int (de_op od_mul de_int (de_callB cd_len (by rfl) T.b_len boot_len (da_cons (de_var 1) da_nil)))) (da_cons de_int da_nil)))))))))
abbrev s__law_draw : Stmt := topS 31
theorem sc__law_draw : FnScope ["hand", "many", "cell", "digit", "number"] ["hand", "many"] (defScope s__law_draw) := ⟨rfl, rfl, rfl, by decide +kernel, rfl, by decide +kernel, by decide +kernel⟩
theorem ok__law_draw (F : Fun K "_law_draw" "_law_draw" s__law_draw f fd) (hm : mg "_law_draw" = some (.ref f)) (b : L2.Binds K fd ["hand", "many"] []) (T : Tops mg) : DefAt P w K mg base (k + 1) "_law_draw" 2 m__law_draw :=
 def_ok F hm b sc__law_draw fun cdv A outer s H E hr O =>
 (dss_cons (ds_if (dw_and (dt_cmp (od_eq (hu64 hr)) (de_ix (de_var 0) de_int) de_int) (dw_and1 (dt_cmp od_lt (de_ix (de_var 0) de_int) (de_callB cd_len (by rfl) T.b_len boot_len (da_cons (de_ix (de_var 0) de_int) da_nil))))).dt
  (dss_cons (ds_set 2 O.nd (de_ix (de_ix (de_var 0) de_int) (de_ix (de_var 0) de_int)))
 (dss_cons (ds_st (de_op od_add (de_ix (de_var 0) de_int) de_int) (de_var 0) de_int)
 (dss_cons (ds_st (de_op od_mod (de_callTy cd_int (by rfl) T.b_int boot_int (da_cons (de_op od_add (de_op od_add (de_op od_mul (de_ix (de_var 0) de_int) de_int) (de_op od_mul (de_var 2) de_int)) de_int) da_nil)) de_int) (de_var 0) de_int)
 (dss_one (ds_if (dt_cmp od_ge (de_var 2) (de_op od_pow de_int de_int))
  (dss_one (ds_st (de_var 2) (de_var 0) de_int))
  dss_nil)))))
  dss_nil)
 (dss_cons (ds_if (dt_cmp od_gt (de_ix (de_var 0) de_int) de_int)
  (dss_cons (ds_set 3 O.nd (de_op od_mod (de_callTy cd_int (by rfl) T.b_int boot_int (da_cons (de_ix (de_var 0) de_int) da_nil)) (de_var 1)))
 (dss_cons (ds_st (de_op od_div (de_ix (de_var 0) de_int) (de_var 1)) (de_var 0) de_int)
 (dss_one (ds_ret (de_var 3)))))
  dss_nil)
 (dss_cons (ds_st (de_op od_add (de_ix (de_var 0) de_int) de_int) (de_var 0) de_int)
 (dss_cons (ds_set 4 O.nd (de_op od_mod (de_callTy cd_int (by rfl) T.b_int boot_int (da_cons (de_op od_mul (de_callTy cd_int (by rfl) T.b_int boot_int (da_cons (de_op od_add (de_ix (de_var 0) de_int) (de_op od_mul de_int (de_ix (de_var 0) de_int))) da_nil)) de_int) da_nil)) de_int))
 (dss_cons (ds_set 4 O.nd (de_op od_mod (de_callTy cd_int (by rfl) T.b_int boot_int (da_cons (de_op od_mul (de_var 4) (de_op od_add (de_op od_div (de_var 4) de_int) de_int)) da_nil)) de_int))
 (dss_cons (ds_set 4 O.nd (de_op od_mod (de_callTy cd_int (by rfl) T.b_int boot_int (da_cons (de_op od_mul (de_var 4) (de_op od_add (de_op od_div (de_var 4) de_int) de_int)) da_nil)) de_int))
 (dss_one (ds_ret (de_op od_mod (de_callTy cd_int (by rfl) T.b_int boot_int (da_cons (de_op od_div (de_var 4) de_int) da_nil)) (de_var 1))))))))))
abbrev s__law_any : Stmt := topS 32
theorem sc__law_any : FnScope ["hand", "some"] ["hand", "some"] (defScope s__law_any) := ⟨rfl, rfl, rfl, by decide +kernel, rfl, by decide +kernel, by decide +kernel⟩
theorem ok__law_any (F : Fun K "_law_any" "_law_any" s__law_any f fd) (hm : mg "_law_any" = some (.ref f)) (b : L2.Binds K fd ["hand", "some"] []) (T : Tops mg) (g__law_draw : DefAt P w K mg base k "_law_draw" 2 m__law_draw) : DefAt P w K mg base (k + 1) "_law_any" 2 m__law_any :=
 def_ok F hm b sc__law_any fun cdv A outer s H E hr O =>
 (dss_one (ds_ret (de_ix (de_var 1) (de_call O.gd g__law_draw hr (by rfl) (da_cons (de_var 0) (da_cons (de_callB cd_len (by rfl) T.b_len boot_len (da_cons (de_var 1) da_nil)) da_nil))))))
abbrev s__law_case : Stmt := topS 33
theorem sc__law_case : FnScope ["hand", "most", "wide", "first", "last", "some", "turn", "kind", "begin", "end"] ["hand", "most"] (defScope s__law_case) := ⟨rfl, rfl, rfl, by decide +kernel, rfl, by decide +kernel, by decide +kernel⟩
theorem ok__law_case (F : Fun K "_law_case" "_law_case" s__law_case f fd) (hm : mg "_law_case" = some (.ref f)) (b : L2.Binds K fd ["hand", "most"] []) (T : Tops mg) (g__law_any : DefAt P w K mg base k "_law_any" 2 m__law_any) (g__law_draw : DefAt P w K mg base k "_law_draw" 2 m__law_draw) : DefAt P w K mg base (k + 1) "_law_case" 2 m__law_case :=
 def_ok F hm b sc__law_case fun cdv A outer s H E hr O =>
 (dss_cons (ds_set 2 O.nd (de_call O.gd g__law_any hr (by rfl) (da_cons (de_var 0) (da_cons (de_lst (da_cons de_int (da_cons de_int (da_cons de_int (da_cons de_int (da_cons de_int da_nil)))))) da_nil))))
 (dss_cons (ds_set 3 O.nd (de_call O.gd g__law_any hr (by rfl) (da_cons (de_var 0) (da_cons (de_lst (da_cons de_int (da_cons de_int (da_cons de_int (da_cons (de_op od_sub de_int (de_var 2)) da_nil))))) da_nil))))
 (dss_cons (ds_par 4 5 O.calm O.nd (da_cons (de_op od_sub (de_op od_add (de_var 3) (de_var 2)) de_int) (da_cons (de_new da_nil) da_nil)))
 (dss_cons (ds_for O (di_range1 (by rfl) T.b_range (da_cons (de_if (dt_cmp od_gt (de_call O.gd g__law_draw hr (by rfl) (da_cons (de_var 0) (da_cons de_int da_nil))) de_int) (de_op od_sub (de_var 1) (de_call O.gd g__law_draw hr (by rfl) (da_cons (de_var 0) (da_cons de_int da_nil)))) (de_call O.gd g__law_draw hr (by rfl) (da_cons (de_var 0) (da_cons (de_op od_add (de_var 1) de_int) da_nil)))) da_nil)) (dg_name 6 O.nd)
  (dss_cons (ds_set 7 O.nd (de_call O.gd g__law_draw hr (by rfl) (da_cons (de_var 0) (da_cons de_int da_nil))))
 (dss_cons (ds_set 8 O.nd (de_op od_add (de_var 3) (de_call O.gd g__law_draw hr (by rfl) (da_cons (de_var 0) (da_cons (de_var 2) da_nil)))))
 (dss_cons (ds_set 9 O.nd (de_callB (cd_min O.calm) (by rfl) T.b_min boot_min (da_cons de_int (da_cons (de_op od_add (de_var 8) (de_call O.gd g__law_draw hr (by rfl) (da_cons (de_var 0) (da_cons (de_call O.gd g__law_any hr (by rfl) (da_cons (de_var 0) (da_cons (de_lst (da_cons de_int (da_cons de_int (da_cons (de_var 2) da_nil)))) da_nil))) da_nil)))) da_nil))))
 (dss_cons (ds_if (dt_cmp (od_eq (hu64 hr)) (de_var 7) de_int)
  (dss_one (ds_par 8 9 O.calm O.nd (da_cons (de_callB (cd_max O.calm) (by rfl) T.b_max boot_max (da_cons de_int (da_cons (de_op od_sub (de_var 3) (de_call O.gd g__law_draw hr (by rfl) (da_cons (de_var 0) (da_cons de_int da_nil)))) da_nil))) (da_cons (de_var 9) da_nil))))
  dss_nil)
 (dss_cons (ds_if (dw_and (dt_cmp (od_eq (hu64 hr)) (de_var 7) de_int) (dw_and1 (dt_cmp (od_ne (hu64 hr)) (de_var 5) (de_lst da_nil)))).dt
  (dss_cons (ds_set 8 O.nd (de_callB (cd_min O.calm) (by rfl) T.b_min boot_min (da_cons de_int (da_cons (de_op od_add (de_ix (de_ix (de_var 5) (de_neg de_int)) de_int) (de_call O.gd g__law_any hr (by rfl) (da_cons (de_var 0) (da_cons (de_lst (da_cons de_int (da_cons de_int (da_cons de_int (da_cons de_int da_nil))))) da_nil)))) da_nil))))
 (dss_one (ds_set 9 O.nd (de_callB (cd_min O.calm) (by rfl) T.b_min boot_min (da_cons de_int (da_cons (de_callB (cd_max O.calm) (by rfl) T.b_max boot_max (da_cons (de_var 8) (da_cons (de_op od_add (de_var 8) (de_call O.gd g__law_draw hr (by rfl) (da_cons (de_var 0) (da_cons (de_var 2) da_nil)))) da_nil))) da_nil))))))
  dss_nil)
 (dss_cons (ds_if (dt_cmp (od_eq (hu64 hr)) (de_var 7) de_int)
  (dss_one (ds_par 8 9 O.calm O.nd (da_cons (de_var 3) (da_cons (de_callB (cd_min O.calm) (by rfl) T.b_min boot_min (da_cons de_int (da_cons (de_op od_add (de_var 4) (de_call O.gd g__law_draw hr (by rfl) (da_cons (de_var 0) (da_cons de_int da_nil)))) da_nil))) da_nil))))
  dss_nil)
 (dss_one (ds_expr (de_app (de_var 5) (de_tup (da_cons (de_var 8) (da_cons (de_callB (cd_max O.calm) (by rfl) T.b_max boot_max (da_cons (de_var 8) (da_cons (de_var 9) da_nil))) da_nil)))))))))))))
 (dss_one (ds_ret (de_tup (da_cons (de_callTy cd_tup (by rfl) T.b_tuple boot_tuple (da_cons (de_var 5) da_nil)) (da_cons (de_var 3) (da_cons (de_var 4) da_nil))))))))))
abbrev s__law_cover : Stmt := topS 34
theorem sc__law_cover : FnScope ["spans", "lot", "day", "at"] ["spans", "lot", "day"] (defScope s__law_cover) := ⟨rfl, rfl, rfl, by decide +kernel, rfl, by decide +kernel, by decide +kernel⟩
theorem ok__law_cover (F : Fun K "_law_cover" "_law_cover" s__law_cover f fd) (hm : mg "_law_cover" = some (.ref f)) (b : L2.Binds K fd ["spans", "lot", "day"] []) (T : Tops mg) : DefAt P w K mg base (k + 1) "_law_cover" 3 m__law_cover :=
 def_ok F hm b sc__law_cover fun cdv A outer s H E hr O =>
 (dss_one (ds_ret (de_callB cd_len (by rfl) T.b_len boot_len (da_cons (de_lc  [("at", 3)] O.calm O.nd (di_seq (de_var 1)) (blkOk_by (by kernel_rfl)) (fun _ _ _ _ _ => (dg_name 3 O.nd)) (fun _ _ _ _ _ => (dts_one (dt_chain od_le od_le (de_ix (de_ix (de_var 0) (de_var 3)) de_int) (de_var 2) (de_ix (de_ix (de_var 0) (de_var 3)) de_int)))) (fun _ _ _ _ _ => (de_var 3))) da_nil))))
abbrev s__law_is_under : Stmt := topS 35
theorem sc__law_is_under : FnScope ["thing", "many"] ["thing", "many"] (defScope s__law_is_under) := ⟨rfl, rfl, rfl, by decide +kernel, rfl, by decide +kernel, by decide +kernel⟩
theorem ok__law_is_under (F : Fun K "_law_is_under" "_law_is_under" s__law_is_under f fd) (hm : mg "_law_is_under" = some (.ref f)) (b : L2.Binds K fd ["thing", "many"] []) (T : Tops mg) : DefAt P w K mg base (k + 1) "_law_is_under" 2 m__law_is_under :=
 def_ok F hm b sc__law_is_under fun cdv A outer s H E hr O =>
 (dss_one (ds_ret (de_and (de_isi "int" (by decide) (by rfl) T.b_isinstance (by rfl) T.b_int boot_int (de_var 0) boot_isinstance) (de_and (de_not (de_isi "bool" (by decide) (by rfl) T.b_isinstance (by rfl) T.b_bool boot_bool (de_var 0) boot_isinstance)) (de_one (de_chain od_le od_lt de_int (de_var 0) (de_var 1)))))))
abbrev s__law_is_lot : Stmt := topS 36
theorem sc__law_is_lot : FnScope ["thing", "many", "at", "one"] ["thing", "many"] (defScope s__law_is_lot) := ⟨rfl, rfl, rfl, by decide +kernel, rfl, by decide +kernel, by decide +kernel⟩
theorem ok__law_is_lot (F : Fun K "_law_is_lot" "_law_is_lot" s__law_is_lot f fd) (hm : mg "_law_is_lot" = some (.ref f)) (b : L2.Binds K fd ["thing", "many"] []) (T : Tops mg) (g__law_is_under : DefAt P w K mg base k "_law_is_under" 2 m__law_is_under) : DefAt P w K mg base (k + 1) "_law_is_lot" 2 m__law_is_lot :=
 def_ok F hm b sc__law_is_lot fun cdv A outer s H E hr O =>
 (dss_cons (ds_if (dw_or (dt_not (dt_tru (de_isi "tuple" (by decide) (by rfl) T.b_isinstance (by rfl) T.b_tuple boot_tuple (de_var 0) boot_isinstance))) (dw_or1 (dt_not (dt_tru (de_callB (cd_all O.calm) (by rfl) T.b_all boot_all (da_cons (de_lc  [("one", 3)] O.calm O.nd (di_seq (de_var 0)) (blkOk_by (by kernel_rfl)) (fun _ _ _ _ _ => (dg_name 3 O.nd)) (fun _ _ _ _ _ => dts_nil) (fun _ _ _ _ _ => (de_call O.gd g__law_is_under hr (by rfl) (da_cons (de_var 3) (da_cons (de_var 1) da_nil))))) da_nil)))))).dt
  (dss_one (ds_ret de_bl))
  dss_nil)
 (dss_one (ds_ret (de_callB (cd_all O.calm) (by rfl) T.b_all boot_all (da_cons (de_lc  [("at", 2)] O.calm O.nd (di_range2 (by rfl) T.b_range (da_cons de_int (da_cons (de_callB cd_len (by rfl) T.b_len boot_len (da_cons (de_var 0) da_nil)) da_nil))) (blkOk_by (by kernel_rfl)) (fun _ _ _ _ _ => (dg_name 2 O.nd)) (fun _ _ _ _ _ => dts_nil) (fun _ _ _ _ _ => (de_cmp od_lt (de_ix (de_var 0) (de_op od_sub (de_var 2) de_int)) (de_ix (de_var 0) (de_var 2))))) da_nil)))))
abbrev s__law_judged : Stmt := topS 37
theorem sc__law_judged : FnScope ["spans", "first", "last", "times", "thing", "day"] ["spans", "first", "last", "times", "thing"] (defScope s__law_judged) := ⟨rfl, rfl, rfl, by decide +kernel, rfl, by decide +kernel, by decide +kernel⟩
theorem ok__law_judged (F : Fun K "_law_judged" "_law_judged" s__law_judged f fd) (hm : mg "_law_judged" = some (.ref f)) (b : L2.Binds K fd ["spans", "first", "last", "times", "thing"] []) (T : Tops mg) (g__law_is_lot : DefAt P w K mg base k "_law_is_lot" 2 m__law_is_lot) (g__law_cover : DefAt P w K mg base k "_law_cover" 3 m__law_cover) (g__law_is_under : DefAt P w K mg base k "_law_is_under" 2 m__law_is_under) : DefAt P w K mg base (k + 1) "_law_judged" 5 m__law_judged :=
 def_ok F hm b sc__law_judged fun cdv A outer s H E hr O =>
 (dss_cons (ds_if (dw_or (dt_not (dt_tru (de_isi "tuple" (by decide) (by rfl) T.b_isinstance (by rfl) T.b_tuple boot_tuple (de_var 4) boot_isinstance))) (dw_or (dt_cmp (od_ne (hu64 hr)) (de_callB cd_len (by rfl) T.b_len boot_len (da_cons (de_var 4) da_nil)) de_int) (dw_or1 (dt_not (dt_tru (de_isi "str" (by decide) (by rfl) T.b_isinstance (by rfl) T.b_str boot_str (de_ix (de_var 4) de_int) boot_isinstance)))))).dt
  (dss_one (ds_ret de_bl))
  dss_nil)
 (dss_cons (ds_if (dt_cmp (od_eq (hu64 hr)) (de_ix (de_var 4) de_int) de_str)
  (dss_cons (ds_if (dt_not (dt_tru (de_call O.gd g__law_is_lot hr (by rfl) (da_cons (de_ix (de_var 4) de_int) (da_cons (de_callB cd_len (by rfl) T.b_len boot_len (da_cons (de_var 0) da_nil)) da_nil)))))
  (dss_one (ds_ret de_bl))
  dss_nil)
 (dss_one (ds_ret (de_callB (cd_all O.calm) (by rfl) T.b_all boot_all (da_cons (de_lc  [("day", 5)] O.calm O.nd (di_range2 (by rfl) T.b_range (da_cons (de_var 1) (da_cons (de_op od_add (de_var 2) de_int) da_nil))) (blkOk_by (by kernel_rfl)) (fun _ _ _ _ _ => (dg_name 5 O.nd)) (fun _ _ _ _ _ => dts_nil) (fun _ _ _ _ _ => (de_cmp od_ge (de_call O.gd g__law_cover hr (by rfl) (da_cons (de_var 0) (da_cons (de_ix (de_var 4) de_int) (da_cons (de_var 5) da_nil)))) (de_var 3)))) da_nil)))))
  dss_nil)
 (dss_cons (ds_if (dw_or (dt_cmp (od_ne (hu64 hr)) (de_ix (de_var 4) de_int) de_str) (dw_or (dt_not (dt_tru (de_call O.gd g__law_is_under hr (by rfl) (da_cons (de_ix (de_var 4) de_int) (da_cons (de_op od_add (de_var 2) de_int) da_nil))))) (dw_or1 (dt_cmp od_lt (de_ix (de_var 4) de_int) (de_var 1))))).dt
  (dss_one (ds_ret de_bl))
  dss_nil)
 (dss_one (ds_ret (de_cmp od_lt (de_call O.gd g__law_cover hr (by rfl) (da_cons (de_var 0) (da_cons (de_lstR O.calm (by rfl) T.b_list (dr_1 (by rfl) T.b_range (de_callB cd_len (by rfl) T.b_len boot_len (da_cons (de_var 0) da_nil)))) (da_cons (de_ix (de_var 4) de_int) da_nil)))) (de_var 3)))))))
abbrev s__law_near : Stmt := topS 38
theorem sc__law_near : FnScope ["hand", "spans", "first", "last", "told", "every", "lots", "at", "days", "day", "lot"] ["hand", "spans", "first", "last", "told"] (defScope s__law_near) := ⟨rfl, rfl, rfl, by decide +kernel, rfl, by decide +kernel, by decide +kernel⟩
theorem ok__law_near (F : Fun K "_law_near" "_law_near" s__law_near f fd) (hm : mg "_law_near" = some (.ref f)) (b : L2.Binds K fd ["hand", "spans", "first", "last", "told"] []) (T : Tops mg) (g__law_draw : DefAt P w K mg base k "_law_draw" 2 m__law_draw) : DefAt P w K mg base (k + 1) "_law_near" 5 m__law_near :=
 def_ok F hm b sc__law_near fun cdv A outer s H E hr O =>
 (dss_cons (ds_set 5 O.nd (de_tupR O.calm (by rfl) T.b_tuple (dr_1 (by rfl) T.b_range (de_callB cd_len (by rfl) T.b_len boot_len (da_cons (de_var 1) da_nil)))))
 (dss_cons (ds_set 6 O.nd (de_lst (da_cons (de_var 5) (da_cons (de_slice (de_var 5) (do_some de_int) do_none) (da_cons (de_slice (de_var 5) do_none (do_some (de_neg de_int))) (da_cons (de_callTy cd_tup (by rfl) T.b_tuple boot_tuple (da_cons (de_lc  [("at", 7)] O.calm O.nd (di_seq (de_var 5)) (blkOk_by (by kernel_rfl)) (fun _ _ _ _ _ => (dg_name 7 O.nd)) (fun _ _ _ _ _ => (dts_one (dt_cmp od_gt (de_call O.gd g__law_draw hr (by rfl) (da_cons (de_var 0) (da_cons de_int da_nil))) de_int))) (fun _ _ _ _ _ => (de_var 7))) da_nil)) (da_cons (de_tup da_nil) da_nil)))))))
 (dss_cons (ds_if (dt_cmp (od_eq (hu64 hr)) (de_ix (de_var 4) de_int) de_str)
  (dss_cons (ds_set 7 O.nd (de_call O.gd g__law_draw hr (by rfl) (da_cons (de_var 0) (da_cons (de_op od_add (de_callB cd_len (by rfl) T.b_len boot_len (da_cons (de_ix (de_var 4) de_int) da_nil)) de_int) da_nil))))
 (dss_cons (ds_set 6 O.nd (de_op od_add (de_var 6) (de_lst (da_cons (de_op od_add (de_slice (de_ix (de_var 4) de_int) do_none (do_some (de_var 7))) (de_slice (de_ix (de_var 4) de_int) (do_some (de_op od_add (de_var 7) de_int)) do_none)) (da_cons (de_rev (de_ix (de_var 4) de_int)) (da_cons (de_op od_add (de_ix (de_var 4) de_int) (de_slice (de_ix (de_var 4) de_int) (do_some (de_neg de_int)) do_none)) (da_cons (de_callTy cd_lst (by rfl) T.b_list boot_list (da_cons (de_ix (de_var 4) de_int) da_nil)) da_nil)))))))
 (dss_one (ds_set 6 O.nd (de_op od_add (de_var 6) (de_lst (da_cons (de_callTy cd_tup (by rfl) T.b_tuple boot_tuple (da_cons (de_sortSet O.calm (by rfl) T.b_sorted (by rfl) T.b_set (de_op od_add (de_ix (de_var 4) de_int) (de_tup (da_cons (de_call O.gd g__law_draw hr (by rfl) (da_cons (de_var 0) (da_cons (de_callB cd_len (by rfl) T.b_len boot_len (da_cons (de_var 1) da_nil)) da_nil))) da_nil))) boot_sorted boot_set) da_nil)) (da_cons (de_op od_add (de_ix (de_var 4) de_int) (de_tup (da_cons (de_callB cd_len (by rfl) T.b_len boot_len (da_cons (de_var 1) da_nil)) da_nil))) da_nil))))))))
  dss_nil)
 (dss_cons (ds_set 8 O.nd (de_lst (da_cons (de_var 2) (da_cons (de_var 3) (da_cons (de_op od_sub (de_var 2) de_int) (da_cons (de_op od_add (de_var 3) de_int) (da_cons (de_op od_add (de_var 2) (de_call O.gd g__law_draw hr (by rfl) (da_cons (de_var 0) (da_cons (de_op od_add (de_op od_sub (de_var 3) (de_var 2)) de_int) da_nil)))) (da_cons de_non (da_cons de_bl da_nil)))))))))
 (dss_cons (ds_set 8 O.nd (de_op od_add (de_var 8) (de_if (dt_cmp (od_eq (hu64 hr)) (de_ix (de_var 4) de_int) de_str) (de_lst (da_cons (de_op od_add (de_ix (de_var 4) de_int) de_int) (da_cons (de_op od_sub (de_ix (de_var 4) de_int) de_int) da_nil))) (de_lst da_nil))))
 (dss_one (ds_ret (de_op od_add (de_lc  [("lot", 10)] O.calm O.nd (di_seq (de_var 6)) (blkOk_by (by kernel_rfl)) (fun _ _ _ _ _ => (dg_name 10 O.nd)) (fun _ _ _ _ _ => dts_nil) (fun _ _ _ _ _ => (de_tup (da_cons de_str (da_cons (de_var 10) da_nil))))) (de_lc  [("day", 9)] O.calm O.nd (di_seq (de_var 8)) (blkOk_by (by kernel_rfl)) (fun _ _ _ _ _ => (dg_name 9 O.nd)) (fun _ _ _ _ _ => dts_nil) (fun _ _ _ _ _ => (de_tup (da_cons de_str (da_cons (de_var 9) da_nil)))))))))))))
abbrev s__law_is_right : Stmt := topS 39
theorem sc__law_is_right : FnScope ["hand", "spans", "first", "last", "times", "low", "told", "things", "thing", "due", "day"] ["hand", "spans", "first", "last", "times"] (defScope s__law_is_right) := ⟨rfl, rfl, rfl, by decide +kernel, rfl, by decide +kernel, by decide +kernel⟩
theorem ok__law_is_right (F : Fun K "_law_is_right" "_law_is_right" s__law_is_right f fd) (hm : mg "_law_is_right" = some (.ref f)) (b : L2.Binds K fd ["hand", "spans", "first", "last", "times"] []) (T : Tops mg) (g__law_cover : DefAt P w K mg base k "_law_cover" 3 m__law_cover) (g_cover_paper : DefAt P w K mg base k "cover_paper" 4 m_cover_paper) (g__law_judged : DefAt P w K mg base k "_law_judged" 5 m__law_judged) (g__law_near : DefAt P w K mg base k "_law_near" 5 m__law_near) (g_is_cover_paper : DefAt P w K mg base k "is_cover_paper" 5 m_is_cover_paper) : DefAt P w K mg base (k + 1) "_law_is_right" 5 m__law_is_right :=
 def_ok F hm b sc__law_is_right fun cdv A outer s H E hr O =>
 (dss_cons (ds_setLc 5 [("day", 10)] O.calm O.nd (di_range2 (by rfl) T.b_range (da_cons (de_var 2) (da_cons (de_op od_add (de_var 3) de_int) da_nil))) (blkOk_by (by kernel_rfl)) (fun _ _ _ _ _ => (dg_name 10 O.nd)) (fun _ _ _ _ _ => (dts_one (dt_cmp od_lt (de_call O.gd g__law_cover hr (by rfl) (da_cons (de_var 1) (da_cons (de_lstR O.calm (by rfl) T.b_list (dr_1 (by rfl) T.b_range (de_callB cd_len (by rfl) T.b_len boot_len (da_cons (de_var 1) da_nil)))) (da_cons (de_var 10) da_nil)))) (de_var 4)))) (fun _ _ _ _ _ => (de_var 10)) (by exact sw_true rfl rfl rfl (by decide +kernel)))
 (dss_cons (ds_set 6 O.nd (de_call O.gd g_cover_paper hr (by rfl) (da_cons (de_var 1) (da_cons (de_var 2) (da_cons (de_var 3) (da_cons (de_var 4) da_nil))))))
 (dss_cons (ds_if (dw_or (dt_cmp (od_ne (hu64 hr)) (de_ix (de_var 6) de_int) (de_if (dt_cmp (od_eq (hu64 hr)) (de_var 5) (de_lst da_nil)) de_str de_str)) (dw_or1 (dt_not (dt_tru (de_call O.gd g__law_judged hr (by rfl) (da_cons (de_var 1) (da_cons (de_var 2) (da_cons (de_var 3) (da_cons (de_var 4) (da_cons (de_var 6) da_nil)))))))))).dt
  (dss_one (ds_ret de_bl))
  dss_nil)
 (dss_cons (ds_if (dw_and (dt_cmp (od_ne (hu64 hr)) (de_var 5) (de_lst da_nil)) (dw_and1 (dt_cmp (od_ne (hu64 hr)) (de_ix (de_var 6) de_int) (de_ix (de_var 5) de_int)))).dt
  (dss_one (ds_ret de_bl))
  dss_nil)
 (dss_cons (ds_set 7 O.nd (de_lst (da_cons (de_var 6) (da_cons (de_callTy cd_lst (by rfl) T.b_list boot_list (da_cons (de_var 6) da_nil)) (da_cons (de_op od_add (de_var 6) (de_tup (da_cons de_int da_nil))) (da_cons (de_slice (de_var 6) do_none (do_some de_int)) (da_cons (de_tup (da_cons (de_ix (de_var 6) de_int) (da_cons (de_ix (de_var 6) de_int) da_nil))) (da_cons de_non (da_cons (de_tup da_nil) (da_cons de_str (da_cons (de_tup (da_cons de_str (da_cons (de_ix (de_var 6) de_int) da_nil))) da_nil)))))))))))
 (dss_cons (ds_for O (di_seq (de_op od_add (de_var 7) (de_call O.gd g__law_near hr (by rfl) (da_cons (de_var 0) (da_cons (de_var 1) (da_cons (de_var 2) (da_cons (de_var 3) (da_cons (de_var 6) da_nil)))))))) (dg_name 8 O.nd)
  (dss_cons (ds_set 9 O.nd (de_call O.gd g__law_judged hr (by rfl) (da_cons (de_var 1) (da_cons (de_var 2) (da_cons (de_var 3) (da_cons (de_var 4) (da_cons (de_var 8) da_nil)))))))
 (dss_one (ds_if (dt_cmp (od_ne (hu64 hr)) (de_callB (cd_repr O.gd (hu64 hr)) (by rfl) T.b_repr boot_repr (da_cons (de_call O.gd g_is_cover_paper hr (by rfl) (da_cons (de_var 1) (da_cons (de_var 2) (da_cons (de_var 3) (da_cons (de_var 4) (da_cons (de_var 8) da_nil)))))) da_nil)) (de_callB (cd_repr O.gd (hu64 hr)) (by rfl) T.b_repr boot_repr (da_cons (de_var 9) da_nil)))
  (dss_one (ds_ret de_bl))
  dss_nil))))
 (dss_one (ds_ret de_bl))))))))
abbrev s_law : Stmt := topS 40
theorem sc_law : FnScope ["script", "hand", "turn", "spans", "first", "last", "times"] ["script"] (defScope s_law) := ⟨rfl, rfl, rfl, by decide +kernel, rfl, by decide +kernel, by decide +kernel⟩
theorem fn_law (F : Fun K "law" "law" s_law f fd) (T : Tops mg) (g__law_hand : DefAt P w K mg base k "_law_hand" 1 m__law_hand) (g_cover_paper : DefAt P w K mg base k "cover_paper" 4 m_cover_paper) (g__law_case : DefAt P w K mg base k "_law_case" 2 m__law_case) (g__law_draw : DefAt P w K mg base k "_law_draw" 2 m__law_draw) (g__law_is_right : DefAt P w K mg base k "_law_is_right" 5 m__law_is_right) : FnG P w K mg base (k + 1) f fd ["script"] (spD K mg 1 m_law) :=
 def_fn F sc_law fun cdv A outer s H E hr O =>
 (dss_cons (ds_set 1 O.nd (de_call O.gd g__law_hand hr (by rfl) (da_cons (de_var 0) da_nil)))
 (dss_cons (ds_if (dw_or (dt_cmp (od_ne (hu64 hr)) (de_call O.gd g_cover_paper hr (by rfl) (da_cons (de_tup da_nil) (da_cons de_int (da_cons de_int (da_cons de_int da_nil))))) (de_tup (da_cons de_str (da_cons de_int da_nil)))) (dw_or1 (dt_cmp (od_ne (hu64 hr)) (de_call O.gd g_cover_paper hr (by rfl) (da_cons (de_tup (da_cons (de_tup (da_cons de_int (da_cons de_int da_nil))) da_nil)) (da_cons de_int (da_cons de_int (da_cons de_int da_nil))))) (de_tup (da_cons de_str (da_cons (de_tup (da_cons de_int da_nil)) da_nil)))))).dt
  (dss_one (ds_ret de_bl))
  dss_nil)
 (dss_cons (ds_for O (di_range1 (by rfl) T.b_range (da_cons de_int da_nil)) (dg_name 2 O.nd)
  (dss_cons (ds_asg (de_call O.gd g__law_case hr (by rfl) (da_cons (de_var 1) (da_cons de_int da_nil))) (dg_tup O.calm (dgs_cons (dg_name 3 O.nd) (dgs_cons (dg_name 4 O.nd) (dgs_cons (dg_name 5 O.nd) dgs_nil)))))
 (dss_one (ds_for O (di_seq (de_tup (da_cons de_int (da_cons (de_op od_add de_int (de_call O.gd g__law_draw hr (by rfl) (da_cons (de_var 1) (da_cons de_int da_nil)))) da_nil)))) (dg_name 6 O.nd)
  (dss_one (ds_if (dt_not (dt_tru (de_call O.gd g__law_is_right hr (by rfl) (da_cons (de_var 1) (da_cons (de_var 3) (da_cons (de_var 4) (da_cons (de_var 5) (da_cons (de_var 6) da_nil))))))))
  (dss_one (ds_ret de_bl))
  dss_nil))))))
 (dss_one (ds_ret de_bl)))))
end
end K64

set_option Elab.async false
set_option linter.all false
set_option maxRecDepth 100000
set_option maxHeartbeats 4000000
namespace K64
open PySem PySem.Spec PyProof.Rows L2 Dn
theorem all_mk {l : PySem.W.OpenLaw} {w : World} {K : PySem.W.Frag} {h : Heap} {mg : Str → Option Value} {fa f1 f2 f3 f4 f5 f6 f7 f8 f9 f10 f11 f12 f13 f14 f15 f16 f17 f18 f19 f20 f21 f22 f23 f24 f25 f26 f27 : Addr} (X : K.In h) (G : h.Ns mainGlobals mg) (hfa : mg "law" = some (.ref fa))
    {od1 an1 od2 an2 od3 an3 od4 an4 od5 an5 od6 an6 od7 an7 od8 an8 od9 an9 od10 an10 od11 an11 od12 an12 od13 an13 od14 an14 od15 an15 od16 an16 od17 an17 od18 an18 od19 an19 od20 an20 od21 an21 od22 an22 od23 an23 od24 an24 od25 an25 od26 an26 od27 an27 : Option Addr} {sl1 sl2 sl3 sl4 sl5 sl6 sl7 sl8 sl9 sl10 sl11 sl12 sl13 sl14 sl15 sl16 sl17 sl18 sl19 sl20 sl21 sl22 sl23 sl24 sl25 sl26 sl27 : Array (Option Value)} {oc1 kV1 dc1 pm1 cd1 ct1 oc2 kV2 dc2 pm2 cd2 ct2 oc3 kV3 dc3 pm3 cd3 ct3 oc4 kV4 dc4 pm4 cd4 ct4 oc5 kV5 dc5 pm5 cd5 ct5 oc6 kV6 dc6 pm6 cd6 ct6 oc7 kV7 dc7 pm7 cd7 ct7 oc8 kV8 dc8 pm8 cd8 ct8 oc9 kV9 dc9 pm9 cd9 ct9 oc10 kV10 dc10 pm10 cd10 ct10 oc11 kV11 dc11 pm11 cd11 ct11 oc12 kV12 dc12 pm12 cd12 ct12 oc13 kV13 dc13 pm13 cd13 ct13 oc14 kV14 dc14 pm14 cd14 ct14 oc15 kV15 dc15 pm15 cd15 ct15 oc16 kV16 dc16 pm16 cd16 ct16 oc17 kV17 dc17 pm17 cd17 ct17 oc18 kV18 dc18 pm18 cd18 ct18 oc19 kV19 dc19 pm19 cd19 ct19 oc20 kV20 dc20 pm20 cd20 ct20 oc21 kV21 dc21 pm21 cd21 ct21 oc22 kV22 dc22 pm22 cd22 ct22 oc23 kV23 dc23 pm23 cd23 ct23 oc24 kV24 dc24 pm24 cd24 ct24 oc25 kV25 dc25 pm25 cd25 ct25 oc26 kV26 dc26 pm26 cd26 ct26 oc27 kV27 dc27 pm27 cd27 ct27 : Value} {t1 t2 t3 t4 t5 : Tok}
    (a1 : PySem.W.nsIn K mainGlobals "is_integer" = some (some (.ref f1))) (l1 : K.lookup f1 = some ⟨oc1, od1, .func (PySem.W.fnOf "is_integer" "is_integer" (defArgs s_is_integer) (defBody s_is_integer) (defScope s_is_integer) .none kV1 dc1 pm1 an1 cd1 ct1), sl1⟩) (c1 : PySem.W.codeIn K cd1 "is_integer" = true) (k1 : PySem.W.keepIn K (.ref f1) = true)
    (a2 : PySem.W.nsIn K mainGlobals "is_between" = some (some (.ref f2))) (l2 : K.lookup f2 = some ⟨oc2, od2, .func (PySem.W.fnOf "is_between" "is_between" (defArgs s_is_between) (defBody s_is_between) (defScope s_is_between) .none kV2 dc2 pm2 an2 cd2 ct2), sl2⟩) (c2 : PySem.W.codeIn K cd2 "is_between" = true) (k2 : PySem.W.keepIn K (.ref f2) = true)
    (a3 : PySem.W.nsIn K mainGlobals "is_under" = some (some (.ref f3))) (l3 : K.lookup f3 = some ⟨oc3, od3, .func (PySem.W.fnOf "is_under" "is_under" (defArgs s_is_under) (defBody s_is_under) (defScope s_is_under) .none kV3 dc3 pm3 an3 cd3 ct3), sl3⟩) (c3 : PySem.W.codeIn K cd3 "is_under" = true) (k3 : PySem.W.keepIn K (.ref f3) = true)
    (a4 : PySem.W.nsIn K mainGlobals "is_tuple_of" = some (some (.ref f4))) (l4 : K.lookup f4 = some ⟨oc4, od4, .func (PySem.W.fnOf "is_tuple_of" "is_tuple_of" (defArgs s_is_tuple_of) (defBody s_is_tuple_of) (defScope s_is_tuple_of) .none kV4 dc4 pm4 an4 cd4 ct4), sl4⟩) (c4 : PySem.W.codeIn K cd4 "is_tuple_of" = true) (k4 : PySem.W.keepIn K (.ref f4) = true)
    (a5 : PySem.W.nsIn K mainGlobals "are_under" = some (some (.ref f5))) (l5 : K.lookup f5 = some ⟨oc5, od5, .func (PySem.W.fnOf "are_under" "are_under" (defArgs s_are_under) (defBody s_are_under) (defScope s_are_under) .none kV5 dc5 pm5 an5 cd5 ct5), sl5⟩) (c5 : PySem.W.codeIn K cd5 "are_under" = true) (k5 : PySem.W.keepIn K (.ref f5) = true)
    (a6 : PySem.W.nsIn K mainGlobals "is_lot" = some (some (.ref f6))) (l6 : K.lookup f6 = some ⟨oc6, od6, .func (PySem.W.fnOf "is_lot" "is_lot" (defArgs s_is_lot) (defBody s_is_lot) (defScope s_is_lot) .none kV6 dc6 pm6 an6 cd6 ct6), sl6⟩) (c6 : PySem.W.codeIn K cd6 "is_lot" = true) (k6 : PySem.W.keepIn K (.ref f6) = true)
    (a7 : PySem.W.nsIn K mainGlobals "is_day" = some (some (.ref f7))) (l7 : K.lookup f7 = some ⟨oc7, od7, .func (PySem.W.fnOf "is_day" "is_day" (defArgs s_is_day) (defBody s_is_day) (defScope s_is_day) .none kV7 dc7 pm7 an7 cd7 ct7), sl7⟩) (c7 : PySem.W.codeIn K cd7 "is_day" = true) (k7 : PySem.W.keepIn K (.ref f7) = true)
    (a8 : PySem.W.nsIn K mainGlobals "need_days" = some (some (.ref f8))) (l8 : K.lookup f8 = some ⟨oc8, od8, .func (PySem.W.fnOf "need_days" "need_days" (defArgs s_need_days) (defBody s_need_days) (defScope s_need_days) .none kV8 dc8 pm8 an8 cd8 ct8), sl8⟩) (c8 : PySem.W.codeIn K cd8 "need_days" = true) (k8 : PySem.W.keepIn K (.ref f8) = true)
    (a9 : PySem.W.nsIn K mainGlobals "is_stretch" = some (some (.ref f9))) (l9 : K.lookup f9 = some ⟨oc9, od9, .func (PySem.W.fnOf "is_stretch" "is_stretch" (defArgs s_is_stretch) (defBody s_is_stretch) (defScope s_is_stretch) .none kV9 dc9 pm9 an9 cd9 ct9), sl9⟩) (c9 : PySem.W.codeIn K cd9 "is_stretch" = true) (k9 : PySem.W.keepIn K (.ref f9) = true)
    (a10 : PySem.W.nsIn K mainGlobals "need_spans" = some (some (.ref f10))) (l10 : K.lookup f10 = some ⟨oc10, od10, .func (PySem.W.fnOf "need_spans" "need_spans" (defArgs s_need_spans) (defBody s_need_spans) (defScope s_need_spans) .none kV10 dc10 pm10 an10 cd10 ct10), sl10⟩) (c10 : PySem.W.codeIn K cd10 "need_spans" = true) (k10 : PySem.W.keepIn K (.ref f10) = true)
    (a11 : PySem.W.nsIn K mainGlobals "need_times" = some (some (.ref f11))) (l11 : K.lookup f11 = some ⟨oc11, od11, .func (PySem.W.fnOf "need_times" "need_times" (defArgs s_need_times) (defBody s_need_times) (defScope s_need_times) .none kV11 dc11 pm11 an11 cd11 ct11), sl11⟩) (c11 : PySem.W.codeIn K cd11 "need_times" = true) (k11 : PySem.W.keepIn K (.ref f11) = true)
    (a12 : PySem.W.nsIn K mainGlobals "raw_on" = some (some (.ref f12))) (l12 : K.lookup f12 = some ⟨oc12, od12, .func (PySem.W.fnOf "raw_on" "raw_on" (defArgs s_raw_on) (defBody s_raw_on) (defScope s_raw_on) .none kV12 dc12 pm12 an12 cd12 ct12), sl12⟩) (c12 : PySem.W.codeIn K cd12 "raw_on" = true) (k12 : PySem.W.keepIn K (.ref f12) = true)
    (a13 : PySem.W.nsIn K mainGlobals "first_bare" = some (some (.ref f13))) (l13 : K.lookup f13 = some ⟨oc13, od13, .func (PySem.W.fnOf "first_bare" "first_bare" (defArgs s_first_bare) (defBody s_first_bare) (defScope s_first_bare) .none kV13 dc13 pm13 an13 cd13 ct13), sl13⟩) (c13 : PySem.W.codeIn K cd13 "first_bare" = true) (k13 : PySem.W.keepIn K (.ref f13) = true)
    (a14 : PySem.W.nsIn K mainGlobals "all_of" = some (some (.ref f14))) (l14 : K.lookup f14 = some ⟨oc14, od14, .func (PySem.W.fnOf "all_of" "all_of" (defArgs s_all_of) (defBody s_all_of) (defScope s_all_of) .none kV14 dc14 pm14 an14 cd14 ct14), sl14⟩) (c14 : PySem.W.codeIn K cd14 "all_of" = true) (k14 : PySem.W.keepIn K (.ref f14) = true)
    (a15 : PySem.W.nsIn K mainGlobals "cover_paper" = some (some (.ref f15))) (l15 : K.lookup f15 = some ⟨oc15, od15, .func (PySem.W.fnOf "cover_paper" "cover_paper" (defArgs s_cover_paper) (defBody s_cover_paper) (defScope s_cover_paper) .none kV15 dc15 pm15 an15 cd15 ct15), sl15⟩) (c15 : PySem.W.codeIn K cd15 "cover_paper" = true) (k15 : PySem.W.keepIn K (.ref f15) = true)
    (a16 : PySem.W.nsIn K mainGlobals "is_cover_paper" = some (some (.ref f16))) (l16 : K.lookup f16 = some ⟨oc16, od16, .func (PySem.W.fnOf "is_cover_paper" "is_cover_paper" (defArgs s_is_cover_paper) (defBody s_is_cover_paper) (defScope s_is_cover_paper) .none kV16 dc16 pm16 an16 cd16 ct16), sl16⟩) (c16 : PySem.W.codeIn K cd16 "is_cover_paper" = true) (k16 : PySem.W.keepIn K (.ref f16) = true)
    (a17 : PySem.W.nsIn K mainGlobals "_law_hand" = some (some (.ref f17))) (l17 : K.lookup f17 = some ⟨oc17, od17, .func (PySem.W.fnOf "_law_hand" "_law_hand" (defArgs s__law_hand) (defBody s__law_hand) (defScope s__law_hand) .none kV17 dc17 pm17 an17 cd17 ct17), sl17⟩) (c17 : PySem.W.codeIn K cd17 "_law_hand" = true) (k17 : PySem.W.keepIn K (.ref f17) = true)
    (a18 : PySem.W.nsIn K mainGlobals "_law_draw" = some (some (.ref f18))) (l18 : K.lookup f18 = some ⟨oc18, od18, .func (PySem.W.fnOf "_law_draw" "_law_draw" (defArgs s__law_draw) (defBody s__law_draw) (defScope s__law_draw) .none kV18 dc18 pm18 an18 cd18 ct18), sl18⟩) (c18 : PySem.W.codeIn K cd18 "_law_draw" = true) (k18 : PySem.W.keepIn K (.ref f18) = true)
    (a19 : PySem.W.nsIn K mainGlobals "_law_any" = some (some (.ref f19))) (l19 : K.lookup f19 = some ⟨oc19, od19, .func (PySem.W.fnOf "_law_any" "_law_any" (defArgs s__law_any) (defBody s__law_any) (defScope s__law_any) .none kV19 dc19 pm19 an19 cd19 ct19), sl19⟩) (c19 : PySem.W.codeIn K cd19 "_law_any" = true) (k19 : PySem.W.keepIn K (.ref f19) = true)
    (a20 : PySem.W.nsIn K mainGlobals "_law_case" = some (some (.ref f20))) (l20 : K.lookup f20 = some ⟨oc20, od20, .func (PySem.W.fnOf "_law_case" "_law_case" (defArgs s__law_case) (defBody s__law_case) (defScope s__law_case) .none kV20 dc20 pm20 an20 cd20 ct20), sl20⟩) (c20 : PySem.W.codeIn K cd20 "_law_case" = true) (k20 : PySem.W.keepIn K (.ref f20) = true)
    (a21 : PySem.W.nsIn K mainGlobals "_law_cover" = some (some (.ref f21))) (l21 : K.lookup f21 = some ⟨oc21, od21, .func (PySem.W.fnOf "_law_cover" "_law_cover" (defArgs s__law_cover) (defBody s__law_cover) (defScope s__law_cover) .none kV21 dc21 pm21 an21 cd21 ct21), sl21⟩) (c21 : PySem.W.codeIn K cd21 "_law_cover" = true) (k21 : PySem.W.keepIn K (.ref f21) = true)
    (a22 : PySem.W.nsIn K mainGlobals "_law_is_under" = some (some (.ref f22))) (l22 : K.lookup f22 = some ⟨oc22, od22, .func (PySem.W.fnOf "_law_is_under" "_law_is_under" (defArgs s__law_is_under) (defBody s__law_is_under) (defScope s__law_is_under) .none kV22 dc22 pm22 an22 cd22 ct22), sl22⟩) (c22 : PySem.W.codeIn K cd22 "_law_is_under" = true) (k22 : PySem.W.keepIn K (.ref f22) = true)
    (a23 : PySem.W.nsIn K mainGlobals "_law_is_lot" = some (some (.ref f23))) (l23 : K.lookup f23 = some ⟨oc23, od23, .func (PySem.W.fnOf "_law_is_lot" "_law_is_lot" (defArgs s__law_is_lot) (defBody s__law_is_lot) (defScope s__law_is_lot) .none kV23 dc23 pm23 an23 cd23 ct23), sl23⟩) (c23 : PySem.W.codeIn K cd23 "_law_is_lot" = true) (k23 : PySem.W.keepIn K (.ref f23) = true)
    (a24 : PySem.W.nsIn K mainGlobals "_law_judged" = some (some (.ref f24))) (l24 : K.lookup f24 = some ⟨oc24, od24, .func (PySem.W.fnOf "_law_judged" "_law_judged" (defArgs s__law_judged) (defBody s__law_judged) (defScope s__law_judged) .none kV24 dc24 pm24 an24 cd24 ct24), sl24⟩) (c24 : PySem.W.codeIn K cd24 "_law_judged" = true) (k24 : PySem.W.keepIn K (.ref f24) = true)
    (a25 : PySem.W.nsIn K mainGlobals "_law_near" = some (some (.ref f25))) (l25 : K.lookup f25 = some ⟨oc25, od25, .func (PySem.W.fnOf "_law_near" "_law_near" (defArgs s__law_near) (defBody s__law_near) (defScope s__law_near) .none kV25 dc25 pm25 an25 cd25 ct25), sl25⟩) (c25 : PySem.W.codeIn K cd25 "_law_near" = true) (k25 : PySem.W.keepIn K (.ref f25) = true)
    (a26 : PySem.W.nsIn K mainGlobals "_law_is_right" = some (some (.ref f26))) (l26 : K.lookup f26 = some ⟨oc26, od26, .func (PySem.W.fnOf "_law_is_right" "_law_is_right" (defArgs s__law_is_right) (defBody s__law_is_right) (defScope s__law_is_right) .none kV26 dc26 pm26 an26 cd26 ct26), sl26⟩) (c26 : PySem.W.codeIn K cd26 "_law_is_right" = true) (k26 : PySem.W.keepIn K (.ref f26) = true)
    (a27 : PySem.W.nsIn K mainGlobals "law" = some (some (.ref f27))) (l27 : K.lookup f27 = some ⟨oc27, od27, .func (PySem.W.fnOf "law" "law" (defArgs s_law) (defBody s_law) (defScope s_law) .none kV27 dc27 pm27 an27 cd27 ct27), sl27⟩) (c27 : PySem.W.codeIn K cd27 "law" = true) (k27 : PySem.W.keepIn K (.ref f27) = true)
    (z1 : PySem.W.nsIn K mainGlobals "abs" = some none)    (z2 : PySem.W.nsIn K mainGlobals "all" = some none)    (z3 : PySem.W.nsIn K mainGlobals "bool" = some none)    (z4 : PySem.W.nsIn K mainGlobals "enumerate" = some none)    (z5 : PySem.W.nsIn K mainGlobals "int" = some none)    (z6 : PySem.W.nsIn K mainGlobals "isinstance" = some none)    (z7 : PySem.W.nsIn K mainGlobals "len" = some none)    (z8 : PySem.W.nsIn K mainGlobals "list" = some none)    (z9 : PySem.W.nsIn K mainGlobals "max" = some none)    (z10 : PySem.W.nsIn K mainGlobals "min" = some none)    (z11 : PySem.W.nsIn K mainGlobals "range" = some none)    (z12 : PySem.W.nsIn K mainGlobals "repr" = some none)    (z13 : PySem.W.nsIn K mainGlobals "set" = some none)    (z14 : PySem.W.nsIn K mainGlobals "sorted" = some none)    (z15 : PySem.W.nsIn K mainGlobals "str" = some none)    (z16 : PySem.W.nsIn K mainGlobals "tuple" = some none)
    (y1 : PySem.W.nsIn K mainGlobals "COVER" = some (some (.str "cover" t1)))    (y2 : PySem.W.nsIn K mainGlobals "DAY" = some (some (.str "day" t2)))    (y3 : PySem.W.nsIn K mainGlobals "LAST_DAY" = some (some (.int 400 t3)))    (y4 : PySem.W.nsIn K mainGlobals "MOST_SPANS" = some (some (.int 20 t4)))    (y5 : PySem.W.nsIn K mainGlobals "MOST_TIMES" = some (some (.int 3 t5)))
    (hl : ∀ ns : List Int, ns.length ≤ 63 → ∃ h, m_law [.scr (ns.map D.int)] [] = .ok (.bl true) h) :
    ∃ fd : FuncData, (∀ (s : Shared) (v : Value), BindsTo s fd ⟨[v], []⟩ [("script", v)]) ∧ ∀ base : Heap, K.In base → base.Ns mainGlobals mg → FnG l.prog w K mg base 8 fa fd ["script"] (spLaw K 63) := by
  have e := hfa.symm.trans (PySem.W.mg_of X G a27)
  cases e
  have F1 := fun_mk (st := s_is_integer) l1 c1 k1
  have F2 := fun_mk (st := s_is_between) l2 c2 k2
  have F3 := fun_mk (st := s_is_under) l3 c3 k3
  have F4 := fun_mk (st := s_is_tuple_of) l4 c4 k4
  have F5 := fun_mk (st := s_are_under) l5 c5 k5
  have F6 := fun_mk (st := s_is_lot) l6 c6 k6
  have F7 := fun_mk (st := s_is_day) l7 c7 k7
  have F8 := fun_mk (st := s_need_days) l8 c8 k8
  have F9 := fun_mk (st := s_is_stretch) l9 c9 k9
  have F10 := fun_mk (st := s_need_spans) l10 c10 k10
  have F11 := fun_mk (st := s_need_times) l11 c11 k11
  have F12 := fun_mk (st := s_raw_on) l12 c12 k12
  have F13 := fun_mk (st := s_first_bare) l13 c13 k13
  have F14 := fun_mk (st := s_all_of) l14 c14 k14
  have F15 := fun_mk (st := s_cover_paper) l15 c15 k15
  have F16 := fun_mk (st := s_is_cover_paper) l16 c16 k16
  have F17 := fun_mk (st := s__law_hand) l17 c17 k17
  have F18 := fun_mk (st := s__law_draw) l18 c18 k18
  have F19 := fun_mk (st := s__law_any) l19 c19 k19
  have F20 := fun_mk (st := s__law_case) l20 c20 k20
  have F21 := fun_mk (st := s__law_cover) l21 c21 k21
  have F22 := fun_mk (st := s__law_is_under) l22 c22 k22
  have F23 := fun_mk (st := s__law_is_lot) l23 c23 k23
  have F24 := fun_mk (st := s__law_judged) l24 c24 k24
  have F25 := fun_mk (st := s__law_near) l25 c25 k25
  have F26 := fun_mk (st := s__law_is_right) l26 c26 k26
  have F27 := fun_mk (st := s_law) l27 c27 k27
  have b1 := F1.binds (ps := ["thing"]) fun _ _ _ _ _ _ us hl => match us, hl with | [_], _ => rfl
  have b2 := F2.binds (ps := ["thing", "least", "most"]) fun _ _ _ _ _ _ us hl => match us, hl with | [_, _, _], _ => rfl
  have b3 := F3.binds (ps := ["thing", "many"]) fun _ _ _ _ _ _ us hl => match us, hl with | [_, _], _ => rfl
  have b4 := F4.binds (ps := ["thing", "many"]) fun _ _ _ _ _ _ us hl => match us, hl with | [_, _], _ => rfl
  have b5 := F5.binds (ps := ["thing", "many"]) fun _ _ _ _ _ _ us hl => match us, hl with | [_, _], _ => rfl
  have b6 := F6.binds (ps := ["thing", "many"]) fun _ _ _ _ _ _ us hl => match us, hl with | [_, _], _ => rfl
  have b7 := F7.binds (ps := ["thing"]) fun _ _ _ _ _ _ us hl => match us, hl with | [_], _ => rfl
  have b8 := F8.binds (ps := ["first", "last"]) fun _ _ _ _ _ _ us hl => match us, hl with | [_, _], _ => rfl
  have b9 := F9.binds (ps := ["thing"]) fun _ _ _ _ _ _ us hl => match us, hl with | [_], _ => rfl
  have b10 := F10.binds (ps := ["thing"]) fun _ _ _ _ _ _ us hl => match us, hl with | [_], _ => rfl
  have b11 := F11.binds (ps := ["thing"]) fun _ _ _ _ _ _ us hl => match us, hl with | [_], _ => rfl
  have b12 := F12.binds (ps := ["spans", "day"]) fun _ _ _ _ _ _ us hl => match us, hl with | [_, _], _ => rfl
  have b13 := F13.binds (ps := ["spans", "lot", "first", "last", "times"]) fun _ _ _ _ _ _ us hl => match us, hl with | [_, _, _, _, _], _ => rfl
  have b14 := F14.binds (ps := ["spans"]) fun _ _ _ _ _ _ us hl => match us, hl with | [_], _ => rfl
  have b15 := F15.binds (ps := ["spans", "first", "last", "times"]) fun _ _ _ _ _ _ us hl => match us, hl with | [_, _, _, _], _ => rfl
  have b16 := F16.binds (ps := ["spans", "first", "last", "times", "thing"]) fun _ _ _ _ _ _ us hl => match us, hl with | [_, _, _, _, _], _ => rfl
  have b17 := F17.binds (ps := ["script"]) fun _ _ _ _ _ _ us hl => match us, hl with | [_], _ => rfl
  have b18 := F18.binds (ps := ["hand", "many"]) fun _ _ _ _ _ _ us hl => match us, hl with | [_, _], _ => rfl
  have b19 := F19.binds (ps := ["hand", "some"]) fun _ _ _ _ _ _ us hl => match us, hl with | [_, _], _ => rfl
  have b20 := F20.binds (ps := ["hand", "most"]) fun _ _ _ _ _ _ us hl => match us, hl with | [_, _], _ => rfl
  have b21 := F21.binds (ps := ["spans", "lot", "day"]) fun _ _ _ _ _ _ us hl => match us, hl with | [_, _, _], _ => rfl
  have b22 := F22.binds (ps := ["thing", "many"]) fun _ _ _ _ _ _ us hl => match us, hl with | [_, _], _ => rfl
  have b23 := F23.binds (ps := ["thing", "many"]) fun _ _ _ _ _ _ us hl => match us, hl with | [_, _], _ => rfl
  have b24 := F24.binds (ps := ["spans", "first", "last", "times", "thing"]) fun _ _ _ _ _ _ us hl => match us, hl with | [_, _, _, _, _], _ => rfl
  have b25 := F25.binds (ps := ["hand", "spans", "first", "last", "told"]) fun _ _ _ _ _ _ us hl => match us, hl with | [_, _, _, _, _], _ => rfl
  have b26 := F26.binds (ps := ["hand", "spans", "first", "last", "times"]) fun _ _ _ _ _ _ us hl => match us, hl with | [_, _, _, _, _], _ => rfl
  have T : Tops mg := ⟨PySem.W.mg_none_of X G z1, PySem.W.mg_none_of X G z2, PySem.W.mg_none_of X G z3, PySem.W.mg_none_of X G z4, PySem.W.mg_none_of X G z5, PySem.W.mg_none_of X G z6, PySem.W.mg_none_of X G z7, PySem.W.mg_none_of X G z8, PySem.W.mg_none_of X G z9, PySem.W.mg_none_of X G z10, PySem.W.mg_none_of X G z11, PySem.W.mg_none_of X G z12, PySem.W.mg_none_of X G z13, PySem.W.mg_none_of X G z14, PySem.W.mg_none_of X G z15, PySem.W.mg_none_of X G z16, ⟨t1, PySem.W.mg_of X G y1⟩, ⟨t2, PySem.W.mg_of X G y2⟩, ⟨t3, PySem.W.mg_of X G y3⟩, ⟨t4, PySem.W.mg_of X G y4⟩, ⟨t5, PySem.W.mg_of X G y5⟩⟩
  refine ⟨PySem.W.fnOf "law" "law" (defArgs s_law) (defBody s_law) (defScope s_law) .none kV27 dc27 pm27 an27 cd27 ct27, fun s v => .of_eq rfl, fun base _ _ => law_imp ?_ hl⟩
  have g_is_integer : DefAt l.prog w K mg base 1 "is_integer" 1 m_is_integer := ok_is_integer F1 (PySem.W.mg_of X G a1) b1 T 
  have g_is_between : DefAt l.prog w K mg base 2 "is_between" 3 m_is_between := ok_is_between F2 (PySem.W.mg_of X G a2) b2 T (g_is_integer.mono (by decide))
  have g_is_under : DefAt l.prog w K mg base 2 "is_under" 2 m_is_under := ok_is_under F3 (PySem.W.mg_of X G a3) b3 T (g_is_integer.mono (by decide))
  have g_is_tuple_of : DefAt l.prog w K mg base 1 "is_tuple_of" 2 m_is_tuple_of := ok_is_tuple_of F4 (PySem.W.mg_of X G a4) b4 T 
  have g_are_under : DefAt l.prog w K mg base 3 "are_under" 2 m_are_under := ok_are_under F5 (PySem.W.mg_of X G a5) b5 T (g_is_under.mono (by decide))
  have g_is_lot : DefAt l.prog w K mg base 4 "is_lot" 2 m_is_lot := ok_is_lot F6 (PySem.W.mg_of X G a6) b6 T (g_are_under.mono (by decide))
  have g_is_day : DefAt l.prog w K mg base 3 "is_day" 1 m_is_day := ok_is_day F7 (PySem.W.mg_of X G a7) b7 T (g_is_between.mono (by decide))
  have g_need_days : DefAt l.prog w K mg base 4 "need_days" 2 m_need_days := ok_need_days F8 (PySem.W.mg_of X G a8) b8 T (g_is_day.mono (by decide))
  have g_is_stretch : DefAt l.prog w K mg base 4 "is_stretch" 1 m_is_stretch := ok_is_stretch F9 (PySem.W.mg_of X G a9) b9 T (g_is_tuple_of.mono (by decide)) (g_is_day.mono (by decide))
  have g_need_spans : DefAt l.prog w K mg base 5 "need_spans" 1 m_need_spans := ok_need_spans F10 (PySem.W.mg_of X G a10) b10 T (g_is_stretch.mono (by decide))
  have g_need_times : DefAt l.prog w K mg base 3 "need_times" 1 m_need_times := ok_need_times F11 (PySem.W.mg_of X G a11) b11 T (g_is_between.mono (by decide))
  have g_raw_on : DefAt l.prog w K mg base 1 "raw_on" 2 m_raw_on := ok_raw_on F12 (PySem.W.mg_of X G a12) b12 T 
  have g_first_bare : DefAt l.prog w K mg base 2 "first_bare" 5 m_first_bare := ok_first_bare F13 (PySem.W.mg_of X G a13) b13 T (g_raw_on.mono (by decide))
  have g_all_of : DefAt l.prog w K mg base 1 "all_of" 1 m_all_of := ok_all_of F14 (PySem.W.mg_of X G a14) b14 T 
  have g_cover_paper : DefAt l.prog w K mg base 6 "cover_paper" 4 m_cover_paper := ok_cover_paper F15 (PySem.W.mg_of X G a15) b15 T (g_need_spans.mono (by decide)) (g_need_days.mono (by decide)) (g_need_times.mono (by decide)) (g_first_bare.mono (by decide)) (g_all_of.mono (by decide))
  have g_is_cover_paper : DefAt l.prog w K mg base 6 "is_cover_paper" 5 m_is_cover_paper := ok_is_cover_paper F16 (PySem.W.mg_of X G a16) b16 T (g_need_spans.mono (by decide)) (g_need_days.mono (by decide)) (g_need_times.mono (by decide)) (g_is_tuple_of.mono (by decide)) (g_is_lot.mono (by decide)) (g_first_bare.mono (by decide)) (g_is_between.mono (by decide)) (g_raw_on.mono (by decide))
  have g__law_hand : DefAt l.prog w K mg base 1 "_law_hand" 1 m__law_hand := ok__law_hand F17 (PySem.W.mg_of X G a17) b17 T 
  have g__law_draw : DefAt l.prog w K mg base 1 "_law_draw" 2 m__law_draw := ok__law_draw F18 (PySem.W.mg_of X G a18) b18 T 
  have g__law_any : DefAt l.prog w K mg base 2 "_law_any" 2 m__law_any := ok__law_any F19 (PySem.W.mg_of X G a19) b19 T (g__law_draw.mono (by decide))
  have g__law_case : DefAt l.prog w K mg base 3 "_law_case" 2 m__law_case := ok__law_case F20 (PySem.W.mg_of X G a20) b20 T (g__law_any.mono (by decide)) (g__law_draw.mono (by decide))
  have g__law_cover : DefAt l.prog w K mg base 1 "_law_cover" 3 m__law_cover := ok__law_cover F21 (PySem.W.mg_of X G a21) b21 T 
  have g__law_is_under : DefAt l.prog w K mg base 1 "_law_is_under" 2 m__law_is_under := ok__law_is_under F22 (PySem.W.mg_of X G a22) b22 T 
  have g__law_is_lot : DefAt l.prog w K mg base 2 "_law_is_lot" 2 m__law_is_lot := ok__law_is_lot F23 (PySem.W.mg_of X G a23) b23 T (g__law_is_under.mono (by decide))
  have g__law_judged : DefAt l.prog w K mg base 3 "_law_judged" 5 m__law_judged := ok__law_judged F24 (PySem.W.mg_of X G a24) b24 T (g__law_is_lot.mono (by decide)) (g__law_cover.mono (by decide)) (g__law_is_under.mono (by decide))
  have g__law_near : DefAt l.prog w K mg base 2 "_law_near" 5 m__law_near := ok__law_near F25 (PySem.W.mg_of X G a25) b25 T (g__law_draw.mono (by decide))
  have g__law_is_right : DefAt l.prog w K mg base 7 "_law_is_right" 5 m__law_is_right := ok__law_is_right F26 (PySem.W.mg_of X G a26) b26 T (g__law_cover.mono (by decide)) (g_cover_paper.mono (by decide)) (g__law_judged.mono (by decide)) (g__law_near.mono (by decide)) (g_is_cover_paper.mono (by decide))
  exact fn_law F27 T (g__law_hand.mono (by decide)) (g_cover_paper.mono (by decide)) (g__law_case.mono (by decide)) (g__law_draw.mono (by decide)) (g__law_is_right.mono (by decide))
end K64
open PySem PySem.W PyProof.Rows
set_option maxHeartbeats 0 in
theorem PySem.Challenge.cw_paperslapse_k64_whole_stretches_covered_holds : PySem.Challenge.rw_paperslapse_k64_whole_stretches_covered.Holds := by
  w_on; o_law; k_head; (case hw => w_witness2)
  k_fill
  refine Dn.walkG (l := PySem.Challenge.rw_paperslapse_k64_whole_stretches_covered) (n := 63) (k := 8) (x := "script") (sp := fun w => Dn.spLaw _ 63) rfl (by decide) rfl ⟨rfl, by decide, by decide⟩ (fun w h Y => PySem.W.kIn_of Y) ?F (fun w H a ns hl on sq => ⟨a, ns, rfl, sq, hl, on, fun _ => rfl⟩)
  case F =>
    intro w mg fa h KX G hmg
    refine' K64.all_mk KX G hmg ?a1 ?l1 ?c1 ?k1 ?a2 ?l2 ?c2 ?k2 ?a3 ?l3 ?c3 ?k3 ?a4 ?l4 ?c4 ?k4 ?a5 ?l5 ?c5 ?k5 ?a6 ?l6 ?c6 ?k6 ?a7 ?l7 ?c7 ?k7 ?a8 ?l8 ?c8 ?k8 ?a9 ?l9 ?c9 ?k9 ?a10 ?l10 ?c10 ?k10 ?a11 ?l11 ?c11 ?k11 ?a12 ?l12 ?c12 ?k12 ?a13 ?l13 ?c13 ?k13 ?a14 ?l14 ?c14 ?k14 ?a15 ?l15 ?c15 ?k15 ?a16 ?l16 ?c16 ?k16 ?a17 ?l17 ?c17 ?k17 ?a18 ?l18 ?c18 ?k18 ?a19 ?l19 ?c19 ?k19 ?a20 ?l20 ?c20 ?k20 ?a21 ?l21 ?c21 ?k21 ?a22 ?l22 ?c22 ?k22 ?a23 ?l23 ?c23 ?k23 ?a24 ?l24 ?c24 ?k24 ?a25 ?l25 ?c25 ?k25 ?a26 ?l26 ?c26 ?k26 ?a27 ?l27 ?c27 ?k27 ?z1 ?z2 ?z3 ?z4 ?z5 ?z6 ?z7 ?z8 ?z9 ?z10 ?z11 ?z12 ?z13 ?z14 ?z15 ?z16 ?y1 ?y2 ?y3 ?y4 ?y5 (fun ns hn => K64.e_law hn)
    (case a1 => k_is)
    (case l1 => k_is)
    (case c1 => k_is)
    (case k1 => k_is)
    (case a2 => k_is)
    (case l2 => k_is)
    (case c2 => k_is)
    (case k2 => k_is)
    (case a3 => k_is)
    (case l3 => k_is)
    (case c3 => k_is)
    (case k3 => k_is)
    (case a4 => k_is)
    (case l4 => k_is)
    (case c4 => k_is)
    (case k4 => k_is)
    (case a5 => k_is)
    (case l5 => k_is)
    (case c5 => k_is)
    (case k5 => k_is)
    (case a6 => k_is)
    (case l6 => k_is)
    (case c6 => k_is)
    (case k6 => k_is)
    (case a7 => k_is)
    (case l7 => k_is)
    (case c7 => k_is)
    (case k7 => k_is)
    (case a8 => k_is)
    (case l8 => k_is)
    (case c8 => k_is)
    (case k8 => k_is)
    (case a9 => k_is)
    (case l9 => k_is)
    (case c9 => k_is)
    (case k9 => k_is)
    (case a10 => k_is)
    (case l10 => k_is)
    (case c10 => k_is)
    (case k10 => k_is)
    (case a11 => k_is)
    (case l11 => k_is)
    (case c11 => k_is)
    (case k11 => k_is)
    (case a12 => k_is)
    (case l12 => k_is)
    (case c12 => k_is)
    (case k12 => k_is)
    (case a13 => k_is)
    (case l13 => k_is)
    (case c13 => k_is)
    (case k13 => k_is)
    (case a14 => k_is)
    (case l14 => k_is)
    (case c14 => k_is)
    (case k14 => k_is)
    (case a15 => k_is)
    (case l15 => k_is)
    (case c15 => k_is)
    (case k15 => k_is)
    (case a16 => k_is)
    (case l16 => k_is)
    (case c16 => k_is)
    (case k16 => k_is)
    (case a17 => k_is)
    (case l17 => k_is)
    (case c17 => k_is)
    (case k17 => k_is)
    (case a18 => k_is)
    (case l18 => k_is)
    (case c18 => k_is)
    (case k18 => k_is)
    (case a19 => k_is)
    (case l19 => k_is)
    (case c19 => k_is)
    (case k19 => k_is)
    (case a20 => k_is)
    (case l20 => k_is)
    (case c20 => k_is)
    (case k20 => k_is)
    (case a21 => k_is)
    (case l21 => k_is)
    (case c21 => k_is)
    (case k21 => k_is)
    (case a22 => k_is)
    (case l22 => k_is)
    (case c22 => k_is)
    (case k22 => k_is)
    (case a23 => k_is)
    (case l23 => k_is)
    (case c23 => k_is)
    (case k23 => k_is)
    (case a24 => k_is)
    (case l24 => k_is)
    (case c24 => k_is)
    (case k24 => k_is)
    (case a25 => k_is)
    (case l25 => k_is)
    (case c25 => k_is)
    (case k25 => k_is)
    (case a26 => k_is)
    (case l26 => k_is)
    (case c26 => k_is)
    (case k26 => k_is)
    (case a27 => k_is)
    (case l27 => k_is)
    (case c27 => k_is)
    (case k27 => k_is)
    (case z1 => k_is)
    (case z2 => k_is)
    (case z3 => k_is)
    (case z4 => k_is)
    (case z5 => k_is)
    (case z6 => k_is)
    (case z7 => k_is)
    (case z8 => k_is)
    (case z9 => k_is)
    (case z10 => k_is)
    (case z11 => k_is)
    (case z12 => k_is)
    (case z13 => k_is)
    (case z14 => k_is)
    (case z15 => k_is)
    (case z16 => k_is)
    (case y1 => k_is)
    (case y2 => k_is)
    (case y3 => k_is)
    (case y4 => k_is)
    (case y5 => k_is)
