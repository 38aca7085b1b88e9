import PyProof.Rows.All
import Wide.All
import OpenK.AllK
import Wide.FinOn
import HandS.SortInts
import HandS.TupSets
import HandS.SortRule
import HandS.ForMost
import HandS.Exc
import HandS.Lambda
import HandS.ExcOwn
import HandS.WordsExc
import HandS.IsInst
import HandS.Walk
import HandS.Zip
import HandS.CallSlots
import HandS.TupAny
import HandS.Conv
import HandS.Flow
import HandS.Dict
import KE.GoesMore
import KE.GoesEnum
import HandS.SetFor
import HandS.Deep
import HandS.Style
import HandS.Wide
import HandS.TupMul
import HandS.Flt
import PyProof.ReprRoads
import PyProof.CallFns
import HandS.Strs
import KE.KRevSl
import HandS.ExcIs
import HandS.EndTab
import PyProof.AutoSeq1
import PyProof.ReprLen
import PySem.Challenge.RW_paperslapse_k02_whole_days_lacking_moved
set_option Elab.async false
set_option linter.all false
set_option maxRecDepth 100000
set_option maxHeartbeats 4000000
/-! sorted(t), t a tuple of ints -/
namespace L2
open PySem PySem.Spec PyProof.Rows
section
variable {P : Program} {w : World} {A : Around} {E : Value → Shared → Prop} {s : Shared}
theorem collect_tupI {l : Addr} {vs : List Value} {Q : List Value → Shared → Prop} (ht : IsTup s.heap l vs.toArray) (hz : vs.length ≤ sizeLine)
    (q : ∀ t : Heap, (∀ b o, s.heap.get? b = some o → t.get? b = some o) → s.heap.objs.size ≤ t.objs.size → Q vs { s with heap := t }) : wpAny (model P w) A (collect (.ref l)) Q E s := by
  obtain ⟨o, lo, lc, n, ld⟩ := ht
  have lo1 : (s.heap.push (seqObj "list" #[] 0)).get? l = some o := Heap.get?_push_of_some _ lo
  have fresh : (s.heap.push (seqObj "list" #[] 0)).get? s.heap.objs.size = some (seqObj "list" #[] 0) := Heap.get?_push_size _ rfl
  unfold collect
  refine wpAny_bind (wpAny_runValue (codeAny_builtin entry_proto_collect' ?_))
  refine wpAny_bind (wpAny_newList (wpAny_pure ⟨Code.quiet_builtin _ (by decide +kernel), codeAny_builtin entry_list_iadd' ?_⟩))
  show wpAny _ _ (Builtin.List.listExtendWith (.ref s.heap.objs.size) (.ref l) (.ref s.heap.objs.size)) _ _ { s with heap := s.heap.push (seqObj "list" #[] 0) }
  unfold Builtin.List.listExtendWith
  refine wpAny_bind (wpAny_typeOf (T := "tuple") ⟨o, lo1, lc⟩ ?_)
  rw [if_pos (by
    have e : (Value.type "tuple" == Value.type "tuple") = true := rfl
    rw [e]; simp)]
  refine wpAny_bind (listItems_at lo1 ld ?_)
  refine wpAny_bind (listItems_at (n := 0) fresh rfl ?_)
  rw [if_neg (by simp)]
  refine wpAny_bind (listUpdate_at (n := 0) fresh rfl ?_ (Nat.zero_le _) (by
    show (#[] ++ vs.toArray).size ≤ sizeLine + 1
    rw [Array.size_append]
    simp
    omega))
  refine wpAny_pure ?_
  refine wpAny_bind (wpAny_load (get?_update_seq fresh _) ?_)
  show wpAny _ _ (pure ((#[] : Array Value) ++ vs.toArray).toList) Q E _
  have ev : ((#[] : Array Value) ++ vs.toArray).toList = vs := by simp
  rw [ev]
  refine wpAny_pure (q _ (fun b u e => ?_) ?_)
  · have lt := Heap.lt_size e
    rw [Heap.get?_update_ne _ _ _ _ (Nat.ne_of_lt lt)]
    exact Heap.get?_push_of_some _ e
  · rw [Heap.size_update, size_push']
    exact Nat.le_succ _
theorem sorted_tupI {l : Addr} {vs : List Value} {ns : List Int} {Q : Value → Shared → Prop} (ht : IsTup s.heap l vs.toArray) (hz : vs.length ≤ sizeLine) (hi : IntsAre vs ns)
    (q : ∀ t p (out : List Value) (c : Nat) (ms : List Int), (∀ b o, s.heap.get? b = some o → t.get? b = some o) → s.heap.objs.size ≤ p → t.get? p = some (seqObj "list" out.toArray c) →
      IntsAre out ms → ms.Perm ns → ms.Pairwise (· ≤ ·) → Q (.ref p) { s with heap := t }) :
    wpAny (model P w) A (call (.builtin "sorted") [.ref l]) Q E s := by
  refine Calls.call_function_entry kind_sorted plain_sorted entry_sorted (args_sorted1 _) ?_
  unfold Builtin.«sorted»
  refine wpAny_bind (m := checkCount "sorted" 1 1 _) (wpAny_pure ?_)
  refine wpAny_bind (collect_tupI (A := A.in1) ht hz fun t k z => ?_)
  refine wpAny_bind (wpAny_newList ?_ hz)
  have oL : (t.push (seqObj "list" vs.toArray 0)).get? t.objs.size = some (seqObj "list" vs.toArray 0) := Heap.get?_push_size _ rfl
  refine wpAny_bind (wpAny_holding (wpAny_call_entry slot_list_sort ⟨_, oL, rfl⟩ entry_list_sort (SrtO.list_sort_ord SrtO.swo_int oL hz (fun h2 => SrtO.ints_sortable hi h2) fun out a1 a2 => ⟨_, rfl, ?_⟩) (args_list_sort _)))
  obtain ⟨b1, b2, b3⟩ := SrtO.ints_out hi a1 a2
  obtain ⟨c, hc⟩ := sortedHeap_at (vs := vs) (out := out.toArray) oL
  refine wpAny_pure ⟨_, rfl, q _ t.objs.size out c _ (fun b u e => ?_) z hc b1 b2 b3⟩
  have := k b u e
  have lt := Heap.lt_size this
  refine (sortedHeap_old (Nat.ne_of_lt lt) (by rw [size_push']; exact Nat.lt_succ_of_lt lt)).trans ?_
  exact Heap.get?_push_of_some _ this
end
def rSortedTI (K : PySem.W.Frag) : List V → Hp → VK → Prop := fun vs H Q => ∃ (a : Addr) (ns : List Int), vs = [V.ref a] ∧ SqT K H a (ns.map V.int) ∧
  ∀ (ms : List Int) (p : Addr), ms.Perm ns → ms.Pairwise (· ≤ ·) → H p = none → Q (.ref p) (upd H p (.lst (ms.map V.int)))
theorem cr_sortedTI {X : Cx} : CallR X (.builtin "sorted") (rSortedTI X.K) := by
  intro pins s σ H vs us Q I r h
  obtain ⟨a, ns, rfl, hs, q⟩ := h
  obtain ⟨its, rv, ht, hz⟩ := I.tuple hs
  rw [Vals.ref1 r]
  have hi := rv.ints
  refine sorted_tupI ht (by rw [← rv.length]; exact hz) hi fun t p out c ms k hp hg h1 h2 h3 => ?_
  have hlen : (ms.map V.int).length ≤ sizeLine := by
    rw [List.length_map, h2.length_eq]
    rwa [List.length_map] at hz
  exact ⟨.ref _, upd H p (.lst (ms.map V.int)), I.laid (t' := s.toks) (fun b o e => k b o e) hp ⟨hlen, out, c, vals_of_ints h1, hg⟩, rfl, q _ _ h2 h3 (I.hok.fresh hp)⟩
end L2

set_option Elab.async false
set_option linter.all false
set_option maxRecDepth 100000
set_option maxHeartbeats 4000000
/-! sorted(xs), xs a list or a tuple of pairs of ints -/
namespace L2
open PySem PySem.Spec PyProof.Rows
section
variable {P : Program} {w : World} {A : Around} {E : Value → Shared → Prop} {s : Shared}
theorem sorted_tupP {l : Addr} {vs : List Value} {k : Value → Int × Int} {Q : Value → Shared → Prop} (ht : IsTup s.heap l vs.toArray) (hz : vs.length ≤ sizeLine) (hp : ∀ v ∈ vs, Srt.IsPair s.heap v (k v).1 (k v).2)
    (q : ∀ (t : Heap) (p : Addr) (out : List Value), SrtO.Srtd (fun v u => SrtO.lexB (k v) (k u)) out → SrtO.Stb (fun v u => SrtO.lexB (k v) (k u)) out vs → (∀ b o, s.heap.get? b = some o → t.get? b = some o) → s.heap.objs.size ≤ p →
      (∃ n, t.get? p = some (seqObj "list" out.toArray n)) → Q (.ref p) { s with heap := t }) :
    wpAny (model P w) A (call (.builtin "sorted") [.ref l]) Q E s := by
  refine Calls.call_function_entry kind_sorted plain_sorted entry_sorted (args_sorted1 _) ?_
  unfold Builtin.«sorted»
  refine wpAny_bind (m := checkCount "sorted" 1 1 _) (wpAny_pure ?_)
  refine wpAny_bind (collect_tupI (A := A.in1) ht hz fun t k z => ?_)
  refine wpAny_bind (wpAny_newList ?_ hz)
  have oL : (t.push (seqObj "list" vs.toArray 0)).get? t.objs.size = some (seqObj "list" vs.toArray 0) := Heap.get?_push_size _ rfl
  refine wpAny_bind (wpAny_holding (wpAny_call_entry slot_list_sort ⟨_, oL, rfl⟩ entry_list_sort (SrtO.list_sort_ord (SrtO.swo_lex _) oL hz (fun h2 => SrtO.pairs_sortableO (by omega) (fun v hm => (hp v hm).keeps fun b o e _ => Heap.get?_push_of_some _ (k b o e)) fun o e => ?_) fun out a1 a2 => ⟨_, rfl, ?_⟩) (args_list_sort _)))
  · have e' : some o = some (seqObj "list" vs.toArray 0) := e.symm.trans oL
    cases e'
    intro c
    exact absurd (Value.type.inj c) (by decide)
  · obtain ⟨c, hc⟩ := sortedHeap_at (vs := vs) (out := out.toArray) oL
    refine wpAny_pure ⟨_, rfl, q _ t.objs.size out a1 a2 (fun b u e => ?_) z ⟨c, hc⟩⟩
    have := k b u e
    have lt := Heap.lt_size this
    refine (sortedHeap_old (Nat.ne_of_lt lt) (by rw [size_push']; exact Nat.lt_succ_of_lt lt)).trans ?_
    exact Heap.get?_push_of_some _ this
end
def rSortedQP (K : PySem.W.Frag) : List V → Hp → VK → Prop := fun vs H Q => ∃ (a : Addr) (xs : List V) (k : V → Int × Int), vs = [V.ref a] ∧ (SqL K H a xs ∨ SqT K H a xs) ∧ (∀ x ∈ xs, ∃ t, x = V.ref t ∧ SqT K H t [.int (k x).1, .int (k x).2]) ∧
  ∀ ys p, SrtO.Srtd (ltP k) ys → ys.Perm xs → H p = none → Q (.ref p) (upd H p (.lst ys))
theorem cr_sortedQP {X : Cx} : CallR X (.builtin "sorted") (rSortedQP X.K) := by
  intro pins s σ H vs us Q I r h
  obtain ⟨a, xs, k, rfl, hs, hx, q⟩ := h
  obtain ⟨u, rfl, ru⟩ := vals1 r
  obtain rfl : u = Value.ref a := ru
  have key : ∀ {its : List Value}, Vals xs its → xs = its.map backV ∧ (∀ v ∈ its, ∃ t, v = Value.ref t) ∧ ∀ v ∈ its, Srt.IsPair s.heap v (k (backV v)).1 (k (backV v)).2 := fun {its} rv => by
    obtain ⟨e1, e2⟩ := refs_back rv fun x m => by
      obtain ⟨t, e, _⟩ := hx x m
      exact ⟨t, e⟩
    refine ⟨e1, e2, fun v hv => ?_⟩
    obtain ⟨t, rfl⟩ := e2 v hv
    have hm : V.ref t ∈ xs := by rw [e1]; exact List.mem_map.mpr ⟨_, hv, rfl⟩
    obtain ⟨t', e, ht⟩ := hx _ hm
    cases e
    obtain ⟨its2, r2, ⟨o, ho, hc, n, hd⟩, _⟩ := I.tuple ht
    obtain ⟨u1, u2, rfl, ri, rj⟩ := vals2 r2
    obtain ⟨t1, rfl⟩ := ri
    obtain ⟨t2, rfl⟩ := rj
    exact ⟨t, o, t1, t2, n, rfl, ho, hc, hd⟩
  have fin : ∀ {its : List Value}, Vals xs its → xs.length ≤ sizeLine → ∀ (t : Heap) (p : Addr) (out : List Value), SrtO.Srtd (fun v u => SrtO.lexB (k (backV v)) (k (backV u))) out → SrtO.Stb (fun v u => SrtO.lexB (k (backV v)) (k (backV u))) out its →
      (∀ b o, s.heap.get? b = some o → t.get? b = some o) → s.heap.objs.size ≤ p → (∃ n, t.get? p = some (seqObj "list" out.toArray n)) → EP X pins σ Q (.ref p) { s with heap := t } := fun {its} rv hz t p out h1 h2 kp hd hn => by
    obtain ⟨e1, e2, _⟩ := key rv
    have h3 : ∀ u ∈ out, ∃ a, u = Value.ref a := fun u hu => e2 u (h2.perm.mem_iff.mp hu)
    obtain ⟨n, hn⟩ := hn
    have hb : (out.map backV).Perm xs := by
      rw [e1]
      exact h2.perm.map backV
    exact ⟨.ref p, upd H p (.lst (out.map backV)), I.laid (t' := s.toks) kp hd ⟨by rw [hb.length_eq]; exact hz, out, n, vals_back h3, hn⟩, rfl, q _ p (SrtO.srtd_map h1) hb (I.hok.fresh hd)⟩
  rcases hs with hs | hs
  · obtain ⟨its, rv, hl, hz⟩ := I.list hs
    exact SrtO.sorted_pairsO (k := fun u => k (backV u)) hl.isList (by rw [← rv.length]; exact hz) (key rv).2.2 (fin rv hz)
  · obtain ⟨its, rv, hl, hz⟩ := I.tuple hs
    exact sorted_tupP (k := fun u => k (backV u)) hl (by rw [← rv.length]; exact hz) (key rv).2.2 (fin rv hz)
end L2

set_option Elab.async false
set_option linter.all false
set_option maxRecDepth 100000
set_option maxHeartbeats 4000000
/-! The data layer: values without addresses, what stands for them in the heap, denotations that may stop. -/
namespace Dn
open PySem PySem.Spec PyProof.Rows L2

/-- a value: tuples and lists that nobody changes any more as data, the n-th of the live lists by its number -/
inductive D where
  | non | bl (b : Bool) | int (i : Int) | str (x : Str)
  | tup (ds : List D) | lst (ds : List D) | ref (n : Nat)
  /-- the script: it is cut, nothing else -/
  | scr (ds : List D)
  /-- a dict that nobody changes any more: its keys, their values -/
  | dic (ks : List Key) (ds : List D)

/-- a live object -/
inductive IO where
  | lst (ds : List D)
  /-- a table of code objects of the name q: where lambdas are made -/
  | tab (P : Addr) (q : Str)
  | dic (ks : List Key) (ds : List D)
abbrev IHp := List IO
abbrev ISt := List (Option D)

/-- what an evaluation gives: a value, an exception of the class named, or a stop of the denotation (nothing is promised then) -/
inductive R (β : Type) where
  | ok (a : β) (h : IHp)
  | ex (c : Str) (h : IHp)
  | bad
def R.bind {β γ : Type} (r : R β) (f : β → IHp → R γ) : R γ :=
  match r with
  | .ok a h => f a h
  | .ex c h => .ex c h
  | .bad => .bad
@[simp] theorem R.bind_ok {β γ : Type} (a : β) (h : IHp) (f : β → IHp → R γ) : (R.ok a h).bind f = f a h := (rfl)
@[simp] theorem R.bind_ex {β γ : Type} (c : Str) (h : IHp) (f : β → IHp → R γ) : (R.ex c h : R β).bind f = .ex c h := (rfl)
@[simp] theorem R.bind_bad {β γ : Type} (f : β → IHp → R γ) : (R.bad : R β).bind f = .bad := (rfl)
theorem R.bind_assoc {β γ δ : Type} (r : R β) (f : β → IHp → R γ) (k : γ → IHp → R δ) : (r.bind f).bind k = r.bind fun a h => (f a h).bind k := by cases r <;> rfl
/-- a guard -/
def R.when {β : Type} (c : Bool) (r : R β) : R β := if c = true then r else .bad

abbrev ME := ISt → IHp → R D
abbrev MT := ISt → IHp → R Bool
abbrev MA := ISt → IHp → R (List D)

/-! ### what stands for a value -/
/-- the addresses of the live lists, and of lists that are being made -/
structure Al where
  lv : List Addr
  hd : List Addr
/-- a place of which is told, and no table -/
def NT (H : Hp) (a : Addr) : Prop := ∃ u, H a = some u ∧ ∀ ps, u ≠ .tbl ps
section
variable (K : PySem.W.Frag) (α : Al) (H : Hp)
/-- a list that is not live -/
def SqF (a : Addr) (xs : List V) : Prop := Rd H a (.lst xs) ∧ a ∉ α.lv ∧ a ∉ α.hd
/-- .. or stands in the written part -/
def SqK (a : Addr) (xs : List V) : Prop :=
  SqF α H a xs ∨
    ∃ (o : Obj) (its : Array Value) (n : Nat), K.lookup a = some o ∧ o.cls = .type "list" ∧ o.dict = none ∧ o.data = .seq its n ∧ its.size ≤ sizeLine ∧ Vals xs its.toList
/-- a dict that is not live -/
def DkF (a : Addr) (kvs : List (Key × V)) : Prop := Rd H a (.dK kvs) ∧ a ∉ α.lv
mutual
inductive Rep : D → V → Prop
  | non : Rep .non .non
  | bl (b : Bool) : Rep (.bl b) (.bl b)
  | int (i : Int) : Rep (.int i) (.int i)
  | str (x : Str) : Rep (.str x) (.str x)
  | tup {ds : List D} {a : Addr} {vs : List V} : SqT K H a vs → Reps ds vs → Rep (.tup ds) (.ref a)
  | lst {ds : List D} {a : Addr} {vs : List V} : SqF α H a vs → Reps ds vs → Rep (.lst ds) (.ref a)
  | scr {ds : List D} {a : Addr} {vs : List V} : SqK K α H a vs → Reps ds vs → Rep (.scr ds) (.ref a)
  | ref {n : Nat} {a : Addr} : α.lv[n]? = some a → NT H a → Rep (.ref n) (.ref a)
  | dic {ks : List Key} {ds : List D} {a : Addr} {kvs : List (Key × V)} : DkF α H a kvs → kvs.map (·.1) = ks → Reps ds (kvs.map (·.2)) → Rep (.dic ks ds) (.ref a)
inductive Reps : List D → List V → Prop
  | nil : Reps [] []
  | cons {d : D} {ds : List D} {v : V} {vs : List V} : Rep d v → Reps ds vs → Reps (d :: ds) (v :: vs)
end
def RepO (a : Addr) : IO → HO → Prop
  | .lst ds, .lst vs => Reps K α H ds vs
  | .tab P q, .tbl ps => a = P ∧ TriplesOk ps.toList ∧ ∀ (pos : Pos) (cv : Value), codeAmong pos ps.toList = some cv → ∃ c, cv = .ref c ∧ c ∉ α.lv ∧ H c = some (LamX.CodeO c q)
  | .dic ks ds, .dK kvs => kvs.map (·.1) = ks ∧ Reps K α H ds (kvs.map (·.2))
  | _, _ => False
/-- the live objects -/
structure RH (ih : IHp) : Prop where
  len : α.lv.length = ih.length
  nd : α.lv.Nodup
  ob : ∀ (n : Nat) (o : IO), ih[n]? = some o → ∃ a ho, α.lv[n]? = some a ∧ H a = some ho ∧ RepO K α H a o ho
  dj : ∀ a ∈ α.hd, a ∉ α.lv
  hl : ∀ a ∈ α.hd, ∃ vs, H a = some (.lst vs)
/-- the slots -/
def RS (iσ : ISt) (σ : L2.St) : Prop := iσ.length = σ.length ∧ ∀ (i : Nat) (d : D), iσ[i]? = some (some d) → ∃ v, σ[i]? = some (some v) ∧ Rep K α H d v
end

/-- the live ones stay the same places (more may come), all else that is tracked stays -/
structure Ext (α : Al) (H : Hp) (α' : Al) (H' : Hp) : Prop where
  pre : α.lv <+: α'.lv
  hd : ∀ a xs, Rd H a (.lst xs) → a ∉ α.lv → a ∉ α.hd → a ∉ α'.hd
  hs : ∀ a ∈ α.hd, a ∈ α'.hd
  keep : ∀ a u, H a = some u → (∀ ps, u ≠ .tbl ps) → a ∉ α.lv → H' a = some u ∧ a ∉ α'.lv
  nt : ∀ a ∈ α.lv, NT H a → NT H' a
theorem Ext.refl {α : Al} {H : Hp} : Ext α H α H := ⟨List.prefix_refl _, fun _ _ _ _ n => n, fun _ h => h, fun _ _ h _ n => ⟨h, n⟩, fun _ _ h => h⟩
theorem NT.upd {H : Hp} {a p : Addr} {o : HO} (h : NT H a) (ht : ∀ ps, o ≠ .tbl ps) : NT (upd H p o) a := by
  by_cases e : a = p
  · subst e; exact ⟨o, upd_same, ht⟩
  · obtain ⟨u, h1, h2⟩ := h; exact ⟨u, by rw [upd_ne e]; exact h1, h2⟩
theorem Rd.keep {α α' : Al} {H H' : Hp} (k : ∀ a u, H a = some u → (∀ ps, u ≠ .tbl ps) → a ∉ α.lv → H' a = some u ∧ a ∉ α'.lv) {a : Addr} {u : HO} (ht : ∀ ps, u ≠ .tbl ps) (n : a ∉ α.lv) (h : Rd H a u) : Rd H' a u ∧ a ∉ α'.lv := by
  rcases h with h | ⟨o, h⟩
  · obtain ⟨h1, h2⟩ := k a _ h ht n
    exact ⟨.inl h1, h2⟩
  · obtain ⟨h1, h2⟩ := k a _ h (fun ps e => by cases e) n
    exact ⟨.inr ⟨o, h1⟩, h2⟩
theorem Ext.trans {α β γ : Al} {H H1 H2 : Hp} (x : Ext α H β H1) (y : Ext β H1 γ H2) : Ext α H γ H2 :=
  ⟨x.pre.trans y.pre, fun a xs r n m => let z := Rd.keep x.keep (fun ps e => by cases e) n r; y.hd a xs z.1 z.2 (x.hd a xs r n m), fun a h => y.hs a (x.hs a h), fun a u h nt n => let ⟨h1, n1⟩ := x.keep a u h nt n; y.keep a u h1 nt n1, fun a m h => y.nt a (x.pre.subset m) (x.nt a m h)⟩

section
variable {K : PySem.W.Frag} {α α' : Al} {H H' : Hp}
theorem Reps.length : ∀ {ds : List D} {vs : List V}, Reps K α H ds vs → ds.length = vs.length
  | _, _, .nil => rfl
  | _, _, .cons _ t => by rw [List.length_cons, List.length_cons, t.length]
theorem Reps.get : ∀ {ds : List D} {vs : List V} {i : Nat} {d : D}, Reps K α H ds vs → ds[i]? = some d → ∃ v, vs[i]? = some v ∧ Rep K α H d v
  | _, _, _, _, .nil, e => by simp at e
  | _, _, 0, _, .cons r _, e => by
    simp at e; subst e; exact ⟨_, rfl, r⟩
  | _, _, i + 1, _, .cons _ t, e => by
    obtain ⟨v, h1, h2⟩ := Reps.get (i := i) t (by simpa using e)
    exact ⟨v, by simpa using h1, h2⟩
theorem Reps.getV : ∀ {ds : List D} {vs : List V} {i : Nat} {v : V}, Reps K α H ds vs → vs[i]? = some v → ∃ d, ds[i]? = some d ∧ Rep K α H d v
  | _, _, _, _, .nil, e => by simp at e
  | _, _, 0, _, .cons r _, e => by
    simp at e; subst e; exact ⟨_, rfl, r⟩
  | _, _, i + 1, _, .cons _ t, e => by
    obtain ⟨v, h1, h2⟩ := Reps.getV (i := i) t (by simpa using e)
    exact ⟨v, by simpa using h1, h2⟩
theorem Reps.append : ∀ {ds es : List D} {vs us : List V}, Reps K α H ds vs → Reps K α H es us → Reps K α H (ds ++ es) (vs ++ us)
  | _, _, _, _, .nil, s => s
  | _, _, _, _, .cons r t, s => .cons r (Reps.append t s)
theorem Reps.take : ∀ {ds : List D} {vs : List V} (n : Nat), Reps K α H ds vs → Reps K α H (ds.take n) (vs.take n)
  | _, _, 0, _ => .nil
  | _, _, _ + 1, .nil => .nil
  | _, _, n + 1, .cons r t => .cons r (Reps.take n t)
theorem Reps.drop : ∀ {ds : List D} {vs : List V} (n : Nat), Reps K α H ds vs → Reps K α H (ds.drop n) (vs.drop n)
  | _, _, 0, r => r
  | _, _, _ + 1, .nil => .nil
  | _, _, n + 1, .cons _ t => Reps.drop n t
theorem Reps.set {d : D} {v : V} (r : Rep K α H d v) : ∀ {ds : List D} {vs : List V} (i : Nat), Reps K α H ds vs → Reps K α H (ds.set i d) (vs.set i v)
  | _, _, _, .nil => .nil
  | _, _, 0, .cons _ t => .cons r t
  | _, _, i + 1, .cons q t => .cons q (Reps.set r i t)
theorem Reps.one {d : D} {v : V} (r : Rep K α H d v) : Reps K α H [d] [v] := .cons r .nil

/-- another way to stand for the same -/
structure Mp (K : PySem.W.Frag) (α : Al) (H : Hp) (α' : Al) (H' : Hp) : Prop where
  d : ∀ a kvs, DkF α H a kvs → DkF α' H' a kvs
  f : ∀ a vs, SqF α H a vs → SqF α' H' a vs
  t : ∀ a vs, SqT K H a vs → SqT K H' a vs
  l : ∀ (n : Nat) (a : Addr), α.lv[n]? = some a → NT H a → α'.lv[n]? = some a ∧ NT H' a
  x : ∀ (c : Addr) (q : Str), H c = some (LamX.CodeO c q) → c ∉ α.lv → H' c = some (LamX.CodeO c q) ∧ c ∉ α'.lv
mutual
theorem Rep.mp (m : Mp K α H α' H') : ∀ {d : D} {v : V}, Rep K α H d v → Rep K α' H' d v
  | _, _, .non => .non
  | _, _, .bl b => .bl b
  | _, _, .int i => .int i
  | _, _, .str y => .str y
  | _, _, .tup q r => .tup (m.t _ _ q) (Reps.mp m r)
  | _, _, .lst q r => .lst (m.f _ _ q) (Reps.mp m r)
  | _, _, .scr q r => .scr (q.elim (fun z => .inl (m.f _ _ z)) .inr) (Reps.mp m r)
  | _, _, .ref e nt => .ref (m.l _ _ e nt).1 (m.l _ _ e nt).2
  | _, _, .dic q e r => .dic (m.d _ _ q) e (Reps.mp m r)
theorem Reps.mp (m : Mp K α H α' H') : ∀ {ds : List D} {vs : List V}, Reps K α H ds vs → Reps K α' H' ds vs
  | _, _, .nil => .nil
  | _, _, .cons r t => .cons (Rep.mp m r) (Reps.mp m t)
end
theorem RS.mp (m : Mp K α H α' H') {iσ : ISt} {σ : L2.St} (s : RS K α H iσ σ) : RS K α' H' iσ σ :=
  ⟨s.1, fun i d e => let ⟨v, e1, r⟩ := s.2 i d e; ⟨v, e1, r.mp m⟩⟩
theorem RepO.lst {a : Addr} {ho : HO} {ds : List D} (h : RepO K α H a (.lst ds) ho) : ∃ vs, ho = .lst vs ∧ Reps K α H ds vs := by
  cases ho <;> first | exact ⟨_, rfl, h⟩ | exact False.elim h
theorem RepO.dic {a : Addr} {ho : HO} {ks : List Key} {ds : List D} (h : RepO K α H a (.dic ks ds) ho) : ∃ kvs, ho = .dK kvs ∧ kvs.map (·.1) = ks ∧ Reps K α H ds (kvs.map (·.2)) := by
  cases ho <;> first | exact ⟨_, rfl, h⟩ | exact False.elim h
theorem RepO.mp (m : Mp K α H α' H') {a : Addr} {o : IO} {ho : HO} (r : RepO K α H a o ho) : RepO K α' H' a o ho := by
  cases o with
  | lst ds =>
    obtain ⟨vs, rfl, q⟩ := r.lst
    exact q.mp m
  | tab P q =>
    cases ho with
    | tbl ps => exact ⟨r.1, r.2.1, fun pos cv e => by
      obtain ⟨c, e1, e2, e3⟩ := r.2.2 pos cv e
      obtain ⟨e4, e5⟩ := m.x c q e3 e2
      exact ⟨c, e1, e5, e4⟩⟩
    | _ => exact False.elim r
  | dic ks ds =>
    obtain ⟨kvs, rfl, e, q⟩ := r.dic
    exact ⟨e, q.mp m⟩

theorem Rd.ext (x : Ext α H α' H') {a : Addr} {u : HO} (ht : ∀ ps, u ≠ .tbl ps) (n : a ∉ α.lv) (h : Rd H a u) : Rd H' a u ∧ a ∉ α'.lv := Rd.keep x.keep ht n h
theorem SqF.ext (x : Ext α H α' H') {a : Addr} {vs : List V} (h : SqF α H a vs) : SqF α' H' a vs := by
  obtain ⟨h, n, m⟩ := h
  have z := Rd.ext x (fun ps e => by cases e) n h
  exact ⟨z.1, z.2, x.hd a vs h n m⟩
theorem DkF.ext (x : Ext α H α' H') {a : Addr} {kvs : List (Key × V)} (h : DkF α H a kvs) : DkF α' H' a kvs := Rd.ext x (fun ps e => by cases e) h.2 h.1
theorem SqF.seq {a : Addr} {vs : List V} (h : SqF α H a vs) : SqL K H a vs := .inl h.1
theorem SqK.seq {a : Addr} {vs : List V} (h : SqK K α H a vs) : SqL K H a vs := by
  rcases h with h | h
  · exact .inl h.1
  · exact .inr h
/-- a live place holds a list -/
theorem RH.at {ih : IHp} (h : RH K α H ih) {a : Addr} (m : a ∈ α.lv) : ∃ (n : Nat) (o : IO) (ho : HO), α.lv[n]? = some a ∧ ih[n]? = some o ∧ H a = some ho ∧ RepO K α H a o ho := by
  obtain ⟨n, hn, e⟩ := List.getElem_of_mem m
  have hn' : n < ih.length := by rw [← h.len]; exact hn
  obtain ⟨a', ho, e1, e2, e3⟩ := h.ob n ih[n] (List.getElem?_eq_getElem hn')
  rw [List.getElem?_eq_getElem hn] at e1
  have e4 : a = a' := by rw [← e]; exact Option.some.inj e1
  subst e4
  exact ⟨n, _, ho, by rw [List.getElem?_eq_getElem hn, e], List.getElem?_eq_getElem hn', e2, e3⟩
theorem RH.tup_ne {ih : IHp} (h : RH K α H ih) {a : Addr} {xs : List V} (e : Rd H a (.tup xs)) : a ∉ α.lv := fun m => by
  obtain ⟨n, o, ho, _, _, e2, e3⟩ := h.at m
  cases o with
  | lst ds =>
    obtain ⟨vs, rfl, _⟩ := e3.lst
    rcases e with e | ⟨ob, e⟩ <;> (rw [e2] at e; cases e)
  | tab P q =>
    cases ho with
    | tbl ps => rcases e with e | ⟨ob, e⟩ <;> (rw [e2] at e; cases e)
    | _ => exact False.elim e3
  | dic ks ds =>
    obtain ⟨kvs, rfl, _⟩ := e3.dic
    rcases e with e | ⟨ob, e⟩ <;> (rw [e2] at e; cases e)
theorem SqT.ext {ih : IHp} (h : RH K α H ih) (x : Ext α H α' H') {a : Addr} {vs : List V} (q : SqT K H a vs) : SqT K H' a vs := by
  rcases q with q | q
  · exact .inl (Rd.ext x (fun ps e => by cases e) (h.tup_ne q) q).1
  · exact .inr q
theorem prefix_get {l l' : List Addr} (p : l <+: l') {n : Nat} {a : Addr} (e : l[n]? = some a) : l'[n]? = some a := by
  obtain ⟨t, rfl⟩ := p
  rw [List.getElem?_append_left (List.getElem?_eq_some_iff.mp e).1]
  exact e
theorem Ext.mp {ih : IHp} (h : RH K α H ih) (x : Ext α H α' H') : Mp K α H α' H' := ⟨fun _ _ q => q.ext x, fun _ _ q => q.ext x, fun _ _ q => SqT.ext h x q, fun _ _ e nt => ⟨prefix_get x.pre e, x.nt _ (List.mem_iff_getElem?.mpr ⟨_, e⟩) nt⟩, fun c q e m => x.keep c _ e (LamX.codeO_ne) m⟩
theorem Rep.ext {ih : IHp} (h : RH K α H ih) (x : Ext α H α' H') {d : D} {v : V} (r : Rep K α H d v) : Rep K α' H' d v := r.mp (x.mp h)
theorem Reps.ext {ih : IHp} (h : RH K α H ih) (x : Ext α H α' H') {ds : List D} {vs : List V} (r : Reps K α H ds vs) : Reps K α' H' ds vs := r.mp (x.mp h)
theorem RS.ext {ih : IHp} (h : RH K α H ih) (x : Ext α H α' H') {iσ : ISt} {σ : L2.St} (s : RS K α H iσ σ) : RS K α' H' iσ σ := s.mp (x.mp h)
theorem RepO.ext {ih : IHp} (h : RH K α H ih) (x : Ext α H α' H') {a : Addr} {o : IO} {ho : HO} (r : RepO K α H a o ho) : RepO K α' H' a o ho := r.mp (x.mp h)
theorem RS.set {iσ : ISt} {σ : L2.St} (s : RS K α H iσ σ) {i : Nat} {d : D} {v : V} (r : Rep K α H d v) : RS K α H (iσ.set i (some d)) (σ.set i (some v)) := by
  refine ⟨by rw [List.length_set, List.length_set, s.1], fun j e he => ?_⟩
  by_cases hj : i = j
  · subst hj
    by_cases hl : i < iσ.length
    · rw [List.getElem?_set_self hl] at he
      cases he
      exact ⟨v, by rw [List.getElem?_set_self (by rw [← s.1]; exact hl)], r⟩
    · rw [List.getElem?_eq_none (by rw [List.length_set]; omega)] at he
      cases he
  · rw [List.getElem?_set_ne hj] at he ⊢
    exact s.2 j e he

/-- a new tracked object that is not live -/
theorem Ext.new {p : Addr} {o : HO} (n : H p = none) (ht : ∀ ps, o ≠ .tbl ps := by intro _ e; cases e) : Ext α H α (upd H p o) :=
  ⟨List.prefix_refl _, fun _ _ _ _ z => z, fun _ z => z, fun a u e _ m => ⟨by rw [upd_ne (ne_of_none e n)]; exact e, m⟩, fun _ _ h => h.upd ht⟩
/-- all live objects stand as they stood -/
theorem RH.same {ih : IHp} (h : RH K α H ih) (x : Ext α H α H') (s : ∀ a ∈ α.lv, H' a = H a) : RH K α H' ih :=
  ⟨h.len, h.nd, fun n o e => by
    obtain ⟨a, ho, e1, e2, e3⟩ := h.ob n o e
    exact ⟨a, ho, e1, by rw [s a (List.mem_iff_getElem?.mpr ⟨n, e1⟩)]; exact e2, e3.ext h x⟩, h.dj, fun a m => by
    obtain ⟨vs, e⟩ := h.hl a m
    exact ⟨vs, (x.keep a _ e (fun _ z => by cases z) (h.dj a m)).1⟩⟩
theorem RH.free {ih : IHp} (h : RH K α H ih) {p : Addr} (n : H p = none) : p ∉ α.lv := fun m => by
  obtain ⟨_, _, _, _, _, e, _⟩ := h.at m
  rw [n] at e; cases e
theorem RH.freeH {ih : IHp} (h : RH K α H ih) {p : Addr} (n : H p = none) : p ∉ α.hd := fun m => by
  obtain ⟨_, e⟩ := h.hl p m
  rw [n] at e; cases e
theorem RH.new {ih : IHp} (h : RH K α H ih) {p : Addr} {o : HO} (n : H p = none) (ht : ∀ ps, o ≠ .tbl ps := by intro _ e; cases e) : RH K α (upd H p o) ih :=
  h.same (Ext.new n ht) fun a m => upd_ne fun e => by subst e; exact h.free n m
/-- a new live object -/
def Al.add (α : Al) (p : Addr) : Al := { α with lv := α.lv ++ [p] }
theorem Ext.live {p : Addr} {o : HO} (n : H p = none) (ht : ∀ ps, o ≠ .tbl ps := by intro _ e; cases e) : Ext α H (α.add p) (upd H p o) :=
  ⟨List.prefix_append _ _, fun _ _ _ _ z => z, fun _ z => z, fun a u e _ m => ⟨by rw [upd_ne (ne_of_none e n)]; exact e, fun z => by
    rcases List.mem_append.mp z with z | z
    · exact m z
    · rw [List.mem_singleton.mp z, n] at e; cases e⟩, fun _ _ h => h.upd ht⟩
theorem RH.live {ih : IHp} (h : RH K α H ih) {p : Addr} {o : IO} {ho : HO} (n : H p = none) (r : RepO K α H p o ho) (ht : ∀ ps, ho ≠ .tbl ps := by intro _ e; cases e) : RH K (α.add p) (upd H p ho) (ih ++ [o]) := by
  have x : Ext α H (α.add p) (upd H p ho) := Ext.live n ht
  refine ⟨by unfold Al.add; rw [List.length_append, List.length_append, h.len]; rfl, ?_, fun k u e => ?_, fun a m z => ?_, fun a m => ?_⟩
  · unfold Al.add
    rw [List.nodup_append]
    exact ⟨h.nd, List.nodup_cons.mpr ⟨List.not_mem_nil, List.nodup_nil⟩, fun a ha b hb e => by
      rw [List.mem_singleton.mp hb] at e; subst e; exact h.free n ha⟩
  · by_cases hk : k < ih.length
    · rw [List.getElem?_append_left hk] at e
      obtain ⟨a, w, e1, e2, e3⟩ := h.ob k u e
      exact ⟨a, w, prefix_get x.pre e1, by rw [upd_ne (ne_of_none e2 n)]; exact e2, e3.ext h x⟩
    · rw [List.getElem?_append_right (by omega)] at e
      cases hz : k - ih.length with
      | zero =>
        rw [hz] at e
        cases e
        have ek : k = α.lv.length := by rw [h.len]; omega
        exact ⟨p, ho, by unfold Al.add; rw [ek, List.getElem?_append_right (Nat.le_refl _), Nat.sub_self]; rfl, upd_same, r.ext h x⟩
      | succ m =>
        rw [hz] at e
        simp at e
  · rcases List.mem_append.mp z with z | z
    · exact h.dj a m z
    · obtain ⟨vs, e⟩ := h.hl a m
      rw [List.mem_singleton.mp z, n] at e; cases e
  · obtain ⟨vs, e⟩ := h.hl a m
    exact ⟨vs, by rw [upd_ne (ne_of_none e n)]; exact e⟩
/-- a live object is changed -/
theorem Ext.write {n : Nat} {a : Addr} {o : HO} (e : α.lv[n]? = some a) (ht : ∀ ps, o ≠ .tbl ps := by intro _ e; cases e) : Ext α H α (upd H a o) :=
  ⟨List.prefix_refl _, fun _ _ _ _ z => z, fun _ z => z, fun b u q _ m => ⟨by rw [upd_ne (fun z => m (by subst z; exact List.mem_iff_getElem?.mpr ⟨n, e⟩))]; exact q, m⟩, fun _ _ h => h.upd ht⟩
theorem RH.write {ih : IHp} (h : RH K α H ih) {n : Nat} {a : Addr} {o : IO} {ho : HO} (e : α.lv[n]? = some a) (r : RepO K α H a o ho) (ht : ∀ ps, ho ≠ .tbl ps := by intro _ e; cases e) : RH K α (upd H a ho) (ih.set n o) := by
  have x : Ext α H α (upd H a ho) := Ext.write e ht
  refine ⟨by rw [List.length_set]; exact h.len, h.nd, fun k u q => ?_, h.dj, fun b m => ?_⟩
  · by_cases hk : n = k
    · subst hk
      by_cases hl : n < ih.length
      · rw [List.getElem?_set_self hl] at q
        cases q
        exact ⟨a, ho, e, upd_same, r.ext h x⟩
      · rw [List.getElem?_eq_none (by rw [List.length_set]; omega)] at q
        cases q
    · rw [List.getElem?_set_ne hk] at q
      obtain ⟨b, w, e1, e2, e3⟩ := h.ob k u q
      refine ⟨b, w, e1, ?_, e3.ext h x⟩
      rw [upd_ne]
      · exact e2
      · intro z
        subst z
        have h1 := List.getElem?_eq_some_iff.mp e
        have h2 := List.getElem?_eq_some_iff.mp e1
        obtain ⟨l1, g1⟩ := h1
        obtain ⟨l2, g2⟩ := h2
        exact hk ((List.getElem_inj h.nd).mp (g1.trans g2.symm))
  · obtain ⟨vs, e2⟩ := h.hl b m
    exact ⟨vs, (x.keep b _ e2 (fun _ z => by cases z) (h.dj b m)).1⟩

/-! ### a list that is being made -/
def Al.hide (α : Al) (p : Addr) : Al := { α with hd := p :: α.hd }
theorem Rd.upd {p a : Addr} {u o : HO} (ne : a ≠ p) (r : Rd H a u) : Rd (upd H p o) a u := by
  rcases r with r | ⟨w, r⟩
  · exact .inl (by rw [upd_ne ne]; exact r)
  · exact .inr ⟨w, by rw [upd_ne ne]; exact r⟩
theorem Mp.hide {ih : IHp} (h : RH K α H ih) {p : Addr} {vs : List V} (n : H p = none) : Mp K α H (α.hide p) (upd H p (.lst vs)) :=
  ⟨fun a us ⟨r, m1⟩ => by
    have ne : a ≠ p := by
      rintro rfl
      rcases r with r | ⟨o, r⟩ <;> (rw [n] at r; cases r)
    exact ⟨Rd.upd ne r, m1⟩, fun a us ⟨r, m1, m2⟩ => by
    have ne : a ≠ p := by
      rintro rfl
      rcases r with r | ⟨o, r⟩ <;> (rw [n] at r; cases r)
    exact ⟨Rd.upd ne r, m1, fun z => (List.mem_cons.mp z).elim ne m2⟩, fun a us q => SqT.ext h (Ext.new n) q, fun _ _ e nt => ⟨e, nt.upd (fun _ z => by cases z)⟩, fun c q e m => ⟨by rw [upd_ne (ne_of_none e n)]; exact e, m⟩⟩
theorem RH.hide {ih : IHp} (h : RH K α H ih) {p : Addr} {vs : List V} (n : H p = none) : RH K (α.hide p) (upd H p (.lst vs)) ih :=
  ⟨h.len, h.nd, fun k o e => by
    obtain ⟨a, ho, e1, e2, e3⟩ := h.ob k o e
    exact ⟨a, ho, e1, by rw [upd_ne (ne_of_none e2 n)]; exact e2, e3.mp (Mp.hide h n)⟩, fun a m => by
    rcases List.mem_cons.mp m with z | z
    · subst z; exact h.free n
    · exact h.dj a z, fun a m => by
    by_cases hz : a = p
    · subst hz; exact ⟨vs, upd_same⟩
    · rcases List.mem_cons.mp m with z | z
      · exact absurd z hz
      · obtain ⟨us, e⟩ := h.hl a z
        exact ⟨us, by rw [upd_ne hz]; exact e⟩⟩
theorem Ext.hide {p : Addr} {o : HO} (n : H p = none) (ht : ∀ ps, o ≠ .tbl ps := by intro _ e; cases e) : Ext α H (α.hide p) (upd H p o) :=
  ⟨List.prefix_refl _, fun a xs r _ m z => (List.mem_cons.mp z).elim (fun e => by
    subst e
    rcases r with r | ⟨w, r⟩ <;> (rw [n] at r; cases r)) m, fun a h => List.mem_cons_of_mem _ h, fun a u e _ m => ⟨by rw [upd_ne (ne_of_none e n)]; exact e, m⟩, fun _ _ h => h.upd ht⟩
/-- what was not there at the start may change -/
theorem Ext.wr {p : Addr} {o : HO} (x : Ext α H α' H') (n : H p = none) (ht : ∀ ps, o ≠ .tbl ps := by intro _ e; cases e) : Ext α H α' (upd H' p o) :=
  ⟨x.pre, x.hd, x.hs, fun a u e nt m => let z := x.keep a u e nt m; ⟨by rw [upd_ne (ne_of_none e n)]; exact z.1, z.2⟩, fun a m h => (x.nt a m h).upd ht⟩
/-- it is changed -/
theorem Mp.wr {p : Addr} {vs us : List V} (m : p ∈ α.hd) (e : H p = some (.lst us)) : Mp K α H α (upd H p (.lst vs)) :=
  ⟨fun a ws ⟨r, m1⟩ => by
    have ne : a ≠ p := by
      rintro rfl
      rcases r with r | ⟨o, r⟩ <;> (rw [e] at r; cases r)
    exact ⟨Rd.upd ne r, m1⟩, fun a ws ⟨r, m1, m2⟩ => by
    have ne : a ≠ p := by
      rintro rfl
      exact m2 m
    exact ⟨Rd.upd ne r, m1, m2⟩, fun a ws q => by
    rcases q with r | r
    · have ne : a ≠ p := by
        rintro rfl
        rcases r with r | ⟨o, r⟩ <;> (rw [e] at r; cases r)
      exact .inl (Rd.upd ne r)
    · exact .inr r, fun _ _ e nt => ⟨e, nt.upd (fun _ z => by cases z)⟩, fun c q z mm => ⟨by
      rw [upd_ne (fun w => by rw [w, e] at z; cases z)]
      exact z, mm⟩⟩
theorem RH.wr {ih : IHp} (h : RH K α H ih) {p : Addr} {vs us : List V} (m : p ∈ α.hd) (e : H p = some (.lst us)) : RH K α (upd H p (.lst vs)) ih :=
  ⟨h.len, h.nd, fun k o q => by
    obtain ⟨a, ho, e1, e2, e3⟩ := h.ob k o q
    have ne : a ≠ p := by
      rintro rfl
      exact h.dj _ m (List.mem_iff_getElem?.mpr ⟨k, e1⟩)
    exact ⟨a, ho, e1, by rw [upd_ne ne]; exact e2, e3.mp (Mp.wr m e)⟩, h.dj, fun a q => by
    by_cases hz : a = p
    · subst hz; exact ⟨vs, upd_same⟩
    · obtain ⟨ws, e2⟩ := h.hl a q
      exact ⟨ws, by rw [upd_ne hz]; exact e2⟩⟩
/-- it is done -/
def Al.bare (α : Al) (p : Addr) : Al := { α with hd := α.hd.filter fun a => decide (a ≠ p) }
theorem Al.of_bare {p a : Addr} (z : a ∈ (α.bare p).hd) : a ∈ α.hd := (List.mem_filter.mp z).1
theorem Al.not_bare {p : Addr} : p ∉ (α.bare p).hd := fun z => by
  have := (List.mem_filter.mp z).2
  simp at this
theorem Mp.bare {p : Addr} : Mp K α H (α.bare p) H :=
  ⟨fun a us q => q, fun a us ⟨r, m1, m2⟩ => ⟨r, m1, fun z => m2 (Al.of_bare z)⟩, fun _ _ q => q, fun _ _ e nt => ⟨e, nt⟩, fun _ _ e m => ⟨e, m⟩⟩
theorem RH.bare {ih : IHp} (h : RH K α H ih) {p : Addr} : RH K (α.bare p) H ih :=
  ⟨h.len, h.nd, fun k o q => by
    obtain ⟨a, ho, e1, e2, e3⟩ := h.ob k o q
    exact ⟨a, ho, e1, e2, e3.mp Mp.bare⟩, fun a m => h.dj a (Al.of_bare m), fun a m => h.hl a (Al.of_bare m)⟩
theorem Ext.bare {ih : IHp} (h : RH K α H ih) {p : Addr} (x : Ext α H α' H') (n : H p = none) : Ext α H (α'.bare p) H' :=
  ⟨x.pre, fun a xs r m1 m2 z => x.hd a xs r m1 m2 (Al.of_bare z), fun a m => List.mem_filter.mpr ⟨x.hs a m, by
    obtain ⟨vs, e⟩ := h.hl a m
    exact decide_eq_true (ne_of_none e n)⟩, x.keep, x.nt⟩
end

/-! ### readings -/
/-- what must hold so that r tells what is wanted. The class of an exception by its name -/
def Go (K : PySem.W.Frag) (mg : Str → Option Value) (W : Value → Hp → Prop) {β : Type} (rep : Al → Hp → β → γ → Prop) (α : Al) (H : Hp) (r : R β) (Q : γ → Hp → Prop) : Prop :=
  match r with
  | .ok d ih => ∀ α' v H', Ext α H α' H' → RH K α' H' ih → rep α' H' d v → Q v H'
  | .ex c ih => ∀ C α' H', mg c = some (.ref C) → Ext α H α' H' → RH K α' H' ih → W (.ref C) H'
  | .bad => False
section
variable {K : PySem.W.Frag} {mg : Str → Option Value} {W : Value → Hp → Prop} {β γ δ ε : Type} {rep : Al → Hp → β → γ → Prop} {rep' : Al → Hp → δ → ε → Prop} {α α' : Al} {H H' : Hp} {r : R β} {Q Q' : γ → Hp → Prop}
theorem Go.ext (x : Ext α H α' H') (g : Go K mg W rep α H r Q) : Go K mg W rep α' H' r Q := by
  cases r with
  | ok d ih => exact fun β v K x' => g β v K (x.trans x')
  | ex c ih => exact fun C β K hc x' => g C β K hc (x.trans x')
  | bad => exact g
theorem Go.mono (g : Go K mg W rep α H r Q) (h : ∀ v K, Q v K → Q' v K) : Go K mg W rep α H r Q' := by
  cases r with
  | ok d ih => exact fun β v K x r1 r2 => h _ _ (g β v K x r1 r2)
  | ex c ih => exact g
  | bad => exact g
/-- one after another -/
theorem Go.bind {f : β → IHp → R δ} {P : ε → Hp → Prop} (g : Go K mg W rep' α H (r.bind f) P) :
    Go K mg W rep α H r fun v H' => ∃ α' d ih', Ext α H α' H' ∧ RH K α' H' ih' ∧ rep α' H' d v ∧ Go K mg W rep' α' H' (f d ih') P := by
  cases r with
  | ok d ih => exact fun α' v H' x h q => ⟨α', d, ih, x, h, q, g.ext x⟩
  | ex c ih => exact g
  | bad => exact g
/-- the same, seen from further on -/
theorem Go.bind2 {f : β → IHp → R δ} {P : ε → Hp → Prop} (x : Ext α H α' H') (g : Go K mg W rep' α H (r.bind f) P) :
    Go K mg W rep α' H' r fun v H1 => ∃ α1 d ih1, Ext α' H' α1 H1 ∧ RH K α1 H1 ih1 ∧ rep α1 H1 d v ∧ Go K mg W rep' α H (f d ih1) P := by
  cases r with
  | ok d ih => exact fun α1 v H1 x1 h q => ⟨α1, d, ih, x1, h, q, g⟩
  | ex c ih => exact fun C α1 H1 hc x1 => g C α1 H1 hc (x.trans x1)
  | bad => exact g
theorem Go.ok {d : β} {ih : IHp} {v : γ} (h : RH K α H ih) (q : rep α H d v) (g : Go K mg W rep α H (.ok d ih) Q) : Q v H := g α v H Ext.refl h q
theorem Go.okE {d : β} {ih : IHp} {v : γ} (x : Ext α H α' H') (h : RH K α' H' ih) (q : rep α' H' d v) (g : Go K mg W rep α H (.ok d ih) Q) : Q v H' := g α' v H' x h q
end
abbrev repB : Al → Hp → Bool → Bool → Prop := fun _ _ b c => b = c

/-- readings of denotations -/
def rdE (X : Cx) (W : WX) (m : ME) : TE := fun σ H Q => ∃ α iσ ih, RH X.K α H ih ∧ RS X.K α H iσ σ ∧ Go X.K X.mg (fun c H' => W c none σ H') (Rep X.K) α H (m iσ ih) Q
def rdT (X : Cx) (W : WX) (m : MT) : TT := fun σ H Q => ∃ α iσ ih, RH X.K α H ih ∧ RS X.K α H iσ σ ∧ Go X.K X.mg (fun c H' => W c none σ H') repB α H (m iσ ih) Q
def rdA (X : Cx) (W : WX) (m : MA) : TA := fun σ H Q => ∃ α iσ ih, RH X.K α H ih ∧ RS X.K α H iσ σ ∧ Go X.K X.mg (fun c H' => W c none σ H') (Reps X.K) α H (m iσ ih) Q

theorem PE.mono {X : Cx} {e : Expr} {t t' : TE} (h : PE X e t) (f : ∀ σ H Q, t' σ H Q → t σ H Q) : PE X e t' := ⟨fun pins s σ H Q I q => h.run pins s σ H Q I (f σ H Q q)⟩
theorem PT.mono {X : Cx} {e : Expr} {t t' : TT} (h : PT X e t) (f : ∀ σ H Q, t' σ H Q → t σ H Q) : PT X e t' := ⟨fun pins s σ H Q I q => h.run pins s σ H Q I (f σ H Q q)⟩
theorem PA.mono {X : Cx} {e : List Expr} {t t' : TA} (h : PA X e t) (f : ∀ σ H Q, t' σ H Q → t σ H Q) : PA X e t' := ⟨fun pos pins s σ H Q I q => h.run pos pins s σ H Q I (f σ H Q q)⟩

/-- judgements: e is worth m -/
def DE (X : Cx) (e : Expr) (m : ME) : Prop := ∀ W, Takes X W → PE X e (rdE X W m)
def DT (X : Cx) (e : Expr) (m : MT) : Prop := ∀ W, Takes X W → PT X e (rdT X W m)
def DA (X : Cx) (es : List Expr) (m : MA) : Prop := ∀ W, Takes X W → PA X es (rdA X W m)
end Dn

set_option Elab.async false
set_option linter.all false
set_option maxRecDepth 100000
set_option maxHeartbeats 4000000
namespace Dn
open PySem PySem.Spec PyProof.Rows L2

/-! ### names, constants -/
def mVar (i : Nat) : ME := fun σ h => match σ[i]? with
  | some (some d) => .ok d h
  | _ => .bad
def mC (d : D) : ME := fun _ h => .ok d h
section
variable {X : Cx}
theorem de_var (i : Nat) {x : Str} {pos : Pos} (hN : X.N[i]? = some x := by rfl) (hv : Vis X.env.scope x := by first | exact Or.inl rfl | exact Or.inr (Or.inl rfl) | exact Or.inr (Or.inr rfl)) (hd : (x == ("__debug__" : Str)) = false := by decide)
    (hcd : (x == ("__classdict__" : Str)) = false := by decide) : DE X (.Name x pos) (mVar i) := fun W tk => PE.mono (pv i hN hv hd hcd) fun σ H Q ⟨α, iσ, ih, h, s, g⟩ => by
  unfold mVar at g
  split at g
  · next d e =>
    obtain ⟨v, e1, r⟩ := s.2 i d e
    exact ⟨v, e1, g.ok h r⟩
  · exact g.elim
theorem de_const {e : Expr} {d : D} {v : V} (p : PE X e (tC v)) (r : ∀ α H, Rep X.K α H d v) : DE X e (mC d) := fun W tk => PE.mono p fun σ H Q ⟨α, iσ, ih, h, s, g⟩ => g.ok h (r α H)
theorem de_int {i : Int} {j pos} : DE X (.Constant (.int i) j pos) (mC (.int i)) := de_const pe_int fun _ _ => .int i
theorem de_bl {b : Bool} {j pos} : DE X (.Constant (.bool b) j pos) (mC (.bl b)) := de_const pe_bl fun _ _ => .bl b
theorem de_non {j pos} : DE X (.Constant .none j pos) (mC .non) := de_const pe_non fun _ _ => .non
theorem de_str {x : Str} {j pos} : DE X (.Constant (.str x) j pos) (mC (.str x)) := de_const pe_str fun _ _ => .str x
/-- a constant of the module: an int, a text -/
theorem de_globI {x : Str} {i : Int} {t : Tok} {pos : Pos} (hg : Gl X x) (hm : X.mg x = some (.int i t)) (hd : (x == ("__debug__" : Str)) = false := by decide) : DE X (.Name x pos) (mC (.int i)) :=
  de_const (pe_glob (v := .int i) hg hm ⟨t, rfl⟩ hd) fun _ _ => .int i
theorem de_globS {x y : Str} {t : Tok} {pos : Pos} (hg : Gl X x) (hm : X.mg x = some (.str y t)) (hd : (x == ("__debug__" : Str)) = false := by decide) : DE X (.Name x pos) (mC (.str y)) :=
  de_const (pe_glob (v := .str y) hg hm ⟨t, rfl⟩ hd) fun _ _ => .str y

/-! ### arguments -/
def mNil : MA := fun _ h => .ok [] h
def mCons (m : ME) (ms : MA) : MA := fun σ h => (m σ h).bind fun d h => (ms σ h).bind fun ds h => .ok (d :: ds) h
theorem da_nil : DA X [] mNil := fun W tk => PA.mono pa_nil fun σ H Q ⟨α, iσ, ih, h, s, g⟩ => g.ok h .nil
theorem da_cons {e : Expr} {es : List Expr} {m : ME} {ms : MA} (ha : DE X e m) (hr : DA X es ms) (hs : starEach (e :: es) X.env = (false, eval e X.env) :: starEach es X.env := by rfl) : DA X (e :: es) (mCons m ms) := fun W tk =>
  PA.mono (pa_cons (ha W tk) (hr W tk) hs) fun σ H Q ⟨α, iσ, ih, h, s, g⟩ =>
    ⟨α, iσ, ih, h, s, g.bind.mono fun v H1 ⟨α1, d, ih1, x1, h1, r1, g1⟩ => ⟨α1, iσ, ih1, h1, s.ext h x1, g1.bind.mono fun vs H2 ⟨α2, ds, ih2, x2, h2, r2, g2⟩ =>
      g2.ok h2 (.cons (r1.ext h1 x2) r2)⟩⟩

/-! ### what a value operation gives: nothing raised, the live objects as they were -/
abbrev Fin1 (K : PySem.W.Frag) (α : Al) (H : Hp) (ih : IHp) (d : D) (Q : VK) : Prop := ∀ v H', Ext α H α H' → RH K α H' ih → Rep K α H' d v → Q v H'
def R.opt {β : Type} (o : Option β) (h : IHp) : R β := match o with
  | some d => .ok d h
  | none => .bad
theorem go_opt {K : PySem.W.Frag} {mg : Str → Option Value} {W : Value → Hp → Prop} {α : Al} {H : Hp} {o : Option D} {ih : IHp} {Q : VK} (g : Go K mg W (Rep K) α H (R.opt o ih) Q) :
    ∃ d, o = some d ∧ Fin1 K α H ih d Q := by
  cases o with
  | none => exact g.elim
  | some d => exact ⟨d, rfl, fun v H' x h r => g α v H' x h r⟩
theorem Fin1.here {K : PySem.W.Frag} {α : Al} {H : Hp} {ih : IHp} {d : D} {Q : VK} {v : V} (f : Fin1 K α H ih d Q) (h : RH K α H ih) (r : Rep K α H d v) : Q v H := f v H Ext.refl h r
/-- a new list, a new tuple -/
theorem Fin1.lst {K : PySem.W.Frag} {α : Al} {H : Hp} {ih : IHp} {ds : List D} {Q : VK} {vs : List V} (f : Fin1 K α H ih (.lst ds) Q) (h : RH K α H ih) (r : Reps K α H ds vs) {p : Addr} (n : H p = none) : Q (.ref p) (upd H p (.lst vs)) :=
  f _ _ (Ext.new n) (h.new n) (.lst ⟨.inl upd_same, h.free n, h.freeH n⟩ (r.ext h (Ext.new n)))
theorem Fin1.tup {K : PySem.W.Frag} {α : Al} {H : Hp} {ih : IHp} {ds : List D} {Q : VK} {vs : List V} (f : Fin1 K α H ih (.tup ds) Q) (h : RH K α H ih) (r : Reps K α H ds vs) {p : Addr} (n : H p = none) : Q (.ref p) (upd H p (.tup vs)) :=
  f _ _ (Ext.new n) (h.new n) (.tup (.inl (.inl upd_same)) (r.ext h (Ext.new n)))
/-- as Fin1, the value given beforehand -/
def Op2 := IHp → D → D → Option D
def OpD (X : Cx) (f : Value → Value → Sem Value) (g : Op2) : Prop := OpR X f fun x y H Q => ∃ α dx dy ih d, RH X.K α H ih ∧ Rep X.K α H dx x ∧ Rep X.K α H dy y ∧ g ih dx dy = some d ∧ Fin1 X.K α H ih d Q
def mOp (g : Op2) (ma mb : ME) : ME := fun σ h => (ma σ h).bind fun x h => (mb σ h).bind fun y h => R.opt (g h x y) h
theorem rd_op {W : WX} {ma mb : ME} {g : Op2} {f : Value → Value → Sem Value} (σ : L2.St) (H : Hp) (Q : VK) : rdE X W (mOp g ma mb) σ H Q → tOp (fun x y H Q => ∃ α dx dy ih d, RH X.K α H ih ∧ Rep X.K α H dx x ∧ Rep X.K α H dy y ∧ g ih dx dy = some d ∧ Fin1 X.K α H ih d Q) (rdE X W ma) (rdE X W mb) σ H Q :=
  fun ⟨α, iσ, ih, h, s, g⟩ => ⟨α, iσ, ih, h, s, g.bind.mono fun v H1 ⟨α1, d, ih1, x1, h1, r1, g1⟩ => ⟨α1, iσ, ih1, h1, s.ext h x1, g1.bind.mono fun vs H2 ⟨α2, ds, ih2, x2, h2, r2, g2⟩ =>
    let ⟨z, e, fz⟩ := go_opt g2
    ⟨α2, d, ds, ih2, z, h2, r1.ext h1 x2, r2, e, fz⟩⟩⟩
theorem de_op {op : Operator} {a b : Expr} {ma mb : ME} {g : Op2} {pos : Pos} (ho : OpD X (binaryOp op) g) (ha : DE X a ma) (hb : DE X b mb) : DE X (.BinOp a op b pos) (mOp g ma mb) := fun W tk =>
  PE.mono (pe_op ho (ha W tk) (hb W tk)) fun σ H Q q => rd_op (f := binaryOp op) σ H Q q
theorem de_cmp {op : CmpOp} {a b : Expr} {ma mb : ME} {g : Op2} {pos : Pos} (ho : OpD X (compareOp op) g) (ha : DE X a ma) (hb : DE X b mb) (hm : behindInMarks op b = false := by first | exact nomark _ | rfl) : DE X (.Compare a [op] [b] pos) (mOp g ma mb) := fun W tk =>
  PE.mono (pe_cmpR ho (ha W tk) (hb W tk) hm) fun σ H Q q => rd_op (f := compareOp op) σ H Q q

/-! ### tests -/
/-- a flag -/
def mB (m : ME) : MT := fun σ h => (m σ h).bind fun d h => match d with
  | .bl b => .ok b h
  | _ => .bad
theorem rd_B {W : WX} {m : ME} (σ : L2.St) (H : Hp) (Q : Bool → Hp → Prop) : rdT X W (mB m) σ H Q → rdE X W m σ H fun x H1 => ∃ k, x = .bl k ∧ Q k H1 :=
  fun ⟨α, iσ, ih, h, s, g⟩ => ⟨α, iσ, ih, h, s, g.bind.mono fun v H1 ⟨α1, d, ih1, x1, h1, r1, g1⟩ => by
    cases d <;> first | exact g1.elim | skip
    cases r1
    exact ⟨_, rfl, g1.ok h1 rfl⟩⟩
theorem dt_cmp {op : CmpOp} {a b : Expr} {ma mb : ME} {g : Op2} {pos : Pos} (ho : OpD X (compareOp op) g) (ha : DE X a ma) (hb : DE X b mb) (hm : behindInMarks op b = false := by first | exact nomark _ | rfl) : DT X (.Compare a [op] [b] pos) (mB (mOp g ma mb)) := fun W tk =>
  PT.mono (pt_cmpR ho (ha W tk) (hb W tk) hm) fun σ H Q q => rd_op (f := compareOp op) σ H _ (rd_B σ H Q q)
theorem dt_val {e : Expr} {m : ME} (h : DE X e m) (he : ∀ whole, isTrue e X.env whole = (do let v ← whole; standAt e.pos; holding [v] (truthy v)) := by intro _; rfl) : DT X e (mB m) := fun W tk =>
  PT.mono (pt_val (h W tk) he) fun σ H Q q => rd_B σ H Q q
/-- by truth -/
def truD (h : IHp) : D → Option Bool
  | .non => some false
  | .bl b => some b
  | .int i => some (i != 0)
  | .str y => if y.length ≤ sizeLine then some ((y.length : Int) != 0) else none
  | .tup ds => some !ds.isEmpty
  | .lst ds => some !ds.isEmpty
  | .ref n => match h[n]? with
    | some (.lst ds) => some !ds.isEmpty
    | _ => none
  | .scr _ => none
  | .dic _ _ => none
def mTru (m : ME) : MT := fun σ h => (m σ h).bind fun d h => R.opt (truD h d) h
theorem Reps.isEmpty {K : PySem.W.Frag} {α : Al} {H : Hp} {ds : List D} {vs : List V} (r : Reps K α H ds vs) : ds.isEmpty = vs.isEmpty := by cases r <;> rfl
theorem tru_rep {K : PySem.W.Frag} {α : Al} {H : Hp} {ih : IHp} {d : D} {v : V} {b : Bool} (h : RH K α H ih) (r : Rep K α H d v) (e : truD ih d = some b) : TruV K v H b := by
  cases r with
  | non => cases e; rfl
  | bl c => cases e; rfl
  | int i => cases e; rfl
  | str y =>
    have e' : (if y.length ≤ sizeLine then some ((y.length : Int) != 0) else none) = some b := e
    split at e'
    · next hz => cases e'; exact ⟨hz, rfl⟩
    · cases e'
  | tup q rs => cases e; exact .inr (.inl ⟨_, q, by rw [rs.isEmpty]⟩)
  | lst q rs => cases e; exact .inl ⟨_, q.seq, by rw [rs.isEmpty]⟩
  | scr q rs => cases e
  | dic q e1 rs => cases e
  | ref ea nt0 =>
    unfold truD at e
    dsimp only at e
    split at e
    · next ds eo =>
      cases e
      obtain ⟨a, ho, e1, e2, e3⟩ := h.ob _ _ eo
      rw [ea] at e1; cases e1
      obtain ⟨vs, rfl, rs⟩ := e3.lst
      exact .inl ⟨vs, .inl (.inl e2), by rw [rs.isEmpty]⟩
    · cases e
theorem dt_tru {e : Expr} {m : ME} (h : DE X e m) (he : ∀ whole, isTrue e X.env whole = (do let v ← whole; standAt e.pos; holding [v] (truthy v)) := by intro _; rfl) : DT X e (mTru m) := fun W tk =>
  PT.mono (pt_truth (h W tk) he) fun σ H Q ⟨α, iσ, ih, h, s, g⟩ => ⟨α, iσ, ih, h, s, g.bind.mono fun v H1 ⟨α1, d, ih1, x1, h1, r1, g1⟩ => by
    cases et : truD ih1 d with
    | none => rw [et] at g1; exact g1.elim
    | some b => rw [et] at g1; exact ⟨b, tru_rep h1 r1 et, g1.ok h1 rfl⟩⟩
def mAnd (a b : MT) : MT := fun σ h => (a σ h).bind fun c h => if c = true then b σ h else .ok false h
def mOr (a b : MT) : MT := fun σ h => (a σ h).bind fun c h => if c = true then .ok true h else b σ h
def mNot (a : MT) : MT := fun σ h => (a σ h).bind fun c h => .ok (!c) h
/-- and, or: of any whole -/
def DW (X : Cx) (e : Expr) (m : MT) : Prop := ∀ W, Takes X W → PW X e (rdT X W m)
theorem DW.dt {e : Expr} {m : MT} (h : DW X e m) : DT X e m := fun W tk => (h W tk).pt
theorem PW.mono {e : Expr} {t t' : TT} (h : PW X e t) (f : ∀ σ H Q, t' σ H Q → t σ H Q) : PW X e t' := ⟨fun wh pins s σ H Q I q => h.run wh pins s σ H Q I (f σ H Q q)⟩
theorem dw_and1 {a : Expr} {m : MT} {pos : Pos} (ha : DT X a m) : DW X (.BoolOp .And [a] pos) m := fun W tk => pw_and1 (ha W tk)
theorem dw_or1 {a : Expr} {m : MT} {pos : Pos} (ha : DT X a m) : DW X (.BoolOp .Or [a] pos) m := fun W tk => pw_or1 (ha W tk)
theorem dw_and {a b : Expr} {rest : List Expr} {m m' : MT} {pos : Pos} (ha : DT X a m) (hb : DW X (.BoolOp .And (b :: rest) pos) m') : DW X (.BoolOp .And (a :: b :: rest) pos) (mAnd m m') := fun W tk =>
  PW.mono (pw_and (ha W tk) (hb W tk)) fun σ H Q ⟨α, iσ, ih, h, s, g⟩ => ⟨α, iσ, ih, h, s, g.bind.mono fun c H1 ⟨α1, d, ih1, x1, h1, r1, g1⟩ => by
    cases r1
    cases c with
    | true => exact ⟨α1, iσ, ih1, h1, s.ext h x1, g1⟩
    | false => exact g1.ok h1 rfl⟩
theorem dw_or {a b : Expr} {rest : List Expr} {m m' : MT} {pos : Pos} (ha : DT X a m) (hb : DW X (.BoolOp .Or (b :: rest) pos) m') : DW X (.BoolOp .Or (a :: b :: rest) pos) (mOr m m') := fun W tk =>
  PW.mono (pw_or (ha W tk) (hb W tk)) fun σ H Q ⟨α, iσ, ih, h, s, g⟩ => ⟨α, iσ, ih, h, s, g.bind.mono fun c H1 ⟨α1, d, ih1, x1, h1, r1, g1⟩ => by
    cases r1
    cases c with
    | true => exact g1.ok h1 rfl
    | false => exact ⟨α1, iσ, ih1, h1, s.ext h x1, g1⟩⟩
theorem dt_not {a : Expr} {m : MT} {pos : Pos} (ha : DT X a m) : DT X (.UnaryOp .Not a pos) (mNot m) := fun W tk =>
  PT.mono (pt_not (ha W tk)) fun σ H Q ⟨α, iσ, ih, h, s, g⟩ => ⟨α, iσ, ih, h, s, g.bind.mono fun c H1 ⟨α1, d, ih1, x1, h1, r1, g1⟩ => by
    cases r1
    exact g1.ok h1 rfl⟩
/-- .. as values: flags -/
def mAndV (a b : ME) : ME := fun σ h => (a σ h).bind fun c h => match c with
  | .bl true => b σ h
  | .bl false => .ok (.bl false) h
  | _ => .bad
def mOrV (a b : ME) : ME := fun σ h => (a σ h).bind fun c h => match c with
  | .bl true => .ok (.bl true) h
  | .bl false => b σ h
  | _ => .bad
def mNotV (a : ME) : ME := fun σ h => (a σ h).bind fun c h => match c with
  | .bl b => .ok (.bl (!b)) h
  | _ => .bad
theorem de_one {op} {a : Expr} {m : ME} {pos : Pos} (ha : DE X a m) : DE X (.BoolOp op [a] pos) m := fun W tk => pe_one (ha W tk)
theorem de_and {a b : Expr} {rest : List Expr} {m m' : ME} {pos : Pos} (ha : DE X a m) (hb : DE X (.BoolOp .And (b :: rest) pos) m') : DE X (.BoolOp .And (a :: b :: rest) pos) (mAndV m m') := fun W tk =>
  PE.mono (pe_and (ha W tk) (hb W tk)) fun σ H Q ⟨α, iσ, ih, h, s, g⟩ => ⟨α, iσ, ih, h, s, g.bind.mono fun v H1 ⟨α1, d, ih1, x1, h1, r1, g1⟩ => by
    obtain ⟨b, rfl, rfl⟩ : ∃ b, d = .bl b ∧ v = .bl b := by cases r1 <;> first | exact g1.elim | exact ⟨_, rfl, rfl⟩
    cases b with
    | true => exact ⟨_, rfl, ⟨α1, iσ, ih1, h1, s.ext h x1, g1⟩⟩
    | false => exact ⟨_, rfl, g1.ok h1 (.bl _)⟩⟩
theorem de_or {a b : Expr} {rest : List Expr} {m m' : ME} {pos : Pos} (ha : DE X a m) (hb : DE X (.BoolOp .Or (b :: rest) pos) m') : DE X (.BoolOp .Or (a :: b :: rest) pos) (mOrV m m') := fun W tk =>
  PE.mono (pe_or (ha W tk) (hb W tk)) fun σ H Q ⟨α, iσ, ih, h, s, g⟩ => ⟨α, iσ, ih, h, s, g.bind.mono fun v H1 ⟨α1, d, ih1, x1, h1, r1, g1⟩ => by
    obtain ⟨b, rfl, rfl⟩ : ∃ b, d = .bl b ∧ v = .bl b := by cases r1 <;> first | exact g1.elim | exact ⟨_, rfl, rfl⟩
    cases b with
    | true => exact ⟨_, rfl, g1.ok h1 (.bl _)⟩
    | false => exact ⟨_, rfl, ⟨α1, iσ, ih1, h1, s.ext h x1, g1⟩⟩⟩
theorem de_not {a : Expr} {m : ME} {pos : Pos} (ha : DE X a m) : DE X (.UnaryOp .Not a pos) (mNotV m) := fun W tk =>
  PE.mono (pe_not (ha W tk)) fun σ H Q ⟨α, iσ, ih, h, s, g⟩ => ⟨α, iσ, ih, h, s, g.bind.mono fun v H1 ⟨α1, d, ih1, x1, h1, r1, g1⟩ => by
    cases r1 <;> first | exact g1.elim | skip
    exact ⟨_, rfl, g1.ok h1 (.bl _)⟩⟩
/-- a if t else b -/
def mIf (t : MT) (a b : ME) : ME := fun σ h => (t σ h).bind fun c h => if c = true then a σ h else b σ h
theorem de_if {c a b : Expr} {t : MT} {ma mb : ME} {pos : Pos} (hc : DT X c t) (ha : DE X a ma) (hb : DE X b mb) : DE X (.IfExp c a b pos) (mIf t ma mb) := fun W tk =>
  PE.mono (pe_ifExp (hc W tk) (ha W tk) (hb W tk)) fun σ H Q ⟨α, iσ, ih, h, s, g⟩ => ⟨α, iσ, ih, h, s, g.bind.mono fun c H1 ⟨α1, d, ih1, x1, h1, r1, g1⟩ => by
    cases r1
    cases c with
    | true => exact ⟨α1, iσ, ih1, h1, s.ext h x1, g1⟩
    | false => exact ⟨α1, iσ, ih1, h1, s.ext h x1, g1⟩⟩
/-- two comparisons in a row -/
def mChain (g g' : Op2) (ma mb mc : ME) : ME := fun σ h => (ma σ h).bind fun x h => (mb σ h).bind fun y h => (R.opt (g h x y) h).bind fun z h => match z with
  | .bl true => (mc σ h).bind fun w h => R.opt (g' h y w) h
  | .bl false => .ok (.bl false) h
  | _ => .bad
theorem rd_chain {W : WX} {g g' : Op2} {ma mb mc : ME} (σ : L2.St) (H : Hp) (Q : VK) : rdE X W (mChain g g' ma mb mc) σ H Q →
    tChain (fun x y H Q => ∃ α dx dy ih d, RH X.K α H ih ∧ Rep X.K α H dx x ∧ Rep X.K α H dy y ∧ g ih dx dy = some d ∧ Fin1 X.K α H ih d Q)
      (fun x y H Q => ∃ α dx dy ih d, RH X.K α H ih ∧ Rep X.K α H dx x ∧ Rep X.K α H dy y ∧ g' ih dx dy = some d ∧ Fin1 X.K α H ih d Q) (rdE X W ma) (rdE X W mb) (rdE X W mc) σ H Q :=
  fun ⟨α, iσ, ih, h, s, g⟩ => ⟨α, iσ, ih, h, s, g.bind.mono fun v H1 ⟨α1, d1, ih1, x1, h1, r1, g1⟩ => ⟨α1, iσ, ih1, h1, s.ext h x1, g1.bind.mono fun v2 H2 ⟨α2, d2, ih2, x2, h2, r2, g2⟩ => by
    obtain ⟨z, e, fz⟩ := go_opt g2.bind
    refine ⟨α2, d1, d2, ih2, z, h2, r1.ext h1 x2, r2, e, fun v3 H3 x3 h3 r3 => ?_⟩
    obtain ⟨α4, d4, ih4, x4, h4, r4, g4⟩ := fz v3 H3 x3 h3 r3
    obtain ⟨b, rfl, rfl⟩ : ∃ b, d4 = .bl b ∧ v3 = .bl b := by cases r4 <;> first | exact g4.elim | exact ⟨_, rfl, rfl⟩
    refine ⟨b, rfl, ?_⟩
    cases b with
    | true =>
      rw [if_pos rfl]
      have s4 := ((s.ext h x1).ext h1 x2).ext h2 x4
      refine ⟨α4, iσ, ih4, h4, s4, g4.bind.mono fun v5 H5 ⟨α5, d5, ih5, x5, h5, r5, g5⟩ => ?_⟩
      obtain ⟨z', e', fz'⟩ := go_opt g5
      exact ⟨α5, d2, d5, ih5, z', h5, (r2.ext h2 x4).ext h4 x5, r5, e', fz'⟩
    | false => exact iteF (g4.ok h4 (.bl _))⟩⟩
theorem de_chain {op op' : CmpOp} {a b c : Expr} {g g' : Op2} {ma mb mc : ME} {pos : Pos} (ho : OpD X (compareOp op) g) (ho' : OpD X (compareOp op') g') (ha : DE X a ma) (hb : DE X b mb) (hc : DE X c mc)
    (hm : lastMarks [op, op'] [b, c] = false := by with_unfolding_all rfl) : DE X (.Compare a [op, op'] [b, c] pos) (mChain g g' ma mb mc) := fun W tk =>
  PE.mono (pe_chain ho ho' (ha W tk) (hb W tk) (hc W tk) hm) fun σ H Q q => rd_chain σ H Q q
theorem dt_chain {op op' : CmpOp} {a b c : Expr} {g g' : Op2} {ma mb mc : ME} {pos : Pos} (ho : OpD X (compareOp op) g) (ho' : OpD X (compareOp op') g') (ha : DE X a ma) (hb : DE X b mb) (hc : DE X c mc)
    (hm : lastMarks [op, op'] [b, c] = false := by with_unfolding_all rfl) : DT X (.Compare a [op, op'] [b, c] pos) (mB (mChain g g' ma mb mc)) := fun W tk =>
  PT.mono (pt_chain ho ho' (ha W tk) (hb W tk) (hc W tk) hm) fun σ H Q q => rd_chain σ H _ (rd_B σ H Q q)

/-! ### tuples, lists -/
def mTup (ms : MA) : ME := fun σ h => (ms σ h).bind fun ds h => if ds.length ≤ sizeLine then .ok (.tup ds) h else .bad
def mLst (ms : MA) : ME := fun σ h => (ms σ h).bind fun ds h => if ds.length ≤ sizeLine then .ok (.lst ds) h else .bad
/-- a list that will be changed -/
def mNew (ms : MA) : ME := fun σ h => (ms σ h).bind fun ds h => if ds.length ≤ sizeLine then .ok (.ref h.length) (h ++ [.lst ds]) else .bad
theorem de_tup {es : List Expr} {ms : MA} {x1} {pos : Pos} (ha : DA X es ms) : DE X (.Tuple es x1 pos) (mTup ms) := fun W tk =>
  PE.mono (pe_tup (ha W tk)) fun σ H Q ⟨α, iσ, ih, h, s, g⟩ => ⟨α, iσ, ih, h, s, g.bind.mono fun vs H1 ⟨α1, ds, ih1, x1, h1, r1, g1⟩ => by
    split at g1
    · next hz =>
      refine ⟨by rw [← r1.length]; exact hz, fun p n => ?_⟩
      exact Fin1.tup (fun v H' x h r => g1 _ v H' x h r) h1 r1 n
    · exact g1.elim⟩
theorem de_lst {es : List Expr} {ms : MA} {pos : Pos} (ha : DA X es ms) : DE X (.List es pos) (mLst ms) := fun W tk =>
  PE.mono (pe_lst (ha W tk)) fun σ H Q ⟨α, iσ, ih, h, s, g⟩ => ⟨α, iσ, ih, h, s, g.bind.mono fun vs H1 ⟨α1, ds, ih1, x1, h1, r1, g1⟩ => by
    split at g1
    · next hz =>
      refine ⟨by rw [← r1.length]; exact hz, fun p n => ?_⟩
      exact Fin1.lst (fun v H' x h r => g1 _ v H' x h r) h1 r1 n
    · exact g1.elim⟩
theorem de_new {es : List Expr} {ms : MA} {pos : Pos} (ha : DA X es ms) : DE X (.List es pos) (mNew ms) := fun W tk =>
  PE.mono (pe_lst (ha W tk)) fun σ H Q ⟨α, iσ, ih, h, s, g⟩ => ⟨α, iσ, ih, h, s, g.bind.mono fun vs H1 ⟨α1, ds, ih1, x1, h1, r1, g1⟩ => by
    split at g1
    · next hz =>
      refine ⟨by rw [← r1.length]; exact hz, fun p n => ?_⟩
      exact g1 (α1.add p) _ _ (Ext.live n) (h1.live n (ho := .lst vs) r1) (.ref (by unfold Al.add; rw [← h1.len, List.getElem?_append_right (Nat.le_refl _), Nat.sub_self]; rfl) ⟨_, upd_same, fun _ e => by cases e⟩)
    · exact g1.elim⟩

/-! ### reading lists -/
def lstOf (h : IHp) : D → Option (List D)
  | .lst ds => some ds
  | .ref n => match h[n]? with
    | some (.lst ds) => some ds
    | _ => none
  | _ => none
def tupOf : D → Option (List D)
  | .tup ds => some ds
  | _ => none
theorem lst_rep {K : PySem.W.Frag} {α : Al} {H : Hp} {ih : IHp} {d : D} {v : V} {ds : List D} (h : RH K α H ih) (r : Rep K α H d v) (e : lstOf ih d = some ds) : ∃ a vs, v = .ref a ∧ Rd H a (.lst vs) ∧ Reps K α H ds vs := by
  cases r with
  | non => cases e
  | bl c => cases e
  | int i => cases e
  | str y => cases e
  | tup q rs => cases e
  | lst q rs => cases e; exact ⟨_, _, rfl, q.1, rs⟩
  | scr q rs => cases e
  | dic q e1 rs => cases e
  | ref ea nt0 =>
    unfold lstOf at e
    dsimp only at e
    split at e
    · next ds' eo =>
      cases e
      obtain ⟨a, ho, e1, e2, e3⟩ := h.ob _ _ eo
      rw [ea] at e1; cases e1
      obtain ⟨vs, rfl, rs⟩ := e3.lst
      exact ⟨_, vs, rfl, .inl e2, rs⟩
    · cases e
theorem tup_rep {K : PySem.W.Frag} {α : Al} {H : Hp} {d : D} {v : V} {ds : List D} (r : Rep K α H d v) (e : tupOf d = some ds) : ∃ a vs, v = .ref a ∧ SqT K H a vs ∧ Reps K α H ds vs := by
  cases r with
  | tup q rs => cases e; exact ⟨_, _, rfl, q, rs⟩
  | _ => cases e
def seqOf (h : IHp) (d : D) : Option (List D) := match d with
  | .tup ds => some ds
  | d => lstOf h d
theorem seq_rep {K : PySem.W.Frag} {α : Al} {H : Hp} {ih : IHp} {d : D} {v : V} {ds : List D} (h : RH K α H ih) (r : Rep K α H d v) (e : seqOf ih d = some ds) : ∃ a vs, v = .ref a ∧ (SqL K H a vs ∨ SqT K H a vs) ∧ Reps K α H ds vs := by
  unfold seqOf at e
  split at e
  · obtain ⟨a, vs, e1, q, rs⟩ := tup_rep r e
    exact ⟨a, vs, e1, .inr q, rs⟩
  · obtain ⟨a, vs, e1, q, rs⟩ := lst_rep h r e
    exact ⟨a, vs, e1, .inl (.inl q), rs⟩
theorem Reps.atI {K : PySem.W.Frag} {α : Al} {H : Hp} {ds : List D} {vs : List V} {i : Int} {d : D} (r : Reps K α H ds vs) (e : L2.atI ds i = some d) : ∃ v, L2.atI vs i = some v ∧ Rep K α H d v := by
  unfold L2.atI at e ⊢
  rw [r.length] at e
  cases q : ixN vs.length i with
  | none => rw [q] at e; cases e
  | some j =>
    rw [q] at e
    obtain ⟨v, e1, e2⟩ := r.get (i := j) e
    exact ⟨v, e1, e2⟩
def gIx : Op2 := fun h x y => match y with
  | .int i => (seqOf h x).bind fun ds => L2.atI ds i
  | _ => none
def IxD (X : Cx) (g : Op2) : Prop := IxR X fun x y H Q => ∃ α dx dy ih d, RH X.K α H ih ∧ Rep X.K α H dx x ∧ Rep X.K α H dy y ∧ g ih dx dy = some d ∧ Fin1 X.K α H ih d Q
theorem ix_D : IxD X gIx := fun value slice pins s σ H x y v u Q I rx ry h => by
  obtain ⟨α, dx, dy, ih, d, hh, r1, r2, e, f⟩ := h
  refine ix_seq value slice pins s σ H x y v u Q I rx ry ?_
  cases r2 <;> first | (cases e; done) | skip
  next i =>
  unfold gIx at e
  dsimp only at e
  cases es : seqOf ih dx with
  | none => rw [es] at e; cases e
  | some ds =>
    rw [es] at e
    obtain ⟨a, vs, e1, q, rs⟩ := seq_rep hh r1 es
    subst e1
    obtain ⟨z, e2, rz⟩ := rs.atI (i := i) (d := d) e
    rcases q with q | q
    · exact .inl ⟨_, _, _, z, rfl, rfl, q, e2, f.here hh rz⟩
    · exact .inr (.inl ⟨_, _, _, z, rfl, rfl, q, e2, f.here hh rz⟩)
theorem de_ix {a b : Expr} {ma mb : ME} {pos : Pos} (ha : DE X a ma) (hb : DE X b mb) (hs : PlainIx b := by intro _ _; rfl) : DE X (.Subscript a b pos) (mOp gIx ma mb) := fun W tk =>
  PE.mono (pe_ix ix_D (ha W tk) (hb W tk) hs) fun σ H Q q => rd_op (f := binaryOp .Add) σ H Q q
/-! slices -/
def cutD (xs : List D) (lo hi : Option Int) : List D := (xs.drop (HT.sIx xs.length 0 lo)).take (HT.sIx xs.length xs.length hi - HT.sIx xs.length 0 lo)
theorem Reps.cut {K : PySem.W.Frag} {α : Al} {H : Hp} {ds : List D} {vs : List V} (r : Reps K α H ds vs) (lo hi : Option Int) : Reps K α H (cutD ds lo hi) (cutV vs lo hi) := by
  unfold cutD cutV
  rw [r.length]
  exact (r.drop _).take _
abbrev MO := ISt → IHp → R (Option Int)
def mPart (m : ME) : MO := fun σ h => (m σ h).bind fun d h => match d with
  | .int i => .ok (some i) h
  | _ => .bad
def mNoPart : MO := fun _ h => .ok none h
abbrev repI : Al → Hp → Option Int → Option Int → Prop := fun _ _ b c => b = c
def rdO (X : Cx) (W : WX) (m : MO) : TO := fun σ H Q => ∃ α iσ ih, RH X.K α H ih ∧ RS X.K α H iσ σ ∧ Go X.K X.mg (fun c H' => W c none σ H') repI α H (m iσ ih) Q
def DO (X : Cx) (e : Option Expr) (m : MO) : Prop := ∀ W, Takes X W → PO X e (rdO X W m)
theorem PO.mono {e : Option Expr} {t t' : TO} (h : PO X e t) (f : ∀ σ H Q, t' σ H Q → t σ H Q) : PO X e t' := ⟨fun pins s σ H Q I q => h.run pins s σ H Q I (f σ H Q q)⟩
theorem do_none : DO X none mNoPart := fun W tk => PO.mono po_none fun σ H Q ⟨α, iσ, ih, h, s, g⟩ => g.ok h rfl
theorem do_some {e : Expr} {m : ME} (ha : DE X e m) : DO X (some e) (mPart m) := fun W tk => PO.mono (po_some (ha W tk)) fun σ H Q ⟨α, iσ, ih, h, s, g⟩ =>
  ⟨α, iσ, ih, h, s, g.bind.mono fun v H1 ⟨α1, d, ih1, x1, h1, r1, g1⟩ => by
    cases r1 <;> first | exact g1.elim | skip
    exact ⟨_, rfl, g1.ok h1 rfl⟩⟩
def gSl (h : IHp) (d : D) (lo hi : Option Int) : Option D := match d with
  | .tup ds => some (.tup (cutD ds lo hi))
  | .scr ds => some (.lst (cutD ds lo hi))
  | d => (lstOf h d).map fun ds => .lst (cutD ds lo hi)
theorem cut_whole {β : Type} (xs : List β) (lo hi : Option Int) (h : HT.sIx xs.length 0 lo = 0 ∧ HT.sIx xs.length xs.length hi = xs.length) : (xs.drop (HT.sIx xs.length 0 lo)).take (HT.sIx xs.length xs.length hi - HT.sIx xs.length 0 lo) = xs := by
  rw [h.1, h.2]
  simp
def SlD (X : Cx) : Prop := SlR X fun x lo hi H Q => ∃ α dx ih d, RH X.K α H ih ∧ Rep X.K α H dx x ∧ gSl ih dx lo hi = some d ∧ Fin1 X.K α H ih d Q
theorem sl_D : SlD X := fun pins s σ H x v vl vu lo hi sl Q I rx hs p1 p2 h => by
  obtain ⟨α, dx, ih, d, hh, r1, e, f⟩ := h
  unfold gSl at e
  split at e
  · next ds =>
    cases e
    cases r1 with
    | tup q rs =>
    refine sl_tupA pins s σ H _ v vl vu lo hi sl Q I rx hs p1 p2 ⟨_, _, rfl, q, fun w => f.here hh (.tup q ?_), fun w p n => f.tup hh (rs.cut lo hi) n⟩
    have e1 : cutD ds lo hi = ds := cut_whole ds lo hi (by rw [rs.length]; exact w)
    rw [e1]; exact rs
  · next ds =>
    cases e
    cases r1 with
    | scr q rs => exact sl_list pins s σ H _ v vl vu lo hi sl Q I rx hs p1 p2 ⟨_, _, rfl, q.seq, fun p n => f.lst hh (rs.cut lo hi) n⟩
  · cases es : lstOf ih dx with
    | none => rw [es] at e; cases e
    | some ds =>
      rw [es] at e
      cases e
      obtain ⟨a, vs, e1, q, rs⟩ := lst_rep hh r1 es
      subst e1
      exact sl_list pins s σ H _ v vl vu lo hi sl Q I rx hs p1 p2 ⟨_, _, rfl, .inl q, fun p n => f.lst hh (rs.cut lo hi) n⟩
def mSl (m : ME) (ml mu : MO) : ME := fun σ h => (m σ h).bind fun x h => (ml σ h).bind fun lo h => (mu σ h).bind fun hi h => R.opt (gSl h x lo hi) h
theorem de_slice {e : Expr} {lo hi : Option Expr} {m : ME} {ml mu : MO} {pos p2 : Pos} (he : DE X e m) (hl : DO X lo ml) (hu : DO X hi mu) : DE X (.Subscript e (.Slice lo hi none p2) pos) (mSl m ml mu) := fun W tk =>
  PE.mono (pe_slice sl_D (he W tk) (hl W tk) (hu W tk)) fun σ H Q ⟨α, iσ, ih, h, s, g⟩ => ⟨α, iσ, ih, h, s, g.bind.mono fun v H1 ⟨α1, d1, ih1, x1, h1, r1, g1⟩ =>
    ⟨α1, iσ, ih1, h1, s.ext h x1, g1.bind.mono fun v2 H2 ⟨α2, d2, ih2, x2, h2, r2, g2⟩ => ⟨α2, iσ, ih2, h2, (s.ext h x1).ext h1 x2, g2.bind.mono fun v3 H3 ⟨α3, d3, ih3, x3, h3, r3, g3⟩ => by
      cases r2
      cases r3
      obtain ⟨z, e, fz⟩ := go_opt g3
      exact ⟨α3, d1, ih3, z, h3, (r1.ext h1 x2).ext h2 x3, e, fz⟩⟩⟩⟩
end
end Dn

set_option Elab.async false
set_option linter.all false
set_option maxRecDepth 100000
set_option maxHeartbeats 4000000
namespace Dn
open PySem PySem.Spec PyProof.Rows L2

/-! ### what a statement gives -/
inductive RT where
  | nx (s : ISt) (h : IHp) | rt (d : D) (h : IHp) | bk (s : ISt) (h : IHp) | ct (s : ISt) (h : IHp) | ex (c : Str) (s : ISt) (h : IHp) | bad
abbrev MS := ISt → IHp → RT
def bindS {β : Type} (r : R β) (s : ISt) (f : β → IHp → RT) : RT := match r with
  | .ok a h => f a h
  | .ex c h => .ex c s h
  | .bad => .bad
@[simp] theorem bindS_ok {β : Type} (a : β) (h : IHp) (s : ISt) (f : β → IHp → RT) : bindS (.ok a h) s f = f a h := (rfl)
@[simp] theorem bindS_ex {β : Type} (c : Str) (h : IHp) (s : ISt) (f : β → IHp → RT) : bindS (.ex c h : R β) s f = .ex c s h := (rfl)
@[simp] theorem bindS_bad {β : Type} (s : ISt) (f : β → IHp → RT) : bindS (.bad : R β) s f = .bad := (rfl)
def GoS (K : PySem.W.Frag) (mg : Str → Option Value) (W : WX) (α : Al) (H : Hp) (r : RT) (D : Ends) : Prop :=
  match r with
  | .nx s h => ∀ α' σ' H', Ext α H α' H' → RH K α' H' h → RS K α' H' s σ' → D.nx σ' H'
  | .bk s h => ∀ α' σ' H', Ext α H α' H' → RH K α' H' h → RS K α' H' s σ' → D.bk σ' H'
  | .ct s h => ∀ α' σ' H', Ext α H α' H' → RH K α' H' h → RS K α' H' s σ' → D.ct σ' H'
  | .rt d h => ∀ α' v H', Ext α H α' H' → RH K α' H' h → Rep K α' H' d v → D.rt v H'
  | .ex c s h => ∀ C α' σ' H', mg c = some (.ref C) → Ext α H α' H' → RH K α' H' h → RS K α' H' s σ' → W (.ref C) none σ' H'
  | .bad => False
section
variable {K : PySem.W.Frag} {mg : Str → Option Value} {W : WX} {β γ : Type} {rep : Al → Hp → β → γ → Prop} {α α' : Al} {H H' : Hp} {D D' : Ends} {r : RT}
theorem GoS.ext (x : Ext α H α' H') (g : GoS K mg W α H r D) : GoS K mg W α' H' r D := by
  cases r with
  | nx s h => exact fun β σ K x' => g β σ K (x.trans x')
  | bk s h => exact fun β σ K x' => g β σ K (x.trans x')
  | ct s h => exact fun β σ K x' => g β σ K (x.trans x')
  | rt d h => exact fun β v K x' => g β v K (x.trans x')
  | ex c s h => exact fun C β σ K hc x' => g C β σ K hc (x.trans x')
  | bad => exact g
theorem GoS.bind {q : R β} {s : ISt} {σ : L2.St} {ih : IHp} {f : β → IHp → RT} (h : RH K α H ih) (hs : RS K α H s σ) (g : GoS K mg W α H (bindS q s f) D) :
    Go K mg (fun c H' => W c none σ H') rep α H q fun v H' => ∃ α' d ih', Ext α H α' H' ∧ RH K α' H' ih' ∧ rep α' H' d v ∧ GoS K mg W α' H' (f d ih') D := by
  cases q with
  | ok d ih => exact fun α' v H' x h q => ⟨α', d, ih, x, h, q, g.ext x⟩
  | ex c ih => exact fun C α' H' hc x h' => g C α' σ H' hc x h' (hs.ext h x)
  | bad => exact g
end
def rdS (X : Cx) (W : WX) (m : MS) : TS := fun D σ H => ∃ α iσ ih, RH X.K α H ih ∧ RS X.K α H iσ σ ∧ GoS X.K X.mg W α H (m iσ ih) D
theorem PS.mono {X : Cx} {e : Stmt} {t t' : TS} (h : PS X e t) (f : ∀ D σ H, t' D σ H → t D σ H) : PS X e t' := ⟨fun pins s σ H D I q => h.run pins s σ H D I (f D σ H q)⟩
theorem PSs.mono {X : Cx} {e : List Stmt} {t t' : TS} (h : PSs X e t) (f : ∀ D σ H, t' D σ H → t D σ H) : PSs X e t' := ⟨fun pins s σ H D I q => h.run pins s σ H D I (f D σ H q)⟩
theorem PI.mono {X : Cx} {tg e : Expr} {t t' : TI} (h : PI X tg e t) (f : ∀ σ H R, t' σ H R → t σ H R) : PI X tg e t' := ⟨fun pins s σ H R I q => h.run pins s σ H R I (f σ H R q)⟩
theorem PG.mono {X : Cx} {tg : Expr} {t t' : TG} (h : PG X tg t) (f : ∀ v σ H Q, t' v σ H Q → t v σ H Q) : PG X tg t' := ⟨fun pins s σ H v u Q I r q => h.run pins s σ H v u Q I r (f v σ H Q q)⟩
theorem PGs.mono {X : Cx} {tg : List Expr} {t t' : TGs} (h : PGs X tg t) (f : ∀ v σ H Q, t' v σ H Q → t v σ H Q) : PGs X tg t' := ⟨fun pins s σ H v u Q I r q => h.run pins s σ H v u Q I r (f v σ H Q q)⟩
/-- what stands behind every statement rule: no name twice, not in a suite, exceptions go up -/
structure Okx (fb : Bool) (X : Cx) : Prop where
  calm : X.calm = true
  nd : X.N.Nodup
  ps : PassesOwn (model X.prog X.w) X.A X.env X.xe
  gd : fb = true → X.A.guards = some []
def DS (X : Cx) (st : Stmt) (m : MS) : Prop := ∀ W, Takes X W → PS X st (rdS X W m)
def DSs (X : Cx) (st : List Stmt) (m : MS) : Prop := ∀ W, Takes X W → PSs X st (rdS X W m)

/-! ### blocks -/
section
variable {X : Cx}
def sNx : MS := fun s h => .nx s h
def sBk : MS := fun s h => .bk s h
def sCt : MS := fun s h => .ct s h
def sSeq (a b : MS) : MS := fun s h => match a s h with
  | .nx s h => b s h
  | r => r
def sNever : MS := fun _ _ => .bad
theorem ds_never {st : Stmt} : DS X st sNever := fun W tk => PS.mono ps_never fun D σ H ⟨α, iσ, ih, h, s, g⟩ => g
theorem dss_nil : DSs X [] sNx := fun W tk => PSs.mono pss_nil fun D σ H ⟨α, iσ, ih, h, s, g⟩ => g α σ H Ext.refl h s
theorem dss_one {st : Stmt} {m : MS} (h : DS X st m) : DSs X [st] m := fun W tk => pss_one (h W tk)
theorem dss_cons {st : Stmt} {rest : List Stmt} {m m' : MS} (h1 : DS X st m) (h2 : DSs X rest m') : DSs X (st :: rest) (sSeq m m') := fun W tk =>
  PSs.mono (pss_cons (h1 W tk) (h2 W tk)) fun D σ H ⟨α, iσ, ih, h, s, g⟩ => ⟨α, iσ, ih, h, s, by
    unfold sSeq at g
    cases e : m iσ ih with
    | nx s' h' => rw [e] at g; exact fun α' σ' H' x hh ss => ⟨α', s', h', hh, ss, g.ext x⟩
    | rt d h' => rw [e] at g; exact g
    | bk s' h' => rw [e] at g; exact g
    | ct s' h' => rw [e] at g; exact g
    | ex c s' h' => rw [e] at g; exact g
    | bad => rw [e] at g; exact g⟩
theorem ds_pass {pos : Pos} : DS X (.Pass pos) sNx := fun W tk => PS.mono ps_pass fun D σ H ⟨α, iσ, ih, h, s, g⟩ => g α σ H Ext.refl h s
theorem ds_break {pos : Pos} : DS X (.Break pos) sBk := fun W tk => PS.mono ps_break fun D σ H ⟨α, iσ, ih, h, s, g⟩ => g α σ H Ext.refl h s
theorem ds_continue {pos : Pos} : DS X (.Continue pos) sCt := fun W tk => PS.mono ps_continue fun D σ H ⟨α, iσ, ih, h, s, g⟩ => g α σ H Ext.refl h s
def sExpr (m : ME) : MS := fun s h => bindS (m s h) s fun _ h => .nx s h
theorem ds_expr {e : Expr} {m : ME} {pos : Pos} (he : DE X e m) (hs : swapsWith e none pos.line X.env = pure false := by rfl) : DS X (.Expr e pos) (sExpr m) := fun W tk =>
  PS.mono (ps_expr (he W tk) hs) fun D σ H ⟨α, iσ, ih, h, s, g⟩ => ⟨α, iσ, ih, h, s, (g.bind h s).mono fun v H1 ⟨α1, d, ih1, x1, h1, r1, g1⟩ => g1 α1 σ H1 Ext.refl h1 (s.ext h x1)⟩
def sRet (m : ME) : MS := fun s h => bindS (m s h) s fun d h => .rt d h
theorem ds_ret {e : Expr} {m : ME} {pos : Pos} (he : DE X e m) : DS X (.Return (some e) pos) (sRet m) := fun W tk =>
  PS.mono (ps_ret (he W tk)) fun D σ H ⟨α, iσ, ih, h, s, g⟩ => ⟨α, iσ, ih, h, s, (g.bind h s).mono fun v H1 ⟨α1, d, ih1, x1, h1, r1, g1⟩ => g1 α1 v H1 Ext.refl h1 r1⟩
def sRetN : MS := fun _ h => .rt .non h
theorem ds_retN {pos : Pos} : DS X (.Return none pos) sRetN := fun W tk => PS.mono ps_retN fun D σ H ⟨α, iσ, ih, h, s, g⟩ => g α _ H Ext.refl h .non
def sIf (t : MT) (a b : MS) : MS := fun s h => bindS (t s h) s fun c h => if c = true then a s h else b s h
theorem ds_if {c : Expr} {a b : List Stmt} {t : MT} {ma mb : MS} {pos : Pos} (hc : DT X c t) (ha : DSs X a ma) (hb : DSs X b mb) : DS X (.If c a b pos) (sIf t ma mb) := fun W tk =>
  PS.mono (ps_if (hc W tk) (ha W tk) (hb W tk)) fun D σ H ⟨α, iσ, ih, h, s, g⟩ => ⟨α, iσ, ih, h, s, (g.bind h s).mono fun c H1 ⟨α1, d, ih1, x1, h1, r1, g1⟩ => by
    cases r1
    cases c with
    | true => exact ⟨α1, iσ, ih1, h1, s.ext h x1, g1⟩
    | false => exact ⟨α1, iσ, ih1, h1, s.ext h x1, g1⟩⟩

/-! ### targets -/
inductive Tg where
  | name (i : Nat) | tup (ts : List Tg)
mutual
def Tg.vars : Tg → List Nat
  | .name i => [i]
  | .tup ts => Tg.varss ts
def Tg.varss : List Tg → List Nat
  | [] => []
  | t :: ts => t.vars ++ Tg.varss ts
end
mutual
def Tg.set : Tg → D → ISt → Option ISt
  | .name i, d, s => some (s.set i (some d))
  | .tup ts, .tup ds, s => Tg.sets ts ds s
  | .tup _, _, _ => none
def Tg.sets : List Tg → List D → ISt → Option ISt
  | [], [], s => some s
  | t :: ts, d :: ds, s => match t.set d s with
    | some s1 => Tg.sets ts ds s1
    | none => none
  | _, _, _ => none
end
theorem Tg.sets_len : ∀ {ts : List Tg} {ds : List D} {s s' : ISt}, Tg.sets ts ds s = some s' → ds.length = ts.length
  | [], [], _, _, _ => rfl
  | t :: ts, d :: ds, s, s', e => by
    rw [Tg.sets] at e
    split at e
    · next s1 _ => rw [List.length_cons, List.length_cons, Tg.sets_len e]
    · cases e
  | [], _ :: _, _, _, e => by simp [Tg.sets] at e
  | _ :: _, [], _, _, e => by simp [Tg.sets] at e
/-- nothing but these slots changed -/
def Wp (is : List Nat) (σ σ' : L2.St) : Prop := ∀ vs : List Nat, (∀ i ∈ is, i ∈ vs) → wipe σ' vs = wipe σ vs
theorem wipe_get (σ : L2.St) : ∀ (vs : List Nat) (j : Nat), (wipe σ vs)[j]? = if j ∈ vs then (σ[j]?).map (fun _ => none) else σ[j]?
  | [], j => by simp [wipe]
  | v :: vs, j => by
    unfold wipe
    rw [List.getElem?_set, wipe_length]
    by_cases h : v = j
    · subst h
      by_cases hl : v < σ.length
      · simp [hl]
      · simp [hl, List.getElem?_eq_none (Nat.le_of_not_lt hl)]
    · rw [if_neg h, wipe_get σ vs j]
      by_cases h2 : j ∈ vs
      · simp [h2]
      · simp [h2, Ne.symm h]
theorem wipe_set {σ : L2.St} {i : Nat} {v : Option V} {vs : List Nat} (hi : i ∈ vs) : wipe (σ.set i v) vs = wipe σ vs := by
  apply List.ext_getElem?
  intro j
  rw [wipe_get, wipe_get, List.getElem?_set]
  by_cases h : i = j
  · subst h
    rw [if_pos hi, if_pos hi]
    by_cases hl : i < σ.length
    · simp [hl]
    · simp [hl]
  · simp [h]
theorem Wp.refl {is : List Nat} {σ : L2.St} : Wp is σ σ := fun _ _ => rfl
theorem Wp.set {i : Nat} {σ : L2.St} {v : Option V} : Wp [i] σ (σ.set i v) := fun _ h => wipe_set (h i (List.mem_singleton.mpr rfl))
theorem Wp.trans {a b : List Nat} {σ σ1 σ2 : L2.St} (x : Wp a σ σ1) (y : Wp b σ1 σ2) : Wp (a ++ b) σ σ2 := fun vs h =>
  (y vs fun i m => h i (List.mem_append_right _ m)).trans (x vs fun i m => h i (List.mem_append_left _ m))
def rdG (X : Cx) (t : Tg) : TG := fun v σ H Q => ∃ α d iσ ih iσ', RH X.K α H ih ∧ RS X.K α H iσ σ ∧ Rep X.K α H d v ∧ t.set d iσ = some iσ' ∧ ∀ σ', RS X.K α H iσ' σ' → Wp t.vars σ σ' → Q σ' H
def rdGs (X : Cx) (ts : List Tg) : TGs := fun vs σ H Q => ∃ α ds iσ ih iσ', RH X.K α H ih ∧ RS X.K α H iσ σ ∧ Reps X.K α H ds vs ∧ Tg.sets ts ds iσ = some iσ' ∧ ∀ σ', RS X.K α H iσ' σ' → Wp (Tg.varss ts) σ σ' → Q σ' H
def DG (X : Cx) (e : Expr) (t : Tg) : Prop := PG X e (rdG X t)
def DGs (X : Cx) (es : List Expr) (ts : List Tg) : Prop := PGs X es (rdGs X ts)
theorem dg_name (i : Nat) {x : Str} {pos : Pos} (hN : X.N.Nodup) (hi : X.N[i]? = some x := by rfl) (hx : Loc X.env.scope x := by first | exact Or.inl rfl | exact Or.inr rfl) (hf : X.fn x = true ∨ X.env.scope.names.lookup x = some .local := by first | exact .inl rfl | exact .inr rfl | assumption) : DG X (.Name x pos) (.name i) :=
  PG.mono (pg_name hN hi hx hf) fun v σ H Q ⟨α, d, iσ, ih, iσ', h, s, r, e, q⟩ => by
    rw [Tg.set] at e
    cases e
    exact q _ (s.set r) Wp.set
theorem dgs_nil : DGs X [] [] := PGs.mono pgs_nil fun vs σ H Q ⟨α, ds, iσ, ih, iσ', h, s, r, e, q⟩ => by
  cases ds with
  | nil =>
    cases r
    rw [Tg.sets] at e
    cases e
    exact ⟨rfl, q _ s Wp.refl⟩
  | cons d ds => have z := Tg.sets_len e; cases z
theorem dgs_cons {e : Expr} {es : List Expr} {t : Tg} {ts : List Tg} (h1 : DG X e t) (h2 : DGs X es ts) (hs : (assignEach (e :: es) X.env).map (·.2) = assign e X.env :: (assignEach es X.env).map (·.2) := by rfl) : DGs X (e :: es) (t :: ts) :=
  PGs.mono (pgs_cons h1 h2 hs) fun vs σ H Q ⟨α, ds, iσ, ih, iσ', h, s, r, e, q⟩ => by
    cases r with
    | nil => have z := Tg.sets_len e; cases z
    | cons r rs =>
      rw [Tg.sets] at e
      split at e
      · next s1 e1 => exact ⟨_, _, rfl, α, _, iσ, ih, s1, h, s, r, e1, fun σ1 hs1 w1 => ⟨α, _, s1, ih, iσ', h, hs1, rs, e, fun σ2 hs2 w2 => q σ2 hs2 (by rw [Tg.varss]; exact w1.trans w2)⟩⟩
      · cases e
theorem dg_tup {es : List Expr} {k : Nat} {ts : List Tg} {pos : Pos} (hc : X.calm = true) (h : DGs X es ts) (hn : (assignEach es X.env).length = ts.length := by rfl) (hst : (assignEach es X.env).findIdx? (·.1) = none := by rfl) : DG X (.Tuple es k pos) (.tup ts) :=
  PG.mono (pg_tup hc h hn hst) fun v σ H Q ⟨α, d, iσ, ih, iσ', h, s, r, e, q⟩ => by
    cases r with
    | tup q1 rs =>
      rw [Tg.set] at e
      exact ⟨_, _, rfl, q1, by rw [← rs.length]; exact Tg.sets_len e, α, _, iσ, ih, iσ', h, s, rs, e, fun σ' hs w => q σ' hs (by rw [Tg.vars]; exact w)⟩
    | _ => simp [Tg.set] at e
/-- name = e; a, b = e -/
def sAsg (m : ME) (t : Tg) : MS := fun s h => bindS (m s h) s fun d h => match t.set d s with
  | some s' => .nx s' h
  | none => .bad
theorem ds_asg {tg e : Expr} {m : ME} {t : Tg} {pos : Pos} (he : DE X e m) (hg : DG X tg t) (hs : swapsWithSole [tg] e pos.line X.env = pure false := by rfl) (hw : swappedStores [tg] e X.env = pure none := by rfl)
    (h1 : (assignEach [tg] X.env).map (·.2) = [assign tg X.env] := by rfl) : DS X (.Assign [tg] e pos) (sAsg m t) := fun W tk =>
  PS.mono (ps_asg (he W tk) hg hs hw h1) fun D σ H ⟨α, iσ, ih, h, s, g⟩ => ⟨α, iσ, ih, h, s, (g.bind h s).mono fun v H1 ⟨α1, d, ih1, x1, h1, r1, g1⟩ => by
    split at g1
    · next s' e => exact ⟨α1, d, iσ, ih1, s', h1, s.ext h x1, r1, e, fun σ' hs' _ => g1 α1 σ' H1 Ext.refl h1 hs'⟩
    · exact g1.elim⟩
def sSet (i : Nat) (m : ME) : MS := fun s h => bindS (m s h) s fun d h => .nx (s.set i (some d)) h
theorem ds_set (i : Nat) {x : Str} {e : Expr} {m : ME} {pos pos' : Pos} (hN : X.N.Nodup) (he : DE X e m) (hi : X.N[i]? = some x := by rfl) (hx : Loc X.env.scope x := by first | exact Or.inl rfl | exact Or.inr rfl) (hs : swapsWith e (some (.Name x pos')) pos.line X.env = pure false := by rfl)
    (hf : X.fn x = true ∨ X.env.scope.names.lookup x = some .local := by first | exact .inl rfl | exact .inr rfl | assumption) : DS X (.Assign [.Name x pos'] e pos) (sSet i m) := fun W tk =>
  PS.mono (ps_set hN hi hx (he W tk) hs hf) fun D σ H ⟨α, iσ, ih, h, s, g⟩ => ⟨α, iσ, ih, h, s, (g.bind h s).mono fun v H1 ⟨α1, d, ih1, x1, h1, r1, g1⟩ =>
    g1 α1 _ H1 Ext.refl h1 ((s.ext h x1).set r1)⟩
/-- a, b = x, y (both sides written): stored from the right -/
def sPar (i j : Nat) (ms : MA) : MS := fun s h => bindS (ms s h) s fun ds h => match ds with
  | [d, e] => .nx ((s.set i (some d)).set j (some e)) h
  | _ => .bad
theorem ds_par (i j : Nat) {x y : Str} {a b : Expr} {ms : MA} {px py pt pos : Pos} {kt k2 pt2} (hc : X.calm = true) (hN : X.N.Nodup) (ha : DA X [a, b] ms) (hi : X.N[i]? = some x := by rfl) (hj : X.N[j]? = some y := by rfl) (hij : i ≠ j := by decide)
    (hx : X.env.scope.names.lookup x = some .local := by rfl) (hy : X.env.scope.names.lookup y = some .local := by rfl)
    (hw : swappedStores [.Tuple [.Name x px, .Name y py] kt pt] (.Tuple [a, b] k2 pt2) X.env = pure (some [x, y]) := by rfl)
    (hs : swapsWithSole [.Tuple [.Name x px, .Name y py] kt pt] (.Tuple [a, b] k2 pt2) pos.line X.env = pure false := by rfl) :
    DS X (.Assign [.Tuple [.Name x px, .Name y py] kt pt] (.Tuple [a, b] k2 pt2) pos) (sPar i j ms) := fun W tk =>
  PS.mono (ps_par hc hN hi hj hij hx hy (ha W tk) hw hs) fun D σ H ⟨α, iσ, ih, h, s, g⟩ => ⟨α, iσ, ih, h, s, (g.bind h s).mono fun vs H1 ⟨α1, ds, ih1, x1, h1, r1, g1⟩ => by
    split at g1
    · next d e =>
      cases r1 with
      | cons q1 r1 =>
      cases r1 with
      | cons q2 r1 =>
      cases r1
      exact ⟨_, _, rfl, g1 α1 _ H1 Ext.refl h1 (((s.ext h x1).set q1).set q2)⟩
    · exact g1.elim⟩
/-- xs[i] = v, xs live -/
def gSt (h : IHp) (o i v : D) : Option IHp := match o, i with
  | .ref n, .int k => match h[n]? with
    | some (.lst ds) => (ixN ds.length k).map fun j => h.set n (.lst (ds.set j v))
    | _ => none
  | _, _ => none
def sSt (m mo mi : ME) : MS := fun s h => bindS (m s h) s fun v h => bindS (mo s h) s fun o h => bindS (mi s h) s fun i h => match gSt h o i v with
  | some h' => .nx s h'
  | none => .bad
theorem ds_st {o i e : Expr} {m mo mi : ME} {pos p2 : Pos} (he : DE X e m) (ho : DE X o mo) (hi : DE X i mi)
    (ha : ∀ v, assign (.Subscript o i p2) X.env v = (do
      let ov ← holding [v] (eval o X.env)
      let iv ← holding [v, ov] (eval i X.env)
      standAt p2
      holding [v, ov, iv] (setItem ov iv v)
      release [v, ov, iv] []) := by intro _; rfl)
    (hs : swapsWithSole [.Subscript o i p2] e pos.line X.env = pure false := by rfl) (hw : swappedStores [.Subscript o i p2] e X.env = pure none := by rfl)
    (h1 : (assignEach [.Subscript o i p2] X.env).map (·.2) = [assign (.Subscript o i p2) X.env] := by rfl) : DS X (.Assign [.Subscript o i p2] e pos) (sSt m mo mi) := fun W tk =>
  PS.mono (ps_asg (he W tk) (pg_sub (ho W tk) (hi W tk) set_list ha) hs hw h1) fun D σ H ⟨α, iσ, ih, h, s, g⟩ => ⟨α, iσ, ih, h, s, (g.bind h s).mono fun v H1 ⟨α1, d, ih1, x1, h1, r1, g1⟩ =>
    ⟨α1, iσ, ih1, h1, s.ext h x1, (g1.bind h1 (s.ext h x1)).mono fun ov H2 ⟨α2, d2, ih2, x2, h2, r2, g2⟩ => ⟨α2, iσ, ih2, h2, (s.ext h x1).ext h1 x2, (g2.bind h2 ((s.ext h x1).ext h1 x2)).mono fun iv H3 ⟨α3, d3, ih3, x3, h3, r3, g3⟩ => by
      cases e : gSt ih3 d2 d3 d with
      | none => rw [e] at g3; exact g3.elim
      | some h' =>
        rw [e] at g3
        have q2 := r2.ext h2 x3
        cases q2 with
        | ref ea nt0 =>
          cases r3 with
          | int k =>
            unfold gSt at e
            dsimp only at e
            split at e
            · next ds eo =>
              cases ej : ixN ds.length k with
              | none => rw [ej] at e; cases e
              | some j =>
                rw [ej] at e
                cases e
                obtain ⟨a, ho, e1, e2, e3⟩ := h3.ob _ _ eo
                rw [ea] at e1; cases e1
                obtain ⟨vs, rfl, rs⟩ := e3.lst
                refine ⟨_, vs, k, j, rfl, rfl, e2, by rw [← rs.length]; exact ej, ?_⟩
                have hn : ∀ b, RepO X.K α3 H3 b (.lst (ds.set j d)) (.lst (vs.set j v)) := fun b => rs.set ((r1.ext h1 x2).ext h2 x3) j
                exact g3 α3 σ _ (Ext.write ea) (h3.write ea (hn _)) ((((s.ext h x1).ext h1 x2).ext h2 x3).ext h3 (Ext.write ea))
            · cases e
          | _ => cases e
        | _ => cases e⟩⟩⟩

/-! ### what is walked -/
abbrev It1 := List D × Option Nat
def Stable (g : It1) (h : IHp) : Prop := ∀ n, g.2 = some n → h[n]? = some (.lst g.1)
def WalkD (K : PySem.W.Frag) (α : Al) (H : Hp) (g : It1) (J : It) : Prop := ∃ G Y, Walk J g.1.length G Y ∧ (∀ α' H' ih', Ext α H α' H' → RH K α' H' ih' → Stable g ih' → G H') ∧
  ∀ i H1 x H2 α1 ih1, i < g.1.length → Ext α H α1 H1 → RH K α1 H1 ih1 → Stable g ih1 → Y i H1 x H2 → ∃ d, g.1[i]? = some d ∧ Ext α1 H1 α1 H2 ∧ RH K α1 H2 ih1 ∧ Rep K α1 H2 d x
abbrev MI := ISt → IHp → R It1
def rdI (X : Cx) (W : WX) (m : MI) : TI := fun σ H R => ∃ α iσ ih, RH X.K α H ih ∧ RS X.K α H iσ σ ∧ Go X.K X.mg (fun c H' => W c none σ H') (WalkD X.K) α H (m iσ ih) R
def DI (X : Cx) (tg e : Expr) (m : MI) : Prop := ∀ W, Takes X W → PI X tg e (rdI X W m)
def itOf (h : IHp) : D → Option It1
  | .tup ds => some (ds, none)
  | .lst ds => some (ds, none)
  | .ref n => match h[n]? with
    | some (.lst ds) => some (ds, some n)
    | _ => none
  | _ => none
def mIt (m : ME) : MI := fun σ h => (m σ h).bind fun d h => R.opt (itOf h d) h
theorem walkD_tup {K : PySem.W.Frag} {α : Al} {H : Hp} {ih : IHp} {ds : List D} {a : Addr} {vs : List V} (h : RH K α H ih) (q : SqT K H a vs) (rs : Reps K α H ds vs) : WalkD K α H (ds, none) (Itt K a) := by
  refine ⟨fun H => SqT K H a vs, _, by rw [show (ds, (none : Option Nat)).1.length = vs.length from rs.length]; exact walk_tup, fun α' H' ih' x _ _ => SqT.ext h x q, fun i H1 x H2 α1 ih1 hi x1 h1 _ y => ?_⟩
  obtain ⟨e1, e2⟩ := y
  subst e1
  obtain ⟨d, e3, r⟩ := (rs.ext h x1).getV e2
  exact ⟨d, e3, Ext.refl, h1, r⟩
theorem walkD_lst {K : PySem.W.Frag} {α : Al} {H : Hp} {ih : IHp} {ds : List D} {a : Addr} {vs : List V} (h : RH K α H ih) (q : SqF α H a vs) (rs : Reps K α H ds vs) : WalkD K α H (ds, none) (Itl K a) := by
  refine ⟨fun H => SqL K H a vs, _, by rw [show (ds, (none : Option Nat)).1.length = vs.length from rs.length]; exact walk_list, fun α' H' ih' x _ _ => (q.ext x).seq, fun i H1 x H2 α1 ih1 hi x1 h1 _ y => ?_⟩
  obtain ⟨e1, e2⟩ := y
  subst e1
  obtain ⟨d, e3, r⟩ := (rs.ext h x1).getV e2
  exact ⟨d, e3, Ext.refl, h1, r⟩
theorem walkD_ref {K : PySem.W.Frag} {α : Al} {H : Hp} {ih : IHp} {ds : List D} {n : Nat} {a : Addr} (h : RH K α H ih) (ea : α.lv[n]? = some a) : WalkD K α H (ds, some n) (Itl K a) := by
  refine ⟨fun H' => ∃ vs, SqL K H' a vs ∧ vs.length = ds.length ∧ ∃ α', Reps K α' H' ds vs, fun i H x H' => H' = H ∧ ∀ xs, SqL K H a xs → xs[i]? = some x, ⟨fun i H' hi ⟨vs, q, el, _⟩ => ⟨vs, vs[i]'(by rw [el]; exact hi), q, by simp⟩, fun H' ⟨vs, q, el, _⟩ => ⟨vs, q, by rw [el]; exact Nat.le_refl _⟩, fun i H' x H2 hi ⟨vs, q, el, _⟩ y => y⟩, fun α' H' ih' x h' st => ?_, fun i H1 x H2 α1 ih1 hi x1 h1 st y => ?_⟩
  · obtain ⟨a', ho, e1, e2, e3⟩ := h'.ob _ _ (st n rfl)
    rw [prefix_get x.pre ea] at e1; cases e1
    obtain ⟨vs, rfl, rs⟩ := e3.lst
    exact ⟨vs, .inl (.inl e2), rs.length.symm, α', rs⟩
  · obtain ⟨e1, e2⟩ := y
    subst e1
    obtain ⟨a', ho, e1, e3, e4⟩ := h1.ob _ _ (st n rfl)
    rw [prefix_get x1.pre ea] at e1; cases e1
    obtain ⟨vs, rfl, rs⟩ := e4.lst
    obtain ⟨d, e5, r⟩ := rs.getV (e2 vs (.inl (.inl e3)))
    exact ⟨d, e5, Ext.refl, h1, r⟩
theorem di_seq {tg e : Expr} {m : ME} (he : DE X e m) : DI X tg e (mIt m) := fun W tk => ⟨fun pins s σ H R I q => by
  obtain ⟨α, iσ, ih, h, ss, g⟩ := q
  refine thn ((he W tk).run pins s σ H (fun x H1 => (∃ a, x = .ref a ∧ (∃ xs, SqT X.K H1 a xs) ∧ R (Itt X.K a) H1) ∨ ∃ a, x = .ref a ∧ (∃ xs, SqL X.K H1 a xs) ∧ R (Itl X.K a) H1) I ⟨α, iσ, ih, h, ss, g.bind.mono fun v H1 ⟨α1, d, ih1, x1, h1, r1, g1⟩ => ?_⟩) fun v s1 ⟨x, H1, I1, r1, q1⟩ => ?_
  · cases et : itOf ih1 d with
    | none => rw [et] at g1; exact g1.elim
    | some z =>
      rw [et] at g1
      cases r1 with
      | tup q rs => cases et; exact .inl ⟨_, rfl, ⟨_, q⟩, g1.ok h1 (walkD_tup h1 q rs)⟩
      | lst q rs => cases et; exact .inr ⟨_, rfl, ⟨_, q.seq⟩, g1.ok h1 (walkD_lst h1 q rs)⟩
      | ref ea nt0 =>
        unfold itOf at et
        dsimp only at et
        split at et
        · next ds eo =>
          cases et
          obtain ⟨a', ho, e1, e2, e3⟩ := h1.ob _ _ eo
          rw [ea] at e1; cases e1
          obtain ⟨vs, rfl, rs⟩ := e3.lst
          exact .inr ⟨_, rfl, ⟨_, .inl (.inl e2)⟩, g1.ok h1 (walkD_ref h1 ea)⟩
        · cases et
      | _ => cases et
  · rcases q1 with ⟨a, e, ⟨xs, hq⟩, q⟩ | ⟨a, e, ⟨xs, hq⟩, q⟩
    · subst e
      cases r1
      obtain ⟨its, rv, p, hz⟩ := I1.tuple hq
      refine wpAny_pyIter_tuple (show s1.heap.IsTuple a its.toArray from p) ?_
      refine ⟨s1.heap.objs.size, [s1.heap.objs.size], _, _, H1, rfl, I1.kept (t' := s1.toks) fun b o e => Heap.get?_push_of_some _ e, turn_tuple a _, ⟨_, Heap.get?_push_size _ rfl, rfl, rfl⟩, fun b hb => ?_, q⟩
      have e : b = s1.heap.objs.size := by simpa using hb
      subst e
      exact I1.fpOk (Nat.le_refl _) (I1.hok.fresh (Nat.le_refl _))
    · subst e
      cases r1
      obtain ⟨its, rv, p, hz⟩ := I1.list hq
      refine wpAny_pyIter_list p.isList ?_
      refine ⟨s1.heap.objs.size, [s1.heap.objs.size], _, _, H1, rfl, I1.kept (t' := s1.toks) fun b o e => Heap.get?_push_of_some _ e, turn_list a _, ⟨_, Heap.get?_push_size _ rfl, rfl, rfl⟩, fun b hb => ?_, q⟩
      have e : b = s1.heap.objs.size := by simpa using hb
      subst e
      exact I1.fpOk (Nat.le_refl _) (I1.hok.fresh (Nat.le_refl _))⟩
/-- range(n), range(a, b) -/
def rngD (lo : Int) (n : Nat) : List D := (List.range n).map fun i => .int (lo + (i : Nat))
theorem walkD_range {K : PySem.W.Frag} {α : Al} {H : Hp} {lo : Int} {n : Nat} : WalkD K α H (rngD lo n, none) (Itr lo n) := by
  have el : (rngD lo n, (none : Option Nat)).1.length = n := by simp [rngD]
  refine ⟨_, _, by rw [el]; exact walk_range, fun _ _ _ _ _ _ => trivial, fun i H1 x H2 α1 ih1 hi x1 h1 _ y => ?_⟩
  obtain ⟨e1, e2⟩ := y
  subst e1 e2
  rw [el] at hi
  exact ⟨.int (lo + (i : Nat)), by simp [rngD, hi], Ext.refl, h1, .int _⟩
def rng1 (ds : List D) : Option It1 := match ds with
  | [.int j] => if -(2 ^ 62) ≤ j ∧ j < 2 ^ 62 then some (rngD 0 j.toNat, none) else none
  | _ => none
def rng2 (ds : List D) : Option It1 := match ds with
  | [.int i, .int j] => if -(2 ^ 62) ≤ i ∧ i < 2 ^ 62 ∧ -(2 ^ 62) ≤ j ∧ j < 2 ^ 62 then some (rngD i (j - i).toNat, none) else none
  | _ => none
def mRng1 (ms : MA) : MI := fun σ h => (ms σ h).bind fun ds h => R.opt (rng1 ds) h
def mRng2 (ms : MA) : MI := fun σ h => (ms σ h).bind fun ds h => R.opt (rng2 ds) h
theorem di_range1 {tg a : Expr} {ms : MA} {p pos : Pos} (hg : Gl X "range") (hm : X.mg "range" = none) (ha : DA X [a] ms) (hs : starEach [a] X.env = [(false, eval a X.env)] := by rfl) : DI X tg (.Call (.Name "range" p) [a] [] pos) (mRng1 ms) := fun W tk =>
  PI.mono (pi_range1 hg hm (ha W tk) hs) fun σ H R ⟨α, iσ, ih, h, s, g⟩ => ⟨α, iσ, ih, h, s, g.bind.mono fun vs H1 ⟨α1, ds, ih1, x1, h1, r1, g1⟩ => by
    cases er : rng1 ds with
    | none => rw [er] at g1; exact g1.elim
    | some z =>
      rw [er] at g1
      unfold rng1 at er
      split at er
      · next j =>
        split at er
        · next hj =>
          cases er
          cases r1 with
          | cons q1 r1 =>
          cases r1
          cases q1
          exact ⟨j, rfl, hj.1, hj.2, g1.ok h1 walkD_range⟩
        · cases er
      · cases er⟩
theorem di_range2 {tg a b : Expr} {ms : MA} {p pos : Pos} (hg : Gl X "range") (hm : X.mg "range" = none) (ha : DA X [a, b] ms) (hs : starEach [a, b] X.env = [(false, eval a X.env), (false, eval b X.env)] := by rfl) (hs2 : starEach [b] X.env = [(false, eval b X.env)] := by rfl) : DI X tg (.Call (.Name "range" p) [a, b] [] pos) (mRng2 ms) := fun W tk =>
  PI.mono (pi_range2 hg hm (ha W tk) hs hs2) fun σ H R ⟨α, iσ, ih, h, s, g⟩ => ⟨α, iσ, ih, h, s, g.bind.mono fun vs H1 ⟨α1, ds, ih1, x1, h1, r1, g1⟩ => by
    cases er : rng2 ds with
    | none => rw [er] at g1; exact g1.elim
    | some z =>
      rw [er] at g1
      unfold rng2 at er
      split at er
      · next i j =>
        split at er
        · next hj =>
          cases er
          cases r1 with
          | cons q1 r1 =>
          cases r1 with
          | cons q2 r1 =>
          cases r1
          cases q1
          cases q2
          exact ⟨i, j, rfl, hj, g1.ok h1 walkD_range⟩
        · cases er
      · cases er⟩

/-! ### for -/
open Classical in
/-- the turns -/
noncomputable def loopD (g : It1) (t : Tg) (body : MS) : List D → MS
  | [], s, h => if Stable g h then .nx s h else .bad
  | d :: ds, s, h => if Stable g h then (match t.set d s with
      | none => .bad
      | some s1 => match body s1 h with
        | .nx s2 h2 => loopD g t body ds s2 h2
        | .ct s2 h2 => loopD g t body ds s2 h2
        | .bk s2 h2 => .nx s2 h2
        | r => r) else .bad
theorem loopD_stable {K : PySem.W.Frag} {mg : Str → Option Value} {W : WX} {α : Al} {H : Hp} {T : Ends} {g : It1} {t : Tg} {body : MS} {ds : List D} {s : ISt} {h : IHp} (q : GoS K mg W α H (loopD g t body ds s h) T) : Stable g h := by
  cases ds with
  | nil =>
    rw [loopD] at q
    split at q
    · assumption
    · exact q.elim
  | cons d ds =>
    rw [loopD] at q
    split at q
    · assumption
    · exact q.elim
noncomputable def sFor (mi : MI) (t : Tg) (body : MS) : MS := fun s h => bindS (mi s h) s fun g h => loopD g t body g.1 s h
theorem ds_for {tg iter : Expr} {body : List Stmt} {mi : MI} {t : Tg} {mb : MS} {pos : Pos} {fb : Bool} (O : Okx fb X) (hi : DI X tg iter mi) (hg : DG X tg t) (hb : DSs X body mb) (hs : ∀ x, foldedSetIterable iter X.env x = pure x := by intro _; rfl) : DS X (.For tg iter body [] pos) (sFor mi t mb) := fun W tk =>
  PS.mono (ps_for O.ps O.calm (hi W tk) hg (hb W tk) hs) fun D σ H ⟨α, iσ, ih, h, s, g⟩ => ⟨α, iσ, ih, h, s, (g.bind h s).mono fun J H1 ⟨α1, it, ih1, x1, h1, ⟨G, Y, wk, stab, yld⟩, g1⟩ => by
    refine for_it wk (fun i σ' H' => ∃ α' iσ' ih', Ext α1 H1 α' H' ∧ RH X.K α' H' ih' ∧ RS X.K α' H' iσ' σ' ∧ GoS X.K X.mg W α' H' (loopD it t mb (it.1.drop i) iσ' ih') D) ⟨α1, iσ, ih1, Ext.refl, h1, s.ext h x1, g1⟩ ?_ ?_ ?_
    · intro i σ' H' hi ⟨α', iσ', ih', x', h', s', g'⟩
      exact stab α' H' ih' x' h' (loopD_stable g')
    · intro i x σ' H' H'' hi ⟨α', iσ', ih', x', h', s', g'⟩ y
      have st := loopD_stable g'
      obtain ⟨d, ed, x2, h2, r2⟩ := yld i H' x H'' α' ih' hi x' h' st y
      have es : it.1.drop i = d :: it.1.drop (i + 1) := by
        rw [List.drop_eq_getElem_cons hi]
        rw [List.getElem?_eq_getElem hi] at ed
        rw [Option.some.inj ed]
      rw [es, loopD, if_pos st] at g'
      cases et : t.set d iσ' with
      | none => rw [et] at g'; exact g'.elim
      | some s1 =>
        rw [et] at g'
        dsimp only at g'
        refine ⟨α', d, iσ', ih', s1, h2, s'.ext h' x2, r2, et, fun σ2 hs2 _ => ⟨α', s1, ih', h2, hs2, ?_⟩⟩
        have x12 := x'.trans x2
        cases eb : mb s1 ih' with
        | nx s2 h2' => rw [eb] at g'; exact fun α3 σ3 H3 x3 h3 s3 => ⟨α3, s2, h2', x12.trans x3, h3, s3, g'.ext (x2.trans x3)⟩
        | ct s2 h2' => rw [eb] at g'; exact fun α3 σ3 H3 x3 h3 s3 => ⟨α3, s2, h2', x12.trans x3, h3, s3, g'.ext (x2.trans x3)⟩
        | bk s2 h2' => rw [eb] at g'; exact fun α3 σ3 H3 x3 h3 s3 => g' α3 σ3 H3 (x2.trans x3) h3 s3
        | rt d2 h2' => rw [eb] at g'; exact fun α3 v H3 x3 h3 s3 => g' α3 v H3 (x2.trans x3) h3 s3
        | ex c s2 h2' => rw [eb] at g'; exact fun C α3 σ3 H3 hc x3 h3 s3 => g' C α3 σ3 H3 hc (x2.trans x3) h3 s3
        | bad => rw [eb] at g'; exact g'.elim
    · intro σ' H' ⟨α', iσ', ih', x', h', s', g'⟩
      have st := loopD_stable g'
      rw [List.drop_length, loopD, if_pos st] at g'
      exact g' α' σ' H' Ext.refl h' s'⟩

/-! ### while -/
/-- at most n turns -/
def whileD (t : MT) (body : MS) : Nat → MS
  | 0, _, _ => .bad
  | n + 1, s, h => bindS (t s h) s fun c h => if c = true then (match body s h with
      | .nx s2 h2 => whileD t body n s2 h2
      | .ct s2 h2 => whileD t body n s2 h2
      | .bk s2 h2 => .nx s2 h2
      | r => r) else .nx s h
def sWhile (n : Nat) (t : MT) (body : MS) : MS := whileD t body n
theorem ds_while (n : Nat) {c : Expr} {body : List Stmt} {t : MT} {mb : MS} {pos : Pos} {fb : Bool} (O : Okx fb X) (hc : DT X c t) (hb : DSs X body mb) : DS X (.While c body [] pos) (sWhile n t mb) := fun W tk =>
  PS.mono (ps_while O.ps (hc W tk) (hb W tk)) fun D σ H ⟨α, iσ, ih, h, s, g⟩ => by
    refine ⟨fun m σ' H' => ∃ α' iσ' ih', RH X.K α' H' ih' ∧ RS X.K α' H' iσ' σ' ∧ GoS X.K X.mg W α' H' (whileD t mb m iσ' ih') D, ⟨n, α, iσ, ih, h, s, g⟩, ?_⟩
    rintro m σ' H' ⟨α', iσ', ih', h', s', g'⟩
    cases m with
    | zero => exact g'.elim
    | succ m =>
      rw [whileD] at g'
      refine ⟨α', iσ', ih', h', s', (g'.bind h' s').mono fun b H1 ⟨α1, d, ih1, x1, h1, r1, g1⟩ => ?_⟩
      cases r1
      cases b with
      | false =>
        rw [if_neg Bool.false_ne_true] at g1 ⊢
        exact g1 α1 σ' H1 Ext.refl h1 (s'.ext h' x1)
      | true =>
        rw [if_pos rfl] at g1 ⊢
        refine ⟨fun σ2 H2 => ∃ α2 iσ2 ih2, RH X.K α2 H2 ih2 ∧ RS X.K α2 H2 iσ2 σ2 ∧ GoS X.K X.mg W α2 H2 (whileD t mb m iσ2 ih2) D, fun σ2 H2 q => ⟨m, Nat.lt_succ_self m, q⟩, α1, iσ', ih1, h1, s'.ext h' x1, ?_⟩
        cases eb : mb iσ' ih1 with
        | nx s2 h2' => rw [eb] at g1; exact fun α3 σ3 H3 x3 h3 s3 => ⟨α3, s2, h2', h3, s3, g1.ext x3⟩
        | ct s2 h2' => rw [eb] at g1; exact fun α3 σ3 H3 x3 h3 s3 => ⟨α3, s2, h2', h3, s3, g1.ext x3⟩
        | bk s2 h2' => rw [eb] at g1; exact g1
        | rt d2 h2' => rw [eb] at g1; exact g1
        | ex c s2 h2' => rw [eb] at g1; exact g1
        | bad => rw [eb] at g1; exact g1.elim

/-! ### comprehensions -/
def noex {β : Type} (r : R β) : R β := match r with
  | .ex _ _ => .bad
  | r => r
abbrev W0 : WX := fun _ _ _ _ => False
def wipeD (s : ISt) : List Nat → ISt
  | [] => s
  | v :: vs => (wipeD s vs).set v none
theorem wipeD_len (s : ISt) : ∀ vs : List Nat, (wipeD s vs).length = s.length
  | [] => rfl
  | v :: vs => by unfold wipeD; rw [List.length_set, wipeD_len s vs]
theorem RS.none {K : PySem.W.Frag} {α : Al} {H : Hp} {iσ : ISt} {σ : L2.St} (s : RS K α H iσ σ) (i : Nat) : RS K α H (iσ.set i none) (σ.set i none) := by
  refine ⟨by rw [List.length_set, List.length_set, s.1], fun j e he => ?_⟩
  by_cases hj : i = j
  · subst hj
    rw [List.getElem?_set] at he
    simp at he
  · rw [List.getElem?_set_ne hj] at he ⊢
    exact s.2 j e he
theorem RS.wipe {K : PySem.W.Frag} {α : Al} {H : Hp} {iσ : ISt} {σ : L2.St} (s : RS K α H iσ σ) : ∀ vs : List Nat, RS K α H (wipeD iσ vs) (L2.wipe σ vs)
  | [] => s
  | v :: vs => by
    unfold wipeD L2.wipe
    exact (RS.wipe s vs).none v
open Classical in
noncomputable def lcD (g : It1) (t : Tg) (c : MT) (e : ME) (s0 : ISt) : List Dn.D → List Dn.D → IHp → R (List Dn.D)
  | [], acc, h => if Stable g h then .ok acc h else .bad
  | d :: ds, acc, h => if Stable g h then (match t.set d s0 with
      | none => .bad
      | some s1 => (noex (c s1 h)).bind fun b h => if b = true then (noex (e s1 h)).bind fun v h => if acc.length < sizeLine then lcD g t c e s0 ds (acc ++ [v]) h else .bad else lcD g t c e s0 ds acc h) else .bad
theorem lcD_stable {K : PySem.W.Frag} {mg : Str → Option Value} {W : Value → Hp → Prop} {α : Al} {H : Hp} {Q : V → Hp → Prop} {g : It1} {t : Tg} {c : MT} {e : ME} {s0 : ISt} {ds acc : List D} {h : IHp} {k : List D → IHp → R D} (q : Go K mg W (Rep K) α H ((lcD g t c e s0 ds acc h).bind k) Q) : Stable g h := by
  cases ds with
  | nil =>
    rw [lcD] at q
    split at q
    · assumption
    · exact q.elim
  | cons d ds =>
    rw [lcD] at q
    split at q
    · assumption
    · exact q.elim
noncomputable def mLc (mi : MI) (t : Tg) (c : MT) (e : ME) (vs : List Nat) : ME := fun s h => (mi s h).bind fun g h => (lcD g t c e (wipeD s vs) g.1 [] h).bind fun ds h => .ok (.lst ds) h
theorem go_noex {K : PySem.W.Frag} {mg : Str → Option Value} {W : Value → Hp → Prop} {β γ : Type} {rep : Al → Hp → β → γ → Prop} {α : Al} {H : Hp} {r : R β} {Q : γ → Hp → Prop} (g : Go K mg W rep α H (noex r) Q) : Go K mg (fun _ _ => False) rep α H r Q := by
  cases r with
  | ok a h => exact g
  | ex c h => exact g.elim
  | bad => exact g.elim
/-- no test -/
def mYes : MT := fun _ h => .ok true h
def DTs (X : Cx) (ifs : List Expr) (m : MT) : Prop := ∀ W, Takes X W → PTs X ifs (rdT X W m)
theorem PTs.mono {ifs : List Expr} {t t' : TT} (h : PTs X ifs t) (f : ∀ σ H Q, t' σ H Q → t σ H Q) : PTs X ifs t' := ⟨fun pins s σ H Q I q => h.run pins s σ H Q I (f σ H Q q)⟩
theorem dts_nil : DTs X [] mYes := fun W tk => PTs.mono pts_nil fun σ H Q ⟨α, iσ, ih, h, s, g⟩ => g.ok h rfl
theorem dts_one {c : Expr} {m : MT} (hc : DT X c m) : DTs X [c] m := fun W tk => pts_one (hc W tk)
theorem rd_lc {W : WX} {mi : MI} {t : Tg} {mc : MT} {me : ME} {vs : List Nat} (hv : ∀ i ∈ t.vars, i ∈ vs) {X' : Shared → Hp → Addr → List (Str × Addr) → List Addr → Cx} (hX : True) (σ : L2.St) (H : Hp) (Q : VK) :
    rdE X W (mLc mi t mc me vs) σ H Q → tLc (rdI X W mi) (rdG X t) (rdT X W0 mc) (rdE X W0 me) vs σ H Q :=
  fun ⟨α, iσ, ih, h, s, g⟩ => ⟨α, iσ, ih, h, s, g.bind.mono fun J H1 ⟨α1, it, ih1, x1, h1, ⟨G, Y, wk, stab, yld⟩, g1⟩ => fun Dd nD => by
    have hs1 : RS X.K α1 H1 iσ σ := s.ext h x1
    refine lc_it wk (fun i H' => ∃ α' ih' acc vacc, Ext α1 H1 α' H' ∧ Dd ∈ α'.hd ∧ RH X.K α' H' ih' ∧ RS X.K α' H' iσ σ ∧ H' Dd = some (.lst vacc) ∧ Reps X.K α' H' acc vacc ∧
        Go X.K X.mg (fun c H' => W c none σ H') (Rep X.K) α1 H1 ((lcD it t mc me (wipeD iσ vs) (it.1.drop i) acc ih').bind fun ds h => .ok (.lst ds) h) Q) ?_ ?_ ?_ ?_
    · exact ⟨α1.hide Dd, ih1, [], [], Ext.hide nD, List.mem_cons_self, h1.hide nD, hs1.mp (Mp.hide h1 nD), upd_same, .nil, g1⟩
    · intro i H' hi ⟨α', ih', acc, vacc, x', nd, h', s', eD, ra, g'⟩
      exact stab α' H' ih' x' h' (lcD_stable g')
    · intro i x H' H'' hi ⟨α', ih', acc, vacc, x', nd, h', s', eD, ra, g'⟩ y
      have st := lcD_stable g'
      obtain ⟨d, ed, x2, h2, r2⟩ := yld i H' x H'' α' ih' hi x' h' st y
      have es : it.1.drop i = d :: it.1.drop (i + 1) := by
        rw [List.drop_eq_getElem_cons hi]
        rw [List.getElem?_eq_getElem hi] at ed
        rw [Option.some.inj ed]
      rw [es, lcD, if_pos st] at g'
      cases et : t.set d (wipeD iσ vs) with
      | none => rw [et] at g'; exact g'.elim
      | some s1 =>
        rw [et] at g'
        dsimp only at g'
        rw [R.bind_assoc] at g'
        refine ⟨α', d, wipeD iσ vs, ih', s1, h2, ((s'.ext h' x2).wipe vs), r2, et, fun σ2 hs2 wp => ⟨?_, ?_⟩⟩
        · have e1 := wp vs hv
          have e2 : wipe (wipe σ vs) vs = wipe σ vs := by
            apply List.ext_getElem?
            intro j
            simp only [wipe_get]
            by_cases hj : j ∈ vs
            · cases σ[j]? <;> simp [hj]
            · simp [hj]
          rw [e1, e2]
        · refine ⟨α', s1, ih', h2, hs2, ?_⟩
          refine Go.mono (go_noex (Go.bind2 (rep := repB) (x'.trans x2) g')) fun b H3 ⟨α3, b', ih3, x3, h3, r3, g3⟩ => ?_
          cases r3
          have eD3 := x3.keep Dd _ ((x2.keep Dd _ eD (fun _ z => by cases z) (h'.dj Dd nd)).1) (fun _ z => by cases z) (h'.dj Dd nd)
          have m3 := x3.hs Dd (x2.hs Dd nd)
          cases b with
          | false =>
            rw [if_neg Bool.false_ne_true] at g3 ⊢
            exact ⟨α3, ih3, acc, vacc, (x'.trans x2).trans x3, m3, h3, (s'.ext h' x2).ext h2 x3, eD3.1, (ra.ext h' x2).ext h2 x3, g3⟩
          | true =>
            rw [if_pos rfl, R.bind_assoc] at g3
            rw [if_pos rfl]
            refine ⟨α3, s1, ih3, h3, hs2.ext h2 x3, Go.mono (go_noex (Go.bind2 (rep := Rep X.K) ((x'.trans x2).trans x3) g3)) fun v H4 ⟨α4, dv, ih4, x4, h4, r4, g4⟩ => ?_⟩
            have eD4 := x4.keep Dd _ eD3.1 (fun _ z => by cases z) eD3.2
            have m4 := x4.hs Dd m3
            have ra4 := ((ra.ext h' x2).ext h2 x3).ext h3 x4
            split at g4
            · next hl =>
              refine ⟨vacc, eD4.1, by rw [← ra4.length]; exact hl, ?_⟩
              have mp : Mp X.K α4 H4 α4 (upd H4 Dd (.lst (vacc ++ [v]))) := Mp.wr m4 eD4.1
              exact ⟨α4, ih4, acc ++ [dv], vacc ++ [v], (((x'.trans x2).trans x3).trans x4).wr nD, m4, h4.wr m4 eD4.1, (((s'.ext h' x2).ext h2 x3).ext h3 x4).mp mp, upd_same, (ra4.append (.one r4)).mp mp, g4⟩
            · exact g4.elim
    · intro H' ⟨α', ih', acc, vacc, x', nd, h', s', eD, ra, g'⟩
      have st := lcD_stable g'
      rw [List.drop_length, lcD, if_pos st] at g'
      exact g' (α'.bare Dd) (.ref Dd) H' (x'.bare h1 nD) h'.bare (.lst ⟨.inl eD, h'.dj Dd nd, Al.not_bare⟩ (ra.mp Mp.bare))⟩
theorem de_lc {elt tg iter : Expr} {ifs : List Expr} {scope : Scope} (own : List (Str × Nat)) {pos : Pos} {mi : MI} {t : Tg} {mc : MT} {me : ME} (hc : X.calm = true) (hN : X.N.Nodup) (hi : DI X tg iter mi) (ok : BlkOk X.N X.env.scope scope own)
    (hg : ∀ (s : Shared) (H : Hp) (C : Addr) (cl : List (Str × Addr)) (fp : List Addr), DG (X.blk s H scope (compEnvC scope cl C X.env) fp) tg t) (ht : ∀ (s : Shared) (H : Hp) (C : Addr) (cl : List (Str × Addr)) (fp : List Addr), DTs (X.blk s H scope (compEnvC scope cl C X.env) fp) ifs mc)
    (he : ∀ (s : Shared) (H : Hp) (C : Addr) (cl : List (Str × Addr)) (fp : List Addr), DE (X.blk s H scope (compEnvC scope cl C X.env) fp) elt me) (hv : ∀ i ∈ t.vars, i ∈ own.map (·.2) := by decide) (hs : ∀ x, foldedSetIterable iter X.env x = pure x := by intro _; rfl) :
    DE X (.ListComp elt [⟨tg, iter, ifs, 0⟩] scope pos) (mLc mi t mc me (own.map (·.2))) := fun W tk =>
  PE.mono (pe_lc (X := X) (own := own) (g := rdG X t) (tt := rdT X W0 mc) (te := rdE X W0 me) hc hN (hi W tk) ok (fun s H C cl fp => hg s H C cl fp) (fun s H C cl fp => ht s H C cl fp W0 takes0) (fun s H C cl fp => he s H C cl fp W0 takes0) hs) fun σ H Q q => rd_lc hv (X' := fun _ _ _ _ _ => X) True.intro σ H Q q
/-- name = [..], the name a local -/
noncomputable def sSetLc (i : Nat) (mi : MI) (t : Tg) (c : MT) (e : ME) (vs : List Nat) : MS := sSet i (mLc mi t c e vs)
theorem ds_setLc (i : Nat) {y : Str} {py : Pos} {elt tg iter : Expr} {ifs : List Expr} {scope : Scope} (own : List (Str × Nat)) {pos spos : Pos} {mi : MI} {t : Tg} {mc : MT} {me : ME} (hc : X.calm = true) (hN : X.N.Nodup) (hi : DI X tg iter mi) (ok : BlkOk X.N X.env.scope scope own)
    (hg : ∀ (s : Shared) (H : Hp) (C : Addr) (cl : List (Str × Addr)) (fp : List Addr), DG (X.blk s H scope (compEnvC scope cl C X.env) fp) tg t) (ht : ∀ (s : Shared) (H : Hp) (C : Addr) (cl : List (Str × Addr)) (fp : List Addr), DTs (X.blk s H scope (compEnvC scope cl C X.env) fp) ifs mc)
    (he : ∀ (s : Shared) (H : Hp) (C : Addr) (cl : List (Str × Addr)) (fp : List Addr), DE (X.blk s H scope (compEnvC scope cl C X.env) fp) elt me) (hsw : swapsWith (.ListComp elt [⟨tg, iter, ifs, 0⟩] scope pos) (some (.Name y py)) spos.line X.env = pure true)
    (hy : X.N[i]? = some y := by rfl) (hyl : X.env.scope.names.lookup y = some .local := by rfl) (hv : ∀ i ∈ t.vars, i ∈ own.map (·.2) := by decide) (hs : ∀ x, foldedSetIterable iter X.env x = pure x := by intro _; rfl) :
    DS X (.Assign [.Name y py] (.ListComp elt [⟨tg, iter, ifs, 0⟩] scope pos) spos) (sSetLc i mi t mc me (own.map (·.2))) := fun W tk =>
  PS.mono (ps_setLc (X := X) (own := own) (g := rdG X t) (tt := rdT X W0 mc) (te := rdE X W0 me) hc hN hy hyl hsw (hi W tk) ok (fun s H C cl fp => hg s H C cl fp) (fun s H C cl fp => ht s H C cl fp W0 takes0) (fun s H C cl fp => he s H C cl fp W0 takes0) hs)
    fun D σ H ⟨α, iσ, ih, h, s, g⟩ => rd_lc hv (X' := fun _ _ _ _ _ => X) True.intro σ H (fun x H1 => gName i x σ H1 D.nx) ⟨α, iσ, ih, h, s, (g.bind h s).mono fun v H1 ⟨α1, d, ih1, x1, h1, r1, g1⟩ => g1 α1 _ H1 Ext.refl h1 ((s.ext h x1).set r1)⟩
end
end Dn

set_option Elab.async false
set_option linter.all false
set_option maxRecDepth 100000
set_option maxHeartbeats 4000000
/-! enumerate over a tuple -/
namespace PySem
open Sem (wp)
open AutoSeq1 (wpAny_loadPart')
theorem meets_enumerate_newTup (l : Addr) (items : Array Value) (n : Nat) (dct : Option Addr) (sl : Array (Option Value)) :
    Meets (Builtin.«enumerate.__new__» ⟨[.type "enumerate", .ref l], []⟩) (fun _ R s => s.heap.get? l = some { cls := .type "tuple", dict := dct, data := .seq items n, slots := sl } ∧
      R (.ok (.ret (.ref (s.heap.push { cls := .type "tuple_iterator", data := .fields #[.ref l, .int 0 0] }).objs.size)))
        { s with heap := (s.heap.push { cls := .type "tuple_iterator", data := .fields #[.ref l, .int 0 0] }).push { cls := .type "enumerate", data := .fields #[.none, .bool false, .ref s.heap.objs.size, rawInt 0, .none, .none] } }) :=
  .of_wp fun prog w A R s h => by
    obtain ⟨hp, g, d, tk, os⟩ := s; obtain ⟨hl, h⟩ := h
    have hsub := sub_enumerate
    have hL : Heap.IsTuple (Shared.heap ⟨hp, g, d, tk, os⟩) l items := ⟨_, hl, rfl, n, rfl⟩
    wp_walk using wpAny_loadPart' hl
    refine wpAny_stack_any fun st => wpAny_pure ?_
    split
    · rename_i c _ _ _ _ _
      cases (c == Value.type "enumerate")
      · wp_walk using wpAny_loadPart' hl, wpAny_pyIter_tuple hL
        exact ⟨_, rfl, h⟩
      · wp_walk using wpAny_loadPart' hl, wpAny_pyIter_tuple hL
        exact ⟨_, rfl, h⟩
    · wp_walk using wpAny_loadPart' hl, wpAny_pyIter_tuple hL
      exact ⟨_, rfl, h⟩
section
variable {prog : Program} {w : World} {A : Around} {E : Value → Shared → Prop} {s : Shared}
theorem call_enumerate_tup {l : Addr} {items : Array Value} {Q : Value → Shared → Prop} (hL : s.heap.IsTuple l items)
    (h : ∀ h', IsEnum h' (s.heap.objs.size + 1) s.heap.objs.size 0 .none → h'.IsTupleIter s.heap.objs.size l 0 → h'.objs.size = s.heap.objs.size + 2 →
      (∀ b o, s.heap.get? b = some o → h'.get? b = some o) → Q (.ref (s.heap.objs.size + 1)) { s with heap := h' }) :
    wpAny (model prog w) A (call (.type "enumerate") [.ref l]) Q E s := by
  obtain ⟨⟨c, dct, dt, sl⟩, hl, hc, n, hd⟩ := hL
  replace hc : c = .type "tuple" := hc
  replace hd : dt = .seq items n := hd
  subst hc hd
  refine callType_new F.called_enumerate (by decide) (F.typeCall_enumerate_1 _) (F.newCall_enumerate_1 _) (fun obj => F.args_object_init_2 obj _) F.entry_enumerate_new
    (meets_enumerate_newTup l items n dct sl) ⟨hl, ?_⟩
  have hz : (s.heap.push { cls := .type "tuple_iterator", data := .fields #[.ref l, .int 0 0] }).objs.size = s.heap.objs.size + 1 := Heap.size_push ..
  show _ ∧ _
  rw [hz]
  have he : IsEnum ((s.heap.push { cls := .type "tuple_iterator", data := .fields #[.ref l, .int 0 0] }).push
      { cls := .type "enumerate", data := .fields #[.none, .bool false, .ref s.heap.objs.size, rawInt 0, .none, .none] }) (s.heap.objs.size + 1) s.heap.objs.size 0 .none := by
    have := Heap.get?_push_size (s.heap.push { cls := .type "tuple_iterator", data := .fields #[.ref l, .int 0 0] })
      (o := { cls := .type "enumerate", data := .fields #[.none, .bool false, .ref s.heap.objs.size, rawInt 0, .none, .none] }) rfl
    rw [hz] at this; exact this
  refine ⟨⟨_, he, rfl⟩, h _ he ⟨_, Heap.get?_push_of_some _ (Heap.get?_push_size _ rfl), rfl, rfl⟩ (by rw [Heap.size_push, hz]) fun b o x => Heap.get?_push_of_some _ (Heap.get?_push_of_some _ x)⟩
end
end PySem
namespace Dn
open PySem PySem.Spec PyProof.Rows L2
def Iet (K : PySem.W.Frag) (a : Addr) : It :=
  ⟨fun i H => ∃ (xs : List V) (x : V), SqT K H a xs ∧ xs[i]? = some x, fun i H v H' => ∃ T x, v = .ref T ∧ H T = none ∧ H' = upd H T (.tup [.int (i : Nat), x]) ∧ ∀ xs, SqT K H a xs → xs[i]? = some x, fun i H => ∃ xs : List V, SqT K H a xs ∧ xs.length ≤ i⟩
theorem turn_enumT {P : Program} {w : World} {K : PySem.W.Frag} {elts : List Expr} {kk : Nat} {tpos : Pos} (a e it : Addr) :
    Turn P w K (.Tuple elts kk tpos) (Iet K a) [e, it] e (fun i h => (∃ old, IsEnum h e it ((i : Nat) : Int) old) ∧ h.IsTupleIter it a i ∧ e ≠ it) where
  mem := by simp
  obj := fun i h st b hb => by
    obtain ⟨⟨old, he⟩, ⟨o, ho, hc, hd⟩, _⟩ := st
    have e' : b = e ∨ b = it := by simpa using hb
    rcases e' with z | z
    · rw [z]; exact ⟨_, he, fun v q => nomatch q⟩
    · rw [z]; exact ⟨o, ho, fun v q => by rw [hd] at q; cases q⟩
  keep := fun i h h' st k => let ⟨⟨old, he⟩, hi, hne⟩ := st; ⟨⟨old, k e (by simp) _ he⟩, hi.at fun o q => k it (by simp) o q, hne⟩
  item := by
    intro X hP hw hK hc i pins s σ H E I hf st hg
    subst hP hw hK
    obtain ⟨⟨old, he⟩, hit, hne⟩ := st
    obtain ⟨xs, x, hq, hx⟩ := hg
    obtain ⟨its, rv, p, hz⟩ := I.tuple hq
    obtain ⟨u, hu, ru⟩ := rv.get hx
    have hel : e < s.heap.objs.size := Heap.lt_size he
    have hil : it < s.heap.objs.size := by obtain ⟨_, q, _⟩ := hit; exact Heap.lt_size q
    have pT : s.heap.IsTuple a its.toArray := p
    have hae : a ≠ it := fun z => by
      obtain ⟨o, q, c, _⟩ := hit
      obtain ⟨o', q', c', _⟩ := pT
      rw [z, q] at q'; cases q'
      rw [c] at c'; exact absurd c' (by decide)
    have hae2 : e ≠ a := fun z => by
      obtain ⟨o', q', c', _⟩ := pT
      have he' : s.heap.get? e = some _ := he
      rw [z, q'] at he'
      cases he'
      exact absurd (show Value.type "enumerate" = Value.type "tuple" from c') (by decide)
    have hh : X.A.handled = none := I.ok.hd hc
    have hil' : i < its.toArray.size := by
      have := (List.getElem?_eq_some_iff.mp hu).1
      simpa using this
    refine wpAny_pyNext_enum_itemD (Draws.tuple (A := X.A.in1) hh it a hae its.toArray) he ⟨hit, pT⟩ hil' hne (by simp [hne, hae2]) fun x' h' tk' hx' ho hst hT hsz hk => ?_
    have ex : x' = u := by
      have : (its.toArray)[i]? = some u := by simpa using hu
      rw [hx'] at this
      exact Option.some.inj this
    subst ex
    refine ⟨_, rfl, wpAny_letOwnedTupleGo_enum (s := { s with heap := h', toks := tk' + 1 }) ho fun h'' he' sb => ?_⟩
    have hT2 : h''.get? s.heap.objs.size = some { cls := .type "tuple", data := .seq #[.int i tk', x'] } := (sb.2 _ (Nat.ne_of_gt hel)).trans hT
    have new : ObjOk X.prog X.w (upd H s.heap.objs.size (.tup [.int (i : Nat), x])) h'' s.heap.objs.size (.tup [.int (i : Nat), x]) :=
      ⟨by show 2 ≤ sizeLine; decide, [.int i tk', x'], .cons ⟨_, rfl⟩ (.cons ru .nil), ⟨_, hT2, rfl, _, rfl⟩⟩
    have I1 : L2.Inv X pins σ (upd H s.heap.objs.size (.tup [.int (i : Nat), x])) { s with heap := h'', toks := tk' + 1 } :=
      I.turnedNew (ch := [e, it]) (fun b ob hb q => (sb.2 b (fun z => hb (by simp [z]))).trans (hk b ob (fun z => hb (by simp [z])) (fun z => hb (by simp [z])) q)) hf (Nat.le_refl _) new
    refine ⟨.ref s.heap.objs.size, _, I1, rfl, ⟨_, x, rfl, I.hok.fresh (Nat.le_refl _), rfl, fun ys hy => by rw [I.tuple_inj hy hq]; exact hx⟩, ⟨⟨x', ?_⟩, hst.1.at fun o q => (sb.2 it (Ne.symm hne)).trans q, hne⟩, fun b hb => ?_⟩
    · have e1 : ((i + 1 : Nat) : Int) = (i : Int) + 1 := by omega
      rw [e1]; exact he'
    · have hb' : b < s.heap.objs.size := by
        have e' : b = e ∨ b = it := by simpa using hb
        rcases e' with z | z
        · rw [z]; exact hel
        · rw [z]; exact hil
      rw [upd_ne (Nat.ne_of_lt hb')]
      exact (hf b hb).1
  done := by
    intro X hP hw hK hc i pins s σ H E I hf st hg
    subst hP hw hK
    obtain ⟨⟨old, he⟩, hit, hne⟩ := st
    obtain ⟨xs, hq, hx⟩ := hg
    obtain ⟨its, rv, p, hz⟩ := I.tuple hq
    obtain ⟨f0, f1, f2, f3, f4, f5⟩ := hf it (by simp)
    have hl := rv.length
    have hh : X.A.handled = none := I.ok.hd hc
    have pT : s.heap.IsTuple a its.toArray := p
    have hT : s.TypeIs (.ref e) "enumerate" := ⟨_, he, rfl⟩
    unfold pyNext
    refine wpAny_bind (wpAny_attempt (wpAny_callSpecial?_slot (name := Str.ofString "__next__") hT F.slot_enumerate_next
      (wpAny_call_entry F.slot_enumerate_next hT F.entry_enumerate_next ?_ (F.args_enumerate_next_1 _))))
    show wpAny _ _ (field (.ref e) 2 >>= _) _ _ _
    refine wpAny_bind (wpAny_field he rfl (x := .ref it) rfl ?_)
    refine wpAny_bind (wpAny_nextOf_tuple_end (A := X.A.in1) hh hit pT (by simp; omega) fun h' x he' hx' => ?_)
    obtain ⟨o, ho, hcc⟩ := hx'
    refine wpAny_bind (wpAny_isInstance (T := "StopIteration") (b := true) ⟨o, ho, hcc⟩ isSubtype_stop ?_)
    exact wpAny_pure ⟨rfl, I.turned (t' := s.toks) (fun b o hb q => he' b o hb q) f0 f1 f3 f4 f5⟩
  self := fun A i s Q E st h => let ⟨⟨_, he⟩, _⟩ := st; wpAny_pyIter_enum he h
/-! ### enumerate of what there is -/
def enumD (ds : List D) : List D := (List.range ds.length).zipWith (fun i d => .tup [.int (i : Nat), d]) ds
theorem enumD_get {ds : List D} {i : Nat} {d : D} (h : ds[i]? = some d) : (enumD ds)[i]? = some (.tup [.int (i : Nat), d]) := by
  obtain ⟨hi, e⟩ := List.getElem?_eq_some_iff.mp h
  simp [enumD, hi, e]
theorem enumD_len (ds : List D) : (enumD ds).length = ds.length := by simp [enumD]
section
variable {X : Cx}
theorem walkD_enumT {K : PySem.W.Frag} {α : Al} {H : Hp} {ih : IHp} {ds : List D} {a : Addr} {vs : List V} (h : RH K α H ih) (q : SqT K H a vs) (rs : Reps K α H ds vs) : WalkD K α H (enumD ds, none) (Iet K a) := by
  have el : (enumD ds, (none : Option Nat)).1.length = vs.length := by show (enumD ds).length = _; rw [enumD_len, rs.length]
  refine ⟨fun H => SqT K H a vs, fun i H v H' => ∃ T x, v = .ref T ∧ H T = none ∧ H' = upd H T (.tup [.int (i : Nat), x]) ∧ vs[i]? = some x,
    ⟨fun i H hi q => ⟨vs, vs[i]'(by rw [← el]; exact hi), q, by simp⟩, fun H q => ⟨vs, q, by rw [el]; exact Nat.le_refl _⟩, fun i H x H' hi q ⟨T, y, e1, e2, e3, e4⟩ => ⟨T, y, e1, e2, e3, e4 vs q⟩⟩, fun α' H' ih' x _ _ => SqT.ext h x q, fun i H1 x H2 α1 ih1 hi x1 h1 _ y => ?_⟩
  obtain ⟨T, y, e1, e2, e3, e4⟩ := y
  subst e1 e3
  obtain ⟨d, e5, r⟩ := (rs.ext h x1).getV e4
  exact ⟨_, enumD_get e5, Ext.new e2, h1.new e2, .tup (.inl (.inl upd_same)) (.cons (.int _) (.one (r.ext h1 (Ext.new e2))))⟩
theorem walkD_enumL {K : PySem.W.Frag} {α : Al} {H : Hp} {ih : IHp} {ds : List D} {a : Addr} {vs : List V} (h : RH K α H ih) (q : SqF α H a vs) (rs : Reps K α H ds vs) : WalkD K α H (enumD ds, none) (Ite K a) := by
  have el : (enumD ds, (none : Option Nat)).1.length = vs.length := by show (enumD ds).length = _; rw [enumD_len, rs.length]
  refine ⟨fun H => SqL K H a vs, fun i H v H' => ∃ T x, v = .ref T ∧ H T = none ∧ H' = upd H T (.tup [.int (i : Nat), x]) ∧ vs[i]? = some x,
    ⟨fun i H hi q => ⟨vs, vs[i]'(by rw [← el]; exact hi), q, by simp⟩, fun H q => ⟨vs, q, by rw [el]; exact Nat.le_refl _⟩, fun i H x H' hi q ⟨T, y, e1, e2, e3, e4⟩ => ⟨T, y, e1, e2, e3, e4 vs q⟩⟩, fun α' H' ih' x _ _ => (q.ext x).seq, fun i H1 x H2 α1 ih1 hi x1 h1 _ y => ?_⟩
  obtain ⟨T, y, e1, e2, e3, e4⟩ := y
  subst e1 e3
  obtain ⟨d, e5, r⟩ := (rs.ext h x1).getV e4
  exact ⟨_, enumD_get e5, Ext.new e2, h1.new e2, .tup (.inl (.inl upd_same)) (.cons (.int _) (.one (r.ext h1 (Ext.new e2))))⟩
def enumOf (ds : List D) : Option It1 := match ds with
  | [.tup ds] => some (enumD ds, none)
  | [.lst ds] => some (enumD ds, none)
  | _ => none
def mEnum (ms : MA) : MI := fun σ h => (ms σ h).bind fun ds h => R.opt (enumOf ds) h
theorem di_enum {e : Expr} {ms : MA} {p pos tpos : Pos} {elts : List Expr} {kk : Nat} (hg : Gl X "enumerate") (hm : X.mg "enumerate" = none) (ha : DA X [e] ms) (hs : starEach [e] X.env = [(false, eval e X.env)] := by rfl) :
    DI X (.Tuple elts kk tpos) (.Call (.Name "enumerate" p) [e] [] pos) (mEnum ms) := fun W tk => ⟨fun pins s σ H R I ⟨α, iσ, ih, h, ss, g⟩ => by
  refine Call_ (ld_blt I hg hm boot_enumerate (PyProof.Rows.callWith_type1 (thn ((ha W tk).run pos pins s σ H (fun vs H1 => (∃ a xs, vs = [.ref a] ∧ SqT X.K H1 a xs ∧ R (Iet X.K a) H1) ∨ ∃ a xs, vs = [.ref a] ∧ SqL X.K H1 a xs ∧ R (Ite X.K a) H1) I ⟨α, iσ, ih, h, ss, g.bind.mono fun vs H1 ⟨α1, ds, ih1, x1, h1, r1, g1⟩ => ?_⟩) fun us s1 ⟨vs, H1, I1, r1, q1⟩ => ?_) hs rfl))
  · cases ee : enumOf ds with
    | none => rw [ee] at g1; exact g1.elim
    | some z =>
      rw [ee] at g1
      unfold enumOf at ee
      split at ee
      · cases ee
        cases r1 with
        | cons q1 r1 =>
        cases r1
        cases q1 with
        | tup q rs => exact .inl ⟨_, _, rfl, q, g1.ok h1 (walkD_enumT h1 q rs)⟩
      · cases ee
        cases r1 with
        | cons q1 r1 =>
        cases r1
        cases q1 with
        | lst q rs => exact .inr ⟨_, _, rfl, q.seq, g1.ok h1 (walkD_enumL h1 q rs)⟩
      · cases ee
  · rcases q1 with ⟨a, xs, ex, hq, q⟩ | ⟨a, xs, ex, hq, q⟩
    · subst ex
      cases r1 with
      | cons r rr =>
        cases rr
        cases r
        obtain ⟨its, rv, p', hz⟩ := I1.tuple hq
        refine call_enumerate_tup (show s1.heap.IsTuple a its.toArray from p') fun h' he hit hsz hk => wpAny_pyIter_enum he ?_
        have I2 : L2.Inv X pins σ H1 { s1 with heap := h' } := I1.kept (t' := s1.toks) hk
        refine ⟨s1.heap.objs.size + 1, [s1.heap.objs.size + 1, s1.heap.objs.size], _, _, H1, rfl, I2, turn_enumT a (s1.heap.objs.size + 1) s1.heap.objs.size, ⟨⟨.none, he⟩, hit, Nat.succ_ne_self _⟩, fun b hb => ?_, q⟩
        have e' : b = s1.heap.objs.size + 1 ∨ b = s1.heap.objs.size := by simpa using hb
        have hle : s1.heap.objs.size ≤ b := by
          rcases e' with z | z
          · rw [z]; exact Nat.le_add_right _ _
          · rw [z]; exact Nat.le_refl _
        exact I1.fpOk hle (I1.hok.fresh hle)
    · subst ex
      cases r1 with
      | cons r rr =>
        cases rr
        cases r
        obtain ⟨its, rv, p', hz⟩ := I1.list hq
        refine call_enumerate_list p'.isList fun h' he hit hsz hk => wpAny_pyIter_enum he ?_
        have I2 : L2.Inv X pins σ H1 { s1 with heap := h' } := I1.kept (t' := s1.toks) hk
        refine ⟨s1.heap.objs.size + 1, [s1.heap.objs.size + 1, s1.heap.objs.size], _, _, H1, rfl, I2, turn_enum a (s1.heap.objs.size + 1) s1.heap.objs.size, ⟨⟨.none, he⟩, hit, Nat.succ_ne_self _⟩, fun b hb => ?_, q⟩
        have e' : b = s1.heap.objs.size + 1 ∨ b = s1.heap.objs.size := by simpa using hb
        have hle : s1.heap.objs.size ≤ b := by
          rcases e' with z | z
          · rw [z]; exact Nat.le_add_right _ _
          · rw [z]; exact Nat.le_refl _
        exact I1.fpOk hle (I1.hok.fresh hle)⟩
end
end Dn

set_option Elab.async false
set_option linter.all false
set_option maxRecDepth 100000
set_option maxHeartbeats 4000000
/-! defs that run where no repr is under way -/
namespace Dn
open PySem PySem.Spec PyProof.Rows L2
/-- the def at f keeps sp wherever nothing is being shown -/
structure FnG (fb : Bool) (P : Program) (w : World) (K : PySem.W.Frag) (mg : Str → Option Value) (base : Heap) (k : Nat) (f : Addr) (fd : FuncData) (ps : List Str) (sp : Sp) : Prop where
  len : ∀ vs H Q E, sp vs H Q E → vs.length = ps.length
  go : ∀ (A : Around) (outer : List Env) (s : Shared) (H : Hp) (args : Args) (us : List Value) (vs : List V) (Q : VK) (E : XK), (fb = true → A.guards = some []) → Room k A → Env0 P w K mg base A outer s H →
    BindsTo s fd args (ps.zip us) → Vals vs us → sp vs H Q E → codeAny (model P w) A (.call (.ref f) args) (CR (L2.CX P w) outer P w H s Q E) s
section
variable {fb : Bool} {P : Program} {w : World} {K : PySem.W.Frag} {mg : Str → Option Value} {base : Heap} {k : Nat} {f : Addr} {fd : FuncData} {ps : List Str} {sp : Sp}
theorem FnG.mono {j : Nat} (F : FnG fb P w K mg base j f fd ps sp) (h : j ≤ k) : FnG fb P w K mg base k f fd ps sp :=
  ⟨F.len, fun A outer s H args us vs Q E hg hr => F.go A outer s H args us vs Q E hg (hr.mono h)⟩
theorem FnG.imp {sp' : Sp} (F : FnG fb P w K mg base k f fd ps sp) (h : ∀ vs H Q E, sp' vs H Q E → sp vs H Q E) : FnG fb P w K mg base k f fd ps sp' :=
  ⟨fun vs H Q E q => F.len vs H Q E (h _ _ _ _ q), fun A outer s H args us vs Q E hg hr he hb hv hs => F.go A outer s H args us vs Q E hg hr he hb hv (h _ _ _ _ hs)⟩
/-- a def whose code object is known -/
structure FunC (K : PySem.W.Frag) (x qual : Str) (st : Stmt) (f : Addr) (fd : FuncData) (cdv : Value) : Prop where
  ex : ∃ (oc : Value) (od : Option Addr) (kV doc pm : Value) (an : Option Addr) (ct : Value) (osl : Array (Option Value)),
    fd = PySem.W.fnOf x qual (defArgs st) (defBody st) (defScope st) .none kV doc pm an cdv ct ∧ K.lookup f = some ⟨oc, od, .func fd, osl⟩ ∧ PySem.W.codeIn K cdv qual = true
  kp : PySem.W.keepIn K (.ref f) = true
theorem FunC.mk' {K : PySem.W.Frag} {x qual : Str} {st : Stmt} {f : Addr} {oc : Value} {od an : Option Addr} {osl : Array (Option Value)} {kV doc pm cdv ct : Value} (l : K.lookup f = some ⟨oc, od, .func (PySem.W.fnOf x qual (defArgs st) (defBody st) (defScope st) .none kV doc pm an cdv ct), osl⟩)
    (c : PySem.W.codeIn K cdv qual = true) (k : PySem.W.keepIn K (.ref f) = true) : FunC K x qual st f (PySem.W.fnOf x qual (defArgs st) (defBody st) (defScope st) .none kV doc pm an cdv ct) cdv := ⟨⟨oc, od, kV, doc, pm, an, ct, osl, rfl, l, c⟩, k⟩
theorem FnG.of_bodyC {x qual : Str} {st : Stmt} {N : List Str} {cdv : Value} (F : FunC K x qual st f fd cdv) (S : FnScope N ps (defScope st)) (len : ∀ vs H Q E, sp vs H Q E → vs.length = ps.length)
    (body : ∀ (A : Around) (outer : List Env) (s : Shared) (H : Hp) (vs : List V) (Q : VK) (E : XK), (fb = true → A.guards = some []) → Room k (A.deeper (envOfC qual (defScope st) s.heap.objs.size f cdv)) → sp vs H Q E →
      ∃ t, PSs (cxOf (L2.CX P w) P w K mg base N qual (defScope st) f cdv A outer s H E) (defBody st) t ∧ t { nx := fun _ H' => Q .non H', rt := Q } (L2.start N vs) H) : FnG fb P w K mg base (k + 1) f fd ps sp := by
  obtain ⟨oc, od, kV, doc, pm, an, ct, osl, rfl, lk, hcd⟩ := F.ex
  refine ⟨len, fun A outer s H args us vs Q E hg hr e0 hb r hsp => ?_⟩
  have KX : K.In s.heap := e0.mod.kin.keeps fun b o e => (e0.bs b o e).1
  have lim : s.heap.NoLimit := e0.mod.nolimit.keeps fun b o e => (e0.bs b o e).1
  have kd : ∀ y ∈ ps.zip us, (defScope st).names.lookup y.1 = some .local ∨ ((defScope st).names.lookup y.1 = some .cell ∧ ((cellsFrom (s.heap.objs.size + 1) (defScope st).names []).lookup y.1).isSome = true) := by
    rintro ⟨n, v⟩ hy
    exact (S.par n (List.of_mem_zip hy).1).elim .inl fun q => .inr ⟨q, PySem.W.cellsFrom_some _ _ _ (.inl q)⟩
  refine codeAny_call_function hr.depth (KX _ _ lk) rfl S.co S.gen rfl (PySem.W.codeRec_of KX hcd) (hb _ _ _ _ (wpAny_newFunctionEnv_cells S.kind kd fun env he s1 x => ?_))
  subst he
  obtain ⟨t, ht, hq⟩ := body A outer s H vs Q E hg (hr.deeper _) hsp
  refine ⟨lim.keeps x.toInCall.keep, codeAny_func (wpAny_mono (ht.run [] s1 (L2.start N vs) H _ (inv_start S hr.hd e0 (len _ _ _ _ hsp) r x) hq) (fun fl s' hs => ?_) fun e s' hs => hs)⟩
  cases fl with
  | ret u => exact let ⟨v, σ', H', J, rv, q⟩ := hs; ⟨v, H', J.os, J.bare, J.base, J.hok, rv, q⟩
  | next => exact let ⟨σ', H', J, q⟩ := hs; ⟨.non, H', J.os, J.bare, J.base, J.hok, rfl, q⟩
  | brk => exact let ⟨_, _, _, q⟩ := hs; False.elim q
  | cont => exact let ⟨_, _, _, q⟩ := hs; False.elim q
theorem FnG.of_body {x qual : Str} {st : Stmt} {N : List Str} (F : Fun K x qual st f fd) (S : FnScope N ps (defScope st)) (len : ∀ vs H Q E, sp vs H Q E → vs.length = ps.length)
    (body : ∀ (cdv : Value) (A : Around) (outer : List Env) (s : Shared) (H : Hp) (vs : List V) (Q : VK) (E : XK), (fb = true → A.guards = some []) → Room k (A.deeper (envOfC qual (defScope st) s.heap.objs.size f cdv)) → sp vs H Q E →
      ∃ t, PSs (cxOf (L2.CX P w) P w K mg base N qual (defScope st) f cdv A outer s H E) (defBody st) t ∧ t { nx := fun _ H' => Q .non H', rt := Q } (L2.start N vs) H) : FnG fb P w K mg base (k + 1) f fd ps sp := by
  obtain ⟨oc, od, kV, doc, pm, an, cdv, ct, osl, e, lk, hcd⟩ := F.ex
  exact FnG.of_bodyC (cdv := cdv) ⟨⟨oc, od, kV, doc, pm, an, ct, osl, e, lk, hcd⟩, F.kp⟩ S len fun A outer s H vs Q E => body cdv A outer s H vs Q E
end
section
variable {X : Cx} {k : Nat} {f : Addr} {fd : FuncData} {ps : List Str} {sp : Sp} {E : L2.St → XK} {x : Str} {p pos : Pos} {e : Expr} {es : List Expr} {t : TA}
theorem FnG.run {pins : List (Addr × Obj)} {σ : L2.St} {H : Hp} {s : Shared} {Q : VK} {us : List Value} {vs : List V} (F : FnG fb X.prog X.w X.K X.mg X.base k f fd ps sp) (gd : fb = true → X.A.guards = some []) (hr : Room k X.A) (hb : Binds X.K fd ps []) (hx : PassesAt (L2.CX X.prog X.w) X σ (E σ))
    (I : L2.Inv X pins σ H s) (r : Vals vs us) (h : sp vs H Q (E σ)) : wpAny (model X.prog X.w) X.A (call (.ref f) us) (EP X pins σ Q) X.xe s := by
  have b := hb s us I.kIn (by rw [List.append_nil, ← r.length]; exact F.len _ _ _ _ h)
  rw [List.append_nil] at b
  refine wpAny_call (codeAny_mono (F.go X.A X.stack s H ⟨us, []⟩ us vs Q (E σ) gd hr I.env0 b r h) fun r s' hq => ?_)
  rcases r with e | (_ | _ | _ | _)
  · exact hx pins H s e s' I hq
  all_goals first | exact I.after hq | exact False.elim hq
theorem FnG.pe (F : FnG fb X.prog X.w X.K X.mg X.base k f fd ps sp) (gd : fb = true → X.A.guards = some []) (hr : Room k X.A) (hg : Gl X x) (hm : X.mg x = some (.ref f)) (hk : PySem.W.keepIn X.K (.ref f) = true) (hb : Binds X.K fd ps []) (hx : ∀ σ, PassesAt (L2.CX X.prog X.w) X σ (E σ))
    (ha : PA X (e :: es) t) (hdb : (x == ("__debug__" : Str)) = false) (he : starEach (e :: es) X.env = (false, eval e X.env) :: starEach es X.env) (hpl : (backTo pos (starEach es X.env)).any (·.1) = false) :
    PE X (.Call (.Name x p) (e :: es) [] pos) (tCallS sp E t) := ⟨fun pins s σ H Q I h => wpAny_Call_Name_kw (ld_glob I hg hm
  (PySem.W.callWith_K (h₀ := X.base) I.ok.mod.kin hk (thn (ha.run pos pins s σ H _ I h) fun us s1 ⟨vs, H1, I1, r, q⟩ => ⟨I1.kIn, F.run gd hr hb (hx σ) I1 r q⟩) he hpl) hdb)⟩
end

/-! ### the law's own call -/
/-- what the law's def must keep: called with the script it gives True -/
def LawSp (K : PySem.W.Frag) (n : Nat) (sp : Sp) : Prop := ∀ (H : Hp) (a : Addr) (ns : List Int), ns.length ≤ n → Only H → SqL K H a (ns.map V.int) → sp [.ref a] H (fun v _ => v = .bl true) fun _ _ _ => False
theorem FnG.law_at {fb : Bool} {P : Program} {w : World} {K : PySem.W.Frag} {mg mb : Str → Option Value} {k n : Nat} {fa a : Addr} {fd : FuncData} {x : Str} {sp : Sp} {s₁ : Shared} {vs : List Value} {ns : List Int}
    (KX : K.In s₁.heap) (hns : s₁.heap.Ns mainGlobals mg) (hb : s₁.heap.Ns builtinsNs mb) (hbb : ∀ x : Str, x ≠ "__name__" → mb x = bootBuiltins x) (hlim : s₁.heap.NoLimit) (hg : s₁.gens = #[])
    (ha : s₁.heap.get? a = some { cls := .type "list", data := .seq vs.toArray }) (hi : IntsAre vs ns) (hn : ns.length ≤ n) (hz : n ≤ sizeLine) (hr : Room k callerA)
    (F : ∀ base : Heap, K.In base → base.Ns mainGlobals mg → FnG fb P w K mg base k fa fd [x] sp) (hbind : ∀ (s : Shared) (u : Value), BindsTo s fd ⟨[u], []⟩ [(x, u)]) (hsp : LawSp K n sp) (H : Hp) (hO : Only H) (hS : SqL K H a (ns.map V.int)) (hok : HOk P w H s₁.heap)
    (hA : ∀ b, H b ≠ none → b = a) (hK : H a ≠ none → K.lookup a = none) :
    codeAny (model P w) callerA (.call (.ref fa) ⟨[.ref a], []⟩) (fun r s' => r = .ok (.ret (.bool true)) ∧ OldK s₁.heap s'.heap ∧ s'.os = s₁.os ∧ AllBare s'.gens) s₁ := by
  have at_a : ∀ {b : Addr} {u : HO}, H b = some u → b = a := fun {b u} q => hA b (by rw [q]; exact fun z => nomatch z)
  have nsK : ∀ {b : Addr} {m : Str → Option Value}, s₁.heap.Ns b m → (hidT s₁.heap H).Ns b m := fun {b m} ⟨o, es, ep, e, d, r⟩ => ⟨o, es, ep, hidT_get e (by
    cases q : H b with
    | none => rfl
    | some u =>
      rw [at_a q, ha] at e
      cases e
      exact nomatch (show Data.seq vs.toArray _ = Data.dict es ep from d)), d, r⟩
  have hKb : K.In (hidT s₁.heap H) := fun b o e => hidT_get (KX b o e) (by
    cases q : H b with
    | none => rfl
    | some u =>
      have z := at_a q
      subst z
      rw [hK (by rw [q]; exact fun z => nomatch z)] at e
      cases e)
  have hM : Mod K mg (hidT s₁.heap H) := ⟨hKb, nsK hns, ⟨mb, nsK hb, hbb⟩, let ⟨mc, h1, h2⟩ := hlim; ⟨mc, nsK h1, h2⟩⟩
  have nil_no : ∀ b : Addr, b ∉ frs ([] : List Env) := fun b hb => by
    have z : b ∈ ([] : List Addr) := hb
    cases z
  have e0 : Env0 P w K mg (hidT s₁.heap H) callerA [] s₁ H := ⟨rfl, hM, fun b o e => of_hidT e, Nat.le_of_eq (hidT_size _ _), trivial, fun b hb => absurd hb (nil_no b), hok, .of_eq hg⟩
  refine codeAny_mono ((F _ hKb (nsK hns)).go callerA [] s₁ H ⟨[.ref a], []⟩ [.ref a] [.ref a] _ _ (fun _ => rfl) hr e0 (hbind s₁ (.ref a)) (.cons rfl .nil) (hsp H a ns hn hO hS)) fun r s' h => ?_
  rcases r with e | (_ | _ | _ | _)
  · obtain ⟨_, _, _, _, _, _, _, _, _, _, _, _, z⟩ := (show L2.CX P w [] H s₁ _ e s' from h)
    exact z.elim
  case ok.ret u =>
    obtain ⟨v, H', os, bare, un, hok', r', q⟩ := h
    have q' : v = .bl true := q
    subst q'
    have ru : u = Value.bool true := r'
    subst ru
    refine ⟨rfl, OldK.of_keep fun b o e => ?_, os, bare⟩
    cases q : H b with
    | none => exact un.keep b o e q (nil_no b) List.not_mem_nil
    | some u =>
      rcases hO b with z | ⟨ob, xs, z⟩
      · rw [q] at z; cases z
      · have e1 := (hok b _ z).1
        have e2 := (hok' b _ (un.frzs b ob _ z)).1
        rw [e] at e1
        cases e1
        exact e2
  all_goals exact False.elim h
theorem FnG.law_call {fb : Bool} {P : Program} {w : World} {K : PySem.W.Frag} {mg mb : Str → Option Value} {k n : Nat} {fa a : Addr} {fd : FuncData} {x : Str} {sp : Sp} {s₁ : Shared} {vs : List Value} {ns : List Int}
    (KX : K.In s₁.heap) (hns : s₁.heap.Ns mainGlobals mg) (hb : s₁.heap.Ns builtinsNs mb) (hbb : ∀ x : Str, x ≠ "__name__" → mb x = bootBuiltins x) (hlim : s₁.heap.NoLimit) (hg : s₁.gens = #[])
    (ha : s₁.heap.get? a = some { cls := .type "list", data := .seq vs.toArray }) (hi : IntsAre vs ns) (hn : ns.length ≤ n) (hz : n ≤ sizeLine) (hr : Room k callerA)
    (F : ∀ base : Heap, K.In base → base.Ns mainGlobals mg → FnG fb P w K mg base k fa fd [x] sp) (hbind : ∀ (s : Shared) (u : Value), BindsTo s fd ⟨[u], []⟩ [(x, u)]) (hsp : LawSp K n sp) :
    codeAny (model P w) callerA (.call (.ref fa) ⟨[.ref a], []⟩) (fun r s' => r = .ok (.ret (.bool true)) ∧ OldK s₁.heap s'.heap ∧ s'.os = s₁.os ∧ AllBare s'.gens) s₁ := by
  have rv := vals_ints hi
  have lz : ns.length ≤ sizeLine := Nat.le_trans hn hz
  have core := FnG.law_at (P := P) (w := w) KX hns hb hbb hlim hg ha hi hn hz hr F hbind hsp
  cases hk : K.lookup a with
  | some o =>
    have e := KX a o hk
    rw [ha] at e
    cases e
    exact core (fun _ => none) (fun _ => .inl rfl) (.inr ⟨_, vs.toArray, _, hk, rfl, rfl, rfl, by rw [List.size_toArray, hi.length]; exact lz, by simpa using rv⟩) (fun b u z => nomatch (show (none : Option HO) = some u from z)) (fun b z => absurd rfl z) fun z => absurd rfl z
  | none =>
    have at1 : ∀ b, b = a → (fun b => if b = a then some (HO.frz { cls := .type "list", data := .seq vs.toArray } (.lst (ns.map V.int))) else none) b = some (HO.frz { cls := .type "list", data := .seq vs.toArray } (.lst (ns.map V.int))) := fun b hb => if_pos hb
    have at2 : ∀ b, b ≠ a → (fun b => if b = a then some (HO.frz { cls := .type "list", data := .seq vs.toArray } (.lst (ns.map V.int))) else none) b = none := fun b hb => if_neg hb
    refine core (fun b => if b = a then some (.frz { cls := .type "list", data := .seq vs.toArray } (.lst (ns.map V.int))) else none) (fun b => ?_) (.inl (.inr ⟨_, at1 a rfl⟩)) (fun b u z => ?_) (fun b z => Classical.byContradiction fun hb => z (at2 b hb)) fun _ => hk
    · exact (Classical.em (b = a)).elim (fun hb => .inr ⟨_, _, at1 b hb⟩) fun hb => .inl (at2 b hb)
    · by_cases hb : b = a
      · have z' := (at1 b hb).symm.trans z
        cases z'
        subst hb
        exact ⟨ha, by rw [List.length_map]; exact lz, vs, _, rv, ha⟩
      · exact nomatch (at2 b hb).symm.trans z
theorem walkG {fb : Bool} {l : PySem.W.OpenLaw} {n k : Nat} {q : Program} {loose : List Str} {XP : (Str → Option Value) → Heap → Prop} {YP : World → Heap → Prop} {d : DefRec} {K : Params → PySem.W.Frag} {sp : World → Sp} {x : Str}
    (hn : l.most = some n) (hn2 : n ≤ sizeLine) (hdf : d.params.defaults = []) (hr : Room k callerA) (hY : ∀ (w : World) (h : Heap), YP w h → (K w.params).In h)
    (F : ∀ (w : World) (mg : Str → Option Value) (fa : Addr) (h : Heap), (K w.params).In h → h.Ns mainGlobals mg → mg d.name = some (.ref fa) → ∃ fd : FuncData, (∀ (s : Shared) (u : Value), BindsTo s fd ⟨[u], []⟩ [(x, u)]) ∧
        ∀ base : Heap, (K w.params).In base → base.Ns mainGlobals mg → FnG fb l.prog w (K w.params) mg base k fa fd [x] (sp w))
    (hsp : ∀ w : World, LawSp (K w.params) n (sp w)) : PySem.W.WalkO q loose XP YP l.row.toRowW d [] (fun f vs => PySem.call f vs) := by
  refine Att.attach_call hn hdf fun w s₀ s₁ mg mb fa o pm cd doc a vs ns G Y ho hd hcd hmg hobj hints hlen hg => ?_
  obtain ⟨fd, hb, hF⟩ := F w mg fa _ (hY w _ Y) G.T.g hmg
  exact FnG.law_call (hY w _ Y) G.T.g G.T.b G.T.builtins G.T.nolimit hg hobj hints hlen hn2 hr hF hb (hsp w)
end Dn

set_option Elab.async false
set_option linter.all false
set_option maxRecDepth 100000
set_option maxHeartbeats 4000000
namespace Dn
open PySem PySem.Spec PyProof.Rows L2

/-! ### defs -/
abbrev MF := List D → IHp → R D
def spD (K : PySem.W.Frag) (mg : Str → Option Value) (n : Nat) (m : MF) : Sp := fun vs H Q E => vs.length = n ∧ ∃ α ds ih, RH K α H ih ∧ Reps K α H ds vs ∧ Go K mg (fun c H' => E c none H') (Rep K) α H (m ds ih) Q
/-- the def of this name is worth m -/
structure DefAt (fb : Bool) (P : Program) (w : World) (K : PySem.W.Frag) (mg : Str → Option Value) (base : Heap) (j : Nat) (x : Str) (n : Nat) (m : MF) : Prop where
  ex : ∃ (f : Addr) (fd : FuncData) (ps : List Str), mg x = some (.ref f) ∧ PySem.W.keepIn K (.ref f) = true ∧ Binds K fd ps [] ∧ FnG fb P w K mg base j f fd ps (spD K mg n m)
abbrev DefX (fb : Bool) (X : Cx) (j : Nat) (x : Str) (n : Nat) (m : MF) : Prop := DefAt fb X.prog X.w X.K X.mg X.base j x n m
theorem DefAt.mono {fb : Bool} {P : Program} {w : World} {K : PySem.W.Frag} {mg : Str → Option Value} {base : Heap} {j k : Nat} {x : Str} {n : Nat} {m : MF} (d : DefAt fb P w K mg base j x n m) (h : j ≤ k) : DefAt fb P w K mg base k x n m := by
  obtain ⟨f, fd, ps, a, b, c, F⟩ := d.ex
  exact ⟨f, fd, ps, a, b, c, F.mono h⟩
/-- m' stands for m where it does not stop: the result may stand for the same value otherwise, live lists that nobody names may be forgotten -/
def Rf (K : PySem.W.Frag) (m m' : MF) : Prop := ∀ mg (α : Al) H ds vs ih (E : Value → Hp → Prop) (Q : VK), RH K α H ih → Reps K α H ds vs → Go K mg E (Rep K) α H (m' ds ih) Q → Go K mg E (Rep K) α H (m ds ih) Q
theorem DefAt.rf {fb : Bool} {P : Program} {w : World} {K : PySem.W.Frag} {mg : Str → Option Value} {base : Heap} {j : Nat} {x : Str} {n : Nat} {m m' : MF} (d : DefAt fb P w K mg base j x n m) (h : Rf K m m') : DefAt fb P w K mg base j x n m' := by
  obtain ⟨f, fd, ps, a, b, c, F⟩ := d.ex
  exact ⟨f, fd, ps, a, b, c, F.imp fun vs H Q E ⟨hl, α, ds, ih, hh, rs, g⟩ => ⟨hl, α, ds, ih, hh, rs, h mg α H ds vs ih _ Q hh rs g⟩⟩
def mCall (n : Nat) (m : MF) (ms : MA) : ME := fun σ h => (ms σ h).bind fun ds h => if ds.length = n then m ds h else .bad
section
variable {X : Cx}
theorem de_call {fb : Bool} {j : Nat} {x : Str} {n : Nat} {m : MF} {p pos : Pos} {e : Expr} {es : List Expr} {ms : MA} (gd : fb = true → X.A.guards = some []) (G : DefX fb X j x n m) (hr : Room j X.A) (hg : Gl X x) (ha : DA X (e :: es) ms)
    (hdb : (x == ("__debug__" : Str)) = false := by decide) (he : starEach (e :: es) X.env = (false, eval e X.env) :: starEach es X.env := by rfl) (hpl : (backTo pos (starEach es X.env)).any (·.1) = false := by rfl) :
    DE X (.Call (.Name x p) (e :: es) [] pos) (mCall n m ms) := fun W tk => by
  obtain ⟨f, fd, ps, hm, hk, hb, F⟩ := G.ex
  refine PE.mono (F.pe (E := fun σ cls d H => W cls d σ H) gd hr hg hm hk hb (fun σ => passAt tk σ) (ha W tk) hdb he hpl) fun σ H Q ⟨α, iσ, ih, h, s, g⟩ => ⟨α, iσ, ih, h, s, g.bind.mono fun vs H1 ⟨α1, ds, ih1, x1, h1, r1, g1⟩ => ?_⟩
  split at g1
  · next hl => exact ⟨by rw [← r1.length]; exact hl, α1, ds, ih1, h1, r1, g1⟩
  · exact g1.elim
end
/-- a def's body, run -/
def runD (N : Nat) (mb : MS) : MF := fun ds h => match mb (ds.map some ++ List.replicate (N - ds.length) Option.none) h with
  | .nx _ h => .ok .non h
  | .rt d h => .ok d h
  | .ex c _ h => .ex c h
  | _ => .bad
theorem RS.start {K : PySem.W.Frag} {α : Al} {H : Hp} {ds : List D} {vs : List V} (r : Reps K α H ds vs) (N : List Str) : RS K α H (ds.map some ++ List.replicate (N.length - ds.length) Option.none) (L2.start N vs) := by
  unfold L2.start
  refine ⟨by simp [r.length], fun i d e => ?_⟩
  by_cases hi : i < ds.length
  · rw [List.getElem?_append_left (by simpa using hi)] at e
    have hi2 : i < vs.length := by rw [← r.length]; exact hi
    rw [List.getElem?_append_left (by simpa using hi2)]
    rw [List.getElem?_map] at e
    cases q : ds[i]? with
    | none => rw [q] at e; cases e
    | some d' =>
      rw [q] at e
      cases e
      obtain ⟨v, e1, e2⟩ := r.get q
      exact ⟨v, by rw [List.getElem?_map, e1]; rfl, e2⟩
  · rw [List.getElem?_append_right (by simpa using Nat.le_of_not_lt hi), List.getElem?_replicate] at e
    split at e <;> cases e
theorem def_fn {fb : Bool} {P : Program} {w : World} {K : PySem.W.Frag} {mg : Str → Option Value} {base : Heap} {x qual : Str} {st : Stmt} {f : Addr} {fd : FuncData} {N ps : List Str} {k : Nat} {mb : MS} (F : Fun K x qual st f fd) (S : FnScope N ps (defScope st))
    (hb : ∀ (cdv : Value) (A : Around) (outer : List Env) (s : Shared) (H : Hp) (E : XK), Room k (A.deeper (envOfC qual (defScope st) s.heap.objs.size f cdv)) → Okx fb (cxOf (L2.CX P w) P w K mg base N qual (defScope st) f cdv A outer s H E) →
      DSs (cxOf (L2.CX P w) P w K mg base N qual (defScope st) f cdv A outer s H E) (defBody st) mb) : FnG fb P w K mg base (k + 1) f fd ps (spD K mg ps.length (runD N.length mb)) := by
  refine FnG.of_body F S (fun vs H Q E h => h.1) fun cdv A outer s H vs Q E gd hr ⟨hl, α, ds, ih, h, r, g⟩ => ?_
  refine ⟨_, hb cdv A outer s H E hr ⟨rfl, S.nd, passes_of rfl, gd⟩ _ (takes_of rfl rfl rfl rfl), α, _, ih, h, RS.start r N, ?_⟩
  unfold runD at g
  cases e : mb (ds.map some ++ List.replicate (N.length - ds.length) none) ih with
  | nx s' h' => rw [e] at g; exact fun α' σ' H' x' hh _ => g α' _ H' x' hh .non
  | rt d h' => rw [e] at g; exact g
  | ex c s' h' => rw [e] at g; exact fun C α' σ' H' hc x' hh _ => g C α' H' hc x' hh
  | bk s' h' => rw [e] at g; exact g.elim
  | ct s' h' => rw [e] at g; exact g.elim
  | bad => rw [e] at g; exact g.elim

/-- .. whose code object is known -/
theorem def_fnC {fb : Bool} {P : Program} {w : World} {K : PySem.W.Frag} {mg : Str → Option Value} {base : Heap} {x qual : Str} {st : Stmt} {f : Addr} {fd : FuncData} {N ps : List Str} {k : Nat} {mb : MS} {cdv : Value} (F : FunC K x qual st f fd cdv) (S : FnScope N ps (defScope st))
    (hb : ∀ (A : Around) (outer : List Env) (s : Shared) (H : Hp) (E : XK), Room k (A.deeper (envOfC qual (defScope st) s.heap.objs.size f cdv)) → Okx fb (cxOf (L2.CX P w) P w K mg base N qual (defScope st) f cdv A outer s H E) →
      DSs (cxOf (L2.CX P w) P w K mg base N qual (defScope st) f cdv A outer s H E) (defBody st) mb) : FnG fb P w K mg base (k + 1) f fd ps (spD K mg ps.length (runD N.length mb)) := by
  refine FnG.of_bodyC F S (fun vs H Q E h => h.1) fun A outer s H vs Q E gd hr ⟨hl, α, ds, ih, h, r, g⟩ => ?_
  refine ⟨_, hb A outer s H E hr ⟨rfl, S.nd, passes_of rfl, gd⟩ _ (takes_of rfl rfl rfl rfl), α, _, ih, h, RS.start r N, ?_⟩
  unfold runD at g
  cases e : mb (ds.map some ++ List.replicate (N.length - ds.length) none) ih with
  | nx s' h' => rw [e] at g; exact fun α' σ' H' x' hh _ => g α' _ H' x' hh .non
  | rt d h' => rw [e] at g; exact g
  | ex c s' h' => rw [e] at g; exact fun C α' σ' H' hc x' hh _ => g C α' H' hc x' hh
  | bk s' h' => rw [e] at g; exact g.elim
  | ct s' h' => rw [e] at g; exact g.elim
  | bad => rw [e] at g; exact g.elim

theorem def_ok {fb : Bool} {P : Program} {w : World} {K : PySem.W.Frag} {mg : Str → Option Value} {base : Heap} {x qual : Str} {st : Stmt} {f : Addr} {fd : FuncData} {N ps : List Str} {k : Nat} {mb : MS} (F : Fun K x qual st f fd) (hm : mg x = some (.ref f)) (b : Binds K fd ps []) (S : FnScope N ps (defScope st))
    (hb : ∀ (cdv : Value) (A : Around) (outer : List Env) (s : Shared) (H : Hp) (E : XK), Room k (A.deeper (envOfC qual (defScope st) s.heap.objs.size f cdv)) → Okx fb (cxOf (L2.CX P w) P w K mg base N qual (defScope st) f cdv A outer s H E) →
      DSs (cxOf (L2.CX P w) P w K mg base N qual (defScope st) f cdv A outer s H E) (defBody st) mb) : DefAt fb P w K mg base (k + 1) x ps.length (runD N.length mb) := ⟨f, fd, ps, hm, F.kp, b, def_fn F S hb⟩
/-- what needs nothing serves one that asks -/
theorem FnG.up {fb : Bool} {P : Program} {w : World} {K : PySem.W.Frag} {mg : Str → Option Value} {base : Heap} {k : Nat} {f : Addr} {fd : FuncData} {ps : List Str} {sp : Sp} (F : FnG false P w K mg base k f fd ps sp) : FnG fb P w K mg base k f fd ps sp :=
  ⟨F.len, fun A outer s H args us vs Q E _ => F.go A outer s H args us vs Q E fun e => nomatch e⟩
theorem DefAt.up {fb : Bool} {P : Program} {w : World} {K : PySem.W.Frag} {mg : Str → Option Value} {base : Heap} {j : Nat} {x : Str} {n : Nat} {m : MF} (d : DefAt false P w K mg base j x n m) : DefAt fb P w K mg base j x n m := by
  obtain ⟨f, fd, ps, e1, e2, e3, e4⟩ := d.ex
  exact ⟨f, fd, ps, e1, e2, e3, e4.up⟩
/-- the law's promise -/
def spLaw (K : PySem.W.Frag) (n : Nat) : Sp := fun vs H Q _ => ∃ (a : Addr) (ns : List Int), vs = [.ref a] ∧ SqL K H a (ns.map V.int) ∧ ns.length ≤ n ∧ Only H ∧ ∀ H', Q (.bl true) H'
theorem reps_int {K : PySem.W.Frag} {α : Al} {H : Hp} : ∀ ns : List Int, Reps K α H (ns.map D.int) (ns.map V.int)
  | [] => .nil
  | n :: ns => .cons (.int n) (reps_int ns)
theorem law_imp {fb : Bool} {P : Program} {w : World} {K : PySem.W.Frag} {mg : Str → Option Value} {base : Heap} {k n : Nat} {f : Addr} {fd : FuncData} {ps : List Str} {m : MF} (F : FnG fb P w K mg base k f fd ps (spD K mg 1 m))
    (h : ∀ ns : List Int, ns.length ≤ n → ∃ h, m [.scr (ns.map D.int)] [] = .ok (.bl true) h) : FnG fb P w K mg base k f fd ps (spLaw K n) := by
  refine F.imp fun vs H Q E ⟨a, ns, e, sq, hl, on, q⟩ => ?_
  subst e
  obtain ⟨h', e⟩ := h ns hl
  refine ⟨rfl, ⟨[], []⟩, [.scr (ns.map D.int)], [], ?_, .cons (.scr ?_ (reps_int ns)) .nil, ?_⟩
  · exact ⟨rfl, List.nodup_nil, (fun n o e => by simp at e), (fun a h => by simp at h), fun a h => by simp at h⟩
  · rcases sq with sq | sq
    · exact .inl ⟨sq, by simp, by simp⟩
    · exact .inr sq
  · rw [e]
    intro α' v H' _ _ r
    cases r
    exact q H'
/-! ### built-ins -/
abbrev GA := IHp → List D → Option D
def CallD (X : Cx) (f : Value) (g : GA) : Prop := CallR X f fun xs H Q => ∃ α ds ih d, RH X.K α H ih ∧ Reps X.K α H ds xs ∧ g ih ds = some d ∧ Fin1 X.K α H ih d Q
def mB1 (g : GA) (ms : MA) : ME := fun σ h => (ms σ h).bind fun ds h => R.opt (g h ds) h
section
variable {X : Cx}
theorem rd_B1 {W : WX} {g : GA} {ms : MA} (σ : L2.St) (H : Hp) (Q : VK) : rdE X W (mB1 g ms) σ H Q → tCB (fun xs H Q => ∃ α ds ih d, RH X.K α H ih ∧ Reps X.K α H ds xs ∧ g ih ds = some d ∧ Fin1 X.K α H ih d Q) (rdA X W ms) σ H Q :=
  fun ⟨α, iσ, ih, h, s, g⟩ => ⟨α, iσ, ih, h, s, g.bind.mono fun vs H1 ⟨α1, ds, ih1, x1, h1, r1, g1⟩ =>
    let ⟨z, e, fz⟩ := go_opt g1
    ⟨α1, ds, ih1, z, h1, r1, e, fz⟩⟩
theorem de_callB {id : String} {x : Str} {g : GA} {ms : MA} {e : Expr} {es : List Expr} {p pos : Pos} (hc : CallD X (.builtin id) g) (hg : Gl X x) (hm : X.mg x = none) (hv : bootBuiltins x = some (.builtin id)) (ha : DA X (e :: es) ms) (hn : x ≠ "__name__" := by decide) (hdb : (x == ("__debug__" : Str)) = false := by decide)
    (he : starEach (e :: es) X.env = (false, eval e X.env) :: starEach es X.env := by rfl) (hpl : (backTo pos (starEach es X.env)).any (·.1) = false := by rfl) : DE X (.Call (.Name x p) (e :: es) [] pos) (mB1 g ms) := fun W tk =>
  PE.mono (pe_callB hc hg hm hv (ha W tk) hn hdb he hpl) fun σ H Q q => rd_B1 σ H Q q
theorem de_callTy {T : String} {x : Str} {g : GA} {ms : MA} {e : Expr} {es : List Expr} {p pos : Pos} (hc : CallD X (.type T) g) (hg : Gl X x) (hm : X.mg x = none) (hv : bootBuiltins x = some (.type T)) (ha : DA X (e :: es) ms) (hn : x ≠ "__name__" := by decide) (hdb : (x == ("__debug__" : Str)) = false := by decide)
    (he : starEach (e :: es) X.env = (false, eval e X.env) :: starEach es X.env := by rfl) (hpl : (backTo pos (starEach es X.env)).any (·.1) = false := by rfl) : DE X (.Call (.Name x p) (e :: es) [] pos) (mB1 g ms) := fun W tk =>
  PE.mono (pe_callTy hc hg hm hv (ha W tk) hn hdb he hpl) fun σ H Q q => rd_B1 σ H Q q
end
theorem hu64 {k : Nat} {A : Around} (hr : Room k A) : A.units + 64 < cLine := by have := hr.un; omega
section
variable {X : Cx}
theorem de_cI {x : Str} {i : Int} {pos : Pos} (hg : Gl X x) (hm : ∃ t, X.mg x = some (.int i t)) (hd : (x == ("__debug__" : Str)) = false := by decide) : DE X (.Name x pos) (mC (.int i)) := by
  obtain ⟨t, e⟩ := hm
  exact de_globI hg e hd
theorem de_cS {x y : Str} {pos : Pos} (hg : Gl X x) (hm : ∃ t, X.mg x = some (.str y t)) (hd : (x == ("__debug__" : Str)) = false := by decide) : DE X (.Name x pos) (mC (.str y)) := by
  obtain ⟨t, e⟩ := hm
  exact de_globS hg e hd
end
end Dn

set_option Elab.async false
set_option linter.all false
set_option maxRecDepth 100000
set_option maxHeartbeats 4000000
namespace Dn
open PySem PySem.Spec PyProof.Rows L2
section
variable {X : Cx}
/-! ### operators -/
def gI (c : Int → Int → Bool) (k : Int → Int → D) : Op2 := fun _ x y => match x, y with
  | .int i, .int j => if c i j = true then some (k i j) else none
  | _, _ => none
theorem opd_I {f : Value → Value → Sem Value} {C : Int → Int → Prop} {kv : Int → Int → V} {c : Int → Int → Bool} {k : Int → Int → D} (ho : OpR X f (rI C kv)) (hc : ∀ i j, c i j = true → C i j) (hk : ∀ α H i j, Rep X.K α H (k i j) (kv i j)) : OpD X f (gI c k) :=
  fun pins s σ H x y v u Q I rx ry ⟨α, dx, dy, ih, d, hh, r1, r2, e, fz⟩ => by
    refine ho pins s σ H x y v u Q I rx ry ?_
    unfold gI at e
    cases r1 with
    | int i =>
      cases r2 with
      | int j =>
        dsimp only at e
        split at e
        · next h =>
          cases e
          exact ⟨i, j, rfl, rfl, hc i j h, fz.here hh (hk α H i j)⟩
        · cases e
      | _ => cases e
    | _ => cases e
theorem opd_I0 {f : Value → Value → Sem Value} {kv : Int → Int → V} {k : Int → Int → D} (ho : OpR X f (rI0 kv)) (hk : ∀ α H i j, Rep X.K α H (k i j) (kv i j)) : OpD X f (gI (fun _ _ => true) k) :=
  opd_I (C := fun _ _ => True) (fun pins s σ H x y v u Q I rx ry ⟨i, j, e1, e2, _, q⟩ => ho pins s σ H x y v u Q I rx ry ⟨i, j, e1, e2, q⟩) (fun _ _ _ => trivial) hk
def gSub : Op2 := gI (fun _ _ => true) fun i j => .int (i - j)
theorem od_sub : OpD X (binaryOp .Sub) gSub := opd_I0 op_sub fun _ _ _ _ => .int _
def mulOk (i j : Int) : Bool := decide (i.natAbs < 2 ^ 64) || decide (j.natAbs < 2 ^ 64) || (decide (i.natAbs < 2 ^ 9000) && decide (j.natAbs < 2 ^ 9000))
def gMulI : Op2 := gI mulOk fun i j => .int (i * j)
theorem od_mulI : OpD X (binaryOp .Mult) gMulI := opd_I (C := fun i j => IntMulOk i j) (fun pins s σ H x y v u Q I rx ry ⟨i, j, e1, e2, c, q⟩ => by
  subst e1 e2
  obtain ⟨t, rfl⟩ := rx
  obtain ⟨t', rfl⟩ := ry
  exact mul_int ⟨.int _, H, I.tok _, ⟨_, rfl⟩, q⟩ c) (fun i j h => by
  unfold mulOk at h
  rw [Bool.or_eq_true, Bool.or_eq_true, Bool.and_eq_true, decide_eq_true_eq, decide_eq_true_eq, decide_eq_true_eq, decide_eq_true_eq] at h
  rcases h with (h | h) | h
  · exact CMul.ok (.inl ⟨by omega, by omega⟩)
  · exact CMul.ok (.inr ⟨by omega, by omega⟩)
  · exact (wide_mul h.1 h.2 (by decide) (by decide) (by decide)).ok) fun _ _ _ _ => .int _
theorem Reps.nilD {K : PySem.W.Frag} {α : Al} {H : Hp} {ds : List D} {vs : List V} (r : Reps K α H ds vs) : vs = [] ↔ ds = [] := by
  cases r <;> simp
def gMul : Op2 := fun _ x y => match x, y with
  | .int i, .int j => if mulOk i j = true then some (.int (i * j)) else none
  | .tup ds, .int k => if ds ≠ [] ∧ 2 ≤ k ∧ k ≤ 1000 ∧ ds.length ≤ 1000 then some (.tup (List.replicate k.toNat ds).flatten) else none
  | _, _ => none
theorem reps_flat {K : PySem.W.Frag} {α : Al} {H : Hp} {ds : List D} {vs : List V} (r : Reps K α H ds vs) : ∀ n : Nat, Reps K α H (List.replicate n ds).flatten (List.replicate n vs).flatten
  | 0 => by rw [List.replicate_zero, List.replicate_zero]; exact .nil
  | n + 1 => by
    rw [List.replicate_succ, List.replicate_succ, List.flatten_cons, List.flatten_cons]
    exact r.append (reps_flat r n)
theorem od_mul : OpD X (binaryOp .Mult) gMul := fun pins s σ H x y v u Q I rx ry ⟨α, dx, dy, ih, d, hh, r1, r2, e, fz⟩ => by
  unfold gMul at e
  split at e
  · exact od_mulI pins s σ H x y v u Q I rx ry ⟨α, _, _, ih, d, hh, r1, r2, e, fz⟩
  · split at e
    · next hz =>
      cases e
      cases r1 with
      | tup q1 s1 =>
        cases r2
        refine op_repT pins s σ H _ _ v u Q I rx ry ⟨_, _, _, rfl, rfl, q1, fun z => hz.1 (s1.nilD.mp z), hz.2.1, hz.2.2.1, by rw [← s1.length]; exact hz.2.2.2, fun p n => fz.tup hh (reps_flat s1 _) n⟩
    · cases e
  · cases e
def gDiv : Op2 := gI (fun _ j => decide (0 < j) && decide (j.natAbs < 2 ^ 9000)) fun i j => .int (i / j)
theorem od_div : OpD X (binaryOp .FloorDiv) gDiv := opd_I op_fdivW (fun i j h => by
  rw [Bool.and_eq_true, decide_eq_true_eq, decide_eq_true_eq] at h
  exact wide_div h.1 h.2 (by decide) (by decide)) fun _ _ _ _ => .int _
def gMod : Op2 := gI (fun _ j => decide (0 < j)) fun i j => .int (i % j)
theorem od_mod : OpD X (binaryOp .Mod) gMod := opd_I op_mod (fun i j h => of_decide_eq_true h) fun _ _ _ _ => .int _
def gPow : Op2 := gI (fun i j => decide (0 ≤ j) && decide (j ≤ 1000000) && decide (i.natAbs < 2 ^ 64)) fun i j => .int (i ^ j.toNat)
theorem od_pow : OpD X (binaryOp .Pow) gPow := opd_I op_pow (fun i j h => by
  rw [Bool.and_eq_true, Bool.and_eq_true, decide_eq_true_eq, decide_eq_true_eq, decide_eq_true_eq] at h
  exact ⟨h.1.1, h.1.2, h.2⟩) fun _ _ _ _ => .int _
def gLt : Op2 := gI (fun _ _ => true) fun i j => .bl (decide (i < j))
def gLe : Op2 := gI (fun _ _ => true) fun i j => .bl (decide (i ≤ j))
def gGt : Op2 := gI (fun _ _ => true) fun i j => .bl (decide (j < i))
def gGe : Op2 := gI (fun _ _ => true) fun i j => .bl (decide (j ≤ i))
theorem od_lt : OpD X (compareOp .Lt) gLt := opd_I0 op_lt fun _ _ _ _ => .bl _
theorem od_le : OpD X (compareOp .LtE) gLe := opd_I0 op_le fun _ _ _ _ => .bl _
theorem od_gt : OpD X (compareOp .Gt) gGt := opd_I0 op_gt fun _ _ _ _ => .bl _
theorem od_ge : OpD X (compareOp .GtE) gGe := opd_I0 op_ge fun _ _ _ _ => .bl _
/-- + : ints, texts, tuples, lists -/
def gAdd : Op2 := fun h x y => match x, y with
  | .int i, .int j => some (.int (i + j))
  | .str a, .str b => if a.length + b.length ≤ sizeLine then some (.str (a ++ b)) else none
  | .tup a, .tup b => if a.length + b.length ≤ sizeLine then some (.tup (a ++ b)) else none
  | x, y => match lstOf h x, lstOf h y with
    | some a, some b => if a.length + b.length ≤ sizeLine then some (.lst (a ++ b)) else none
    | _, _ => none
/-- lists that stand anywhere -/
def rCatL : R2 := fun x y H Q => ∃ l b xs zs, x = .ref l ∧ y = .ref b ∧ Rd H l (.lst xs) ∧ Rd H b (.lst zs) ∧ xs.length + zs.length ≤ sizeLine ∧ ∀ p, H p = none → Q (.ref p) (upd H p (.lst (xs ++ zs)))
theorem lstR {pins : List (Addr × Obj)} {s : Shared} {σ : L2.St} {H : Hp} {l : Addr} {xs : List V} (I : L2.Inv X pins σ H s) (h : Rd H l (.lst xs)) : ∃ (its : List Value) (n : Nat), Vals xs its ∧ s.heap.get? l = some { cls := .type "list", data := .seq its.toArray n } := by
  obtain ⟨z, its, n, r, e⟩ := h.ok I.hok
  exact ⟨its, n, r, e⟩
theorem op_catL : OpR X (binaryOp .Add) rCatL := by
  intro pins s σ H x y v u Q I rx ry h
  obtain ⟨l, b, xs, zs, rfl, rfl, hH, hB, hz, q⟩ := h
  cases rx
  cases ry
  obtain ⟨its, n, r, e⟩ := lstR I hH
  obtain ⟨its2, n2, r2, e2⟩ := lstR I hB
  have hl := r.length
  have hl2 := r2.length
  refine PySem.P.add_list e e2 ?_ (by rw [List.size_toArray, List.size_toArray]; omega)
  have ea : its.toArray ++ its2.toArray = (its ++ its2).toArray := by simp
  rw [ea]
  exact ⟨.ref _, _, I.lnew (t' := s.toks) (r.append r2) (by rw [List.length_append]; omega), rfl, q _ I.fresh⟩
theorem od_add : OpD X (binaryOp .Add) gAdd := fun pins s σ H x y v u Q I rx ry ⟨α, dx, dy, ih, d, hh, r1, r2, e, fz⟩ => by
  unfold gAdd at e
  split at e
  · cases e
    cases r1
    cases r2
    exact op_add pins s σ H _ _ v u Q I rx ry ⟨_, _, rfl, rfl, fz.here hh (.int _)⟩
  · split at e
    · next hz =>
      cases e
      cases r1
      cases r2
      exact op_add_str pins s σ H _ _ v u Q I rx ry ⟨_, _, rfl, rfl, hz, fz.here hh (.str _)⟩
    · cases e
  · next a b =>
    split at e
    · next hz =>
      cases e
      cases r1 with
      | tup q1 s1 =>
      cases r2 with
      | tup q2 s2 =>
      refine op_catA pins s σ H _ _ v u Q I rx ry ⟨_, _, _, _, rfl, rfl, q1, q2, by rw [← s1.length, ← s2.length]; exact hz, fun z => fz.here hh (.tup q2 ?_), fun _ z => fz.here hh (.tup q1 ?_), fun _ _ p n => fz.tup hh (s1.append s2) n⟩
      · have ea := s1.nilD.mp z
        subst ea
        exact s2
      · have eb := s2.nilD.mp z
        subst eb
        rw [List.append_nil]
        exact s1
    · cases e
  · split at e
    · next a b ea eb =>
      split at e
      · next hz =>
        cases e
        obtain ⟨p1, v1, e1, q1, s1⟩ := lst_rep hh r1 ea
        obtain ⟨p2, v2, e2, q2, s2⟩ := lst_rep hh r2 eb
        subst e1 e2
        exact op_catL pins s σ H _ _ v u Q I rx ry ⟨_, _, _, _, rfl, rfl, q1, q2, by rw [← s1.length, ← s2.length]; exact hz, fun p n => fz.lst hh (s1.append s2) n⟩
      · cases e
    · cases e
end
end Dn

set_option Elab.async false
set_option linter.all false
set_option maxRecDepth 100000
set_option maxHeartbeats 4000000
namespace Dn
open PySem PySem.Spec PyProof.Rows L2
/-! ### data -/
mutual
def toPy : D → Option PyData
  | .non => some .none
  | .bl b => some (.bool b)
  | .int i => some (.int i)
  | .str x => some (.str x)
  | .tup ds => (toPys ds).map .tuple
  | .lst ds => (toPys ds).map .list
  | .ref _ => none
  | .scr _ => none
  | .dic _ _ => none
def toPys : List D → Option (List PyData)
  | [] => some []
  | d :: ds => match toPy d, toPys ds with
    | some p, some ps => some (p :: ps)
    | _, _ => none
end
def toPyH (h : IHp) : D → Option PyData
  | .ref n => match h[n]? with
    | some (.lst ds) => (toPys ds).map .list
    | _ => none
  | d => toPy d
section
variable {K : PySem.W.Frag} {α : Al} {H : Hp}
mutual
theorem Rep.dp : ∀ {d : D} {v : V} {p : PyData}, Rep K α H d v → toPy d = some p → Dp K H v p
  | _, _, _, .non, e => by rw [toPy] at e; cases e; exact .non
  | _, _, _, .bl b, e => by rw [toPy] at e; cases e; exact .bl b
  | _, _, _, .int i, e => by rw [toPy] at e; cases e; exact .int i
  | _, _, _, .str x, e => by rw [toPy] at e; cases e; exact .str x
  | .tup ds, _, _, .tup q r, e => by
    rw [toPy] at e
    cases e2 : toPys ds with
    | none => rw [e2] at e; cases e
    | some ps => rw [e2] at e; cases e; exact .tup q (Reps.dp r e2)
  | .lst ds, _, _, .lst q r, e => by
    rw [toPy] at e
    cases e2 : toPys ds with
    | none => rw [e2] at e; cases e
    | some ps => rw [e2] at e; cases e; exact .lst q.seq (Reps.dp r e2)
  | _, _, _, .ref _ _, e => by rw [toPy] at e; cases e
  | _, _, _, .scr _ _, e => by rw [toPy] at e; cases e
  | _, _, _, .dic _ _ _, e => by rw [toPy] at e; cases e
theorem Reps.dp : ∀ {ds : List D} {vs : List V} {ps : List PyData}, Reps K α H ds vs → toPys ds = some ps → DpAll K H vs ps
  | _, _, _, .nil, e => by rw [toPys] at e; cases e; exact .nil
  | d :: ds, _, _, .cons r t, e => by
    rw [toPys] at e
    cases e1 : toPy d with
    | none => rw [e1] at e; cases e
    | some p =>
      cases e2 : toPys ds with
      | none => rw [e1, e2] at e; cases e
      | some ps => rw [e1, e2] at e; cases e; exact .cons (Rep.dp r e1) (Reps.dp t e2)
end
theorem Rep.dpH {ih : IHp} {d : D} {v : V} {p : PyData} (h : RH K α H ih) (r : Rep K α H d v) (e : toPyH ih d = some p) : Dp K H v p := by
  cases r with
  | ref ea nt0 =>
    unfold toPyH at e
    dsimp only at e
    split at e
    · next ds eo =>
      obtain ⟨a, ho, e1, e2, e3⟩ := h.ob _ _ eo
      rw [ea] at e1; cases e1
      obtain ⟨vs, rfl, rs⟩ := e3.lst
      cases e4 : toPys ds with
      | none => rw [e4] at e; cases e
      | some ps => rw [e4] at e; cases e; exact .lst (.inl (.inl e2)) (rs.dp e4)
    · cases e
  | non => exact Rep.dp (α := α) .non e
  | bl b => exact Rep.dp (α := α) (.bl b) e
  | int i => exact Rep.dp (α := α) (.int i) e
  | str x => exact Rep.dp (α := α) (.str x) e
  | tup q rs => exact Rep.dp (.tup q rs) e
  | lst q rs => exact Rep.dp (.lst q rs) e
  | scr q rs => exact Rep.dp (.scr q rs) e
  | dic q e1 rs => exact Rep.dp (.dic q e1 rs) e
end
/-- == -/
def gEq : Op2 := fun h x y => match x, y with
  | .str a, .str b => some (.bl (decide (a = b)))
  | x, y => match toPyH h x, toPyH h y with
    | some a, some b => if SeqAt.shaped a = true ∧ SeqAt.shaped b = true then some (.bl (PyData.eqv a b)) else none
    | _, _ => none
def gNe : Op2 := fun h x y => match x, y with
  | .str a, .str b => some (.bl (!decide (a = b)))
  | x, y => match toPyH h x, toPyH h y with
    | some a, some b => if SeqAt.shaped a = true ∧ SeqAt.shaped b = true then some (.bl (!PyData.eqv a b)) else none
    | _, _ => none
section
variable {X : Cx}
theorem dStr (a b : Str) : decide (V.str a = V.str b) = decide (a = b) := by simp
theorem od_eq (hu : X.A.units + 64 < cLine) : OpD X (compareOp .Eq) gEq := fun pins s σ H x y v u Q I rx ry ⟨α, dx, dy, ih, d, hh, r1, r2, e, fz⟩ => by
  unfold gEq at e
  split at e
  · cases e
    cases r1
    cases r2
    exact op_eq pins s σ H _ _ v u Q I rx ry ⟨rfl, by rw [dStr]; exact fz.here hh (.bl _)⟩
  · split at e
    · next a b ea eb =>
      split at e
      · next hs =>
        cases e
        exact op_eqD hu pins s σ H x y v u Q I rx ry ⟨a, b, r1.dpH hh ea, r2.dpH hh eb, hs.1, hs.2, fz.here hh (.bl _)⟩
      · cases e
    · cases e
theorem od_ne (hu : X.A.units + 64 < cLine) : OpD X (compareOp .NotEq) gNe := fun pins s σ H x y v u Q I rx ry ⟨α, dx, dy, ih, d, hh, r1, r2, e, fz⟩ => by
  unfold gNe at e
  split at e
  · cases e
    cases r1
    cases r2
    exact op_ne pins s σ H _ _ v u Q I rx ry ⟨rfl, by rw [dStr]; exact fz.here hh (.bl _)⟩
  · split at e
    · next a b ea eb =>
      split at e
      · next hs =>
        cases e
        exact op_neD hu pins s σ H x y v u Q I rx ry ⟨a, b, r1.dpH hh ea, r2.dpH hh eb, hs.1, hs.2, fz.here hh (.bl _)⟩
      · cases e
    · cases e
/-- is None, is not None -/
def D.isNon : D → Bool
  | .non => true
  | _ => false
theorem Rep.isNon {K : PySem.W.Frag} {α : Al} {H : Hp} {d : D} {v : V} (r : Rep K α H d v) : decide (v = .non) = d.isNon := by cases r <;> first | rfl | (apply decide_eq_false; intro z; cases z)
def gIsN : Op2 := fun _ x y => match y with
  | .non => some (.bl x.isNon)
  | _ => none
def gNotN : Op2 := fun _ x y => match y with
  | .non => some (.bl (!x.isNon))
  | _ => none
theorem op_notN' : OpR X (compareOp .IsNot) (fun x y H Q => y = .non ∧ Q (.bl (!decide (x = .non))) H) := by
  intro pins s σ H x y v u Q I rx ry ⟨e, q⟩
  subst e
  cases (show u = Value.none from ry)
  exact isnot_none_gen ⟨.bl _, H, I, by rw [rx.none_iff]; rfl, q⟩
theorem od_isN : OpD X (compareOp .Is) gIsN := fun pins s σ H x y v u Q I rx ry ⟨α, dx, dy, ih, d, hh, r1, r2, e, fz⟩ => by
  cases r2 with
  | non =>
    cases e
    exact op_isN pins s σ H x _ v u Q I rx ry ⟨rfl, by rw [r1.isNon]; exact fz.here hh (.bl _)⟩
  | _ => cases e
theorem od_notN : OpD X (compareOp .IsNot) gNotN := fun pins s σ H x y v u Q I rx ry ⟨α, dx, dy, ih, d, hh, r1, r2, e, fz⟩ => by
  cases r2 with
  | non =>
    cases e
    exact op_notN' pins s σ H x _ v u Q I rx ry ⟨rfl, by rw [r1.isNon]; exact fz.here hh (.bl _)⟩
  | _ => cases e
/-- is True, is not False -/
def gIsB : Op2 := fun _ x y => match x, y with
  | .bl a, .bl b => some (.bl (decide (a = b)))
  | _, _ => none
def gNotB : Op2 := fun _ x y => match x, y with
  | .bl a, .bl b => some (.bl (!decide (a = b)))
  | _, _ => none
theorem od_isB : OpD X (compareOp .Is) gIsB := fun pins s σ H x y v u Q I rx ry ⟨α, dx, dy, ih, d, hh, r1, r2, e, fz⟩ => by
  cases r1 with
  | bl a =>
    cases r2 with
    | bl b => cases e; exact op_isBl pins s σ H _ _ v u Q I rx ry ⟨a, b, rfl, rfl, fz.here hh (.bl _)⟩
    | _ => cases e
  | _ => cases e
theorem od_notB : OpD X (compareOp .IsNot) gNotB := fun pins s σ H x y v u Q I rx ry ⟨α, dx, dy, ih, d, hh, r1, r2, e, fz⟩ => by
  cases r1 with
  | bl a =>
    cases r2 with
    | bl b => cases e; exact op_notBl pins s σ H _ _ v u Q I rx ry ⟨a, b, rfl, rfl, fz.here hh (.bl _)⟩
    | _ => cases e
  | _ => cases e
/-- -e -/
def mNeg (m : ME) : ME := fun σ h => (m σ h).bind fun d h => match d with
  | .int i => .ok (.int (-i)) h
  | _ => .bad
theorem de_neg {a : Expr} {m : ME} {pos : Pos} (ha : DE X a m) : DE X (.UnaryOp .USub a pos) (mNeg m) := fun W tk =>
  PE.mono (pe_un un_neg (ha W tk)) fun σ H Q ⟨α, iσ, ih, h, s, g⟩ => ⟨α, iσ, ih, h, s, g.bind.mono fun v H1 ⟨α1, d, ih1, x1, h1, r1, g1⟩ => by
    cases r1 <;> first | exact g1.elim | exact ⟨_, rfl, g1.ok h1 (.int _)⟩⟩

/-! ### isinstance -/
def tyD (h : IHp) : D → String
  | .non => "NoneType"
  | .bl _ => "bool"
  | .int _ => "int"
  | .str _ => "str"
  | .tup _ => "tuple"
  | .dic _ _ => "dict"
  | .lst _ => "list"
  | .scr _ => "list"
  | .ref n => match h[n]? with
    | some (.dic _ _) => "dict"
    | _ => "list"
def isTy (t T : String) : Bool := t == T || (t == "bool" && T == "int")
theorem rep_ty {K : PySem.W.Frag} {α : Al} {H : Hp} {ih : IHp} {d : D} {v : V} (h : RH K α H ih) (r : Rep K α H d v) : TyX K H v (.type (tyD ih d)) := by
  cases r with
  | non => exact .base .non
  | bl b => exact .base (.bl b)
  | int i => exact .base (.int i)
  | str x => exact .base (.str x)
  | tup q rs =>
    rcases q with (q | ⟨o, q⟩) | ⟨o, its, n, q, c, _⟩
    · exact .base (.tup q)
    · exact .fTuple q
    · exact .kTuple q c
  | lst q rs =>
    rcases q.1 with q | ⟨o, q⟩
    · exact .base (.lst q)
    · exact .base (.frz q)
  | scr q rs =>
    rcases q with ⟨q | ⟨o, q⟩, _⟩ | ⟨o, its, n, q, c, _⟩
    · exact .base (.lst q)
    · exact .base (.frz q)
    · exact .kList q c
  | dic q e1 rs =>
    rcases q.1 with q | ⟨o, q⟩
    · exact .base (.dK q)
    · exact .fDict q
  | @ref m a ea nt0 =>
    obtain ⟨o, ho, e2, e3, e4⟩ : ∃ o ho, ih[m]? = some o ∧ H a = some ho ∧ RepO K α H a o ho := by
      have hm : m < ih.length := by rw [← h.len]; exact (List.getElem?_eq_some_iff.mp ea).1
      obtain ⟨a', ho, z1, z2, z3⟩ := h.ob m ih[m] (List.getElem?_eq_getElem hm)
      rw [ea] at z1; cases z1
      exact ⟨_, ho, List.getElem?_eq_getElem hm, z2, z3⟩
    unfold tyD
    dsimp only
    rw [e2]
    cases o with
    | lst ds =>
      obtain ⟨vs, rfl, _⟩ := e4.lst
      exact .base (.lst e3)
    | dic ks ds =>
      obtain ⟨kvs, rfl, _⟩ := e4.dic
      exact .base (.dK e3)
    | tab P q =>
      obtain ⟨u, n1, n2⟩ := nt0
      rw [e3] at n1
      cases n1
      cases ho with
      | tbl ps => exact absurd rfl (n2 ps)
      | _ => exact False.elim e4
def tysB : List String := ["NoneType", "bool", "int", "str", "tuple", "list", "dict"]
theorem kit_tys (T : String) (hT : T ∈ ["int", "bool", "str", "tuple", "list", "dict"]) : ∀ t ∈ tysB, kitB t T = some (isTy t T) := by
  simp only [List.mem_cons, List.not_mem_nil, or_false] at hT
  rcases hT with rfl | rfl | rfl | rfl | rfl | rfl <;> decide +kernel
theorem tyD_mem (h : IHp) (d : D) : tyD h d ∈ tysB := by
  cases d with
  | ref n =>
    unfold tyD
    dsimp only
    split <;> simp [tysB]
  | _ => simp [tyD, tysB]
def mIsi (T : String) (m : ME) : ME := fun σ h => (m σ h).bind fun d h => .ok (.bl (isTy (tyD h d) T)) h
theorem de_isi (T : String) {y : Str} {e : Expr} {m : ME} {p p2 pos : Pos} (hT : T ∈ ["int", "bool", "str", "tuple", "list", "dict"]) (hg : Gl X "isinstance") (hm : X.mg "isinstance" = none) (hgy : Gl X y) (hmy : X.mg y = none) (hy : bootBuiltins y = some (.type T)) (he : DE X e m)
    (hv : bootBuiltins "isinstance" = some (.builtin "isinstance")) (hn : y ≠ "__name__" := by decide) (hdb : (y == ("__debug__" : Str)) = false := by decide)
    (h1 : starEach [e, .Name y p2] X.env = (false, eval e X.env) :: starEach [.Name y p2] X.env := by rfl) (hpl : (backTo pos (starEach [.Name y p2] X.env)).any (·.1) = false := by rfl)
    (h2 : starEach [.Name y p2] X.env = (false, eval (.Name y p2) X.env) :: starEach [] X.env := by rfl) : DE X (.Call (.Name "isinstance" p) [e, .Name y p2] [] pos) (mIsi T m) := fun W tk =>
  PE.mono (pe_callB call_isi hg hm hv (pa_cons (he W tk) (pa_cons (pe_bltn (v := .ty T) hgy hmy hy rfl hn hdb) pa_nil h2) h1) (by decide) (by decide) h1 hpl) fun σ H Q ⟨α, iσ, ih, h, s, g⟩ => ⟨α, iσ, ih, h, s, g.bind.mono fun v H1 ⟨α1, d, ih1, x1, h1, r1, g1⟩ =>
    ⟨v, .ty T, _, _, _, rfl, .ty T, rep_ty h1 r1, kit_ty (kit_tys T hT _ (tyD_mem ih1 d)), g1.ok h1 (.bl _)⟩⟩
end
end Dn

set_option Elab.async false
set_option linter.all false
set_option maxRecDepth 100000
set_option maxHeartbeats 4000000
namespace Dn
open PySem PySem.Spec PyProof.Rows L2
section
variable {X : Cx}
/-- a rule of one argument -/
theorem reps1 {K : PySem.W.Frag} {α : Al} {H : Hp} {d : D} {xs : List V} (r : Reps K α H [d] xs) : ∃ v, xs = [v] ∧ Rep K α H d v := by
  cases r with
  | cons q t => cases t; exact ⟨_, rfl, q⟩
theorem reps2 {K : PySem.W.Frag} {α : Al} {H : Hp} {d e : D} {xs : List V} (r : Reps K α H [d, e] xs) : ∃ v u, xs = [v, u] ∧ Rep K α H d v ∧ Rep K α H e u := by
  cases r with
  | cons q t => obtain ⟨u, rfl, q2⟩ := reps1 t; exact ⟨_, u, rfl, q, q2⟩
theorem reps3 {K : PySem.W.Frag} {α : Al} {H : Hp} {d e f : D} {xs : List V} (r : Reps K α H [d, e, f] xs) : ∃ v u t, xs = [v, u, t] ∧ Rep K α H d v ∧ Rep K α H e u ∧ Rep K α H f t := by
  cases r with
  | cons q t => obtain ⟨u, w, rfl, q2, q3⟩ := reps2 t; exact ⟨_, u, w, rfl, q, q2, q3⟩
/-- len -/
def gLen : GA := fun h ds => match ds with
  | [.str x] => if x.length ≤ sizeLine then some (.int x.length) else none
  | [d] => (seqOf h d).map fun l => .int l.length
  | _ => none
theorem cd_len : CallD X (.builtin "len") gLen := fun pins s σ H xs us Q I r ⟨α, ds, ih, d, hh, rs, e, fz⟩ => by
  unfold gLen at e
  split at e
  · next x =>
    split at e
    · next hz =>
      cases e
      obtain ⟨v, rfl, q⟩ := reps1 rs
      cases q
      exact call_len pins s σ H _ us Q I r ⟨_, x.length, rfl, ⟨hz, rfl⟩, fz.here hh (.int _)⟩
    · cases e
  · next d0 _ =>
    cases es : seqOf ih d0 with
    | none => rw [es] at e; cases e
    | some l =>
      rw [es] at e
      cases e
      obtain ⟨v, rfl, q⟩ := reps1 rs
      obtain ⟨a, vs, e1, q1, r1⟩ := seq_rep hh q es
      subst e1
      exact call_len_seq pins s σ H _ us Q I r ⟨a, vs, rfl, q1, by rw [← r1.length]; exact fz.here hh (.int _)⟩
  · cases e
/-- int of an int -/
def gInt : GA := fun _ ds => match ds with
  | [.int i] => some (.int i)
  | [.bl b] => some (.int (if b then 1 else 0))
  | _ => none
theorem cd_int : CallD X (.type "int") gInt := fun pins s σ H xs us Q I r ⟨α, ds, ih, d, hh, rs, e, fz⟩ => by
  unfold gInt at e
  split at e
  · cases e
    obtain ⟨v, rfl, q⟩ := reps1 rs
    cases q
    exact call_int1 pins s σ H _ us Q I r (.inl ⟨_, rfl, fz.here hh (.int _)⟩)
  · cases e
    obtain ⟨v, rfl, q⟩ := reps1 rs
    cases q
    exact call_int1 pins s σ H _ us Q I r (.inr ⟨_, rfl, fz.here hh (.int _)⟩)
  · cases e
def gAbs : GA := fun _ ds => match ds with
  | [.int i] => some (.int (if i < 0 then -i else i))
  | _ => none
theorem cd_abs : CallD X (.builtin "abs") gAbs := fun pins s σ H xs us Q I r ⟨α, ds, ih, d, hh, rs, e, fz⟩ => by
  unfold gAbs at e
  split at e
  · cases e
    obtain ⟨v, rfl, q⟩ := reps1 rs
    cases q
    exact call_abs pins s σ H _ us Q I r ⟨_, rfl, fz.here hh (.int _)⟩
  · cases e
def gMax : GA := fun _ ds => match ds with
  | [.int i, .int j] => some (.int (if j > i then j else i))
  | [.int i, .int j, .int k] => some (.int (if k > (if j > i then j else i) then k else (if j > i then j else i)))
  | _ => none
theorem nuMax3_int (i j k : Int) : nuMax3 (.int i) (.int j) (.int k) = some (.int (if k > (if j > i then j else i) then k else (if j > i then j else i))) := by
  have e : ∀ a b : Int, nuMax2 (.int a) (.int b) = some (.int (if b > a then b else a)) := fun a b => by
    show some (if decide (a < b) = true then V.int b else V.int a) = _
    by_cases h : a < b
    · rw [if_pos (decide_eq_true h), if_pos h]
    · rw [if_neg (by rw [decide_eq_false h]; exact Bool.false_ne_true), if_neg h]
  unfold nuMax3
  rw [e, Option.bind_some, e]
def gMin : GA := fun _ ds => match ds with
  | [.int i, .int j] => some (.int (if j < i then j else i))
  | _ => none
theorem cd_max (hc : X.calm = true) : CallD X (.builtin "max") gMax := fun pins s σ H xs us Q I r ⟨α, ds, ih, d, hh, rs, e, fz⟩ => by
  unfold gMax at e
  split at e
  · cases e
    obtain ⟨v, u, rfl, q, q2⟩ := reps2 rs
    cases q
    cases q2
    exact call_max2 hc pins s σ H _ us Q I r ⟨_, _, rfl, fz.here hh (.int _)⟩
  · cases e
    obtain ⟨v, v2, v3, rfl, q, q2, q3⟩ := reps3 rs
    cases q
    cases q2
    cases q3
    exact call_max3Nu hc pins s σ H _ us Q I r ⟨_, _, _, _, rfl, nuMax3_int _ _ _, fz.here hh (.int _)⟩
  · cases e
theorem cd_min (hc : X.calm = true) : CallD X (.builtin "min") gMin := fun pins s σ H xs us Q I r ⟨α, ds, ih, d, hh, rs, e, fz⟩ => by
  unfold gMin at e
  split at e
  · cases e
    obtain ⟨v, u, rfl, q, q2⟩ := reps2 rs
    cases q
    cases q2
    exact call_min2 hc pins s σ H _ us Q I r ⟨_, _, rfl, fz.here hh (.int _)⟩
  · cases e
/-- tuple(xs), list(xs) -/
def gTupOf : GA := fun h ds => match ds with
  | [d] => (seqOf h d).map .tup
  | _ => none
theorem cd_tup : CallD X (.type "tuple") gTupOf := fun pins s σ H xs us Q I r ⟨α, ds, ih, d, hh, rs, e, fz⟩ => by
  unfold gTupOf at e
  split at e
  · next d0 =>
    cases es : seqOf ih d0 with
    | none => rw [es] at e; cases e
    | some l =>
      rw [es] at e
      cases e
      obtain ⟨v, rfl, q⟩ := reps1 rs
      obtain ⟨a, vs, e1, q1, r1⟩ := seq_rep hh q es
      subst e1
      refine call_tuple_of pins s σ H _ us Q I r ⟨a, vs, rfl, ?_⟩
      rcases q1 with q1 | q1
      · exact .inl ⟨q1, fun p n => fz.tup hh r1 n⟩
      · exact .inr ⟨q1, fz.here hh (.tup q1 r1)⟩
  · cases e
def gLstOf : GA := fun h ds => match ds with
  | [d] => (seqOf h d).map .lst
  | _ => none
theorem cd_lst : CallD X (.type "list") gLstOf := fun pins s σ H xs us Q I r ⟨α, ds, ih, d, hh, rs, e, fz⟩ => by
  unfold gLstOf at e
  split at e
  · next d0 =>
    cases es : seqOf ih d0 with
    | none => rw [es] at e; cases e
    | some l =>
      rw [es] at e
      cases e
      obtain ⟨v, rfl, q⟩ := reps1 rs
      obtain ⟨a, vs, e1, q1, r1⟩ := seq_rep hh q es
      subst e1
      exact call_list_of pins s σ H _ us Q I r ⟨a, vs, rfl, q1, fun p n => fz.lst hh r1 n⟩
  · cases e
/-- all, any of flags -/
def blsOf : List D → Option (List Bool)
  | [] => some []
  | .bl b :: ds => (blsOf ds).map (b :: ·)
  | _ :: _ => none
def intsOf : List D → Option (List Int)
  | [] => some []
  | .int i :: ds => (intsOf ds).map (i :: ·)
  | _ :: _ => none
theorem bls_rep {K : PySem.W.Frag} {α : Al} {H : Hp} : ∀ {ds : List D} {vs : List V} {bs : List Bool}, Reps K α H ds vs → blsOf ds = some bs → vs = bs.map V.bl
  | [], _, _, .nil, e => by cases e; rfl
  | d :: ds, _, _, .cons r t, e => by
    cases r <;> first | (cases e; done) | skip
    next b =>
    unfold blsOf at e
    cases e2 : blsOf ds with
    | none => rw [e2] at e; cases e
    | some bs => rw [e2] at e; cases e; rw [bls_rep t e2]; rfl
theorem ints_rep {K : PySem.W.Frag} {α : Al} {H : Hp} : ∀ {ds : List D} {vs : List V} {bs : List Int}, Reps K α H ds vs → intsOf ds = some bs → vs = bs.map V.int
  | [], _, _, .nil, e => by cases e; rfl
  | d :: ds, _, _, .cons r t, e => by
    cases r <;> first | (cases e; done) | skip
    next b =>
    unfold intsOf at e
    cases e2 : intsOf ds with
    | none => rw [e2] at e; cases e
    | some bs => rw [e2] at e; cases e; rw [ints_rep t e2]; rfl
def gAll : GA := fun h ds => match ds with
  | [d] => ((lstOf h d).bind blsOf).map fun bs => .bl (bs.all id)
  | _ => none
def gAny : GA := fun h ds => match ds with
  | [d] => ((lstOf h d).bind blsOf).map fun bs => .bl (bs.any id)
  | _ => none
def gSum : GA := fun h ds => match ds with
  | [d] => ((lstOf h d).bind intsOf).map fun bs => .int bs.sum
  | _ => none
theorem cd_all (hc : X.calm = true) : CallD X (.builtin "all") gAll := fun pins s σ H xs us Q I r ⟨α, ds, ih, d, hh, rs, e, fz⟩ => by
  unfold gAll at e
  split at e
  · next d0 =>
    cases es : lstOf ih d0 with
    | none => rw [es] at e; cases e
    | some l =>
      rw [es] at e
      dsimp only [Option.bind_some] at e
      cases eb : blsOf l with
      | none => rw [eb] at e; cases e
      | some bs =>
        rw [eb] at e
        cases e
        obtain ⟨v, rfl, q⟩ := reps1 rs
        obtain ⟨a, vs, e1, q1, r1⟩ := lst_rep hh q es
        subst e1
        have ev := bls_rep r1 eb
        subst ev
        exact cr_all hc pins s σ H _ us Q I r ⟨a, bs, rfl, .inl q1, fz.here hh (.bl _)⟩
  · cases e
theorem cd_any (hc : X.calm = true) : CallD X (.builtin "any") gAny := fun pins s σ H xs us Q I r ⟨α, ds, ih, d, hh, rs, e, fz⟩ => by
  unfold gAny at e
  split at e
  · next d0 =>
    cases es : lstOf ih d0 with
    | none => rw [es] at e; cases e
    | some l =>
      rw [es] at e
      dsimp only [Option.bind_some] at e
      cases eb : blsOf l with
      | none => rw [eb] at e; cases e
      | some bs =>
        rw [eb] at e
        cases e
        obtain ⟨v, rfl, q⟩ := reps1 rs
        obtain ⟨a, vs, e1, q1, r1⟩ := lst_rep hh q es
        subst e1
        have ev := bls_rep r1 eb
        subst ev
        exact cr_any hc pins s σ H _ us Q I r ⟨a, bs, rfl, .inl q1, fz.here hh (.bl _)⟩
  · cases e
theorem cd_sum (hc : X.calm = true) : CallD X (.builtin "sum") gSum := fun pins s σ H xs us Q I r ⟨α, ds, ih, d, hh, rs, e, fz⟩ => by
  unfold gSum at e
  split at e
  · next d0 =>
    cases es : lstOf ih d0 with
    | none => rw [es] at e; cases e
    | some l =>
      rw [es] at e
      dsimp only [Option.bind_some] at e
      cases eb : intsOf l with
      | none => rw [eb] at e; cases e
      | some bs =>
        rw [eb] at e
        cases e
        obtain ⟨v, rfl, q⟩ := reps1 rs
        obtain ⟨a, vs, e1, q1, r1⟩ := lst_rep hh q es
        subst e1
        have ev := ints_rep r1 eb
        subst ev
        exact cr_sum hc pins s σ H _ us Q I r ⟨a, bs, rfl, .inl q1, fz.here hh (.int _)⟩
  · cases e
/-- list(range(..)), tuple(range(..)) -/
def rgOk (a b : Int) : Bool := decide (-(2 ^ 62) ≤ a) && decide (a < 2 ^ 62) && decide (-(2 ^ 62) ≤ b) && decide (b < 2 ^ 62) && decide ((b - a).toNat ≤ 2 ^ 24)
theorem rgOk_of {a b : Int} (h : rgOk a b = true) : RgOk a b := by
  unfold rgOk at h
  simp only [Bool.and_eq_true, decide_eq_true_eq] at h
  exact ⟨h.1.1.1.1, h.1.1.1.2, h.1.1.2, h.1.2, h.2⟩
theorem rng_reps {K : PySem.W.Frag} {α : Al} {H : Hp} (a b : Int) : Reps K α H (rngD a (b - a).toNat) (rgV a b) := by
  unfold rngD rgV
  generalize List.range (b - a).toNat = l
  induction l with
  | nil => exact .nil
  | cons x l ih => exact .cons (.int _) ih
/-- what a range(..) is worth: its ends -/
abbrev MR := ISt → IHp → R (Int × Int)
abbrev repR : Al → Hp → Int × Int → Int × Int → Prop := fun _ _ b c => b = c
def rdR (X : Cx) (W : WX) (m : MR) : L2.St → Hp → (Int → Int → Hp → Prop) → Prop := fun σ H Q => ∃ α iσ ih, RH X.K α H ih ∧ RS X.K α H iσ σ ∧ Go X.K X.mg (fun c H' => W c none σ H') repR α H (m iσ ih) fun p H' => Q p.1 p.2 H'
def DR (X : Cx) (e : Expr) (m : MR) : Prop := ∀ W, Takes X W → PRg X e (rdR X W m)
def mR1 (m : ME) : MR := fun σ h => (m σ h).bind fun d h => match d with
  | .int n => .ok (0, n) h
  | _ => .bad
def mR2 (m m' : ME) : MR := fun σ h => (m σ h).bind fun d h => (m' σ h).bind fun e h => match d, e with
  | .int a, .int b => .ok (a, b) h
  | _, _ => .bad
theorem dr_1 {a : Expr} {m : ME} {p pos : Pos} (hg : Gl X "range") (hm : X.mg "range" = none) (ha : DE X a m) (na : starEach [a] X.env = (false, eval a X.env) :: starEach [] X.env := by rfl) : DR X (.Call (.Name "range" p) [a] [] pos) (mR1 m) := fun W tk pins s σ H Q I ⟨α, iσ, ih, h, ss, g⟩ =>
  prg_1 hg hm (ha W tk) na pins s σ H Q I ⟨α, iσ, ih, h, ss, g.bind.mono fun v H1 ⟨α1, d, ih1, x1, h1, r1, g1⟩ => by
    cases r1 <;> first | exact g1.elim | exact ⟨_, rfl, g1.ok (v := (0, _)) h1 rfl⟩⟩
theorem dr_2 {a b : Expr} {m m' : ME} {p pos : Pos} (hg : Gl X "range") (hm : X.mg "range" = none) (ha : DE X a m) (hb : DE X b m') (na : starEach [a, b] X.env = (false, eval a X.env) :: starEach [b] X.env := by rfl)
    (nb : starEach [b] X.env = (false, eval b X.env) :: starEach [] X.env := by rfl) (hp : (backTo pos (starEach [b] X.env)).any (·.1) = false := by rfl) : DR X (.Call (.Name "range" p) [a, b] [] pos) (mR2 m m') := fun W tk pins s σ H Q I ⟨α, iσ, ih, h, ss, g⟩ =>
  prg_2 hg hm (ha W tk) (hb W tk) na nb hp pins s σ H Q I ⟨α, iσ, ih, h, ss, g.bind.mono fun v H1 ⟨α1, d, ih1, x1, h1, r1, g1⟩ => ⟨α1, iσ, ih1, h1, ss.ext h x1, g1.bind.mono fun v2 H2 ⟨α2, d2, ih2, x2, h2, r2, g2⟩ => by
    have r1' := r1.ext h1 x2
    cases r1' <;> cases r2 <;> first | exact g2.elim | exact ⟨_, _, rfl, rfl, g2.ok (v := (_, _)) h2 rfl⟩⟩⟩
def mLstR (m : MR) : ME := fun σ h => (m σ h).bind fun p h => if rgOk p.1 p.2 = true then .ok (.lst (rngD p.1 (p.2 - p.1).toNat)) h else .bad
def mTupR (m : MR) : ME := fun σ h => (m σ h).bind fun p h => if rgOk p.1 p.2 = true then .ok (.tup (rngD p.1 (p.2 - p.1).toNat)) h else .bad
theorem de_lstR {e : Expr} {m : MR} {p pos : Pos} (hc : X.calm = true) (hg : Gl X "list") (hm : X.mg "list" = none) (he : DR X e m) (na : starEach [e] X.env = (false, eval e X.env) :: starEach [] X.env := by rfl) : DE X (.Call (.Name "list" p) [e] [] pos) (mLstR m) := fun W tk =>
  PE.mono (pe_listRg hc hg hm (he W tk) na) fun σ H Q ⟨α, iσ, ih, h, s, g⟩ => ⟨α, iσ, ih, h, s, g.bind.mono fun v H1 ⟨α1, d, ih1, x1, h1, r1, g1⟩ => by
    cases r1
    split at g1
    · next hr => exact ⟨rgOk_of hr, fun q n => Fin1.lst (fun v H' x h r => g1 _ v H' x h r) h1 (rng_reps _ _) n⟩
    · exact g1.elim⟩
theorem de_tupR {e : Expr} {m : MR} {p pos : Pos} (hc : X.calm = true) (hg : Gl X "tuple") (hm : X.mg "tuple" = none) (he : DR X e m) (na : starEach [e] X.env = (false, eval e X.env) :: starEach [] X.env := by rfl) : DE X (.Call (.Name "tuple" p) [e] [] pos) (mTupR m) := fun W tk =>
  PE.mono (pe_tupRg hc hg hm (he W tk) na) fun σ H Q ⟨α, iσ, ih, h, s, g⟩ => ⟨α, iσ, ih, h, s, g.bind.mono fun v H1 ⟨α1, d, ih1, x1, h1, r1, g1⟩ => by
    cases r1
    split at g1
    · next hr => exact ⟨rgOk_of hr, fun q n => Fin1.tup (fun v H' x h r => g1 _ v H' x h r) h1 (rng_reps _ _) n⟩
    · exact g1.elim⟩
/-- xs.append(e), xs live -/
def gApp (h : IHp) (o v : D) : Option IHp := match o with
  | .ref n => match h[n]? with
    | some (.lst ds) => if ds.length < sizeLine then some (h.set n (.lst (ds ++ [v]))) else none
    | _ => none
  | _ => none
def isSeqL (h : IHp) (o : D) : Bool := (lstOf h o).isSome
def mApp (mo m : ME) : ME := fun σ h => (mo σ h).bind fun o h => if isSeqL h o = true then (m σ h).bind fun v h => match gApp h o v with
  | some h' => .ok .non h'
  | none => .bad
  else .bad
theorem de_app {o e : Expr} {mo m : ME} {apos cpos : Pos} (ho : DE X o mo) (he : DE X e m)
    (hbase : attributeBase o "append" X.env (eval o X.env) = eval o X.env := by rfl)
    (hfew : ((backTo cpos (starEach [e] X.env)).all (fun x => !x.1) && (backToKw cpos (keywordEach [] X.env)).all (fun x => x.1.isSome)
      && decide (([e] : List Expr).length + ([] : List Keyword).length + (if ([] : List Keyword).isEmpty then 0 else 1) < 30)) = true := by rfl)
    (hline : (apos.endLine == cpos.line) = true := by rfl) (hs : starEach [e] X.env = (false, eval e X.env) :: starEach [] X.env := by rfl) (hplain : (backTo cpos (starEach [] X.env)).any (·.1) = false := by rfl) :
    DE X (.Call (.Attribute o "append" apos) [e] [] cpos) (mApp mo m) := fun W tk =>
  PE.mono (pe_bm PySem.F.plainAttrs_list PySem.F.slot_list_append PySem.F.type_list_append mt_append (ho W tk) (pa_cons (he W tk) pa_nil hs) hbase hfew hline hs hplain) fun σ H Q ⟨α, iσ, ih, h, s, g⟩ => ⟨α, iσ, ih, h, s, g.bind.mono fun v H1 ⟨α1, d1, ih1, x1, h1, r1, g1⟩ => by
    split at g1
    · next hq =>
      unfold isSeqL at hq
      obtain ⟨ds, eds⟩ := Option.isSome_iff_exists.mp hq
      obtain ⟨a, vs, e1, q1, rs1⟩ := lst_rep h1 r1 eds
      subst e1
      refine ⟨.inl ⟨rfl, vs, .inl q1⟩, α1, iσ, ih1, h1, s.ext h x1, g1.bind.mono fun v2 H2 ⟨α2, d2, ih2, x2, h2, r2, g2⟩ => ?_⟩
      have r1' := r1.ext h1 x2
      cases r1' with
      | ref ea nt0 =>
        cases eg : gApp ih2 (.ref _) d2 with
        | none => rw [eg] at g2; exact g2.elim
        | some h' =>
          rw [eg] at g2
          unfold gApp at eg
          dsimp only at eg
          split at eg
          · next ds' eo =>
            split at eg
            · next hl =>
              cases eg
              obtain ⟨a', ho', e1, e2, e3⟩ := h2.ob _ _ eo
              rw [ea] at e1; cases e1
              obtain ⟨vs', rfl, rs⟩ := e3.lst
              refine ⟨_, vs', v2, rfl, rfl, e2, by rw [← rs.length]; exact hl, ?_⟩
              have hn : ∀ b, RepO X.K α2 H2 b (.lst (ds' ++ [d2])) (.lst (vs' ++ [v2])) := fun b => rs.append (.one r2)
              exact g2 α2 _ _ (Ext.write ea) (h2.write ea (hn _)) .non
            · cases eg
          · cases eg
      | _ => exact g2.elim
    · exact g1.elim⟩
end
end Dn

set_option Elab.async false
set_option linter.all false
set_option maxRecDepth 100000
set_option maxHeartbeats 4000000
namespace Dn
open PySem PySem.Spec PyProof.Rows L2
section
variable {X : Cx}
/-! ### repr -/
def isDic0 : D → Bool
  | .dic [] [] => true
  | _ => false
theorem isDic0_eq {d : D} (e : isDic0 d = true) : d = .dic [] [] := by
  unfold isDic0 at e
  split at e
  · rfl
  · cases e
def gRepr : GA := fun h ds => match ds with
  | [d] => if isDic0 d = true then some (.str (PyData.dict []).shown) else (toPyH h d).bind fun p => if p.showable = true ∧ p.hasDict = false ∧ p.shown.length ≤ sizeLine ∧ p.depth ≤ 60 then some (.str p.shown) else none
  | _ => none
theorem cd_repr (gd : X.A.guards = some []) (hu : X.A.units + 64 < cLine) : CallD X (.builtin "repr") gRepr := fun pins s σ H xs us Q I r ⟨α, ds, ih, d, hh, rs, e, fz⟩ => by
  unfold gRepr at e
  split at e
  · next d0 =>
    split at e
    · next h0 =>
      cases isDic0_eq h0
      cases e
      obtain ⟨v, rfl, q⟩ := reps1 rs
      obtain ⟨u, rfl, ru⟩ := vals1 r
      cases q with
      | dic k e1 r1 =>
        have ek := List.map_eq_nil_iff.mp e1
        subst ek
        cases ru
        obtain ⟨_, sm, vs, kv, o, es, ep, ho, ⟨hc, _, _⟩, hd, _, hp, _⟩ := k.1.ok I.hok
        cases kv
        have hes : es.toList = [] := by
          generalize es.toList = l at hp
          cases hp
          rfl
        have rd : Reads s.heap (.ref _) (.dict []) (_ :: [] ++ []) := .dict ho hc hd (by rw [hes]; exact .nil) (by rw [hes]; exact .nil)
        refine repr_of_reads' rd rfl (fun _ hm => ?_) gd (by show X.A.units + (1 + 1) < cLine; omega) (fun _ _ z => z) (fun h' u tk k => ⟨.str (PyData.dict []).shown, H, I.kept (t' := tk) k, ⟨u, rfl⟩, fz.here hh (.str _)⟩) (by decide +kernel)
        rcases List.mem_cons.mp hm with hm | hm
        · rw [hm] at sm
          simp at sm
        · cases hm
    cases ep : toPyH ih d0 with
    | none => rw [ep] at e; cases e
    | some p =>
      rw [ep] at e
      dsimp only [Option.bind_some] at e
      split at e
      · next hc =>
        obtain ⟨c1, c2, c3, c4⟩ := hc
        cases e
        obtain ⟨v, rfl, q⟩ := reps1 rs
        obtain ⟨u, rfl, ru⟩ := vals1 r
        have dp := q.dpH hh ep
        obtain ⟨as, rd⟩ := Dp.reads I p v u dp ru
        have fin : ∀ (h' : Heap) (tk tok : Nat), (∀ b o, s.heap.get? b = some o → h'.get? b = some o) → EP X pins σ Q (.str p.shown tok) { s with heap := h', toks := tk } :=
          fun h' tk tok k => ⟨.str p.shown, H, I.kept (t' := tk) k, ⟨tok, rfl⟩, fz.here hh (.str _)⟩
        cases rd with
        | none => exact PySem.P.repr_of_none (fin s.heap _ _ fun _ _ z => z)
        | bool b => exact PySem.P.repr_of_bool (fin s.heap _ _ fun _ _ z => z)
        | int i t => exact PySem.P.repr_of_int (by simpa [PyData.showable] using c1) (fin s.heap _ _ fun _ _ z => z)
        | str x t => exact PySem.P.repr_of_str (fin s.heap _ _ fun _ _ z => z) c3
        | list a1 a2 a3 a4 => exact repr_of_reads' (.list a1 a2 a3 a4) c1 (PyData.noDict_hsm c2) gd (by omega) (fun _ _ z => z) (fun h' u tk k => fin h' _ _ k) c3
        | tuple a1 a2 a3 a4 => exact repr_of_reads' (.tuple a1 a2 a3 a4) c1 (PyData.noDict_hsm c2) gd (by omega) (fun _ _ z => z) (fun h' u tk k => fin h' _ _ k) c3
        | dict a1 a2 a3 a4 a5 => cases c2
      · cases e
  · cases e

/-! ### sorted(set(xs)), xs ints -/
theorem cr_setT (hc : X.calm = true) : CallR X (.type "set") (fun xs H Q => ∃ (l : Addr) (ns : List Int), xs = [.ref l] ∧ SqT X.K H l (ns.map V.int) ∧ ns.length + 1 < scanBound ∧
    ∀ (a : Addr) (c : Nat), H a = none → c ≤ ns.length → Q (.ref a) (upd H a (SetO X.w a (fun j => decide (j ∈ ns)) c))) := by
  intro pins s σ H xs us Q I r ⟨l, ns, e, hq, hb, q⟩
  subst e
  rw [Vals.ref1 r]
  obtain ⟨its, rv, p, hz⟩ := I.tuple hq
  refine call_set_tupI ns (I.ok.hd hc) (show s.heap.IsTuple l its.toArray from p) (by simpa using rv.ints) hb fun h' tk c R hcl k => ?_
  have hn : H s.heap.objs.size = none := I.hok.fresh (Nat.le_refl _)
  exact ⟨.ref s.heap.objs.size, _, I.laid (t' := tk) k (Nat.le_refl _) (setO_new R), rfl, q _ c hn hcl⟩
/-- ascending, each once -/
def insI (k : Int) : List Int → List Int
  | [] => [k]
  | x :: xs => if k < x then k :: x :: xs else if k = x then x :: xs else x :: insI k xs
def asc (ns : List Int) : List Int := ns.foldr insI []
theorem mem_insI {k j : Int} : ∀ {xs : List Int}, j ∈ insI k xs ↔ j = k ∨ j ∈ xs
  | [] => by simp [insI]
  | x :: xs => by
    unfold insI
    split
    · simp
    · split
      · next h => subst h; simp
      · rw [List.mem_cons, mem_insI, List.mem_cons]
        constructor
        · rintro (h | h | h)
          · exact .inr (.inl h)
          · exact .inl h
          · exact .inr (.inr h)
        · rintro (h | h | h)
          · exact .inr (.inl h)
          · exact .inl h
          · exact .inr (.inr h)
theorem insI_sorted {k : Int} : ∀ {xs : List Int}, xs.Pairwise (· < ·) → (insI k xs).Pairwise (· < ·)
  | [], _ => by simp [insI]
  | x :: xs, h => by
    rw [List.pairwise_cons] at h
    unfold insI
    split
    · next hk =>
      rw [List.pairwise_cons]
      exact ⟨fun y hy => (List.mem_cons.mp hy).elim (fun e => by rw [e]; exact hk) fun m => Int.lt_trans hk (h.1 y m), by rw [List.pairwise_cons]; exact h⟩
    · split
      · rw [List.pairwise_cons]; exact h
      · next h1 h2 =>
        rw [List.pairwise_cons]
        refine ⟨fun y hy => ?_, insI_sorted h.2⟩
        rcases mem_insI.mp hy with e | m
        · omega
        · exact h.1 y m
theorem mem_asc {j : Int} : ∀ {ns : List Int}, j ∈ asc ns ↔ j ∈ ns
  | [] => by simp [asc]
  | n :: ns => by
    have ih := mem_asc (j := j) (ns := ns)
    unfold asc at ih ⊢
    rw [List.foldr_cons, mem_insI, ih, List.mem_cons]
theorem asc_sorted : ∀ ns : List Int, (asc ns).Pairwise (· < ·)
  | [] => .nil
  | n :: ns => by
    have ih := asc_sorted ns
    unfold asc at ih ⊢
    exact insI_sorted ih
theorem asc_uniq : ∀ {xs ys : List Int}, xs.Pairwise (· < ·) → ys.Pairwise (· < ·) → (∀ j, j ∈ xs ↔ j ∈ ys) → xs = ys
  | [], [], _, _, _ => rfl
  | [], y :: ys, _, _, h => absurd ((h y).mpr List.mem_cons_self) List.not_mem_nil
  | x :: xs, [], _, _, h => absurd ((h x).mp List.mem_cons_self) List.not_mem_nil
  | x :: xs, y :: ys, h1, h2, h => by
    rw [List.pairwise_cons] at h1 h2
    have e : x = y := by
      have a := (h x).mp List.mem_cons_self
      have b := (h y).mpr List.mem_cons_self
      rcases List.mem_cons.mp a with a | a
      · exact a
      · rcases List.mem_cons.mp b with b | b
        · exact b.symm
        · have := h1.1 y b
          have := h2.1 x a
          omega
    subst e
    rw [asc_uniq h1.2 h2.2 fun j => ⟨fun m => ?_, fun m => ?_⟩]
    · have z := (h j).mp (List.mem_cons_of_mem _ m)
      rcases List.mem_cons.mp z with z | z
      · have := h1.1 j m; omega
      · exact z
    · have z := (h j).mpr (List.mem_cons_of_mem _ m)
      rcases List.mem_cons.mp z with z | z
      · have := h2.1 j m; omega
      · exact z
theorem intD_reps {K : PySem.W.Frag} {α : Al} {H : Hp} : ∀ ns : List Int, Reps K α H (ns.map D.int) (ns.map V.int)
  | [] => .nil
  | n :: ns => .cons (.int n) (intD_reps ns)
def gSortSet (h : IHp) (d : D) : Option D := match d with
  | .tup ds => (intsOf ds).bind fun ns => if ns.length < 64 then some (.lst ((asc ns).map D.int)) else none
  | _ => none
def mSortSet (m : ME) : ME := fun σ h => (m σ h).bind fun d h => R.opt (gSortSet h d) h
theorem de_sortSet {e : Expr} {m : ME} {p p2 pos pos2 : Pos} (hc : X.calm = true) (hg : Gl X "sorted") (hm : X.mg "sorted" = none) (hg2 : Gl X "set") (hm2 : X.mg "set" = none) (he : DE X e m) (hv : bootBuiltins "sorted" = some (.builtin "sorted")) (hv2 : bootBuiltins "set" = some (.type "set"))
    (na : starEach [e] X.env = (false, eval e X.env) :: starEach [] X.env := by rfl)
    (nb : starEach [.Call (.Name "set" p2) [e] [] pos2] X.env = (false, eval (.Call (.Name "set" p2) [e] [] pos2) X.env) :: starEach [] X.env := by rfl) (hpl : (backTo pos2 (starEach [] X.env)).any (·.1) = false := by rfl) (hpl2 : (backTo pos (starEach [] X.env)).any (·.1) = false := by rfl) :
    DE X (.Call (.Name "sorted" p) [.Call (.Name "set" p2) [e] [] pos2] [] pos) (mSortSet m) := fun W tk =>
  PE.mono (pe_callB (cr_sortedSet hc) hg hm hv (pa_cons (pe_callTy (cr_setT hc) hg2 hm2 hv2 (pa_cons (he W tk) pa_nil na) (by decide) (by decide) na hpl) pa_nil nb) (by decide) (by decide) nb hpl2) fun σ H Q ⟨α, iσ, ih, h, s, g⟩ => ⟨α, iσ, ih, h, s, g.bind.mono fun v H1 ⟨α1, d, ih1, x1, h1, r1, g1⟩ => by
    obtain ⟨z, ez, fz⟩ := go_opt g1
    unfold gSortSet at ez
    split at ez
    · next ds =>
      cases ei : intsOf ds with
      | none => rw [ei] at ez; cases ez
      | some ns =>
        rw [ei] at ez
        dsimp only [Option.bind_some] at ez
        split at ez
        · next hl =>
          cases ez
          cases r1 with
          | tup q rs =>
          have ev := ints_rep rs ei
          subst ev
          refine ⟨_, ns, rfl, q, by unfold scanBound; omega, fun a c n hcl => ⟨a, _, c, rfl, upd_same, by omega, fun ns' p h1' h2' h3' n' => ?_⟩⟩
          have e1 : ns' = asc ns := asc_uniq h1' (asc_sorted ns) fun j => by rw [h2', mem_asc]; simp
          subst e1
          exact fz _ _ ((Ext.new n).trans (Ext.new n')) ((h1.new n).new n') (.lst ⟨.inl upd_same, (h1.new n).free n', (h1.new n).freeH n'⟩ (intD_reps _))
        · cases ez
    · cases ez⟩
/-! ### t[::-1] -/
theorem fm_congr {β γ : Type} {f g : β → Option γ} : ∀ {l : List β}, (∀ x ∈ l, f x = g x) → l.filterMap f = l.filterMap g
  | [], _ => rfl
  | x :: l, h => by
    rw [List.filterMap_cons, List.filterMap_cons, h x List.mem_cons_self, fm_congr fun y hy => h y (List.mem_cons_of_mem _ hy)]
theorem tup_back {prog : Program} {w : World} {A : Around} {E : Value → Shared → Prop} {s : Shared} {t sl : Addr} {items : Array Value} {vl vu vs : Value} {Q : Value → Shared → Prop} (ht : IsTup s.heap t items) (hs : s.heap.IsSliceOf sl vl vu vs) (pl : IsPart vl none) (pu : IsPart vu none) (ps : IsPart vs (some (-1)))
    (h : Q (.ref s.heap.objs.size) { s with heap := s.heap.push { cls := .type "tuple", data := .seq items.toList.reverse.toArray } }) (hsz : items.size ≤ sizeLine) : wpAny (model prog w) A (getItem (.ref t) (.ref sl)) Q E s := by
  have fits : sizeOk (.seq items.toList.reverse.toArray) := by
    show items.toList.reverse.toArray.size ≤ sizeLine
    simpa using hsz
  obtain ⟨os, hos, hcs, hds⟩ := id hs
  have hTs : s.TypeIs (.ref sl) "slice" := ⟨os, hos, hcs⟩
  unfold getItem
  try with_reducible refine wpAny_holding ?_
  first | refine wpAny_bind (wpAny_pure ?_) | skip
  refine wpAny_bind (wpAny_sequenceKey ht.typeIs (by decide) (wpAny_bind (wpAny_callSpecial?_slot (name := Str.ofString "__getitem__") ht.typeIs PyProof.Rows.slot_tuple_getitem
    (wpAny_call_entry PyProof.Rows.slot_tuple_getitem ht.typeIs entry_tuple_getitem ?_ (args_tuple_getitem _ _)))))
  show wpAny _ _ (Builtin.Tuple.tupleItemsOf (.ref t) >>= _) _ _ s
  refine wpAny_bind (tupleItemsOf_ ht (wpAny_bind (wpAny_typeOf hTs ?_)))
  rw [if_pos (by decide)]
  have adj : Builtin.Slice.sliceAdjust none none (-1) (items.size : Int) = ((items.size : Int) - 1, -1) := rfl
  have plc : Builtin.Slice.slicePlaces ((items.size : Int) - 1) (-1) (-1) = items.size := by
    unfold Builtin.Slice.slicePlaces
    rw [if_neg (by decide)]
    split
    · simp
    · omega
  have app : wpAny (model prog w) A.in1 (Builtin.Slice.sliceApplied (.ref sl) (pure (items.size : Int))) (fun p s' => p = ((items.size : Int) - 1, (-1 : Int), items.size) ∧ s' = s) (fun _ _ => False) s := by
    unfold Builtin.Slice.sliceApplied Builtin.Slice.sliceFields
    refine wpAny_bind (wpAny_bind (wpAny_field hos hds (x := vl) rfl (wpAny_bind (wpAny_field hos hds (x := vu) rfl (wpAny_bind (wpAny_field hos hds (x := vs) rfl (wpAny_pure ?_)))))))
    refine wpAny_bind (HT.slicePart_ ps ?_)
    show wpAny _ _ (if ((-1 : Int) == 0) = true then _ else _) _ _ s
    rw [if_neg (by decide)]
    refine wpAny_bind (HT.slicePart_ pl (wpAny_bind (HT.slicePart_ pu (wpAny_bind (wpAny_pure ?_)))))
    show wpAny _ _ (match Builtin.Slice.sliceAdjust none none (-1) (items.size : Int) with | (lo, hi) => pure (lo, (-1 : Int), Builtin.Slice.slicePlaces lo hi (-1))) _ _ s
    rw [adj]
    show wpAny _ _ (pure ((items.size : Int) - 1, (-1 : Int), Builtin.Slice.slicePlaces ((items.size : Int) - 1) (-1) (-1))) _ _ s
    rw [plc]
    exact wpAny_pure ⟨rfl, rfl⟩
  refine wpAny_bind (wpAny_mono app (fun p s' ⟨e1, e2⟩ => ?_) fun _ _ z => False.elim z)
  subst e1 e2
  show wpAny _ _ (if (((items.size : Int) - 1) == 0 && (-1 : Int) == 1 && items.size == items.size) = true then _ else _) _ _ s'
  rw [if_neg (by simp)]
  have pick : ((List.range items.size).filterMap fun (k : Nat) => items[((items.size : Int) - 1 + (k : Int) * (-1)).toNat]?).toArray = items.toList.reverse.toArray := by
    congr 1
    have e : ∀ n (l : List Value), l.length = n → (List.range n).filterMap (fun (k : Nat) => l[(((n : Nat) : Int) - 1 + (k : Int) * (-1)).toNat]?) = l.reverse := by
      intro n l hl
      have e1 : (List.range n).filterMap (fun (k : Nat) => l[(((n : Nat) : Int) - 1 + (k : Int) * (-1)).toNat]?) = (List.range n).filterMap (fun (k : Nat) => l.reverse[k]?) := by
        apply fm_congr
        intro k hk
        have hk' : k < n := List.mem_range.mp hk
        rw [List.getElem?_reverse (by omega)]
        congr 1
        omega
      rw [e1]
      have e2 : ∀ (m : List Value) (j : Nat), j = m.length → (List.range j).filterMap (fun (k : Nat) => m[k]?) = m := by
        intro m
        induction m with
        | nil => intro j hj; subst hj; rfl
        | cons x m ih =>
          intro j hj
          subst hj
          rw [List.length_cons, List.range_succ_eq_map, List.filterMap_cons]
          show x :: ((List.range m.length).map Nat.succ).filterMap (fun (k : Nat) => (x :: m)[k]?) = x :: m
          rw [List.filterMap_map]
          congr 1
          exact ih m.length rfl
      exact e2 _ n (by rw [List.length_reverse, hl])
    have e3 := e items.size items.toList (by simp)
    rw [← e3]
    apply fm_congr
    intro k _
    simp
  rw [pick]
  first
    | exact wpAny_bind (m := Builtin.Tuple.tupleExact _) (wpAny_newObj_type (wpAny_pure ⟨_, rfl, wpAny_pure h⟩) fits)
    | exact wpAny_bind (m := Builtin.Tuple.tupleExact _) (wpAny_newObj_type (wpAny_bind (wpAny_pure (wpAny_pure ⟨_, rfl, wpAny_pure h⟩))) fits)
    | exact wpAny_bind (wpAny_bind (m := Builtin.Tuple.tupleExact _) (wpAny_newObj_type (wpAny_pure (wpAny_pure ⟨_, rfl, wpAny_pure h⟩)) fits))
theorem Reps.reverse {K : PySem.W.Frag} {α : Al} {H : Hp} : ∀ {ds : List D} {vs : List V}, Reps K α H ds vs → Reps K α H ds.reverse vs.reverse
  | _, _, .nil => .nil
  | _, _, .cons r t => by
    rw [List.reverse_cons, List.reverse_cons]
    exact (Reps.reverse t).append (.one r)
def tRevT (K : PySem.W.Frag) (te : TE) : TE := fun σ H Q => te σ H fun x H1 => ∃ a xs, x = .ref a ∧ SqT K H1 a xs ∧ ∀ p, H1 p = none → Q (.ref p) (upd H1 p (.tup xs.reverse))
theorem pe_revT {e : Expr} {te : TE} {k : Nat} {p1 p2 p3 pos : Pos} (he : PE X e te) : PE X (.Subscript e (.Slice none none (some (.UnaryOp .USub (.Constant (.int 1) k p1) p2)) p3) pos) (tRevT X.K te) := by
  refine ⟨fun pins s σ H Q I h => Subscript_ (thn (he.run pins s σ H _ I h) fun v s1 ⟨x, H1, I1, r1, a, xs, ex, hx, q⟩ => ?_)⟩
  subst ex
  cases r1
  have one : PO X (some (.UnaryOp .USub (.Constant (.int 1) k p1) p2)) (tPart (tUn (rU fun i => .int (-i)) (tC (.int 1)))) := po_some (pe_un un_neg pe_int)
  refine wpAny_Slice (thn (po_none.run pins s1 σ H1 (fun o H2 => o = none ∧ H2 = H1) I1 ⟨rfl, rfl⟩) fun vl s2 ⟨l, H2, I2, pl, el, e2⟩ => ?_)
  subst el e2
  refine thn (po_none.run pins s2 σ H2 (fun o H3 => o = none ∧ H3 = H2) I2 ⟨rfl, rfl⟩) fun vu s3 ⟨u, H3, I3, pu, eu, e3⟩ => ?_
  subst eu e3
  refine thn (one.run pins s3 σ H3 (fun o H4 => o = some (-1) ∧ H4 = H3) I3 ⟨1, rfl, -1, rfl, rfl, rfl⟩) fun vs s4 ⟨o, H4, I4, ps, eo, e4⟩ => ?_
  subst eo e4
  have I5 : L2.Inv X pins σ H4 { s4 with heap := s4.heap.push { cls := .type "slice", data := .fields #[vl, vu, vs] } } := I4.kept (t' := s4.toks) fun b ob q => Heap.get?_push_of_some _ q
  obtain ⟨its, r, ht, hz⟩ := I5.tuple hx
  have hlen := r.length
  show wpAny (model X.prog X.w) X.A (subscriptTail e (.Slice none none (some (.UnaryOp .USub (.Constant (.int 1) k p1) p2)) p3) (.ref a) (.ref s4.heap.objs.size)) (EP X pins σ Q) X.xe { s4 with heap := s4.heap.push { cls := .type "slice", data := .fields #[vl, vu, vs] } }
  refine tail_any (ops := [.ref a, .ref s4.heap.objs.size]) ht.typeIs PyProof.Rows.slot_tuple_getitem.lookup (tup_back ht (Heap.IsSliceOf.new _ vl vu vs) pl pu ps ?_ (by rw [List.size_toArray]; omega)) (by with_unfolding_all rfl)
  refine ⟨.ref _, _, I5.laid (t' := s4.toks) (o := .tup xs.reverse) (fun b ob q => Heap.get?_push_of_some _ q) (Nat.le_refl _) ?_, rfl, q _ (I5.hok.fresh (Nat.le_refl _))⟩
  exact ⟨by rw [List.length_reverse]; exact hz, _, r.reverse, IsTup.new _ _⟩
def gRev (h : IHp) (d : D) : Option D := match d with
  | .tup ds => some (.tup ds.reverse)
  | d => (lstOf h d).map fun ds => .lst ds.reverse
def mRev (m : ME) : ME := fun σ h => (m σ h).bind fun d h => R.opt (gRev h d) h
theorem de_rev {e : Expr} {m : ME} {k : Nat} {p1 p2 p3 pos : Pos} (he : DE X e m) : DE X (.Subscript e (.Slice none none (some (.UnaryOp .USub (.Constant (.int 1) k p1) p2)) p3) pos) (mRev m) := fun W tk => ⟨fun pins s σ H Q I ⟨α, iσ, ih, h, ss, g⟩ => by
  have g' := g
  unfold mRev at g
  cases em : m iσ ih with
  | bad => rw [em] at g; exact g.elim
  | ex c h' =>
    refine (pe_revT (he W tk)).run pins s σ H Q I ⟨α, iσ, ih, h, ss, ?_⟩
    rw [em] at g ⊢
    exact g
  | ok d h' =>
    rw [em] at g
    cases ez : gRev h' d with
    | none => 
      have g2 : Go X.K X.mg (fun c H' => W c none σ H') (Rep X.K) α H (R.opt (gRev h' d) h') Q := g
      rw [ez] at g2
      exact g2.elim
    | some z =>
    have g2 : Go X.K X.mg (fun c H' => W c none σ H') (Rep X.K) α H (R.opt (gRev h' d) h') Q := g
    rw [ez] at g2
    have fz2 : ∀ {α1 : Al} {v : V} {H1 : Hp}, Ext α H α1 H1 → RH X.K α1 H1 h' → Rep X.K α1 H1 z v → Q v H1 := fun {α1 v H1} a b c => g2 α1 v H1 a b c
    unfold gRev at ez
    split at ez
    · cases ez
      refine (pe_revT (he W tk)).run pins s σ H Q I ⟨α, iσ, ih, h, ss, ?_⟩
      rw [em]
      intro α1 v H1 x1 h1 r1
      cases r1 with
      | tup q rs => exact ⟨_, _, rfl, q, fun p n => fz2 (x1.trans (Ext.new n)) (h1.new n) (.tup (.inl (.inl upd_same)) (rs.reverse.ext h1 (Ext.new n)))⟩
    · cases el : lstOf h' d with
      | none => rw [el] at ez; cases ez
      | some ds =>
        rw [el] at ez
        cases ez
        refine (pe_revL (he W tk)).run pins s σ H Q I ⟨α, iσ, ih, h, ss, ?_⟩
        rw [em]
        intro α1 v H1 x1 h1 r1
        obtain ⟨a, vs, e1, q, rs⟩ := lst_rep h1 r1 el
        exact ⟨a, vs, e1, .inl q, fun p n => fz2 (x1.trans (Ext.new n)) (h1.new n) (.lst ⟨.inl upd_same, h1.free n, h1.freeH n⟩ (rs.reverse.ext h1 (Ext.new n)))⟩⟩
end
end Dn

set_option Elab.async false
set_option linter.all false
set_option maxRecDepth 100000
set_option maxHeartbeats 4000000
/-! lists that have just been made: they may become live, or data -/
namespace Dn
open PySem PySem.Spec PyProof.Rows L2
/-- nothing that is told of stands at p -/
def Fz (α : Al) (H : Hp) (p : Addr) : Prop := p ∉ α.lv ∧ p ∉ α.hd ∧ ∀ u, H p = some u → ∃ ps, u = .tbl ps
theorem Fz.of {α : Al} {H : Hp} {K : PySem.W.Frag} {ih : IHp} (h : RH K α H ih) {p : Addr} (n : H p = none) : Fz α H p := ⟨h.free n, h.freeH n, fun u e => by rw [n] at e; cases e⟩
theorem Fz.back {α α' : Al} {H H' : Hp} (x : Ext α H α' H') {p : Addr} (f : Fz α' H' p) : Fz α H p := by
  refine ⟨fun m => f.1 (x.pre.subset m), fun m => f.2.1 (x.hs p m), fun u e => ?_⟩
  by_cases ht : ∃ ps, u = .tbl ps
  · exact ht
  · have k := x.keep p u e (fun ps z => ht ⟨ps, z⟩) (fun m => f.1 (x.pre.subset m))
    exact f.2.2 u k.1
def GoN (K : PySem.W.Frag) (mg : Str → Option Value) (W : Value → Hp → Prop) (α : Al) (H : Hp) (r : R (List D)) (Q : VK) : Prop := match r with
  | .ok es h => ∀ α1 H1 p vs, Ext α H α1 H1 → RH K α1 H1 h → Fz α H p → p ∈ α1.hd → H1 p = some (.lst vs) → Reps K α1 H1 es vs → Q (.ref p) H1
  | .ex c h => Go K mg W (Rep K) α H (.ex c h : R D) Q
  | .bad => False
def Al.toLv (α : Al) (p : Addr) : Al := { lv := α.lv ++ [p], hd := α.hd.filter fun a => decide (a ≠ p) }
section
variable {K : PySem.W.Frag} {mg : Str → Option Value} {W : Value → Hp → Prop} {α α' : Al} {H H' : Hp} {r : R (List D)} {Q : VK}
theorem GoN.mv (x : Ext α H α' H') (g : GoN K mg W α H r Q) : GoN K mg W α' H' r Q := by
  cases r with
  | ok es h => exact fun α1 H1 p vs x1 h1 f m e rs => g α1 H1 p vs (x.trans x1) h1 (f.back x) m e rs
  | ex c h => exact Go.ext (rep := Rep K) (Q := Q) x (show Go K mg W (Rep K) α H (.ex c h : R D) Q from g)
  | bad => exact g
/-- as data -/
theorem GoN.fr {ih : IHp} (h0 : RH K α H ih) (g : Go K mg W (Rep K) α H (r.bind fun ds h => .ok (.lst ds) h) Q) : GoN K mg W α H r Q := by
  cases r with
  | ok es h =>
    intro α1 H1 p vs x1 h1 f m e rs
    refine g (α1.bare p) (.ref p) H1 ⟨x1.pre, fun a xs r m1 m2 z => x1.hd a xs r m1 m2 (Al.of_bare z), fun a ma => List.mem_filter.mpr ⟨x1.hs a ma, by
      have : a ≠ p := fun z => f.2.1 (z ▸ ma)
      simpa using this⟩, x1.keep, x1.nt⟩ h1.bare (.lst ⟨.inl e, h1.dj p m, Al.not_bare⟩ (rs.mp Mp.bare))
  | ex c h => exact g
  | bad => exact g
theorem Al.of_toLv {p a : Addr} (z : a ∈ (α.toLv p).hd) : a ∈ α.hd := (List.mem_filter.mp z).1
theorem Mp.toLv {p : Addr} (m : p ∈ α.hd) (hl : ∀ a ∈ α.hd, ∃ vs, H a = some (.lst vs)) : Mp K α H (α.toLv p) H :=
  ⟨fun a us ⟨r, m1⟩ => ⟨r, fun z => by
    rcases List.mem_append.mp z with z | z
    · exact m1 z
    · obtain ⟨vs, e⟩ := hl p m
      rw [List.mem_singleton.mp z] at r
      rcases r with r | ⟨o, r⟩ <;> (rw [e] at r; cases r)⟩, fun a us ⟨r, m1, m2⟩ => ⟨r, fun z => by
    rcases List.mem_append.mp z with z | z
    · exact m1 z
    · rw [List.mem_singleton.mp z] at m2; exact m2 m, fun z => m2 (Al.of_toLv z)⟩, fun _ _ q => q, fun n a e nt => ⟨by
    show (α.lv ++ [p])[n]? = some a
    rw [List.getElem?_append_left (List.getElem?_eq_some_iff.mp e).1]
    exact e, nt⟩, fun c q e mm => ⟨e, fun z => by
    rcases List.mem_append.mp z with z | z
    · exact mm z
    · obtain ⟨vs, e2⟩ := hl p m
      rw [List.mem_singleton.mp z, e2] at e
      cases e⟩⟩
theorem RH.toLv {ih : IHp} (h : RH K α H ih) {p : Addr} {vs : List V} {es : List D} (m : p ∈ α.hd) (e : H p = some (.lst vs)) (rs : Reps K α H es vs) : RH K (α.toLv p) H (ih ++ [.lst es]) := by
  have np := h.dj p m
  refine ⟨?_, ?_, fun k o q => ?_, fun a ma z => ?_, fun a ma => h.hl a (Al.of_toLv ma)⟩
  · show (α.lv ++ [p]).length = _
    rw [List.length_append, List.length_append, h.len]
    rfl
  · show (α.lv ++ [p]).Nodup
    rw [List.nodup_append]
    refine ⟨h.nd, by simp, fun a ha b hb => ?_⟩
    rw [List.mem_singleton.mp hb]
    rintro rfl
    exact np ha
  · by_cases hk : k < ih.length
    · rw [List.getElem?_append_left hk] at q
      obtain ⟨a, ho, e1, e2, e3⟩ := h.ob k o q
      exact ⟨a, ho, by
        show (α.lv ++ [p])[k]? = some a
        rw [List.getElem?_append_left (List.getElem?_eq_some_iff.mp e1).1]
        exact e1, e2, e3.mp (Mp.toLv m h.hl)⟩
    · rw [List.getElem?_append_right (by omega)] at q
      have hk0 : k = ih.length := by
        have := (List.getElem?_eq_some_iff.mp q).1
        simp at this
        omega
      subst hk0
      rw [Nat.sub_self] at q
      cases q
      exact ⟨p, .lst vs, by
        show (α.lv ++ [p])[ih.length]? = some p
        rw [← h.len, List.getElem?_append_right (Nat.le_refl _), Nat.sub_self]
        rfl, e, rs.mp (Mp.toLv m h.hl)⟩
  · have hm := (List.mem_filter.mp ma)
    rcases List.mem_append.mp z with z | z
    · exact h.dj a hm.1 z
    · rw [List.mem_singleton.mp z] at hm
      simp at hm
/-- as a live list -/
theorem GoN.lv {ih : IHp} (h0 : RH K α H ih) (g : Go K mg W (Rep K) α H (r.bind fun ds h => .ok (.ref h.length) (h ++ [.lst ds])) Q) : GoN K mg W α H r Q := by
  cases r with
  | ok es h =>
    intro α1 H1 p vs x1 h1 f m e rs
    refine g (α1.toLv p) (.ref p) H1 ⟨?_, fun a xs r m1 m2 z => x1.hd a xs r m1 m2 (Al.of_toLv z), fun a ma => List.mem_filter.mpr ⟨x1.hs a ma, by
      have : a ≠ p := fun z => f.2.1 (z ▸ ma)
      simpa using this⟩, fun a u ea nt ml => ?_, x1.nt⟩ (h1.toLv m e rs) (.ref ?_ ?_)
    · exact x1.pre.trans (List.prefix_append _ _)
    · obtain ⟨k1, k2⟩ := x1.keep a u ea nt ml
      refine ⟨k1, fun z => ?_⟩
      rcases List.mem_append.mp z with z | z
      · exact k2 z
      · rw [List.mem_singleton.mp z] at ea
        obtain ⟨ps, e2⟩ := f.2.2 u ea
        exact nt ps e2
    · show (α1.lv ++ [p])[h.length]? = some p
      rw [← h1.len, List.getElem?_append_right (Nat.le_refl _), Nat.sub_self]
      rfl
    · exact ⟨_, e, fun _ z => by cases z⟩
  | ex c h => exact g
  | bad => exact g
/-- one that stood nowhere -/
theorem GoN.at {ih : IHp} {es : List D} {vs : List V} (g : GoN K mg W α H (.ok es ih) Q) (h : RH K α H ih) (rs : Reps K α H es vs) {p : Addr} (n : H p = none) : Q (.ref p) (upd H p (.lst vs)) := by
  exact g (α.hide p) (upd H p (.lst vs)) p vs (Ext.hide n) (h.hide n) (Fz.of h n) List.mem_cons_self upd_same (rs.ext h (Ext.hide n))
end
/-! ### an expression that makes a new list -/
section
variable {X : Cx}
def rdN (X : Cx) (W : WX) (m : MA) : TE := fun σ H Q => ∃ α iσ ih, RH X.K α H ih ∧ RS X.K α H iσ σ ∧ GoN X.K X.mg (fun c H' => W c none σ H') α H (m iσ ih) Q
def DN (X : Cx) (e : Expr) (m : MA) : Prop := ∀ W, Takes X W → PE X e (rdN X W m)
def mFr (m : MA) : ME := fun s h => (m s h).bind fun ds h => .ok (.lst ds) h
def mLv (m : MA) : ME := fun s h => (m s h).bind fun ds h => .ok (.ref h.length) (h ++ [.lst ds])
theorem de_fr {e : Expr} {m : MA} (he : DN X e m) : DE X e (mFr m) := fun W tk => PE.mono (he W tk) fun σ H Q ⟨α, iσ, ih, h, s, g⟩ => ⟨α, iσ, ih, h, s, GoN.fr h g⟩
theorem de_lv {e : Expr} {m : MA} (he : DN X e m) : DE X e (mLv m) := fun W tk => PE.mono (he W tk) fun σ H Q ⟨α, iσ, ih, h, s, g⟩ => ⟨α, iσ, ih, h, s, GoN.lv h g⟩
/-! ### built-ins that make lists -/
abbrev GN := IHp → List D → Option (List D)
def FinN (K : PySem.W.Frag) (α : Al) (H : Hp) (es : List D) (Q : VK) : Prop := ∀ vs p, Reps K α H es vs → H p = none → Q (.ref p) (upd H p (.lst vs))
def CallN (X : Cx) (f : Value) (g : GN) : Prop := CallR X f fun xs H Q => ∃ α ds ih es, RH X.K α H ih ∧ Reps X.K α H ds xs ∧ g ih ds = some es ∧ FinN X.K α H es Q
def mBN (g : GN) (ms : MA) : MA := fun σ h => (ms σ h).bind fun ds h => R.opt (g h ds) h
theorem GoN.bindA {W : Value → Hp → Prop} {α : Al} {H : Hp} {mg : Str → Option Value} {K : PySem.W.Frag} {r : R (List D)} {f : List D → IHp → R (List D)} {Q : VK} (g : GoN K mg W α H (r.bind f) Q) :
    Go K mg W (Reps K) α H r fun vs H1 => ∃ α1 ds ih1, Ext α H α1 H1 ∧ RH K α1 H1 ih1 ∧ Reps K α1 H1 ds vs ∧ GoN K mg W α1 H1 (f ds ih1) Q := by
  cases r with
  | ok ds ih => exact fun α1 vs H1 x1 h1 r1 => ⟨α1, ds, ih, x1, h1, r1, GoN.mv x1 g⟩
  | ex c h => exact g
  | bad => exact g
theorem GoN.bindD {β γ : Type} {rep : Al → Hp → β → γ → Prop} {W : Value → Hp → Prop} {α : Al} {H : Hp} {mg : Str → Option Value} {K : PySem.W.Frag} {r : R β} {f : β → IHp → R (List D)} {Q : VK} (g : GoN K mg W α H (r.bind f) Q) :
    Go K mg W rep α H r fun vs H1 => ∃ α1 ds ih1, Ext α H α1 H1 ∧ RH K α1 H1 ih1 ∧ rep α1 H1 ds vs ∧ GoN K mg W α1 H1 (f ds ih1) Q := by
  cases r with
  | ok ds ih => exact fun α1 vs H1 x1 h1 r1 => ⟨α1, ds, ih, x1, h1, r1, GoN.mv x1 g⟩
  | ex c h => exact g
  | bad => exact g
theorem rd_BN {W : WX} {g : GN} {ms : MA} (σ : L2.St) (H : Hp) (Q : VK) : rdN X W (mBN g ms) σ H Q → tCB (fun xs H Q => ∃ α ds ih es, RH X.K α H ih ∧ Reps X.K α H ds xs ∧ g ih ds = some es ∧ FinN X.K α H es Q) (rdA X W ms) σ H Q :=
  fun ⟨α, iσ, ih, h, s, gg⟩ => ⟨α, iσ, ih, h, s, (GoN.bindA gg).mono fun vs H1 ⟨α1, ds, ih1, x1, h1, r1, g1⟩ => by
    cases e : g ih1 ds with
    | none => rw [e] at g1; exact g1.elim
    | some es =>
      rw [e] at g1
      exact ⟨α1, ds, ih1, es, h1, r1, e, fun us p ru n => GoN.at g1 h1 ru n⟩⟩
theorem dn_callB {id : String} {x : Str} {g : GN} {ms : MA} {e : Expr} {es : List Expr} {p pos : Pos} (hc : CallN X (.builtin id) g) (hg : Gl X x) (hm : X.mg x = none) (hv : bootBuiltins x = some (.builtin id)) (ha : DA X (e :: es) ms) (hn : x ≠ "__name__" := by decide) (hdb : (x == ("__debug__" : Str)) = false := by decide)
    (he : starEach (e :: es) X.env = (false, eval e X.env) :: starEach es X.env := by rfl) (hpl : (backTo pos (starEach es X.env)).any (·.1) = false := by rfl) : DN X (.Call (.Name x p) (e :: es) [] pos) (mBN g ms) := fun W tk =>
  PE.mono (pe_callB hc hg hm hv (ha W tk) hn hdb he hpl) fun σ H Q q => rd_BN σ H Q q
theorem dn_callTy {T : String} {x : Str} {g : GN} {ms : MA} {e : Expr} {es : List Expr} {p pos : Pos} (hc : CallN X (.type T) g) (hg : Gl X x) (hm : X.mg x = none) (hv : bootBuiltins x = some (.type T)) (ha : DA X (e :: es) ms) (hn : x ≠ "__name__" := by decide) (hdb : (x == ("__debug__" : Str)) = false := by decide)
    (he : starEach (e :: es) X.env = (false, eval e X.env) :: starEach es X.env := by rfl) (hpl : (backTo pos (starEach es X.env)).any (·.1) = false := by rfl) : DN X (.Call (.Name x p) (e :: es) [] pos) (mBN g ms) := fun W tk =>
  PE.mono (pe_callTy hc hg hm hv (ha W tk) hn hdb he hpl) fun σ H Q q => rd_BN σ H Q q
/-- list(x) -/
def gLstN : GN := fun h ds => match ds with
  | [d] => seqOf h d
  | _ => none
theorem cn_lst : CallN X (.type "list") gLstN := fun pins s σ H xs us Q I r ⟨α, ds, ih, es, hh, rs, e, fz⟩ => by
  unfold gLstN at e
  split at e
  · next d0 =>
    obtain ⟨v, rfl, q⟩ := reps1 rs
    obtain ⟨a, vs, e1, q1, r1⟩ := seq_rep hh q e
    subst e1
    exact call_list_of pins s σ H _ us Q I r ⟨a, vs, rfl, q1, fun p n => fz _ p r1 n⟩
  · cases e
/-- sorted(xs), a list of whole numbers -/
def srt (ns : List Int) : List Int := ns.mergeSort (fun a b => decide (a ≤ b))
/-- pairs of whole numbers -/
def prD (p : Int × Int) : D := .tup [.int p.1, .int p.2]
def prOfD : D → Option (Int × Int)
  | .tup [.int a, .int b] => some (a, b)
  | _ => none
theorem prOfD_eq {d : D} {p : Int × Int} (e : prOfD d = some p) : d = prD p := by
  unfold prOfD at e
  split at e
  · cases e; rfl
  · cases e
def prsOf : List D → Option (List (Int × Int))
  | [] => some []
  | d :: ds => match prOfD d, prsOf ds with
    | some p, some ps => some (p :: ps)
    | _, _ => none
theorem prsOf_eq : ∀ {ds : List D} {ps : List (Int × Int)}, prsOf ds = some ps → ds = ps.map prD
  | [], _, e => by cases e; rfl
  | d :: ds, ps, e => by
    rw [prsOf] at e
    cases h1 : prOfD d with
    | none => rw [h1] at e; cases e
    | some p =>
      cases h2 : prsOf ds with
      | none => rw [h1, h2] at e; cases e
      | some qs =>
        rw [h1, h2] at e
        cases e
        rw [List.map_cons, ← prOfD_eq h1, ← prsOf_eq h2]
theorem prsOf_map : ∀ ps : List (Int × Int), prsOf (ps.map prD) = some ps
  | [] => rfl
  | p :: ps => by
    rw [List.map_cons, prsOf, prsOf_map ps]
    rfl
def leP (p q : Int × Int) : Bool := decide (p.1 < q.1) || (decide (p.1 = q.1) && decide (p.2 ≤ q.2))
theorem leP_iff {p q : Int × Int} : leP p q = true ↔ p.1 < q.1 ∨ (p.1 = q.1 ∧ p.2 ≤ q.2) := by
  unfold leP
  rw [Bool.or_eq_true, Bool.and_eq_true, decide_eq_true_eq, decide_eq_true_eq, decide_eq_true_eq]
def srtP (ps : List (Int × Int)) : List (Int × Int) := ps.mergeSort leP
theorem srtP_ok (ps : List (Int × Int)) : (srtP ps).Pairwise (fun p q => leP p q = true) :=
  List.pairwise_mergeSort (le := leP) (fun a b c h1 h2 => by rw [leP_iff] at *; omega) (fun a b => by rw [Bool.or_eq_true, leP_iff, leP_iff]; omega) ps
theorem srtP_uniq {ps qs : List (Int × Int)} (hp : qs.Perm ps) (hs : qs.Pairwise (fun p q => leP p q = true)) : qs = srtP ps := by
  have h2 : qs.Perm (srtP ps) := hp.trans (List.mergeSort_perm ps _).symm
  exact List.Perm.eq_of_pairwise (le := fun p q : Int × Int => leP p q = true) (fun a b _ _ x y => by
    rw [leP_iff] at x y
    exact Prod.ext (by omega) (by omega)) hs (srtP_ok ps) h2
open Classical in
noncomputable def kOf (K : PySem.W.Frag) (H : Hp) (v : V) : Int × Int := if h : ∃ (q : Int × Int) (t : Addr), v = .ref t ∧ SqT K H t [.int q.1, .int q.2] then h.choose else (0, 0)
theorem kOf_spec {K : PySem.W.Frag} {H : Hp} {t : Addr} {q : Int × Int} (h : SqT K H t [.int q.1, .int q.2]) : SqT K H t [.int (kOf K H (.ref t)).1, .int (kOf K H (.ref t)).2] := by
  have ex : ∃ (q : Int × Int) (t' : Addr), V.ref t = .ref t' ∧ SqT K H t' [.int q.1, .int q.2] := ⟨q, t, rfl, h⟩
  unfold kOf
  rw [dif_pos ex]
  obtain ⟨t', e, x⟩ := ex.choose_spec
  cases e
  exact x
def gSrtN : GN := fun h ds => match ds with
  | [d] => (seqOf h d).bind fun xs => match intsOf xs with
    | some ns => some ((srt ns).map D.int)
    | none => (prsOf xs).map fun ps => (srtP ps).map prD
  | _ => none
theorem reps_prs {K : PySem.W.Frag} {α : Al} {H : Hp} : ∀ {ps : List (Int × Int)} {vs : List V}, Reps K α H (ps.map prD) vs → vs.length = ps.length ∧ ∀ (i : Nat) (p : Int × Int), ps[i]? = some p → ∃ t : Addr, vs[i]? = some (V.ref t) ∧ SqT K H t [.int p.1, .int p.2]
  | [], _, .nil => ⟨rfl, fun i p e => by simp at e⟩
  | p :: ps, _, .cons r rs => by
    obtain ⟨a, b⟩ := reps_prs rs
    cases r with
    | tup q s =>
      cases s with
      | cons s1 s2 =>
        cases s1
        cases s2 with
        | cons s3 s4 =>
          cases s3
          cases s4
          refine ⟨by rw [List.length_cons, List.length_cons, a], fun i p' e => ?_⟩
          cases i with
          | zero => cases e; exact ⟨_, rfl, q⟩
          | succ i => exact b i p' e
theorem reps_of_k {K : PySem.W.Frag} {α : Al} {H : Hp} (k : V → Int × Int) : ∀ {ys : List V}, (∀ y ∈ ys, ∃ t, y = .ref t ∧ SqT K H t [.int (k y).1, .int (k y).2]) → Reps K α H ((ys.map k).map prD) ys
  | [], _ => .nil
  | y :: ys, h => by
    obtain ⟨t, rfl, q⟩ := h y List.mem_cons_self
    exact .cons (.tup q (.cons (.int _) (.cons (.int _) .nil))) (reps_of_k k fun y m => h y (List.mem_cons_of_mem _ m))
theorem srt_uniq {ns ms : List Int} (hp : ms.Perm ns) (hs : ms.Pairwise (· ≤ ·)) : ms = srt ns := by
  have h1 : (srt ns).Pairwise (· ≤ ·) := by
    have := List.pairwise_mergeSort (le := fun a b : Int => decide (a ≤ b)) (fun a b c => by simp; omega) (fun a b => by simp; omega) ns
    exact this.imp fun {a b} h => of_decide_eq_true h
  have h2 : ms.Perm (srt ns) := hp.trans (List.mergeSort_perm ns _).symm
  exact List.Perm.eq_of_pairwise (le := fun a b : Int => a ≤ b) (fun a b _ _ x y => by omega) hs h1 h2
theorem intsOf_eq : ∀ {ds : List D} {ns : List Int}, intsOf ds = some ns → ds = ns.map D.int
  | [], _, e => by cases e; rfl
  | d :: ds, ns, e => by
    cases d with
    | int i =>
      unfold intsOf at e
      cases h : intsOf ds with
      | none => rw [h] at e; cases e
      | some ms => rw [h] at e; cases e; rw [intsOf_eq h]; rfl
    | _ => cases e
theorem cn_srt : CallN X (.builtin "sorted") gSrtN := fun pins s σ H xs us Q I r ⟨α, ds, ih, es, hh, rs, e, fz⟩ => by
  unfold gSrtN at e
  split at e
  · next d0 =>
    cases e1 : seqOf ih d0 with
    | none => rw [e1] at e; cases e
    | some l =>
      rw [e1, Option.bind_some] at e
      obtain ⟨v, rfl, q⟩ := reps1 rs
      obtain ⟨a, vs, e3, q1, r1⟩ := seq_rep hh q e1
      subst e3
      cases e2 : intsOf l with
      | some ns =>
        rw [e2] at e
        cases e
        have hv := ints_rep r1 e2
        rcases q1 with q1 | q1
        · refine cr_sortedI pins s σ H _ us Q I r ⟨a, ns, rfl, by rw [← hv]; exact q1, fun ms p hp hs n => ?_⟩
          rw [srt_uniq hp hs]
          exact fz _ p (reps_int _) n
        · refine cr_sortedTI pins s σ H _ us Q I r ⟨a, ns, rfl, by rw [← hv]; exact q1, fun ms p hp hs n => ?_⟩
          rw [srt_uniq hp hs]
          exact fz _ p (reps_int _) n
      | none =>
        rw [e2] at e
        cases e3 : prsOf l with
        | none => rw [e3] at e; cases e
        | some ps =>
          rw [e3] at e
          cases e
          have el := prsOf_eq e3
          subst el
          obtain ⟨lv, gv⟩ := reps_prs r1
          have kv : vs.map (kOf X.K H) = ps := by
            refine List.ext_getElem? fun i => ?_
            rw [List.getElem?_map]
            cases hp : ps[i]? with
            | none => rw [List.getElem?_eq_none (by rw [lv]; exact List.getElem?_eq_none_iff.mp hp)]; rfl
            | some p =>
              obtain ⟨t, et, qt⟩ := gv i p hp
              rw [et]
              have a1 := kOf_spec qt
              have a2 := I.tuple_inj qt a1
              rw [List.cons.injEq, List.cons.injEq] at a2
              have b1 := a2.1
              have b2 := a2.2.1
              injection b1 with b1
              injection b2 with b2
              exact congrArg some (Prod.ext b1.symm b2.symm)
          have items : ∀ x ∈ vs, ∃ t, x = V.ref t ∧ SqT X.K H t [.int (kOf X.K H x).1, .int (kOf X.K H x).2] := fun x m => by
            obtain ⟨i, hi, ei⟩ := List.getElem_of_mem m
            obtain ⟨t, et, qt⟩ := gv i (ps[i]'(by omega)) (List.getElem?_eq_getElem _)
            rw [List.getElem?_eq_getElem hi, ei] at et
            cases et
            exact ⟨t, rfl, kOf_spec qt⟩
          refine cr_sortedQP pins s σ H _ us Q I r ⟨a, vs, kOf X.K H, rfl, q1, items, fun ys p hs hp n => ?_⟩
          have hys : ys.map (kOf X.K H) = srtP ps := by
            refine srtP_uniq (by rw [← kv]; exact hp.map _) ?_
            rw [List.pairwise_map]
            exact hs.imp fun {x y} h => by
              have := SrtO.lexB_no.mp h
              rw [leP_iff]
              omega
          have z := reps_of_k (α := α) (kOf X.K H) fun y m => items y (hp.mem_iff.mp m)
          rw [hys] at z
          exact fz _ p z n
  · cases e
/-- list(range(..)) -/
def mRgN (m : MR) : MA := fun s h => (m s h).bind fun p h => if rgOk p.1 p.2 = true then .ok (rngD p.1 (p.2 - p.1).toNat) h else .bad
theorem dn_lstR {e : Expr} {m : MR} {p pos : Pos} (hc : X.calm = true) (hg : Gl X "list") (hm : X.mg "list" = none) (he : DR X e m) (na : starEach [e] X.env = (false, eval e X.env) :: starEach [] X.env := by rfl) : DN X (.Call (.Name "list" p) [e] [] pos) (mRgN m) := fun W tk =>
  PE.mono (pe_listRg hc hg hm (he W tk) na) fun σ H Q ⟨α, iσ, ih, h, s, g⟩ => ⟨α, iσ, ih, h, s, (GoN.bindD g).mono fun v H1 ⟨α1, d, ih1, x1, h1, r1, g1⟩ => by
    cases r1
    split at g1
    · next hr => exact ⟨rgOk_of hr, fun q n => GoN.at g1 h1 (rng_reps _ _) n⟩
    · exact g1.elim⟩
/-! ### comprehensions -/
theorem GoN.bind2 {β γ : Type} {rep : Al → Hp → β → γ → Prop} {W : Value → Hp → Prop} {α α' : Al} {H H' : Hp} {mg : Str → Option Value} {K : PySem.W.Frag} {r : R β} {f : β → IHp → R (List D)} {Q : VK} (x : Ext α H α' H') (g : GoN K mg W α H (r.bind f) Q) :
    Go K mg W rep α' H' r fun v H1 => ∃ α1 d ih1, Ext α' H' α1 H1 ∧ RH K α1 H1 ih1 ∧ rep α1 H1 d v ∧ GoN K mg W α H (f d ih1) Q := by
  cases r with
  | ok d ih => exact fun α1 v H1 x1 h q => ⟨α1, d, ih, x1, h, q, g⟩
  | ex c ih => exact fun C α1 H1 hc x1 => g C α1 H1 hc (x.trans x1)
  | bad => exact g
theorem lcD_stableN {K : PySem.W.Frag} {mg : Str → Option Value} {W : Value → Hp → Prop} {α : Al} {H : Hp} {Q : V → Hp → Prop} {g : It1} {t : Tg} {c : MT} {e : ME} {s0 : ISt} {ds acc : List D} {h : IHp} (q : GoN K mg W α H (lcD g t c e s0 ds acc h) Q) : Stable g h := by
  cases ds with
  | nil =>
    rw [lcD] at q
    split at q
    · assumption
    · exact q.elim
  | cons d ds =>
    rw [lcD] at q
    split at q
    · assumption
    · exact q.elim
noncomputable def mLcN (mi : MI) (t : Tg) (c : MT) (e : ME) (vs : List Nat) : MA := fun s h => (mi s h).bind fun g h => lcD g t c e (wipeD s vs) g.1 [] h
theorem rd_lcN {W : WX} {mi : MI} {t : Tg} {mc : MT} {me : ME} {vs : List Nat} (hv : ∀ i ∈ t.vars, i ∈ vs) {X' : Shared → Hp → Addr → List (Str × Addr) → List Addr → Cx} (hX : True) (σ : L2.St) (H : Hp) (Q : VK) :
    rdN X W (mLcN mi t mc me vs) σ H Q → tLc (rdI X W mi) (rdG X t) (rdT X W0 mc) (rdE X W0 me) vs σ H Q :=
  fun ⟨α, iσ, ih, h, s, g⟩ => ⟨α, iσ, ih, h, s, (GoN.bindD g).mono fun J H1 ⟨α1, it, ih1, x1, h1, ⟨G, Y, wk, stab, yld⟩, g1⟩ => fun Dd nD => by
    have hs1 : RS X.K α1 H1 iσ σ := s.ext h x1
    refine lc_it wk (fun i H' => ∃ α' ih' acc vacc, Ext α1 H1 α' H' ∧ Dd ∈ α'.hd ∧ RH X.K α' H' ih' ∧ RS X.K α' H' iσ σ ∧ H' Dd = some (.lst vacc) ∧ Reps X.K α' H' acc vacc ∧
        GoN X.K X.mg (fun c H' => W c none σ H') α1 H1 (lcD it t mc me (wipeD iσ vs) (it.1.drop i) acc ih') Q) ?_ ?_ ?_ ?_
    · exact ⟨α1.hide Dd, ih1, [], [], Ext.hide nD, List.mem_cons_self, h1.hide nD, hs1.mp (Mp.hide h1 nD), upd_same, .nil, g1⟩
    · intro i H' hi ⟨α', ih', acc, vacc, x', nd, h', s', eD, ra, g'⟩
      exact stab α' H' ih' x' h' (lcD_stableN g')
    · intro i x H' H'' hi ⟨α', ih', acc, vacc, x', nd, h', s', eD, ra, g'⟩ y
      have st := lcD_stableN g'
      obtain ⟨d, ed, x2, h2, r2⟩ := yld i H' x H'' α' ih' hi x' h' st y
      have es : it.1.drop i = d :: it.1.drop (i + 1) := by
        rw [List.drop_eq_getElem_cons hi]
        rw [List.getElem?_eq_getElem hi] at ed
        rw [Option.some.inj ed]
      rw [es, lcD, if_pos st] at g'
      cases et : t.set d (wipeD iσ vs) with
      | none => rw [et] at g'; exact g'.elim
      | some s1 =>
        rw [et] at g'
        dsimp only at g'
        refine ⟨α', d, wipeD iσ vs, ih', s1, h2, ((s'.ext h' x2).wipe vs), r2, et, fun σ2 hs2 wp => ⟨?_, ?_⟩⟩
        · have e1 := wp vs hv
          have e2 : wipe (wipe σ vs) vs = wipe σ vs := by
            apply List.ext_getElem?
            intro j
            simp only [wipe_get]
            by_cases hj : j ∈ vs
            · cases σ[j]? <;> simp [hj]
            · simp [hj]
          rw [e1, e2]
        · refine ⟨α', s1, ih', h2, hs2, ?_⟩
          refine Go.mono (go_noex (GoN.bind2 (rep := repB) (x'.trans x2) g')) fun b H3 ⟨α3, b', ih3, x3, h3, r3, g3⟩ => ?_
          cases r3
          have eD3 := x3.keep Dd _ ((x2.keep Dd _ eD (fun _ z => by cases z) (h'.dj Dd nd)).1) (fun _ z => by cases z) (h'.dj Dd nd)
          have m3 := x3.hs Dd (x2.hs Dd nd)
          cases b with
          | false =>
            rw [if_neg Bool.false_ne_true] at g3 ⊢
            exact ⟨α3, ih3, acc, vacc, (x'.trans x2).trans x3, m3, h3, (s'.ext h' x2).ext h2 x3, eD3.1, (ra.ext h' x2).ext h2 x3, g3⟩
          | true =>
            rw [if_pos rfl] at g3
            rw [if_pos rfl]
            refine ⟨α3, s1, ih3, h3, hs2.ext h2 x3, Go.mono (go_noex (GoN.bind2 (rep := Rep X.K) ((x'.trans x2).trans x3) g3)) fun v H4 ⟨α4, dv, ih4, x4, h4, r4, g4⟩ => ?_⟩
            have eD4 := x4.keep Dd _ eD3.1 (fun _ z => by cases z) eD3.2
            have m4 := x4.hs Dd m3
            have ra4 := ((ra.ext h' x2).ext h2 x3).ext h3 x4
            split at g4
            · next hl =>
              refine ⟨vacc, eD4.1, by rw [← ra4.length]; exact hl, ?_⟩
              have mp : Mp X.K α4 H4 α4 (upd H4 Dd (.lst (vacc ++ [v]))) := Mp.wr m4 eD4.1
              exact ⟨α4, ih4, acc ++ [dv], vacc ++ [v], (((x'.trans x2).trans x3).trans x4).wr nD, m4, h4.wr m4 eD4.1, (((s'.ext h' x2).ext h2 x3).ext h3 x4).mp mp, upd_same, (ra4.append (.one r4)).mp mp, g4⟩
            · exact g4.elim
    · intro H' ⟨α', ih', acc, vacc, x', nd, h', s', eD, ra, g'⟩
      have st := lcD_stableN g'
      rw [List.drop_length, lcD, if_pos st] at g'
      exact g' α' H' Dd vacc x' h' (Fz.of h1 nD) nd eD ra⟩
theorem dn_lc {elt tg iter : Expr} {ifs : List Expr} {scope : Scope} (own : List (Str × Nat)) {pos : Pos} {mi : MI} {t : Tg} {mc : MT} {me : ME} (hc : X.calm = true) (hN : X.N.Nodup) (hi : DI X tg iter mi) (ok : BlkOk X.N X.env.scope scope own)
    (hg : ∀ (s : Shared) (H : Hp) (C : Addr) (cl : List (Str × Addr)) (fp : List Addr), DG (X.blk s H scope (compEnvC scope cl C X.env) fp) tg t) (ht : ∀ (s : Shared) (H : Hp) (C : Addr) (cl : List (Str × Addr)) (fp : List Addr), DTs (X.blk s H scope (compEnvC scope cl C X.env) fp) ifs mc)
    (he : ∀ (s : Shared) (H : Hp) (C : Addr) (cl : List (Str × Addr)) (fp : List Addr), DE (X.blk s H scope (compEnvC scope cl C X.env) fp) elt me) (hv : ∀ i ∈ t.vars, i ∈ own.map (·.2) := by decide) (hs : ∀ x, foldedSetIterable iter X.env x = pure x := by intro _; rfl) :
    DN X (.ListComp elt [⟨tg, iter, ifs, 0⟩] scope pos) (mLcN mi t mc me (own.map (·.2))) := fun W tk =>
  PE.mono (pe_lc (X := X) (own := own) (g := rdG X t) (tt := rdT X W0 mc) (te := rdE X W0 me) hc hN (hi W tk) ok (fun s H C cl fp => hg s H C cl fp) (fun s H C cl fp => ht s H C cl fp W0 takes0) (fun s H C cl fp => he s H C cl fp W0 takes0) hs) fun σ H Q q => rd_lcN hv (X' := fun _ _ _ _ _ => X) True.intro σ H Q q
end
end Dn

set_option Elab.async false
set_option linter.all false
set_option maxRecDepth 100000
set_option maxHeartbeats 4000000
/-! own exceptions -/
namespace Dn
open PySem PySem.Spec PyProof.Rows L2 LamX
section
variable {X : Cx} {C : Addr} {bmB : List Value} {B newId initId : String}
/-- X() -/
theorem pmk_own0 {x : Str} {p pos : Pos} (F : ExcBaseFacts B newId initId bmB) (q : PySem.W.excIn X.K C bmB newId = true) (gC : X.mg x = some (.ref C)) (kC : PySem.W.keepIn X.K (.ref C) = true) (r : Raises X (.ref C)) (hg : Gl X x)
    (hdb : (x == ("__debug__" : Str)) = false := by decide) : PMk X (.Call (.Name x p) [] [] pos) (fun _ H Q => Q (.ref C) none H) := by
  intro pins s σ H Q I h
  refine wpAny_Call_Name_kw (ld_glob I hg gC ?_ hdb)
  refine PySem.W.callWith_K0 I.kIn kC ?_
  show wpAny _ _ (call (.ref C) []) _ _ _
  obtain ⟨bm, N, nm, qn, bs, hdct, sn, sub, ab, col, dd, k0, k1, k2, k3, k5, mN, hC, hN, hni, T⟩ := exc_obj I.kIn q
  obtain ⟨hp1, g1, d1, tk1, os1⟩ := s
  refine wpAny_call_exc_subT F T hC hN hni (fun h' e hm => ?_) (Nat.zero_le _)
  exact mk_of I hm r h (I.hok.gone hm.new)
end
/-- what is known of an own exception's class -/
structure ErrC (K : PySem.W.Frag) (mg : Str → Option Value) (x : Str) : Prop where
  at_ : ∃ (C : Addr) (B newId initId : String) (bmB : List Value), mg x = some (.ref C) ∧ PySem.W.keepIn K (.ref C) = true ∧ ExcBaseFacts B newId initId bmB ∧ PySem.W.excIn K C bmB newId = true ∧
    PySem.W.subIn K (.ref C) (.type "BaseException") = some true ∧ PySem.W.typeIn K (.ref C) = some (.type "type")
section
variable {X : Cx}
def sRaise (c : Str) : MS := fun s h => .ex c s h
theorem ds_raise {x : Str} {p pos pos' : Pos} (hc : X.calm = true) (E : ErrC X.K X.mg x) (hg : Gl X x) (hdb : (x == ("__debug__" : Str)) = false := by decide) : DS X (.Raise (some (.Call (.Name x p) [] [] pos)) none pos') (sRaise x) := fun W tk => by
  obtain ⟨C, B, newId, initId, bmB, e1, e2, e3, e4, e5, e6⟩ := E.at_
  exact PS.mono (ps_raise hc tk (pmk_own0 e3 e4 e1 e2 (raises_own e5 e6) hg hdb)) fun D σ H ⟨α, iσ, ih, h, s, g⟩ => g C α σ H e1 Ext.refl h s
end
/-! ### xs.count(flag) -/
section
variable {X : Cx}
def rCntF (K : PySem.W.Frag) : V → List V → Hp → VK → Prop := fun x xs H Q => ∃ (p : Addr) (ys : List V) (y : V), x = .ref p ∧ xs = [y] ∧ SqL K H p ys ∧ flatV y = true ∧ ys.all flatV = true ∧ Q (.int (ys.countP (fun z => eqV z y) : Nat)) H
theorem count_eqU {y : V} : ∀ {ys : List V} {us : List Value}, Vals ys us → ys.all flatV = true → us.countP (eqU y) = ys.countP fun z => eqV z y
  | _, _, .nil, _ => rfl
  | z :: ys, u :: us, .cons r rs, f => by
    rw [List.all_cons, Bool.and_eq_true] at f
    rw [List.countP_cons, List.countP_cons, count_eqU rs f.2, eqU_of r f.1]
theorem mt_countF : MtR X "list.count" (rCntF X.K) := by
  intro pins s σ H x xs v us Q I rx rxs h
  obtain ⟨p, ys, y, rfl, rfl, hs, fy, fys, q⟩ := h
  cases rx
  obtain ⟨u, rfl, ru⟩ := rxs.one
  obtain ⟨its, rv, ⟨⟨cls, dd, data, sl⟩, n, ho, hc, hdn, hd⟩, hlen⟩ := I.list hs
  simp only at hc hd
  subst hc hd
  refine call_meets PySem.F.slot_list_count ⟨_, ho, rfl⟩ PySem.F.entry_list_count (PySem.F.args_list_count_2 _ _)
    (SeqAt.list_countAt p its.toArray n dd sl u (eqU y)) ⟨ho, fun w hw => mem_eqAt ru fy rv fys w (by simpa using hw), ?_⟩
  have ec : its.toArray.toList.countP (eqU y) = ys.countP fun z => eqV z y := count_eqU rv fys
  refine ⟨.int (ys.countP (fun z => eqV z y) : Nat), H, I.tok _, ⟨s.toks, ?_⟩, q⟩
  show Value.int ((its.toArray.toList.countP (eqU y) : Nat) : Int) s.toks = Value.int ((ys.countP (fun z => eqV z y) : Nat) : Int) s.toks
  rw [ec]
end
/-! ### the laws' own _law_word -/
def cdOf (bs : List Bool) : Int := if bs.countP (fun b => b == true) = 1 then (bs.findIdx id : Nat) else -1
theorem eqV_bl (b : Bool) : eqV (.bl b) (.bl true) = (b == true) := rfl
theorem flat_bls (bs : List Bool) : (bs.map V.bl).all flatV = true := by simp [List.all_map, flatV]
theorem cnt_bls (bs : List Bool) : (bs.map V.bl).countP (fun z => eqV z (.bl true)) = bs.countP (fun b => b == true) := by
  rw [List.countP_map]
  rfl
theorem suite_word {Xw : Cx} {a : Addr} {oe : Obj} {C : Addr} {pn : List (Addr × Obj)} {es : List Expr} {bs : List Bool} {q1 q2 q3 q4 q5 q6 q7 q8 q9 q10 q11 q12 q13 q14 q15 q16 q17 q18 q19 q20 q21 q22 : Pos} {j1 j2 j3 j4 : Nat}
    (hN : Xw.N.Nodup) (n1 : Xw.N[1]? = some ("error" : Str)) (n2 : Xw.N[2]? = some ("flags" : Str)) (hp1 : (q5.endLine == q7.line) = true) (hp2 : (q16.endLine == q18.line) = true) (v1 : Vis Xw.env.scope "error") (v2 : Vis Xw.env.scope "flags") (l2 : Loc Xw.env.scope "flags") (lk2 : Xw.env.scope.names.lookup ("flags" : Str) = some NameKind.local)
    (hu : (Xw.suite a ((a, oe) :: pn)).A.units + 64 < cLine)
    (gi : Gl Xw "isinstance") (mi : Xw.mg "isinstance" = none) (gv : Gl Xw "ValueError") (mv : Xw.mg "ValueError" = none)
    (EC : ExcC Xw.K C) (hz : Zc (.ref C) none oe) (hf : ∃ vs, oe.data = .fields vs) (hv : PySem.W.kitOne Xw.K (.ref C) (.type "ValueError") = some true) (hb : bs.length ≤ sizeLine)
    (sw : swapsWith (.List es q1) (some (.Name "flags" q2)) q3.line (Xw.suite a ((a, oe) :: pn)).env = pure false)
    (hfl : PA (Xw.suite a ((a, oe) :: pn)) es (fun σ H Q => σ[1]? = some (some (.ref a)) ∧ Q (bs.map V.bl) H)) :
    PSs (Xw.suite a ((a, oe) :: pn)) [.Assign [.Name "flags" q2] (.List es q1) q3,
      .Return (some (.IfExp (.BoolOp .And [.Compare (.Call (.Attribute (.Name "flags" q4) "count" q5) [.Constant (.bool true) j1 q6] [] q7) [.Eq] [.Constant (.int 1) j2 q8] q9,
        .Call (.Name "isinstance" q10) [.Name "error" q11, .Name "ValueError" q12] [] q13] q14) (.Call (.Attribute (.Name "flags" q15) "index" q16) [.Constant (.bool true) j3 q17] [] q18) (.UnaryOp .USub (.Constant (.int 1) j4 q19) q20) q21)) q22]
      (fun D σ H => σ[1]? = some (some (.ref a)) ∧ 2 < σ.length ∧ ∀ p, H p = none → D.rt (.int (cdOf bs)) (upd H p (.lst (bs.map V.bl)))) := by
  refine PSs.mono (pss_cons (ps_set (i := 2) hN n2 l2 (pe_lst hfl) sw (.inr lk2)) (pss_one (ps_ret (pe_ifExp (PW.pt (pw_and (pt_cmpR op_eq (pe_bm PySem.F.plainAttrs_list PySem.F.slot_list_count PySem.F.type_list_count mt_countF (pv 2 n2 v2) (pa_cons pe_bl pa_nil) rfl rfl hp1) pe_int (nomark _))
    (pw_and1 (pt_val (pe_callB (call_isE EC hz hf) gi mi boot_isinstance (pa_cons (pv 1 n1 v1) (pa_cons (pe_bltn gv mv (by rfl) (show RelV (V.ty "ValueError") (.type "ValueError") from rfl)) pa_nil)))))))
    (pe_bm PySem.F.plainAttrs_list PySem.F.slot_list_index PySem.F.type_list_index mt_index (pv 2 n2 v2) (pa_cons pe_bl pa_nil) rfl rfl hp2) (pe_un un_neg pe_int))))) fun D σ H ⟨h1, h2, h3⟩ => ?_
  refine ⟨h1, by rw [List.length_map]; exact hb, fun p n => ?_⟩
  obtain ⟨H2, eH⟩ : ∃ H2, H2 = upd H p (.lst (bs.map V.bl)) := ⟨_, rfl⟩
  have hr := h3 p n
  rw [← eH] at hr ⊢
  have at2 : (σ.set 2 (some (V.ref p)))[2]? = some (some (.ref p)) := by rw [List.getElem?_set_self h2]
  have at1 : (σ.set 2 (some (V.ref p)))[1]? = some (some (.ref a)) := by rw [List.getElem?_set_ne (by decide)]; exact h1
  have sq : SqL Xw.K H2 p (bs.map V.bl) := .inl (.inl (by rw [eH]; exact upd_same))
  have fl := flat_bls bs
  refine ⟨.ref p, at2, .inl ⟨rfl, _, sq⟩, p, bs.map V.bl, .bl true, rfl, rfl, sq, rfl, fl, ?_⟩
  rw [cnt_bls]
  refine ⟨rfl, ?_⟩
  by_cases hc : bs.countP (fun b => b == true) = 1
  · have ed : decide (V.int ((bs.countP (fun b => b == true) : Nat) : Int) = V.int 1) = true := by rw [hc]; rfl
    rw [ed]
    refine ⟨true, rfl, ?_⟩
    dsimp only
    rw [if_pos rfl]
    refine ⟨.ref a, at1, .ty "ValueError", .type "ValueError", true, rfl, fun u e => e, hv, true, rfl, ?_⟩
    dsimp only
    rw [if_pos rfl]
    have ci : cdOf bs = ((bs.findIdx id : Nat) : Int) := if_pos hc
    rw [ci] at hr
    have hlt : bs.findIdx id < bs.length := by
      rw [List.findIdx_lt_length]
      have : 0 < bs.countP (fun b => b == true) := by omega
      obtain ⟨b, hb1, hb2⟩ := List.countP_pos_iff.mp this
      exact ⟨b, hb1, by simpa using hb2⟩
    refine ⟨.ref p, at2, .inl ⟨rfl, _, sq⟩, p, bs.map V.bl, .bl true, bs.findIdx id, .bl (bs[bs.findIdx id]), rfl, rfl, sq, rfl, fl, ?_, ?_, ?_, hr⟩
    · rw [List.getElem?_map, List.getElem?_eq_getElem hlt]
      rfl
    · have := List.findIdx_getElem (w := hlt)
      rw [eqV_bl]
      simpa using this
    · intro m z hm e
      rw [List.getElem?_map, List.getElem?_eq_getElem (by omega)] at e
      cases e
      have := List.not_of_lt_findIdx hm
      rw [eqV_bl]
      simpa using this
  · have ed : decide (V.int ((bs.countP (fun b => b == true) : Nat) : Int) = V.int 1) = false := by
      refine decide_eq_false fun e => hc ?_
      have := V.int.inj e
      omega
    rw [ed]
    refine ⟨false, rfl, ?_⟩
    dsimp only
    rw [if_neg Bool.false_ne_true, if_neg Bool.false_ne_true]
    have ci : cdOf bs = -1 := if_neg hc
    rw [ci] at hr
    exact ⟨1, rfl, hr⟩
/-- the flags -/
theorem fl_nil {Xs : Cx} {a : Addr} : PA Xs [] (fun σ H Q => σ[1]? = some (some (.ref a)) ∧ Q (([] : List Bool).map V.bl) H) := PA.mono pa_nil fun σ H Q ⟨_, q⟩ => q
theorem fl_cons {Xw : Cx} {a : Addr} {oe : Obj} {C Cj : Addr} {pn : List (Addr × Obj)} {es : List Expr} {bs : List Bool} {b : Bool} {y : Str} {p1 p2 p3 p4 : Pos}
    (n1 : Xw.N[1]? = some ("error" : Str)) (v1 : Vis Xw.env.scope "error") (gi : Gl Xw "isinstance") (mi : Xw.mg "isinstance" = none) (EC : ExcC Xw.K C) (hz : Zc (.ref C) none oe) (hf : ∃ vs, oe.data = .fields vs)
    (gy : Gl Xw y) (my : Xw.mg y = some (.ref Cj)) (kit : PySem.W.kitOne Xw.K (.ref C) (.ref Cj) = some b) (h : PA (Xw.suite a ((a, oe) :: pn)) es (fun σ H Q => σ[1]? = some (some (.ref a)) ∧ Q (bs.map V.bl) H))
    (hdb : (y == ("__debug__" : Str)) = false := by decide)
    (hs : starEach (.Call (.Name "isinstance" p1) [.Name "error" p2, .Name y p3] [] p4 :: es) (Xw.suite a ((a, oe) :: pn)).env = (false, eval (.Call (.Name "isinstance" p1) [.Name "error" p2, .Name y p3] [] p4) (Xw.suite a ((a, oe) :: pn)).env) :: starEach es (Xw.suite a ((a, oe) :: pn)).env := by rfl) :
    PA (Xw.suite a ((a, oe) :: pn)) (.Call (.Name "isinstance" p1) [.Name "error" p2, .Name y p3] [] p4 :: es) (fun σ H Q => σ[1]? = some (some (.ref a)) ∧ Q ((b :: bs).map V.bl) H) :=
  PA.mono (pa_cons (pe_callB (call_isE EC hz hf) gi mi boot_isinstance (pa_cons (pv 1 n1 v1) (pa_cons (pe_glob gy my (show RelV (.ref Cj) (.ref Cj) from rfl) hdb) pa_nil))) h hs)
    fun σ H Q ⟨h1, q⟩ => ⟨.ref a, h1, .ref Cj, .ref Cj, b, rfl, fun u e => e, kit, h1, q⟩
/-- what is known of a class that _law_word meets: the code is what is handed back -/
structure WordC (K : PySem.W.Frag) (CP C : Addr) : Prop where
  ec : ExcC K C
  ex : PySem.W.exmOne K (.ref C) (.ref CP) = some true
  ve : PySem.W.kitOne K (.ref C) (.type "ValueError") = some true
/-- _law_word: 9 where nothing is raised, else the code of the class -/
def TTw (K : PySem.W.Frag) (cd : Addr → Int) (ok : Addr → Prop) : (XK → Hp → VK → Prop) → Hp → VK → Prop := fun tl H Q =>
  tl (fun cls d H' => ∃ C, cls = .ref C ∧ d = none ∧ ok C ∧ ∀ p us, H' p = none → Q (.int (cd C)) (upd H' p (.lst us))) H (fun _ H' => Q (.int 9) H')
abbrev wCx (X : Cx) (Ng : List Str) (x : Str) (sg : Scope) (g : Addr) (cdg : Value) (s : Shared) (H : Hp) : Cx := cxOf C8.CX0 X.prog X.w X.K X.mg X.base Ng x sg g cdg X.A X.stack s H C8.E0
theorem word_gives {X : Cx} {CP g : Addr} {cd : Addr → Int} {ok : Addr → Prop} {sg : Scope} {cdg : Value} {x q : Str} {es : List Expr} {b0 b1 : Stmt} {p1 p2 p3 p4 p7 p8 p9 p10 : Pos} {j9 : Nat}
    (hge : sg.names.lookup ("PaperError" : Str) = some .globalImplicit) (hme : X.mg "PaperError" = some (.ref CP)) (hN : (["call", "error", "flags"] : List Str).Nodup) (hln : ∀ s H, (wCx X ["call", "error", "flags"] x sg g cdg s H).nox.env.kindOf ("error" : Str) = some .local)
    (hw : ∀ C, ok C → WordC X.K CP C)
    (hsu : ∀ (s : Shared) (H : Hp) (C : Addr) (a : Addr) (oe : Obj) (pn : List (Addr × Obj)), ok C → Zc (.ref C) none oe → (∃ vs, oe.data = .fields vs) →
      PSs ((wCx X ["call", "error", "flags"] x sg g cdg s H).nox.suite a ((a, oe) :: pn)) [b0, b1] (fun D σ H => σ[1]? = some (some (.ref a)) ∧ 2 < σ.length ∧ ∀ p us, H p = none → D.rt (.int (cd C)) (upd H p (.lst us)))) :
    GivesTo X ["call", "error", "flags"] x sg g cdg [.Try [.Expr (.Call (.Name "call" p1) [] [] p2) p3] [.ExceptHandler (some (.Name "PaperError" p4)) (some "error") [b0, b1] p7] [] [] p8, .Return (some (.Constant (.int 9) j9 p9)) p10] "call" q (TTw X.K cd ok) := by
  intro f c' s H Q tl act hc h
  have hgl : Gl (wCx X ["call", "error", "flags"] x sg g cdg s H).nox "PaperError" := hge
  refine ⟨_, pss_cons (ps_try_as (X := (wCx X ["call", "error", "flags"] x sg g cdg s H).nox) (i := 1) (c := .ref CP) (Wout := fun _ _ _ _ => False)
      (tb := fun W D σ H => ∃ Ech : XK, (∀ cls d σ' H', Ech cls d H' → W cls d σ' H') ∧ σ[0]? = some (some (.ref f)) ∧ H c' = some (CodeO c' q) ∧ tl Ech H (fun _ H' => D.nx σ H'))
      (ts := fun a cls d D σ H => ∃ C, cls = .ref C ∧ d = none ∧ ok C ∧ (∃ σ0 : L2.St, σ = σ0.set 1 (some (.ref a))) ∧ ∀ p us, H p = none → D.rt (.int (cd C)) (upd H p (.lst us)))
      rfl rfl hN rfl (hln s H) ⟨hgl, by decide, .inl hme⟩ LamX.takes0 (fun W pn xe tk _ => ?_) (fun a oe cls d pn hz hf => ?_)) (pss_one (ps_ret pe_int)), ?_⟩
  · refine ⟨fun pins s' σ H' D I ⟨Ech, hW, h1, h2, h3⟩ => ?_⟩
    exact (pss_one (ps_expr (act W pn xe Ech p1 p2 tk hW))).run pins s' σ H' D I ⟨h1, h2, h3⟩
  · refine ⟨fun pins s' σ H' D I ⟨C, e1, e2, hk, ⟨σ0, e3⟩, h3⟩ => ?_⟩
    subst e1 e2
    have hl : σ.length = 3 := I.len
    refine (hsu s H C a oe pn hk hz hf).run pins s' σ H' D I ⟨?_, by omega, h3⟩
    rw [e3] at hl ⊢
    rw [List.length_set] at hl
    rw [List.getElem?_set_self (by omega)]
  · refine ⟨fun cls d H' => ∃ C, cls = .ref C ∧ d = none ∧ ok C ∧ ∀ p us, H' p = none → Q (.int (cd C)) (upd H' p (.lst us)), fun cls d σ' H' ⟨C, e1, e2, hk, hq⟩ => ?_, rfl, hc, h⟩
    refine ⟨true, by rw [e1]; exact (hw C hk).ex, fun _ a _ => ⟨C, e1, e2, hk, ⟨_, rfl⟩, hq⟩, fun z => by cases z⟩
end Dn

set_option Elab.async false
set_option linter.all false
set_option maxRecDepth 100000
set_option maxHeartbeats 4000000
/-! _law_word(lambda: ..) -/
namespace Dn
open PySem PySem.Spec PyProof.Rows L2 LamX
def tabsOf (ih : IHp) : List (Addr × Str) := ih.filterMap fun o => match o with
  | .tab P q => some (P, q)
  | _ => none
theorem mem_tabs {ih : IHp} {P : Addr} {q : Str} : (P, q) ∈ tabsOf ih ↔ IO.tab P q ∈ ih := by
  unfold tabsOf
  rw [List.mem_filterMap]
  constructor
  · rintro ⟨o, h1, h2⟩
    cases o with
    | lst ds => cases h2
    | dic ks ds => cases h2
    | tab P' q' => cases h2; exact h1
  · intro h
    exact ⟨_, h, rfl⟩
section
variable {K : PySem.W.Frag} {α : Al} {H H1 : Hp} {ih : IHp}
theorem RH.tab (h : RH K α H ih) {n : Nat} {P : Addr} {q : Str} (e : ih[n]? = some (.tab P q)) : TabS H P q := by
  obtain ⟨a, ho, e1, e2, e3⟩ := h.ob n _ e
  cases ho with
  | tbl ps =>
    obtain ⟨ea, t, c⟩ := e3
    subst ea
    exact ⟨ps, e2, t, fun pos cv hc => let ⟨c', h1, _, h3⟩ := c pos cv hc; ⟨c', h1, h3⟩⟩
  | _ => exact False.elim e3
theorem RH.tabs (h : RH K α H ih) : Tabs (tabsOf ih) H := fun ⟨P, q⟩ hp => by
  obtain ⟨n, hn, e⟩ := List.getElem_of_mem (mem_tabs.mp hp)
  exact h.tab (n := n) (by rw [List.getElem?_eq_getElem hn, e])
theorem Ext.lam (x : ExtN H H1) : Ext α H α H1 :=
  ⟨List.prefix_refl _, fun _ _ _ _ z => z, fun _ z => z, fun a u e nt m => ⟨x a u e nt, m⟩, fun a _ ⟨u, e, ht⟩ => ⟨u, x a u e ht, ht⟩⟩
theorem RH.lam (h : RH K α H ih) (x : ExtN H H1) (t : Tabs (tabsOf ih) H1) : RH K α H1 ih := by
  have mp : Mp K α H α H1 := (Ext.lam x).mp h
  refine ⟨h.len, h.nd, fun n o e => ?_, h.dj, fun a m => ?_⟩
  · obtain ⟨a, ho, e1, e2, e3⟩ := h.ob n o e
    cases o with
    | lst ds =>
      obtain ⟨vs, rfl, r⟩ := e3.lst
      exact ⟨a, .lst vs, e1, x a _ e2 (fun _ z => by cases z), r.mp mp⟩
    | tab P q =>
      obtain ⟨ps, t1, t2, t3⟩ := t (P, q) (mem_tabs.mpr (List.mem_of_getElem? e))
      have ea : a = P := by cases ho <;> first | exact e3.1 | exact False.elim e3
      subst ea
      refine ⟨a, .tbl ps, e1, t1, rfl, t2, fun pos cv hc => ?_⟩
      obtain ⟨c, c1, c2⟩ := t3 pos cv hc
      refine ⟨c, c1, fun mc => ?_, c2⟩
      obtain ⟨k, o', ho', _, d2, d3, d4⟩ := h.at mc
      cases o' with
      | lst ds =>
        obtain ⟨vs, rfl, _⟩ := d4.lst
        have := x c _ d3 (fun _ z => by cases z)
        rw [c2] at this
        cases this
      | dic ks ds =>
        obtain ⟨kvs, rfl, _⟩ := d4.dic
        have := x c _ d3 (fun _ z => by cases z)
        rw [c2] at this
        cases this
      | tab P' q' =>
        obtain ⟨ps', u1, _, _⟩ := t (P', q') (mem_tabs.mpr (List.mem_of_getElem? d2))
        have ec : c = P' := by cases ho' <;> first | exact d4.1 | exact False.elim d4
        subst ec
        rw [c2] at u1
        cases u1
    | dic ks ds =>
      obtain ⟨kvs, rfl, e, r⟩ := e3.dic
      exact ⟨a, .dK kvs, e1, x a _ e2 (fun _ z => by cases z), e, r.mp mp⟩
  · obtain ⟨vs, e⟩ := h.hl a m
    exact ⟨vs, x a _ e (fun _ z => by cases z)⟩
theorem RH.tabs_uniq (h : RH K α H ih) {P : Addr} {q : Str} (m : (P, q) ∈ tabsOf ih) : ∀ p ∈ tabsOf ih, p.1 = P → p.2 = q := fun ⟨P', q'⟩ hp ep => by
  dsimp only at ep
  subst ep
  obtain ⟨n, hn, e⟩ := List.getElem_of_mem (mem_tabs.mp m)
  obtain ⟨k, hk, e'⟩ := List.getElem_of_mem (mem_tabs.mp hp)
  obtain ⟨a, ho, e1, e2, e3⟩ := h.ob n _ (by rw [List.getElem?_eq_getElem hn, e])
  obtain ⟨b, ho', f1, f2, f3⟩ := h.ob k _ (by rw [List.getElem?_eq_getElem hk, e'])
  have ea : a = P' := by cases ho <;> first | exact e3.1 | exact False.elim e3
  have eb : b = P' := by cases ho' <;> first | exact f3.1 | exact False.elim f3
  subst ea
  subst eb
  have nk : n = k := (List.getElem?_inj (by exact (List.getElem?_eq_some_iff.mp e1).1) h.nd).mp (e1.trans f1.symm)
  subst nk
  rw [e] at e'
  cases e'
  rfl
end
def isTab (h : IHp) (n : Nat) (P : Addr) (q : Str) : Bool := match h[n]? with
  | some (.tab P' q') => decide (P' = P) && decide (q' = q)
  | _ => false
theorem isTab_get {h : IHp} {n : Nat} {P : Addr} {q : Str} (e : isTab h n P q = true) : h[n]? = some (.tab P q) := by
  unfold isTab at e
  split at e
  · next P' q' he =>
    rw [Bool.and_eq_true] at e
    rw [he, of_decide_eq_true e.1, of_decide_eq_true e.2]
  · cases e
/-- _law_word(lambda: m): 9, or the code of what is raised -/
def mLam (n : Nat) (P : Addr) (q : Str) (cdn : Str → Option Int) (m : ME) : ME := fun s h => if isTab h n P q = true then
    match m s h with
    | .ok _ h' => .ok (.int 9) h'
    | .ex c h' => R.opt ((cdn c).map D.int) h'
    | .bad => .bad
  else .bad
theorem de_lam {X : Cx} {cd : Addr → Int} {ok : Addr → Prop} {x a : Str} {g c P : Addr} {k n : Nat} {pg : Arguments} {bg : List Stmt} {sg : Scope} {dV kV doc pm cdv ct oc : Value} {an od : Option Addr} {osl : Array (Option Value)} {Ng : List Str}
    {params : Arguments} {body : Expr} {scope : Scope} {m : ME} {cdn : Str → Option Int} {p lpos pos : Pos} (hg : Gl X x) (hm : X.mg x = some (.ref g)) (hk : PySem.W.keepIn X.K (.ref g) = true)
    (lk : X.K.lookup g = some ⟨oc, od, .func (PySem.W.fnOf x x pg bg sg dV kV doc pm an cdv ct), osl⟩) (hcg : PySem.W.codeIn X.K cdv x = true) (hb : L2.Binds X.K (PySem.W.fnOf x x pg bg sg dV kV doc pm an cdv ct) [a] []) (Sg : FnScope Ng [a] sg) (hNg : Ng[0]? = some a) (hva : Vis sg a)
    (hG : GivesTo X Ng x sg g cdv bg a (X.env.qual ++ "<lambda>") (TTw X.K cd ok)) (hcd : ∀ y i C, cdn y = some i → X.mg y = some (.ref C) → ok C ∧ cd C = i)
    (TB : TabB X.base X.mg c P) (hcode : X.env.code = .ref c) (hr : Room (k + 2) X.A) (L : LamS X.env.scope scope) (hdef : defaultsOf params X.env = ([], []))
    (hbind : ∀ (q : Str) (cl : List (Str × Addr)) (pm cv ctv : Value), bindArgs (PySem.W.kla_fn "<lambda>" q params body scope cl pm cv ctv) ⟨[], []⟩ = pure [])
    (hbody : ∀ (A : Around) (outer : List Env) (s : Shared) (H : Hp) (E : XK) (f c' : Addr), Room k (A.deeper (lamEnv X scope s.heap.objs.size f c')) → DE (lamCx X A outer s H E scope f c') body m)
    (hdb : (x == ("__debug__" : Str)) = false := by decide) (hd : (a == ("__debug__" : Str)) = false := by decide) (hcd2 : (a == ("__classdict__" : Str)) = false := by decide) :
    DE X (.Call (.Name x p) [.Lambda params body scope lpos] [] pos) (mLam n P (X.env.qual ++ "<lambda>") cdn m) := fun W tk => by
  refine ⟨fun pins s σ H Q I ⟨α, iσ, ih, h, hs, gg⟩ => ?_⟩
  unfold mLam at gg
  split at gg
  · next ht =>
    have htg := isTab_get ht
    have hmT : (P, X.env.qual ++ "<lambda>") ∈ tabsOf ih := mem_tabs.mpr (List.mem_of_getElem? htg)
    refine (pe_lamcall (T := tabsOf ih) (TT := TTw X.K cd ok) (t := fun E => rdE X (fun cls d _ H => E cls d H) m) hg hm hk lk hcg hb Sg hNg hva hG TB hcode hmT (h.tabs_uniq hmT) hr L hdef hbind (fun A outer s H E f c' hr' => hbody A outer s H E f c' hr' _ (L2.takes_of rfl rfl rfl rfl)) hdb hd hcd2).run pins s σ H Q I
      ⟨h.tabs, fun H1 xN t1 => ⟨α, iσ, ih, h.lam xN t1, hs.ext h (Ext.lam xN), ?_⟩⟩
    cases em : m iσ ih with
    | ok d h' =>
      rw [em] at gg
      exact fun α' v H' x hh _ => gg α' (.int 9) H' ((Ext.lam xN).trans x) hh (.int 9)
    | ex y h' =>
      rw [em] at gg
      dsimp only at gg
      intro C α' H' hC x hh
      cases ec : cdn y with
      | none => rw [ec] at gg; exact gg.elim
      | some i =>
        rw [ec] at gg
        obtain ⟨o1, o2⟩ := hcd y i C ec hC
        exact ⟨C, rfl, rfl, o1, fun p us nn => by
          rw [o2]
          exact gg α' (.int i) _ (((Ext.lam xN).trans x).trans (Ext.new nn)) (hh.new nn) (.int i)⟩
    | bad => rw [em] at gg; exact gg.elim
  · exact gg.elim
end Dn

set_option Elab.async false
set_option linter.all false
set_option maxRecDepth 100000
set_option maxHeartbeats 4000000
/-! the end of a law whose defs make lambdas: the tables of code objects are told of from the start -/
namespace Dn
open PySem PySem.Spec PyProof.Rows L2 LamX
/-- what the tables of a law are: cs, the code objects with their tables -/
structure TabsAt (K : PySem.W.Frag) (h : Heap) (cs : List (Addr × Addr)) : Prop where
  at_ : ∀ p ∈ cs, h.get? p.2 = some { cls := .none, data := .fields #[] }
  no : ∀ p ∈ cs, K.lookup p.2 = none
  code : ∀ p ∈ cs, PySem.W.CodeHd h p.1 p.2
def tabSet (cs : List (Addr × Addr)) : List Addr := cs.map (·.2)
theorem mem_tabSet {cs : List (Addr × Addr)} {p : Addr × Addr} (h : p ∈ cs) : p.2 ∈ tabSet cs := List.mem_map.mpr ⟨p, h, rfl⟩
/-- the heap that the law is told of: the script and the tables -/
structure Start (K : PySem.W.Frag) (H : Hp) (cs : List (Addr × Addr)) (a : Addr) (ns : List Int) : Prop where
  only : ∀ b, H b = none ∨ b ∈ tabSet cs ∨ ∃ o xs, H b = some (.frz o (.lst xs))
  tabs : ∀ p ∈ cs, H p.2 = some (.tbl #[])
  seq : SqL K H a (ns.map V.int)
section
variable {P : Program} {w : World} {K : PySem.W.Frag} {mg mb : Str → Option Value} {a : Addr} {cs : List (Addr × Addr)} {s₁ : Shared} {vs : List Value} {ns : List Int} {H : Hp}
/-- an object of another make than the script and the tables is not told of -/
theorem not_told (tb : TabsAt K s₁.heap cs) (ha : s₁.heap.get? a = some { cls := .type "list", data := .seq vs.toArray }) (hA : ∀ b, H b ≠ none → b = a ∨ b ∈ tabSet cs) {b : Addr} {o : Obj} (e : s₁.heap.get? b = some o)
    (h1 : ∀ us n, o.data ≠ .seq us n) (h2 : o.data ≠ .fields #[]) : H b = none := by
  by_cases hn : H b = none
  · exact hn
  · exfalso
    rcases hA b hn with e1 | e1
    · subst e1
      rw [ha] at e
      cases e
      exact h1 _ _ rfl
    · obtain ⟨p, hp, rfl⟩ := List.mem_map.mp e1
      rw [tb.at_ p hp] at e
      cases e
      exact h2 rfl
theorem FnG.law_atT {fb : Bool} {k : Nat} {fa : Addr} {fd : FuncData} {x : Str} {sp : Sp}
    (KX : K.In s₁.heap) (hns : s₁.heap.Ns mainGlobals mg) (hb : s₁.heap.Ns builtinsNs mb) (hbb : ∀ x : Str, x ≠ "__name__" → mb x = bootBuiltins x) (hlim : s₁.heap.NoLimit) (hg : s₁.gens = #[]) (tb : TabsAt K s₁.heap cs)
    (hbm : ∃ (bm : Addr) (ob : Obj), mg "__builtins__" = some (.ref bm) ∧ bm ≠ builtinsNs ∧ s₁.heap.get? bm = some ob ∧ ob.cls = .type "module" ∧ ob.dict = some builtinsNs ∧ ob.data = .plain)
    (ha : s₁.heap.get? a = some { cls := .type "list", data := .seq vs.toArray }) (hr : Room k callerA)
    (F : ∀ base : Heap, K.In base → base.Ns mainGlobals mg → (∀ p ∈ cs, TabB base mg p.1 p.2) → FnG fb P w K mg base k fa fd [x] sp) (hbind : ∀ (s : Shared) (u : Value), BindsTo s fd ⟨[u], []⟩ [(x, u)])
    (S : Start K H cs a ns) (hok : HOk P w H s₁.heap) (hA : ∀ b, H b ≠ none → b = a ∨ b ∈ tabSet cs) (hK : H a ≠ none → K.lookup a = none) (hsp : sp [.ref a] H (fun v _ => v = .bl true) fun _ _ _ => False) :
    codeAny (model P w) callerA (.call (.ref fa) ⟨[.ref a], []⟩) (fun r s' => r = .ok (.ret (.bool true)) ∧ OldK s₁.heap s'.heap ∧ s'.os = s₁.os ∧ AllBare s'.gens) s₁ := by
  have told := fun {b : Addr} {o : Obj} => not_told (b := b) (o := o) tb ha hA
  have toldN : ∀ {b : Addr} {m : Str → Option Value}, s₁.heap.Ns b m → H b = none := fun {b m} ⟨o, es, ep, e, d, r⟩ => told e (fun us n z => by rw [d] at z; cases z) fun z => by rw [d] at z; cases z
  have nsK : ∀ {b : Addr} {m : Str → Option Value}, s₁.heap.Ns b m → (hidT s₁.heap H).Ns b m := fun {b m} hN => let n := toldN hN; let ⟨o, es, ep, e, d, r⟩ := hN; ⟨o, es, ep, hidT_get e n, d, r⟩
  have hKb : K.In (hidT s₁.heap H) := fun b o e => hidT_get (KX b o e) (by
    by_cases hn : H b = none
    · exact hn
    · exfalso
      rcases hA b hn with e1 | e1
      · subst e1
        rw [hK hn] at e
        cases e
      · obtain ⟨p, hp, rfl⟩ := List.mem_map.mp e1
        rw [tb.no p hp] at e
        cases e)
  have hM : Mod K mg (hidT s₁.heap H) := ⟨hKb, nsK hns, ⟨mb, nsK hb, hbb⟩, let ⟨mc, h1, h2⟩ := hlim; ⟨mc, nsK h1, h2⟩⟩
  have nil_no : ∀ b : Addr, b ∉ frs ([] : List Env) := fun b z => by cases (show b ∈ ([] : List Addr) from z)
  have e0 : Env0 P w K mg (hidT s₁.heap H) callerA [] s₁ H := ⟨rfl, hM, fun b o e => of_hidT e, Nat.le_of_eq (hidT_size _ _), trivial, fun b z => absurd z (nil_no b), hok, .of_eq hg⟩
  have TB : ∀ p ∈ cs, TabB (hidT s₁.heap H) mg p.1 p.2 := fun p hp => by
    have hT := tb.at_ p hp
    obtain ⟨og, eg, pg, g1, g2, _⟩ := hns
    refine ⟨?_, ?_, fun z => ?_⟩
    · obtain ⟨o, us, file, tf, flags, tg, inF, text, tt, e1, r1, r2, r3, rest⟩ := tb.code p hp
      exact ⟨o, us, file, tf, flags, tg, inF, text, tt, hidT_get e1 (told e1 (fun us' n z => by rw [r2] at z; cases z) fun z => by rw [r2] at z; cases z; simp at r3), r1, r2, r3, rest⟩
    · obtain ⟨bm, ob, b1, b2, b3, b4, b5, b6⟩ := hbm
      refine ⟨bm, ob, b1, b2, fun q => ?_, fun q => ?_, hidT_get b3 (told b3 (fun us n z => by rw [b6] at z; cases z) fun z => by rw [b6] at z; cases z), b4, b5, b6⟩
      · rw [q, g1] at b3
        cases b3
        rw [g2] at b6
        cases b6
      · rw [q, hT] at b3
        cases b3
        cases b6
    · rw [z, hT] at g1
      cases g1
      cases g2
  refine codeAny_mono ((F _ hKb (nsK hns) TB).go callerA [] s₁ H ⟨[.ref a], []⟩ [.ref a] [.ref a] _ _ (fun _ => rfl) hr e0 (hbind s₁ (.ref a)) (.cons rfl .nil) hsp) fun r s' h => ?_
  rcases r with e | (_ | _ | _ | _)
  · obtain ⟨_, _, _, _, _, _, _, _, _, _, _, _, z⟩ := (show L2.CX P w [] H s₁ _ e s' from h)
    exact z.elim
  case ok.ret u =>
    obtain ⟨v, H', os, bare, un, hok', r', q⟩ := h
    cases (show v = .bl true from q)
    cases (show u = Value.bool true from r')
    have old : ∀ b o, b ∉ tabSet cs → s₁.heap.get? b = some o → s'.heap.get? b = some o := fun b o nb e => by
      rcases S.only b with z | z | ⟨ob, xs, z⟩
      · exact un.keep b o e z (nil_no b) List.not_mem_nil
      · exact absurd z nb
      · have e1 := (hok b _ z).1
        have e2 := (hok' b _ (un.frzs b ob _ z)).1
        rw [e] at e1
        cases e1
        exact e2
    have more : ∀ p ∈ cs, ∃ m : Array Value, s'.heap.get? p.2 = some { cls := .none, data := .fields m } := fun p hp => by
      obtain ⟨m, z⟩ := un.tbls p.2 #[] (S.tabs p hp)
      exact ⟨_, hok' p.2 _ z⟩
    refine ⟨rfl, ⟨fun b o e => ?_, fun b o e => ?_⟩, os, bare⟩
    · by_cases m : b ∈ tabSet cs
      · obtain ⟨p, hp, rfl⟩ := List.mem_map.mp m
        obtain ⟨mm, hm⟩ := more p hp
        rw [tb.at_ p hp] at e
        cases e
        exact .inr (.inl ⟨((tb.code p hp).tab (tb.at_ p hp)).isCodeTable, rfl, #[], mm, rfl, by rw [Array.empty_append]; exact hm⟩)
      · exact .inl (old b o m e)
    · by_cases m : b ∈ tabSet cs
      · obtain ⟨p, hp, rfl⟩ := List.mem_map.mp m
        obtain ⟨mm, hm⟩ := more p hp
        exact ⟨_, hm⟩
      · exact ⟨o, old b o m e⟩
  all_goals exact False.elim h
theorem FnG.law_callT {fb : Bool} {k n : Nat} {fa : Addr} {fd : FuncData} {x : Str} {sp : Sp}
    (KX : K.In s₁.heap) (hns : s₁.heap.Ns mainGlobals mg) (hb : s₁.heap.Ns builtinsNs mb) (hbb : ∀ x : Str, x ≠ "__name__" → mb x = bootBuiltins x) (hlim : s₁.heap.NoLimit) (hg : s₁.gens = #[]) (tb : TabsAt K s₁.heap cs)
    (hbm : ∃ (bm : Addr) (ob : Obj), mg "__builtins__" = some (.ref bm) ∧ bm ≠ builtinsNs ∧ s₁.heap.get? bm = some ob ∧ ob.cls = .type "module" ∧ ob.dict = some builtinsNs ∧ ob.data = .plain)
    (ha : s₁.heap.get? a = some { cls := .type "list", data := .seq vs.toArray }) (hi : IntsAre vs ns) (hn : ns.length ≤ n) (hz : n ≤ sizeLine) (hr : Room k callerA)
    (F : ∀ base : Heap, K.In base → base.Ns mainGlobals mg → (∀ p ∈ cs, TabB base mg p.1 p.2) → FnG fb P w K mg base k fa fd [x] sp) (hbind : ∀ (s : Shared) (u : Value), BindsTo s fd ⟨[u], []⟩ [(x, u)])
    (hsp : ∀ (H : Hp) (a : Addr) (ns : List Int), ns.length ≤ n → Start K H cs a ns → sp [.ref a] H (fun v _ => v = .bl true) fun _ _ _ => False) :
    codeAny (model P w) callerA (.call (.ref fa) ⟨[.ref a], []⟩) (fun r s' => r = .ok (.ret (.bool true)) ∧ OldK s₁.heap s'.heap ∧ s'.os = s₁.os ∧ AllBare s'.gens) s₁ := by
  have rv := vals_ints hi
  have lz : ns.length ≤ sizeLine := Nat.le_trans hn hz
  have aT : a ∉ tabSet cs := fun z => by
    obtain ⟨p, hp, e⟩ := List.mem_map.mp z
    have q := tb.at_ p hp
    rw [e, ha] at q
    cases q
  have core := fun (H : Hp) (S : Start K H cs a ns) => FnG.law_atT (P := P) (w := w) (H := H) KX hns hb hbb hlim hg tb hbm ha hr F hbind S
  have tabOk : ∀ b, b ∈ tabSet cs → s₁.heap.get? b = some { cls := .none, data := .fields #[] } := fun b m => by
    obtain ⟨p, hp, rfl⟩ := List.mem_map.mp m
    exact tb.at_ p hp
  obtain ⟨T, hT⟩ : ∃ T : Hp, T = fun b => if b ∈ tabSet cs then some (.tbl #[]) else none := ⟨_, rfl⟩
  have T1 : ∀ b, b ∈ tabSet cs → T b = some (.tbl #[]) := fun b m => by rw [hT]; exact if_pos m
  have T0 : ∀ b, b ∉ tabSet cs → T b = none := fun b m => by rw [hT]; exact if_neg m
  cases hk : K.lookup a with
  | some o =>
    have e := KX a o hk
    rw [ha] at e
    cases e
    have S : Start K T cs a ns := ⟨fun b => by
      by_cases m : b ∈ tabSet cs
      · exact .inr (.inl m)
      · exact .inl (T0 b m), fun p hp => T1 _ (mem_tabSet hp), .inr ⟨_, vs.toArray, _, hk, rfl, rfl, rfl, by rw [List.size_toArray, hi.length]; exact lz, by simpa using rv⟩⟩
    refine core T S (fun b u z => ?_) (fun b z => ?_) (fun z => absurd (T0 a aT) z) (hsp T a ns hn S)
    · by_cases m : b ∈ tabSet cs
      · rw [T1 b m] at z
        cases z
        exact tabOk b m
      · rw [T0 b m] at z
        cases z
    · by_cases m : b ∈ tabSet cs
      · exact .inr m
      · exact absurd (T0 b m) z
  | none =>
    obtain ⟨U, hU⟩ : ∃ U : Hp, U = fun b => if b = a then some (.frz { cls := .type "list", data := .seq vs.toArray } (.lst (ns.map V.int))) else T b := ⟨_, rfl⟩
    have Ua : U a = some (.frz { cls := .type "list", data := .seq vs.toArray } (.lst (ns.map V.int))) := by rw [hU]; exact if_pos rfl
    have Ub : ∀ b, b ≠ a → U b = T b := fun b m => by rw [hU]; exact if_neg m
    have S : Start K U cs a ns := ⟨fun b => by
      by_cases e : b = a
      · subst e; exact .inr (.inr ⟨_, _, Ua⟩)
      · by_cases m : b ∈ tabSet cs
        · exact .inr (.inl m)
        · exact .inl ((Ub b e).trans (T0 b m)), fun p hp => (Ub _ fun e => aT (by rw [← e]; exact mem_tabSet hp)).trans (T1 _ (mem_tabSet hp)), .inl (.inr ⟨_, Ua⟩)⟩
    refine core U S (fun b u z => ?_) (fun b z => ?_) (fun _ => hk) (hsp U a ns hn S)
    · by_cases e : b = a
      · subst e
        rw [Ua] at z
        cases z
        exact ⟨ha, by rw [List.length_map]; exact lz, vs, _, rv, ha⟩
      · rw [Ub b e] at z
        by_cases m : b ∈ tabSet cs
        · rw [T1 b m] at z
          cases z
          exact tabOk b m
        · rw [T0 b m] at z
          cases z
    · by_cases e : b = a
      · exact .inl e
      · rw [Ub b e] at z
        by_cases m : b ∈ tabSet cs
        · exact .inr m
        · exact absurd (T0 b m) z
end
theorem walkGT {fb : Bool} {l : PySem.W.OpenLaw} {n k : Nat} {q : Program} {loose : List Str} {XP : (Str → Option Value) → Heap → Prop} {YP : World → Heap → Prop} {d : DefRec} {K : Params → PySem.W.Frag} {x : Str}
    (hn : l.most = some n) (hn2 : n ≤ sizeLine) (hdf : d.params.defaults = []) (hr : Room k callerA) (hY : ∀ (w : World) (h : Heap), YP w h → (K w.params).In h)
    (F : ∀ (w : World) (mg : Str → Option Value) (fa : Addr) (h : Heap), YP w h → (K w.params).In h → h.Ns mainGlobals mg → mg d.name = some (.ref fa) → ∃ (fd : FuncData) (cs : List (Addr × Addr)) (sp : Sp), TabsAt (K w.params) h cs ∧ (∀ (s : Shared) (u : Value), BindsTo s fd ⟨[u], []⟩ [(x, u)]) ∧
        (∀ (H : Hp) (a : Addr) (ns : List Int), ns.length ≤ n → Start (K w.params) H cs a ns → sp [.ref a] H (fun v _ => v = .bl true) fun _ _ _ => False) ∧
        ∀ base : Heap, (K w.params).In base → base.Ns mainGlobals mg → (∀ p ∈ cs, TabB base mg p.1 p.2) → FnG fb l.prog w (K w.params) mg base k fa fd [x] sp) : PySem.W.WalkO q loose XP YP l.row.toRowW d [] (fun f vs => PySem.call f vs) := by
  refine Att.attach_call hn hdf fun w s₀ s₁ mg mb fa o pm cd doc a vs ns G Y ho hd hcd hmg hobj hints hlen hg => ?_
  obtain ⟨fd, cs, sp, tb, hb, hsp, hF⟩ := F w mg fa _ Y (hY w _ Y) G.T.g hmg
  exact FnG.law_callT (hY w _ Y) G.T.g G.T.b G.T.builtins G.T.nolimit hg tb G.T.bmain hobj hints hlen hn2 hr hF hb hsp
/-- the law's promise, with tables -/
def spLawT (K : PySem.W.Frag) (n : Nat) (cs : List (Addr × Addr)) : Sp := fun vs H Q _ => ∃ (a : Addr) (ns : List Int), vs = [.ref a] ∧ Start K H cs a ns ∧ ns.length ≤ n ∧ ∀ H', Q (.bl true) H'
theorem law_impT {fb : Bool} {P : Program} {w : World} {K : PySem.W.Frag} {mg : Str → Option Value} {base : Heap} {k n : Nat} {f : Addr} {fd : FuncData} {ps : List Str} {m : MF} {cs : List (Addr × Addr)} (qs : List (Addr × Str)) (F : FnG fb P w K mg base k f fd ps (spD K mg 1 m))
    (hq : qs.map (·.1) = tabSet cs) (nd : (tabSet cs).Nodup)
    (h : ∀ ns : List Int, ns.length ≤ n → ∃ h, m [.scr (ns.map D.int)] (qs.map fun p => IO.tab p.1 p.2) = .ok (.bl true) h) : FnG fb P w K mg base k f fd ps (spLawT K n cs) := by
  refine F.imp fun vs H Q E ⟨a, ns, e, S, hl, q⟩ => ?_
  subst e
  obtain ⟨h', e⟩ := h ns hl
  have tabAt : ∀ b ∈ tabSet cs, H b = some (.tbl #[]) := fun b m => by
    obtain ⟨p, hp, rfl⟩ := List.mem_map.mp m
    exact S.tabs p hp
  refine ⟨rfl, ⟨tabSet cs, []⟩, [.scr (ns.map D.int)], qs.map fun p => IO.tab p.1 p.2, ?_, .cons (.scr ?_ (reps_int ns)) .nil, ?_⟩
  · refine ⟨?_, nd, fun n o e => ?_, (fun a h => by cases h), fun a h => by cases h⟩
    · show (tabSet cs).length = _
      rw [← hq, List.length_map, List.length_map]
    · rw [List.getElem?_map] at e
      cases ep : qs[n]? with
      | none => rw [ep] at e; cases e
      | some p =>
        rw [ep] at e
        cases e
        have e1 : (tabSet cs)[n]? = some p.1 := by rw [← hq, List.getElem?_map, ep]; rfl
        exact ⟨p.1, .tbl #[], e1, tabAt _ (List.mem_of_getElem? e1), rfl, True.intro, fun pos cv hc => by cases hc⟩
  · rcases S.seq with sq | sq
    · refine .inl ⟨sq, fun m => ?_, fun m => by cases m⟩
      have t := tabAt a m
      rcases sq with sq | ⟨o, sq⟩ <;> (rw [t] at sq; cases sq)
    · exact .inr sq
  · rw [e]
    intro α' v H' _ _ r
    cases r
    exact q H'
end Dn

set_option Elab.async false
set_option linter.all false
set_option maxRecDepth 100000
set_option maxHeartbeats 4000000
/-! in, not in; pop, extend -/
namespace Dn
open PySem PySem.Spec PyProof.Rows L2
/-- a flat value, as the kit's -/
def flV : D → Option V
  | .non => some .non
  | .bl b => some (.bl b)
  | .int i => some (.int i)
  | .str x => some (.str x)
  | _ => none
def flVs : List D → Option (List V)
  | [] => some []
  | d :: ds => match flV d, flVs ds with
    | some v, some vs => some (v :: vs)
    | _, _ => none
section
variable {K : PySem.W.Frag} {α : Al} {H : Hp}
theorem flV_rep {d : D} {v w : V} (r : Rep K α H d v) (e : flV d = some w) : v = w ∧ flatV v = true := by
  cases r <;> first | (cases e; exact ⟨rfl, rfl⟩) | cases e
theorem flVs_rep : ∀ {ds : List D} {vs ws : List V}, Reps K α H ds vs → flVs ds = some ws → vs = ws ∧ vs.all flatV = true
  | [], _, _, .nil, e => by cases e; exact ⟨rfl, rfl⟩
  | d :: ds, _, _, .cons r rs, e => by
    rw [flVs] at e
    cases e1 : flV d with
    | none => rw [e1] at e; cases e
    | some w =>
      cases e2 : flVs ds with
      | none => rw [e1, e2] at e; cases e
      | some ws =>
        rw [e1, e2] at e
        cases e
        obtain ⟨a1, a2⟩ := flV_rep r e1
        obtain ⟨b1, b2⟩ := flVs_rep rs e2
        subst a1 b1
        exact ⟨rfl, by rw [List.all_cons, a2, b2]; rfl⟩
end
/-- x in ys of flat items -/
def gIn : Op2 := fun h x y => match flV x, (seqOf h y).bind flVs with
  | some v, some vs => some (.bl (inV v vs))
  | _, _ => none
def gNotIn : Op2 := fun h x y => match flV x, (seqOf h y).bind flVs with
  | some v, some vs => some (.bl (!inV v vs))
  | _, _ => none
section
variable {X : Cx}
theorem od_in : OpD X (compareOp .In) gIn := fun pins s σ H x y v u Q I rx ry ⟨α, dx, dy, ih, d, hh, r1, r2, e, fz⟩ => by
  unfold gIn at e
  cases e1 : flV dx with
  | none => rw [e1] at e; cases e
  | some w =>
    cases e2 : seqOf ih dy with
    | none => rw [e1, e2] at e; cases e
    | some ds =>
      cases e3 : flVs ds with
      | none => rw [e1, e2, Option.bind_some, e3] at e; cases e
      | some ws =>
        rw [e1, e2, Option.bind_some, e3] at e
        cases e
        obtain ⟨a, vs, rfl, q, rs⟩ := seq_rep hh r2 e2
        obtain ⟨b1, b2⟩ := flV_rep r1 e1
        obtain ⟨c1, c2⟩ := flVs_rep rs e3
        subst b1 c1
        exact op_in_seq pins s σ H x _ v u Q I rx ry ⟨a, vs, rfl, q, b2, c2, fz.here hh (.bl _)⟩
theorem od_notin : OpD X (compareOp .NotIn) gNotIn := fun pins s σ H x y v u Q I rx ry ⟨α, dx, dy, ih, d, hh, r1, r2, e, fz⟩ => by
  unfold gNotIn at e
  cases e1 : flV dx with
  | none => rw [e1] at e; cases e
  | some w =>
    cases e2 : seqOf ih dy with
    | none => rw [e1, e2] at e; cases e
    | some ds =>
      cases e3 : flVs ds with
      | none => rw [e1, e2, Option.bind_some, e3] at e; cases e
      | some ws =>
        rw [e1, e2, Option.bind_some, e3] at e
        cases e
        obtain ⟨a, vs, rfl, q, rs⟩ := seq_rep hh r2 e2
        obtain ⟨b1, b2⟩ := flV_rep r1 e1
        obtain ⟨c1, c2⟩ := flVs_rep rs e3
        subst b1 c1
        exact op_notIn_seq pins s σ H x _ v u Q I rx ry ⟨a, vs, rfl, q, b2, c2, fz.here hh (.bl _)⟩
/-- xs.pop(i), xs live -/
def gPop (h : IHp) (o i : D) : Option (D × IHp) := match o, i with
  | .ref n, .int k => match h[n]? with
    | some (.lst ds) => match ixN ds.length k with
      | some j => match ds[j]? with
        | some d => if -(2 ^ 63) ≤ k ∧ k < 2 ^ 63 then some (d, h.set n (.lst (ds.eraseIdx j))) else none
        | none => none
      | none => none
    | _ => none
  | _, _ => none
def mPop (mo m : ME) : ME := fun σ h => (mo σ h).bind fun o h => if isSeqL h o = true then (m σ h).bind fun v h => match gPop h o v with
  | some (d, h') => .ok d h'
  | none => .bad
  else .bad
theorem Reps.erase {K : PySem.W.Frag} {α : Al} {H : Hp} : ∀ {ds : List D} {vs : List V} (j : Nat), Reps K α H ds vs → Reps K α H (ds.eraseIdx j) (vs.eraseIdx j)
  | _, _, _, .nil => .nil
  | _, _, 0, .cons _ t => t
  | _, _, j + 1, .cons r t => .cons r (Reps.erase j t)
theorem de_pop {o e : Expr} {mo m : ME} {apos cpos : Pos} (ho : DE X o mo) (he : DE X e m)
    (hbase : attributeBase o "pop" X.env (eval o X.env) = eval o X.env := by rfl)
    (hfew : ((backTo cpos (starEach [e] X.env)).all (fun x => !x.1) && (backToKw cpos (keywordEach [] X.env)).all (fun x => x.1.isSome)
      && decide (([e] : List Expr).length + ([] : List Keyword).length + (if ([] : List Keyword).isEmpty then 0 else 1) < 30)) = true := by rfl)
    (hline : (apos.endLine == cpos.line) = true := by rfl) (hs : starEach [e] X.env = (false, eval e X.env) :: starEach [] X.env := by rfl) (hplain : (backTo cpos (starEach [] X.env)).any (·.1) = false := by rfl) :
    DE X (.Call (.Attribute o "pop" apos) [e] [] cpos) (mPop mo m) := fun W tk =>
  PE.mono (pe_bm PySem.F.plainAttrs_list PySem.F.slot_list_pop PySem.F.type_list_pop mt_popAt (ho W tk) (pa_cons (he W tk) pa_nil hs) hbase hfew hline hs hplain) fun σ H Q ⟨α, iσ, ih, h, s, g⟩ => ⟨α, iσ, ih, h, s, g.bind.mono fun v H1 ⟨α1, d1, ih1, x1, h1, r1, g1⟩ => by
    split at g1
    · next hq =>
      unfold isSeqL at hq
      obtain ⟨ds, eds⟩ := Option.isSome_iff_exists.mp hq
      obtain ⟨a, vs, e1, q1, rs1⟩ := lst_rep h1 r1 eds
      subst e1
      refine ⟨.inl ⟨rfl, vs, .inl q1⟩, α1, iσ, ih1, h1, s.ext h x1, g1.bind.mono fun v2 H2 ⟨α2, d2, ih2, x2, h2, r2, g2⟩ => ?_⟩
      have r1' := r1.ext h1 x2
      cases r1' with
      | ref ea nt0 =>
        cases eg : gPop ih2 (.ref _) d2 with
        | none => rw [eg] at g2; exact g2.elim
        | some z =>
          obtain ⟨y, h'⟩ := z
          rw [eg] at g2
          cases r2 with
          | int k =>
            unfold gPop at eg
            dsimp only at eg
            split at eg
            · next ds' eo =>
              cases ej : ixN ds'.length k with
              | none => rw [ej] at eg; cases eg
              | some j =>
                rw [ej] at eg
                dsimp only at eg
                cases ed : ds'[j]? with
                | none => rw [ed] at eg; cases eg
                | some y' =>
                  rw [ed] at eg
                  dsimp only at eg
                  split at eg
                  · next hk =>
                    cases eg
                    obtain ⟨a', ho', e1, e2, e3⟩ := h2.ob _ _ eo
                    rw [ea] at e1; cases e1
                    obtain ⟨vs', rfl, rs⟩ := e3.lst
                    obtain ⟨w, ew, rw_⟩ := rs.get ed
                    refine ⟨_, vs', k, j, w, rfl, rfl, e2, hk.1, hk.2, by rw [← rs.length]; exact (ixN_seq ej).1, ew, ?_⟩
                    have hn : RepO X.K α2 H2 _ (.lst (ds'.eraseIdx j)) (.lst (vs'.eraseIdx j)) := (show RepO X.K α2 H2 a (.lst (ds'.eraseIdx j)) (.lst (vs'.eraseIdx j)) from rs.erase j)
                    exact g2 α2 _ _ (Ext.write ea) (h2.write ea hn) (rw_.ext h2 (Ext.write ea))
                  · cases eg
            · cases eg
          | _ => cases eg
      | _ => exact g2.elim
    · exact g1.elim⟩
end
end Dn

set_option Elab.async false
set_option linter.all false
set_option maxRecDepth 100000
set_option maxHeartbeats 4000000
/-! three at once; x += e -/
namespace Dn
open PySem PySem.Spec PyProof.Rows L2
section
variable {X : Cx}
def sPar3 (i j l : Nat) (ms : MA) : MS := fun s h => bindS (ms s h) s fun ds h => match ds with
  | [d, e, f] => .nx (((s.set i (some d)).set j (some e)).set l (some f)) h
  | _ => .bad
theorem ds_par3 (i j l : Nat) {x y z : Str} {a b c : Expr} {ms : MA} {px py pz pt pos : Pos} {kt k2 pt2} (hc : X.calm = true) (hN : X.N.Nodup) (ha : DA X [a, b, c] ms) (hi : X.N[i]? = some x := by rfl) (hj : X.N[j]? = some y := by rfl) (hl : X.N[l]? = some z := by rfl)
    (hij : i ≠ j := by decide) (hil : i ≠ l := by decide) (hjl : j ≠ l := by decide) (hx : X.env.scope.names.lookup x = some .local := by rfl) (hy : X.env.scope.names.lookup y = some .local := by rfl) (hz : X.env.scope.names.lookup z = some .local := by rfl)
    (hw : swappedStores [.Tuple [.Name x px, .Name y py, .Name z pz] kt pt] (.Tuple [a, b, c] k2 pt2) X.env = pure (some [x, y, z]) := by rfl)
    (hs : swapsWithSole [.Tuple [.Name x px, .Name y py, .Name z pz] kt pt] (.Tuple [a, b, c] k2 pt2) pos.line X.env = pure false := by rfl) :
    DS X (.Assign [.Tuple [.Name x px, .Name y py, .Name z pz] kt pt] (.Tuple [a, b, c] k2 pt2) pos) (sPar3 i j l ms) := fun W tk =>
  PS.mono (ps_par3 hc hN hi hj hl hij hil hjl hx hy hz (ha W tk) hw hs) fun D σ H ⟨α, iσ, ih, h, s, g⟩ => ⟨α, iσ, ih, h, s, (g.bind h s).mono fun vs H1 ⟨α1, ds, ih1, x1, h1, r1, g1⟩ => by
    split at g1
    · next d e f =>
      cases r1 with
      | cons q1 r1 =>
      cases r1 with
      | cons q2 r1 =>
      cases r1 with
      | cons q3 r1 =>
      cases r1
      exact ⟨_, _, _, rfl, g1 α1 _ H1 Ext.refl h1 ((((s.ext h x1).set q1).set q2).set q3)⟩
    · exact g1.elim⟩
/-- x += e, whole numbers -/
def sAugI (f : Int → Int → Int) (i : Nat) (m : ME) : MS := fun s h => match s[i]? with
  | some (some (.int a)) => bindS (m s h) s fun d h => match d with
    | .int b => .nx (s.set i (some (.int (f a b)))) h
    | _ => .bad
  | _ => .bad
theorem ds_aug {op : Operator} {f : Int → Int → Int} (ho : PIp X op (ipI f)) (i : Nat) {x : Str} {e : Expr} {m : ME} {pos pos' : Pos} (hN : X.N.Nodup) (he : DE X e m) (hi : X.N[i]? = some x := by rfl) (hx : Loc X.env.scope x := by first | exact Or.inl rfl | exact Or.inr rfl)
    (hf : X.fn x = true ∨ X.env.scope.names.lookup x = some .local := by first | exact .inl rfl | exact .inr rfl | assumption) : DS X (.AugAssign (.Name x pos') op e pos) (sAugI f i m) := fun W tk =>
  PS.mono (ps_aug hN hi hx (he W tk) ho hf) fun D σ H ⟨α, iσ, ih, h, s, g⟩ => by
    unfold sAugI at g
    split at g
    · next a ea =>
      obtain ⟨v, ev, rv⟩ := s.2 _ _ ea
      cases rv
      refine ⟨_, ev, α, iσ, ih, h, s, (g.bind h s).mono fun v H1 ⟨α1, d, ih1, x1, h1, r1, g1⟩ => ?_⟩
      cases r1 with
      | int b => exact ⟨a, b, rfl, rfl, g1 α1 _ H1 Ext.refl h1 ((s.ext h x1).set (.int _))⟩
      | _ => exact g1.elim
    · exact g.elim
/-- name = [..], the name a local, the list live -/
noncomputable def sSetLcN (i : Nat) (mi : MI) (t : Tg) (c : MT) (e : ME) (vs : List Nat) : MS := sSet i (mLv (mLcN mi t c e vs))
theorem ds_setLcN (i : Nat) {y : Str} {py : Pos} {elt tg iter : Expr} {ifs : List Expr} {scope : Scope} (own : List (Str × Nat)) {pos spos : Pos} {mi : MI} {t : Tg} {mc : MT} {me : ME} (hc : X.calm = true) (hN : X.N.Nodup) (hi : DI X tg iter mi) (ok : BlkOk X.N X.env.scope scope own)
    (hg : ∀ (s : Shared) (H : Hp) (C : Addr) (cl : List (Str × Addr)) (fp : List Addr), DG (X.blk s H scope (compEnvC scope cl C X.env) fp) tg t) (ht : ∀ (s : Shared) (H : Hp) (C : Addr) (cl : List (Str × Addr)) (fp : List Addr), DTs (X.blk s H scope (compEnvC scope cl C X.env) fp) ifs mc)
    (he : ∀ (s : Shared) (H : Hp) (C : Addr) (cl : List (Str × Addr)) (fp : List Addr), DE (X.blk s H scope (compEnvC scope cl C X.env) fp) elt me) (hsw : swapsWith (.ListComp elt [⟨tg, iter, ifs, 0⟩] scope pos) (some (.Name y py)) spos.line X.env = pure true)
    (hy : X.N[i]? = some y := by rfl) (hyl : X.env.scope.names.lookup y = some .local := by rfl) (hv : ∀ i ∈ t.vars, i ∈ own.map (·.2) := by decide) (hs : ∀ x, foldedSetIterable iter X.env x = pure x := by intro _; rfl) :
    DS X (.Assign [.Name y py] (.ListComp elt [⟨tg, iter, ifs, 0⟩] scope pos) spos) (sSetLcN i mi t mc me (own.map (·.2))) := fun W tk =>
  PS.mono (ps_setLc (X := X) (own := own) (g := rdG X t) (tt := rdT X W0 mc) (te := rdE X W0 me) hc hN hy hyl hsw (hi W tk) ok (fun s H C cl fp => hg s H C cl fp) (fun s H C cl fp => ht s H C cl fp W0 takes0) (fun s H C cl fp => he s H C cl fp W0 takes0) hs)
    fun D σ H ⟨α, iσ, ih, h, s, g⟩ => rd_lcN hv (X' := fun _ _ _ _ _ => X) True.intro σ H (fun x H1 => gName i x σ H1 D.nx) ⟨α, iσ, ih, h, s, GoN.lv h ((g.bind h s).mono fun v H1 ⟨α1, d, ih1, x1, h1, r1, g1⟩ => g1 α1 _ H1 Ext.refl h1 ((s.ext h x1).set r1))⟩
end
end Dn

set_option Elab.async false
set_option linter.all false
set_option maxRecDepth 100000
set_option maxHeartbeats 4000000
/-! xs.extend(ys), xs live, ys a list or a tuple -/
namespace Dn
open PySem PySem.Spec PyProof.Rows L2
theorem ext_tup (l : Addr) (its : Array Value) (n : Nat) (b : Addr) (ys : Array Value) (m : Nat) (dd : Option Addr) (sl : Array (Option Value)) (h0 : ¬(!its.isEmpty && Builtin.List.listTooLong (its.size + ys.size)) = true) (h1 : its.size ≤ sizeLine) (h2 : its.size + ys.size ≤ sizeLine + 1) :
    Meets (Builtin.«list.extend» ⟨[.ref l, .ref b], []⟩) (fun _ R s => s.heap.get? l = some { cls := .type "list", dict := none, data := .seq its n, slots := #[] } ∧ s.heap.get? b = some { cls := .type "tuple", dict := dd, data := .seq ys m, slots := sl } ∧
      R (.ok (.ret Value.none)) { s with heap := s.heap.update l (Obj.mapSeq fun x => x ++ ys), toks := s.toks }) :=
  .of_wp fun prog w A R s h => by
    obtain ⟨hp, g, d, tk, os⟩ := s
    obtain ⟨hl, hb, h⟩ := h
    have f1 := AutoSeq1.idx_int
    have f2 := AutoSeq1.sub_tuple_tuple
    have f3 := AutoSeq1.sub_list_list
    have f4 := AutoSeq1.sub_tuple_list
    have f5 := AutoSeq1.sub_list_tuple
    have z : (its ++ ys).size ≤ sizeLine + 1 := by rw [Array.size_append]; exact h2
    wp_walk using (wpAny_updateSeq hl rfl (hz := h1) (_hz' := z)), wpAny_loadPart' hl, wpAny_loadPart' hb
    exact ⟨_, rfl, h⟩
def rExt (K : PySem.W.Frag) : V → List V → Hp → VK → Prop := fun x vs H Q => ∃ l b xs zs, x = .ref l ∧ vs = [.ref b] ∧ H l = some (.lst xs) ∧ (Rd H b (.lst zs) ∨ SqT K H b zs) ∧ xs.length + zs.length ≤ sizeLine ∧ Q .non (upd H l (.lst (xs ++ zs)))
theorem mt_ext {X : Cx} : MtM X "list.extend" (rExt X.K) := fun pins s σ H x vs v us Q I rx rv h => by
  obtain ⟨l, b, xs, zs, rfl, rfl, hl, hb, hz, q⟩ := h
  cases rx
  obtain ⟨u, rfl, ru⟩ := rv.one
  cases ru
  obtain ⟨z, its, n, r, el, e⟩ := I.lstM hl
  rcases hb with hb | hb
  · obtain ⟨ys, m, r2, e2⟩ := lstR I hb
    have l2 := r2.length
    have sz : its.toArray.size + ys.toArray.size ≤ sizeLine := by rw [List.size_toArray, List.size_toArray]; omega
    refine call_meets F.slot_list_extend ⟨_, e, rfl⟩ F.entry_list_extend (F.args_list_extend_2 _ _) (AutoSeq1.list_extend_list_list_0 l its.toArray n b ys.toArray m (by rw [notLongL sz, Bool.and_false]; exact Bool.false_ne_true) (by rw [List.size_toArray]; omega) (by omega)) ⟨e, e2, ?_⟩
    exact ⟨.non, _, I.lset (its' := its ++ ys) hl e (by simp) (r.append r2) (by rw [List.length_append]; omega), rfl, q⟩
  · obtain ⟨ys, r2, ⟨⟨cls, dd, data, sl⟩, ho, hc, m, hd⟩, hs⟩ := I.tuple hb
    simp only at hc hd
    subst hc hd
    have l2 := r2.length
    have sz : its.toArray.size + ys.toArray.size ≤ sizeLine := by rw [List.size_toArray, List.size_toArray]; omega
    refine call_meets F.slot_list_extend ⟨_, e, rfl⟩ F.entry_list_extend (F.args_list_extend_2 _ _) (ext_tup l its.toArray n b ys.toArray m dd sl (by rw [notLongL sz, Bool.and_false]; exact Bool.false_ne_true) (by rw [List.size_toArray]; omega) (by omega)) ⟨e, ho, ?_⟩
    exact ⟨.non, _, I.lset (its' := its ++ ys) hl e (by simp) (r.append r2) (by rw [List.length_append]; omega), rfl, q⟩
/-- the items of a list that is not live, of a tuple -/
def dseq : D → Option (List D)
  | .lst ds => some ds
  | .tup ds => some ds
  | _ => none
def gExt (h : IHp) (o v : D) : Option IHp := match o with
  | .ref n => match h[n]?, dseq v with
    | some (.lst ds), some es => if ds.length + es.length ≤ sizeLine then some (h.set n (.lst (ds ++ es))) else none
    | _, _ => none
  | _ => none
def mExt (mo m : ME) : ME := fun σ h => (mo σ h).bind fun o h => if isSeqL h o = true then (m σ h).bind fun v h => match gExt h o v with
  | some h' => .ok .non h'
  | none => .bad
  else .bad
section
variable {X : Cx}
theorem dseq_rep {K : PySem.W.Frag} {α : Al} {H : Hp} {d : D} {v : V} {ds : List D} (r : Rep K α H d v) (e : dseq d = some ds) : ∃ b zs, v = .ref b ∧ (Rd H b (.lst zs) ∨ SqT K H b zs) ∧ Reps K α H ds zs := by
  cases r <;> cases e
  · next q rs => exact ⟨_, _, rfl, .inr q, rs⟩
  · next q rs => exact ⟨_, _, rfl, .inl q.1, rs⟩
theorem de_ext {o e : Expr} {mo m : ME} {apos cpos : Pos} (ho : DE X o mo) (he : DE X e m)
    (hbase : attributeBase o "extend" X.env (eval o X.env) = eval o X.env := by rfl)
    (hfew : ((backTo cpos (starEach [e] X.env)).all (fun x => !x.1) && (backToKw cpos (keywordEach [] X.env)).all (fun x => x.1.isSome)
      && decide (([e] : List Expr).length + ([] : List Keyword).length + (if ([] : List Keyword).isEmpty then 0 else 1) < 30)) = true := by rfl)
    (hline : (apos.endLine == cpos.line) = true := by rfl) (hs : starEach [e] X.env = (false, eval e X.env) :: starEach [] X.env := by rfl) (hplain : (backTo cpos (starEach [] X.env)).any (·.1) = false := by rfl) :
    DE X (.Call (.Attribute o "extend" apos) [e] [] cpos) (mExt mo m) := fun W tk =>
  PE.mono (pe_bm PySem.F.plainAttrs_list PySem.F.slot_list_extend PySem.F.type_list_extend mt_ext (ho W tk) (pa_cons (he W tk) pa_nil hs) hbase hfew hline hs hplain) fun σ H Q ⟨α, iσ, ih, h, s, g⟩ => ⟨α, iσ, ih, h, s, g.bind.mono fun v H1 ⟨α1, d1, ih1, x1, h1, r1, g1⟩ => by
    split at g1
    · next hq =>
      unfold isSeqL at hq
      obtain ⟨ds, eds⟩ := Option.isSome_iff_exists.mp hq
      obtain ⟨a, vs, e1, q1, rs1⟩ := lst_rep h1 r1 eds
      subst e1
      refine ⟨.inl ⟨rfl, vs, .inl q1⟩, α1, iσ, ih1, h1, s.ext h x1, g1.bind.mono fun v2 H2 ⟨α2, d2, ih2, x2, h2, r2, g2⟩ => ?_⟩
      have r1' := r1.ext h1 x2
      cases r1' with
      | ref ea nt0 =>
        cases eg : gExt ih2 (.ref _) d2 with
        | none => rw [eg] at g2; exact g2.elim
        | some h' =>
          rw [eg] at g2
          unfold gExt at eg
          dsimp only at eg
          split at eg
          · next ds' es' eo ed =>
            split at eg
            · next hl =>
              cases eg
              obtain ⟨a', ho', e1, e2, e3⟩ := h2.ob _ _ eo
              rw [ea] at e1; cases e1
              obtain ⟨vs', rfl, rs⟩ := e3.lst
              obtain ⟨b, zs, rfl, hb, rz⟩ := dseq_rep r2 ed
              refine ⟨_, b, vs', zs, rfl, rfl, e2, hb, by rw [← rs.length, ← rz.length]; exact hl, ?_⟩
              have hn : ∀ b, RepO X.K α2 H2 b (.lst (ds' ++ es')) (.lst (vs' ++ zs)) := fun b => rs.append rz
              exact g2 α2 _ _ (Ext.write ea) (h2.write ea (hn _)) .non
            · cases eg
          · cases eg
      | _ => exact g2.elim
    · exact g1.elim⟩
end
end Dn

set_option Elab.async false
set_option linter.all false
set_option maxRecDepth 100000
set_option maxHeartbeats 4000000
/-! zip of two tuples, of two lists -/
namespace Dn
open PySem PySem.Spec PyProof.Rows L2 RZ
def zipD (ds es : List D) : List D := ds.zipWith (fun d e => .tup [d, e]) es
theorem zipD_get {ds es : List D} {i : Nat} {d e : D} (h1 : ds[i]? = some d) (h2 : es[i]? = some e) : (zipD ds es)[i]? = some (.tup [d, e]) := by
  unfold zipD
  rw [List.getElem?_zipWith, h1, h2]
theorem zipD_len (ds es : List D) : (zipD ds es).length = min ds.length es.length := by unfold zipD; rw [List.length_zipWith]
section
variable {X : Cx}
theorem walkD_zipT {K : PySem.W.Frag} {α : Al} {H : Hp} {ih : IHp} {ds es : List D} {a b : Addr} {vs ws : List V} (h : RH K α H ih) (q : SqT K H a vs) (rs : Reps K α H ds vs) (q2 : SqT K H b ws) (rs2 : Reps K α H es ws) : WalkD K α H (zipD ds es, none) (ItzT K a b) := by
  have el : (zipD ds es, (none : Option Nat)).1.length = min vs.length ws.length := by show (zipD ds es).length = _; rw [zipD_len, rs.length, rs2.length]
  refine ⟨fun H => SqT K H a vs ∧ SqT K H b ws, fun i H v H' => ∃ T x y, v = .ref T ∧ H T = none ∧ H' = upd H T (.tup [x, y]) ∧ vs[i]? = some x ∧ ws[i]? = some y,
    ⟨fun i H hi q => ⟨vs, ws, vs[i]'(by omega), ws[i]'(by omega), q.1, q.2, by simp, by simp⟩, fun H q => ⟨vs, ws, q.1, q.2, by omega⟩, fun i H x H' hi q ⟨T, y, y2, e1, e2, e3, e4, e5⟩ => ⟨T, y, y2, e1, e2, e3, e4 vs q.1, e5 ws q.2⟩⟩, fun α' H' ih' x _ _ => ⟨SqT.ext h x q, SqT.ext h x q2⟩, fun i H1 x H2 α1 ih1 hi x1 h1 _ y => ?_⟩
  obtain ⟨T, y, y2, e1, e2, e3, e4, e5⟩ := y
  subst e1 e3
  obtain ⟨d, e6, r⟩ := (rs.ext h x1).getV e4
  obtain ⟨d2, e7, r2⟩ := (rs2.ext h x1).getV e5
  exact ⟨_, zipD_get e6 e7, Ext.new e2, h1.new e2, .tup (.inl (.inl upd_same)) (.cons (r.ext h1 (Ext.new e2)) (.one (r2.ext h1 (Ext.new e2))))⟩
theorem walkD_zipL {K : PySem.W.Frag} {α : Al} {H : Hp} {ih : IHp} {ds es : List D} {a b : Addr} {vs ws : List V} (h : RH K α H ih) (q : SqF α H a vs) (rs : Reps K α H ds vs) (q2 : SqF α H b ws) (rs2 : Reps K α H es ws) : WalkD K α H (zipD ds es, none) (Itz K a b) := by
  have el : (zipD ds es, (none : Option Nat)).1.length = min vs.length ws.length := by show (zipD ds es).length = _; rw [zipD_len, rs.length, rs2.length]
  refine ⟨fun H => SqL K H a vs ∧ SqL K H b ws, fun i H v H' => ∃ T x y, v = .ref T ∧ H T = none ∧ H' = upd H T (.tup [x, y]) ∧ vs[i]? = some x ∧ ws[i]? = some y,
    ⟨fun i H hi q => ⟨vs, ws, vs[i]'(by omega), ws[i]'(by omega), q.1, q.2, by simp, by simp⟩, fun H q => ⟨vs, ws, q.1, q.2, by omega⟩, fun i H x H' hi q ⟨T, y, y2, e1, e2, e3, e4, e5⟩ => ⟨T, y, y2, e1, e2, e3, e4 vs q.1, e5 ws q.2⟩⟩, fun α' H' ih' x _ _ => ⟨(q.ext x).seq, (q2.ext x).seq⟩, fun i H1 x H2 α1 ih1 hi x1 h1 _ y => ?_⟩
  obtain ⟨T, y, y2, e1, e2, e3, e4, e5⟩ := y
  subst e1 e3
  obtain ⟨d, e6, r⟩ := (rs.ext h x1).getV e4
  obtain ⟨d2, e7, r2⟩ := (rs2.ext h x1).getV e5
  exact ⟨_, zipD_get e6 e7, Ext.new e2, h1.new e2, .tup (.inl (.inl upd_same)) (.cons (r.ext h1 (Ext.new e2)) (.one (r2.ext h1 (Ext.new e2))))⟩
def zipOf (ds : List D) : Option It1 := match ds with
  | [.tup ds, .tup es] => some (zipD ds es, none)
  | [.lst ds, .lst es] => some (zipD ds es, none)
  | _ => none
def mZip (ms : MA) : MI := fun σ h => (ms σ h).bind fun ds h => R.opt (zipOf ds) h
theorem di_zip {e e2 : Expr} {ms : MA} {p pos tpos : Pos} {elts : List Expr} {kk : Nat} (hg : Gl X "zip") (hm : X.mg "zip" = none) (ha : DA X [e, e2] ms)
    (hs : starEach [e, e2] X.env = (false, eval e X.env) :: starEach [e2] X.env := by rfl) (hpl : (backTo pos (starEach [e2] X.env)).any (·.1) = false := by rfl) :
    DI X (.Tuple elts kk tpos) (.Call (.Name "zip" p) [e, e2] [] pos) (mZip ms) := fun W tk => ⟨fun pins s σ H R I ⟨α, iσ, ih, h, ss, g⟩ =>
  (pi_zipA (elts := elts) (kk := kk) (tpos := tpos) hg hm (ha W tk) hs hpl).run pins s σ H R I ⟨α, iσ, ih, h, ss, g.bind.mono fun vs H1 ⟨α1, ds, ih1, x1, h1, r1, g1⟩ => by
    cases ee : zipOf ds with
    | none => rw [ee] at g1; exact g1.elim
    | some z =>
      rw [ee] at g1
      unfold zipOf at ee
      split at ee
      · cases ee
        obtain ⟨v, u, rfl, q1, q2⟩ := reps2 r1
        cases q1 with
        | tup a1 s1 =>
          cases q2 with
          | tup a2 s2 => exact ⟨_, _, _, _, rfl, .inr ⟨a1, a2, g1.ok h1 (walkD_zipT h1 a1 s1 a2 s2)⟩⟩
      · cases ee
        obtain ⟨v, u, rfl, q1, q2⟩ := reps2 r1
        cases q1 with
        | lst a1 s1 =>
          cases q2 with
          | lst a2 s2 => exact ⟨_, _, _, _, rfl, .inl ⟨a1.seq, a2.seq, g1.ok h1 (walkD_zipL h1 a1 s1 a2 s2)⟩⟩
      · cases ee⟩⟩
end
end Dn

set_option Elab.async false
set_option linter.all false
set_option maxRecDepth 100000
set_option maxHeartbeats 4000000
/-! a comprehension with two fors -/
namespace Dn
open PySem PySem.Spec PyProof.Rows L2
section
variable {J : It} {n : Nat} {G : Hp → Prop} {Y : Nat → Hp → V → Hp → Prop}
theorem walk_loop (w : Walk J n G Y) {B : V → Hp → (Hp → Prop) → Prop} {H0 : Hp} {Qd : Hp → Prop} (Pv : Nat → Hp → Prop) (h0 : Pv 0 H0) (hG : ∀ i H, i ≤ n → Pv i H → G H)
    (hs : ∀ i x H H', i < n → Pv i H → Y i H x H' → B x H' (Pv (i + 1))) (hd : ∀ H, Pv n H → Qd H) :
    ∃ W : Nat → Nat → Hp → Prop, (∃ m, W 0 m H0) ∧ ∀ i m H, W i m H → (J.stop i H ∧ Qd H) ∨ (J.go i H ∧ ∃ N : Hp → Prop, (∀ H', N H' → ∃ m', m' < m ∧ W (i + 1) m' H') ∧ ∀ x H', J.yld i H x H' → B x H' N) := by
  refine ⟨fun i m H => m = n - i ∧ i ≤ n ∧ Pv i H, ⟨n, by simp, Nat.zero_le _, h0⟩, ?_⟩
  rintro i m H ⟨rfl, hi, p⟩
  have q := hG i H hi p
  by_cases lt : i < n
  · exact .inr ⟨w.goes i H lt q, Pv (i + 1), fun H' p' => ⟨n - (i + 1), by omega, rfl, lt, p'⟩, fun x H' y => hs i x H H' lt p (w.yields i H x H' lt q y)⟩
  · have e : i = n := by omega
    subst e
    exact .inl ⟨w.stops H q, hd H p⟩
end
open Classical in
noncomputable def lcDK (g : It1) (t : Tg) (c : MT) (e : ME) (s0 : ISt) (k : List Dn.D → IHp → R (List Dn.D)) : List Dn.D → List Dn.D → IHp → R (List Dn.D)
  | [], acc, h => if Stable g h then k acc h else .bad
  | d :: ds, acc, h => if Stable g h then (match t.set d s0 with
      | none => .bad
      | some s1 => (noex (c s1 h)).bind fun b h => if b = true then (noex (e s1 h)).bind fun v h => if acc.length < sizeLine then lcDK g t c e s0 k ds (acc ++ [v]) h else .bad else lcDK g t c e s0 k ds acc h) else .bad
open Classical in
noncomputable def lcD2 (g : It1) (t : Tg) (c : MT) (mi : MI) (t1 : Tg) (c1 : MT) (e : ME) (vs1 : List Nat) (s0 : ISt) : List Dn.D → List Dn.D → IHp → R (List Dn.D)
  | [], acc, h => if Stable g h then .ok acc h else .bad
  | d :: ds, acc, h => if Stable g h then (match t.set d s0 with
      | none => .bad
      | some s1 => (noex (c s1 h)).bind fun b h => if b = true then (noex (mi s1 h)).bind fun g1 h => lcDK g1 t1 c1 e (wipeD s1 vs1) (fun acc h => lcD2 g t c mi t1 c1 e vs1 s0 ds acc h) g1.1 acc h else lcD2 g t c mi t1 c1 e vs1 s0 ds acc h) else .bad
theorem lcDK_stable {K : PySem.W.Frag} {mg : Str → Option Value} {W : Value → Hp → Prop} {α : Al} {H : Hp} {Q : V → Hp → Prop} {g : It1} {t : Tg} {c : MT} {e : ME} {s0 : ISt} {k : List D → IHp → R (List D)} {ds acc : List D} {h : IHp} (q : GoN K mg W α H (lcDK g t c e s0 k ds acc h) Q) : Stable g h := by
  cases ds with
  | nil =>
    rw [lcDK] at q
    split at q
    · assumption
    · exact q.elim
  | cons d ds =>
    rw [lcDK] at q
    split at q
    · assumption
    · exact q.elim
theorem lcD2_stable {K : PySem.W.Frag} {mg : Str → Option Value} {W : Value → Hp → Prop} {α : Al} {H : Hp} {Q : V → Hp → Prop} {g : It1} {t : Tg} {c : MT} {mi : MI} {t1 : Tg} {c1 : MT} {e : ME} {vs1 : List Nat} {s0 : ISt} {ds acc : List D} {h : IHp} (q : GoN K mg W α H (lcD2 g t c mi t1 c1 e vs1 s0 ds acc h) Q) : Stable g h := by
  cases ds with
  | nil =>
    rw [lcD2] at q
    split at q
    · assumption
    · exact q.elim
  | cons d ds =>
    rw [lcD2] at q
    split at q
    · assumption
    · exact q.elim
theorem wipe_twice (σ : L2.St) (vs : List Nat) : wipe (wipe σ vs) vs = wipe σ vs := by
  apply List.ext_getElem?
  intro j
  simp only [wipe_get]
  by_cases hj : j ∈ vs
  · cases σ[j]? <;> simp [hj]
  · simp [hj]
section
variable {X : Cx}
/-- a walk that asks nothing of the heap -/
def WalkS (K : PySem.W.Frag) (_ : Al) (_ : Hp) (g : It1) (J : It) : Prop := ∃ G Y, Walk J g.1.length G Y ∧ (∀ H, G H) ∧
  ∀ i H1 x H2 α1 ih1, i < g.1.length → RH K α1 H1 ih1 → Y i H1 x H2 → ∃ d, g.1[i]? = some d ∧ Ext α1 H1 α1 H2 ∧ RH K α1 H2 ih1 ∧ Rep K α1 H2 d x
def rdIS (X : Cx) (W : WX) (m : MI) : TI := fun σ H R => ∃ α iσ ih, RH X.K α H ih ∧ RS X.K α H iσ σ ∧ Go X.K X.mg (fun c H' => W c none σ H') (WalkS X.K) α H (m iσ ih) R
def DIS (X : Cx) (tg e : Expr) (m : MI) : Prop := ∀ W, Takes X W → PI X tg e (rdIS X W m)
theorem walkS_range {K : PySem.W.Frag} {α : Al} {H : Hp} {lo : Int} {n : Nat} : WalkS K α H (rngD lo n, none) (Itr lo n) := by
  have el : (rngD lo n, (none : Option Nat)).1.length = n := by simp [rngD]
  refine ⟨_, _, by rw [el]; exact walk_range, fun _ => trivial, fun i H1 x H2 α1 ih1 hi h1 y => ?_⟩
  obtain ⟨e1, e2⟩ := y
  subst e1 e2
  rw [el] at hi
  exact ⟨.int (lo + (i : Nat)), by simp [rngD, hi], Ext.refl, h1, .int _⟩
theorem dis_range2 {tg a b : Expr} {ms : MA} {p pos : Pos} (hg : Gl X "range") (hm : X.mg "range" = none) (ha : DA X [a, b] ms) (hs : starEach [a, b] X.env = [(false, eval a X.env), (false, eval b X.env)] := by rfl) (hs2 : starEach [b] X.env = [(false, eval b X.env)] := by rfl) : DIS X tg (.Call (.Name "range" p) [a, b] [] pos) (mRng2 ms) := fun W tk =>
  PI.mono (pi_range2 hg hm (ha W tk) hs hs2) fun σ H R ⟨α, iσ, ih, h, s, g⟩ => ⟨α, iσ, ih, h, s, g.bind.mono fun vs H1 ⟨α1, ds, ih1, x1, h1, r1, g1⟩ => by
    cases er : rng2 ds with
    | none => rw [er] at g1; exact g1.elim
    | some z =>
      rw [er] at g1
      unfold rng2 at er
      split at er
      · next i j =>
        split at er
        · next hj =>
          cases er
          cases r1 with
          | cons q1 r1 =>
          cases r1 with
          | cons q2 r1 =>
          cases r1
          cases q1
          cases q2
          exact ⟨i, j, rfl, hj, g1.ok h1 walkS_range⟩
        · cases er
      · cases er⟩

/-! ### for -/
open Classical in
noncomputable def mLc2N (mi : MI) (t : Tg) (c : MT) (mi1 : MI) (t1 : Tg) (c1 : MT) (e : ME) (vs vs1 : List Nat) : MA := fun s h => (mi s h).bind fun g h => lcD2 g t c mi1 t1 c1 e vs1 (wipeD s vs) g.1 [] h
theorem rd_lc2N {W : WX} {mi mi1 : MI} {t t1 : Tg} {mc mc1 : MT} {me : ME} {vs vs1 : List Nat} (hv : ∀ i ∈ t.vars, i ∈ vs) (hv1 : ∀ i ∈ t1.vars, i ∈ vs1) (σ : L2.St) (H : Hp) (Q : VK) :
    rdN X W (mLc2N mi t mc mi1 t1 mc1 me vs vs1) σ H Q → tLc2 (rdI X W mi) (rdG X t) (rdT X W0 mc) (rdIS X W0 mi1) (rdG X t1) (rdT X W0 mc1) (rdE X W0 me) vs vs1 σ H Q :=
  fun ⟨α, iσ, ih, h, s, g⟩ => ⟨α, iσ, ih, h, s, (GoN.bindD g).mono fun J H1 ⟨α1, it, ih1, x1, h1, ⟨G, Y, wk, stab, yld⟩, g1⟩ => fun Dd nD => by
    have hs1 : RS X.K α1 H1 iσ σ := s.ext h x1
    refine walk_loop wk (fun i H' => ∃ α' ih' acc vacc, Ext α1 H1 α' H' ∧ Dd ∈ α'.hd ∧ RH X.K α' H' ih' ∧ RS X.K α' H' iσ σ ∧ H' Dd = some (.lst vacc) ∧ Reps X.K α' H' acc vacc ∧
        GoN X.K X.mg (fun c H' => W c none σ H') α1 H1 (lcD2 it t mc mi1 t1 mc1 me vs1 (wipeD iσ vs) (it.1.drop i) acc ih') Q) ?_ ?_ ?_ ?_
    · exact ⟨α1.hide Dd, ih1, [], [], Ext.hide nD, List.mem_cons_self, h1.hide nD, hs1.mp (Mp.hide h1 nD), upd_same, .nil, g1⟩
    · intro i H' hi ⟨α', ih', acc, vacc, x', nd, h', s', eD, ra, g'⟩
      exact stab α' H' ih' x' h' (lcD2_stable g')
    · intro i x H' H'' hi ⟨α', ih', acc, vacc, x', nd, h', s', eD, ra, g'⟩ y
      have st := lcD2_stable g'
      obtain ⟨d, ed, x2, h2, r2⟩ := yld i H' x H'' α' ih' hi x' h' st y
      have es : it.1.drop i = d :: it.1.drop (i + 1) := by
        rw [List.drop_eq_getElem_cons hi]
        rw [List.getElem?_eq_getElem hi] at ed
        rw [Option.some.inj ed]
      rw [es, lcD2, if_pos st] at g'
      cases et : t.set d (wipeD iσ vs) with
      | none => rw [et] at g'; exact g'.elim
      | some s1 =>
        rw [et] at g'
        dsimp only at g'
        refine ⟨α', d, wipeD iσ vs, ih', s1, h2, ((s'.ext h' x2).wipe vs), r2, et, fun σ2 hs2 wp => ⟨by rw [wp vs hv, wipe_twice], ?_⟩⟩
        refine ⟨α', s1, ih', h2, hs2, ?_⟩
        refine Go.mono (go_noex (GoN.bind2 (rep := repB) (x'.trans x2) g')) fun b H3 ⟨α3, b', ih3, x3, h3, r3, g3⟩ => ?_
        cases r3
        have eD3 := x3.keep Dd _ ((x2.keep Dd _ eD (fun _ z => by cases z) (h'.dj Dd nd)).1) (fun _ z => by cases z) (h'.dj Dd nd)
        have m3 := x3.hs Dd (x2.hs Dd nd)
        cases b with
        | false =>
          rw [if_neg Bool.false_ne_true] at g3 ⊢
          exact ⟨α3, ih3, acc, vacc, (x'.trans x2).trans x3, m3, h3, (s'.ext h' x2).ext h2 x3, eD3.1, (ra.ext h' x2).ext h2 x3, g3⟩
        | true =>
          rw [if_pos rfl] at g3
          rw [if_pos rfl]
          refine ⟨α3, s1, ih3, h3, hs2.ext h2 x3, Go.mono (go_noex (GoN.bind2 (rep := WalkS X.K) ((x'.trans x2).trans x3) g3)) fun J1 H4 ⟨α4, it1, ih4, x4, h4, ⟨G1, Y1, wk1, stab1, yld1⟩, g4⟩ => ?_⟩
          have eD4 := x4.keep Dd _ eD3.1 (fun _ z => by cases z) eD3.2
          have m4 := x4.hs Dd m3
          have X4 := ((x'.trans x2).trans x3).trans x4
          refine walk_loop wk1 (fun j H' => ∃ α' ih' acc vacc, Ext α1 H1 α' H' ∧ Dd ∈ α'.hd ∧ RH X.K α' H' ih' ∧ RS X.K α' H' iσ σ ∧ RS X.K α' H' s1 σ2 ∧ H' Dd = some (.lst vacc) ∧ Reps X.K α' H' acc vacc ∧
              GoN X.K X.mg (fun c H' => W c none σ H') α1 H1 (lcDK it1 t1 mc1 me (wipeD s1 vs1) (fun acc h => lcD2 it t mc mi1 t1 mc1 me vs1 (wipeD iσ vs) (it.1.drop (i + 1)) acc h) (it1.1.drop j) acc ih') Q) ?_ ?_ ?_ ?_
          · exact ⟨α4, ih4, acc, vacc, X4, m4, h4, ((s'.ext h' x2).ext h2 x3).ext h3 x4, (hs2.ext h2 x3).ext h3 x4, eD4.1, ((ra.ext h' x2).ext h2 x3).ext h3 x4, g4⟩
          · intro j H' hj _
            exact stab1 H'
          · intro j x H' H'' hj ⟨α5, ih5, acc, vacc, x', nd, h', s', sb, eD, ra, g'⟩ y
            have st := lcDK_stable g'
            obtain ⟨d, ed, x2, h2, r2⟩ := yld1 j H' x H'' α5 ih5 hj h' y
            have es : it1.1.drop j = d :: it1.1.drop (j + 1) := by
              rw [List.drop_eq_getElem_cons hj]
              rw [List.getElem?_eq_getElem hj] at ed
              rw [Option.some.inj ed]
            rw [es, lcDK, if_pos st] at g'
            cases et : t1.set d (wipeD s1 vs1) with
            | none => rw [et] at g'; exact g'.elim
            | some s3 =>
              rw [et] at g'
              dsimp only at g'
              refine ⟨α5, d, wipeD s1 vs1, ih5, s3, h2, ((sb.ext h' x2).wipe vs1), r2, et, fun σ3 hs3 wp => ⟨by rw [wp vs1 hv1, wipe_twice], ?_⟩⟩
              refine ⟨α5, s3, ih5, h2, hs3, ?_⟩
              refine Go.mono (go_noex (GoN.bind2 (rep := repB) (x'.trans x2) g')) fun b H6 ⟨α6, b', ih6, x6, h6, r6, g6⟩ => ?_
              cases r6
              have eD6 := x6.keep Dd _ ((x2.keep Dd _ eD (fun _ z => by cases z) (h'.dj Dd nd)).1) (fun _ z => by cases z) (h'.dj Dd nd)
              have m6 := x6.hs Dd (x2.hs Dd nd)
              cases b with
              | false =>
                rw [if_neg Bool.false_ne_true] at g6 ⊢
                exact ⟨α6, ih6, acc, vacc, (x'.trans x2).trans x6, m6, h6, (s'.ext h' x2).ext h2 x6, (sb.ext h' x2).ext h2 x6, eD6.1, (ra.ext h' x2).ext h2 x6, g6⟩
              | true =>
                rw [if_pos rfl] at g6
                rw [if_pos rfl]
                refine ⟨α6, s3, ih6, h6, hs3.ext h2 x6, Go.mono (go_noex (GoN.bind2 (rep := Rep X.K) ((x'.trans x2).trans x6) g6)) fun v H7 ⟨α7, dv, ih7, x7, h7, r7, g7⟩ => ?_⟩
                have eD7 := x7.keep Dd _ eD6.1 (fun _ z => by cases z) eD6.2
                have m7 := x7.hs Dd m6
                have ra7 := ((ra.ext h' x2).ext h2 x6).ext h6 x7
                split at g7
                · next hl =>
                  refine ⟨vacc, eD7.1, by rw [← ra7.length]; exact hl, ?_⟩
                  have mp : Mp X.K α7 H7 α7 (upd H7 Dd (.lst (vacc ++ [v]))) := Mp.wr m7 eD7.1
                  exact ⟨α7, ih7, acc ++ [dv], vacc ++ [v], (((x'.trans x2).trans x6).trans x7).wr nD, m7, h7.wr m7 eD7.1, (((s'.ext h' x2).ext h2 x6).ext h6 x7).mp mp, (((sb.ext h' x2).ext h2 x6).ext h6 x7).mp mp, upd_same, (ra7.append (.one r7)).mp mp, g7⟩
                · exact g7.elim
          · intro H' ⟨α', ih', acc, vacc, x', nd, h', s', sb, eD, ra, g'⟩
            have st := lcDK_stable g'
            rw [List.drop_length, lcDK, if_pos st] at g'
            exact ⟨α', ih', acc, vacc, x', nd, h', s', eD, ra, g'⟩
    · intro H' ⟨α', ih', acc, vacc, x', nd, h', s', eD, ra, g'⟩
      have st := lcD2_stable g'
      rw [List.drop_length, lcD2, if_pos st] at g'
      exact g' α' H' Dd vacc x' h' (Fz.of h1 nD) nd eD ra⟩
end
end Dn
namespace Dn
open PySem PySem.Spec PyProof.Rows L2
section
variable {X : Cx}
theorem dn_lc2 {elt tg iter tg1 iter1 : Expr} {ifs ifs1 : List Expr} {scope : Scope} (own : List (Str × Nat)) (vs1 : List Nat) {pos : Pos} {mi mi1 : MI} {t t1 : Tg} {mc mc1 : MT} {me : ME} (hc : X.calm = true) (hN : X.N.Nodup) (hi : DI X tg iter mi) (ok : BlkOk X.N X.env.scope scope own)
    (hg : ∀ (s : Shared) (H : Hp) (C : Addr) (cl : List (Str × Addr)) (fp : List Addr), DG (X.blk s H scope (compEnvC scope cl C X.env) fp) tg t) (ht : ∀ (s : Shared) (H : Hp) (C : Addr) (cl : List (Str × Addr)) (fp : List Addr), DTs (X.blk s H scope (compEnvC scope cl C X.env) fp) ifs mc)
    (hi1 : ∀ (s : Shared) (H : Hp) (C : Addr) (cl : List (Str × Addr)) (fp : List Addr), DIS (X.blk s H scope (compEnvC scope cl C X.env) fp) tg1 iter1 mi1)
    (hg1 : ∀ (s : Shared) (H : Hp) (C : Addr) (cl : List (Str × Addr)) (fp : List Addr), DG (X.blk s H scope (compEnvC scope cl C X.env) fp) tg1 t1) (ht1 : ∀ (s : Shared) (H : Hp) (C : Addr) (cl : List (Str × Addr)) (fp : List Addr), DTs (X.blk s H scope (compEnvC scope cl C X.env) fp) ifs1 mc1)
    (he : ∀ (s : Shared) (H : Hp) (C : Addr) (cl : List (Str × Addr)) (fp : List Addr), DE (X.blk s H scope (compEnvC scope cl C X.env) fp) elt me) (hv : ∀ i ∈ t.vars, i ∈ own.map (·.2) := by decide) (hv1 : ∀ i ∈ t1.vars, i ∈ vs1 := by decide) (hw : ∀ i ∈ vs1, i ∈ own.map (·.2) := by decide)
    (hs : ∀ x, foldedSetIterable iter X.env x = pure x := by intro _; rfl) (hs1 : ∀ env x, foldedSetIterable iter1 env x = pure x := by intro _ _; rfl) :
    DN X (.ListComp elt [⟨tg, iter, ifs, 0⟩, ⟨tg1, iter1, ifs1, 0⟩] scope pos) (mLc2N mi t mc mi1 t1 mc1 me (own.map (·.2)) vs1) := fun W tk =>
  PE.mono (pe_lc2 (X := X) (own := own) (vs1 := vs1) (g := rdG X t) (tt := rdT X W0 mc) (wi1 := rdIS X W0 mi1) (g1 := rdG X t1) (tt1 := rdT X W0 mc1) (te := rdE X W0 me) hc hN (hi W tk) ok hw (fun s H C cl fp => hg s H C cl fp) (fun s H C cl fp => ht s H C cl fp W0 takes0) (fun s H C cl fp => hi1 s H C cl fp W0 takes0) (fun s H C cl fp => hg1 s H C cl fp) (fun s H C cl fp => ht1 s H C cl fp W0 takes0) (fun s H C cl fp => he s H C cl fp W0 takes0) hs hs1) fun σ H Q q => rd_lc2N hv hv1 σ H Q q
end
end Dn

set_option Elab.async false
set_option linter.all false
set_option maxRecDepth 100000
set_option maxHeartbeats 4000000
/-! what a def made for itself is forgotten behind it; slots that are not read any more -/
namespace Dn
open PySem PySem.Spec PyProof.Rows L2
mutual
/-- no live object from the n-th on is named -/
def D.low (n : Nat) : D → Bool
  | .ref k => decide (k < n)
  | .tup ds => D.lows n ds
  | .lst ds => D.lows n ds
  | .scr ds => D.lows n ds
  | .dic _ ds => D.lows n ds
  | .non => true
  | .bl _ => true
  | .int _ => true
  | .str _ => true
def D.lows (n : Nat) : List D → Bool
  | [] => true
  | d :: ds => d.low n && D.lows n ds
end
def IO.low (n : Nat) : IO → Bool
  | .lst ds => D.lows n ds
  | .dic _ ds => D.lows n ds
  | .tab _ _ => true
theorem lows_iff {n : Nat} : ∀ {ds : List D}, D.lows n ds = true ↔ ∀ d ∈ ds, d.low n = true
  | [] => by simp [D.lows]
  | d :: ds => by rw [D.lows, Bool.and_eq_true, lows_iff]; simp
mutual
/-- as data: new live lists as lists that nobody changes -/
def D.frz (h : IHp) (n : Nat) : D → Option D
  | .ref k => if k < n then some (.ref k) else match h[k]? with
    | some (.lst ds) => if D.lows n ds = true then some (.lst ds) else none
    | some (.dic ks ds) => if D.lows n ds = true then some (.dic ks ds) else none
    | _ => none
  | .tup ds => (D.frzs h n ds).map .tup
  | .lst ds => (D.frzs h n ds).map .lst
  | .scr ds => if D.lows n ds = true then some (.scr ds) else none
  | .dic ks ds => if D.lows n ds = true then some (.dic ks ds) else none
  | .non => some .non
  | .bl b => some (.bl b)
  | .int i => some (.int i)
  | .str x => some (.str x)
def D.frzs (h : IHp) (n : Nat) : List D → Option (List D)
  | [] => some []
  | d :: ds => match d.frz h n, D.frzs h n ds with
    | some e, some es => some (e :: es)
    | _, _ => none
end
mutual
theorem frz_low {h : IHp} {n : Nat} : ∀ {d : D}, d.low n = true → d.frz h n = some d
  | .ref k, e => by rw [D.frz, if_pos (of_decide_eq_true (by rw [D.low] at e; exact e))]
  | .tup ds, e => by rw [D.frz, frzs_lows (by rw [D.low] at e; exact e)]; rfl
  | .lst ds, e => by rw [D.frz, frzs_lows (by rw [D.low] at e; exact e)]; rfl
  | .scr ds, e => by rw [D.low] at e; rw [D.frz, if_pos e]
  | .dic ks ds, e => by rw [D.low] at e; rw [D.frz, if_pos e]
  | .non, _ => by rw [D.frz]
  | .bl _, _ => by rw [D.frz]
  | .int _, _ => by rw [D.frz]
  | .str _, _ => by rw [D.frz]
theorem frzs_lows {h : IHp} {n : Nat} : ∀ {ds : List D}, D.lows n ds = true → D.frzs h n ds = some ds
  | [], _ => by rw [D.frzs]
  | d :: ds, e => by
    rw [D.lows, Bool.and_eq_true] at e
    rw [D.frzs, frz_low e.1, frzs_lows e.2]
end
/-- the first n objects are as they were, or name nothing new -/
def GcOk (h h' : IHp) : Prop := h.length ≤ h'.length ∧ ∀ k, k < h.length → h'[k]? = h[k]? ∨ ∀ o, h'[k]? = some o → o.low h.length = true
open Classical in
noncomputable def gcK (h : IHp) (r : R D) : R D := match r with
  | .ok d h' => if GcOk h h' then (match d.frz h' h.length with
    | some e => .ok e (h'.take h.length)
    | none => .bad) else .bad
  | .ex c h' => if GcOk h h' then .ex c (h'.take h.length) else .bad
  | .bad => .bad
noncomputable def runG (N : Nat) (mb : MS) : MF := fun ds h => gcK h (runD N mb ds h)
section
variable {K : PySem.W.Frag} {α α' : Al} {H H' : Hp}
mutual
theorem Rep.low : ∀ {d : D} {v : V}, Rep K α H d v → d.low α.lv.length = true
  | _, _, .non => by rw [D.low]
  | _, _, .bl b => by rw [D.low]
  | _, _, .int i => by rw [D.low]
  | _, _, .str y => by rw [D.low]
  | _, _, .tup q r => by rw [D.low]; exact Reps.lows r
  | _, _, .lst q r => by rw [D.low]; exact Reps.lows r
  | _, _, .scr q r => by rw [D.low]; exact Reps.lows r
  | _, _, .ref e nt => by rw [D.low]; exact decide_eq_true (List.getElem?_eq_some_iff.mp e).1
  | _, _, .dic q e r => by rw [D.low]; exact Reps.lows r
theorem Reps.lows : ∀ {ds : List D} {vs : List V}, Reps K α H ds vs → D.lows α.lv.length ds = true
  | _, _, .nil => by rw [D.lows]
  | _, _, .cons r t => by rw [D.lows, Rep.low r, Reps.lows t]; rfl
end
def Al.first (α : Al) (n : Nat) : Al := { α with lv := α.lv.take n }
theorem Al.of_first {n : Nat} {a : Addr} (m : a ∈ (α.first n).lv) : a ∈ α.lv := List.mem_of_mem_take m
theorem SqF.first {n : Nat} {a : Addr} {vs : List V} (q : SqF α H a vs) : SqF (α.first n) H a vs := ⟨q.1, fun m => q.2.1 (Al.of_first m), q.2.2⟩
theorem DkF.first {n : Nat} {a : Addr} {kvs : List (Key × V)} (q : DkF α H a kvs) : DkF (α.first n) H a kvs := ⟨q.1, fun m => q.2 (Al.of_first m)⟩
mutual
theorem Rep.first {n : Nat} : ∀ {d : D} {v : V}, d.low n = true → Rep K α H d v → Rep K (α.first n) H d v
  | _, _, _, .non => .non
  | _, _, _, .bl b => .bl b
  | _, _, _, .int i => .int i
  | _, _, _, .str y => .str y
  | _, _, b, .tup q r => .tup q (Reps.first (by rw [D.low] at b; exact b) r)
  | _, _, b, .lst q r => .lst q.first (Reps.first (by rw [D.low] at b; exact b) r)
  | _, _, b, .scr q r => .scr (q.elim (fun z => .inl z.first) .inr) (Reps.first (by rw [D.low] at b; exact b) r)
  | _, _, b, .ref e nt => .ref (by
      rw [D.low] at b
      have b := of_decide_eq_true b
      unfold Al.first
      dsimp only
      rw [List.getElem?_take_of_lt b]
      exact e) nt
  | _, _, b, .dic q e r => .dic q.first e (Reps.first (by rw [D.low] at b; exact b) r)
theorem Reps.first {n : Nat} : ∀ {ds : List D} {vs : List V}, D.lows n ds = true → Reps K α H ds vs → Reps K (α.first n) H ds vs
  | _, _, _, .nil => .nil
  | _, _, b, .cons r t => by
    rw [D.lows, Bool.and_eq_true] at b
    exact .cons (Rep.first b.1 r) (Reps.first b.2 t)
end
theorem RepO.first {n : Nat} {a : Addr} {o : IO} {ho : HO} (b : o.low n = true) (r : RepO K α H a o ho) : RepO K (α.first n) H a o ho := by
  cases o with
  | lst ds =>
    obtain ⟨vs, rfl, q⟩ := r.lst
    exact Reps.first b q
  | dic ks ds =>
    obtain ⟨kvs, rfl, e, q⟩ := r.dic
    exact ⟨e, Reps.first b q⟩
  | tab P q =>
    cases ho with
    | tbl ps => exact ⟨r.1, r.2.1, fun pos cv e => let ⟨c, e1, e2, e3⟩ := r.2.2 pos cv e; ⟨c, e1, fun m => e2 (Al.of_first m), e3⟩⟩
    | _ => exact False.elim r
theorem RepO.low {a : Addr} {o : IO} {ho : HO} (r : RepO K α H a o ho) : o.low α.lv.length = true := by
  cases o with
  | lst ds =>
    obtain ⟨vs, rfl, q⟩ := r.lst
    exact q.lows
  | dic ks ds =>
    obtain ⟨kvs, rfl, e, q⟩ := r.dic
    exact q.lows
  | tab P q => rfl
theorem RH.first {h h' : IHp} (a : RH K α H h) (x : Ext α H α' H') (b : RH K α' H' h') (g : GcOk h h') : RH K (α'.first h.length) H' (h'.take h.length) := by
  have hl : α.lv.length = h.length := a.len
  refine ⟨?_, ?_, fun k o e => ?_, fun c m z => b.dj c m (Al.of_first z), b.hl⟩
  · unfold Al.first
    dsimp only
    rw [List.length_take, List.length_take, b.len]
  · exact List.Nodup.sublist (List.take_sublist _ _) b.nd
  · have hk : k < h.length := by
      have := (List.getElem?_eq_some_iff.mp e).1
      rw [List.length_take] at this
      omega
    rw [List.getElem?_take_of_lt hk] at e
    obtain ⟨p, ho, e1, e2, e3⟩ := b.ob k o e
    refine ⟨p, ho, ?_, e2, e3.first ?_⟩
    · unfold Al.first
      dsimp only
      rw [List.getElem?_take_of_lt hk]
      exact e1
    · rcases g.2 k hk with q | q
      · rw [q] at e
        obtain ⟨p', ho', f1, f2, f3⟩ := a.ob k o e
        have := f3.low
        rw [hl] at this
        exact this
      · exact q o e
theorem Ext.first {h : IHp} (a : RH K α H h) (x : Ext α H α' H') : Ext α H (α'.first h.length) H' := by
  refine ⟨?_, x.hd, x.hs, fun c u e nt m => ⟨(x.keep c u e nt m).1, fun z => (x.keep c u e nt m).2 (Al.of_first z)⟩, x.nt⟩
  unfold Al.first
  dsimp only
  obtain ⟨t, ht⟩ := x.pre
  rw [← ht, ← a.len, List.take_left]
  exact List.prefix_refl _
mutual
theorem Rep.frz {h : IHp} {n : Nat} (b : RH K α H h) : ∀ {d e : D} {v : V}, Rep K α H d v → d.frz h n = some e → Rep K (α.first n) H e v
  | _, _, _, .non, q => by rw [D.frz] at q; cases q; exact .non
  | _, _, _, .bl _, q => by rw [D.frz] at q; cases q; exact .bl _
  | _, _, _, .int _, q => by rw [D.frz] at q; cases q; exact .int _
  | _, _, _, .str _, q => by rw [D.frz] at q; cases q; exact .str _
  | _, _, _, .tup (ds := ds) r rs, q => by
    rw [D.frz] at q
    cases e : D.frzs h n ds with
    | none => rw [e] at q; cases q
    | some es => rw [e] at q; cases q; exact .tup r (Reps.frz b rs e)
  | _, _, _, .lst (ds := ds) r rs, q => by
    rw [D.frz] at q
    cases e : D.frzs h n ds with
    | none => rw [e] at q; cases q
    | some es => rw [e] at q; cases q; exact .lst r.first (Reps.frz b rs e)
  | _, _, _, .scr r rs, q => by
    rw [D.frz] at q
    split at q
    · next hb => cases q; exact .scr (r.elim (fun z => .inl z.first) .inr) (Reps.first hb rs)
    · cases q
  | _, _, _, .dic r e rs, q => by
    rw [D.frz] at q
    split at q
    · next hb => cases q; exact .dic r.first e (Reps.first hb rs)
    · cases q
  | _, _, _, .ref (n := k) (a := a) ea nt, q => by
    rw [D.frz] at q
    split at q
    · next hk =>
      cases q
      refine .ref ?_ nt
      unfold Al.first
      dsimp only
      rw [List.getElem?_take_of_lt hk]
      exact ea
    · next hk =>
      have nl : a ∉ (α.first n).lv := fun m => by
        unfold Al.first at m
        dsimp only at m
        obtain ⟨j, hj, ej⟩ := List.getElem_of_mem m
        have hj2 : j < n := by rw [List.length_take] at hj; omega
        rw [List.getElem_take] at ej
        have hj3 : j < α.lv.length := by rw [List.length_take] at hj; omega
        have : j = k := (List.getElem?_inj hj3 b.nd).mp (by rw [List.getElem?_eq_getElem hj3, ej, ea])
        omega
      have md : a ∉ α.hd := fun m => b.dj a m (List.mem_iff_getElem?.mpr ⟨k, ea⟩)
      split at q
      · next ds eo =>
        split at q
        · next hb =>
          cases q
          obtain ⟨a', ho, e1, e2, e3⟩ := b.ob _ _ eo
          rw [ea] at e1; cases e1
          obtain ⟨vs, rfl, rs⟩ := e3.lst
          exact .lst ⟨.inl e2, nl, md⟩ (Reps.first hb rs)
        · cases q
      · next ks ds eo =>
        split at q
        · next hb =>
          cases q
          obtain ⟨a', ho, e1, e2, e3⟩ := b.ob _ _ eo
          rw [ea] at e1; cases e1
          obtain ⟨kvs, rfl, ek, rs⟩ := e3.dic
          exact .dic ⟨.inl e2, nl⟩ ek (Reps.first hb rs)
        · cases q
      · cases q
theorem Reps.frz {h : IHp} {n : Nat} (b : RH K α H h) : ∀ {ds es : List D} {vs : List V}, Reps K α H ds vs → D.frzs h n ds = some es → Reps K (α.first n) H es vs
  | _, _, _, .nil, q => by rw [D.frzs] at q; cases q; exact .nil
  | d :: ds, _, _, .cons r rs, q => by
    rw [D.frzs] at q
    cases e1 : d.frz h n with
    | none => rw [e1] at q; cases q
    | some e =>
      cases e2 : D.frzs h n ds with
      | none => rw [e1, e2] at q; cases q
      | some es => rw [e1, e2] at q; cases q; exact .cons (Rep.frz b r e1) (Reps.frz b rs e2)
end
theorem rf_gc {N : Nat} {mb : MS} : Rf K (runD N mb) (runG N mb) := fun mg α H ds vs ih E Q a rs g => by
  unfold runG gcK at g
  cases e : runD N mb ds ih with
  | bad => rw [e] at g; exact g
  | ok d h' =>
    rw [e] at g
    dsimp only at g
    split at g
    · next gk =>
      cases ef : d.frz h' ih.length with
      | none => rw [ef] at g; exact g.elim
      | some d' =>
        rw [ef] at g
        exact fun α' v H' x b r => g (α'.first ih.length) v H' (Ext.first a x) (RH.first a x b gk) (Rep.frz b r ef)
    · exact g.elim
  | ex c h' =>
    rw [e] at g
    dsimp only at g
    split at g
    · next gk => exact fun C α' H' hC x b => g C (α'.first ih.length) H' hC (Ext.first a x) (RH.first a x b gk)
    · exact g.elim
end
/-! ### slots that are not read any more -/
def sKl (vs : List Nat) (m : MS) : MS := fun s h => match m s h with
  | .nx s h => .nx (wipeD s vs) h
  | .ct s h => .ct (wipeD s vs) h
  | .bk s h => .bk (wipeD s vs) h
  | r => r
theorem wipeD_get {s : ISt} {d : D} {i : Nat} : ∀ {vs : List Nat}, (wipeD s vs)[i]? = some (some d) → s[i]? = some (some d)
  | [], e => e
  | v :: vs, e => by
    unfold wipeD at e
    by_cases h : v = i
    · subst h
      rw [List.getElem?_set] at e
      simp at e
    · rw [List.getElem?_set_ne h] at e
      exact wipeD_get e
theorem RS.forget {K : PySem.W.Frag} {α : Al} {H : Hp} {iσ : ISt} {σ : L2.St} (s : RS K α H iσ σ) (vs : List Nat) : RS K α H (wipeD iσ vs) σ :=
  ⟨(wipeD_len _ _).trans s.1, fun i d e => s.2 i d (wipeD_get e)⟩
theorem GoS.kl {K : PySem.W.Frag} {mg : Str → Option Value} {W : WX} {α : Al} {H : Hp} {m : MS} {s : ISt} {h : IHp} {D : Ends} {vs : List Nat} (g : GoS K mg W α H (sKl vs m s h) D) : GoS K mg W α H (m s h) D := by
  unfold sKl at g
  cases e : m s h with
  | nx s' h' => rw [e] at g; exact fun α' σ' H' x hh ss => g α' σ' H' x hh (ss.forget vs)
  | ct s' h' => rw [e] at g; exact fun α' σ' H' x hh ss => g α' σ' H' x hh (ss.forget vs)
  | bk s' h' => rw [e] at g; exact fun α' σ' H' x hh ss => g α' σ' H' x hh (ss.forget vs)
  | rt d h' => rw [e] at g; exact g
  | ex c s' h' => rw [e] at g; exact g
  | bad => rw [e] at g; exact g
section
variable {X : Cx}
theorem ds_kl (vs : List Nat) {st : Stmt} {m : MS} (h : DS X st m) : DS X st (sKl vs m) := fun W tk => PS.mono (h W tk) fun D σ H ⟨α, iσ, ih, a, b, g⟩ => ⟨α, iσ, ih, a, b, g.kl⟩
theorem dss_kl (vs : List Nat) {st : List Stmt} {m : MS} (h : DSs X st m) : DSs X st (sKl vs m) := fun W tk => PSs.mono (h W tk) fun D σ H ⟨α, iσ, ih, a, b, g⟩ => ⟨α, iσ, ih, a, b, g.kl⟩
end
end Dn

set_option Elab.async false
set_option linter.all false
set_option maxRecDepth 100000
set_option maxHeartbeats 4000000
/-! set(xs) of a list of ints, sorted(..) of a set of any size -/
namespace L2
open PySem PySem.Spec PyProof.Rows
abbrev nSet (w : World) : Obj := { cls := .type "set", dict := none, data := .set #[] 0 (.fresh 0 0 (!w.params.followText "set-order")) }
abbrev hpS (w : World) (s : Shared) : Heap := s.heap.push (nSet w)
section
variable {P : Program} {w : World} {A : Around} {E : Value → Shared → Prop} {s : Shared}
set_option maxRecDepth 100000 in
set_option maxHeartbeats 3200000 in
theorem set_lst_call {l : Addr} {items : Array Value} (ns : List Int) {Q : Value → Shared → Prop} (hnd : A.handled = none) (hL : s.heap.IsList l items) (hI : IntsAre items.toList ns) (hB : ns.length + 1 < scanBound)
    (h : ∀ (h' : Heap) (tk c : Nat), SetR w h' s.heap.objs.size (fun j => decide (j ∈ ns)) c → c ≤ ns.length → (∀ b o, s.heap.get? b = some o → h'.get? b = some o) → Q (.ref s.heap.objs.size) { s with heap := h', toks := tk }) :
    wpAny (model P w) A (call (.type "set") [.ref l]) Q E s := by
  have lenI : items.size = ns.length := by
    have q := IntsAre.length hI
    rw [Array.length_toList] at q
    exact q
  obtain ⟨c, tl, mro_⟩ := F.called_set.mro
  have made_ := F.called_set.made
  have sub_ := F.called_set.sub
  refine wpAny_call (codeAny_of_tree ?_)
  show wpAny _ _ (callAny (.type "set") _) _ _ _
  refine wpAny_pure ⟨Code.quiet_builtin _ (by decide +kernel), codeAny_builtin F.entry_type_call ?_⟩
  rw [Around.under_plain (weight_type_call_type "set" [.ref l] []) rfl]
  have h1 := F.called_set.notType
  have h2 := F.called_set.canCreate
  have ct_ := F.typeCall_set_1 (.ref l)
  repeat (any_goals (first | assumption | wp_step))

  refine codeAny_mono (code_set_led1 (.ref l) (E := E) (Q₁ := fun obj s₁ => obj = .ref s.heap.objs.size ∧ s₁ = { s with heap := hpS w s }) ⟨rfl, rfl⟩) fun r s₁ hr => ?_
  cases r with
  | error e => exact hr
  | ok fl =>
    cases fl with
    | ret obj =>
      obtain ⟨rfl, rfl⟩ := hr
      have oS : (hpS w s).get? s.heap.objs.size = some (nSet w) := Heap.get?_push_size _ rfl
      have tS : Shared.TypeIs { s with heap := hpS w s } (.ref s.heap.objs.size) "set" := ⟨_, oS, rfl⟩
      have init_ := F.called_set.init.lookup
      have bind_ := F.called_set.init.bind (.ref s.heap.objs.size)
      repeat (any_goals (first | assumption | wp_step))

      refine codeAny_mono (codeAny_call_builtin (R := wants (fun r s₂ => r = .none ∧ ∃ h' tk c, s₂ = { s with heap := h', toks := tk } ∧ SetR w h' s.heap.objs.size (fun j => decide (j ∈ ns)) c ∧ c ≤ ns.length ∧
          (∀ b o, s.heap.get? b = some o → h'.get? b = some o)) E) F.called_set.init.plain F.entry_set_init (check_set_init_1 tS ?_)) fun r₂ s₂ hr₂ => ?_
      · obtain ⟨ol, oL, cL, nl, dL⟩ := hL
        obtain ⟨ocls, odict, odata, oslots⟩ := ol
        simp only at cL dL
        subst cL; subst dL
        have oL2 : (hpS w s).get? l = some { cls := .type "list", dict := odict, data := .seq items nl, slots := oslots } := Heap.get?_push_of_some _ oL
        have ss1 := F.sub_list_set
        have ss2 := F.sub_list_frozenset
        have nd_ : (Value.type "list" == Value.type "dict") = false := by decide
        have iL : (hpS w s).IsList l items := ⟨_, oL2, rfl, nl, rfl⟩
        unfold Builtin.«set.__init__» noKeywords Builtin.Frozenset.updateFrom
        generalize hPI : pyIter = PI
        wp_walk
        subst hPI

        refine wpAny_pyIter_list iL ?_
        refine wpAny_bind (wpAny_runValue ?_)
        have ltS : l < s.heap.objs.size := Heap.lt_size oL
        have hn3 : A.in1.in1.in1.handled = none := by simp [hnd]
        have sz1 : (hpS w s).objs.size = s.heap.objs.size + 1 := Heap.size_push ..
        have neI : l ≠ (hpS w s).objs.size := by
          rw [Heap.size_push]; exact Nat.ne_of_lt (Nat.lt_succ_of_lt ltS)
        have nSf : s.heap.objs.size ∉ [(hpS w s).objs.size, l] := by
          rw [Heap.size_push]; simp only [List.mem_cons, List.mem_singleton, List.not_mem_nil, or_false, not_or]
          exact ⟨Nat.ne_of_lt (Nat.lt_succ_self _), Nat.ne_of_gt ltS⟩
        have ints_ : ∀ (i : Nat) (v : Value), items[i]? = some v → ∃ k t, ns[i]? = some k ∧ v = .int k t := fun i v hv => by
          have hi : i < ns.length := by rw [← lenI]; exact (Array.getElem?_eq_some_iff.mp hv).1
          obtain ⟨t, e⟩ := PyProof.Rows.IntsAre.int_at hI i v (by rw [Array.getElem?_toList]; exact hv)
          refine ⟨ns[i], t, List.getElem?_eq_getElem hi, ?_⟩
          rw [e, List.getD_eq_getElem?_getD, List.getElem?_eq_getElem hi] <;> rfl
        refine set_update_ints ((Walks.list hn3 _ l neI items).toS) s.heap.objs.size
          nSf ns lenI hB ints_ (items.size - 0) 0 _ (by omega) (Nat.zero_le _)
          ⟨⟨_, Heap.get?_push_size _ rfl, rfl, rfl⟩, (iL.push _)⟩ ?hS0 ?hR
        case hS0 =>
          have gS : ((hpS w s).push { cls := .type "list_iterator", data := .fields #[.ref l, .int 0 0] }).get? s.heap.objs.size
              = some (nSet w) := Heap.get?_push_of_some _ oS
          exact ⟨0, Nat.le_refl 0, setR_new_at gS⟩
        case hR =>
          intro s' c' hm cle oS2
          obtain ⟨h', g2, d', tk', os'⟩ := s'
          have eg : g2 = s.gens := hm.gens
          have ed : d' = s.drawn := hm.drawn
          have eo : os' = s.os := hm.os
          subst eg; subst ed; subst eo
          show wpAny _ _ _ _ _ _
          refine wpAny_pure ?_
          show wpAny _ _ (ret Value.none) _ _ _
          rw [lenI] at cle
          refine wpAny_pure ⟨rfl, h', tk', c', rfl, oS2, cle, fun b o e => ?_⟩
          have hb0 : b < s.heap.objs.size := Heap.lt_size e
          have hb1 : b ≠ s.heap.objs.size := Nat.ne_of_lt hb0
          have hb2 : b ≠ (hpS w s).objs.size := by
            rw [Heap.size_push]; exact Nat.ne_of_lt (Nat.lt_succ_of_lt hb0)
          exact hm.heap b o (by simp only [List.mem_cons, List.mem_singleton, List.not_mem_nil, or_false, not_or]; exact ⟨hb1, hb2⟩) (Heap.get?_push_of_some _ (Heap.get?_push_of_some _ e))

      · cases r₂ with
        | error e => exact hr₂
        | ok fl₂ =>
          cases fl₂ with
          | ret r =>
            obtain ⟨rfl, h', tk, c', rfl, oS2, cle, kp⟩ := hr₂
            repeat (any_goals (first | assumption | wp_step))
            exact h _ _ _ oS2 cle kp
          | _ => exact hr₂.elim
    | _ => exact hr.elim


theorem lt_asc : ∀ ns : List Int, ns.Pairwise (· ≤ ·) → ns.Nodup → ns.Pairwise (· < ·)
  | [], _, _ => .nil
  | n :: ns, h, d => by
    rw [List.pairwise_cons] at h ⊢
    rw [List.nodup_cons] at d
    refine ⟨fun m hm => ?_, lt_asc ns h.2 d.2⟩
    have := h.1 m hm
    have : n ≠ m := fun e => d.1 (e ▸ hm)
    omega
/-- sorted(found), however many -/
theorem set_sorted {a : Addr} {S : Int → Bool} {n : Nat} {Q : Value → Shared → Prop} (R : SetR w s.heap a S n) (hd : A.handled = none)
    (q : ∀ t p (out : List Value) (c : Nat) (ns : List Int), (∀ b o, s.heap.get? b = some o → t.heap.get? b = some o) → t.gens = s.gens → t.os = s.os → s.heap.objs.size ≤ p →
      t.heap.get? p = some (seqObj "list" out.toArray c) → IntsAre out ns → ns.Pairwise (· < ·) → (∀ k, k ∈ ns ↔ S k = true) → ns.length = n → n ≤ sizeLine → Q (.ref p) t) :
    wpAny (model P w) A (call (.builtin "sorted") [.ref a]) Q E s := by
  obtain ⟨ob, es, ep, tb, at_, ex, da, ks, nd, me, bd, fi, le_, rt, ld⟩ := R
  refine Calls.call_function_entry kind_sorted plain_sorted entry_sorted (args_sorted1 _) ?_
  unfold Builtin.«sorted»
  refine wpAny_bind (m := checkCount "sorted" 1 1 _) (wpAny_pure ?_)
  refine wpAny_bind (collect_set (A := A.in1) hd ⟨ob, at_, ex.1, da⟩ fi bd rt ld fun t1 us k1 z1 g1 o1 pm => ?_)
  have ul : us.length = n := by rw [pm.length_eq, List.length_map, Array.length_toList]; exact le_
  have nl : n ≤ sizeLine := by
    have := fits_of_scanBound bd
    rw [le_] at this
    exact this
  have uI : IntsAre us (us.map Builtin.Re.reRawOf) := ints_of us fun v hv => by
    obtain ⟨e, he, rfl⟩ := List.mem_map.mp (pm.mem_iff.mp hv)
    obtain ⟨k, tk, h1, _⟩ := ks e he
    exact ⟨k, tk, h1⟩
  have pk : (us.map Builtin.Re.reRawOf).Perm (es.toList.map keyOf) := by
    have := pm.map Builtin.Re.reRawOf
    rwa [List.map_map] at this
  refine wpAny_bind (wpAny_newList ?_ (by rw [ul]; exact nl))
  have oL : (t1.heap.push (seqObj "list" us.toArray 0)).get? t1.heap.objs.size = some (seqObj "list" us.toArray 0) := Heap.get?_push_size _ rfl
  refine wpAny_bind (wpAny_holding (wpAny_call_entry slot_list_sort ⟨_, oL, rfl⟩ entry_list_sort (SrtO.list_sort_ord SrtO.swo_int oL (by rw [ul]; exact nl) (fun h2 => SrtO.ints_sortable uI h2) fun out a1 a2 => ⟨_, rfl, ?_⟩) (args_list_sort _)))
  obtain ⟨b1, b2, b3⟩ := SrtO.ints_out uI a1 a2
  obtain ⟨c, hc⟩ := sortedHeap_at (vs := us) (out := out.toArray) oL
  have pn : (out.map SrtO.iv).Perm (es.toList.map keyOf) := b2.trans pk
  refine wpAny_pure ⟨_, rfl, q _ t1.heap.objs.size out c _ (fun b u e => ?_) g1 o1 z1 hc b1 (lt_asc _ b3 (pn.nodup_iff.mpr nd)) (fun k => by rw [pn.mem_iff, ← me k]) (by rw [pn.length_eq, List.length_map, Array.length_toList]; exact le_) nl⟩
  have := k1 b u e
  have lt := Heap.lt_size this
  refine (sortedHeap_old (Nat.ne_of_lt lt) (by rw [size_push']; exact Nat.lt_succ_of_lt lt)).trans ?_
  exact Heap.get?_push_of_some _ this
end
end L2

set_option Elab.async false
set_option linter.all false
set_option maxRecDepth 100000
set_option maxHeartbeats 4000000
/-! sorted(set(xs)) -/
namespace Dn
open PySem PySem.Spec PyProof.Rows L2
section
variable {X : Cx}
theorem cr_setL (hc : X.calm = true) : CallR X (.type "set") (fun xs H Q => ∃ (l : Addr) (ns : List Int), xs = [.ref l] ∧ SqL X.K H l (ns.map V.int) ∧ ns.length + 1 < scanBound ∧
    ∀ (a : Addr) (c : Nat), H a = none → c ≤ ns.length → Q (.ref a) (upd H a (SetO X.w a (fun j => decide (j ∈ ns)) c))) := by
  intro pins s σ H xs us Q I r ⟨l, ns, e, hq, hb, q⟩
  subst e
  rw [Vals.ref1 r]
  obtain ⟨its, rv, p, hz⟩ := I.list hq
  refine set_lst_call ns (I.ok.hd hc) p.isList (by simpa using rv.ints) hb fun h' tk c R hcl k => ?_
  have hn : H s.heap.objs.size = none := I.hok.fresh (Nat.le_refl _)
  exact ⟨.ref s.heap.objs.size, _, I.laid (t' := tk) k (Nat.le_refl _) (setO_new R), rfl, q _ c hn hcl⟩
theorem cr_sortedB (hc : X.calm = true) : CallR X (.builtin "sorted") (fun vs H Q => ∃ (a : Addr) (S : Int → Bool) (n : Nat), vs = [V.ref a] ∧ H a = some (SetO X.w a S n) ∧
    ∀ (ns : List Int) (p : Addr), ns.Pairwise (· < ·) → (∀ k : Int, k ∈ ns ↔ S k = true) → ns.length = n → H p = none → Q (.ref p) (upd H p (.lst (ns.map V.int)))) := by
  intro pins s σ H vs us Q I r ⟨a, S, n, e, ha, q⟩
  subst e
  rw [Vals.ref1 r]
  refine set_sorted (setO_get I ha) (I.ok.hd hc) fun t p out c ns k g o hp hg hi hs hm hl hz => ?_
  have hlen : (ns.map V.int).length ≤ sizeLine := by rw [List.length_map, hl]; exact hz
  have hn : H p = none := I.hok.fresh hp
  have J : L2.Inv X pins σ (upd H p (.lst (ns.map V.int))) { s with heap := t.heap, gens := t.gens, drawn := t.drawn, toks := t.toks } :=
    I.call (ch := []) (Un.laid k hp hn) (I.hok.laid k hp ⟨hlen, out, c, vals_of_ints hi, hg⟩) (by rw [g]; exact I.bare) (fun _ z => nomatch z)
  have e : t = { s with heap := t.heap, gens := t.gens, drawn := t.drawn, toks := t.toks } := by
    cases t
    cases s
    cases o
    rfl
  rw [e]
  exact ⟨.ref p, _, J, rfl, q ns p hs hm hl hn⟩
/-- sorted(set(xs)), xs a tuple or a list of whole numbers -/
def gSrtSet (h : IHp) (d : D) : Option (List D) := (seqOf h d).bind fun ds => (intsOf ds).bind fun ns => if ns.length + 1 < 4096 then some ((asc ns).map D.int) else none
def mSrtSetN (m : ME) : MA := fun σ h => (m σ h).bind fun d h => R.opt (gSrtSet h d) h
def rSetAny (X : Cx) : List V → Hp → VK → Prop := fun xs H Q => ∃ (l : Addr) (ns : List Int), xs = [.ref l] ∧ (SqL X.K H l (ns.map V.int) ∨ SqT X.K H l (ns.map V.int)) ∧ ns.length + 1 < scanBound ∧
    ∀ (a : Addr) (c : Nat), H a = none → c ≤ ns.length → Q (.ref a) (upd H a (SetO X.w a (fun j => decide (j ∈ ns)) c))
theorem cr_setA (hc : X.calm = true) : CallR X (.type "set") (rSetAny X) := fun pins s σ H xs us Q I r ⟨l, ns, e, hq, hb, q⟩ => by
  rcases hq with hq | hq
  · exact cr_setL hc pins s σ H xs us Q I r ⟨l, ns, e, hq, hb, q⟩
  · exact cr_setT hc pins s σ H xs us Q I r ⟨l, ns, e, hq, hb, q⟩
theorem dn_srtSet {e : Expr} {m : ME} {p p2 pos pos2 : Pos} (hc : X.calm = true) (hg : Gl X "sorted") (hm : X.mg "sorted" = none) (hg2 : Gl X "set") (hm2 : X.mg "set" = none) (he : DE X e m) (hv : bootBuiltins "sorted" = some (.builtin "sorted")) (hv2 : bootBuiltins "set" = some (.type "set"))
    (na : starEach [e] X.env = (false, eval e X.env) :: starEach [] X.env := by rfl)
    (nb : starEach [.Call (.Name "set" p2) [e] [] pos2] X.env = (false, eval (.Call (.Name "set" p2) [e] [] pos2) X.env) :: starEach [] X.env := by rfl) (hpl : (backTo pos2 (starEach [] X.env)).any (·.1) = false := by rfl) (hpl2 : (backTo pos (starEach [] X.env)).any (·.1) = false := by rfl) :
    DN X (.Call (.Name "sorted" p) [.Call (.Name "set" p2) [e] [] pos2] [] pos) (mSrtSetN m) := fun W tk =>
  PE.mono (pe_callB (cr_sortedB hc) hg hm hv (pa_cons (pe_callTy (cr_setA hc) hg2 hm2 hv2 (pa_cons (he W tk) pa_nil na) (by decide) (by decide) na hpl) pa_nil nb) (by decide) (by decide) nb hpl2) fun σ H Q ⟨α, iσ, ih, h, s, g⟩ => ⟨α, iσ, ih, h, s, (GoN.bindD g).mono fun v H1 ⟨α1, d, ih1, x1, h1, r1, g1⟩ => by
    cases ez : gSrtSet ih1 d with
    | none => rw [ez] at g1; exact g1.elim
    | some es =>
      rw [ez] at g1
      unfold gSrtSet at ez
      cases e1 : seqOf ih1 d with
      | none => rw [e1] at ez; cases ez
      | some ds =>
        rw [e1, Option.bind_some] at ez
        cases e2 : intsOf ds with
        | none => rw [e2] at ez; cases ez
        | some ns =>
          rw [e2, Option.bind_some] at ez
          split at ez
          · next hl =>
            cases ez
            obtain ⟨l, vs, rfl, q, rs⟩ := seq_rep h1 r1 e1
            have ev := ints_rep rs e2
            subst ev
            refine ⟨l, ns, rfl, q, by unfold scanBound; exact hl, fun a c n hcl => ⟨a, _, c, rfl, upd_same, fun ns' p h1' h2' h3' n' => ?_⟩⟩
            have e3 : ns' = asc ns := asc_uniq h1' (asc_sorted ns) fun j => by rw [h2', mem_asc]; simp
            subst e3
            exact GoN.at (GoN.mv (Ext.new n) g1) (h1.new n) (reps_int _) n'
          · cases ez⟩
end
end Dn

set_option Elab.async false
set_option linter.all false
set_option maxRecDepth 100000
set_option maxHeartbeats 4000000
/-! range(a, b, c) -/
namespace Dn
open PySem PySem.Spec PyProof.Rows L2
def rgD3 (i c : Int) (n : Nat) : List D := (List.range n).map fun k => .int (i + (k : Nat) * c)
def rg3 (ds : List D) : Option (Int × Int × Nat) := match ds with
  | [.int i, .int j, .int c] => if c ≠ 0 ∧ c.natAbs < 1073741824 ∧ Builtin.Range.small i j c = true ∧ 0 ≤ Builtin.Range.rangeSize i j c then some (i, c, (Builtin.Range.rangeSize i j c).toNat) else none
  | _ => none
def rng3 (ds : List D) : Option It1 := (rg3 ds).map fun p => (rgD3 p.1 p.2.1 p.2.2, none)
def mRng3 (ms : MA) : MI := fun σ h => (ms σ h).bind fun ds h => R.opt (rng3 ds) h
def lst3 (ds : List D) : Option (List D) := (rg3 ds).bind fun p => if p.2.2 ≤ 2 ^ 24 then some (rgD3 p.1 p.2.1 p.2.2) else none
def mRgN3 (ms : MA) : MA := fun σ h => (ms σ h).bind fun ds h => R.opt (lst3 ds) h
theorem rg3_rep {K : PySem.W.Frag} {α : Al} {H : Hp} {ds : List D} {vs : List V} {i c : Int} {n : Nat} (r : Reps K α H ds vs) (e : rg3 ds = some (i, c, n)) : ∃ j, vs = [.int i, .int j, .int c] ∧ RgC i j c n := by
  unfold rg3 at e
  split at e
  · next i' j' c' =>
    split at e
    · next hc =>
      cases e
      cases r with
      | cons q1 r =>
      cases r with
      | cons q2 r =>
      cases r with
      | cons q3 r =>
      cases r
      cases q1
      cases q2
      cases q3
      exact ⟨j', rfl, hc.1, hc.2.1, hc.2.2.1, by have := hc.2.2.2; omega⟩
    · cases e
  · cases e
section
variable {X : Cx}
theorem walkD_rangeC {K : PySem.W.Frag} {α : Al} {H : Hp} {i c : Int} {n : Nat} : WalkD K α H (rgD3 i c n, none) (Itc i c n) := by
  have el : (rgD3 i c n, (none : Option Nat)).1.length = n := by simp [rgD3]
  refine ⟨_, _, by rw [el]; exact walk_rangeC, fun _ _ _ _ _ _ => trivial, fun k H1 x H2 α1 ih1 hi x1 h1 _ y => ?_⟩
  obtain ⟨e1, e2⟩ := y
  subst e1 e2
  rw [el] at hi
  exact ⟨.int (i + (k : Nat) * c), by simp [rgD3, hi], Ext.refl, h1, .int _⟩
theorem di_range3 {tg a b c : Expr} {ms : MA} {p pos : Pos} (hg : Gl X "range") (hm : X.mg "range" = none) (ha : DA X [a, b, c] ms) (hs : starEach [a, b, c] X.env = (false, eval a X.env) :: starEach [b, c] X.env := by rfl) (hpl : (backTo pos (starEach [b, c] X.env)).any (·.1) = false := by rfl) :
    DI X tg (.Call (.Name "range" p) [a, b, c] [] pos) (mRng3 ms) := fun W tk =>
  PI.mono (pi_range3 hg hm (ha W tk) hs hpl) fun σ H R ⟨α, iσ, ih, h, s, g⟩ => ⟨α, iσ, ih, h, s, g.bind.mono fun vs H1 ⟨α1, ds, ih1, x1, h1, r1, g1⟩ => by
    cases er : rng3 ds with
    | none => rw [er] at g1; exact g1.elim
    | some z =>
      rw [er] at g1
      unfold rng3 at er
      cases e3 : rg3 ds with
      | none => rw [e3] at er; cases er
      | some q =>
        obtain ⟨i, c, n⟩ := q
        rw [e3] at er
        cases er
        obtain ⟨j, ev, ok⟩ := rg3_rep r1 e3
        exact ⟨i, j, c, n, ev, ok, g1.ok h1 walkD_rangeC⟩⟩
theorem vals_of_at2 (us : List Value) (f : Nat → V) (h : ∀ j u, us[j]? = some u → RelV (f j) u) : Vals ((List.range us.length).map f) us := vals_of_get us f h
theorem dn_lstR3 {a b c : Expr} {ms : MA} {p p2 pos pos2 : Pos} (hc : X.calm = true) (hg : Gl X "list") (hm : X.mg "list" = none) (hg2 : Gl X "range") (hm2 : X.mg "range" = none) (ha : DA X [a, b, c] ms) (hs : starEach [a, b, c] X.env = (false, eval a X.env) :: starEach [b, c] X.env := by rfl) (hpl : (backTo pos2 (starEach [b, c] X.env)).any (·.1) = false := by rfl)
    (na : starEach [.Call (.Name "range" p2) [a, b, c] [] pos2] X.env = (false, eval (.Call (.Name "range" p2) [a, b, c] [] pos2) X.env) :: starEach [] X.env := by rfl) : DN X (.Call (.Name "list" p) [.Call (.Name "range" p2) [a, b, c] [] pos2] [] pos) (mRgN3 ms) := fun W tk => by
  refine ⟨fun pins s σ H Q I ⟨α, iσ, ih, h, ss, g⟩ => ?_⟩
  refine Call_ (ld_blt I hg hm boot_list (PyProof.Rows.callWith_type1 (args_cons ?_ na) na))
  refine Call_ (ld_blt I hg2 hm2 boot_range (PyProof.Rows.callWith_type1 (thn ((ha W tk).run pos2 pins s σ H (fun vs H1 => ∃ α1 ih1 i j c n, RH X.K α1 H1 ih1 ∧ vs = [.int i, .int j, .int c] ∧ RgC i j c n ∧ n ≤ 2 ^ 24 ∧ GoN X.K X.mg (fun c H' => W c none σ H') α1 H1 (.ok (rgD3 i c n) ih1) Q) I ⟨α, iσ, ih, h, ss, (GoN.bindA g).mono fun vs H1 ⟨α1, ds, ih1, x1, h1, r1, g1⟩ => ?_⟩) fun us s1 ⟨vs, H1, I1, r1, α1, ih1, i, j, c, n, h1, e, ⟨c0, c1, c2, c3⟩, hn, gg⟩ => ?_) hs hpl))
  · cases el : lst3 ds with
    | none => rw [el] at g1; exact g1.elim
    | some es =>
      rw [el] at g1
      unfold lst3 at el
      cases e3 : rg3 ds with
      | none => rw [e3] at el; cases el
      | some q =>
        obtain ⟨i, c, n⟩ := q
        rw [e3, Option.bind_some] at el
        split at el
        · next hn =>
          cases el
          obtain ⟨j, ev, ok⟩ := rg3_rep r1 e3
          exact ⟨α1, ih1, i, j, c, n, h1, ev, ok, hn, g1⟩
        · cases el
  · subst e
    cases r1 with
    | cons r r1 =>
    cases r1 with
    | cons r' r1 =>
    cases r1 with
    | cons r'' r1 =>
    cases r1
    obtain ⟨t, rfl⟩ := r
    obtain ⟨t', rfl⟩ := r'
    obtain ⟨t'', rfl⟩ := r''
    refine call_range_3 c0 ?_ (.inl (PyProof.noPylong_small c1))
    have I2 : L2.Inv X pins σ H1 { s1 with heap := s1.heap.push { cls := .type "range", data := .fields #[.int i t, .int j t', .int c t''] } } := I1.kept (t' := s1.toks) fun b o e => Heap.get?_push_of_some _ e
    refine args_nil ?_
    refine call_list_range (n := n) (I2.ok.hd hc) (IsRange.new _ _ _ _ _ _ _) c2 c3 hn fun h' tk acc cc hk e' hi => ?_
    have lz : n ≤ sizeLine := by rw [sizeLine_eq]; omega
    have el : acc.toList.length = n := by rw [Array.length_toList]; exact hi.1
    have vv : Vals ((List.range n).map fun k => V.int (i + (k : Nat) * c)) acc.toList := by
      rw [← el]
      refine vals_of_get acc.toList _ fun k u hj => ?_
      obtain ⟨tt, rfl⟩ := hi.2 k u (by rw [← hj, Array.getElem?_toList])
      exact ⟨tt, rfl⟩
    have nn : H1 (s1.heap.push { cls := .type "range", data := .fields #[.int i t, .int j t', .int c t''] }).objs.size = none := I2.hok.fresh (Nat.le_refl _)
    have rr : Reps X.K α1 H1 (rgD3 i c n) ((List.range n).map fun k => V.int (i + (k : Nat) * c)) := by
      unfold rgD3
      generalize List.range n = l
      induction l with
      | nil => exact .nil
      | cons x l ih => exact .cons (.int _) ih
    refine ⟨.ref _, upd H1 _ (.lst ((List.range n).map fun k => V.int (i + (k : Nat) * c))), I2.laid hk (Nat.le_refl _) ⟨?_, acc.toList, cc, vv, ?_⟩, rfl, GoN.at gg h1 rr nn⟩
    · rw [List.length_map, List.length_range]; exact lz
    · rw [Array.toArray_toList]; exact e'
end
end Dn

set_option Elab.async false
set_option linter.all false
set_option maxRecDepth 100000
set_option maxHeartbeats 4000000
/-! own exceptions' facts; the laws' _law_word as one fact; {}, isinstance with two classes -/
namespace Dn
open PySem PySem.Spec PyProof.Rows L2 LamX
section
variable {X : Cx}
theorem de_dic0 {pos : Pos} : DE X (.Dict [] [] pos) (mC (.dic [] [])) := fun W tk =>
  PE.mono pe_dnewK fun σ H Q ⟨α, iσ, ih, h, s, g⟩ p n => g α _ _ (Ext.new n) (h.new n) (.dic (kvs := []) ⟨.inl upd_same, h.free n⟩ rfl .nil)
def mIsi2 (T U : String) (m : ME) : ME := fun σ h => (m σ h).bind fun d h => .ok (.bl (isTy (tyD h d) T || isTy (tyD h d) U)) h
theorem de_isi2 (T U : String) {y z : Str} {e : Expr} {m : ME} {k : Nat} {p p2 p3 pt pos : Pos} (hT : T ∈ ["int", "bool", "str", "tuple", "list", "dict"]) (hU : U ∈ ["int", "bool", "str", "tuple", "list", "dict"]) (hg : Gl X "isinstance") (hm : X.mg "isinstance" = none)
    (hgy : Gl X y) (hmy : X.mg y = none) (hy : bootBuiltins y = some (.type T)) (hgz : Gl X z) (hmz : X.mg z = none) (hz : bootBuiltins z = some (.type U)) (he : DE X e m)
    (hv : bootBuiltins "isinstance" = some (.builtin "isinstance")) (hn : y ≠ "__name__" := by decide) (hdb : (y == ("__debug__" : Str)) = false := by decide) (hn2 : z ≠ "__name__" := by decide) (hdb2 : (z == ("__debug__" : Str)) = false := by decide)
    (h1 : starEach [e, .Tuple [.Name y p2, .Name z p3] k pt] X.env = (false, eval e X.env) :: starEach [.Tuple [.Name y p2, .Name z p3] k pt] X.env := by rfl) (hpl : (backTo pos (starEach [.Tuple [.Name y p2, .Name z p3] k pt] X.env)).any (·.1) = false := by rfl)
    (h2 : starEach [.Tuple [.Name y p2, .Name z p3] k pt] X.env = (false, eval (.Tuple [.Name y p2, .Name z p3] k pt) X.env) :: starEach [] X.env := by rfl)
    (h3 : starEach [.Name y p2, .Name z p3] X.env = (false, eval (.Name y p2) X.env) :: starEach [.Name z p3] X.env := by rfl) (h4 : starEach [.Name z p3] X.env = (false, eval (.Name z p3) X.env) :: starEach [] X.env := by rfl) :
    DE X (.Call (.Name "isinstance" p) [e, .Tuple [.Name y p2, .Name z p3] k pt] [] pos) (mIsi2 T U m) := fun W tk =>
  PE.mono (pe_callB call_isiT hg hm hv (pa_cons (he W tk) (pa_cons (pe_tup (pa_cons (pe_bltn (v := .ty T) hgy hmy hy rfl hn hdb) (pa_cons (pe_bltn (v := .ty U) hgz hmz hz rfl hn2 hdb2) pa_nil h4) h3)) pa_nil h2) h1) (by decide) (by decide) h1 hpl) fun σ H Q ⟨α, iσ, ih, h, s, g⟩ => ⟨α, iσ, ih, h, s, g.bind.mono fun v H1 ⟨α1, d, ih1, x1, h1', r1, g1⟩ => by
    refine ⟨show 2 ≤ sizeLine by decide, fun q n => ?_⟩
    have k1 := kit_ty (K := X.K) (kit_tys T hT _ (tyD_mem ih1 d))
    have k2 := kit_ty (K := X.K) (kit_tys U hU _ (tyD_mem ih1 d))
    refine ⟨v, q, [.ty T, .ty U], .type (tyD ih1 d), [.type T, .type U], isTy (tyD ih1 d) T || isTy (tyD ih1 d) U, rfl, upd_same, .cons (.ty T) (.cons (.ty U) .nil), rep_ty (h1'.new n) (r1.ext h1' (Ext.new n)), ?_, g1 α1 _ _ (Ext.new n) (h1'.new n) (.bl _)⟩
    refine kitAny_cons k1 (fun e => ?_) fun e => by rw [e]; rfl
    rw [e, Bool.false_or]
    exact kitAny_cons k2 (fun e => by rw [e]; exact kitAny_nil) fun e => e⟩
end
/-! ### own exceptions -/
/-- what is known of an own exception's class over ValueError -/
structure EC (K : PySem.W.Frag) (mg : Str → Option Value) (x : Str) (C : Addr) : Prop where
  m : mg x = some (.ref C)
  kp : PySem.W.keepIn K (.ref C) = true
  ex : PySem.W.excIn K C [.type "ValueError", .type "Exception", .type "BaseException", .type "object"] "ValueError.__new__" = true
  sb : PySem.W.subIn K (.ref C) (.type "BaseException") = some true
  ty : PySem.W.typeIn K (.ref C) = some (.type "type")
theorem EC.err {K : PySem.W.Frag} {mg : Str → Option Value} {x : Str} {C : Addr} (e : EC K mg x C) : ErrC K mg x := ⟨C, _, _, _, _, e.m, e.kp, PySem.F.excBase_ValueError, e.ex, e.sb, e.ty⟩
/-- .. where it is caught -/
structure EH (K : PySem.W.Frag) (C : Addr) : Prop where
  sb : PySem.W.subIn K (.ref C) (.type "BaseException") = some true
  ty : PySem.W.typeIn K (.ref C) = some (.type "type")
  ic : PySem.W.isClsIn K C = true
  sv : PySem.W.subIn K (.ref C) (.type "ValueError") = some true
  ss : PySem.W.subIn K (.ref C) (.ref C) = some true
  ga : PySem.W.findIn K (.ref C) "__getattribute__" = some (some (.builtin "BaseException.__getattribute__"))
  gg : PySem.W.findIn K (.ref C) "__getattr__" = some none
  hd : PySem.W.hasDictIn K C = true
  ha : PySem.W.findIn K (.ref C) "__class__" = some (some (.builtin "object.__class__"))
  hm : PySem.W.mroIn K C (.type "object") = some true
/-- of the built-in class -/
structure EO (K : PySem.W.Frag) : Prop where
  hn : PySem.W.specialIn K (.builtin "object.__class__") "__get__" = some (some (.builtin "getset_descriptor.__get__"))
  ht : PySem.W.takesIn K (.builtin "object.__class__") = some true
section
variable {K : PySem.W.Frag} {C D : Addr} {b : Bool}
theorem EH.exc (e : EH K C) (o : EO K) : ExcC K C := ⟨e.ga, e.gg, e.sb, e.hd, e.ha, o.hn, o.ht, e.hm⟩
theorem EH.kit (c : EH K C) (d : EH K D) (s : PySem.W.subIn K (.ref C) (.ref D) = some b) : PySem.W.kitOne K (.ref C) (.ref D) = some b := by
  unfold PySem.W.kitOne
  split
  · next h =>
    have e : C = D := by simpa using h
    subst e
    rw [c.ss] at s
    exact s
  · unfold PySem.W.kitCls
    have i := d.ic
    unfold PySem.W.isClsIn at i
    dsimp only
    rw [i, d.ty]
    exact s
theorem EH.kitV (c : EH K C) : PySem.W.kitOne K (.ref C) (.type "ValueError") = some true := by
  unfold PySem.W.kitOne
  rw [if_neg (fun h => by have e : Value.ref C = Value.type "ValueError" := by simpa using h
                          cases e)]
  unfold PySem.W.kitCls
  dsimp only
  rw [if_pos (by decide +kernel)]
  exact c.sv
theorem EH.exm (d : EH K D) (s : PySem.W.subIn K (.ref C) (.ref D) = some true) : PySem.W.exmOne K (.ref C) (.ref D) = some true := by
  unfold PySem.W.exmOne
  rw [d.sb, if_pos (by decide)]
  unfold PySem.W.kitCls
  have i := d.ic
  unfold PySem.W.isClsIn at i
  dsimp only
  rw [i, d.ty]
  exact s
end
/-- x(lambda: m) is 9, or the code of what m raises -/
def WordFn (K : PySem.W.Frag) (mg : Str → Option Value) (x : Str) (cdn : Str → Option Int) : Prop :=
  ∀ (X : Cx), X.K = K → X.mg = mg → ∀ {c P : Addr} {k : Nat} (n : Nat) {params : Arguments} {body : Expr} {scope : Scope} {m : ME} {p lpos pos : Pos}, Gl X x → TabB X.base X.mg c P → X.env.code = .ref c → Room (k + 2) X.A → LamS X.env.scope scope → defaultsOf params X.env = ([], []) →
    (∀ (q : Str) (cl : List (Str × Addr)) (pm cv ctv : Value), bindArgs (PySem.W.kla_fn "<lambda>" q params body scope cl pm cv ctv) ⟨[], []⟩ = pure []) →
    (∀ (A : Around) (outer : List Env) (s : Shared) (H : Hp) (E : XK) (f c' : Addr), Room k (lamCx X A outer s H E scope f c').A → DE (lamCx X A outer s H E scope f c') body m) →
    DE X (.Call (.Name x p) [.Lambda params body scope lpos] [] pos) (mLam n P (X.env.qual ++ "<lambda>") cdn m)
/-- the flags of a class among classes -/
def flagsK (K : PySem.W.Frag) (Cs : List Addr) (C : Addr) : List Bool := Cs.map fun D => (PySem.W.kitOne K (.ref C) (.ref D)).getD false
end Dn

set_option Elab.async false
set_option linter.all false
set_option maxRecDepth 100000
set_option maxHeartbeats 4000000
/-! the end of a law whose defs make lambdas: the tables are found by the top's own facts -/
namespace Dn
open PySem PySem.Spec PyProof.Rows L2 LamX
/-- what the top says of the tables of its defs -/
def TabOf (q : Program) (K : PySem.W.Frag) (h : Heap) : Prop := ∀ (d : DefRec) (x : Str) (c P : Addr), (recsOf q).find? (fun e => e.name == x) = some d → PySem.W.tabIn K x = some (c, P) → PySem.W.CodeHd h c P ∧ h.get? P = some { cls := .none, data := .fields #[] }
/-- the code object and the table of a def -/
theorem tab_in {K : PySem.W.Frag} {x : Str} {f c P : Addr} {oc cc : Value} {od dd : Option Addr} {fd : FuncData} {osl sl : Array (Option Value)} {vs : Array Value} (a : PySem.W.nsIn K mainGlobals x = some (some (.ref f))) (l : K.lookup f = some ⟨oc, od, .func fd, osl⟩) (e : fd.code = .ref c)
    (lc : K.lookup c = some ⟨cc, dd, .fields vs, sl⟩) (v : vs[11]? = some (.ref P)) : PySem.W.tabIn K x = some (c, P) := by
  unfold PySem.W.tabIn
  rw [a]
  dsimp only
  rw [l]
  dsimp only
  rw [e]
  dsimp only
  rw [lc]
  dsimp only
  rw [v]
theorem walkGT2 {fb : Bool} {l : PySem.W.OpenLaw} {n k : Nat} {q : Program} {loose : List Str} {XP : (Str → Option Value) → Heap → Prop} {YP : World → Heap → Prop} {d : DefRec} {K : Params → PySem.W.Frag} {x : Str}
    (hn : l.most = some n) (hn2 : n ≤ sizeLine) (hdf : d.params.defaults = []) (hr : Room k callerA) (hY : ∀ (w : World) (h : Heap), YP w h → (K w.params).In h)
    (F : ∀ (w : World) (mg : Str → Option Value) (fa : Addr) (h : Heap), TabOf q (K w.params) h → (K w.params).In h → h.Ns mainGlobals mg → mg d.name = some (.ref fa) → ∃ (fd : FuncData) (cs : List (Addr × Addr)) (sp : Sp), TabsAt (K w.params) h cs ∧ (∀ (s : Shared) (u : Value), BindsTo s fd ⟨[u], []⟩ [(x, u)]) ∧
        (∀ (H : Hp) (a : Addr) (ns : List Int), ns.length ≤ n → Start (K w.params) H cs a ns → sp [.ref a] H (fun v _ => v = .bl true) fun _ _ _ => False) ∧
        ∀ base : Heap, (K w.params).In base → base.Ns mainGlobals mg → (∀ p ∈ cs, TabB base mg p.1 p.2) → FnG fb l.prog w (K w.params) mg base k fa fd [x] sp) : PySem.W.WalkO q loose XP YP l.row.toRowW d [] (fun f vs => PySem.call f vs) := by
  refine Att.attach_call hn hdf fun w s₀ s₁ mg mb fa o pm cd doc a vs ns G Y ho hd hcd hmg hobj hints hlen hg => ?_
  have tf : TabOf q (K w.params) s₁.heap := fun dd y c P e1 e2 => PySem.W.tab_of G.T (hY w _ Y) e1 e2
  obtain ⟨fd, cs, sp, tb, hb, hsp, hF⟩ := F w mg fa _ tf (hY w _ Y) G.T.g hmg
  exact FnG.law_callT (hY w _ Y) G.T.g G.T.b G.T.builtins G.T.nolimit hg tb G.T.bmain hobj hints hlen hn2 hr hF hb hsp
theorem spLawT_ok {K : PySem.W.Frag} {n : Nat} {cs : List (Addr × Addr)} (H : Hp) (a : Addr) (ns : List Int) (hl : ns.length ≤ n) (S : Start K H cs a ns) : spLawT K n cs [.ref a] H (fun v _ => v = .bl true) fun _ _ _ => False := ⟨a, ns, rfl, S, hl, fun _ => rfl⟩
end Dn

set_option Elab.async false
set_option linter.all false
set_option maxRecDepth 100000
set_option maxHeartbeats 4000000
/-! reckoning with denotations, step by step: what is still to be done stands as a name, not as a function's body -/
namespace Dn
open PySem L2
@[simp] theorem sizeLine_v : sizeLine = 16777216 := by decide
section
variable {σ s : ISt} {h h' : IHp} {d : D} {m a b c : ME} {t u : MT} {ms : MA} {i j l n : Nat} {g g' : Op2} {k : Bool} {ds : List D}
/-! ### expressions -/
def varK (o : Option (Option D)) : ME := fun _ h => match o with
  | some (some d) => .ok d h
  | _ => .bad
@[simp] theorem varK_some : varK (some (some d)) σ h = .ok d h := (rfl)
@[simp] theorem mVar_eq : mVar i σ h = varK σ[i]? σ h := by
  unfold mVar varK
  cases σ[i]? with
  | none => rfl
  | some o => cases o <;> rfl
@[simp] theorem mC_eq : mC d σ h = .ok d h := (rfl)
@[simp] theorem mNil_eq : mNil σ h = .ok [] h := (rfl)
def kCons2 (d : D) : List D → IHp → R (List D) := fun ds h => .ok (d :: ds) h
def kCons (ms : MA) (σ : ISt) : D → IHp → R (List D) := fun d h => (ms σ h).bind (kCons2 d)
@[simp] theorem mCons_eq : mCons m ms σ h = (m σ h).bind (kCons ms σ) := (rfl)
@[simp] theorem kCons_eq : kCons ms σ d h = (ms σ h).bind (kCons2 d) := (rfl)
@[simp] theorem kCons2_eq : kCons2 d ds h = .ok (d :: ds) h := (rfl)
def kOp2 (g : Op2) (x : D) : D → IHp → R D := fun y h => R.opt (g h x y) h
def kOp (g : Op2) (b : ME) (σ : ISt) : D → IHp → R D := fun x h => (b σ h).bind (kOp2 g x)
@[simp] theorem mOp_eq : mOp g a b σ h = (a σ h).bind (kOp g b σ) := (rfl)
@[simp] theorem kOp_eq : kOp g b σ d h = (b σ h).bind (kOp2 g d) := (rfl)
@[simp] theorem kOp2_eq {e : D} : kOp2 g d e h = R.opt (g h d e) h := (rfl)
@[simp] theorem opt_some {β : Type} {x : β} : R.opt (some x) h = .ok x h := (rfl)
@[simp] theorem opt_none {β : Type} : R.opt (none : Option β) h = .bad := (rfl)
def kB : D → IHp → R Bool := fun d h => match d with
  | .bl b => .ok b h
  | _ => .bad
@[simp] theorem mB_eq : mB m σ h = (m σ h).bind kB := (rfl)
@[simp] theorem kB_bl : kB (.bl k) h = .ok k h := (rfl)
def kTru : D → IHp → R Bool := fun d h => R.opt (truD h d) h
@[simp] theorem mTru_eq : mTru m σ h = (m σ h).bind kTru := (rfl)
@[simp] theorem kTru_eq : kTru d h = R.opt (truD h d) h := (rfl)
@[simp] theorem truD_bl {x : Bool} : truD h (.bl x) = some x := (rfl)
@[simp] theorem truD_int {x : Int} : truD h (.int x) = some (x != 0) := (rfl)
@[simp] theorem truD_non : truD h .non = some false := (rfl)
@[simp] theorem truD_tup : truD h (.tup ds) = some !ds.isEmpty := (rfl)
@[simp] theorem truD_lst : truD h (.lst ds) = some !ds.isEmpty := (rfl)
def kAnd (u : MT) (σ : ISt) : Bool → IHp → R Bool := fun c h => if c = true then u σ h else .ok false h
def kOr (u : MT) (σ : ISt) : Bool → IHp → R Bool := fun c h => if c = true then .ok true h else u σ h
def kNot : Bool → IHp → R Bool := fun c h => .ok (!c) h
@[simp] theorem mAnd_eq : mAnd t u σ h = (t σ h).bind (kAnd u σ) := (rfl)
@[simp] theorem kAnd_eq : kAnd u σ k h = if k = true then u σ h else .ok false h := (rfl)
@[simp] theorem mOr_eq : mOr t u σ h = (t σ h).bind (kOr u σ) := (rfl)
@[simp] theorem kOr_eq : kOr u σ k h = if k = true then .ok true h else u σ h := (rfl)
@[simp] theorem mNot_eq : mNot t σ h = (t σ h).bind kNot := (rfl)
@[simp] theorem kNot_eq : kNot k h = .ok (!k) h := (rfl)
def kAndV (b : ME) (σ : ISt) : D → IHp → R D := fun c h => match c with
  | .bl true => b σ h
  | .bl false => .ok (.bl false) h
  | _ => .bad
def kOrV (b : ME) (σ : ISt) : D → IHp → R D := fun c h => match c with
  | .bl true => .ok (.bl true) h
  | .bl false => b σ h
  | _ => .bad
def kNotV : D → IHp → R D := fun c h => match c with
  | .bl b => .ok (.bl (!b)) h
  | _ => .bad
@[simp] theorem mAndV_eq : mAndV a b σ h = (a σ h).bind (kAndV b σ) := (rfl)
@[simp] theorem kAndV_eq : kAndV b σ (.bl k) h = if k = true then b σ h else .ok (.bl false) h := by cases k <;> rfl
@[simp] theorem mOrV_eq : mOrV a b σ h = (a σ h).bind (kOrV b σ) := (rfl)
@[simp] theorem kOrV_eq : kOrV b σ (.bl k) h = if k = true then .ok (.bl true) h else b σ h := by cases k <;> rfl
@[simp] theorem mNotV_eq : mNotV a σ h = (a σ h).bind kNotV := (rfl)
@[simp] theorem kNotV_eq : kNotV (.bl k) h = .ok (.bl (!k)) h := (rfl)
def kIfE (a b : ME) (σ : ISt) : Bool → IHp → R D := fun c h => if c = true then a σ h else b σ h
@[simp] theorem mIf_eq : mIf t a b σ h = (t σ h).bind (kIfE a b σ) := (rfl)
@[simp] theorem kIfE_eq : kIfE a b σ k h = if k = true then a σ h else b σ h := (rfl)
def kCh3 (g' : Op2) (c : ME) (σ : ISt) (y : D) : D → IHp → R D := fun z h => match z with
  | .bl true => (c σ h).bind fun w h => R.opt (g' h y w) h
  | .bl false => .ok (.bl false) h
  | _ => .bad
def kCh2 (g g' : Op2) (c : ME) (σ : ISt) (x : D) : D → IHp → R D := fun y h => (R.opt (g h x y) h).bind (kCh3 g' c σ y)
def kCh (g g' : Op2) (b c : ME) (σ : ISt) : D → IHp → R D := fun x h => (b σ h).bind (kCh2 g g' c σ x)
@[simp] theorem mChain_eq : mChain g g' a b c σ h = (a σ h).bind (kCh g g' b c σ) := (rfl)
@[simp] theorem kCh_eq : kCh g g' b c σ d h = (b σ h).bind (kCh2 g g' c σ d) := (rfl)
@[simp] theorem kCh2_eq {x : D} : kCh2 g g' c σ x d h = (R.opt (g h x d) h).bind (kCh3 g' c σ d) := (rfl)
@[simp] theorem kCh3_eq : kCh3 g' c σ d (.bl k) h = if k = true then (c σ h).bind (kOp2 g' d) else .ok (.bl false) h := by cases k <;> rfl
def kTup : List D → IHp → R D := fun ds h => if ds.length ≤ sizeLine then .ok (.tup ds) h else .bad
def kLst : List D → IHp → R D := fun ds h => if ds.length ≤ sizeLine then .ok (.lst ds) h else .bad
def kNew : List D → IHp → R D := fun ds h => if ds.length ≤ sizeLine then .ok (.ref h.length) (h ++ [.lst ds]) else .bad
@[simp] theorem mTup_eq : mTup ms σ h = (ms σ h).bind kTup := (rfl)
@[simp] theorem kTup_eq (z : ds.length ≤ 16777216) : kTup ds h = .ok (.tup ds) h := if_pos (by rw [sizeLine_v]; exact z)
@[simp] theorem mLst_eq : mLst ms σ h = (ms σ h).bind kLst := (rfl)
@[simp] theorem kLst_eq (z : ds.length ≤ 16777216) : kLst ds h = .ok (.lst ds) h := if_pos (by rw [sizeLine_v]; exact z)
@[simp] theorem mNew_eq : mNew ms σ h = (ms σ h).bind kNew := (rfl)
@[simp] theorem kNew_eq (z : ds.length ≤ 16777216) : kNew ds h = .ok (.ref h.length) (h ++ [.lst ds]) := if_pos (by rw [sizeLine_v]; exact z)
def kNeg : D → IHp → R D := fun d h => match d with
  | .int i => .ok (.int (-i)) h
  | _ => .bad
@[simp] theorem mNeg_eq : mNeg m σ h = (m σ h).bind kNeg := (rfl)
@[simp] theorem kNeg_eq {p : Int} : kNeg (.int p) h = .ok (.int (-p)) h := (rfl)
def kIsi (T : String) : D → IHp → R D := fun d h => .ok (.bl (isTy (tyD h d) T)) h
@[simp] theorem mIsi_eq {T : String} : mIsi T m σ h = (m σ h).bind (kIsi T) := (rfl)
@[simp] theorem kIsi_eq {T : String} : kIsi T d h = .ok (.bl (isTy (tyD h d) T)) h := (rfl)
def kIsi2 (T U : String) : D → IHp → R D := fun d h => .ok (.bl (isTy (tyD h d) T || isTy (tyD h d) U)) h
@[simp] theorem mIsi2_eq {T U : String} : mIsi2 T U m σ h = (m σ h).bind (kIsi2 T U) := (rfl)
@[simp] theorem kIsi2_eq {T U : String} : kIsi2 T U d h = .ok (.bl (isTy (tyD h d) T || isTy (tyD h d) U)) h := (rfl)
def kB1 (g : GA) : List D → IHp → R D := fun ds h => R.opt (g h ds) h
@[simp] theorem mB1_eq {g : GA} : mB1 g ms σ h = (ms σ h).bind (kB1 g) := (rfl)
@[simp] theorem kB1_eq {g : GA} : kB1 g ds h = R.opt (g h ds) h := (rfl)
def kCall (n : Nat) (f : MF) : List D → IHp → R D := fun ds h => if ds.length = n then f ds h else .bad
@[simp] theorem mCall_eq {f : MF} : mCall n f ms σ h = (ms σ h).bind (kCall n f) := (rfl)
theorem kCall_eq {f : MF} (e : ds.length = n) : kCall n f ds h = f ds h := if_pos e
@[simp] theorem kCall_1 {f : MF} {p : D} : kCall 1 f [p] h = f [p] h := (rfl)
@[simp] theorem kCall_2 {f : MF} {p q : D} : kCall 2 f [p, q] h = f [p, q] h := (rfl)
@[simp] theorem kCall_3 {f : MF} {p q r : D} : kCall 3 f [p, q, r] h = f [p, q, r] h := (rfl)
@[simp] theorem kCall_4 {f : MF} {p q r s : D} : kCall 4 f [p, q, r, s] h = f [p, q, r, s] h := (rfl)
@[simp] theorem kCall_5 {f : MF} {p q r s t : D} : kCall 5 f [p, q, r, s, t] h = f [p, q, r, s, t] h := (rfl)
@[simp] theorem kCall_6 {f : MF} {p q r s t u : D} : kCall 6 f [p, q, r, s, t, u] h = f [p, q, r, s, t, u] h := (rfl)
@[simp] theorem kCall_7 {f : MF} {p q r s t u v : D} : kCall 7 f [p, q, r, s, t, u, v] h = f [p, q, r, s, t, u, v] h := (rfl)
def kSl3 (x : D) (lo : Option Int) : Option Int → IHp → R D := fun hi h => R.opt (gSl h x lo hi) h
def kSl2 (r : MO) (σ : ISt) (x : D) : Option Int → IHp → R D := fun lo h => (r σ h).bind (kSl3 x lo)
def kSl (l r : MO) (σ : ISt) : D → IHp → R D := fun x h => (l σ h).bind (kSl2 r σ x)
@[simp] theorem mSl_eq {l r : MO} : mSl m l r σ h = (m σ h).bind (kSl l r σ) := (rfl)
@[simp] theorem kSl_eq {l r : MO} : kSl l r σ d h = (l σ h).bind (kSl2 r σ d) := (rfl)
@[simp] theorem kSl2_eq {r : MO} {lo : Option Int} : kSl2 r σ d lo h = (r σ h).bind (kSl3 d lo) := (rfl)
@[simp] theorem kSl3_eq {lo hi : Option Int} : kSl3 d lo hi h = R.opt (gSl h d lo hi) h := (rfl)
def kPart : D → IHp → R (Option Int) := fun d h => match d with
  | .int i => .ok (some i) h
  | _ => .bad
@[simp] theorem mPart_eq : mPart m σ h = (m σ h).bind kPart := (rfl)
@[simp] theorem kPart_eq {p : Int} : kPart (.int p) h = .ok (some p) h := (rfl)
@[simp] theorem mNoPart_eq : mNoPart σ h = .ok none h := (rfl)
def kRev : D → IHp → R D := fun d h => R.opt (gRev h d) h
@[simp] theorem mRev_eq : mRev m σ h = (m σ h).bind kRev := (rfl)
@[simp] theorem kRev_eq : kRev d h = R.opt (gRev h d) h := (rfl)
def okH (o : Option IHp) : R D := match o with
  | some h' => .ok .non h'
  | none => .bad
@[simp] theorem okH_some : okH (some h) = .ok .non h := (rfl)
def kApp2 (o : D) : D → IHp → R D := fun v h => okH (gApp h o v)
def kApp (m : ME) (σ : ISt) : D → IHp → R D := fun o h => if isSeqL h o = true then (m σ h).bind (kApp2 o) else .bad
@[simp] theorem mApp_eq : mApp a m σ h = (a σ h).bind (kApp m σ) := by
  unfold mApp kApp kApp2 okH
  congr
@[simp] theorem kApp_eq : kApp m σ d h = if isSeqL h d = true then (m σ h).bind (kApp2 d) else .bad := (rfl)
@[simp] theorem kApp2_eq {v : D} : kApp2 d v h = okH (gApp h d v) := (rfl)
def okDH (o : Option (D × IHp)) : R D := match o with
  | some (d, h') => .ok d h'
  | none => .bad
@[simp] theorem okDH_some : okDH (some (d, h)) = .ok d h := (rfl)
def kPop2 (o : D) : D → IHp → R D := fun v h => okDH (gPop h o v)
def kPop (m : ME) (σ : ISt) : D → IHp → R D := fun o h => if isSeqL h o = true then (m σ h).bind (kPop2 o) else .bad
@[simp] theorem mPop_eq : mPop a m σ h = (a σ h).bind (kPop m σ) := by
  unfold mPop kPop kPop2 okDH
  congr
@[simp] theorem kPop_eq : kPop m σ d h = if isSeqL h d = true then (m σ h).bind (kPop2 d) else .bad := (rfl)
@[simp] theorem kPop2_eq {v : D} : kPop2 d v h = okDH (gPop h d v) := (rfl)
def kR1 : D → IHp → R (Int × Int) := fun d h => match d with
  | .int n => .ok (0, n) h
  | _ => .bad
def kR2b (d : D) : D → IHp → R (Int × Int) := fun e h => match d, e with
  | .int a, .int b => .ok (a, b) h
  | _, _ => .bad
def kR2 (m : ME) (σ : ISt) : D → IHp → R (Int × Int) := fun d h => (m σ h).bind (kR2b d)
@[simp] theorem mR1_eq : mR1 m σ h = (m σ h).bind kR1 := (rfl)
@[simp] theorem kR1_eq {p : Int} : kR1 (.int p) h = .ok (0, p) h := (rfl)
@[simp] theorem mR2_eq : mR2 m a σ h = (m σ h).bind (kR2 a σ) := (rfl)
@[simp] theorem kR2_eq : kR2 m σ d h = (m σ h).bind (kR2b d) := (rfl)
@[simp] theorem kR2b_eq {p q : Int} : kR2b (.int p) (.int q) h = .ok (p, q) h := (rfl)
theorem rgOk_ok {a b : Int} (h1 : -(2 ^ 62) ≤ a) (h2 : a < 2 ^ 62) (h3 : -(2 ^ 62) ≤ b) (h4 : b < 2 ^ 62) (h5 : (b - a).toNat ≤ 2 ^ 24) : rgOk a b = true := by
  unfold rgOk
  rw [decide_eq_true h1, decide_eq_true h2, decide_eq_true h3, decide_eq_true h4, decide_eq_true h5]
  rfl
/-- small bounds of a range -/
def smR (a b : Int) : Bool := decide (-1000000 ≤ a) && decide (a ≤ 1000000) && decide (-1000000 ≤ b) && decide (b ≤ 1000000)
theorem smR_ok {a b : Int} (e : smR a b = true) : rgOk a b = true := by
  unfold smR at e
  simp only [Bool.and_eq_true, decide_eq_true_eq] at e
  exact rgOk_ok (by omega) (by omega) (by omega) (by omega) (by omega)
theorem smR_of {a b : Int} (h : -1000000 ≤ a ∧ a ≤ 1000000 ∧ -1000000 ≤ b ∧ b ≤ 1000000) : smR a b = true := by
  unfold smR
  simp only [Bool.and_eq_true, decide_eq_true_eq]
  exact ⟨⟨⟨h.1, h.2.1⟩, h.2.2.1⟩, h.2.2.2⟩
def kLstR : Int × Int → IHp → R D := fun p h => if rgOk p.1 p.2 = true then .ok (.lst (rngD p.1 (p.2 - p.1).toNat)) h else .bad
def kTupR : Int × Int → IHp → R D := fun p h => if rgOk p.1 p.2 = true then .ok (.tup (rngD p.1 (p.2 - p.1).toNat)) h else .bad
def kRgN : Int × Int → IHp → R (List D) := fun p h => if rgOk p.1 p.2 = true then .ok (rngD p.1 (p.2 - p.1).toNat) h else .bad
@[simp] theorem mLstR_eq {r : MR} : mLstR r σ h = (r σ h).bind kLstR := (rfl)
@[simp] theorem kLstR_eq {p q : Int} (e : smR p q = true) : kLstR (p, q) h = .ok (.lst (rngD p (q - p).toNat)) h := if_pos (smR_ok e)
@[simp] theorem mTupR_eq {r : MR} : mTupR r σ h = (r σ h).bind kTupR := (rfl)
@[simp] theorem kTupR_eq {p q : Int} (e : smR p q = true) : kTupR (p, q) h = .ok (.tup (rngD p (q - p).toNat)) h := if_pos (smR_ok e)
@[simp] theorem mRgN_eq {r : MR} : mRgN r σ h = (r σ h).bind kRgN := (rfl)
@[simp] theorem kRgN_eq {p q : Int} (e : smR p q = true) : kRgN (p, q) h = .ok (rngD p (q - p).toNat) h := if_pos (smR_ok e)
def kSrtSet : D → IHp → R (List D) := fun d h => R.opt (gSrtSet h d) h
@[simp] theorem mSrtSetN_eq : mSrtSetN m σ h = (m σ h).bind kSrtSet := (rfl)
@[simp] theorem kSrtSet_eq : kSrtSet d h = R.opt (gSrtSet h d) h := (rfl)
def kFr : List D → IHp → R D := fun ds h => .ok (.lst ds) h
def kLv : List D → IHp → R D := fun ds h => .ok (.ref h.length) (h ++ [.lst ds])
@[simp] theorem mFr_eq : mFr ms σ h = (ms σ h).bind kFr := (rfl)
@[simp] theorem kFr_eq : kFr ds h = .ok (.lst ds) h := (rfl)
@[simp] theorem mLv_eq : mLv ms σ h = (ms σ h).bind kLv := (rfl)
@[simp] theorem kLv_eq : kLv ds h = .ok (.ref h.length) (h ++ [.lst ds]) := (rfl)
def kOpt {β γ : Type} (f : β → Option γ) : β → IHp → R γ := fun x h => R.opt (f x) h
def kOptH {β γ : Type} (f : IHp → β → Option γ) : β → IHp → R γ := fun x h => R.opt (f h x) h
@[simp] theorem kOpt_eq {β γ : Type} {f : β → Option γ} {x : β} : kOpt f x h = R.opt (f x) h := (rfl)
@[simp] theorem kOptH_eq {β γ : Type} {f : IHp → β → Option γ} {x : β} : kOptH f x h = R.opt (f h x) h := (rfl)
@[simp] theorem mBN_eq {g : GN} : mBN g ms σ h = (ms σ h).bind (kOptH g) := (rfl)
@[simp] theorem mRgN3_eq : mRgN3 ms σ h = (ms σ h).bind (kOpt lst3) := (rfl)
@[simp] theorem mIt_eq : mIt m σ h = (m σ h).bind (kOptH itOf) := (rfl)
@[simp] theorem mEnum_eq : mEnum ms σ h = (ms σ h).bind (kOpt enumOf) := (rfl)
@[simp] theorem mRng1_eq : mRng1 ms σ h = (ms σ h).bind (kOpt rng1) := (rfl)
@[simp] theorem mRng2_eq : mRng2 ms σ h = (ms σ h).bind (kOpt rng2) := (rfl)
@[simp] theorem mRng3_eq : mRng3 ms σ h = (ms σ h).bind (kOpt rng3) := (rfl)
@[simp] theorem mYes_eq : mYes σ h = .ok true h := (rfl)
noncomputable def kLcN (t : Tg) (c : MT) (e : ME) (s0 : ISt) : It1 → IHp → R (List D) := fun g h => lcD g t c e s0 g.1 [] h
@[simp] theorem mLcN_eq {mi : MI} {tg : Tg} {vs : List Nat} : mLcN mi tg t m vs s h = (mi s h).bind (kLcN tg t m (wipeD s vs)) := (rfl)
@[simp] theorem kLcN_eq {tg : Tg} {x : It1} : kLcN tg t m s x h = lcD x tg t m s x.1 [] h := (rfl)
noncomputable def kLc (t : Tg) (c : MT) (e : ME) (s0 : ISt) : It1 → IHp → R D := fun g h => (lcD g t c e s0 g.1 [] h).bind kFr
@[simp] theorem mLc_eq {mi : MI} {tg : Tg} {vs : List Nat} : mLc mi tg t m vs s h = (mi s h).bind (kLc tg t m (wipeD s vs)) := (rfl)
@[simp] theorem kLc_eq {tg : Tg} {x : It1} : kLc tg t m s x h = (lcD x tg t m s x.1 [] h).bind kFr := (rfl)
@[simp] theorem wipeD_nil : wipeD s [] = s := (rfl)
@[simp] theorem wipeD_cons {v : Nat} {vs : List Nat} : wipeD s (v :: vs) = (wipeD s vs).set v none := (rfl)
/-! ### statements -/
variable {x y : MS}
def kRet : D → IHp → RT := fun d h => .rt d h
@[simp] theorem sRet_eq : sRet m s h = bindS (m s h) s kRet := (rfl)
@[simp] theorem kRet_eq : kRet d h = .rt d h := (rfl)
@[simp] theorem sRetN_eq : sRetN s h = .rt .non h := (rfl)
def kEx (s : ISt) : D → IHp → RT := fun _ h => .nx s h
@[simp] theorem sExpr_eq : sExpr m s h = bindS (m s h) s (kEx s) := (rfl)
@[simp] theorem kEx_eq : kEx s d h = .nx s h := (rfl)
@[simp] theorem sNx_eq : sNx s h = .nx s h := (rfl)
@[simp] theorem sBk_eq : sBk s h = .bk s h := (rfl)
@[simp] theorem sCt_eq : sCt s h = .ct s h := (rfl)
@[simp] theorem sNever_eq : sNever s h = .bad := (rfl)
@[simp] theorem sRaise_eq {z : Str} : sRaise z s h = .ex z s h := (rfl)
def selS (k : Bool) (x y : MS) : MS := fun s h => if k = true then x s h else y s h
@[simp] theorem selS_t : selS true x y s h = x s h := (rfl)
@[simp] theorem selS_f : selS false x y s h = y s h := (rfl)
def kIf (x y : MS) (s : ISt) : Bool → IHp → RT := fun c h => selS c x y s h
@[simp] theorem sIf_eq : sIf t x y s h = bindS (t s h) s (kIf x y s) := (rfl)
@[simp] theorem kIf_eq : kIf x y s k h = selS k x y s h := (rfl)
def kSet (i : Nat) (s : ISt) : D → IHp → RT := fun d h => .nx (s.set i (some d)) h
@[simp] theorem sSet_eq : sSet i m s h = bindS (m s h) s (kSet i s) := (rfl)
@[simp] theorem kSet_eq : kSet i s d h = .nx (s.set i (some d)) h := (rfl)
def seqK (y : MS) : RT → RT
  | .nx s h => y s h
  | r => r
@[simp] theorem sSeq_eq : sSeq x y s h = seqK y (x s h) := by
  unfold sSeq seqK
  cases x s h <;> rfl
@[simp] theorem seqK_nx : seqK y (.nx s h) = y s h := (rfl)
@[simp] theorem seqK_rt : seqK y (.rt d h) = .rt d h := (rfl)
@[simp] theorem seqK_bk : seqK y (.bk s h) = .bk s h := (rfl)
@[simp] theorem seqK_ct : seqK y (.ct s h) = .ct s h := (rfl)
@[simp] theorem seqK_ex {z : Str} : seqK y (.ex z s h) = .ex z s h := (rfl)
def nxO (o : Option ISt) (h : IHp) : RT := match o with
  | some s => .nx s h
  | none => .bad
@[simp] theorem nxO_some : nxO (some s) h = .nx s h := (rfl)
def kAsg (t : Tg) (s : ISt) : D → IHp → RT := fun d h => nxO (t.set d s) h
@[simp] theorem sAsg_eq {t : Tg} : sAsg m t s h = bindS (m s h) s (kAsg t s) := by
  unfold sAsg kAsg nxO
  congr
@[simp] theorem kAsg_eq {t : Tg} : kAsg t s d h = nxO (t.set d s) h := (rfl)
@[simp] theorem tg_name : Tg.set (.name i) d s = some (s.set i (some d)) := by rw [Tg.set]
@[simp] theorem tg_tup {ts : List Tg} : Tg.set (.tup ts) (.tup ds) s = Tg.sets ts ds s := by rw [Tg.set]
@[simp] theorem tgs_nil : Tg.sets [] [] s = some s := by rw [Tg.sets]
def tgK (ts : List Tg) (ds : List D) : Option ISt → Option ISt
  | some s => Tg.sets ts ds s
  | none => none
@[simp] theorem tgK_some {ts : List Tg} : tgK ts ds (some s) = Tg.sets ts ds s := (rfl)
@[simp] theorem tgs_cons {t : Tg} {ts : List Tg} : Tg.sets (t :: ts) (d :: ds) s = tgK ts ds (t.set d s) := by
  rw [Tg.sets]
  cases t.set d s <;> rfl
def kPar (i j : Nat) (s : ISt) : List D → IHp → RT := fun ds h => match ds with
  | [d, e] => .nx ((s.set i (some d)).set j (some e)) h
  | _ => .bad
@[simp] theorem sPar_eq : sPar i j ms s h = bindS (ms s h) s (kPar i j s) := (rfl)
@[simp] theorem kPar_eq {e : D} : kPar i j s [d, e] h = .nx ((s.set i (some d)).set j (some e)) h := (rfl)
def kPar3 (i j l : Nat) (s : ISt) : List D → IHp → RT := fun ds h => match ds with
  | [d, e, f] => .nx (((s.set i (some d)).set j (some e)).set l (some f)) h
  | _ => .bad
@[simp] theorem sPar3_eq : sPar3 i j l ms s h = bindS (ms s h) s (kPar3 i j l s) := (rfl)
@[simp] theorem kPar3_eq {e f : D} : kPar3 i j l s [d, e, f] h = .nx (((s.set i (some d)).set j (some e)).set l (some f)) h := (rfl)
def nxH (s : ISt) (o : Option IHp) : RT := match o with
  | some h => .nx s h
  | none => .bad
@[simp] theorem nxH_some : nxH s (some h) = .nx s h := (rfl)
def kSt3 (s : ISt) (v o : D) : D → IHp → RT := fun i h => nxH s (gSt h o i v)
def kSt2 (b : ME) (s : ISt) (v : D) : D → IHp → RT := fun o h => bindS (b s h) s (kSt3 s v o)
def kSt (a b : ME) (s : ISt) : D → IHp → RT := fun v h => bindS (a s h) s (kSt2 b s v)
@[simp] theorem sSt_eq : sSt m a b s h = bindS (m s h) s (kSt a b s) := by
  unfold sSt kSt kSt2 kSt3 nxH
  congr
@[simp] theorem kSt_eq : kSt a b s d h = bindS (a s h) s (kSt2 b s d) := (rfl)
@[simp] theorem kSt2_eq {v : D} : kSt2 b s v d h = bindS (b s h) s (kSt3 s v d) := (rfl)
@[simp] theorem kSt3_eq {v o : D} : kSt3 s v o d h = nxH s (gSt h o d v) := (rfl)
noncomputable def kFor (t : Tg) (x : MS) (s : ISt) : It1 → IHp → RT := fun g h => loopD g t x g.1 s h
@[simp] theorem sFor_eq {mi : MI} {t : Tg} : sFor mi t x s h = bindS (mi s h) s (kFor t x s) := (rfl)
@[simp] theorem kFor_eq {t : Tg} {g : It1} : kFor t x s g h = loopD g t x g.1 s h := (rfl)
@[simp] theorem sSetLc_eq {mi : MI} {tg : Tg} {vs : List Nat} : sSetLc i mi tg t m vs s h = bindS (mLc mi tg t m vs s h) s (kSet i s) := (rfl)
@[simp] theorem sSetLcN_eq {mi : MI} {tg : Tg} {vs : List Nat} : sSetLcN i mi tg t m vs s h = bindS (mLv (mLcN mi tg t m vs) s h) s (kSet i s) := (rfl)
def klK (vs : List Nat) : RT → RT
  | .nx s h => .nx (wipeD s vs) h
  | .ct s h => .ct (wipeD s vs) h
  | .bk s h => .bk (wipeD s vs) h
  | r => r
@[simp] theorem sKl_eq {vs : List Nat} : sKl vs x s h = klK vs (x s h) := by
  unfold sKl klK
  cases x s h <;> rfl
@[simp] theorem klK_nx {vs : List Nat} : klK vs (.nx s h) = .nx (wipeD s vs) h := (rfl)
@[simp] theorem klK_ct {vs : List Nat} : klK vs (.ct s h) = .ct (wipeD s vs) h := (rfl)
@[simp] theorem klK_bk {vs : List Nat} : klK vs (.bk s h) = .bk (wipeD s vs) h := (rfl)
@[simp] theorem klK_rt {vs : List Nat} : klK vs (.rt d h) = .rt d h := (rfl)
@[simp] theorem klK_ex {vs : List Nat} {z : Str} : klK vs (.ex z s h) = .ex z s h := (rfl)
def kAug (f : Int → Int → Int) (i : Nat) (s : ISt) (a : Int) : D → IHp → RT := fun d h => match d with
  | .int b => .nx (s.set i (some (.int (f a b)))) h
  | _ => .bad
def augK (o : Option (Option D)) (f : Int → Int → Int) (i : Nat) (m : ME) : MS := fun s h => match o with
  | some (some (.int a)) => bindS (m s h) s (kAug f i s a)
  | _ => .bad
@[simp] theorem sAugI_eq {f : Int → Int → Int} : sAugI f i m s h = augK s[i]? f i m s h := by
  unfold sAugI augK kAug
  cases s[i]? with
  | none => rfl
  | some o => cases o with
    | none => rfl
    | some d => cases d <;> rfl
@[simp] theorem augK_int {f : Int → Int → Int} {p : Int} : augK (some (some (.int p))) f i m s h = bindS (m s h) s (kAug f i s p) := (rfl)
@[simp] theorem kAug_int {f : Int → Int → Int} {p q : Int} : kAug f i s p (.int q) h = .nx (s.set i (some (.int (f p q)))) h := (rfl)
/-- what a call hands back -/
def retK : RT → R D
  | .nx _ h => .ok .non h
  | .rt d h => .ok d h
  | .ex c _ h => .ex c h
  | _ => .bad
@[simp] theorem runD_eq : runD n x ds h = retK (x (ds.map some ++ List.replicate (n - ds.length) Option.none) h) := by
  unfold runD retK
  rfl
@[simp] theorem retK_nx : retK (.nx s h) = .ok .non h := (rfl)
@[simp] theorem retK_rt : retK (.rt d h) = .ok d h := (rfl)
@[simp] theorem retK_ex {z : Str} : retK (.ex z s h) = .ex z h := (rfl)
@[simp] theorem runG_eq : runG n x ds h = gcK h (retK (x (ds.map some ++ List.replicate (n - ds.length) Option.none) h)) := by
  unfold runG
  rw [runD_eq]
end
/-! ### results of two ways -/
@[simp] theorem ite_ok {β : Type} {c : Prop} [Decidable c] {x y : β} {h : IHp} : (if c then R.ok x h else R.ok y h) = R.ok (if c then x else y) h := by split <;> rfl
@[simp] theorem ite_bl {c : Prop} [Decidable c] {x y : Bool} : (if c then D.bl x else D.bl y) = D.bl (if c then x else y) := by split <;> rfl
@[simp] theorem ite_int {c : Prop} [Decidable c] {x y : Int} : (if c then D.int x else D.int y) = D.int (if c then x else y) := by split <;> rfl
/-! ### values -/
section
variable {h : IHp} {p q : Int} {v w : D} {ds es : List D} {n : Nat} {x y : Bool}
@[simp] theorem gSub_int : gSub h (.int p) (.int q) = some (.int (p - q)) := (rfl)
@[simp] theorem gAdd_int : gAdd h (.int p) (.int q) = some (.int (p + q)) := (rfl)
@[simp] theorem gLt_int : gLt h (.int p) (.int q) = some (.bl (decide (p < q))) := (rfl)
@[simp] theorem gLe_int : gLe h (.int p) (.int q) = some (.bl (decide (p ≤ q))) := (rfl)
@[simp] theorem gGt_int : gGt h (.int p) (.int q) = some (.bl (decide (q < p))) := (rfl)
@[simp] theorem gGe_int : gGe h (.int p) (.int q) = some (.bl (decide (q ≤ p))) := (rfl)
@[simp] theorem gEq_int : gEq h (.int p) (.int q) = some (.bl (decide (p = q))) := by
  show (if SeqAt.shaped (.int p) = true ∧ SeqAt.shaped (.int q) = true then some (D.bl (PyData.eqv (.int p) (.int q))) else none) = _
  rw [if_pos ⟨rfl, rfl⟩, PyData.eqv, Bool.beq_eq_decide_eq]
@[simp] theorem gNe_int : gNe h (.int p) (.int q) = some (.bl (!decide (p = q))) := by
  show (if SeqAt.shaped (.int p) = true ∧ SeqAt.shaped (.int q) = true then some (D.bl (!PyData.eqv (.int p) (.int q))) else none) = _
  rw [if_pos ⟨rfl, rfl⟩, PyData.eqv, Bool.beq_eq_decide_eq]
@[simp] theorem gEq_str {a b : Str} : gEq h (.str a) (.str b) = some (.bl (decide (a = b))) := (rfl)
@[simp] theorem gNe_str {a b : Str} : gNe h (.str a) (.str b) = some (.bl (!decide (a = b))) := (rfl)
@[simp] theorem gIsN_eq : gIsN h v .non = some (.bl v.isNon) := (rfl)
@[simp] theorem gNotN_eq : gNotN h v .non = some (.bl (!v.isNon)) := (rfl)
@[simp] theorem gIsB_eq : gIsB h (.bl x) (.bl y) = some (.bl (decide (x = y))) := (rfl)
@[simp] theorem gNotB_eq : gNotB h (.bl x) (.bl y) = some (.bl (!decide (x = y))) := (rfl)
@[simp] theorem isNon_non : D.isNon .non = true := (rfl)
@[simp] theorem isNon_int : D.isNon (.int p) = false := (rfl)
@[simp] theorem isNon_tup : D.isNon (.tup ds) = false := (rfl)
@[simp] theorem isNon_lst : D.isNon (.lst ds) = false := (rfl)
@[simp] theorem gLen_tup : gLen h [.tup ds] = some (.int ds.length) := (rfl)
@[simp] theorem gLen_lst : gLen h [.lst ds] = some (.int ds.length) := (rfl)
@[simp] theorem gIx_tup : gIx h (.tup ds) (.int p) = atI ds p := (rfl)
@[simp] theorem gIx_lst : gIx h (.lst ds) (.int p) = atI ds p := (rfl)
/-- the list that lies at a place -/
def lvL : Option IO → Option (List D)
  | some (.lst ds) => some ds
  | _ => none
@[simp] theorem lvL_lst : lvL (some (.lst ds)) = some ds := (rfl)
theorem lstOf_ref : lstOf h (.ref n) = lvL h[n]? := by
  unfold lstOf lvL
  first
    | (dsimp only; done)
    | (dsimp only
       cases h[n]? with
       | none => rfl
       | some o => cases o <;> rfl)
theorem seqOf_ref : seqOf h (.ref n) = lvL h[n]? := lstOf_ref
@[simp] theorem gLen_refE : gLen h [.ref n] = (lvL h[n]?).map fun l => .int l.length := by
  show (seqOf h (.ref n)).map _ = _
  rw [seqOf_ref]
@[simp] theorem gIx_refE : gIx h (.ref n) (.int p) = (lvL h[n]?).bind fun ds => atI ds p := by
  show (seqOf h (.ref n)).bind _ = _
  rw [seqOf_ref]
@[simp] theorem isSeqL_ref : isSeqL h (.ref n) = (lvL h[n]?).isSome := by
  unfold isSeqL
  rw [lstOf_ref]
def appO (h : IHp) (n : Nat) (v : D) : Option (List D) → Option IHp
  | some ds => if ds.length < sizeLine then some (h.set n (.lst (ds ++ [v]))) else none
  | none => none
@[simp] theorem gApp_ref : gApp h (.ref n) v = appO h n v (lvL h[n]?) := by
  unfold gApp appO lvL
  dsimp only
  cases h[n]? with
  | none => rfl
  | some o => cases o <;> rfl
@[simp] theorem appO_some (z : ds.length < 16777216) : appO h n v (some ds) = some (h.set n (.lst (ds ++ [v]))) := if_pos (by rw [sizeLine_v]; exact z)
def stO (h : IHp) (n : Nat) (k : Int) (v : D) : Option (List D) → Option IHp
  | some ds => (ixN ds.length k).map fun j => h.set n (.lst (ds.set j v))
  | none => none
@[simp] theorem gSt_ref : gSt h (.ref n) (.int p) v = stO h n p v (lvL h[n]?) := by
  unfold gSt stO lvL
  dsimp only
  cases h[n]? with
  | none => rfl
  | some o => cases o <;> rfl
theorem stO_some : stO h n p v (some ds) = (ixN ds.length p).map fun j => h.set n (.lst (ds.set j v)) := (rfl)
def truL : Option (List D) → Option Bool
  | some ds => some !ds.isEmpty
  | none => none
@[simp] theorem truD_ref : truD h (.ref n) = truL (lvL h[n]?) := by
  unfold truD truL lvL
  dsimp only
  cases h[n]? with
  | none => rfl
  | some o => cases o <;> rfl
@[simp] theorem truL_some : truL (some ds) = some !ds.isEmpty := (rfl)
@[simp] theorem gTupOf_ref : gTupOf h [.ref n] = (lvL h[n]?).map .tup := by
  show (seqOf h (.ref n)).map _ = _
  rw [seqOf_ref]
@[simp] theorem gLstOf_ref : gLstOf h [.ref n] = (lvL h[n]?).map .lst := by
  show (seqOf h (.ref n)).map _ = _
  rw [seqOf_ref]
@[simp] theorem gInt_int : gInt h [.int p] = some (.int p) := (rfl)
@[simp] theorem gAbs_int : gAbs h [.int p] = some (.int (if p < 0 then -p else p)) := (rfl)
@[simp] theorem gMax_int : gMax h [.int p, .int q] = some (.int (max p q)) := by
  show some (D.int (if q > p then q else p)) = _
  congr 2
  omega
@[simp] theorem gMin_int : gMin h [.int p, .int q] = some (.int (min p q)) := by
  show some (D.int (if q < p then q else p)) = _
  congr 2
  omega
@[simp] theorem gTupOf_tup : gTupOf h [.tup ds] = some (.tup ds) := (rfl)
@[simp] theorem gTupOf_lst : gTupOf h [.lst ds] = some (.tup ds) := (rfl)
@[simp] theorem gLstOf_tup : gLstOf h [.tup ds] = some (.lst ds) := (rfl)
@[simp] theorem gLstOf_lst : gLstOf h [.lst ds] = some (.lst ds) := (rfl)
@[simp] theorem gLstN_tup : gLstN h [.tup ds] = some ds := (rfl)
@[simp] theorem gLstN_lst : gLstN h [.lst ds] = some ds := (rfl)
@[simp] theorem gSl_tup {lo hi : Option Int} : gSl h (.tup ds) lo hi = some (.tup (cutD ds lo hi)) := (rfl)
@[simp] theorem gSl_lst {lo hi : Option Int} : gSl h (.lst ds) lo hi = some (.lst (cutD ds lo hi)) := (rfl)
@[simp] theorem gSl_scr {lo hi : Option Int} : gSl h (.scr ds) lo hi = some (.lst (cutD ds lo hi)) := (rfl)
@[simp] theorem gRev_tup : gRev h (.tup ds) = some (.tup ds.reverse) := (rfl)
@[simp] theorem gRev_lst : gRev h (.lst ds) = some (.lst ds.reverse) := (rfl)
@[simp] theorem itOf_tup : itOf h (.tup ds) = some (ds, none) := (rfl)
@[simp] theorem itOf_lst : itOf h (.lst ds) = some (ds, none) := (rfl)
@[simp] theorem enumOf_tup : enumOf [.tup ds] = some (enumD ds, none) := (rfl)
@[simp] theorem enumOf_lst : enumOf [.lst ds] = some (enumD ds, none) := (rfl)
@[simp] theorem gAdd_tup (hz : ds.length + es.length ≤ 16777216) : gAdd h (.tup ds) (.tup es) = some (.tup (ds ++ es)) := by
  show (if ds.length + es.length ≤ sizeLine then some (D.tup (ds ++ es)) else none) = _
  rw [sizeLine_v, if_pos hz]
@[simp] theorem gAdd_lst (hz : ds.length + es.length ≤ 16777216) : gAdd h (.lst ds) (.lst es) = some (.lst (ds ++ es)) := by
  show (if ds.length + es.length ≤ sizeLine then some (D.lst (ds ++ es)) else none) = _
  rw [sizeLine_v, if_pos hz]
theorem gMul_r (hq : q.natAbs < 2 ^ 64) : gMul h (.int p) (.int q) = some (.int (p * q)) := by
  show (if mulOk p q = true then some (D.int (p * q)) else none) = _
  rw [if_pos (by unfold mulOk; rw [decide_eq_true hq]; simp)]
theorem gMul_l (hp : p.natAbs < 2 ^ 64) : gMul h (.int p) (.int q) = some (.int (p * q)) := by
  show (if mulOk p q = true then some (D.int (p * q)) else none) = _
  rw [if_pos (by unfold mulOk; rw [decide_eq_true hp]; simp)]
theorem gDiv_int (h0 : 0 < q) (hq : q.natAbs < 2 ^ 9000) : gDiv h (.int p) (.int q) = some (.int (p / q)) := by
  show (if (decide (0 < q) && decide (q.natAbs < 2 ^ 9000)) = true then some (D.int (p / q)) else none) = _
  rw [decide_eq_true h0, decide_eq_true hq]
  rfl
theorem small_lt {n : Nat} (h : n < 2 ^ 64) : n < 2 ^ 9000 := Nat.lt_of_lt_of_le h (Nat.pow_le_pow_right (by decide) (by decide))
theorem gDiv_s (h0 : 0 < q) (hq : q < 2 ^ 60) : gDiv h (.int p) (.int q) = some (.int (p / q)) := gDiv_int h0 (small_lt (by omega))
theorem gMod_int (h0 : 0 < q) : gMod h (.int p) (.int q) = some (.int (p % q)) := by
  show (if decide (0 < q) = true then some (D.int (p % q)) else none) = _
  rw [decide_eq_true h0]
  rfl
theorem gPow_int (h0 : 0 ≤ q) (h1 : q ≤ 1000000) (h2 : p.natAbs < 2 ^ 64) : gPow h (.int p) (.int q) = some (.int (p ^ q.toNat)) := by
  show (if (decide (0 ≤ q) && decide (q ≤ 1000000) && decide (p.natAbs < 2 ^ 64)) = true then some (D.int (p ^ q.toNat)) else none) = _
  rw [decide_eq_true h0, decide_eq_true h1, decide_eq_true h2]
  rfl
/-- the items of a range -/
theorem rng1_eq (e : smR 0 p = true) : rng1 [.int p] = some (rngD 0 p.toNat, none) := by
  unfold smR at e
  simp only [Bool.and_eq_true, decide_eq_true_eq] at e
  show (if -(2 ^ 62) ≤ p ∧ p < 2 ^ 62 then _ else _) = _
  rw [if_pos ⟨by omega, by omega⟩]
theorem rng2_eq (e : smR p q = true) : rng2 [.int p, .int q] = some (rngD p (q - p).toNat, none) := by
  unfold smR at e
  simp only [Bool.and_eq_true, decide_eq_true_eq] at e
  show (if -(2 ^ 62) ≤ p ∧ p < 2 ^ 62 ∧ -(2 ^ 62) ≤ q ∧ q < 2 ^ 62 then _ else _) = _
  rw [if_pos ⟨by omega, by omega, by omega, by omega⟩]
@[simp] theorem ty_int : tyD h (.int p) = "int" := (rfl)
@[simp] theorem ty_bl : tyD h (.bl x) = "bool" := (rfl)
@[simp] theorem ty_non : tyD h .non = "NoneType" := (rfl)
@[simp] theorem ty_str {a : Str} : tyD h (.str a) = "str" := (rfl)
@[simp] theorem ty_tup : tyD h (.tup ds) = "tuple" := (rfl)
@[simp] theorem ty_lst : tyD h (.lst ds) = "list" := (rfl)
@[simp] theorem ty_dic {ks : List Key} : tyD h (.dic ks ds) = "dict" := (rfl)
@[simp] theorem isTy_ii : isTy "int" "int" = true := (rfl)
@[simp] theorem isTy_bi : isTy "bool" "int" = true := (rfl)
@[simp] theorem isTy_ib : isTy "int" "bool" = false := (rfl)
@[simp] theorem isTy_bb : isTy "bool" "bool" = true := (rfl)
@[simp] theorem isTy_eq {t T : String} : isTy t T = (t == T || (t == "bool" && T == "int")) := (rfl)
end
/-! ### places of a list -/
section
variable {β : Type} {a b c d e : β} {l : List β}
@[simp] theorem atI_0 : atI (a :: l) 0 = some a := by unfold atI ixN; simp
@[simp] theorem atI_1 : atI (a :: b :: l) 1 = some b := by
  unfold atI ixN
  have : (1 : Int) < ((a :: b :: l).length : Nat) := by simp; omega
  rw [if_pos (by decide), if_pos this]
  rfl
@[simp] theorem atI_2 : atI (a :: b :: c :: l) 2 = some c := by
  unfold atI ixN
  have : (2 : Int) < ((a :: b :: c :: l).length : Nat) := by simp; omega
  rw [if_pos (by decide), if_pos this]
  rfl
@[simp] theorem atI_3 : atI (a :: b :: c :: d :: l) 3 = some d := by
  unfold atI ixN
  have : (3 : Int) < ((a :: b :: c :: d :: l).length : Nat) := by simp; omega
  rw [if_pos (by decide), if_pos this]
  rfl
@[simp] theorem atI_4 : atI (a :: b :: c :: d :: e :: l) 4 = some e := by
  unfold atI ixN
  have : (4 : Int) < ((a :: b :: c :: d :: e :: l).length : Nat) := by simp; omega
  rw [if_pos (by decide), if_pos this]
  rfl
@[simp] theorem atI_last : atI (l ++ [a]) (-1) = some a := by
  unfold atI ixN
  rw [if_neg (by decide), if_pos (by simp; omega)]
  have e : (-1 + (((l ++ [a]).length : Nat) : Int)).toNat = l.length := by simp; omega
  rw [Option.bind_some, e]
  simp
@[simp] theorem atI_one : atI [a] (-1) = some a := atI_last (l := [])
theorem atI_nat {i : Nat} (h : i < l.length) : atI l (i : Int) = some l[i] := by
  unfold atI ixN
  rw [if_pos (by omega), if_pos (by omega)]
  simp [h]
theorem atI_mem {r : Int} (r0 : 0 ≤ r) (r1 : r < (l.length : Nat)) : ∃ x, atI l r = some x ∧ x ∈ l := by
  have h : r.toNat < l.length := by omega
  refine ⟨l[r.toNat], ?_, List.getElem_mem h⟩
  have := atI_nat h
  rwa [Int.toNat_of_nonneg r0] at this
theorem atI_map {γ : Type} {f : β → γ} {i : Int} : atI (l.map f) i = (atI l i).map f := by
  unfold atI
  rw [List.length_map]
  cases ixN l.length i <;> simp
theorem ixN_last {n : Nat} : ixN (n + 1) (-1) = some n := by
  unfold ixN
  rw [if_neg (by decide), if_pos (by omega)]
  congr 1
  omega
/-! places of a heap -/
variable {h : List β} {x y : β}
@[simp] theorem hp_0 : (h ++ x :: l)[h.length]? = some x := by simp
@[simp] theorem hp_1 : (h ++ x :: y :: l)[h.length + 1]? = some y := by
  rw [List.getElem?_append_right (by omega)]
  simp
@[simp] theorem hp_2 {z : β} : (h ++ x :: y :: z :: l)[h.length + 2]? = some z := by
  rw [List.getElem?_append_right (by omega)]
  simp
@[simp] theorem hs_0 : (h ++ x :: l).set h.length a = h ++ a :: l := by simp
@[simp] theorem hs_1 : (h ++ x :: y :: l).set (h.length + 1) a = h ++ x :: a :: l := by
  rw [List.set_append_right _ _ (by omega)]
  simp
@[simp] theorem hs_2 {z : β} : (h ++ x :: y :: z :: l).set (h.length + 2) a = h ++ x :: y :: a :: l := by
  rw [List.set_append_right _ _ (by omega)]
  simp
variable {z : Nat}
@[simp] theorem hpz_0 {w : β} : (h.set z w ++ x :: l)[h.length]? = some x := by
  have := hp_0 (h := h.set z w) (x := x) (l := l)
  rwa [List.length_set] at this
@[simp] theorem hpz_1 {w : β} : (h.set z w ++ x :: y :: l)[h.length + 1]? = some y := by
  have := hp_1 (h := h.set z w) (x := x) (y := y) (l := l)
  rwa [List.length_set] at this
@[simp] theorem hsz_0 {w : β} : (h.set z w ++ x :: l).set h.length a = h.set z w ++ a :: l := by
  have := hs_0 (h := h.set z w) (x := x) (l := l) (a := a)
  rwa [List.length_set] at this
@[simp] theorem hsz_1 {w : β} : (h.set z w ++ x :: y :: l).set (h.length + 1) a = h.set z w ++ x :: a :: l := by
  have := hs_1 (h := h.set z w) (x := x) (y := y) (l := l) (a := a)
  rwa [List.length_set] at this
end
/-! ### comprehensions, loops -/
@[simp] theorem stable_none {ds : List D} {h : IHp} : Stable (ds, none) h = True := by
  apply propext
  exact ⟨fun _ => trivial, fun _ n e => nomatch e⟩
@[simp] theorem noex_ok {β : Type} {x : β} {h : IHp} : noex (R.ok x h) = .ok x h := (rfl)
section
variable {β : Type} {t : Tg} {c : MT} {e : ME} {s0 : ISt} {h : IHp} {enc : β → D} {g : It1}
/-- a comprehension over told items that changes nothing in the heap -/
theorem lc_map (p : β → Bool) (f : β → D) (st : Stable g h) : ∀ (xs : List β) (acc : List D), (∀ x ∈ xs, ∃ s1, t.set (enc x) s0 = some s1 ∧ c s1 h = .ok (p x) h ∧ (p x = true → e s1 h = .ok (f x) h)) →
    acc.length + xs.length ≤ 16777216 → lcD g t c e s0 (xs.map enc) acc h = .ok (acc ++ (xs.filter p).map f) h
  | [], acc, _, _ => by rw [List.map_nil, lcD, if_pos st]; simp
  | x :: xs, acc, hd, hz => by
    obtain ⟨s1, e1, e2, e3⟩ := hd x List.mem_cons_self
    rw [List.length_cons] at hz
    rw [List.map_cons, lcD, if_pos st, e1]
    dsimp only
    rw [e2]
    show (if p x = true then _ else _) = _
    cases hp : p x with
    | true =>
      rw [if_pos rfl, e3 hp]
      show (if acc.length < sizeLine then _ else _) = _
      rw [sizeLine_v, if_pos (by omega), lc_map p f st xs _ (fun d' m => hd d' (List.mem_cons_of_mem _ m)) (by rw [List.length_append, List.length_singleton]; omega), List.filter_cons, if_pos hp]
      simp
    | false =>
      rw [if_neg Bool.false_ne_true, lc_map p f st xs _ (fun d' m => hd d' (List.mem_cons_of_mem _ m)) (by omega), List.filter_cons, hp]
      rfl
/-- .. without a test -/
theorem lc_all (f : β → D) (st : Stable g h) (xs : List β) (hd : ∀ x ∈ xs, ∃ s1, t.set (enc x) s0 = some s1 ∧ c s1 h = .ok true h ∧ e s1 h = .ok (f x) h) (hz : xs.length ≤ 16777216) : lcD g t c e s0 (xs.map enc) [] h = .ok (xs.map f) h := by
  rw [lc_map (fun _ => true) f st xs [] (fun x m => let ⟨s1, a1, a2, a3⟩ := hd x m; ⟨s1, a1, a2, fun _ => a3⟩) (by simpa using hz), List.filter_eq_self.mpr (fun _ _ => rfl), List.nil_append]
/-- a comprehension with an invariant of the heap; G tells what is made of an item -/
theorem lc_inv (P : IHp → Prop) (G : D → Prop) (st : ∀ h, P h → Stable g h) : ∀ (ds acc : List D) (h : IHp), P h →
    (∀ d ∈ ds, ∀ h, P h → ∃ s1 b h1, t.set d s0 = some s1 ∧ c s1 h = .ok b h1 ∧ P h1 ∧ (b = true → ∃ v h2, e s1 h1 = .ok v h2 ∧ P h2 ∧ G v)) → (∀ v ∈ acc, G v) →
    acc.length + ds.length ≤ 16777216 → ∃ vs h', lcD g t c e s0 ds acc h = .ok vs h' ∧ P h' ∧ (∀ v ∈ vs, G v) ∧ vs.length ≤ acc.length + ds.length
  | [], acc, h, ph, _, ga, _ => by
    rw [lcD, if_pos (st h ph)]
    exact ⟨acc, h, rfl, ph, ga, Nat.le_refl _⟩
  | d :: ds, acc, h, ph, hd, ga, hz => by
    obtain ⟨s1, b, h1, e1, e2, p1, e3⟩ := hd d List.mem_cons_self h ph
    rw [List.length_cons] at hz
    rw [lcD, if_pos (st h ph), e1]
    dsimp only
    rw [e2]
    show ∃ vs h', (if b = true then _ else _) = R.ok vs h' ∧ _
    cases b with
    | true =>
      obtain ⟨v, h2, e4, p2, gv⟩ := e3 rfl
      rw [if_pos rfl, e4]
      show ∃ vs h', (if acc.length < sizeLine then _ else _) = R.ok vs h' ∧ _
      rw [sizeLine_v, if_pos (by omega)]
      obtain ⟨vs, h', q1, q2, q3, q4⟩ := lc_inv P G st ds (acc ++ [v]) h2 p2 (fun d' m => hd d' (List.mem_cons_of_mem _ m)) (fun w m => by
        rcases List.mem_append.mp m with m | m
        · exact ga w m
        · rw [List.mem_singleton.mp m]; exact gv) (by rw [List.length_append, List.length_singleton]; omega)
      exact ⟨vs, h', q1, q2, q3, by rw [List.length_append, List.length_singleton] at q4; rw [List.length_cons]; omega⟩
    | false =>
      rw [if_neg Bool.false_ne_true]
      obtain ⟨vs, h', q1, q2, q3, q4⟩ := lc_inv P G st ds acc h1 p1 (fun d' m => hd d' (List.mem_cons_of_mem _ m)) ga (by omega)
      exact ⟨vs, h', q1, q2, q3, by rw [List.length_cons]; omega⟩
variable {body : MS}
/-- a loop that goes through all items: what stands in slots and heap is a function of what is carried -/
theorem loop_fold {γ : Type} (S : γ → ISt) (Z : γ → IHp) (F : γ → β → γ) (st : ∀ y, Stable g (Z y)) : ∀ (xs : List β) (y : γ), (∀ x ∈ xs, ∀ y, ∃ s1, t.set (enc x) (S y) = some s1 ∧ (body s1 (Z y) = .nx (S (F y x)) (Z (F y x)) ∨ body s1 (Z y) = .ct (S (F y x)) (Z (F y x)))) →
    loopD g t body (xs.map enc) (S y) (Z y) = .nx (S (xs.foldl F y)) (Z (xs.foldl F y))
  | [], y, _ => by rw [List.map_nil, loopD, if_pos (st y)]; rfl
  | x :: xs, y, hb => by
    obtain ⟨s1, e1, e2⟩ := hb x List.mem_cons_self y
    rw [List.map_cons, loopD, if_pos (st y), e1]
    dsimp only
    rcases e2 with e2 | e2 <;> (rw [e2]; exact loop_fold S Z F st xs (F y x) fun x' m => hb x' (List.mem_cons_of_mem _ m))
/-- .. with an invariant of what is carried -/
theorem loop_foldI {γ : Type} (S : γ → ISt) (Z : γ → IHp) (F : γ → β → γ) (P : γ → Prop) (st : ∀ y, Stable g (Z y)) : ∀ (xs : List β) (y : γ), P y → (∀ x ∈ xs, ∀ y, P y → P (F y x) ∧ ∃ s1, t.set (enc x) (S y) = some s1 ∧ (body s1 (Z y) = .nx (S (F y x)) (Z (F y x)) ∨ body s1 (Z y) = .ct (S (F y x)) (Z (F y x)))) →
    loopD g t body (xs.map enc) (S y) (Z y) = .nx (S (xs.foldl F y)) (Z (xs.foldl F y))
  | [], y, _, _ => by rw [List.map_nil, loopD, if_pos (st y)]; rfl
  | x :: xs, y, p, hb => by
    obtain ⟨p2, s1, e1, e2⟩ := hb x List.mem_cons_self y p
    rw [List.map_cons, loopD, if_pos (st y), e1]
    dsimp only
    rcases e2 with e2 | e2 <;> (rw [e2]; exact loop_foldI S Z F P st xs (F y x) p2 fun x' m => hb x' (List.mem_cons_of_mem _ m))
/-- a loop that looks for an item -/
theorem loop_find (p : β → Bool) (r : β → D) (st : Stable g h) (s : ISt) : ∀ (xs : List β), (∀ x ∈ xs, ∃ s1, t.set (enc x) s = some s1 ∧ (p x = true → body s1 h = .rt (r x) h) ∧ (p x = false → body s1 h = .nx s h)) →
    loopD g t body (xs.map enc) s h = match xs.find? p with | some x => .rt (r x) h | none => .nx s h
  | [], _ => by rw [List.map_nil, loopD, if_pos st]; rfl
  | x :: xs, hb => by
    obtain ⟨s1, e1, e2, e3⟩ := hb x List.mem_cons_self
    rw [List.map_cons, loopD, if_pos st, e1, List.find?_cons]
    dsimp only
    cases hp : p x with
    | true => rw [e2 hp]
    | false =>
      rw [e3 hp]
      exact loop_find p r st s xs fun x' m => hb x' (List.mem_cons_of_mem _ m)
/-- a loop with an invariant that is never left -/
theorem loop_all (P : ISt → IHp → Prop) (st : ∀ s h, P s h → Stable g h) : ∀ (ds : List D) (s : ISt) (h : IHp), P s h → (∀ d ∈ ds, ∀ s h, P s h → ∃ s1 s2 h2, t.set d s = some s1 ∧ (body s1 h = .nx s2 h2 ∨ body s1 h = .ct s2 h2) ∧ P s2 h2) →
    ∃ s' h', loopD g t body ds s h = .nx s' h' ∧ P s' h'
  | [], s, h, p, _ => by
    rw [loopD, if_pos (st s h p)]
    exact ⟨s, h, rfl, p⟩
  | d :: ds, s, h, p, hb => by
    obtain ⟨s1, s2, h2, e1, e2, p2⟩ := hb d List.mem_cons_self s h p
    rw [loopD, if_pos (st s h p), e1]
    dsimp only
    rcases e2 with e2 | e2 <;> (rw [e2]; exact loop_all P st ds s2 h2 p2 fun d' m => hb d' (List.mem_cons_of_mem _ m))
end
end Dn

set_option Elab.async false
set_option linter.all false
set_option maxRecDepth 100000
set_option maxHeartbeats 4000000
/-! the drawing hand that all laws share -/
namespace Dn
open PySem L2
/-- the draw of a digit, as gen.py prints it -/
noncomputable def m__law_draw : MF := runD 5
 (sSeq (sIf (mAnd (mB (mOp gEq (mOp gIx (mVar 0) (mC (.int 2))) (mC (.int 0)))) (mB (mOp gLt (mOp gIx (mVar 0) (mC (.int 1))) (mB1 gLen (mCons (mOp gIx (mVar 0) (mC (.int 0))) mNil)))))
  (sSeq (sSet 2 (mOp gIx (mOp gIx (mVar 0) (mC (.int 0))) (mOp gIx (mVar 0) (mC (.int 1)))))
 (sSeq (sSt (mOp gAdd (mOp gIx (mVar 0) (mC (.int 1))) (mC (.int 1))) (mVar 0) (mC (.int 1)))
 (sSeq (sSt (mOp gMod (mB1 gInt (mCons (mOp gAdd (mOp gAdd (mOp gMul (mOp gIx (mVar 0) (mC (.int 3))) (mC (.int 69621))) (mOp gMul (mVar 2) (mC (.int 48271)))) (mC (.int 811))) mNil)) (mC (.int 2147483629))) (mVar 0) (mC (.int 3)))
 (sIf (mB (mOp gGe (mVar 2) (mOp gPow (mC (.int 10)) (mC (.int 18)))))
  (sSt (mVar 2) (mVar 0) (mC (.int 2)))
  sNx))))
  sNx)
 (sSeq (sIf (mB (mOp gGt (mOp gIx (mVar 0) (mC (.int 2))) (mC (.int 0))))
  (sSeq (sSet 3 (mOp gMod (mB1 gInt (mCons (mOp gIx (mVar 0) (mC (.int 2))) mNil)) (mVar 1)))
 (sSeq (sSt (mOp gDiv (mOp gIx (mVar 0) (mC (.int 2))) (mVar 1)) (mVar 0) (mC (.int 2)))
 (sRet (mVar 3))))
  sNx)
 (sSeq (sSt (mOp gAdd (mOp gIx (mVar 0) (mC (.int 4))) (mC (.int 1))) (mVar 0) (mC (.int 4)))
 (sSeq (sSet 4 (mOp gMod (mB1 gInt (mCons (mOp gMul (mB1 gInt (mCons (mOp gAdd (mOp gIx (mVar 0) (mC (.int 3))) (mOp gMul (mC (.int 7919)) (mOp gIx (mVar 0) (mC (.int 4))))) mNil)) (mC (.int 40692))) mNil)) (mC (.int 2147483647))))
 (sSeq (sSet 4 (mOp gMod (mB1 gInt (mCons (mOp gMul (mVar 4) (mOp gAdd (mOp gDiv (mVar 4) (mC (.int 1009))) (mC (.int 69621)))) mNil)) (mC (.int 2147483647))))
 (sSeq (sSet 4 (mOp gMod (mB1 gInt (mCons (mOp gMul (mVar 4) (mOp gAdd (mOp gDiv (mVar 4) (mC (.int 2003))) (mC (.int 40014)))) mNil)) (mC (.int 2147483563))))
 (sRet (mOp gMod (mB1 gInt (mCons (mOp gDiv (mVar 4) (mC (.int 16))) mNil)) (mVar 1)))))))))
noncomputable def m__law_any : MF := runD 2
 (sRet (mOp gIx (mVar 1) (mCall 2 m__law_draw (mCons (mVar 0) (mCons (mB1 gLen (mCons (mVar 1) mNil)) mNil)))))
/-- the hand: cells, a place among them, what is left of a great one, a mix, a count -/
def hnd (cs : List Int) (p g m c : Int) : List D := [.lst (cs.map D.int), .int p, .int g, .int m, .int c]
def HandOK (u : IO) : Prop := ∃ cs p g m c, u = .lst (hnd cs p g m c) ∧ 0 ≤ p
section
variable {h : IHp} {cs : List Int} {p g m c v : Int} {n : Nat}
@[simp] theorem hnd_0 : atI (hnd cs p g m c) 0 = some (.lst (cs.map D.int)) := (rfl)
@[simp] theorem hnd_1 : atI (hnd cs p g m c) 1 = some (.int p) := (rfl)
@[simp] theorem hnd_2 : atI (hnd cs p g m c) 2 = some (.int g) := (rfl)
@[simp] theorem hnd_3 : atI (hnd cs p g m c) 3 = some (.int m) := (rfl)
@[simp] theorem hnd_4 : atI (hnd cs p g m c) 4 = some (.int c) := (rfl)
@[simp] theorem hst_1 : stO h n 1 (.int v) (some (hnd cs p g m c)) = some (h.set n (.lst (hnd cs v g m c))) := (rfl)
@[simp] theorem hst_2 : stO h n 2 (.int v) (some (hnd cs p g m c)) = some (h.set n (.lst (hnd cs p v m c))) := (rfl)
@[simp] theorem hst_3 : stO h n 3 (.int v) (some (hnd cs p g m c)) = some (h.set n (.lst (hnd cs p g v c))) := (rfl)
@[simp] theorem hst_4 : stO h n 4 (.int v) (some (hnd cs p g m c)) = some (h.set n (.lst (hnd cs p g m v))) := (rfl)
end
theorem draw_end {X : IHp} {z : Nat} (hz : z < X.length) {cs : List Int} {p g m c n : Int} (h0 : 0 ≤ p) (hn : 0 < n) (hs : n < 2 ^ 60) {a : Option D} :
    ∃ r u', (sSeq (sIf (mB (mOp gGt (mOp gIx (mVar 0) (mC (.int 2))) (mC (.int 0))))
  (sSeq (sSet 3 (mOp gMod (mB1 gInt (mCons (mOp gIx (mVar 0) (mC (.int 2))) mNil)) (mVar 1)))
 (sSeq (sSt (mOp gDiv (mOp gIx (mVar 0) (mC (.int 2))) (mVar 1)) (mVar 0) (mC (.int 2)))
 (sRet (mVar 3))))
  sNx)
 (sSeq (sSt (mOp gAdd (mOp gIx (mVar 0) (mC (.int 4))) (mC (.int 1))) (mVar 0) (mC (.int 4)))
 (sSeq (sSet 4 (mOp gMod (mB1 gInt (mCons (mOp gMul (mB1 gInt (mCons (mOp gAdd (mOp gIx (mVar 0) (mC (.int 3))) (mOp gMul (mC (.int 7919)) (mOp gIx (mVar 0) (mC (.int 4))))) mNil)) (mC (.int 40692))) mNil)) (mC (.int 2147483647))))
 (sSeq (sSet 4 (mOp gMod (mB1 gInt (mCons (mOp gMul (mVar 4) (mOp gAdd (mOp gDiv (mVar 4) (mC (.int 1009))) (mC (.int 69621)))) mNil)) (mC (.int 2147483647))))
 (sSeq (sSet 4 (mOp gMod (mB1 gInt (mCons (mOp gMul (mVar 4) (mOp gAdd (mOp gDiv (mVar 4) (mC (.int 2003))) (mC (.int 40014)))) mNil)) (mC (.int 2147483563))))
 (sRet (mOp gMod (mB1 gInt (mCons (mOp gDiv (mVar 4) (mC (.int 16))) mNil)) (mVar 1)))))))) [some (.ref z), some (.int n), a, none, none] (X.set z (.lst (hnd cs p g m c))) = .rt (.int r) (X.set z u') ∧ HandOK u' ∧ 0 ≤ r ∧ r < n := by
  by_cases hg : 0 < g
  · exact ⟨g % n, .lst (hnd cs p (g / n) m c), by simp [hz, hg, gMod_int hn, gDiv_s hn hs], ⟨_, _, _, _, _, rfl, h0⟩, Int.emod_nonneg _ (by omega), Int.emod_lt_of_pos _ hn⟩
  · have k1 : ((m + 7919 * (c + 1)) * 40692 % 2147483647).natAbs < 2 ^ 64 := by have := Int.emod_nonneg ((m + 7919 * (c + 1)) * 40692) (show (2147483647 : Int) ≠ 0 by decide); have := Int.emod_lt_of_pos ((m + 7919 * (c + 1)) * 40692) (show (0 : Int) < 2147483647 by decide); omega
    generalize hz1 : (m + 7919 * (c + 1)) * 40692 % 2147483647 = z1 at k1
    have k2 : (z1 * (z1 / 1009 + 69621) % 2147483647).natAbs < 2 ^ 64 := by have := Int.emod_nonneg (z1 * (z1 / 1009 + 69621)) (show (2147483647 : Int) ≠ 0 by decide); have := Int.emod_lt_of_pos (z1 * (z1 / 1009 + 69621)) (show (0 : Int) < 2147483647 by decide); omega
    generalize hz2 : z1 * (z1 / 1009 + 69621) % 2147483647 = z2 at k2
    exact ⟨z2 * (z2 / 2003 + 40014) % 2147483563 / 16 % n, .lst (hnd cs p g m (c + 1)), by
      simp [hz, hg, gMul_l (show (7919 : Int).natAbs < 2 ^ 64 by decide), gMul_r (show (40692 : Int).natAbs < 2 ^ 64 by decide), gMod_int (show (0 : Int) < 2147483647 by decide), hz1, gDiv_s (show (0 : Int) < 1009 by decide) (by decide), gMul_l k1, hz2, gDiv_s (show (0 : Int) < 2003 by decide) (by decide), gMul_l k2, gMod_int (show (0 : Int) < 2147483563 by decide), gDiv_s (show (0 : Int) < 16 by decide) (by decide), gMod_int hn], ⟨_, _, _, _, _, rfl, h0⟩, Int.emod_nonneg _ (by omega), Int.emod_lt_of_pos _ hn⟩
theorem e_draw {X : IHp} {z : Nat} {u : IO} (hz : z < X.length) (hu : HandOK u) {n : Int} (hn : 0 < n) (hs : n < 2 ^ 60) :
    ∃ r u', m__law_draw [.ref z, .int n] (X.set z u) = .ok (.int r) (X.set z u') ∧ HandOK u' ∧ 0 ≤ r ∧ r < n := by
  obtain ⟨cs, p, g, m, c, rfl, h0⟩ := hu
  unfold m__law_draw
  rw [runD_eq]
  by_cases hc : g = 0 ∧ p < (cs.length : Int)
  · obtain ⟨hg, hp⟩ := hc
    subst hg
    have hpl : p.toNat < cs.length := by omega
    have ec : L2.atI (cs.map D.int) p = some (.int cs[p.toNat]) := by
      have := atI_nat (l := cs) hpl
      rw [Int.toNat_of_nonneg h0] at this
      rw [atI_map, this]
      rfl
    generalize cs[p.toNat] = cell at ec
    have pw : ∀ h, gPow h (.int 10) (.int 18) = some (.int 1000000000000000000) := fun h => by
      rw [gPow_int (by decide) (by decide) (by decide)]
      rfl
    generalize hm : (m * 69621 + cell * 48271 + 811) % 2147483629 = m2
    have step : ∀ (b : Bool) (y : MS), decide (1000000000000000000 ≤ cell) = b → seqK y ((sIf (mAnd (mB (mOp gEq (mOp gIx (mVar 0) (mC (.int 2))) (mC (.int 0)))) (mB (mOp gLt (mOp gIx (mVar 0) (mC (.int 1))) (mB1 gLen (mCons (mOp gIx (mVar 0) (mC (.int 0))) mNil)))))
        (sSeq (sSet 2 (mOp gIx (mOp gIx (mVar 0) (mC (.int 0))) (mOp gIx (mVar 0) (mC (.int 1)))))
       (sSeq (sSt (mOp gAdd (mOp gIx (mVar 0) (mC (.int 1))) (mC (.int 1))) (mVar 0) (mC (.int 1)))
       (sSeq (sSt (mOp gMod (mB1 gInt (mCons (mOp gAdd (mOp gAdd (mOp gMul (mOp gIx (mVar 0) (mC (.int 3))) (mC (.int 69621))) (mOp gMul (mVar 2) (mC (.int 48271)))) (mC (.int 811))) mNil)) (mC (.int 2147483629))) (mVar 0) (mC (.int 3)))
       (sIf (mB (mOp gGe (mVar 2) (mOp gPow (mC (.int 10)) (mC (.int 18)))))
        (sSt (mVar 2) (mVar 0) (mC (.int 2)))
        sNx))))
        sNx) [some (.ref z), some (.int n), none, none, none] (X.set z (.lst (hnd cs p 0 m c)))) = y [some (.ref z), some (.int n), some (.int cell), none, none] (X.set z (.lst (hnd cs (p + 1) (if b = true then cell else 0) m2 c))) := fun b y hb => by
      cases b with
      | true =>
        simp [hz, hp, ec, gMul_r (show (69621 : Int).natAbs < 2 ^ 64 by decide), gMul_r (show (48271 : Int).natAbs < 2 ^ 64 by decide), gMod_int (show (0 : Int) < 2147483629 by decide), hm, pw, hb]
      | false =>
        simp [hz, hp, ec, gMul_r (show (69621 : Int).natAbs < 2 ^ 64 by decide), gMul_r (show (48271 : Int).natAbs < 2 ^ 64 by decide), gMod_int (show (0 : Int) < 2147483629 by decide), hm, pw, hb]
    obtain ⟨r, u', q1, q2, q3⟩ := draw_end (X := X) hz (cs := cs) (p := p + 1) (g := if decide (1000000000000000000 ≤ cell) = true then cell else 0) (m := m2) (c := c) (a := some (.int cell)) (by omega) hn hs
    refine ⟨r, u', ?_, q2, q3⟩
    rw [sSeq_eq]
    refine (congrArg retK (step _ _ rfl)).trans ?_
    rw [q1]
    rfl
  · obtain ⟨r, u', q1, q2, q3⟩ := draw_end (X := X) hz (cs := cs) (p := p) (g := g) (m := m) (c := c) (a := none) h0 hn hs
    refine ⟨r, u', ?_, q2, q3⟩
    rw [sSeq_eq]
    have e : (sIf (mAnd (mB (mOp gEq (mOp gIx (mVar 0) (mC (.int 2))) (mC (.int 0)))) (mB (mOp gLt (mOp gIx (mVar 0) (mC (.int 1))) (mB1 gLen (mCons (mOp gIx (mVar 0) (mC (.int 0))) mNil)))))
        (sSeq (sSet 2 (mOp gIx (mOp gIx (mVar 0) (mC (.int 0))) (mOp gIx (mVar 0) (mC (.int 1)))))
       (sSeq (sSt (mOp gAdd (mOp gIx (mVar 0) (mC (.int 1))) (mC (.int 1))) (mVar 0) (mC (.int 1)))
       (sSeq (sSt (mOp gMod (mB1 gInt (mCons (mOp gAdd (mOp gAdd (mOp gMul (mOp gIx (mVar 0) (mC (.int 3))) (mC (.int 69621))) (mOp gMul (mVar 2) (mC (.int 48271)))) (mC (.int 811))) mNil)) (mC (.int 2147483629))) (mVar 0) (mC (.int 3)))
       (sIf (mB (mOp gGe (mVar 2) (mOp gPow (mC (.int 10)) (mC (.int 18)))))
        (sSt (mVar 2) (mVar 0) (mC (.int 2)))
        sNx))))
        sNx) [some (.ref z), some (.int n), none, none, none] (X.set z (.lst (hnd cs p g m c))) = .nx [some (.ref z), some (.int n), none, none, none] (X.set z (.lst (hnd cs p g m c))) := by
      by_cases hg : g = 0
      · have hp : ¬ p < (cs.length : Int) := fun z => hc ⟨hg, z⟩
        simp [hz, hg, hp]
      · simp [hz, hg]
    refine (congrArg (fun r => retK (seqK _ r)) e).trans ?_
    rw [seqK_nx, q1]
    rfl
/-- .. behind the hand there are more -/
theorem set_app {X L : IHp} {z : Nat} (hz : z < X.length) (u : IO) : X.set z u ++ L = (X ++ L).set z u := by rw [List.set_append_left _ _ hz]
theorem e_drawL {X L : IHp} {z : Nat} {u : IO} (hz : z < X.length) (hu : HandOK u) {n : Int} (hn : 0 < n) (hs : n < 2 ^ 60) :
    ∃ r u', m__law_draw [.ref z, .int n] (X.set z u ++ L) = .ok (.int r) (X.set z u' ++ L) ∧ HandOK u' ∧ 0 ≤ r ∧ r < n := by
  obtain ⟨r, u', e⟩ := e_draw (X := X ++ L) (z := z) (by rw [List.length_append]; omega) hu hn hs
  exact ⟨r, u', by rw [set_app hz, set_app hz]; exact e⟩
theorem e_any {X : IHp} {z : Nat} {u : IO} (hz : z < X.length) (hu : HandOK u) {ds : List D} (h0 : 0 < ds.length) (hs : ds.length < 1000000) {x : D} (hx : x = .lst ds ∨ x = .tup ds) :
    ∃ d u', m__law_any [.ref z, x] (X.set z u) = .ok d (X.set z u') ∧ HandOK u' ∧ d ∈ ds := by
  obtain ⟨r, u', e, o, r0, r1⟩ := e_draw hz hu (n := (ds.length : Nat)) (by omega) (by omega)
  obtain ⟨d, e1, e2⟩ := atI_mem r0 r1
  refine ⟨d, u', ?_, o, e2⟩
  rcases hx with rfl | rfl <;> simp [m__law_any, e, e1]
theorem e_anyL {X L : IHp} {z : Nat} {u : IO} (hz : z < X.length) (hu : HandOK u) {ds : List D} (h0 : 0 < ds.length) (hs : ds.length < 1000000) {x : D} (hx : x = .lst ds ∨ x = .tup ds) :
    ∃ d u', m__law_any [.ref z, x] (X.set z u ++ L) = .ok d (X.set z u' ++ L) ∧ HandOK u' ∧ d ∈ ds := by
  obtain ⟨r, u', e⟩ := e_any (X := X ++ L) (z := z) (by rw [List.length_append]; omega) hu h0 hs hx
  exact ⟨r, u', by rw [set_app hz, set_app hz]; exact e⟩
/-- the hand is made -/
noncomputable def mHand (K0 : Int) : MF := runD 3
 (sSeq (sSetLc 1 (mIt (mSl (mVar 0) mNoPart (mPart (mC (.int 63))))) (.name 2) mYes (mOp gMod (mB1 gInt (mCons (mB1 gAbs (mCons (mB1 gInt (mCons (mVar 2) mNil)) mNil)) mNil)) (mOp gPow (mC (.int 10)) (mC (.int 60)))) [2])
 (sRet (mNew (mCons (mVar 1) (mCons (mC (.int 0)) (mCons (mC (.int 0)) (mCons (mOp gAdd (mC (.int K0)) (mOp gMul (mC (.int 29)) (mB1 gLen (mCons (mVar 1) mNil)))) (mCons (mC (.int 0)) mNil))))))))
theorem cut_map {β : Type} (f : β → D) (xs : List β) (lo hi : Option Int) : cutD (xs.map f) lo hi = ((xs.drop (HT.sIx xs.length 0 lo)).take (HT.sIx xs.length xs.length hi - HT.sIx xs.length 0 lo)).map f := by
  unfold cutD
  rw [List.length_map, List.map_take, List.map_drop]
theorem e_hand (X : IHp) (K0 : Int) {ns : List Int} (hn : ns.length ≤ 63) : ∃ u, mHand K0 [.scr (ns.map D.int)] X = .ok (.ref X.length) (X ++ [u]) ∧ HandOK u := by
  obtain ⟨M, hM, p0⟩ : ∃ M : Int, M = 10 ^ 60 ∧ 0 < M := ⟨10 ^ 60, rfl, by decide⟩
  have pw : ∀ h, gPow h (.int 10) (.int 60) = some (.int M) := fun h => by rw [gPow_int (by decide) (by decide) (by decide), hM]; rfl
  obtain ⟨ys, hy, yl⟩ : ∃ ys : List Int, cutD (ns.map D.int) none (some 63) = ys.map D.int ∧ ys.length ≤ 63 := ⟨_, cut_map _ _ _ _, by rw [List.length_take, List.length_drop]; omega⟩
  unfold mHand
  simp [hy]
  rw [lc_all (fun y => .int ((if y < 0 then -y else y) % M)) (by simp) ys (fun y _ => ⟨_, rfl, rfl, by simp [pw, gMod_int p0]⟩) (by omega)]
  refine ⟨.lst (hnd (ys.map fun y => (if y < 0 then -y else y) % M) 0 0 (K0 + 29 * (ys.length : Nat)) 0), ?_, ⟨_, _, _, _, _, rfl, Int.le_refl _⟩⟩
  simp [gMul_l (show (29 : Int).natAbs < 2 ^ 64 by decide), hnd]
end Dn

set_option Elab.async false
set_option linter.all false
set_option maxRecDepth 100000
set_option maxHeartbeats 4000000
/-! ==, repr of data -/
namespace Dn
open PySem L2
/-- data of a depth below k, a weight of at most w, small numbers -/
def ShD (k w : Nat) (d : D) : Prop := ∃ p, toPy d = some p ∧ p.canLay0 = true ∧ p.intsShort 13 = true ∧ p.showable = true ∧ p.depth ≤ k ∧ p.weight ≤ w
def ShL (k w n : Nat) (ds : List D) : Prop := ∃ ps, toPys ds = some ps ∧ PyData.canLayAll0 ps = true ∧ PyData.intsShortAll 13 ps = true ∧ PyData.showableAll ps = true ∧ PyData.depthAll ps ≤ k ∧ PyData.weightAll ps ≤ n * (w + 1)
theorem ShD.mono {k w k' w' : Nat} {d : D} (s : ShD k w d) (hk : k ≤ k') (hw : w ≤ w') : ShD k' w' d := by
  obtain ⟨p, a, b, c, e, f, g⟩ := s
  exact ⟨p, a, b, c, e, by omega, by omega⟩
theorem ShD.non {k w : Nat} : ShD k w .non := ⟨.none, by rw [toPy], rfl, rfl, rfl, Nat.zero_le _, Nat.zero_le _⟩
theorem ShD.bl {k w : Nat} {b : Bool} : ShD k w (.bl b) := ⟨.bool b, by rw [toPy], rfl, rfl, rfl, Nat.zero_le _, Nat.zero_le _⟩
theorem log2_le {n k : Nat} (h : n < 2 ^ (k + 1)) : n.log2 ≤ k := by
  by_cases h0 : n = 0
  · subst h0; exact Nat.zero_le _
  · exact Nat.le_of_lt_succ ((Nat.log2_lt h0).mpr h)
theorem ShD.int {k w : Nat} {i : Int} (h : i.natAbs < 1000000) (hw : 20 ≤ w) : ShD k w (.int i) := by
  have hl : i.natAbs.log2 ≤ 19 := log2_le (by omega)
  refine ⟨.int i, by rw [toPy], rfl, ?_, ?_, Nat.zero_le _, ?_⟩
  · show decide _ = true
    exact decide_eq_true (PyData.shown_int_le (Nat.lt_of_lt_of_le h (by decide)))
  · show decide _ = true
    exact decide_eq_true (by omega)
  · show (if i == 0 then 0 else i.natAbs.log2 + 1) ≤ w
    split <;> omega
theorem ShD.str {k w : Nat} {x : Str} (h : PyData.strOk x = true) (hw : x.cps.size ≤ w) : ShD k w (.str x) := ⟨.str x, by rw [toPy], h, rfl, rfl, Nat.zero_le _, hw⟩
theorem ShL.nil {k w : Nat} : ShL k w 0 [] := ⟨[], by rw [toPys], rfl, rfl, rfl, Nat.zero_le _, Nat.zero_le _⟩
theorem ShL.cons {k w n : Nat} {d : D} {ds : List D} (a : ShD k w d) (b : ShL k w n ds) : ShL k w (n + 1) (d :: ds) := by
  obtain ⟨p, a1, a2, a3, a4, a5, a6⟩ := a
  obtain ⟨ps, b1, b2, b3, b4, b5, b6⟩ := b
  refine ⟨p :: ps, by rw [toPys, a1, b1], ?_, ?_, ?_, ?_, ?_⟩
  · rw [PyData.canLayAll0, a2, b2]; rfl
  · rw [PyData.intsShortAll, a3, b3]; rfl
  · rw [PyData.showableAll, a4, b4]; rfl
  · rw [PyData.depthAll]; omega
  · rw [PyData.weightAll, Nat.succ_mul]; omega
theorem ShL.of {k w : Nat} : ∀ {ds : List D}, (∀ d ∈ ds, ShD k w d) → ShL k w ds.length ds
  | [], _ => .nil
  | d :: ds, h => .cons (h d List.mem_cons_self) (ShL.of fun e m => h e (List.mem_cons_of_mem _ m))
theorem ShL.tup {k w n v : Nat} {ds : List D} (a : ShL k w n ds) (hv : n * (w + 1) ≤ v) : ShD (k + 1) v (.tup ds) := by
  obtain ⟨ps, b1, b2, b3, b4, b5, b6⟩ := a
  refine ⟨.tuple ps, by rw [toPy, b1]; rfl, b2, b3, b4, ?_, ?_⟩
  · rw [PyData.depth]; omega
  · rw [PyData.weight]; omega
theorem ShL.lst {k w n v : Nat} {ds : List D} (a : ShL k w n ds) (hv : n * (w + 1) ≤ v) : ShD (k + 1) v (.lst ds) := by
  obtain ⟨ps, b1, b2, b3, b4, b5, b6⟩ := a
  refine ⟨.list ps, by rw [toPy, b1]; rfl, b2, b3, b4, ?_, ?_⟩
  · rw [PyData.depth]; omega
  · rw [PyData.weight]; omega
theorem toPyH_of {h : IHp} {d : D} {p : PyData} (e : toPy d = some p) : toPyH h d = some p := by
  cases d with
  | ref n => rw [toPy] at e; cases e
  | _ => exact e
theorem ShD.repr {h : IHp} {k w : Nat} {d : D} (s : ShD k w d) (hk : k ≤ 60) (hw : w ≤ 1000000) : ∃ x, gRepr h [d] = some (.str x) := by
  obtain ⟨p, a, b, c, e, f, g⟩ := s
  have hl : p.layable0 = true := by
    unfold PyData.layable0
    rw [b, decide_eq_true (show p.depth ≤ 64 by omega), decide_eq_true (show p.weight ≤ 2 ^ 20 by omega)]
    rfl
  have hs := PyData.shown_fits_of_layable0 (by decide) (by decide) hl c
  refine ⟨p.shown, ?_⟩
  show (if isDic0 d = true then _ else (toPyH h d).bind _) = _
  rw [if_neg (by
    intro e0
    cases isDic0_eq e0
    rw [toPy] at a
    cases a), toPyH_of a, Option.bind_some, if_pos ⟨e, PyData.hasDict_of_canLay p b, hs, by omega⟩]
theorem repr_dic0 {h : IHp} : ∃ x, gRepr h [.dic [] []] = some (.str x) := ⟨_, rfl⟩
/-! == -/
/-- data of a depth of at most k -/
def LyD (k : Nat) (d : D) : Prop := ∃ p, toPy d = some p ∧ p.canLay0 = true ∧ p.depth ≤ k
theorem ShD.ly {k w : Nat} {d : D} (s : ShD k w d) : LyD k d := let ⟨p, a, b, _, _, f, _⟩ := s; ⟨p, a, b, f⟩
theorem LyD.mono {k k' : Nat} {d : D} (s : LyD k d) (hk : k ≤ k') : LyD k' d := let ⟨p, a, b, f⟩ := s; ⟨p, a, b, by omega⟩
theorem LyD.non {k : Nat} : LyD k .non := ⟨.none, by rw [toPy], rfl, Nat.zero_le _⟩
theorem LyD.bl {k : Nat} {b : Bool} : LyD k (.bl b) := ⟨.bool b, by rw [toPy], rfl, Nat.zero_le _⟩
theorem LyD.int {k : Nat} {i : Int} : LyD k (.int i) := ⟨.int i, by rw [toPy], rfl, Nat.zero_le _⟩
theorem LyD.str {k : Nat} {x : Str} (h : PyData.strOk x = true) : LyD k (.str x) := ⟨.str x, by rw [toPy], h, Nat.zero_le _⟩
theorem LyD.pys {k : Nat} : ∀ {ds : List D}, (∀ d ∈ ds, LyD k d) → ∃ ps, toPys ds = some ps ∧ PyData.canLayAll0 ps = true ∧ PyData.depthAll ps ≤ k
  | [], _ => ⟨[], by rw [toPys], rfl, Nat.zero_le _⟩
  | d :: ds, h => by
    obtain ⟨p, a1, a2, a3⟩ := h d List.mem_cons_self
    obtain ⟨ps, b1, b2, b3⟩ := LyD.pys (ds := ds) fun e m => h e (List.mem_cons_of_mem _ m)
    exact ⟨p :: ps, by rw [toPys, a1, b1], by rw [PyData.canLayAll0, a2, b2]; rfl, by rw [PyData.depthAll]; omega⟩
theorem LyD.tup {k : Nat} {ds : List D} (h : ∀ d ∈ ds, LyD k d) : LyD (k + 1) (.tup ds) := by
  obtain ⟨ps, b1, b2, b3⟩ := LyD.pys h
  exact ⟨.tuple ps, by rw [toPy, b1]; rfl, b2, by rw [PyData.depth]; omega⟩
theorem LyD.lst {k : Nat} {ds : List D} (h : ∀ d ∈ ds, LyD k d) : LyD (k + 1) (.lst ds) := by
  obtain ⟨ps, b1, b2, b3⟩ := LyD.pys h
  exact ⟨.list ps, by rw [toPy, b1]; rfl, b2, by rw [PyData.depth]; omega⟩
theorem LyD.shaped {k : Nat} {d : D} (s : LyD k d) (hk : k ≤ 60) : ∃ p, (∀ h, toPyH h d = some p) ∧ toPy d = some p ∧ SeqAt.shaped p = true := by
  obtain ⟨p, a, b, f⟩ := s
  refine ⟨p, fun h => toPyH_of a, a, ?_⟩
  unfold SeqAt.shaped
  rw [b, decide_eq_true (show p.depth ≤ 64 by omega)]
  rfl
mutual
/-- == of data -/
def deq : D → D → Bool
  | .non, .non => true
  | .bl a, .bl b => a == b
  | .bl a, .int j => (if a then 1 else 0) == j
  | .int i, .bl b => i == (if b then 1 else 0)
  | .int i, .int j => decide (i = j)
  | .str x, .str y => decide (x = y)
  | .lst xs, .lst ys => deqs xs ys
  | .tup xs, .tup ys => deqs xs ys
  | _, _ => false
def deqs : List D → List D → Bool
  | [], [] => true
  | x :: xs, y :: ys => deq x y && deqs xs ys
  | _, _ => false
end
mutual
theorem deq_eqv : ∀ (x y : D) {p q : PyData}, toPy x = some p → toPy y = some q → PyData.eqv p q = deq x y
  | .ref _, _, _, _, e, _ => by rw [toPy] at e; cases e
  | .scr _, _, _, _, e, _ => by rw [toPy] at e; cases e
  | .dic _ _, _, _, _, e, _ => by rw [toPy] at e; cases e
  | _, .ref _, _, _, _, e => by rw [toPy] at e; cases e
  | _, .scr _, _, _, _, e => by rw [toPy] at e; cases e
  | _, .dic _ _, _, _, _, e => by rw [toPy] at e; cases e
  | .non, y, p, q, e, f => by
    rw [toPy] at e; cases e
    cases y with
    | tup ds => rw [toPy] at f; cases g : toPys ds <;> (rw [g] at f; cases f); rfl
    | lst ds => rw [toPy] at f; cases g : toPys ds <;> (rw [g] at f; cases f); rfl
    | _ => rw [toPy] at f; cases f <;> rfl
  | .bl a, y, p, q, e, f => by
    rw [toPy] at e; cases e
    cases y with
    | tup ds => rw [toPy] at f; cases g : toPys ds <;> (rw [g] at f; cases f); rfl
    | lst ds => rw [toPy] at f; cases g : toPys ds <;> (rw [g] at f; cases f); rfl
    | _ => rw [toPy] at f; cases f <;> rfl
  | .int i, y, p, q, e, f => by
    rw [toPy] at e; cases e
    cases y with
    | tup ds => rw [toPy] at f; cases g : toPys ds <;> (rw [g] at f; cases f); rfl
    | lst ds => rw [toPy] at f; cases g : toPys ds <;> (rw [g] at f; cases f); rfl
    | int j => rw [toPy] at f; cases f; rw [PyData.eqv, deq, Bool.beq_eq_decide_eq]
    | _ => rw [toPy] at f; cases f <;> rfl
  | .str a, y, p, q, e, f => by
    rw [toPy] at e; cases e
    cases y with
    | tup ds => rw [toPy] at f; cases g : toPys ds <;> (rw [g] at f; cases f); rfl
    | lst ds => rw [toPy] at f; cases g : toPys ds <;> (rw [g] at f; cases f); rfl
    | str b => rw [toPy] at f; cases f; rw [PyData.eqv, deq, Bool.beq_eq_decide_eq]
    | _ => rw [toPy] at f; cases f <;> rfl
  | .tup xs, y, p, q, e, f => by
    rw [toPy] at e
    cases g1 : toPys xs with
    | none => rw [g1] at e; cases e
    | some ps =>
      rw [g1] at e; cases e
      cases y with
      | tup ds =>
        rw [toPy] at f
        cases g : toPys ds with
        | none => rw [g] at f; cases f
        | some qs => rw [g] at f; cases f; rw [PyData.eqv, deq]; exact deqs_eqv xs ds g1 g
      | lst ds => rw [toPy] at f; cases g : toPys ds <;> (rw [g] at f; cases f); rfl
      | _ => rw [toPy] at f; cases f <;> rfl
  | .lst xs, y, p, q, e, f => by
    rw [toPy] at e
    cases g1 : toPys xs with
    | none => rw [g1] at e; cases e
    | some ps =>
      rw [g1] at e; cases e
      cases y with
      | lst ds =>
        rw [toPy] at f
        cases g : toPys ds with
        | none => rw [g] at f; cases f
        | some qs => rw [g] at f; cases f; rw [PyData.eqv, deq]; exact deqs_eqv xs ds g1 g
      | tup ds => rw [toPy] at f; cases g : toPys ds <;> (rw [g] at f; cases f); rfl
      | _ => rw [toPy] at f; cases f <;> rfl
theorem deqs_eqv : ∀ (xs ys : List D) {ps qs : List PyData}, toPys xs = some ps → toPys ys = some qs → PyData.eqvAll ps qs = deqs xs ys
  | [], [], _, _, e, f => by rw [toPys] at e f; cases e; cases f; rw [PyData.eqvAll, deqs]
  | [], y :: ys, _, _, e, f => by
    rw [toPys] at e; cases e
    rw [toPys] at f
    cases g : toPy y <;> cases g2 : toPys ys <;> (rw [g, g2] at f; cases f)
    rw [PyData.eqvAll]; rfl
  | x :: xs, [], _, _, e, f => by
    rw [toPys] at f; cases f
    rw [toPys] at e
    cases g : toPy x <;> cases g2 : toPys xs <;> (rw [g, g2] at e; cases e)
    rw [PyData.eqvAll]; rfl
  | x :: xs, y :: ys, _, _, e, f => by
    rw [toPys] at e f
    cases g : toPy x with
    | none => rw [g] at e; cases e
    | some p =>
      cases g2 : toPys xs with
      | none => rw [g, g2] at e; cases e
      | some ps =>
        rw [g, g2] at e; cases e
        cases k : toPy y with
        | none => rw [k] at f; cases f
        | some q =>
          cases k2 : toPys ys with
          | none => rw [k, k2] at f; cases f
          | some qs =>
            rw [k, k2] at f; cases f
            rw [PyData.eqvAll, deqs, deq_eqv x y g k, deqs_eqv xs ys g2 k2]
end
theorem gEq_data {h : IHp} {k : Nat} {x y : D} (a : LyD k x) (b : LyD k y) (hk : k ≤ 60) : gEq h x y = some (.bl (deq x y)) := by
  obtain ⟨p, p1, p2, p3⟩ := a.shaped hk
  obtain ⟨q, q1, q2, q3⟩ := b.shaped hk
  have e := deq_eqv x y p2 q2
  have core : (match toPyH h x, toPyH h y with
    | some a, some b => if SeqAt.shaped a = true ∧ SeqAt.shaped b = true then some (D.bl (PyData.eqv a b)) else none
    | _, _ => none) = some (.bl (deq x y)) := by
    rw [p1 h, q1 h]
    dsimp only
    rw [if_pos ⟨p3, q3⟩, e]
  unfold gEq
  split
  · rw [deq]
  · exact core
theorem gNe_data {h : IHp} {k : Nat} {x y : D} (a : LyD k x) (b : LyD k y) (hk : k ≤ 60) : gNe h x y = some (.bl (!deq x y)) := by
  obtain ⟨p, p1, p2, p3⟩ := a.shaped hk
  obtain ⟨q, q1, q2, q3⟩ := b.shaped hk
  have e := deq_eqv x y p2 q2
  have core : (match toPyH h x, toPyH h y with
    | some a, some b => if SeqAt.shaped a = true ∧ SeqAt.shaped b = true then some (D.bl (!PyData.eqv a b)) else none
    | _, _ => none) = some (.bl (!deq x y)) := by
    rw [p1 h, q1 h]
    dsimp only
    rw [if_pos ⟨p3, q3⟩, e]
  unfold gNe
  split
  · rw [deq]
  · exact core
/-! of a live list -/
theorem toPyH_ref {h : IHp} {n : Nat} {ds : List D} (e : h[n]? = some (.lst ds)) : toPyH h (.ref n) = toPyH h (.lst ds) := by
  unfold toPyH
  dsimp only
  rw [e]
  dsimp only
  rw [toPy]
theorem gEq_refL {h : IHp} {n : Nat} {ds : List D} {y : D} (e : h[n]? = some (.lst ds)) : gEq h (.ref n) y = gEq h (.lst ds) y := by
  unfold gEq
  cases y <;> (dsimp only; rw [toPyH_ref e])
theorem gNe_refL {h : IHp} {n : Nat} {ds : List D} {y : D} (e : h[n]? = some (.lst ds)) : gNe h (.ref n) y = gNe h (.lst ds) y := by
  unfold gNe
  cases y <;> (dsimp only; rw [toPyH_ref e])
theorem LyD.nilL {k : Nat} : LyD (k + 1) (.lst []) := LyD.lst fun d m => nomatch m
theorem deqs_nil (ds : List D) : deqs ds [] = ds.isEmpty := by cases ds <;> simp [deqs]
theorem gNe_nil {h : IHp} {k : Nat} {ds : List D} (a : ∀ d ∈ ds, LyD k d) (hk : k ≤ 50) : gNe h (.lst ds) (.lst []) = some (.bl (!ds.isEmpty)) := by
  rw [gNe_data (LyD.lst a) LyD.nilL (by omega), deq, deqs_nil]
theorem gEq_nil {h : IHp} {k : Nat} {ds : List D} (a : ∀ d ∈ ds, LyD k d) (hk : k ≤ 50) : gEq h (.lst ds) (.lst []) = some (.bl ds.isEmpty) := by
  rw [gEq_data (LyD.lst a) LyD.nilL (by omega), deq, deqs_nil]
theorem gNe_ints {h : IHp} (is : List Int) : gNe h (.lst (is.map D.int)) (.lst []) = some (.bl (!is.isEmpty)) := by
  rw [gNe_nil (k := 0) (fun d m => by obtain ⟨i, _, rfl⟩ := List.mem_map.mp m; exact LyD.int) (by omega)]
  cases is <;> rfl
theorem gEq_ints {h : IHp} (is : List Int) : gEq h (.lst (is.map D.int)) (.lst []) = some (.bl is.isEmpty) := by
  rw [gEq_nil (k := 0) (fun d m => by obtain ⟨i, _, rfl⟩ := List.mem_map.mp m; exact LyD.int) (by omega)]
  cases is <;> rfl
theorem deq_str {x y : Str} : deq (.str x) (.str y) = decide (x = y) := by rw [deq]
end Dn
namespace Dn
open PySem L2
/-! kinds of live objects -/
def tyRef : Option IO → String
  | some (.dic _ _) => "dict"
  | _ => "list"
section
variable {h : IHp} {n : Nat} {o : Option IO} {ds : List D}
@[simp] theorem ty_ref : tyD h (.ref n) = tyRef h[n]? := by
  unfold tyD tyRef
  first
    | (dsimp only; done)
    | (dsimp only
       cases h[n]? with
       | none => rfl
       | some o => cases o <;> rfl)
@[simp] theorem ty_scr : tyD h (.scr ds) = "list" := (rfl)
@[simp] theorem tyRef_int : (tyRef o == "int") = false := by
  unfold tyRef
  split <;> rfl
@[simp] theorem tyRef_bool : (tyRef o == "bool") = false := by
  unfold tyRef
  split <;> rfl
@[simp] theorem tyRef_str : (tyRef o == "str") = false := by
  unfold tyRef
  split <;> rfl
@[simp] theorem tyRef_tup : (tyRef o == "tuple") = false := by
  unfold tyRef
  split <;> rfl
end
/-! flags -/
theorem blsOf_map {β : Type} (p : β → Bool) : ∀ xs : List β, blsOf (xs.map fun x => D.bl (p x)) = some (xs.map p)
  | [] => rfl
  | x :: xs => by rw [List.map_cons, blsOf, blsOf_map p xs]; rfl
theorem gAll_map {β : Type} {h : IHp} (p : β → Bool) (xs : List β) : gAll h [.lst (xs.map fun x => D.bl (p x))] = some (.bl (xs.all p)) := by
  unfold gAll
  dsimp only [lstOf, Option.bind_some]
  rw [blsOf_map, Option.map_some, List.all_map]
  rfl
theorem gAny_map {β : Type} {h : IHp} (p : β → Bool) (xs : List β) : gAny h [.lst (xs.map fun x => D.bl (p x))] = some (.bl (xs.any p)) := by
  unfold gAny
  dsimp only [lstOf, Option.bind_some]
  rw [blsOf_map, Option.map_some, List.any_map]
  rfl
theorem intsOf_map {β : Type} (f : β → Int) : ∀ xs : List β, intsOf (xs.map fun x => D.int (f x)) = some (xs.map f)
  | [] => rfl
  | x :: xs => by rw [List.map_cons, intsOf, intsOf_map f xs]; rfl
theorem gSum_map {β : Type} {h : IHp} (f : β → Int) (xs : List β) : gSum h [.lst (xs.map fun x => D.int (f x))] = some (.int (xs.map f).sum) := by
  unfold gSum
  dsimp only [lstOf, Option.bind_some]
  rw [intsOf_map, Option.map_some]
@[simp] theorem intsOf_int (is : List Int) : intsOf (is.map D.int) = some is := by
  have := intsOf_map id is
  simpa using this
theorem gSrtSet_lst {h : IHp} {is : List Int} (hz : is.length < 4000) : gSrtSet h (.lst (is.map D.int)) = some ((asc is).map D.int) := by
  show ((some (is.map D.int)).bind fun ds => (intsOf ds).bind fun ns => if ns.length + 1 < 4096 then some ((asc ns).map D.int) else none) = _
  rw [Option.bind_some, intsOf_int, Option.bind_some, if_pos (by omega)]
theorem gSrtSet_tup {h : IHp} {is : List Int} (hz : is.length < 4000) : gSrtSet h (.tup (is.map D.int)) = some ((asc is).map D.int) := by
  show ((some (is.map D.int)).bind fun ds => (intsOf ds).bind fun ns => if ns.length + 1 < 4096 then some ((asc ns).map D.int) else none) = _
  rw [Option.bind_some, intsOf_int, Option.bind_some, if_pos (by omega)]
/-- ascending already -/
theorem asc_id {is : List Int} (h : is.Pairwise (· < ·)) : asc is = is := asc_uniq (asc_sorted is) h fun j => mem_asc
end Dn
namespace Dn
open PySem L2
/-! what is forgotten behind a call -/
section
variable {h L : IHp} {d : D} {n z : Nat} {u v : IO}
theorem gc_app (hd : d.low h.length = true) : gcK h (.ok d (h ++ L)) = .ok d h := by
  unfold gcK
  dsimp only
  rw [if_pos ⟨by simp, fun k hk => .inl (List.getElem?_append_left hk)⟩, frz_low hd]
  dsimp only
  rw [List.take_left]
theorem gc_same (hd : d.low h.length = true) : gcK h (.ok d h) = .ok d h := by
  have := gc_app (L := []) hd
  rwa [List.append_nil] at this
theorem gc_ex {c : Str} : gcK h (.ex c (h ++ L)) = .ex c h := by
  unfold gcK
  dsimp only
  rw [if_pos ⟨by simp, fun k hk => .inl (List.getElem?_append_left hk)⟩, List.take_left]
theorem gc_lst {ds : List D} (hd : D.lows h.length ds = true) : gcK h (.ok (.ref h.length) (h ++ .lst ds :: L)) = .ok (.lst ds) h := by
  unfold gcK
  dsimp only
  rw [if_pos ⟨by simp, fun k hk => .inl (List.getElem?_append_left hk)⟩, D.frz, if_neg (Nat.lt_irrefl _)]
  simp [hd]
theorem gc_hand (hz : z < h.length) (hv : v.low h.length = true) (hd : d.low h.length = true) : gcK (h.set z u) (.ok d (h.set z v ++ L)) = .ok d (h.set z v) := by
  unfold gcK
  dsimp only
  rw [if_pos ⟨by simp, fun k hk => by
    rw [List.length_set] at hk ⊢
    rw [List.getElem?_append_left (by rw [List.length_set]; exact hk)]
    by_cases e : z = k
    · subst e
      refine .inr fun o eo => ?_
      rw [List.getElem?_set_self hk] at eo
      cases eo
      exact hv
    · left
      rw [List.getElem?_set_ne e, List.getElem?_set_ne e]⟩, List.length_set, frz_low hd]
  dsimp only
  rw [show h.length = (h.set z v).length from List.length_set.symm, List.take_left]
theorem gc_hand0 (hz : z < h.length) (hv : v.low h.length = true) (hd : d.low h.length = true) : gcK (h.set z u) (.ok d (h.set z v)) = .ok d (h.set z v) := by
  have := gc_hand (L := []) (u := u) hz hv hd
  rwa [List.append_nil] at this
@[simp] theorem low_int {i : Int} : D.low n (.int i) = true := by rw [D.low]
@[simp] theorem low_bl {b : Bool} : D.low n (.bl b) = true := by rw [D.low]
@[simp] theorem low_non : D.low n .non = true := by rw [D.low]
@[simp] theorem low_str {x : Str} : D.low n (.str x) = true := by rw [D.low]
@[simp] theorem low_tup {ds : List D} : D.low n (.tup ds) = D.lows n ds := by rw [D.low]
@[simp] theorem low_lst {ds : List D} : D.low n (.lst ds) = D.lows n ds := by rw [D.low]
@[simp] theorem lows_nil : D.lows n [] = true := by rw [D.lows]
@[simp] theorem lows_cons {ds : List D} : D.lows n (d :: ds) = (d.low n && D.lows n ds) := by rw [D.lows]
theorem lows_map {β : Type} {f : β → D} (hf : ∀ x, (f x).low n = true) : ∀ xs : List β, D.lows n (xs.map f) = true
  | [] => by rw [List.map_nil, D.lows]
  | x :: xs => by rw [List.map_cons, D.lows, hf, lows_map hf xs]; rfl
@[simp] theorem lows_ints (is : List Int) : D.lows n (is.map D.int) = true := lows_map (fun _ => low_int) is
theorem HandOK.low (o : HandOK u) : u.low n = true := by
  obtain ⟨cs, p, g, m, c, rfl, _⟩ := o
  show D.lows n (hnd cs p g m c) = true
  simp [hnd]
end
/-! ranges of numbers -/
def rgI (lo : Int) (n : Nat) : List Int := (List.range n).map fun i => lo + (i : Nat)
theorem rngD_I (lo : Int) (n : Nat) : rngD lo n = (rgI lo n).map D.int := by simp [rngD, rgI]
theorem mem_rgI {lo d : Int} {n : Nat} : d ∈ rgI lo n ↔ lo ≤ d ∧ d < lo + n := by
  unfold rgI
  rw [List.mem_map]
  constructor
  · rintro ⟨i, hi, rfl⟩
    have := List.mem_range.mp hi
    omega
  · rintro ⟨a, b⟩
    exact ⟨(d - lo).toNat, List.mem_range.mpr (by omega), by omega⟩
@[simp] theorem rgI_len (lo : Int) (n : Nat) : (rgI lo n).length = n := by simp [rgI]
theorem rgI_succ (lo : Int) (n : Nat) : rgI lo (n + 1) = rgI lo n ++ [lo + (n : Nat)] := by
  unfold rgI
  rw [List.range_succ, List.map_append]
  rfl
theorem rgI_cons (lo : Int) (n : Nat) : rgI lo (n + 1) = lo :: rgI (lo + 1) n := by
  unfold rgI
  rw [List.range_succ_eq_map, List.map_cons, List.map_map]
  congr 1
  · simp
  · apply List.map_congr_left
    intro i _
    simp
    omega
theorem rgI_sorted (lo : Int) : ∀ n : Nat, (rgI lo n).Pairwise (· < ·)
  | 0 => by simp [rgI]
  | n + 1 => by
    rw [rgI_succ, List.pairwise_append]
    refine ⟨rgI_sorted lo n, by simp, fun a ha b hb => ?_⟩
    rw [List.mem_singleton.mp hb]
    exact (mem_rgI.mp ha).2
end Dn
namespace Dn
open PySem L2
/-- a loop with an invariant of what is carried and what is left -/
theorem loop_foldR {β γ : Type} {t : Tg} {enc : β → D} {g : It1} {body : MS} (S : γ → ISt) (Z : γ → IHp) (F : γ → β → γ) (P : γ → List β → Prop) (st : ∀ y, Stable g (Z y))
    (hb : ∀ x xs y, P y (x :: xs) → P (F y x) xs ∧ ∃ s1, t.set (enc x) (S y) = some s1 ∧ (body s1 (Z y) = .nx (S (F y x)) (Z (F y x)) ∨ body s1 (Z y) = .ct (S (F y x)) (Z (F y x)))) : ∀ (xs : List β) (y : γ), P y xs →
    loopD g t body (xs.map enc) (S y) (Z y) = .nx (S (xs.foldl F y)) (Z (xs.foldl F y))
  | [], y, _ => by rw [List.map_nil, loopD, if_pos (st y)]; rfl
  | x :: xs, y, p => by
    obtain ⟨p2, s1, e1, e2⟩ := hb x xs y p
    rw [List.map_cons, loopD, if_pos (st y), e1]
    dsimp only
    rcases e2 with e2 | e2 <;> (rw [e2]; exact loop_foldR S Z F P st hb xs (F y x) p2)
end Dn
namespace Dn
open PySem L2
/-! words for what is drawn -/
/-- it ends normally, in such a state -/
def Nx (Q : ISt → IHp → Prop) (r : RT) : Prop := ∃ s h, r = .nx s h ∧ Q s h
theorem Nx.of {Q : ISt → IHp → Prop} {s : ISt} {h : IHp} (q : Q s h) : Nx Q (.nx s h) := ⟨s, h, rfl, q⟩
theorem Nx.eq {Q : ISt → IHp → Prop} {r : RT} {s : ISt} {h : IHp} (e : r = .nx s h) (q : Q s h) : Nx Q r := ⟨s, h, e, q⟩
/-- the law is kept -/
def Tru (r : R D) : Prop := ∃ h, r = .ok (.bl true) h
theorem use_loop {F : RT → Prop} {t : Tg} {g : It1} {body : MS} {ds : List D} {s : ISt} {h : IHp} (P : ISt → IHp → Prop) (st : ∀ s h, P s h → Stable g h) (p : P s h)
    (hb : ∀ d ∈ ds, ∀ s h, P s h → ∃ s1, t.set d s = some s1 ∧ Nx P (body s1 h)) (hk : ∀ s h, P s h → F (.nx s h)) : F (loopD g t body ds s h) := by
  obtain ⟨s', h', e, q⟩ := loop_all P st ds s h p (fun d m s h p => by
    obtain ⟨s1, e1, s2, h2, e2, q⟩ := hb d m s h p
    exact ⟨s1, s2, h2, e1, .inl e2, q⟩)
  rw [e]
  exact hk s' h' q
theorem while_dec {t : MT} {body : MS} (P : Nat → ISt → IHp → Prop) (Q : ISt → IHp → Prop)
    (hs : ∀ k s h, P k s h → ∃ b h1, t s h = .ok b h1 ∧ (b = false → Q s h1) ∧ (b = true → Nx (fun s2 h2 => ∃ k2, k2 < k ∧ P k2 s2 h2) (body s h1))) : ∀ n k s h, k < n → P k s h → Nx Q (whileD t body n s h)
  | 0, k, s, h, hk, _ => absurd hk (Nat.not_lt_zero _)
  | n + 1, k, s, h, hk, p => by
    obtain ⟨b, h1, e1, h2, h3⟩ := hs k s h p
    rw [whileD, e1, bindS_ok]
    cases b with
    | false => rw [if_neg Bool.false_ne_true]; exact .of (h2 rfl)
    | true =>
      obtain ⟨s2, h4, e2, k2, hk2, p2⟩ := h3 rfl
      rw [if_pos rfl, e2]
      exact while_dec P Q hs n k2 s2 h4 (by omega) p2
theorem use_while {F : RT → Prop} {t : MT} {body : MS} {n : Nat} {s : ISt} {h : IHp} (P : Nat → ISt → IHp → Prop) (Q : ISt → IHp → Prop) (k : Nat) (hk : k < n) (p : P k s h)
    (hs : ∀ k s h, P k s h → ∃ b h1, t s h = .ok b h1 ∧ (b = false → Q s h1) ∧ (b = true → Nx (fun s2 h2 => ∃ k2, k2 < k ∧ P k2 s2 h2) (body s h1))) (hF : ∀ s h, Q s h → F (.nx s h)) : F (sWhile n t body s h) := by
  obtain ⟨s2, h2, e, q⟩ := while_dec P Q hs n k s h hk p
  show F (whileD t body n s h)
  rw [e]
  exact hF s2 h2 q
/-! _law_word(lambda) -/
def lamK (b : Bool) (cdn : Str → Option Int) : R D → R D
  | .ok _ h' => if b = true then .ok (.int 9) h' else .bad
  | .ex c h' => if b = true then R.opt ((cdn c).map D.int) h' else .bad
  | .bad => .bad
@[simp] theorem mLam_eq {n : Nat} {P : PySem.Addr} {q : Str} {cdn : Str → Option Int} {m : ME} {s : ISt} {h : IHp} : mLam n P q cdn m s h = lamK (isTab h n P q) cdn (m s h) := by
  unfold mLam lamK
  split <;> (cases m s h <;> rfl)
@[simp] theorem lamK_ok {cdn : Str → Option Int} {d : D} {h : IHp} : lamK true cdn (.ok d h) = .ok (.int 9) h := (rfl)
@[simp] theorem lamK_ex {cdn : Str → Option Int} {c : Str} {h : IHp} : lamK true cdn (.ex c h) = R.opt ((cdn c).map D.int) h := (rfl)
theorem isTab_set {Y L : IHp} {z n : Nat} {P : PySem.Addr} {q : Str} {u : IO} (hn : n ≠ z) (e : Y[n]? = some (.tab P q)) : isTab (Y.set z u ++ L) n P q = true := by
  have hl := (List.getElem?_eq_some_iff.mp e).1
  unfold isTab
  rw [List.getElem?_append_left (by rw [List.length_set]; exact hl), List.getElem?_set_ne (Ne.symm hn), e]
  simp
theorem isTab_set0 {Y : IHp} {z n : Nat} {P : PySem.Addr} {q : Str} {u : IO} (hn : n ≠ z) (e : Y[n]? = some (.tab P q)) : isTab (Y.set z u) n P q = true := by
  have := isTab_set (L := []) (u := u) hn e
  rwa [List.append_nil] at this
theorem flVs_ints (is : List Int) : flVs (is.map D.int) = some (is.map V.int) := by
  induction is with
  | nil => rfl
  | cons i is ih => rw [List.map_cons, flVs, ih]; rfl
theorem inV_ints (d : Int) (is : List Int) : inV (.int d) (is.map V.int) = decide (d ∈ is) := by
  unfold inV
  rw [List.any_map, Bool.eq_iff_iff, List.any_eq_true, decide_eq_true_eq]
  constructor
  · rintro ⟨x, m, e⟩
    have e : (x == d) = true := e
    rw [beq_iff_eq] at e
    subst e
    exact m
  · intro m
    exact ⟨d, m, by show (d == d) = true; simp⟩
theorem gIn_ints {h : IHp} {d : Int} {is : List Int} : gIn h (.int d) (.lst (is.map D.int)) = some (.bl (decide (d ∈ is))) := by
  show (match flV (.int d), (some (is.map D.int)).bind flVs with
    | some v, some vs => some (D.bl (inV v vs))
    | _, _ => none) = _
  rw [Option.bind_some, flVs_ints, ← inV_ints]
  rfl
theorem gIn_intsT {h : IHp} {d : Int} {is : List Int} : gIn h (.int d) (.tup (is.map D.int)) = some (.bl (decide (d ∈ is))) := by
  show (match flV (.int d), (some (is.map D.int)).bind flVs with
    | some v, some vs => some (D.bl (inV v vs))
    | _, _ => none) = _
  rw [Option.bind_some, flVs_ints, ← inV_ints]
  rfl
end Dn

set_option Elab.async false
set_option linter.all false
set_option maxRecDepth 100000
set_option maxHeartbeats 4000000
/-! denotations that several laws share, printed by mkpool.py -/
namespace Dn
open PySem L2
noncomputable def m_is_integer : MF := runD 1
 (sRet (mAndV (mIsi "int" (mVar 0)) (mNotV (mIsi "bool" (mVar 0)))))
noncomputable def m_is_between : MF := runD 3
 (sRet (mAndV (mCall 1 m_is_integer (mCons (mVar 0) mNil)) (mChain gLe gLe (mVar 1) (mVar 0) (mVar 2))))
noncomputable def m_is_tuple_of : MF := runD 2
 (sRet (mAndV (mIsi "tuple" (mVar 0)) (mOp gEq (mB1 gLen (mCons (mVar 0) mNil)) (mVar 1))))
noncomputable def m_is_day : MF := runD 1
 (sRet (mCall 3 m_is_between (mCons (mVar 0) (mCons (mC (.int 0)) (mCons (mC (.int 400)) mNil)))))
noncomputable def m_is_stretch : MF := runD 1
 (sRet (mAndV (mCall 2 m_is_tuple_of (mCons (mVar 0) (mCons (mC (.int 2)) mNil))) (mAndV (mCall 1 m_is_day (mCons (mOp gIx (mVar 0) (mC (.int 0))) mNil)) (mAndV (mCall 1 m_is_day (mCons (mOp gIx (mVar 0) (mC (.int 1))) mNil)) (mOp gLe (mOp gIx (mVar 0) (mC (.int 0))) (mOp gIx (mVar 0) (mC (.int 1))))))))
noncomputable def m_is_stretches : MF := runD 3
 (sSeq (sIf (mOr (mNot (mTru (mIsi "tuple" (mVar 0)))) (mNot (mTru (mB1 gAll (mCons (mLc (mIt (mVar 0)) (.name 2) mYes (mCall 1 m_is_stretch (mCons (mVar 2) mNil)) [2]) mNil)))))
  (sRet (mC (.bl false)))
  sNx)
 (sRet (mB1 gAll (mCons (mLc (mRng2 (mCons (mC (.int 1)) (mCons (mB1 gLen (mCons (mVar 0) mNil)) mNil))) (.name 1) mYes (mOp gLt (mOp gAdd (mOp gIx (mOp gIx (mVar 0) (mOp gSub (mVar 1) (mC (.int 1)))) (mC (.int 1))) (mC (.int 1))) (mOp gIx (mOp gIx (mVar 0) (mVar 1)) (mC (.int 0)))) [1]) mNil))))
noncomputable def m_need_stretches : MF := runD 1
 (sIf (mNot (mTru (mCall 1 m_is_stretches (mCons (mVar 0) mNil))))
  (sRaise "NoStretches")
  sNx)
noncomputable def m_merged : MF := runG 4
 (sSeq (sSet 1 (mNew mNil))
 (sSeq (sKl [2, 3] (sFor (mIt (mFr (mBN gSrtN (mCons (mVar 0) mNil)))) (.tup [(.name 2), (.name 3)])
  (sKl [2, 3] (sIf (mAnd (mTru (mVar 1)) (mB (mOp gLe (mVar 2) (mOp gAdd (mOp gIx (mOp gIx (mVar 1) (mNeg (mC (.int 1)))) (mC (.int 1))) (mC (.int 1))))))
  (sSt (mTup (mCons (mOp gIx (mOp gIx (mVar 1) (mNeg (mC (.int 1)))) (mC (.int 0))) (mCons (mB1 gMax (mCons (mOp gIx (mOp gIx (mVar 1) (mNeg (mC (.int 1)))) (mC (.int 1))) (mCons (mVar 3) mNil))) mNil))) (mVar 1) (mNeg (mC (.int 1))))
  (sExpr (mApp (mVar 1) (mTup (mCons (mVar 2) (mCons (mVar 3) mNil)))))))))
 (sRet (mB1 gTupOf (mCons (mVar 1) mNil)))))
noncomputable def m_stretches_of : MF := runD 2
 (sSeq (sIf (mOr (mNot (mTru (mIsi2 "list" "tuple" (mVar 0)))) (mOr (mB (mOp gGt (mB1 gLen (mCons (mVar 0) mNil)) (mC (.int 5000)))) (mNot (mTru (mB1 gAll (mCons (mLc (mIt (mVar 0)) (.name 1) mYes (mCall 1 m_is_day (mCons (mVar 1) mNil)) [1]) mNil))))))
  (sRaise "NoDay")
  sNx)
 (sRet (mCall 1 m_merged (mCons (mLc (mIt (mVar 0)) (.name 1) mYes (mTup (mCons (mVar 1) (mCons (mVar 1) mNil))) [1]) mNil))))
noncomputable def m_day_count : MF := runD 3
 (sSeq (sExpr (mCall 1 m_need_stretches (mCons (mVar 0) mNil)))
 (sRet (mB1 gSum (mCons (mLc (mIt (mVar 0)) (.tup [(.name 1), (.name 2)]) mYes (mOp gAdd (mOp gSub (mVar 2) (mVar 1)) (mC (.int 1))) [1, 2]) mNil))))
noncomputable def m__law_is : MF := runD 2
 (sRet (mOp gEq (mB1 gRepr (mCons (mVar 0) mNil)) (mB1 gRepr (mCons (mVar 1) mNil))))
noncomputable def m__law_runs : MF := runG 3
 (sSeq (sSet 1 (mNew mNil))
 (sSeq (sKl [2] (sFor (mIt (mFr (mSrtSetN (mVar 0)))) (.name 2)
  (sKl [2] (sIf (mAnd (mB (mOp gNe (mVar 1) (mLst mNil))) (mB (mOp gEq (mOp gIx (mOp gIx (mVar 1) (mNeg (mC (.int 1)))) (mC (.int 1))) (mOp gSub (mVar 2) (mC (.int 1))))))
  (sSt (mTup (mCons (mOp gIx (mOp gIx (mVar 1) (mNeg (mC (.int 1)))) (mC (.int 0))) (mCons (mVar 2) mNil))) (mVar 1) (mNeg (mC (.int 1))))
  (sExpr (mApp (mVar 1) (mTup (mCons (mVar 2) (mCons (mVar 2) mNil)))))))))
 (sRet (mB1 gTupOf (mCons (mVar 1) mNil)))))
noncomputable def m__law_all : MF := runD 4
 (sSeq (sSet 1 (mLst mNil))
 (sSeq (sKl [2, 3] (sFor (mIt (mVar 0)) (.tup [(.name 2), (.name 3)])
  (sKl [2, 3] (sSet 1 (mOp gAdd (mVar 1) (mLstR (mR2 (mVar 2) (mOp gAdd (mVar 3) (mC (.int 1))))))))))
 (sRet (mVar 1))))
noncomputable def m__law_days : MF := runD 7
 (sSeq (sSet 1 (mCall 2 m__law_draw (mCons (mVar 0) (mCons (mC (.int 7)) mNil))))
 (sSeq (sIf (mB (mOp gEq (mVar 1) (mC (.int 0))))
  (sRet (mLst mNil))
  sNx)
 (sSeq (sIf (mB (mOp gEq (mVar 1) (mC (.int 1))))
  (sRet (mIf (mB (mOp gEq (mCall 2 m__law_draw (mCons (mVar 0) (mCons (mC (.int 2)) mNil))) (mC (.int 0)))) (mLstR (mR1 (mC (.int 401)))) (mFr (mRgN3 (mCons (mCall 2 m__law_draw (mCons (mVar 0) (mCons (mC (.int 2)) mNil))) (mCons (mC (.int 401)) (mCons (mC (.int 2)) mNil)))))))
  sNx)
 (sSeq (sAsg (mTup (mCons (mCall 2 m__law_any (mCons (mVar 0) (mCons (mLst (mCons (mC (.int 0)) (mCons (mC (.int 0)) (mCons (mC (.int 200)) (mCons (mC (.int 380)) mNil))))) mNil))) (mCons (mCall 2 m__law_any (mCons (mVar 0) (mCons (mLst (mCons (mC (.int 4)) (mCons (mC (.int 12)) (mCons (mC (.int 21)) mNil)))) mNil))) mNil))) (.tup [(.name 2), (.name 3)]))
 (sSeq (sSetLc 4 (mRng1 (mCons (mOp gAdd (mC (.int 1)) (mCall 2 m__law_draw (mCons (mVar 0) (mCons (mC (.int 12)) mNil)))) mNil)) (.name 6) mYes (mOp gAdd (mVar 2) (mCall 2 m__law_draw (mCons (mVar 0) (mCons (mVar 3) mNil)))) [6])
 (sSeq (sIf (mB (mOp gGt (mVar 1) (mC (.int 3))))
  (sSet 4 (mOp gAdd (mVar 4) (mCall 1 m__law_all (mCons (mLc (mIt (mSl (mVar 4) mNoPart (mPart (mC (.int 3))))) (.name 5) mYes (mTup (mCons (mVar 5) (mCons (mB1 gMin (mCons (mC (.int 400)) (mCons (mOp gAdd (mVar 5) (mCall 2 m__law_draw (mCons (mVar 0) (mCons (mC (.int 9)) mNil)))) mNil))) mNil))) [5]) mNil))))
  sNx)
 (sSeq (sIf (mB (mOp gEq (mVar 1) (mC (.int 6))))
  (sSet 4 (mOp gAdd (mVar 4) (mLst (mCons (mC (.int 0)) (mCons (mC (.int 400)) (mCons (mC (.int 399)) (mCons (mOp gSub (mC (.int 398)) (mCall 2 m__law_draw (mCons (mVar 0) (mCons (mC (.int 3)) mNil)))) mNil)))))))
  sNx)
 (sRet (mFr (mSrtSetN (mLc (mIt (mVar 4)) (.name 5) mYes (mB1 gMin (mCons (mC (.int 400)) (mCons (mVar 5) mNil))) [5])))))))))))
noncomputable def m_both_of : MF := runD 2
 (sSeq (sExpr (mCall 1 m_need_stretches (mCons (mVar 0) mNil)))
 (sSeq (sExpr (mCall 1 m_need_stretches (mCons (mVar 1) mNil)))
 (sRet (mCall 1 m_merged (mCons (mOp gAdd (mVar 0) (mVar 1)) mNil)))))
noncomputable def m_common_of : MF := runG 7
 (sSeq (sExpr (mCall 1 m_need_stretches (mCons (mVar 0) mNil)))
 (sSeq (sExpr (mCall 1 m_need_stretches (mCons (mVar 1) mNil)))
 (sSeq (sSet 2 (mNew mNil))
 (sSeq (sKl [3, 4, 5, 6] (sFor (mIt (mVar 0)) (.tup [(.name 3), (.name 4)])
  (sKl [3, 4, 5, 6] (sKl [5, 6] (sFor (mIt (mVar 1)) (.tup [(.name 5), (.name 6)])
  (sKl [5, 6] (sIf (mB (mOp gLe (mB1 gMax (mCons (mVar 3) (mCons (mVar 5) mNil))) (mB1 gMin (mCons (mVar 4) (mCons (mVar 6) mNil)))))
  (sExpr (mApp (mVar 2) (mTup (mCons (mB1 gMax (mCons (mVar 3) (mCons (mVar 5) mNil))) (mCons (mB1 gMin (mCons (mVar 4) (mCons (mVar 6) mNil))) mNil)))))
  sNx)))))))
 (sRet (mCall 1 m_merged (mCons (mVar 2) mNil)))))))
noncomputable def m_raw_lacking : MF := runG 7
 (sSeq (sSet 3 (mNew mNil))
 (sSeq (sSet 4 (mVar 1))
 (sSeq (sKl [5, 6] (sFor (mIt (mVar 0)) (.tup [(.name 5), (.name 6)])
  (sKl [5, 6] (sIf (mAnd (mB (mOp gGe (mVar 6) (mVar 4))) (mB (mOp gLe (mVar 5) (mVar 2))))
  (sSeq (sIf (mB (mOp gGt (mVar 5) (mVar 4)))
  (sExpr (mApp (mVar 3) (mTup (mCons (mVar 4) (mCons (mOp gSub (mVar 5) (mC (.int 1))) mNil)))))
  sNx)
 (sSet 4 (mOp gAdd (mVar 6) (mC (.int 1)))))
  sNx))))
 (sSeq (sIf (mB (mOp gLe (mVar 4) (mVar 2)))
  (sExpr (mApp (mVar 3) (mTup (mCons (mVar 4) (mCons (mVar 2) mNil)))))
  sNx)
 (sRet (mB1 gTupOf (mCons (mVar 3) mNil)))))))
noncomputable def m_is_number : MF := runD 1
 (sRet (mAndV (mCall 1 m_is_integer (mCons (mVar 0) mNil)) (mOp gGe (mVar 0) (mC (.int 0)))))
noncomputable def m_need_days : MF := runD 2
 (sIf (mOr (mNot (mTru (mCall 1 m_is_day (mCons (mVar 0) mNil)))) (mOr (mNot (mTru (mCall 1 m_is_day (mCons (mVar 1) mNil)))) (mB (mOp gLt (mVar 1) (mVar 0)))))
  (sRaise "NoDay")
  sNx)
noncomputable def m_lacking : MF := runD 3
 (sSeq (sExpr (mCall 1 m_need_stretches (mCons (mVar 0) mNil)))
 (sSeq (sExpr (mCall 2 m_need_days (mCons (mVar 1) (mCons (mVar 2) mNil))))
 (sRet (mCall 3 m_raw_lacking (mCons (mVar 0) (mCons (mVar 1) (mCons (mVar 2) mNil)))))))
noncomputable def m_need_day : MF := runD 1
 (sIf (mNot (mTru (mCall 1 m_is_day (mCons (mVar 0) mNil))))
  (sRaise "NoDay")
  sNx)
noncomputable def m_raw_has : MF := runD 4
 (sRet (mB1 gAny (mCons (mLc (mIt (mVar 0)) (.tup [(.name 2), (.name 3)]) mYes (mChain gLe gLe (mVar 2) (mVar 1) (mVar 3)) [2, 3]) mNil)))
noncomputable def m_has_day : MF := runD 2
 (sSeq (sExpr (mCall 1 m_need_stretches (mCons (mVar 0) mNil)))
 (sRet (mAndV (mCall 1 m_is_day (mCons (mVar 1) mNil)) (mCall 2 m_raw_has (mCons (mVar 0) (mCons (mVar 1) mNil))))))
noncomputable def m_longest : MF := runD 4
 (sSeq (sExpr (mCall 1 m_need_stretches (mCons (mVar 0) mNil)))
 (sSeq (sSet 1 (mC .non))
 (sSeq (sKl [2, 3] (sFor (mIt (mVar 0)) (.tup [(.name 2), (.name 3)])
  (sKl [2, 3] (sIf (mOr (mB (mOp gIsN (mVar 1) (mC .non))) (mB (mOp gGt (mOp gSub (mVar 3) (mVar 2)) (mOp gSub (mOp gIx (mVar 1) (mC (.int 1))) (mOp gIx (mVar 1) (mC (.int 0)))))))
  (sSet 1 (mTup (mCons (mVar 2) (mCons (mVar 3) mNil))))
  sNx))))
 (sRet (mVar 1)))))
noncomputable def m_next_day : MF := runD 5
 (sSeq (sExpr (mCall 1 m_need_stretches (mCons (mVar 0) mNil)))
 (sSeq (sExpr (mCall 1 m_need_day (mCons (mVar 1) mNil)))
 (sSeq (sSetLc 2 (mIt (mVar 0)) (.tup [(.name 3), (.name 4)]) (mB (mOp gGe (mVar 4) (mVar 1))) (mB1 gMax (mCons (mVar 3) (mCons (mVar 1) mNil))) [3, 4])
 (sRet (mIf (mTru (mVar 2)) (mOp gIx (mVar 2) (mC (.int 0))) (mC .non))))))
noncomputable def m_day_ahead : MF := runD 5
 (sSeq (sExpr (mCall 1 m_need_stretches (mCons (mVar 0) mNil)))
 (sSeq (sExpr (mCall 1 m_need_day (mCons (mVar 1) mNil)))
 (sSeq (sSetLc 2 (mIt (mVar 0)) (.tup [(.name 3), (.name 4)]) (mB (mOp gLe (mVar 3) (mVar 1))) (mB1 gMin (mCons (mVar 4) (mCons (mVar 1) mNil))) [3, 4])
 (sRet (mIf (mTru (mVar 2)) (mOp gIx (mVar 2) (mNeg (mC (.int 1)))) (mC .non))))))
end Dn

set_option Elab.async false
set_option linter.all false
set_option maxRecDepth 100000
set_option maxHeartbeats 4000000
namespace Dn
open PySem L2
theorem deqs_ints : ∀ is js : List Int, deqs (is.map D.int) (js.map D.int) = decide (is = js)
  | [], [] => by simp [deqs]
  | [], j :: js => by simp [deqs]
  | i :: is, [] => by simp [deqs]
  | i :: is, j :: js => by simp [deqs, deq, deqs_ints is js]
theorem ly_ints {k : Nat} {is : List Int} : LyD (k + 1) (.lst (is.map D.int)) := LyD.lst fun d m => by
  obtain ⟨i, _, rfl⟩ := List.mem_map.mp m
  exact LyD.int
/-- a live list of ints beside a list of ints -/
theorem gNe_live {h : IHp} {n : Nat} (is js : List Int) (e : h[n]? = some (.lst (is.map D.int))) : gNe h (.ref n) (.lst (js.map D.int)) = some (.bl (!decide (is = js))) := by
  rw [gNe_refL e, gNe_data (k := 1) ly_ints ly_ints (by decide), deq, deqs_ints]
theorem gEq_live {h : IHp} {n : Nat} (is js : List Int) (e : h[n]? = some (.lst (is.map D.int))) : gEq h (.ref n) (.lst (js.map D.int)) = some (.bl (decide (is = js))) := by
  rw [gEq_refL e, gEq_data (k := 1) ly_ints ly_ints (by decide), deq, deqs_ints]
/-- a loop with an invariant that counts -/
theorem use_loopN {F : RT → Prop} {t : Tg} {g : It1} {body : MS} (P : Nat → ISt → IHp → Prop) (st : ∀ k s h, P k s h → Stable g h) :
    ∀ (ds : List D) (k : Nat) (s : ISt) (h : IHp), P k s h → (∀ j, k ≤ j → j < k + ds.length → ∀ d ∈ ds, ∀ s h, P j s h → ∃ s1, t.set d s = some s1 ∧ Nx (P (j + 1)) (body s1 h)) → (∀ s h, P (k + ds.length) s h → F (.nx s h)) → F (loopD g t body ds s h)
  | [], k, s, h, p, _, hF => by
    rw [loopD, if_pos (st k s h p)]
    exact hF s h p
  | d :: ds, k, s, h, p, hb, hF => by
    obtain ⟨s1, e1, s2, h2, e2, p2⟩ := hb k (Nat.le_refl _) (by rw [List.length_cons]; omega) d List.mem_cons_self s h p
    rw [loopD, if_pos (st k s h p), e1]
    dsimp only
    rw [e2]
    refine use_loopN P st ds (k + 1) s2 h2 p2 (fun j a b d' m => hb j (by omega) (by rw [List.length_cons]; omega) d' (List.mem_cons_of_mem _ m)) fun s h q => hF s h ?_
    rw [List.length_cons]
    rwa [show k + (ds.length + 1) = k + 1 + ds.length by omega]
theorem pick_perm {β : Type} : ∀ (l : List β) {i : Nat} (h : i < l.length), (l[i] :: l.eraseIdx i).Perm l
  | a :: l, 0, _ => List.Perm.refl _
  | a :: l, i + 1, h => by
    have h' : i < l.length := by rw [List.length_cons] at h; omega
    have ih := pick_perm l h'
    show (l[i] :: a :: l.eraseIdx i).Perm (a :: l)
    exact (List.Perm.swap a l[i] _).trans (List.Perm.cons a ih)
theorem map_eraseI {β γ : Type} {f : β → γ} : ∀ (l : List β) (i : Nat), (l.map f).eraseIdx i = (l.eraseIdx i).map f
  | [], _ => rfl
  | a :: l, 0 => rfl
  | a :: l, i + 1 => by
    show f a :: (l.map f).eraseIdx i = f a :: (l.eraseIdx i).map f
    rw [map_eraseI l i]
/-- pop of a live list -/
theorem gPop_of {β : Type} {h : IHp} {n : Nat} {r : Int} {f : β → D} {l : List β} (e : h[n]? = some (.lst (l.map f))) (r0 : 0 ≤ r) (r1 : r < (l.length : Nat)) (r2 : r < 2 ^ 62) :
    ∃ x, gPop h (.ref n) (.int r) = some (f x, h.set n (.lst ((l.eraseIdx r.toNat).map f))) ∧ (x :: l.eraseIdx r.toNat).Perm l := by
  have hr : r.toNat < l.length := by omega
  refine ⟨l[r.toNat], ?_, pick_perm l hr⟩
  have ei : ixN l.length r = some r.toNat := by
    unfold ixN
    rw [if_pos r0, if_pos r1]
  unfold gPop
  dsimp only
  rw [e]
  dsimp only
  rw [List.length_map, ei]
  dsimp only
  rw [List.getElem?_map, List.getElem?_eq_getElem hr]
  show (if -(2 ^ 63) ≤ r ∧ r < 2 ^ 63 then some (f l[r.toNat], h.set n (.lst ((l.map f).eraseIdx r.toNat))) else none) = _
  rw [if_pos ⟨by omega, by omega⟩, map_eraseI]
/-- an item of a live list -/
theorem e_anyR {X L : IHp} {z q : Nat} {u : IO} (hz : z < X.length) (hu : HandOK u) {ds : List D} (h0 : 0 < ds.length) (hs : ds.length < 1000000) (hq : ∀ u, (X.set z u ++ L)[q]? = some (.lst ds)) :
    ∃ d u', m__law_any [.ref z, .ref q] (X.set z u ++ L) = .ok d (X.set z u' ++ L) ∧ HandOK u' ∧ d ∈ ds := by
  obtain ⟨r, u', e, o, r0, r1⟩ := e_drawL (L := L) hz hu (n := (ds.length : Nat)) (by omega) (by omega)
  obtain ⟨d, e1, e2⟩ := atI_mem r0 r1
  exact ⟨d, u', by simp [m__law_any, hq, e, e1], o, e2⟩
section
variable {σ : ISt} {h : IHp} {a m : ME} {d v : D} {ms : MA} {ds es : List D} {n : Nat}
def kExt2 (o : D) : D → IHp → R D := fun v h => okH (gExt h o v)
def kExt (m : ME) (σ : ISt) : D → IHp → R D := fun o h => if isSeqL h o = true then (m σ h).bind (kExt2 o) else .bad
@[simp] theorem mExt_eq : mExt a m σ h = (a σ h).bind (kExt m σ) := by
  unfold mExt kExt kExt2 okH
  congr
@[simp] theorem kExt_eq : kExt m σ d h = if isSeqL h d = true then (m σ h).bind (kExt2 d) else .bad := (rfl)
@[simp] theorem kExt2_eq : kExt2 d v h = okH (gExt h d v) := (rfl)
theorem gExt_lst (e : h[n]? = some (.lst ds)) (z : ds.length + es.length ≤ 16777216) : gExt h (.ref n) (.lst es) = some (h.set n (.lst (ds ++ es))) := by
  unfold gExt
  dsimp only
  rw [e]
  exact if_pos (by rw [sizeLine_v]; exact z)
theorem gExt_tup (e : h[n]? = some (.lst ds)) (z : ds.length + es.length ≤ 16777216) : gExt h (.ref n) (.tup es) = some (h.set n (.lst (ds ++ es))) := by
  unfold gExt
  dsimp only
  rw [e]
  exact if_pos (by rw [sizeLine_v]; exact z)
@[simp] theorem mZip_eq : mZip ms σ h = (ms σ h).bind (kOpt zipOf) := (rfl)
@[simp] theorem zipOf_tup : zipOf [.tup ds, .tup es] = some (zipD ds es, none) := (rfl)
@[simp] theorem zipOf_lst : zipOf [.lst ds, .lst es] = some (zipD ds es, none) := (rfl)
end
/-! sorted -/
theorem gSrtN_ints {h : IHp} {d : D} (is : List Int) (e : seqOf h d = some (is.map D.int)) : gSrtN h [d] = some ((srt is).map D.int) := by
  unfold gSrtN
  dsimp only
  rw [e, Option.bind_some, intsOf_int]
theorem gSrtN_prs {h : IHp} {d : D} (ps : List (Int × Int)) (e : seqOf h d = some (ps.map prD)) : gSrtN h [d] = some ((srtP ps).map prD) := by
  unfold gSrtN
  dsimp only
  rw [e, Option.bind_some]
  cases ps with
  | nil =>
    have a : srt [] = [] := by simp [srt]
    have b : srtP [] = [] := by simp [srtP]
    show some ((srt []).map D.int) = _
    rw [a, b]
    rfl
  | cons p ps =>
    have n : intsOf ((p :: ps).map prD) = none := rfl
    rw [n]
    dsimp only
    rw [prsOf_map]
    rfl
/-! comprehensions with two fors -/
section
variable {σ s0 : ISt} {h : IHp} {mi mi1 : MI} {t t1 : Tg} {c c1 : MT} {e : ME} {vs vs1 : List Nat} {g : It1} {ds : List D}
noncomputable def kLc2 (t : Tg) (c : MT) (mi1 : MI) (t1 : Tg) (c1 : MT) (e : ME) (vs1 : List Nat) (s0 : ISt) : It1 → IHp → R (List D) := fun g h => lcD2 g t c mi1 t1 c1 e vs1 s0 g.1 [] h
@[simp] theorem mLc2N_eq : mLc2N mi t c mi1 t1 c1 e vs vs1 σ h = (mi σ h).bind (kLc2 t c mi1 t1 c1 e vs1 (wipeD σ vs)) := (rfl)
@[simp] theorem kLc2_eq : kLc2 t c mi1 t1 c1 e vs1 s0 g h = lcD2 g t c mi1 t1 c1 e vs1 s0 g.1 [] h := (rfl)
/-- the inner items, put behind what is there -/
theorem lcDK_all {β : Type} {enc : β → D} {k : List D → IHp → R (List D)} (f : β → D) (st : Stable g h) : ∀ (xs : List β) (acc : List D), (∀ x ∈ xs, ∃ s1, t.set (enc x) s0 = some s1 ∧ c s1 h = .ok true h ∧ e s1 h = .ok (f x) h) → acc.length + xs.length ≤ 16777216 →
    lcDK g t c e s0 k (xs.map enc) acc h = k (acc ++ xs.map f) h
  | [], acc, _, _ => by rw [List.map_nil, lcDK, if_pos st]; simp
  | x :: xs, acc, hd, hz => by
    obtain ⟨s1, e1, e2, e3⟩ := hd x List.mem_cons_self
    rw [List.length_cons] at hz
    rw [List.map_cons, lcDK, if_pos st, e1]
    dsimp only
    rw [e2, noex_ok, R.bind_ok, if_pos rfl, e3, noex_ok, R.bind_ok, sizeLine_v, if_pos (by omega), lcDK_all f st xs _ (fun d' m => hd d' (List.mem_cons_of_mem _ m)) (by rw [List.length_append, List.length_singleton]; omega)]
    simp
/-- all items of all, no tests -/
theorem lcD2_map {β γ : Type} {enc : β → D} {enc1 : γ → D} (F : β → List γ) (f : γ → D) (st : Stable g h) : ∀ (xs : List β) (acc : List D),
    (∀ x ∈ xs, ∃ s1, t.set (enc x) s0 = some s1 ∧ c s1 h = .ok true h ∧ mi s1 h = .ok ((F x).map enc1, none) h ∧ ∀ y ∈ F x, ∃ s2, t1.set (enc1 y) (wipeD s1 vs1) = some s2 ∧ c1 s2 h = .ok true h ∧ e s2 h = .ok (f y) h) →
    acc.length + (xs.map fun x => (F x).length).sum ≤ 16777216 → lcD2 g t c mi t1 c1 e vs1 s0 (xs.map enc) acc h = .ok (acc ++ (xs.flatMap F).map f) h
  | [], acc, _, _ => by rw [List.map_nil, lcD2, if_pos st]; simp
  | x :: xs, acc, hd, hz => by
    obtain ⟨s1, e1, e2, e3, e4⟩ := hd x List.mem_cons_self
    rw [List.map_cons, List.sum_cons] at hz
    rw [List.map_cons, lcD2, if_pos st, e1]
    dsimp only
    rw [e2, noex_ok, R.bind_ok, if_pos rfl, e3, noex_ok, R.bind_ok]
    show lcDK ((F x).map enc1, none) t1 c1 e (wipeD s1 vs1) _ ((F x).map enc1) acc h = _
    rw [lcDK_all f (by simp) (F x) acc e4 (by omega), lcD2_map F f st xs _ (fun d' m => hd d' (List.mem_cons_of_mem _ m)) (by rw [List.length_append, List.length_map]; omega)]
    simp
end
end Dn

set_option Elab.async false
set_option linter.all false
set_option maxRecDepth 100000
set_option maxHeartbeats 4000000
/-! what the functions of stretches tell -/
namespace Dn
open PySem L2
abbrev Pr := Int × Int
def prT (p : Pr) : D := .tup [.int p.1, .int p.2]
section
variable {h : IHp} {p : Pr} {a b : Int} {s : ISt} {i j : Nat}
@[simp] theorem prT_mk : D.tup [.int a, .int b] = prT (a, b) := (rfl)
@[simp] theorem gIx_pr0 : gIx h (prT p) (.int 0) = some (.int p.1) := (rfl)
@[simp] theorem gIx_pr1 : gIx h (prT p) (.int 1) = some (.int p.2) := (rfl)
@[simp] theorem tg_pr : Tg.set (.tup [.name i, .name j]) (prT p) s = some ((s.set i (some (.int p.1))).set j (some (.int p.2))) := by simp [prT, -prT_mk]
@[simp] theorem isNon_pr : D.isNon (prT p) = false := (rfl)
@[simp] theorem prT_inj {q : Pr} : prT p = prT q ↔ p = q := by
  constructor
  · intro e
    have e : D.tup [.int p.1, .int p.2] = D.tup [.int q.1, .int q.2] := e
    injection e with e
    injection e with e1 e
    injection e with e2
    injection e1 with e1
    injection e2 with e2
    exact Prod.ext e1 e2
  · rintro rfl; rfl
end
def isIntD : D → Bool
  | .int _ => true
  | _ => false
theorem e_is_integer (d : D) (h : IHp) : m_is_integer [d] h = .ok (.bl (isIntD d)) h := by
  cases d <;> simp [m_is_integer, isIntD]
def isBetw (d : D) (a b : Int) : Bool := match d with
  | .int i => decide (a ≤ i) && decide (i ≤ b)
  | _ => false
theorem e_is_between (d : D) (a b : Int) (h : IHp) : m_is_between [d, .int a, .int b] h = .ok (.bl (isBetw d a b)) h := by
  cases d <;> simp [m_is_between, e_is_integer, isIntD, isBetw]
theorem e_is_tuple_of (d : D) (n : Int) (h : IHp) : m_is_tuple_of [d, .int n] h = .ok (.bl (match d with | .tup ds => decide ((ds.length : Int) = n) | _ => false)) h := by
  cases d <;> simp [m_is_tuple_of]
def isDay (d : D) : Bool := isBetw d 0 400
theorem isDay_int {d : D} (e : isDay d = true) : ∃ i : Int, d = .int i ∧ 0 ≤ i ∧ i ≤ 400 := by
  cases d <;> simp [isDay, isBetw] at e
  exact ⟨_, rfl, e⟩
theorem isDay_of {i : Int} (h0 : 0 ≤ i) (h1 : i ≤ 400) : isDay (.int i) = true := by simp [isDay, isBetw, h0, h1]
theorem e_is_day (d : D) (h : IHp) : m_is_day [d] h = .ok (.bl (isDay d)) h := by
  simp [m_is_day, e_is_between, isDay]
theorem e_need_day (d : D) (h : IHp) : m_need_day [d] h = if isDay d = true then .ok .non h else .ex "NoDay" h := by
  cases e : isDay d <;> simp [m_need_day, e_is_day, e]
def isStretchD : D → Bool
  | .tup [a, b] => isDay a && isDay b && (match a, b with | .int x, .int y => decide (x ≤ y) | _, _ => false)
  | _ => false
theorem e_is_stretch (d : D) (h : IHp) : m_is_stretch [d] h = .ok (.bl (isStretchD d)) h := by
  cases d with
  | tup ds =>
    match ds with
    | [] => simp [m_is_stretch, e_is_tuple_of, isStretchD]
    | [a] => simp [m_is_stretch, e_is_tuple_of, isStretchD]
    | [a, b] =>
      cases ha : isDay a with
      | false => simp [m_is_stretch, e_is_tuple_of, isStretchD, e_is_day, ha]
      | true =>
        cases hb : isDay b with
        | false => simp [m_is_stretch, e_is_tuple_of, isStretchD, e_is_day, ha, hb]
        | true =>
          obtain ⟨x, rfl, _⟩ := isDay_int ha
          obtain ⟨y, rfl, _⟩ := isDay_int hb
          simp [m_is_stretch, e_is_tuple_of, isStretchD, e_is_day, ha, hb, -prT_mk]
    | a :: b :: c :: r =>
      have : ¬ ((r.length : Int) + 1 + 1 + 1 = 2) := by omega
      simp [m_is_stretch, e_is_tuple_of, isStretchD, this]
  | _ => simp [m_is_stretch, e_is_tuple_of, isStretchD]
def prOf : D → Pr
  | .tup [.int a, .int b] => (a, b)
  | _ => (0, 0)
theorem prOf_prT (p : Pr) : prOf (prT p) = p := rfl
theorem isStretchD_pr {d : D} (e : isStretchD d = true) : d = prT (prOf d) ∧ 0 ≤ (prOf d).1 ∧ (prOf d).1 ≤ (prOf d).2 ∧ (prOf d).2 ≤ 400 := by
  unfold isStretchD at e
  split at e
  · next a b =>
    simp only [Bool.and_eq_true] at e
    obtain ⟨x, rfl, x0, x1⟩ := isDay_int e.1.1
    obtain ⟨y, rfl, y0, y1⟩ := isDay_int e.1.2
    have := of_decide_eq_true e.2
    exact ⟨rfl, x0, this, y1⟩
  · cases e
theorem isStretchD_of {p : Pr} (h : 0 ≤ p.1 ∧ p.1 ≤ p.2 ∧ p.2 ≤ 400) : isStretchD (prT p) = true := by
  show (isDay (.int p.1) && isDay (.int p.2) && decide (p.1 ≤ p.2)) = true
  rw [isDay_of h.1 (by omega), isDay_of (by omega) h.2.2, decide_eq_true h.2.1]
  rfl
def gaps : List Pr → Bool
  | p :: q :: r => decide (p.2 + 1 < q.1) && gaps (q :: r)
  | _ => true
theorem gaps_range : ∀ ps : List Pr, (List.range (ps.length - 1)).all (fun i => decide ((ps.getD i (0, 0)).2 + 1 < (ps.getD (i + 1) (0, 0)).1)) = gaps ps
  | [] => rfl
  | [p] => rfl
  | p :: q :: r => by
    have ih := gaps_range (q :: r)
    rw [gaps, ← ih]
    show (List.range (r.length + 1)).all _ = _
    rw [List.range_succ_eq_map, List.all_cons, List.all_map]
    simp [Function.comp_def]
/-- a tuple of which a copy can be made -/
def Sm (d : D) : Prop := ∀ ds, d = .tup ds → ds.length ≤ 1000000
def isStrD : D → Bool
  | .tup ds => ds.all isStretchD && gaps (ds.map prOf)
  | _ => false
theorem map_all_pr : ∀ {ds : List D}, ds.all isStretchD = true → ds = (ds.map prOf).map prT
  | [], _ => rfl
  | d :: ds, e => by
    rw [List.all_cons, Bool.and_eq_true] at e
    rw [List.map_cons, List.map_cons, ← map_all_pr e.2, ← (isStretchD_pr e.1).1]
theorem atI_pr {ps : List Pr} {i : Nat} (h : i < ps.length) : atI (ps.map prT) (i : Int) = some (prT (ps.getD i (0, 0))) := by
  rw [atI_map, atI_nat h]
  simp [List.getD_eq_getElem?_getD, h]
theorem e_is_stretches (d : D) (h : IHp) (z : Sm d) : m_is_stretches [d] h = .ok (.bl (isStrD d)) h := by
  cases d with
  | tup ds =>
    have hz := z ds rfl
    have l1 : ∀ s0 : ISt, 2 < s0.length → lcD (ds, none) (.name 2) mYes (mCall 1 m_is_stretch (mCons (mVar 2) mNil)) s0 ds [] h = .ok (ds.map fun x => .bl (isStretchD x)) h := fun s0 hs => by
      have := lc_all (g := (ds, none)) (t := .name 2) (c := mYes) (e := mCall 1 m_is_stretch (mCons (mVar 2) mNil)) (s0 := s0) (h := h) (enc := id) (fun x => .bl (isStretchD x)) (by simp) ds (fun x _ => ⟨_, tg_name, rfl, by simp [hs, e_is_stretch]⟩) (by omega)
      rwa [List.map_id] at this
    cases ha : ds.all isStretchD with
    | false => simp [m_is_stretches, l1, gAll_map, ha, isStrD]
    | true =>
      have e0 := map_all_pr ha
      generalize hps : ds.map prOf = ps at e0
      subst e0
      have hl : ps.length ≤ 1000000 := by simpa using hz
      have hr : rng2 [.int 1, .int (ps.length : Nat)] = some (rngD 1 (ps.length - 1), none) := by
        rw [rng2_eq (smR_of ⟨by omega, by omega, by omega, by omega⟩)]
        congr 3
        omega
      have ep : (ps.map prT).map prOf = ps := by rw [List.map_map]; exact List.map_id' ps
      have ha' : (ps.all fun p => isStretchD (prT p)) = true := by rw [List.all_map] at ha; exact ha
      simp [m_is_stretches, l1, gAll_map, ha', isStrD, hr, Function.comp_def, prOf_prT]
      unfold rngD
      rw [lc_all (enc := fun i : Nat => D.int (1 + (i : Int))) (fun i => .bl (decide ((ps.getD i (0, 0)).2 + 1 < (ps.getD (i + 1) (0, 0)).1))) (by simp) (List.range (ps.length - 1)) (fun i hi => ⟨_, tg_name, rfl, by
        have hi : i < ps.length - 1 := List.mem_range.mp hi
        have x1 : (1 + (i : Int) - 1) = ((i : Nat) : Int) := by omega
        have y1 := atI_pr (ps := ps) (i := i) (by omega)
        have y2 := atI_pr (ps := ps) (i := i + 1) (by omega)
        have x2 : (1 + (i : Int)) = ((i + 1 : Nat) : Int) := by omega
        rw [← x2] at y2
        simp [x1, y1, y2]⟩) (by rw [List.length_range]; omega)]
      simp only [gAll_map, R.bind_ok, kFr_eq, kCons_eq, mNil_eq, kCons2_eq, kB1_eq, opt_some, bindS_ok, kRet_eq, retK_rt, gaps_range]
  | _ => simp [m_is_stretches, isStrD]
end Dn

set_option Elab.async false
set_option linter.all false
set_option maxRecDepth 100000
set_option maxHeartbeats 4000000
namespace Dn
open PySem L2
/-- right stretches -/
structure OkS (a : List Pr) : Prop where
  ok : ∀ p ∈ a, 0 ≤ p.1 ∧ p.1 ≤ p.2 ∧ p.2 ≤ 400
  gp : gaps a = true
theorem OkS.tail {p : Pr} {a : List Pr} (o : OkS (p :: a)) : OkS a := ⟨fun q m => o.ok q (List.mem_cons_of_mem _ m), by
  have := o.gp
  cases a with
  | nil => rfl
  | cons q r => rw [gaps, Bool.and_eq_true] at this; exact this.2⟩
theorem OkS.head {p q : Pr} {a : List Pr} (o : OkS (p :: q :: a)) : p.2 + 1 < q.1 := by
  have := o.gp
  rw [gaps, Bool.and_eq_true] at this
  exact of_decide_eq_true this.1
/-- all later ones lie behind -/
theorem OkS.behind : ∀ {a : List Pr} {p : Pr}, OkS (p :: a) → ∀ q ∈ a, p.2 + 1 < q.1
  | [], _, _, _, m => nomatch m
  | r :: a, p, o, q, m => by
    have h := o.head
    rcases List.mem_cons.mp m with e | m
    · subst e; exact h
    · have := OkS.behind o.tail q m
      have := (o.tail.ok r List.mem_cons_self).2.1
      omega
theorem OkS.len : ∀ {a : List Pr} {lo : Int}, OkS a → (∀ p ∈ a, lo ≤ p.1) → lo ≤ 401 → (a.length : Int) ≤ 401 - lo
  | [], lo, _, _, h => by simp; omega
  | p :: a, lo, o, h, h2 => by
    have h1 := h p List.mem_cons_self
    have h3 := o.ok p List.mem_cons_self
    have := OkS.len (lo := p.1 + 1) o.tail (fun q m => by have := o.behind q m; omega) (by omega)
    rw [List.length_cons]
    omega
theorem OkS.sz {a : List Pr} (o : OkS a) : a.length ≤ 401 := by
  have := o.len (lo := 0) (fun p m => (o.ok p m).1) (by omega)
  omega
theorem map_prT_prOf (a : List Pr) : (a.map prT).map prOf = a := by rw [List.map_map]; exact List.map_id' a
theorem isStrD_of {a : List Pr} (o : OkS a) : isStrD (.tup (a.map prT)) = true := by
  show ((a.map prT).all isStretchD && gaps ((a.map prT).map prOf)) = true
  rw [map_prT_prOf, o.gp, Bool.and_true, List.all_eq_true]
  intro d m
  obtain ⟨p, hp, rfl⟩ := List.mem_map.mp m
  exact isStretchD_of (o.ok p hp)
theorem sm_tup {β : Type} {f : β → D} {xs : List β} (h : xs.length ≤ 1000000) : Sm (.tup (xs.map f)) := fun ds e => by cases e; rw [List.length_map]; exact h
theorem e_need_strD (d : D) (h : IHp) (z : Sm d) : m_need_stretches [d] h = if isStrD d = true then .ok .non h else .ex "NoStretches" h := by
  cases e : isStrD d <;> simp [m_need_stretches, e_is_stretches _ _ z, e]
theorem e_need_str {a : List Pr} (o : OkS a) (h : IHp) : m_need_stretches [.tup (a.map prT)] h = .ok .non h := by
  rw [e_need_strD _ _ (sm_tup (by have := o.sz; omega)), if_pos (isStrD_of o)]
def hasI (a : List Pr) (d : Int) : Bool := a.any fun p => decide (p.1 ≤ d) && decide (d ≤ p.2)
theorem e_raw_has (a : List Pr) (d : Int) (h : IHp) (hz : a.length ≤ 1000000) : m_raw_has [.tup (a.map prT), .int d] h = .ok (.bl (hasI a d)) h := by
  simp [m_raw_has]
  rw [lc_all (fun p => .bl (decide (p.1 ≤ d) && decide (d ≤ p.2))) (by simp) a (fun p _ => ⟨_, by simp; rfl, rfl, by simp⟩) (by omega)]
  simp [gAny_map, hasI]
theorem e_has_day {a : List Pr} (o : OkS a) (x : D) (h : IHp) : m_has_day [.tup (a.map prT), x] h = .ok (.bl (match x with | .int d => isDay (.int d) && hasI a d | _ => false)) h := by
  cases e : isDay x with
  | true =>
    obtain ⟨i, rfl, _⟩ := isDay_int e
    simp [m_has_day, e_need_str o, e_is_day, e, e_raw_has a i h (by have := o.sz; omega)]
  | false =>
    cases x <;> simp [m_has_day, e_need_str o, e_is_day, e]
def encO : Option Pr → D
  | none => .non
  | some p => prT p
def bestF (y : Option Pr) (p : Pr) : Option Pr := match y with
  | none => some p
  | some b => if b.2 - b.1 < p.2 - p.1 then some p else some b
theorem e_longest {a : List Pr} (o : OkS a) (h : IHp) : m_longest [.tup (a.map prT)] h = .ok (encO (a.foldl bestF none)) h := by
  simp [m_longest, e_need_str o]
  have := loop_fold (g := (a.map prT, none)) (t := .tup [.name 2, .name 3]) (enc := prT) (body := (sKl [2, 3] (sIf (mOr (mB (mOp gIsN (mVar 1) (mC .non))) (mB (mOp gGt (mOp gSub (mVar 3) (mVar 2)) (mOp gSub (mOp gIx (mVar 1) (mC (.int 1))) (mOp gIx (mVar 1) (mC (.int 0)))))))
  (sSet 1 (mTup (mCons (mVar 2) (mCons (mVar 3) mNil))))
  sNx))) (fun y => [some (.tup (a.map prT)), some (encO y), none, none]) (fun _ => h) bestF (by simp) a none (fun p _ y => ⟨_, by simp; rfl, .inl (by
    cases y with
    | none => simp [encO, bestF]
    | some b =>
      by_cases hb : b.2 - b.1 < p.2 - p.1 <;> simp [encO, bestF, hb])⟩)
  rw [show (encO none) = D.non from rfl] at this
  rw [this]
  simp
def nextI (a : List Pr) (d : Int) : Option Int := ((a.filter fun p => decide (d ≤ p.2)).map fun p => max p.1 d).head?
def aheadI (a : List Pr) (d : Int) : Option Int := ((a.filter fun p => decide (p.1 ≤ d)).map fun p => min p.2 d).getLast?
def intO : Option Int → D
  | none => .non
  | some i => .int i
theorem e_next_day {a : List Pr} (o : OkS a) {d : Int} (hd : isDay (.int d) = true) (h : IHp) : m_next_day [.tup (a.map prT), .int d] h = .ok (intO (nextI a d)) h := by
  simp [m_next_day, e_need_str o, e_need_day, hd]
  rw [lc_map (fun p => decide (d ≤ p.2)) (fun p => .int (max p.1 d)) (by simp) a [] (fun p _ => ⟨_, by simp; rfl, by simp, fun _ => by simp⟩) (by have := o.sz; simp; omega)]
  unfold nextI
  cases e : a.filter fun p => decide (d ≤ p.2) with
  | nil => simp [e, intO]
  | cons q r => simp [e, intO]
theorem e_day_ahead {a : List Pr} (o : OkS a) {d : Int} (hd : isDay (.int d) = true) (h : IHp) : m_day_ahead [.tup (a.map prT), .int d] h = .ok (intO (aheadI a d)) h := by
  simp [m_day_ahead, e_need_str o, e_need_day, hd]
  rw [lc_map (fun p => decide (p.1 ≤ d)) (fun p => .int (min p.2 d)) (by simp) a [] (fun p _ => ⟨_, by simp; rfl, by simp, fun _ => by simp⟩) (by have := o.sz; simp; omega)]
  unfold aheadI
  rcases List.eq_nil_or_concat (a.filter fun p => decide (p.1 ≤ d)) with e | ⟨r, q, e⟩
  · simp [e, intO]
  · simp [e, intO]
/-! ### the laws' own -/
theorem e_law_is {x : D} {k w : Nat} (s : ShD k w x) (hk : k ≤ 60) (hw : w ≤ 1000000) (h : IHp) : m__law_is [x, x] h = .ok (.bl true) h := by
  obtain ⟨t, e⟩ := s.repr (h := h) hk hw
  simp [m__law_is, e]
/-- the stretches of ascending days -/
def runF (y : List Pr) (d : Int) : List Pr := match y.getLast? with
  | none => [(d, d)]
  | some q => if q.2 = d - 1 then y.dropLast ++ [(q.1, d)] else y ++ [(d, d)]
def runs (l : List Int) : List Pr := l.foldl runF []
theorem ly_pr (p : Pr) : LyD 1 (prT p) := LyD.tup fun d m => by
  simp at m
  rcases m with rfl | rfl <;> exact LyD.int
theorem gNe_prs {h : IHp} (ps : List Pr) : gNe h (.lst (ps.map prT)) (.lst []) = some (.bl (!ps.isEmpty)) := by
  rw [gNe_nil (k := 1) (fun d m => by obtain ⟨i, _, rfl⟩ := List.mem_map.mp m; exact ly_pr i) (by omega)]
  cases ps <;> rfl
theorem lows_prs {n : Nat} (ps : List Pr) : D.lows n (ps.map prT) = true := lows_map (fun p => by unfold prT; rw [low_tup]; simp) ps
theorem e_runs {l : List Int} (hz : l.length < 4000) (h : IHp) {x : D} (hx : x = .lst (l.map D.int) ∨ x = .tup (l.map D.int)) : m__law_runs [x] h = .ok (.tup ((runs (asc l)).map prT)) h := by
  have hs : gSrtSet h x = some ((asc l).map D.int) ∧ gSrtSet (h ++ [.lst []]) x = some ((asc l).map D.int) := by
    rcases hx with rfl | rfl
    · exact ⟨gSrtSet_lst hz, gSrtSet_lst hz⟩
    · exact ⟨gSrtSet_tup hz, gSrtSet_tup hz⟩
  have al : ∀ l : List Int, (asc l).length ≤ l.length := by
    intro l
    unfold asc
    induction l with
    | nil => simp
    | cons n l ih =>
      have : ∀ (k : Int) (xs : List Int), (insI k xs).length ≤ xs.length + 1 := by
        intro k xs
        induction xs with
        | nil => simp [insI]
        | cons x xs ih2 =>
          unfold insI
          split
          · simp
          · split
            · simp
            · simp; omega
      have := this n (l.foldr insI [])
      rw [List.foldr_cons, List.length_cons]
      omega
  simp [m__law_runs, hs.2]
  have loop := loop_foldR (g := ((asc l).map D.int, none)) (t := .name 2) (enc := D.int) (body := (sKl [2] (sIf (mAnd (mB (mOp gNe (mVar 1) (mLst mNil))) (mB (mOp gEq (mOp gIx (mOp gIx (mVar 1) (mNeg (mC (.int 1)))) (mC (.int 1))) (mOp gSub (mVar 2) (mC (.int 1))))))
  (sSt (mTup (mCons (mOp gIx (mOp gIx (mVar 1) (mNeg (mC (.int 1)))) (mC (.int 0))) (mCons (mVar 2) mNil))) (mVar 1) (mNeg (mC (.int 1))))
  (sExpr (mApp (mVar 1) (mTup (mCons (mVar 2) (mCons (mVar 2) mNil))))))))
    (fun _ => [some x, some (.ref h.length), none]) (fun y : List Pr => h ++ [.lst (y.map prT)]) runF (fun y l => y.length + l.length < 4000) (by simp) (fun d r y hy => by
      rcases List.eq_nil_or_concat y with e | ⟨fs, q, e⟩
      · subst e
        have e1 : gNe (h ++ [IO.lst []]) (.ref h.length) (.lst []) = some (.bl false) := by
          rw [gNe_refL (ds := []) (by simp)]
          exact gNe_prs []
        exact ⟨by simp [runF] at hy ⊢; omega, _, tg_name, .inl (by simp [e1, runF])⟩
      · subst e
        have e1 : gNe (h ++ [IO.lst ((fs ++ [q]).map prT)]) (.ref h.length) (.lst []) = some (.bl true) := by
          rw [gNe_refL (ds := (fs ++ [q]).map prT) (by simp), gNe_prs]
          simp
        rw [List.map_append, List.map_singleton] at e1
        by_cases hq : q.2 = d - 1
        · refine ⟨by simp [runF, hq] at hy ⊢; omega, _, tg_name, .inl ?_⟩
          have e2 : stO (h ++ [IO.lst (fs.map prT ++ [prT q])]) h.length (-1) (prT (q.1, d)) (some (fs.map prT ++ [prT q])) = some (h ++ [IO.lst (fs.map prT ++ [prT (q.1, d)])]) := by
            rw [stO_some, List.length_append, List.length_singleton, ixN_last]
            simp
          simp [e1, runF, hq, e2]
        · refine ⟨by simp [runF, hq] at hy ⊢; omega, _, tg_name, .inl ?_⟩
          have : fs.length + 1 < 16777216 := by simp at hy; omega
          simp [e1, runF, hq, this]) (asc l) [] (by have := al l; simp; omega)
  rw [List.map_nil] at loop
  rw [loop]
  simp
  exact gc_app (by simp [lows_prs])
end Dn

set_option Elab.async false
set_option linter.all false
set_option maxRecDepth 100000
set_option maxHeartbeats 4000000
/-! stretches and their days -/
namespace Dn
open PySem L2
def cov (a : List Pr) (d : Int) : Prop := ∃ p ∈ a, p.1 ≤ d ∧ d ≤ p.2
theorem hasI_iff {a : List Pr} {d : Int} : hasI a d = true ↔ cov a d := by
  unfold hasI cov
  rw [List.any_eq_true]
  simp
theorem gaps_of : ∀ {a : List Pr}, a.Pairwise (fun p q => p.2 + 1 < q.1) → gaps a = true
  | [], _ => rfl
  | [p], _ => rfl
  | p :: q :: r, h => by
    rw [List.pairwise_cons] at h
    rw [gaps, gaps_of h.2, decide_eq_true (h.1 q List.mem_cons_self)]
    rfl
/-- what the stretches of a prefix keep -/
structure RunI (pre : List Int) (y : List Pr) : Prop where
  le : ∀ p ∈ y, p.1 ≤ p.2
  pw : y.Pairwise fun p q => p.2 + 1 < q.1
  mem : ∀ d, d ∈ pre ↔ cov y d
  nil : y = [] → pre = []
  last : ∀ fs q, y = fs ++ [q] → q.2 ∈ pre ∧ ∀ x ∈ pre, x ≤ q.2
theorem RunI.step {pre : List Int} {y : List Pr} {d : Int} (r : RunI pre y) (hd : ∀ x ∈ pre, x < d) : RunI (pre ++ [d]) (runF y d) := by
  rcases List.eq_nil_or_concat y with e | ⟨fs, q, e⟩
  · subst e
    have := r.nil rfl
    subst this
    have ef : runF [] d = [(d, d)] := rfl
    rw [ef]
    refine ⟨by simp, by simp, fun x => ?_, (fun z => by simp at z), fun fs q z => ?_⟩
    · unfold cov
      simp
      omega
    · have z2 : fs ++ [q] = [] ++ [(d, d)] := z.symm
      have := (List.append_inj' z2 rfl).2
      simp at this
      subst this
      simp
  · rw [List.concat_eq_append] at e
    subst e
    obtain ⟨l1, l2⟩ := r.last fs q rfl
    have hq := hd q.2 l1
    have pw := r.pw
    rw [List.pairwise_append] at pw
    have hlast : ∀ p ∈ fs, p.2 + 1 < q.1 := fun p m => pw.2.2 p m q (by simp)
    have hq1 := r.le q (by simp)
    have ef : runF (fs ++ [q]) d = if q.2 = d - 1 then fs ++ [(q.1, d)] else fs ++ [q] ++ [(d, d)] := by
      unfold runF
      simp
    rw [ef]
    by_cases hc : q.2 = d - 1
    · rw [if_pos hc]
      refine ⟨fun p m => ?_, ?_, fun x => ?_, (fun z => by simp at z), fun fs' q' z => ?_⟩
      · rcases List.mem_append.mp m with m | m
        · exact r.le p (by simp [m])
        · rw [List.mem_singleton.mp m]; dsimp only; omega
      · rw [List.pairwise_append]
        exact ⟨pw.1, by simp, fun p m p' m' => by rw [List.mem_singleton.mp m']; exact hlast p m⟩
      · have h1 := r.mem x
        rw [List.mem_append, h1]
        unfold cov
        simp only [List.mem_append, List.mem_singleton]
        constructor
        · rintro (⟨p, m | m, h2⟩ | e)
          · exact ⟨p, .inl m, h2⟩
          · subst m; exact ⟨_, .inr rfl, h2.1, by dsimp only; omega⟩
          · subst e; exact ⟨_, .inr rfl, by dsimp only; omega, by dsimp only; omega⟩
        · rintro ⟨p, m | m, h2⟩
          · exact .inl ⟨p, .inl m, h2⟩
          · subst m
            dsimp only at h2
            by_cases hx : x = d
            · exact .inr hx
            · exact .inl ⟨q, .inr rfl, h2.1, by omega⟩
      · have z2 : fs' ++ [q'] = fs ++ [(q.1, d)] := z.symm
        have := (List.append_inj' z2 rfl).2
        simp at this
        subst this
        refine ⟨by simp, fun x m => ?_⟩
        rcases List.mem_append.mp m with m | m
        · have := hd x m; dsimp only; omega
        · rw [List.mem_singleton.mp m]; exact Int.le_refl _
    · rw [if_neg hc]
      refine ⟨fun p m => ?_, ?_, fun x => ?_, (fun z => by simp at z), fun fs' q' z => ?_⟩
      · rcases List.mem_append.mp m with m | m
        · exact r.le p m
        · rw [List.mem_singleton.mp m]; exact Int.le_refl _
      · rw [List.pairwise_append]
        refine ⟨r.pw, by simp, fun p m p' m' => ?_⟩
        rw [List.mem_singleton.mp m']
        rcases List.mem_append.mp m with m | m
        · have := hlast p m; dsimp only; omega
        · rw [List.mem_singleton.mp m]; dsimp only; omega
      · have h1 := r.mem x
        rw [List.mem_append, h1]
        unfold cov
        constructor
        · rintro (⟨p, m, h2⟩ | m)
          · exact ⟨p, List.mem_append_left _ m, h2⟩
          · rw [List.mem_singleton.mp m]; exact ⟨(d, d), by simp, Int.le_refl _, Int.le_refl _⟩
        · rintro ⟨p, m, h2⟩
          rcases List.mem_append.mp m with m | m
          · exact .inl ⟨p, m, h2⟩
          · rw [List.mem_singleton.mp m] at h2
            dsimp only at h2
            exact .inr (by simp; omega)
      · have z2 : fs' ++ [q'] = (fs ++ [q]) ++ [(d, d)] := z.symm
        have := (List.append_inj' z2 rfl).2
        simp at this
        subst this
        refine ⟨by simp, fun x m => ?_⟩
        rcases List.mem_append.mp m with m | m
        · have := hd x m; dsimp only; omega
        · rw [List.mem_singleton.mp m]; exact Int.le_refl _
theorem RunI.fold : ∀ {rest pre : List Int} {y : List Pr}, (pre ++ rest).Pairwise (· < ·) → RunI pre y → RunI (pre ++ rest) (rest.foldl runF y)
  | [], pre, y, _, r => by rw [List.append_nil]; exact r
  | d :: rest, pre, y, h, r => by
    rw [List.foldl_cons, show pre ++ d :: rest = (pre ++ [d]) ++ rest by simp]
    refine RunI.fold (by simpa using h) (r.step fun x m => ?_)
    rw [List.pairwise_append] at h
    exact h.2.2 x m d (by simp)
theorem runs_inv {l : List Int} (h : l.Pairwise (· < ·)) : RunI l (runs l) := by
  have := RunI.fold (rest := l) (pre := []) (y := []) (by simpa using h) ⟨by simp, by simp, fun d => by simp [cov], fun _ => rfl, fun fs q z => by simp at z⟩
  unfold runs
  simpa using this
/-- days of which stretches are made -/
structure Days (l : List Int) : Prop where
  pw : l.Pairwise (· < ·)
  lo : ∀ d ∈ l, 0 ≤ d ∧ d ≤ 400
theorem Days.runs {l : List Int} (h : Days l) : OkS (runs l) := by
  have r := runs_inv h.pw
  refine ⟨fun p m => ?_, gaps_of r.pw⟩
  have hp := r.le p m
  have h1 := h.lo p.1 ((r.mem p.1).mpr ⟨p, m, Int.le_refl _, hp⟩)
  have h2 := h.lo p.2 ((r.mem p.2).mpr ⟨p, m, hp, Int.le_refl _⟩)
  omega
theorem asc_len_le {l : List Int} (h : l.Pairwise (· < ·)) : ∀ {lo hi : Int}, (∀ d ∈ l, lo ≤ d ∧ d ≤ hi) → lo ≤ hi + 1 → (l.length : Int) ≤ hi + 1 - lo := by
  induction l with
  | nil => intro lo hi _ h; simp; omega
  | cons d l ih =>
    intro lo hi hb _
    rw [List.pairwise_cons] at h
    have h1 := hb d List.mem_cons_self
    have := ih h.2 (lo := d + 1) (hi := hi) (fun x m => ⟨by have := h.1 x m; omega, (hb x (List.mem_cons_of_mem _ m)).2⟩) (by omega)
    rw [List.length_cons]
    omega
theorem Days.len {l : List Int} (h : Days l) : l.length ≤ 401 := by
  have := asc_len_le h.pw (lo := 0) (hi := 400) h.lo (by omega)
  omega
/-! the next one, the one ahead -/
theorem head_least {l : List Int} (h : l.Pairwise (· < ·)) (d : Int) : ∀ m, (l.filter fun x => decide (d ≤ x)).head? = some m ↔ m ∈ l ∧ d ≤ m ∧ ∀ x ∈ l, d ≤ x → m ≤ x := by
  induction l with
  | nil => intro m; simp
  | cons a l ih =>
    intro m
    rw [List.pairwise_cons] at h
    rw [List.filter_cons]
    by_cases ha : d ≤ a
    · rw [if_pos (by simpa using ha)]
      simp only [List.head?_cons, Option.some.injEq]
      constructor
      · rintro rfl
        exact ⟨by simp, ha, fun x m _ => by
          rcases List.mem_cons.mp m with e | m
          · omega
          · have := h.1 x m; omega⟩
      · rintro ⟨h1, h2, h3⟩
        have := h3 a (by simp) ha
        rcases List.mem_cons.mp h1 with e | m1
        · exact e.symm
        · have := h.1 m m1; omega
    · rw [if_neg (by simpa using ha), ih h.2 m]
      constructor
      · rintro ⟨h1, h2, h3⟩
        exact ⟨List.mem_cons_of_mem _ h1, h2, fun x m hx => by
          rcases List.mem_cons.mp m with e | m
          · omega
          · exact h3 x m hx⟩
      · rintro ⟨h1, h2, h3⟩
        rcases List.mem_cons.mp h1 with e | m1
        · omega
        · exact ⟨m1, h2, fun x m hx => h3 x (List.mem_cons_of_mem _ m) hx⟩
theorem next_least : ∀ {a : List Pr}, OkS a → ∀ d m, nextI a d = some m ↔ cov a m ∧ d ≤ m ∧ ∀ x, cov a x → d ≤ x → m ≤ x
  | [], _, d, m => by simp [nextI, cov]
  | p :: r, o, d, m => by
    have ih := next_least o.tail d m
    have hp := o.ok p List.mem_cons_self
    by_cases hd : d ≤ p.2
    · have e : nextI (p :: r) d = some (max p.1 d) := by simp [nextI, hd]
      rw [e]
      constructor
      · intro e
        cases e
        refine ⟨⟨p, by simp, by omega, by omega⟩, by omega, ?_⟩
        rintro x ⟨q, mq, h1, h2⟩ hx
        rcases List.mem_cons.mp mq with e | mq
        · subst e; omega
        · have := o.behind q mq; omega
      · rintro ⟨⟨q, mq, h1, h2⟩, h3, h4⟩
        have h5 := h4 (max p.1 d) ⟨p, by simp, by omega, by omega⟩ (by omega)
        congr 1
        rcases List.mem_cons.mp mq with e | mq
        · subst e; omega
        · have := o.behind q mq; omega
    · have e : nextI (p :: r) d = nextI r d := by simp [nextI, hd]
      rw [e, ih]
      constructor
      · rintro ⟨⟨q, mq, h1, h2⟩, h3, h4⟩
        refine ⟨⟨q, List.mem_cons_of_mem _ mq, h1, h2⟩, h3, ?_⟩
        rintro x ⟨q', mq', k1, k2⟩ hx
        rcases List.mem_cons.mp mq' with e | mq'
        · subst e; omega
        · exact h4 x ⟨q', mq', k1, k2⟩ hx
      · rintro ⟨⟨q, mq, h1, h2⟩, h3, h4⟩
        rcases List.mem_cons.mp mq with e | mq
        · subst e; omega
        · exact ⟨⟨q, mq, h1, h2⟩, h3, fun x ⟨q', mq', k1, k2⟩ hx => h4 x ⟨q', List.mem_cons_of_mem _ mq', k1, k2⟩ hx⟩
theorem opt_ext {β : Type} {x y : Option β} (h : ∀ m, x = some m ↔ y = some m) : x = y := by
  cases x with
  | none =>
    cases y with
    | none => rfl
    | some b => exact absurd ((h b).mpr rfl) (by simp)
  | some a => exact ((h a).mp rfl).symm
theorem next_is {l : List Int} {a : List Pr} (h : l.Pairwise (· < ·)) (o : OkS a) (hm : ∀ d, d ∈ l ↔ cov a d) (d : Int) : nextI a d = (l.filter fun x => decide (d ≤ x)).head? := by
  refine opt_ext fun m => ?_
  rw [next_least o, head_least h, hm]
  constructor
  · rintro ⟨h1, h2, h3⟩; exact ⟨h1, h2, fun x mx => h3 x ((hm x).mp mx)⟩
  · rintro ⟨h1, h2, h3⟩; exact ⟨h1, h2, fun x mx => h3 x ((hm x).mpr mx)⟩
theorem last_greatest {l : List Int} (h : l.Pairwise (· < ·)) (d : Int) : ∀ m, (l.filter fun x => decide (x ≤ d)).getLast? = some m ↔ m ∈ l ∧ m ≤ d ∧ ∀ x ∈ l, x ≤ d → x ≤ m := by
  intro m
  constructor
  · intro e
    obtain ⟨fs, ef⟩ := List.getLast?_eq_some_iff.mp e
    have mm : m ∈ l.filter fun x => decide (x ≤ d) := by rw [ef]; simp
    rw [List.mem_filter] at mm
    refine ⟨mm.1, by simpa using mm.2, fun x mx hx => ?_⟩
    have mx2 : x ∈ l.filter fun x => decide (x ≤ d) := List.mem_filter.mpr ⟨mx, by simpa using hx⟩
    have pw := h.filter (fun x => decide (x ≤ d))
    rw [ef] at mx2 pw
    rcases List.mem_append.mp mx2 with k | k
    · rw [List.pairwise_append] at pw
      have := pw.2.2 x k m (by simp)
      omega
    · rw [List.mem_singleton.mp k]; exact Int.le_refl _
  · rintro ⟨h1, h2, h3⟩
    have mm : m ∈ l.filter fun x => decide (x ≤ d) := List.mem_filter.mpr ⟨h1, by simpa using h2⟩
    cases e : (l.filter fun x => decide (x ≤ d)).getLast? with
    | none => rw [List.getLast?_eq_none_iff] at e; rw [e] at mm; simp at mm
    | some k =>
      obtain ⟨fs, ef⟩ := List.getLast?_eq_some_iff.mp e
      have mk : k ∈ l.filter fun x => decide (x ≤ d) := by rw [ef]; simp
      rw [List.mem_filter] at mk
      have a1 := h3 k mk.1 (by simpa using mk.2)
      have pw := h.filter (fun x => decide (x ≤ d))
      rw [ef] at mm pw
      rcases List.mem_append.mp mm with z | z
      · rw [List.pairwise_append] at pw
        have := pw.2.2 m z k (by simp)
        omega
      · rw [List.mem_singleton.mp z]
theorem ahead_greatest : ∀ {a : List Pr}, OkS a → ∀ d m, aheadI a d = some m ↔ cov a m ∧ m ≤ d ∧ ∀ x, cov a x → x ≤ d → x ≤ m
  | [], _, d, m => by simp [aheadI, cov]
  | p :: r, o, d, m => by
    have ih := ahead_greatest o.tail d m
    have hp := o.ok p List.mem_cons_self
    by_cases hd : p.1 ≤ d
    · by_cases hr : ∃ q ∈ r, q.1 ≤ d
      · have e : aheadI (p :: r) d = aheadI r d := by
          obtain ⟨q, mq, hq⟩ := hr
          have hne : (r.filter fun p => decide (p.1 ≤ d)) ≠ [] := by
            intro z
            have : q ∈ r.filter fun p => decide (p.1 ≤ d) := List.mem_filter.mpr ⟨mq, by simpa using hq⟩
            rw [z] at this
            simp at this
          unfold aheadI
          rw [List.filter_cons, if_pos (by simpa using hd), List.map_cons]
          cases k : (r.filter fun p => decide (p.1 ≤ d)) with
          | nil => exact absurd k hne
          | cons x xs => rw [List.map_cons, List.getLast?_cons_cons]
        obtain ⟨q0, mq0, hq0⟩ := hr
        have hb0 := o.behind q0 mq0
        rw [e, ih]
        constructor
        · rintro ⟨⟨q, mq, h1, h2⟩, h3, h4⟩
          refine ⟨⟨q, List.mem_cons_of_mem _ mq, h1, h2⟩, h3, ?_⟩
          rintro x ⟨q', mq', k1, k2⟩ hx
          rcases List.mem_cons.mp mq' with e | mq'
          · subst e
            have := o.behind q mq
            omega
          · exact h4 x ⟨q', mq', k1, k2⟩ hx
        · rintro ⟨⟨q, mq, h1, h2⟩, h3, h4⟩
          have h5 := h4 q0.1 ⟨q0, List.mem_cons_of_mem _ mq0, Int.le_refl _, (o.ok q0 (List.mem_cons_of_mem _ mq0)).2.1⟩ hq0
          rcases List.mem_cons.mp mq with e | mq
          · subst e; omega
          · exact ⟨⟨q, mq, h1, h2⟩, h3, fun x ⟨q', mq', k1, k2⟩ hx => h4 x ⟨q', List.mem_cons_of_mem _ mq', k1, k2⟩ hx⟩
      · have hr' : ∀ q ∈ r, d < q.1 := fun q mq => by
          have : ¬ q.1 ≤ d := fun z => hr ⟨q, mq, z⟩
          omega
        have e : aheadI (p :: r) d = some (min p.2 d) := by
          have : (r.filter fun p => decide (p.1 ≤ d)) = [] := by
            rw [List.filter_eq_nil_iff]
            intro q mq
            have := hr' q mq
            simp
            omega
          unfold aheadI
          rw [List.filter_cons, if_pos (by simpa using hd), this]
          rfl
        rw [e]
        constructor
        · intro e
          cases e
          refine ⟨⟨p, by simp, by omega, by omega⟩, by omega, ?_⟩
          rintro x ⟨q, mq, h1, h2⟩ hx
          rcases List.mem_cons.mp mq with e | mq
          · subst e; omega
          · have := hr' q mq; omega
        · rintro ⟨⟨q, mq, h1, h2⟩, h3, h4⟩
          have h5 := h4 (min p.2 d) ⟨p, by simp, by omega, by omega⟩ (by omega)
          congr 1
          rcases List.mem_cons.mp mq with e | mq
          · subst e; omega
          · have := hr' q mq; omega
    · have hr' : ∀ q ∈ p :: r, d < q.1 := fun q mq => by
        rcases List.mem_cons.mp mq with e | mq
        · subst e; omega
        · have := o.behind q mq; omega
      have e : aheadI (p :: r) d = none := by
        have : ((p :: r).filter fun p => decide (p.1 ≤ d)) = [] := by
          rw [List.filter_eq_nil_iff]
          intro q mq
          have := hr' q mq
          simp
          omega
        unfold aheadI
        rw [this]
        rfl
      rw [e]
      constructor
      · intro z; cases z
      · rintro ⟨⟨q, mq, h1, h2⟩, h3, h4⟩
        have := hr' q mq
        omega
theorem ahead_is {l : List Int} {a : List Pr} (h : l.Pairwise (· < ·)) (o : OkS a) (hm : ∀ d, d ∈ l ↔ cov a d) (d : Int) : aheadI a d = (l.filter fun x => decide (x ≤ d)).getLast? := by
  refine opt_ext fun m => ?_
  rw [ahead_greatest o, last_greatest h, hm]
  constructor
  · rintro ⟨h1, h2, h3⟩; exact ⟨h1, h2, fun x mx => h3 x ((hm x).mp mx)⟩
  · rintro ⟨h1, h2, h3⟩; exact ⟨h1, h2, fun x mx => h3 x ((hm x).mpr mx)⟩
theorem has_is {l : List Int} {a : List Pr} (hm : ∀ d, d ∈ l ↔ cov a d) (d : Int) : hasI a d = decide (d ∈ l) := by
  rw [Bool.eq_iff_iff, hasI_iff, ← hm, decide_eq_true_eq]
end Dn

set_option Elab.async false
set_option linter.all false
set_option maxRecDepth 100000
set_option maxHeartbeats 4000000
/-! drawn days -/
namespace Dn
open PySem L2
def allF (y : List Int) (p : Pr) : List Int := y ++ rgI p.1 (p.2 + 1 - p.1).toNat
theorem e_all {a : List Pr} (hb : ∀ p ∈ a, 0 ≤ p.1 ∧ p.1 ≤ p.2 ∧ p.2 ≤ 400) (hz : a.length ≤ 1000) {x : D} (hx : x = .lst (a.map prT) ∨ x = .tup (a.map prT)) (h : IHp) : m__law_all [x] h = .ok (.lst ((a.foldl allF []).map D.int)) h := by
  have it : itOf h x = some (a.map prT, none) := by rcases hx with rfl | rfl <;> rfl
  simp [m__law_all, it]
  have loop := loop_foldR (g := (a.map prT, none)) (t := .tup [.name 2, .name 3]) (enc := prT) (body := (sKl [2, 3] (sSet 1 (mOp gAdd (mVar 1) (mLstR (mR2 (mVar 2) (mOp gAdd (mVar 3) (mC (.int 1)))))))))
    (fun y : List Int => [some x, some (.lst (y.map D.int)), none, none]) (fun _ => h) allF (fun y l => y.length + 401 * l.length ≤ 401 * 1000 ∧ ∀ p ∈ l, 0 ≤ p.1 ∧ p.1 ≤ p.2 ∧ p.2 ≤ 400) (by simp) (fun p r y hy => by
      obtain ⟨h1, h2⟩ := hy
      have hp := h2 p (by simp)
      rw [List.length_cons] at h1
      have sm : smR p.1 (p.2 + 1) = true := smR_of ⟨by omega, by omega, by omega, by omega⟩
      refine ⟨⟨by simp [allF]; omega, fun q m => h2 q (List.mem_cons_of_mem _ m)⟩, _, tg_pr, .inl ?_⟩
      have hl : y.length + (p.2 + 1 - p.1).toNat ≤ 16777216 := by omega
      simp [sm, rngD_I, allF, hl]) a [] ⟨by simp; omega, hb⟩
  rw [List.map_nil] at loop
  rw [loop]
  simp
theorem allF_mem (a : List Pr) : ∀ y d, d ∈ a.foldl allF y ↔ d ∈ y ∨ cov a d := by
  induction a with
  | nil => intro y d; simp [cov]
  | cons p a ih =>
    intro y d
    rw [List.foldl_cons, ih]
    unfold allF cov
    rw [List.mem_append, mem_rgI]
    simp only [List.mem_cons]
    constructor
    · rintro ((h | h) | ⟨q, m, h⟩)
      · exact .inl h
      · exact .inr ⟨p, .inl rfl, by omega, by omega⟩
      · exact .inr ⟨q, .inr m, h⟩
    · rintro (h | ⟨q, m | m, h⟩)
      · exact .inl (.inl h)
      · subst m; exact .inl (.inr ⟨by omega, by omega⟩)
      · exact .inr ⟨q, m, h⟩
theorem allF_len (a : List Pr) (hb : ∀ p ∈ a, 0 ≤ p.1 ∧ p.1 ≤ p.2 ∧ p.2 ≤ 400) : ∀ y, (a.foldl allF y).length ≤ y.length + 401 * a.length := by
  induction a with
  | nil => intro y; simp
  | cons p a ih =>
    intro y
    have h1 := hb p List.mem_cons_self
    have h2 := ih (fun q m => hb q (List.mem_cons_of_mem _ m)) (allF y p)
    have h3 : (allF y p).length ≤ y.length + 401 := by simp [allF]; omega
    rw [List.foldl_cons, List.length_cons]
    omega
/-- a list of which each item is a number of a kind -/
theorem ints_of {Q : Int → Prop} : ∀ {vs : List D}, (∀ v ∈ vs, ∃ i, v = D.int i ∧ Q i) → ∃ is : List Int, vs = is.map D.int ∧ ∀ i ∈ is, Q i
  | [], _ => ⟨[], rfl, fun i m => nomatch m⟩
  | v :: vs, h => by
    obtain ⟨i, e, q⟩ := h v List.mem_cons_self
    obtain ⟨is, e2, q2⟩ := ints_of (vs := vs) fun w m => h w (List.mem_cons_of_mem _ m)
    exact ⟨i :: is, by rw [e, e2]; rfl, fun j m => (List.mem_cons.mp m).elim (fun e => by rw [e]; exact q) (q2 j)⟩
theorem prs_of {Q : Pr → Prop} : ∀ {vs : List D}, (∀ v ∈ vs, ∃ i, v = prT i ∧ Q i) → ∃ is : List Pr, vs = is.map prT ∧ ∀ i ∈ is, Q i
  | [], _ => ⟨[], rfl, fun i m => nomatch m⟩
  | v :: vs, h => by
    obtain ⟨i, e, q⟩ := h v List.mem_cons_self
    obtain ⟨is, e2, q2⟩ := prs_of (vs := vs) fun w m => h w (List.mem_cons_of_mem _ m)
    exact ⟨i :: is, by rw [e, e2]; rfl, fun j m => (List.mem_cons.mp m).elim (fun e => by rw [e]; exact q) (q2 j)⟩
/-- the heap but for the hand -/
def HZ (X : IHp) (z : Nat) (h : IHp) : Prop := ∃ u, h = X.set z u ∧ HandOK u
theorem cut3 (is : List Int) : ∃ js : List Int, cutD (is.map D.int) none (some 3) = js.map D.int ∧ js.length ≤ 3 ∧ ∀ j ∈ js, j ∈ is := by
  refine ⟨_, cut_map _ _ _ _, ?_, fun j m => List.mem_of_mem_drop (List.mem_of_mem_take m)⟩
  refine Nat.le_trans (List.length_take_le _ _) ?_
  have e : HT.sIx is.length is.length (some 3) = min 3 is.length := rfl
  rw [e]
  omega
theorem lst3_0 : lst3 [.int 0, .int 401, .int 2] = some (rgD3 0 2 201) := by
  have e : rg3 [.int 0, .int 401, .int 2] = some (0, 2, 201) := by
    unfold rg3
    dsimp only
    rw [if_pos ⟨by decide, by decide, by decide, by decide⟩]
    rfl
  unfold lst3
  rw [e]
  rfl
theorem lst3_1 : lst3 [.int 1, .int 401, .int 2] = some (rgD3 1 2 200) := by
  have e : rg3 [.int 1, .int 401, .int 2] = some (1, 2, 200) := by
    unfold rg3
    dsimp only
    rw [if_pos ⟨by decide, by decide, by decide, by decide⟩]
    rfl
  unfold lst3
  rw [e]
  rfl
theorem step_days (lo : Int) (n : Nat) : ((List.range n).map fun k => lo + ((k : Nat) : Int) * 2).Pairwise (· < ·) := by
  rw [List.pairwise_map]
  exact List.pairwise_lt_range.imp fun {a b} h => by omega
theorem rgD3_I (lo : Int) (n : Nat) : rgD3 lo 2 n = ((List.range n).map fun k => lo + ((k : Nat) : Int) * 2).map D.int := by simp [rgD3]
theorem asc_days {l : List Int} (h : ∀ d ∈ l, 0 ≤ d ∧ d ≤ 400) : Days (asc l) := ⟨asc_sorted l, fun d m => h d (mem_asc.mp m)⟩
theorem e_days {X : IHp} {z : Nat} {u : IO} (hz : z < X.length) (hu : HandOK u) : ∃ l u', m__law_days [.ref z] (X.set z u) = .ok (.lst (l.map D.int)) (X.set z u') ∧ HandOK u' ∧ Days l := by
  obtain ⟨kind, u1, e1, o1, k0, k1⟩ := e_draw hz hu (n := 7) (by decide) (by decide)
  by_cases c0 : kind = 0
  · exact ⟨[], u1, by simp [m__law_days, e1, c0], o1, by simp, by simp⟩
  by_cases c1 : kind = 1
  · obtain ⟨r, u2, e2, o2, r0, r1⟩ := e_draw hz o1 (n := 2) (by decide) (by decide)
    by_cases c2 : r = 0
    · exact ⟨rgI 0 401, u2, by simp [m__law_days, e1, c1, e2, c2, smR_of, rngD_I], o2, rgI_sorted _ _, fun d m => by have := mem_rgI.mp m; omega⟩
    · obtain ⟨q, u3, e3, o3, q0, q1⟩ := e_draw hz o2 (n := 2) (by decide) (by decide)
      have hq : q = 0 ∨ q = 1 := by omega
      rcases hq with rfl | rfl
      · exact ⟨(List.range 201).map fun k => (0 : Int) + ((k : Nat) : Int) * 2, u3, by rw [← rgD3_I]; simp [m__law_days, e1, c1, e2, c2, e3, lst3_0], o3, step_days _ _, fun d m => by
          obtain ⟨k, hk, rfl⟩ := List.mem_map.mp m
          have := List.mem_range.mp hk
          omega⟩
      · exact ⟨(List.range 200).map fun k => (1 : Int) + ((k : Nat) : Int) * 2, u3, by rw [← rgD3_I]; simp [m__law_days, e1, c1, e2, c2, e3, lst3_1], o3, step_days _ _, fun d m => by
          obtain ⟨k, hk, rfl⟩ := List.mem_map.mp m
          have := List.mem_range.mp hk
          omega⟩
  obtain ⟨low, u2, e2, o2, m2⟩ := e_any hz o1 (ds := [.int 0, .int 0, .int 200, .int 380]) (by decide) (by decide) (x := .lst [.int 0, .int 0, .int 200, .int 380]) (.inl rfl)
  obtain ⟨wide, u3, e3, o3, m3⟩ := e_any hz o2 (ds := [.int 4, .int 12, .int 21]) (by decide) (by decide) (x := .lst [.int 4, .int 12, .int 21]) (.inl rfl)
  obtain ⟨lo, rfl, l0, l1⟩ : ∃ i : Int, low = .int i ∧ 0 ≤ i ∧ i ≤ 380 := by
    simp at m2
    rcases m2 with rfl | rfl | rfl <;> exact ⟨_, rfl, by decide, by decide⟩
  obtain ⟨wi, rfl, w0, w1⟩ : ∃ i : Int, wide = .int i ∧ 4 ≤ i ∧ i ≤ 21 := by
    simp at m3
    rcases m3 with rfl | rfl | rfl <;> exact ⟨_, rfl, by decide, by decide⟩
  obtain ⟨n, u4, e4, o4, n0, n1⟩ := e_draw hz o3 (n := 12) (by decide) (by decide)
  have nn : (1 + n).toNat ≤ 12 := by omega
  have hr : rng1 [.int (1 + n)] = some (rngD 0 (1 + n).toNat, none) := rng1_eq (smR_of ⟨by omega, by omega, by omega, by omega⟩)
  obtain ⟨vs, h1, q1, ⟨u5, rfl, o5⟩, q2, q3⟩ := lc_inv (g := (rngD 0 (1 + n).toNat, none)) (t := .name 6) (c := mYes) (e := mOp gAdd (mVar 2) (mCall 2 m__law_draw (mCons (mVar 0) (mCons (mVar 3) mNil)))) (s0 := [some (.ref z), some (.int kind), some (.int lo), some (.int wi), none, none, none])
    (HZ X z) (fun v => ∃ i : Int, v = .int i ∧ 0 ≤ i ∧ i ≤ 400) (by simp) (rngD 0 (1 + n).toNat) [] (X.set z u4) ⟨u4, rfl, o4⟩ (fun d _ h ⟨u, e, o⟩ => by
      subst e
      obtain ⟨r, u', e', o', r0, r1⟩ := e_draw hz o (n := wi) (by omega) (by omega)
      exact ⟨_, true, _, tg_name, rfl, ⟨u, rfl, o⟩, fun _ => ⟨.int (lo + r), _, by simp [e'], ⟨u', rfl, o'⟩, _, rfl, by omega, by omega⟩⟩) (by simp) (by rw [rngD_I, List.length_map, rgI_len, List.length_nil]; omega)
  obtain ⟨is, rfl, b1⟩ := ints_of q2
  have l1 : is.length ≤ 12 := by
    rw [rngD_I, List.length_map, List.length_map, rgI_len, List.length_nil] at q3
    omega
  -- the end, from any numbers
  have fin : ∀ (js : List Int) (u : IO), HandOK u → (∀ j ∈ js, 0 ≤ j ∧ j ≤ 400) → js.length ≤ 2000 → ∃ l u', retK (seqK (sRet (mFr (mSrtSetN (mLc (mIt (mVar 4)) (.name 5) mYes (mB1 gMin (mCons (mC (.int 400)) (mCons (mVar 5) mNil))) [5]))))
      (seqK (sIf (mB (mOp gEq (mVar 1) (mC (.int 6))))
  (sSet 4 (mOp gAdd (mVar 4) (mLst (mCons (mC (.int 0)) (mCons (mC (.int 400)) (mCons (mC (.int 399)) (mCons (mOp gSub (mC (.int 398)) (mCall 2 m__law_draw (mCons (mVar 0) (mCons (mC (.int 3)) mNil)))) mNil)))))))
  sNx) (.nx [some (.ref z), some (.int kind), some (.int lo), some (.int wi), some (.lst (js.map D.int)), none, none] (X.set z u)))) = .ok (.lst (l.map D.int)) (X.set z u') ∧ HandOK u' ∧ Days l := by
    intro js u o hb hl
    have last : ∀ (js : List Int) (u : IO), HandOK u → (∀ j ∈ js, 0 ≤ j ∧ j ≤ 400) → js.length ≤ 3000 → ∃ l u', retK (sRet (mFr (mSrtSetN (mLc (mIt (mVar 4)) (.name 5) mYes (mB1 gMin (mCons (mC (.int 400)) (mCons (mVar 5) mNil))) [5]))) [some (.ref z), some (.int kind), some (.int lo), some (.int wi), some (.lst (js.map D.int)), none, none] (X.set z u)) = .ok (.lst (l.map D.int)) (X.set z u') ∧ HandOK u' ∧ Days l := by
      intro js u o hb hl
      refine ⟨asc (js.map fun j => min 400 j), u, ?_, o, asc_days fun d m => ?_⟩
      · simp
        rw [lc_all (fun j => .int (min 400 j)) (by simp) js (fun j _ => ⟨_, tg_name, rfl, by simp⟩) (by omega)]
        have e : (js.map fun j => D.int (min 400 j)) = (js.map fun j => min 400 j).map D.int := by rw [List.map_map]; rfl
        simp only [R.bind_ok, kFr_eq, kSrtSet_eq]
        rw [e, gSrtSet_lst (by rw [List.length_map]; omega)]
        simp
      · obtain ⟨j, mj, rfl⟩ := List.mem_map.mp m
        have := hb j mj
        omega
    by_cases c6 : kind = 6
    · obtain ⟨r, u', e', o', r0, r1⟩ := e_draw hz o (n := 3) (by decide) (by decide)
      obtain ⟨l, u2, f1, f2, f3⟩ := last (js ++ [0, 400, 399, 398 - r]) u' o' (fun j m => by
        rcases List.mem_append.mp m with m | m
        · exact hb j m
        · simp at m
          omega) (by simp; omega)
      refine ⟨l, u2, ?_, f2, f3⟩
      rw [← f1]
      have hl2 : js.length + 4 ≤ 16777216 := by omega
      simp [c6, e', hl2]
    · obtain ⟨l, u2, f1, f2, f3⟩ := last js u o hb (by omega)
      refine ⟨l, u2, ?_, f2, f3⟩
      rw [← f1]
      simp [c6]
  by_cases c3 : 3 < kind
  · obtain ⟨js, j1, j2, j3⟩ := cut3 is
    obtain ⟨ws, h2, p1, ⟨u6, rfl, o6⟩, p2, p3⟩ := lc_inv (g := (js.map D.int, none)) (t := .name 5) (c := mYes) (e := mTup (mCons (mVar 5) (mCons (mB1 gMin (mCons (mC (.int 400)) (mCons (mOp gAdd (mVar 5) (mCall 2 m__law_draw (mCons (mVar 0) (mCons (mC (.int 9)) mNil)))) mNil))) mNil))) (s0 := [some (.ref z), some (.int kind), some (.int lo), some (.int wi), some (.lst (is.map D.int)), none, none])
      (HZ X z) (fun v => ∃ p : Pr, v = prT p ∧ 0 ≤ p.1 ∧ p.1 ≤ p.2 ∧ p.2 ≤ 400) (by simp) (js.map D.int) [] (X.set z u5) ⟨u5, rfl, o5⟩ (fun d m h ⟨u, e, o⟩ => by
        subst e
        obtain ⟨j, mj, rfl⟩ := List.mem_map.mp m
        have hj := b1 j (j3 j mj)
        obtain ⟨r, u', e', o', r0, r1⟩ := e_draw hz o (n := 9) (by decide) (by decide)
        exact ⟨_, true, _, tg_name, rfl, ⟨u, rfl, o⟩, fun _ => ⟨prT (j, min 400 (j + r)), _, by simp [e'], ⟨u', rfl, o'⟩, _, rfl, by dsimp only; omega, by dsimp only; omega, by dsimp only; omega⟩⟩) (by simp) (by rw [List.length_map, List.length_nil]; omega)
    obtain ⟨ps, rfl, b2⟩ := prs_of p2
    have l2 : ps.length ≤ 3 := by
      rw [List.length_map, List.length_map, List.length_nil] at p3
      omega
    have ea := e_all (a := ps) b2 (by omega) (.inl rfl) (X.set z u6)
    have l3 := allF_len ps b2 []
    rw [List.length_nil] at l3
    obtain ⟨l, u', f1, f2, f3⟩ := fin (is ++ ps.foldl allF []) u6 o6 (fun j m => by
      rcases List.mem_append.mp m with m | m
      · exact b1 j m
      · rw [allF_mem] at m
        rcases m with m | ⟨p, mp, m⟩
        · cases m
        · have := b2 p mp; omega) (by rw [List.length_append]; omega)
    refine ⟨l, u', ?_, f2, f3⟩
    rw [← f1]
    have hl2 : is.length + (ps.foldl allF []).length ≤ 16777216 := by omega
    simp [m__law_days, e1, c0, c1, e2, e3, e4, hr, q1, c3, j1, p1, ea, hl2]
  · obtain ⟨l, u', f1, f2, f3⟩ := fin is u5 o5 b1 (by omega)
    refine ⟨l, u', ?_, f2, f3⟩
    rw [← f1]
    simp [m__law_days, e1, c0, c1, e2, e3, e4, hr, q1, c3]
end Dn

set_option Elab.async false
set_option linter.all false
set_option maxRecDepth 100000
set_option maxHeartbeats 4000000
/-! merged; stretches are told by their days -/
namespace Dn
open PySem L2
theorem cov_app {a b : List Pr} {d : Int} : cov (a ++ b) d ↔ cov a d ∨ cov b d := by
  unfold cov
  constructor
  · rintro ⟨p, m, h⟩
    rcases List.mem_append.mp m with m | m
    · exact .inl ⟨p, m, h⟩
    · exact .inr ⟨p, m, h⟩
  · rintro (⟨p, m, h⟩ | ⟨p, m, h⟩)
    · exact ⟨p, List.mem_append_left _ m, h⟩
    · exact ⟨p, List.mem_append_right _ m, h⟩
theorem cov_one {p : Pr} {d : Int} : cov [p] d ↔ p.1 ≤ d ∧ d ≤ p.2 := by simp [cov]
theorem cov_nil {d : Int} : cov [] d ↔ False := by simp [cov]
theorem cov_cons {p : Pr} {a : List Pr} {d : Int} : cov (p :: a) d ↔ (p.1 ≤ d ∧ d ≤ p.2) ∨ cov a d := by
  have := cov_app (a := [p]) (b := a) (d := d)
  rw [cov_one] at this
  exact this
theorem okS_uniq : ∀ {a b : List Pr}, OkS a → OkS b → (∀ d, cov a d ↔ cov b d) → a = b
  | [], [], _, _, _ => rfl
  | [], q :: b, _, ob, h => by
    have := ob.ok q List.mem_cons_self
    exact absurd ((h q.1).mpr (cov_cons.mpr (.inl ⟨by omega, by omega⟩))) (fun z => cov_nil.mp z)
  | p :: a, [], oa, _, h => by
    have := oa.ok p List.mem_cons_self
    exact absurd ((h p.1).mp (cov_cons.mpr (.inl ⟨by omega, by omega⟩))) (fun z => cov_nil.mp z)
  | p :: a, q :: b, oa, ob, h => by
    have p0 := oa.ok p List.mem_cons_self
    have q0 := ob.ok q List.mem_cons_self
    have pb := oa.behind
    have qb := ob.behind
    have h1 : q.1 ≤ p.1 := by
      rcases cov_cons.mp ((h p.1).mp (cov_cons.mpr (.inl ⟨by omega, by omega⟩))) with z | ⟨r, mr, z⟩
      · omega
      · have := qb r mr; omega
    have h2 : p.1 ≤ q.1 := by
      rcases cov_cons.mp ((h q.1).mpr (cov_cons.mpr (.inl ⟨by omega, by omega⟩))) with z | ⟨r, mr, z⟩
      · omega
      · have := pb r mr; omega
    have h3 : ¬ p.2 < q.2 := fun lt => by
      rcases cov_cons.mp ((h (p.2 + 1)).mpr (cov_cons.mpr (.inl ⟨by omega, by omega⟩))) with z | ⟨r, mr, z⟩
      · omega
      · have := pb r mr; omega
    have h4 : ¬ q.2 < p.2 := fun lt => by
      rcases cov_cons.mp ((h (q.2 + 1)).mp (cov_cons.mpr (.inl ⟨by omega, by omega⟩))) with z | ⟨r, mr, z⟩
      · omega
      · have := qb r mr; omega
    have e : p = q := Prod.ext (by omega) (by omega)
    subst e
    congr 1
    refine okS_uniq oa.tail ob.tail fun d => ⟨fun z => ?_, fun z => ?_⟩
    · obtain ⟨r, mr, zr⟩ := id z
      have := pb r mr
      rcases cov_cons.mp ((h d).mp (cov_cons.mpr (.inr z))) with z2 | z2
      · omega
      · exact z2
    · obtain ⟨r, mr, zr⟩ := id z
      have := qb r mr
      rcases cov_cons.mp ((h d).mpr (cov_cons.mpr (.inr z))) with z2 | z2
      · omega
      · exact z2
def mgF (y : List Pr) (p : Pr) : List Pr := match y.getLast? with
  | none => [p]
  | some q => if p.1 ≤ q.2 + 1 then y.dropLast ++ [(q.1, max q.2 p.2)] else y ++ [p]
def mg (ps : List Pr) : List Pr := (srtP ps).foldl mgF []
structure MgI (pre : List Pr) (y : List Pr) : Prop where
  ok : ∀ p ∈ y, 0 ≤ p.1 ∧ p.1 ≤ p.2 ∧ p.2 ≤ 400
  pw : y.Pairwise fun p q => p.2 + 1 < q.1
  mem : ∀ d, cov pre d ↔ cov y d
  nil : y = [] → pre = []
  last : ∀ fs q, y = fs ++ [q] → ∃ r ∈ pre, r.1 = q.1
theorem MgI.step {pre y : List Pr} {p : Pr} (r : MgI pre y) (hp : 0 ≤ p.1 ∧ p.1 ≤ p.2 ∧ p.2 ≤ 400) (hs : ∀ x ∈ pre, x.1 ≤ p.1) : MgI (pre ++ [p]) (mgF y p) := by
  rcases List.eq_nil_or_concat y with e | ⟨fs, q, e⟩
  · subst e
    have := r.nil rfl
    subst this
    have ef : mgF [] p = [p] := rfl
    rw [ef]
    refine ⟨fun x m => by rw [List.mem_singleton.mp m]; exact hp, by simp, fun d => by simp, fun z => by simp at z, fun fs q z => ?_⟩
    have z2 : fs ++ [q] = [] ++ [p] := z.symm
    have := (List.append_inj' z2 rfl).2
    simp at this
    subst this
    exact ⟨q, by simp, rfl⟩
  · rw [List.concat_eq_append] at e
    subst e
    obtain ⟨w, mw, ew⟩ := r.last fs q rfl
    have hw := hs w mw
    have pw := r.pw
    rw [List.pairwise_append] at pw
    have hl : ∀ x ∈ fs, x.2 + 1 < q.1 := fun x m => pw.2.2 x m q (by simp)
    have hq := r.ok q (by simp)
    have ef : mgF (fs ++ [q]) p = if p.1 ≤ q.2 + 1 then fs ++ [(q.1, max q.2 p.2)] else fs ++ [q] ++ [p] := by
      unfold mgF
      simp
    rw [ef]
    by_cases hc : p.1 ≤ q.2 + 1
    · rw [if_pos hc]
      refine ⟨fun x m => ?_, ?_, fun d => ?_, fun z => by simp at z, fun fs' q' z => ?_⟩
      · rcases List.mem_append.mp m with m | m
        · exact r.ok x (List.mem_append_left _ m)
        · rw [List.mem_singleton.mp m]
          dsimp only
          omega
      · rw [List.pairwise_append]
        exact ⟨pw.1, by simp, fun x m y my => by rw [List.mem_singleton.mp my]; exact hl x m⟩
      · rw [cov_app, r.mem d, cov_app, cov_one, cov_one, cov_app, cov_one]
        dsimp only
        constructor
        · rintro ((h | h) | h)
          · exact .inl h
          · right; omega
          · right; omega
        · rintro (h | h)
          · exact .inl (.inl h)
          · by_cases hd : d ≤ q.2
            · exact .inl (.inr ⟨h.1, hd⟩)
            · right; omega
      · have := (List.append_inj' z rfl).2
        simp at this
        rw [← this]
        exact ⟨w, List.mem_append_left _ mw, ew⟩
    · rw [if_neg hc]
      refine ⟨fun x m => ?_, ?_, fun d => ?_, fun z => by simp at z, fun fs' q' z => ?_⟩
      · rcases List.mem_append.mp m with m | m
        · exact r.ok x m
        · rw [List.mem_singleton.mp m]; exact hp
      · rw [List.pairwise_append]
        refine ⟨r.pw, by simp, fun x m y my => ?_⟩
        rw [List.mem_singleton.mp my]
        rcases List.mem_append.mp m with m | m
        · have := hl x m; omega
        · rw [List.mem_singleton.mp m]; omega
      · rw [cov_app, r.mem d, cov_app (a := fs ++ [q])]
      · have := (List.append_inj' z rfl).2
        simp at this
        rw [← this]
        exact ⟨p, by simp, rfl⟩
theorem MgI.fold : ∀ {rest pre y : List Pr}, (pre ++ rest).Pairwise (fun p q => p.1 ≤ q.1) → (∀ p ∈ rest, 0 ≤ p.1 ∧ p.1 ≤ p.2 ∧ p.2 ≤ 400) → MgI pre y → MgI (pre ++ rest) (rest.foldl mgF y)
  | [], pre, y, _, _, r => by rw [List.append_nil]; exact r
  | p :: rest, pre, y, hs, hb, r => by
    rw [List.foldl_cons]
    have e : pre ++ p :: rest = (pre ++ [p]) ++ rest := by simp
    rw [e] at hs ⊢
    refine MgI.fold hs (fun q m => hb q (List.mem_cons_of_mem _ m)) (r.step (hb p List.mem_cons_self) fun x m => ?_)
    rw [List.pairwise_append] at hs
    have := hs.1
    rw [List.pairwise_append] at this
    exact this.2.2 x m p (by simp)
theorem mg_inv {ps : List Pr} (hb : ∀ p ∈ ps, 0 ≤ p.1 ∧ p.1 ≤ p.2 ∧ p.2 ≤ 400) : MgI (srtP ps) (mg ps) := by
  have h := MgI.fold (rest := srtP ps) (pre := []) (y := []) ?_ (fun p m => hb p ((List.mergeSort_perm ps _).mem_iff.mp m)) ⟨by simp, by simp, fun d => Iff.rfl, fun _ => rfl, fun fs q z => by simp at z⟩
  · rwa [List.nil_append] at h
  · rw [List.nil_append]
    exact (srtP_ok ps).imp fun {p q} h => by rw [leP_iff] at h; omega
theorem mg_ok {ps : List Pr} (hb : ∀ p ∈ ps, 0 ≤ p.1 ∧ p.1 ≤ p.2 ∧ p.2 ≤ 400) : OkS (mg ps) := ⟨(mg_inv hb).ok, gaps_of (mg_inv hb).pw⟩
theorem mg_cov {ps : List Pr} (hb : ∀ p ∈ ps, 0 ≤ p.1 ∧ p.1 ≤ p.2 ∧ p.2 ≤ 400) (d : Int) : cov (mg ps) d ↔ cov ps d := by
  rw [← (mg_inv hb).mem d]
  unfold cov
  constructor <;> rintro ⟨p, m, h⟩
  · exact ⟨p, (List.mergeSort_perm ps _).mem_iff.mp m, h⟩
  · exact ⟨p, (List.mergeSort_perm ps _).mem_iff.mpr m, h⟩
theorem e_merged {ps : List Pr} (hz : ps.length < 200000) {h : IHp} {x : D} (hx : seqOf (h ++ [.lst []]) x = some (ps.map prT)) : m_merged [x] h = .ok (.tup ((mg ps).map prT)) h := by
  have hs : gSrtN (h ++ [.lst []]) [x] = some ((srtP ps).map prT) := gSrtN_prs ps hx
  have sl : (srtP ps).length = ps.length := (List.mergeSort_perm ps _).length_eq
  have loop := loop_foldR (g := ((srtP ps).map prT, none)) (t := .tup [.name 2, .name 3]) (enc := prT) (body := (sKl [2, 3] (sIf (mAnd (mTru (mVar 1)) (mB (mOp gLe (mVar 2) (mOp gAdd (mOp gIx (mOp gIx (mVar 1) (mNeg (mC (.int 1)))) (mC (.int 1))) (mC (.int 1))))))
  (sSt (mTup (mCons (mOp gIx (mOp gIx (mVar 1) (mNeg (mC (.int 1)))) (mC (.int 0))) (mCons (mB1 gMax (mCons (mOp gIx (mOp gIx (mVar 1) (mNeg (mC (.int 1)))) (mC (.int 1))) (mCons (mVar 3) mNil))) mNil))) (mVar 1) (mNeg (mC (.int 1))))
  (sExpr (mApp (mVar 1) (mTup (mCons (mVar 2) (mCons (mVar 3) mNil))))))))
    (fun _ => [some x, some (.ref h.length), none, none]) (fun y : List Pr => h ++ [.lst (y.map prT)]) mgF (fun y l => y.length + l.length < 200000) (by simp) (fun p r y hy => by
      rcases List.eq_nil_or_concat y with e | ⟨fs, q, e⟩
      · subst e
        exact ⟨by simp [mgF] at hy ⊢; omega, _, tg_pr, .inl (by simp [mgF])⟩
      · rw [List.concat_eq_append] at e
        subst e
        by_cases hq : p.1 ≤ q.2 + 1
        · refine ⟨by simp [mgF, hq] at hy ⊢; omega, _, tg_pr, .inl ?_⟩
          have e2 : stO (h ++ [IO.lst (fs.map prT ++ [prT q])]) h.length (-1) (prT (q.1, max q.2 p.2)) (some (fs.map prT ++ [prT q])) = some (h ++ [IO.lst (fs.map prT ++ [prT (q.1, max q.2 p.2)])]) := by
            rw [stO_some, List.length_append, List.length_singleton, ixN_last]
            simp
          simp [mgF, hq, e2]
        · refine ⟨by simp [mgF, hq] at hy ⊢; omega, _, tg_pr, .inl ?_⟩
          have : fs.length + 1 < 16777216 := by simp at hy; omega
          simp [mgF, hq, this]) (srtP ps) [] (by simp; omega)
  rw [List.map_nil] at loop
  simp [m_merged, hs]
  rw [loop]
  simp
  exact gc_app (by simp [lows_prs])
end Dn

set_option Elab.async false
set_option linter.all false
set_option maxRecDepth 100000
set_option maxHeartbeats 4000000
/-! of both, common, lacking -/
namespace Dn
open PySem L2
theorem gc_ex0 {h : IHp} {c : Str} : gcK h (.ex c h) = .ex c h := by
  have := gc_ex (h := h) (L := []) (c := c)
  rwa [List.append_nil] at this
def Bd (ps : List Pr) : Prop := ∀ p ∈ ps, 0 ≤ p.1 ∧ p.1 ≤ p.2 ∧ p.2 ≤ 400
theorem Bd.app {a b : List Pr} (x : Bd a) (y : Bd b) : Bd (a ++ b) := fun p m => by
  rcases List.mem_append.mp m with m | m
  · exact x p m
  · exact y p m
theorem e_both {a b : List Pr} (oa : OkS a) (ob : OkS b) (h : IHp) : m_both_of [.tup (a.map prT), .tup (b.map prT)] h = .ok (.tup ((mg (a ++ b)).map prT)) h := by
  have la := oa.sz
  have lb := ob.sz
  have ga : ∀ h : IHp, gAdd h (.tup (a.map prT)) (.tup (b.map prT)) = some (.tup ((a ++ b).map prT)) := fun h => by
    rw [gAdd_tup (by simp; omega), List.map_append]
  have em := e_merged (ps := a ++ b) (by simp; omega) (h := h) (x := .tup ((a ++ b).map prT)) rfl
  generalize a ++ b = c at ga em
  simp [m_both_of, e_need_str oa, e_need_str ob, ga, em]
theorem e_both_no {x y : D} (h : IHp) (zx : Sm x) (hx : isStrD x = false) : m_both_of [x, y] h = .ex "NoStretches" h := by
  simp [m_both_of, e_need_strD _ _ zx, hx]
/-! common -/
def cmF (p : Pr) (y : List Pr) (q : Pr) : List Pr := if max p.1 q.1 ≤ min p.2 q.2 then y ++ [(max p.1 q.1, min p.2 q.2)] else y
def comm (a b : List Pr) : List Pr := a.foldl (fun y p => b.foldl (cmF p) y) []
theorem cmF_cov (p : Pr) (d : Int) : ∀ (b y : List Pr), cov (b.foldl (cmF p) y) d ↔ cov y d ∨ ((p.1 ≤ d ∧ d ≤ p.2) ∧ cov b d)
  | [], y => by simp [cov_nil]
  | q :: b, y => by
    rw [List.foldl_cons, cmF_cov p d b, cov_cons]
    unfold cmF
    by_cases c : max p.1 q.1 ≤ min p.2 q.2
    · rw [if_pos c, cov_app, cov_one]
      dsimp only
      constructor
      · rintro ((h | h) | h)
        · exact .inl h
        · right; refine ⟨by omega, .inl (by omega)⟩
        · exact .inr ⟨h.1, .inr h.2⟩
      · rintro (h | ⟨h1, h2 | h2⟩)
        · exact .inl (.inl h)
        · left; right; omega
        · exact .inr ⟨h1, h2⟩
    · rw [if_neg c]
      constructor
      · rintro (h | h)
        · exact .inl h
        · exact .inr ⟨h.1, .inr h.2⟩
      · rintro (h | ⟨h1, h2 | h2⟩)
        · exact .inl h
        · omega
        · exact .inr ⟨h1, h2⟩
theorem cmF_len (p : Pr) : ∀ (b y : List Pr), (b.foldl (cmF p) y).length ≤ y.length + b.length
  | [], y => by simp
  | q :: b, y => by
    rw [List.foldl_cons]
    refine Nat.le_trans (cmF_len p b _) ?_
    unfold cmF
    split <;> simp <;> omega
theorem cmF_bd {p : Pr} (hp : 0 ≤ p.1 ∧ p.1 ≤ p.2 ∧ p.2 ≤ 400) : ∀ {b y : List Pr}, Bd b → Bd y → Bd (b.foldl (cmF p) y)
  | [], y, _, hy => hy
  | q :: b, y, hb, hy => by
    rw [List.foldl_cons]
    have hq := hb q List.mem_cons_self
    refine cmF_bd hp (fun r m => hb r (List.mem_cons_of_mem _ m)) ?_
    unfold cmF
    split
    · exact hy.app fun r m => by
        rw [List.mem_singleton.mp m]
        dsimp only
        omega
    · exact hy
theorem comm_fold (b : List Pr) (d : Int) : ∀ (a y : List Pr), cov (a.foldl (fun y p => b.foldl (cmF p) y) y) d ↔ cov y d ∨ (cov a d ∧ cov b d)
  | [], y => by simp [cov_nil]
  | p :: a, y => by
    rw [List.foldl_cons, comm_fold b d a, cmF_cov, cov_cons]
    constructor
    · rintro ((h | h) | h)
      · exact .inl h
      · exact .inr ⟨.inl h.1, h.2⟩
      · exact .inr ⟨.inr h.1, h.2⟩
    · rintro (h | ⟨h1 | h1, h2⟩)
      · exact .inl (.inl h)
      · exact .inl (.inr ⟨h1, h2⟩)
      · exact .inr ⟨h1, h2⟩
theorem comm_cov (a b : List Pr) (d : Int) : cov (comm a b) d ↔ cov a d ∧ cov b d := by
  unfold comm
  rw [comm_fold]
  simp [cov_nil]
theorem comm_bd {a b : List Pr} (ha : Bd a) (hb : Bd b) : Bd (comm a b) := by
  unfold comm
  have : ∀ (a y : List Pr), Bd a → Bd y → Bd (a.foldl (fun y p => b.foldl (cmF p) y) y) := by
    intro a
    induction a with
    | nil => intro y _ hy; exact hy
    | cons p a ih => intro y ha hy; exact ih _ (fun r m => ha r (List.mem_cons_of_mem _ m)) (cmF_bd (ha p List.mem_cons_self) hb hy)
  exact this a [] ha (fun p m => nomatch m)
theorem comm_len (b : List Pr) : ∀ (a y : List Pr), (a.foldl (fun y p => b.foldl (cmF p) y) y).length ≤ y.length + a.length * b.length
  | [], y => by simp
  | p :: a, y => by
    rw [List.foldl_cons]
    refine Nat.le_trans (comm_len b a _) ?_
    have := cmF_len p b y
    rw [List.length_cons, Nat.succ_mul]
    omega
theorem sq_len {a b : List Pr} (la : a.length ≤ 401) (lb : b.length ≤ 401) : a.length * b.length ≤ 160801 := Nat.mul_le_mul la lb
theorem e_common {a b : List Pr} (oa : OkS a) (ob : OkS b) (h : IHp) : m_common_of [.tup (a.map prT), .tup (b.map prT)] h = .ok (.tup ((mg (comm a b)).map prT)) h := by
  have la := oa.sz
  have lb := ob.sz
  have sq := sq_len la lb
  have inner : ∀ (p : Pr) (y : List Pr), y.length + b.length < 300000 → loopD (b.map prT, none) (.tup [.name 5, .name 6]) (sKl [5, 6] (sIf (mB (mOp gLe (mB1 gMax (mCons (mVar 3) (mCons (mVar 5) mNil))) (mB1 gMin (mCons (mVar 4) (mCons (mVar 6) mNil)))))
      (sExpr (mApp (mVar 2) (mTup (mCons (mB1 gMax (mCons (mVar 3) (mCons (mVar 5) mNil))) (mCons (mB1 gMin (mCons (mVar 4) (mCons (mVar 6) mNil))) mNil)))))
      sNx)) (b.map prT) [some (.tup (a.map prT)), some (.tup (b.map prT)), some (.ref h.length), some (.int p.1), some (.int p.2), none, none] (h ++ [.lst (y.map prT)]) =
      .nx [some (.tup (a.map prT)), some (.tup (b.map prT)), some (.ref h.length), some (.int p.1), some (.int p.2), none, none] (h ++ [.lst ((b.foldl (cmF p) y).map prT)]) := fun p y hy =>
    loop_foldR (fun _ => [some (.tup (a.map prT)), some (.tup (b.map prT)), some (.ref h.length), some (.int p.1), some (.int p.2), none, none]) (fun y : List Pr => h ++ [.lst (y.map prT)]) (cmF p) (fun y l => y.length + l.length < 300000) (by simp) (fun q r y hy => by
      have hl : y.length < 16777216 := by simp at hy; omega
      by_cases c : max p.1 q.1 ≤ min p.2 q.2
      · exact ⟨by simp [cmF, c] at hy ⊢; omega, _, tg_pr, .inl (by simp [cmF, c, hl])⟩
      · exact ⟨by simp [cmF, c] at hy ⊢; omega, _, tg_pr, .inl (by simp [cmF, c, hl])⟩) b y hy
  have loop := loop_foldR (g := (a.map prT, none)) (t := .tup [.name 3, .name 4]) (enc := prT) (body := (sKl [3, 4, 5, 6] (sKl [5, 6] (sFor (mIt (mVar 1)) (.tup [(.name 5), (.name 6)])
      (sKl [5, 6] (sIf (mB (mOp gLe (mB1 gMax (mCons (mVar 3) (mCons (mVar 5) mNil))) (mB1 gMin (mCons (mVar 4) (mCons (mVar 6) mNil)))))
      (sExpr (mApp (mVar 2) (mTup (mCons (mB1 gMax (mCons (mVar 3) (mCons (mVar 5) mNil))) (mCons (mB1 gMin (mCons (mVar 4) (mCons (mVar 6) mNil))) mNil)))))
      sNx))))))
    (fun _ => [some (.tup (a.map prT)), some (.tup (b.map prT)), some (.ref h.length), none, none, none, none]) (fun y : List Pr => h ++ [.lst (y.map prT)]) (fun y p => b.foldl (cmF p) y) (fun y l => y.length + l.length * b.length ≤ 200000) (by simp) (fun p r y hy => by
      have hy2 : y.length + b.length < 300000 := by omega
      have := cmF_len p b y
      rw [List.length_cons, Nat.succ_mul] at hy
      exact ⟨by omega, _, tg_pr, .inl (by simp [inner p y hy2])⟩) a [] (by simp; omega)
  have e0 : a.foldl (fun y p => b.foldl (cmF p) y) [] = comm a b := rfl
  have cl := comm_len b a []
  rw [e0] at loop cl
  rw [List.map_nil] at loop
  have em := e_merged (ps := comm a b) (by simp at cl; omega) (h := h ++ [.lst ((comm a b).map prT)]) (x := .ref h.length) (by rw [seqOf_ref]; simp)
  simp [m_common_of, e_need_str oa, e_need_str ob, loop, em]
  exact gc_app (by simp [lows_prs])
theorem e_common_no {a : List Pr} (oa : OkS a) {y : D} (h : IHp) (zy : Sm y) (hy : isStrD y = false) : m_common_of [.tup (a.map prT), y] h = .ex "NoStretches" h := by
  simp [m_common_of, e_need_str oa, e_need_strD _ _ zy, hy, gc_ex0]
/-! lacking -/
def lkF (l : Int) (s : List Pr × Int) (q : Pr) : List Pr × Int := if s.2 ≤ q.2 ∧ q.1 ≤ l then (if s.2 < q.1 then s.1 ++ [(s.2, q.1 - 1)] else s.1, q.2 + 1) else s
def lack (b : List Pr) (f l : Int) : List Pr := let s := b.foldl (lkF l) ([], f); if s.2 ≤ l then s.1 ++ [(s.2, l)] else s.1
structure LkI (f l : Int) (pre : List Pr) (s : List Pr × Int) : Prop where
  bd : Bd s.1
  c1 : ∀ d, cov s.1 d ↔ f ≤ d ∧ d < s.2 ∧ d ≤ l ∧ ¬ cov pre d
  c2 : ∀ d, s.2 ≤ d → ¬ cov pre d ∨ d < f ∨ l < d
  c3 : s.2 = f ∨ ∃ p ∈ pre, s.2 = p.2 + 1 ∧ f ≤ s.2
theorem LkI.step {f l : Int} {pre : List Pr} {s : List Pr × Int} {q : Pr} (i : LkI f l pre s) (f0 : 0 ≤ f) (hq : 0 ≤ q.1 ∧ q.1 ≤ q.2 ∧ q.2 ≤ 400) (l4 : l ≤ 400) (hb : ∀ p ∈ pre, p.2 + 1 < q.1) (hp : ∀ p ∈ pre, p.1 ≤ p.2) : LkI f l (pre ++ [q]) (lkF l s q) := by
  obtain ⟨y, t⟩ := s
  obtain ⟨bd, c1, c2, c3⟩ := i
  dsimp only at bd c1 c2 c3
  have tf : f ≤ t := by rcases c3 with h | ⟨p, _, _, h⟩ <;> omega
  have low : ∀ d, f ≤ d → d < t → d < q.1 := fun d a b => by
    rcases c3 with h | ⟨p, m, e, _⟩
    · omega
    · have := hb p m; omega
  have pq : ∀ d, cov pre d → d < q.1 := fun d ⟨p, m, h⟩ => by have := hb p m; omega
  by_cases c : t ≤ q.2 ∧ q.1 ≤ l
  · by_cases c' : t < q.1
    · have e : lkF l (y, t) q = (y ++ [(t, q.1 - 1)], q.2 + 1) := by unfold lkF; rw [if_pos c, if_pos c']
      rw [e]
      refine ⟨bd.app fun p m => by rw [List.mem_singleton.mp m]; dsimp only; omega, fun d => ?_, fun d hd => ?_, .inr ⟨q, by simp, rfl, by dsimp only; omega⟩⟩
      · dsimp only
        rw [cov_app, cov_one, c1, cov_app, cov_one]
        dsimp only
        constructor
        · rintro (⟨a, b, c, n⟩ | ⟨a, b⟩)
          · have := low d a b
            exact ⟨a, by omega, c, fun z => z.elim n (by omega)⟩
          · refine ⟨by omega, by omega, by omega, fun z => z.elim (fun z => ?_) (by omega)⟩
            rcases c2 d a with h | h | h
            · exact h z
            · omega
            · omega
        · rintro ⟨a, b, c, n⟩
          have n1 : ¬ cov pre d := fun z => n (.inl z)
          have n2 : ¬ (q.1 ≤ d ∧ d ≤ q.2) := fun z => n (.inr z)
          by_cases dt : d < t
          · exact .inl ⟨a, dt, c, n1⟩
          · right; omega
      · left
        dsimp only at hd
        rw [cov_app, cov_one]
        rintro (z | z)
        · have := pq d z; omega
        · omega
    · have e : lkF l (y, t) q = (y, q.2 + 1) := by unfold lkF; rw [if_pos c, if_neg c']
      rw [e]
      refine ⟨bd, fun d => ?_, fun d hd => ?_, .inr ⟨q, by simp, rfl, by dsimp only; omega⟩⟩
      · dsimp only
        rw [c1, cov_app, cov_one]
        constructor
        · rintro ⟨a, b, c, n⟩
          have := low d a b
          exact ⟨a, by omega, c, fun z => z.elim n (by omega)⟩
        · rintro ⟨a, b, c, n⟩
          have n1 : ¬ cov pre d := fun z => n (.inl z)
          have n2 : ¬ (q.1 ≤ d ∧ d ≤ q.2) := fun z => n (.inr z)
          exact ⟨a, by omega, c, n1⟩
      · left
        dsimp only at hd
        rw [cov_app, cov_one]
        rintro (z | z)
        · have := pq d z; omega
        · omega
  · have e : lkF l (y, t) q = (y, t) := by unfold lkF; rw [if_neg c]
    rw [e]
    refine ⟨bd, fun d => ?_, fun d hd => ?_, ?_⟩
    · dsimp only
      rw [c1, cov_app, cov_one]
      constructor
      · rintro ⟨a, b, c, n⟩
        have := low d a b
        exact ⟨a, b, c, fun z => z.elim n (by omega)⟩
      · rintro ⟨a, b, c, n⟩
        exact ⟨a, b, c, fun z => n (.inl z)⟩
    · dsimp only at hd
      by_cases x : d < f ∨ l < d
      · exact .inr x
      · left
        rw [cov_app, cov_one]
        rintro (z | z)
        · rcases c2 d hd with h | h | h
          · exact h z
          · omega
          · omega
        · omega
    · rcases c3 with h | ⟨p, m, h⟩
      · exact .inl h
      · exact .inr ⟨p, List.mem_append_left _ m, h⟩
theorem LkI.fold {f l : Int} (f0 : 0 ≤ f) (l4 : l ≤ 400) : ∀ {b pre : List Pr} {s : List Pr × Int}, (pre ++ b).Pairwise (fun p q => p.2 + 1 < q.1) → Bd (pre ++ b) → LkI f l pre s → LkI f l (pre ++ b) (b.foldl (lkF l) s)
  | [], pre, s, _, _, i => by rw [List.append_nil]; exact i
  | q :: b, pre, s, hw, hb, i => by
    rw [List.foldl_cons]
    have e : pre ++ q :: b = (pre ++ [q]) ++ b := by simp
    have hw0 := hw
    rw [List.pairwise_append] at hw0
    rw [e] at hw hb ⊢
    exact LkI.fold f0 l4 hw hb (i.step f0 (hb q (by simp)) l4 (fun p m => hw0.2.2 p m q List.mem_cons_self) fun p m => (hb p (by simp [m])).2.1)
theorem okS_pw : ∀ {a : List Pr}, OkS a → a.Pairwise fun p q => p.2 + 1 < q.1
  | [], _ => .nil
  | p :: a, o => List.Pairwise.cons o.behind (okS_pw o.tail)
theorem lack_inv {b : List Pr} {f l : Int} (ob : OkS b) (f0 : 0 ≤ f) (l4 : l ≤ 400) : LkI f l b (b.foldl (lkF l) ([], f)) := by
  have := LkI.fold (f := f) (l := l) f0 l4 (b := b) (pre := []) (s := ([], f)) (by rw [List.nil_append]; exact okS_pw ob) (by rw [List.nil_append]; exact ob.ok) ⟨fun p m => (by cases m), fun d => by simp [cov_nil]; omega, fun d _ => .inl (by simp [cov_nil]), .inl rfl⟩
  rwa [List.nil_append] at this
theorem lack_cov {b : List Pr} {f l : Int} (ob : OkS b) (f0 : 0 ≤ f) (l4 : l ≤ 400) (d : Int) : cov (lack b f l) d ↔ (f ≤ d ∧ d ≤ l) ∧ ¬ cov b d := by
  obtain ⟨bd, c1, c2, c3⟩ := lack_inv ob f0 l4
  unfold lack
  generalize b.foldl (lkF l) ([], f) = s at bd c1 c2 c3
  dsimp only
  have tf : f ≤ s.2 := by rcases c3 with h | ⟨p, _, _, h⟩ <;> omega
  by_cases c : s.2 ≤ l
  · rw [if_pos c, cov_app, cov_one, c1]
    dsimp only
    constructor
    · rintro (⟨a, b, c, n⟩ | ⟨a, b⟩)
      · exact ⟨⟨a, c⟩, n⟩
      · refine ⟨⟨by omega, b⟩, fun z => ?_⟩
        rcases c2 d a with h | h | h
        · exact h z
        · omega
        · omega
    · rintro ⟨⟨a, b⟩, n⟩
      by_cases dt : d < s.2
      · exact .inl ⟨a, dt, b, n⟩
      · right; omega
  · rw [if_neg c, c1]
    constructor
    · rintro ⟨a, b, c, n⟩
      exact ⟨⟨a, c⟩, n⟩
    · rintro ⟨⟨a, b⟩, n⟩
      exact ⟨a, by omega, b, n⟩
theorem lack_bd {b : List Pr} {f l : Int} (ob : OkS b) (f0 : 0 ≤ f) (l4 : l ≤ 400) : Bd (lack b f l) := by
  obtain ⟨bd, c1, c2, c3⟩ := lack_inv ob f0 l4
  unfold lack
  generalize b.foldl (lkF l) ([], f) = s at bd c1 c2 c3
  dsimp only
  have tf : f ≤ s.2 := by rcases c3 with h | ⟨p, _, _, h⟩ <;> omega
  split
  · exact bd.app fun p m => by rw [List.mem_singleton.mp m]; dsimp only; omega
  · exact bd
theorem lkF_len (l : Int) : ∀ (b : List Pr) (s : List Pr × Int), (b.foldl (lkF l) s).1.length ≤ s.1.length + b.length
  | [], s => by simp
  | q :: b, s => by
    rw [List.foldl_cons]
    refine Nat.le_trans (lkF_len l b _) ?_
    unfold lkF
    split
    · split <;> simp <;> omega
    · simp
theorem lack_len (b : List Pr) (f l : Int) : (lack b f l).length ≤ b.length + 1 := by
  have := lkF_len l b ([], f)
  unfold lack
  dsimp only
  split <;> simp at this ⊢ <;> omega
theorem e_lack {b : List Pr} (hz : b.length ≤ 100000) (f l : Int) (h : IHp) : m_raw_lacking [.tup (b.map prT), .int f, .int l] h = .ok (.tup ((lack b f l).map prT)) h := by
  have loop := loop_foldR (g := (b.map prT, none)) (t := .tup [.name 5, .name 6]) (enc := prT) (body := (sKl [5, 6] (sIf (mAnd (mB (mOp gGe (mVar 6) (mVar 4))) (mB (mOp gLe (mVar 5) (mVar 2))))
  (sSeq (sIf (mB (mOp gGt (mVar 5) (mVar 4)))
  (sExpr (mApp (mVar 3) (mTup (mCons (mVar 4) (mCons (mOp gSub (mVar 5) (mC (.int 1))) mNil)))))
  sNx)
 (sSet 4 (mOp gAdd (mVar 6) (mC (.int 1)))))
  sNx)))
    (fun s : List Pr × Int => [some (.tup (b.map prT)), some (.int f), some (.int l), some (.ref h.length), some (.int s.2), none, none]) (fun s => h ++ [.lst (s.1.map prT)]) (lkF l) (fun s r => s.1.length + r.length ≤ 200000) (by simp) (fun q r s hy => by
      have hl : s.1.length < 16777216 := by simp at hy; omega
      by_cases c1 : s.2 ≤ q.2
      · by_cases c2 : q.1 ≤ l
        · by_cases c3 : s.2 < q.1
          · exact ⟨by simp [lkF, c1, c2, c3] at hy ⊢; omega, _, tg_pr, .inl (by simp [lkF, c1, c2, c3, hl])⟩
          · exact ⟨by simp [lkF, c1, c2, c3] at hy ⊢; omega, _, tg_pr, .inl (by simp [lkF, c1, c2, c3, hl])⟩
        · exact ⟨by simp [lkF, c1, c2] at hy ⊢; omega, _, tg_pr, .inl (by simp [lkF, c1, c2, hl])⟩
      · exact ⟨by simp [lkF, c1] at hy ⊢; omega, _, tg_pr, .inl (by simp [lkF, c1, hl])⟩) b ([], f) (by simp; omega)
  have ll := lkF_len l b ([], f)
  dsimp only at loop
  rw [List.map_nil] at loop
  simp [m_raw_lacking, loop]
  unfold lack
  dsimp only
  generalize b.foldl (lkF l) ([], f) = s at ll
  have hl : s.1.length < 16777216 := by simp at ll; omega
  by_cases c : s.2 ≤ l
  · simp [c, hl]
    have := gc_app (h := h) (L := [.lst ((s.1 ++ [(s.2, l)]).map prT)]) (d := .tup ((s.1 ++ [(s.2, l)]).map prT)) (by simp only [low_tup]; exact lows_prs _)
    simpa using this
  · simp [c]
    exact gc_app (by simp [lows_prs])
end Dn

set_option Elab.async false
set_option linter.all false
set_option maxRecDepth 100000
set_option maxHeartbeats 4000000
/-! the days of stretches, one by one -/
namespace Dn
open PySem L2
def daysL (a : List Pr) : List Int := a.flatMap fun p => rgI p.1 (p.2 + 1 - p.1).toNat
theorem daysL_mem {a : List Pr} {d : Int} : d ∈ daysL a ↔ cov a d := by
  unfold daysL cov
  rw [List.mem_flatMap]
  constructor
  · rintro ⟨p, m, h⟩
    have := mem_rgI.mp h
    exact ⟨p, m, by omega, by omega⟩
  · rintro ⟨p, m, h⟩
    exact ⟨p, m, mem_rgI.mpr ⟨by omega, by omega⟩⟩
theorem daysL_pw : ∀ {a : List Pr}, OkS a → (daysL a).Pairwise (· < ·)
  | [], _ => by simp [daysL]
  | p :: a, o => by
    have e : daysL (p :: a) = rgI p.1 (p.2 + 1 - p.1).toNat ++ daysL a := by simp [daysL]
    rw [e, List.pairwise_append]
    refine ⟨rgI_sorted _ _, daysL_pw o.tail, fun x mx y my => ?_⟩
    have hx := mem_rgI.mp mx
    obtain ⟨q, mq, hq⟩ := daysL_mem.mp my
    have := o.behind q mq
    have := o.ok p List.mem_cons_self
    omega
theorem daysL_days {a : List Pr} (o : OkS a) : Days (daysL a) := ⟨daysL_pw o, fun d m => by
  obtain ⟨p, mp, h⟩ := daysL_mem.mp m
  have := o.ok p mp
  omega⟩
/-- points -/
def pts (l : List Int) : List Pr := l.map fun d => (d, d)
theorem pts_cov {l : List Int} {d : Int} : cov (pts l) d ↔ d ∈ l := by
  unfold cov pts
  constructor
  · rintro ⟨p, m, h⟩
    obtain ⟨x, mx, rfl⟩ := List.mem_map.mp m
    dsimp only at h
    have : x = d := by omega
    rwa [← this]
  · intro m
    exact ⟨(d, d), List.mem_map.mpr ⟨d, m, rfl⟩, Int.le_refl _, Int.le_refl _⟩
theorem pts_bd {l : List Int} (b : ∀ d ∈ l, 0 ≤ d ∧ d ≤ 400) : Bd (pts l) := fun p m => by
  obtain ⟨x, mx, rfl⟩ := List.mem_map.mp m
  have := b x mx
  dsimp only
  omega
/-- merged points are the stretches of the days -/
theorem mg_pts {l : List Int} (b : ∀ d ∈ l, 0 ≤ d ∧ d ≤ 400) : mg (pts l) = runs (asc l) := by
  refine okS_uniq (mg_ok (pts_bd b)) (asc_days b).runs fun d => ?_
  rw [mg_cov (pts_bd b), pts_cov, ← (runs_inv (asc_sorted l)).mem d, mem_asc]
theorem cntI (a : List Pr) (o : OkS a) : (a.map fun p => p.2 - p.1 + 1).sum = ((daysL a).length : Int) := by
  induction a with
  | nil => simp [daysL]
  | cons p a ih =>
    have e : daysL (p :: a) = rgI p.1 (p.2 + 1 - p.1).toNat ++ daysL a := by simp [daysL]
    have := o.ok p List.mem_cons_self
    rw [List.map_cons, List.sum_cons, ih o.tail, e, List.length_append, rgI_len]
    omega
theorem e_count {a : List Pr} (o : OkS a) (h : IHp) : m_day_count [.tup (a.map prT)] h = .ok (.int ((daysL a).length : Int)) h := by
  have := o.sz
  have lc : ∀ (s0 : ISt) (h : IHp), 2 < s0.length → lcD (a.map prT, none) (.tup [.name 1, .name 2]) mYes (mOp gAdd (mOp gSub (mVar 2) (mVar 1)) (mC (.int 1))) s0 (a.map prT) [] h = .ok (a.map fun p => .int (p.2 - p.1 + 1)) h := fun s0 h hs =>
    lc_all (fun p => .int (p.2 - p.1 + 1)) (by simp) a (fun p _ => ⟨_, tg_pr, rfl, by
      have : 1 < s0.length := by omega
      simp [hs, this]⟩) (by omega)
  simp [m_day_count, e_need_str o, lc]
  rw [gSum_map, cntI a o]
  rfl
theorem e_is_number (d : D) (h : IHp) : m_is_number [d] h = .ok (.bl (match d with | .int i => decide (0 ≤ i) | _ => false)) h := by
  cases d <;> simp [m_is_number, e_is_integer, isIntD]
theorem e_need_days (x y : D) (h : IHp) : m_need_days [x, y] h = if (isDay x && isDay y && (match x, y with | .int i, .int j => decide (i ≤ j) | _, _ => false)) = true then .ok .non h else .ex "NoDay" h := by
  cases ex : isDay x with
  | false => simp [m_need_days, e_is_day, ex]
  | true =>
    cases ey : isDay y with
    | false => simp [m_need_days, e_is_day, ex, ey]
    | true =>
      obtain ⟨i, rfl, _⟩ := isDay_int ex
      obtain ⟨j, rfl, _⟩ := isDay_int ey
      by_cases c : i ≤ j
      · have : ¬ j < i := by omega
        simp [m_need_days, e_is_day, ex, ey, c, this]
      · have : j < i := by omega
        simp [m_need_days, e_is_day, ex, ey, c, this]
theorem e_lacking {a : List Pr} (o : OkS a) {f l : Int} (f0 : 0 ≤ f) (fl : f ≤ l) (l4 : l ≤ 400) (h : IHp) : m_lacking [.tup (a.map prT), .int f, .int l] h = .ok (.tup ((lack a f l).map prT)) h := by
  have nd : ∀ h : IHp, m_need_days [.int f, .int l] h = .ok .non h := fun h => by
    rw [e_need_days, isDay_of f0 (by omega), isDay_of (by omega) l4]
    simp [fl]
  simp [m_lacking, e_need_str o, nd, e_lack (b := a) (by have := o.sz; omega)]
/-- the parts of a span: what is lacking in it, what is had -/
theorem parts {a : List Pr} (o : OkS a) {f l : Int} (f0 : 0 ≤ f) (fl : f ≤ l) (l4 : l ≤ 400) {x y : List Pr} (ox : OkS x) (oy : OkS y) (hx : ∀ d, cov x d ↔ (f ≤ d ∧ d ≤ l) ∧ ¬ cov a d) (hy : ∀ d, cov y d ↔ cov a d ∧ (f ≤ d ∧ d ≤ l)) :
    ((daysL x).length : Int) + ((daysL y).length : Int) = l - f + 1 := by
  have nx : (daysL x).Nodup := (daysL_pw ox).imp fun {a b} h => by omega
  have ny : (daysL y).Nodup := (daysL_pw oy).imp fun {a b} h => by omega
  have nr : (rgI f (l + 1 - f).toNat).Nodup := (rgI_sorted _ _).imp fun {a b} h => by omega
  have nn : (daysL x ++ daysL y).Nodup := List.nodup_append.mpr ⟨nx, ny, fun p mp q mq e => by
    subst e
    exact ((hx p).mp (daysL_mem.mp mp)).2 ((hy p).mp (daysL_mem.mp mq)).1⟩
  have pm : (daysL x ++ daysL y).Perm (rgI f (l + 1 - f).toNat) := (List.perm_ext_iff_of_nodup nn nr).mpr fun d => by
    rw [List.mem_append, daysL_mem, daysL_mem, hx, hy, mem_rgI]
    constructor
    · rintro (h | h) <;> omega
    · intro h
      by_cases c : cov a d
      · exact .inr ⟨c, by omega⟩
      · exact .inl ⟨by omega, c⟩
  have := pm.length_eq
  rw [List.length_append, rgI_len] at this
  omega
end Dn

set_option Elab.async false
set_option linter.all false
set_option maxRecDepth 100000
set_option maxHeartbeats 4000000
namespace K02
open PySem PySem.Spec PyProof.Rows L2 LamX Dn
def cdW (c : Str) : Option Int := if c = "NoStretches" then some 0 else if c = "NoDay" then some 1 else if c = "NoNumber" then some 2 else  none
noncomputable def m_raw_days : MF := runD 4
 (sRet (mFr (mLc2N (mIt (mVar 0)) (.tup [(.name 2), (.name 3)]) mYes (mRng2 (mCons (mVar 2) (mCons (mOp gAdd (mVar 3) (mC (.int 1))) mNil))) (.name 1) mYes (mVar 1) [2, 3, 1] [1])))
noncomputable def m_moved : MF := runD 3
 (sSeq (sExpr (mCall 1 m_need_stretches (mCons (mVar 0) mNil)))
 (sSeq (sIf (mNot (mTru (mCall 3 m_is_between (mCons (mVar 1) (mCons (mNeg (mC (.int 400))) (mCons (mC (.int 400)) mNil))))))
  (sRaise "NoNumber")
  sNx)
 (sRet (mCall 1 m_merged (mCons (mLc (mIt (mCall 1 m_raw_days (mCons (mVar 0) mNil))) (.name 2) (mTru (mCall 1 m_is_day (mCons (mOp gAdd (mVar 2) (mVar 1)) mNil))) (mTup (mCons (mOp gAdd (mVar 2) (mVar 1)) (mCons (mOp gAdd (mVar 2) (mVar 1)) mNil))) [2]) mNil)))))
noncomputable def m_first_part : MF := runD 3
 (sSeq (sExpr (mCall 1 m_need_stretches (mCons (mVar 0) mNil)))
 (sSeq (sIf (mNot (mTru (mCall 1 m_is_number (mCons (mVar 1) mNil))))
  (sRaise "NoNumber")
  sNx)
 (sRet (mCall 1 m_merged (mCons (mLc (mIt (mSl (mCall 1 m_raw_days (mCons (mVar 0) mNil)) mNoPart (mPart (mVar 1)))) (.name 2) mYes (mTup (mCons (mVar 2) (mCons (mVar 2) mNil))) [2]) mNil)))))
noncomputable def m__law_hand : MF := mHand 24919
noncomputable def m__law_are_refused (P__law_are_refused : Addr) : MF := runG 6
 (sSeq (sSet 2 (mCall 2 m__law_any (mCons (mVar 0) (mCons (mLst (mCons (mC .non) (mCons (mC (.int 3)) (mCons (mC (.str "3-7")) (mCons (mLst (mCons (mTup (mCons (mC (.int 3)) (mCons (mC (.int 7)) mNil))) mNil)) (mCons (mTup (mCons (mTup (mCons (mC (.int 7)) (mCons (mC (.int 3)) mNil))) mNil)) (mCons (mTup (mCons (mTup (mCons (mC (.int 3)) (mCons (mC (.int 7)) mNil))) (mCons (mTup (mCons (mC (.int 8)) (mCons (mC (.int 9)) mNil))) mNil))) (mCons (mTup (mCons (mTup (mCons (mC (.int 3)) (mCons (mC (.int 401)) mNil))) mNil)) mNil)))))))) mNil))))
 (sSeq (sSet 3 (mCall 2 m__law_any (mCons (mVar 0) (mCons (mLst (mCons (mC .non) (mCons (mNeg (mC (.int 1))) (mCons (mC (.int 401)) (mCons (mC (.bl true)) (mCons (mC (.str "3")) (mCons (mTup (mCons (mC (.int 3)) mNil)) mNil))))))) mNil))))
 (sSeq (sSet 4 (mCall 2 m__law_any (mCons (mVar 0) (mCons (mLst (mCons (mC .non) (mCons (mNeg (mC (.int 401))) (mCons (mC (.int 401)) (mCons (mC (.bl true)) (mCons (mC (.str "3")) (mCons (mTup (mCons (mC (.int 3)) mNil)) (mCons (mOp gMul (mOp gPow (mC (.int 10)) (mC (.int 50))) (mOp gPow (mC (.int 10)) (mC (.int 49)))) mNil)))))))) mNil))))
 (sSeq (sSet 5 (mNew (mCons (mLam 0 P__law_are_refused (("_law_are_refused" : Str) ++ ".<locals>." ++ "<lambda>") cdW (mCall 3 m_lacking (mCons (mVar 2) (mCons (mVar 3) (mCons (mVar 3) mNil))))) mNil)))
 (sSeq (sExpr (mApp (mVar 5) (mLam 0 P__law_are_refused (("_law_are_refused" : Str) ++ ".<locals>." ++ "<lambda>") cdW (mCall 3 m_lacking (mCons (mVar 1) (mCons (mVar 3) (mCons (mC (.int 3)) mNil)))))))
 (sSeq (sExpr (mApp (mVar 5) (mLam 0 P__law_are_refused (("_law_are_refused" : Str) ++ ".<locals>." ++ "<lambda>") cdW (mCall 3 m_lacking (mCons (mVar 1) (mCons (mC (.int 3)) (mCons (mVar 3) mNil)))))))
 (sSeq (sExpr (mApp (mVar 5) (mLam 0 P__law_are_refused (("_law_are_refused" : Str) ++ ".<locals>." ++ "<lambda>") cdW (mCall 3 m_lacking (mCons (mVar 1) (mCons (mC (.int 4)) (mCons (mC (.int 3)) mNil)))))))
 (sSeq (sExpr (mApp (mVar 5) (mLam 0 P__law_are_refused (("_law_are_refused" : Str) ++ ".<locals>." ++ "<lambda>") cdW (mCall 2 m_moved (mCons (mVar 2) (mCons (mVar 4) mNil))))))
 (sSeq (sExpr (mApp (mVar 5) (mLam 0 P__law_are_refused (("_law_are_refused" : Str) ++ ".<locals>." ++ "<lambda>") cdW (mCall 2 m_moved (mCons (mVar 1) (mCons (mVar 4) mNil))))))
 (sSeq (sExpr (mApp (mVar 5) (mLam 0 P__law_are_refused (("_law_are_refused" : Str) ++ ".<locals>." ++ "<lambda>") cdW (mCall 2 m_first_part (mCons (mVar 2) (mCons (mNeg (mC (.int 1))) mNil))))))
 (sSeq (sExpr (mApp (mVar 5) (mLam 0 P__law_are_refused (("_law_are_refused" : Str) ++ ".<locals>." ++ "<lambda>") cdW (mCall 2 m_first_part (mCons (mVar 1) (mCons (mCall 2 m__law_any (mCons (mVar 0) (mCons (mLst (mCons (mC .non) (mCons (mNeg (mC (.int 1))) (mCons (mC (.bl true)) (mCons (mC (.str "3")) (mCons (mTup (mCons (mC (.int 3)) mNil)) mNil)))))) mNil))) mNil))))))
 (sRet (mOp gEq (mVar 5) (mLst (mCons (mC (.int 0)) (mCons (mC (.int 1)) (mCons (mC (.int 1)) (mCons (mC (.int 1)) (mCons (mC (.int 0)) (mCons (mC (.int 2)) (mCons (mC (.int 0)) (mCons (mC (.int 2)) mNil))))))))))))))))))))))
noncomputable def m_law (P__law_are_refused : Addr) : MF := runD 13
 (sSeq (sSet 1 (mCall 1 m__law_hand (mCons (mVar 0) mNil)))
 (sSeq (sKl [2, 3, 4, 5, 6, 7, 8, 9, 10, 11] (sFor (mRng1 (mCons (mC (.int 5)) mNil)) (.name 2)
  (sKl [2, 3, 4, 5, 6, 7, 8, 9, 10, 11] (sSeq (sSet 3 (mCall 1 m__law_days (mCons (mVar 1) mNil)))
 (sSeq (sSet 4 (mCall 1 m__law_runs (mCons (mVar 3) mNil)))
 (sSeq (sSet 5 (mOp gAdd (mOp gAdd (mVar 3) (mLst (mCons (mC (.int 0)) (mCons (mC (.int 400)) (mCons (mCall 2 m__law_draw (mCons (mVar 1) (mCons (mC (.int 401)) mNil))) mNil))))) (mLc (mIt (mVar 3)) (.name 12) mYes (mB1 gMin (mCons (mC (.int 400)) (mCons (mOp gAdd (mVar 12) (mC (.int 1))) mNil))) [12])))
 (sSeq (sSet 6 (mFr (mBN gSrtN (mCons (mLst (mCons (mCall 2 m__law_any (mCons (mVar 1) (mCons (mVar 5) mNil))) (mCons (mCall 2 m__law_any (mCons (mVar 1) (mCons (mVar 5) mNil))) mNil))) mNil))))
 (sSeq (sPar 7 8 (mCons (mOp gIx (mVar 6) (mC (.int 0))) (mCons (mOp gIx (mVar 6) (mC (.int 1))) mNil)))
 (sSeq (sSet 9 (mCall 3 m_lacking (mCons (mVar 4) (mCons (mVar 7) (mCons (mVar 8) mNil)))))
 (sSeq (sIf (mNot (mTru (mCall 2 m__law_is (mCons (mVar 9) (mCons (mCall 1 m__law_runs (mCons (mLc (mRng2 (mCons (mVar 7) (mCons (mOp gAdd (mVar 8) (mC (.int 1))) mNil))) (.name 12) (mB (mOp gNotIn (mVar 12) (mVar 3))) (mVar 12) [12]) mNil)) mNil)))))
  (sRet (mC (.bl false)))
  sNx)
 (sSeq (sIf (mB (mOp gNe (mOp gAdd (mCall 1 m_day_count (mCons (mVar 9) mNil)) (mCall 1 m_day_count (mCons (mCall 2 m_common_of (mCons (mVar 4) (mCons (mTup (mCons (mTup (mCons (mVar 7) (mCons (mVar 8) mNil))) mNil)) mNil))) mNil))) (mOp gAdd (mOp gSub (mVar 8) (mVar 7)) (mC (.int 1)))))
  (sRet (mC (.bl false)))
  sNx)
 (sSeq (sSet 10 (mCall 2 m__law_any (mCons (mVar 1) (mCons (mLst (mCons (mC (.int 0)) (mCons (mC (.int 1)) (mCons (mNeg (mC (.int 1))) (mCons (mC (.int 400)) (mCons (mNeg (mC (.int 400))) (mCons (mOp gSub (mCall 2 m__law_draw (mCons (mVar 1) (mCons (mC (.int 801)) mNil))) (mC (.int 400))) (mCons (mOp gSub (mCall 2 m__law_draw (mCons (mVar 1) (mCons (mC (.int 21)) mNil))) (mC (.int 10))) mNil)))))))) mNil))))
 (sSeq (sIf (mNot (mTru (mCall 2 m__law_is (mCons (mCall 2 m_moved (mCons (mVar 4) (mCons (mVar 10) mNil))) (mCons (mCall 1 m__law_runs (mCons (mLc (mIt (mVar 3)) (.name 12) (mB (mChain gLe gLe (mC (.int 0)) (mOp gAdd (mVar 12) (mVar 10)) (mC (.int 400)))) (mOp gAdd (mVar 12) (mVar 10)) [12]) mNil)) mNil)))))
  (sRet (mC (.bl false)))
  sNx)
 (sSeq (sSet 11 (mCall 2 m__law_any (mCons (mVar 1) (mCons (mLst (mCons (mC (.int 0)) (mCons (mC (.int 1)) (mCons (mB1 gLen (mCons (mVar 3) mNil)) (mCons (mOp gAdd (mB1 gLen (mCons (mVar 3) mNil)) (mC (.int 1))) (mCons (mOp gPow (mC (.int 10)) (mC (.int 30))) (mCons (mCall 2 m__law_draw (mCons (mVar 1) (mCons (mOp gAdd (mB1 gLen (mCons (mVar 3) mNil)) (mC (.int 1))) mNil))) mNil))))))) mNil))))
 (sIf (mOr (mNot (mTru (mCall 2 m__law_is (mCons (mCall 2 m_first_part (mCons (mVar 4) (mCons (mVar 11) mNil))) (mCons (mCall 1 m__law_runs (mCons (mSl (mVar 3) mNoPart (mPart (mVar 11))) mNil)) mNil))))) (mNot (mTru (mCall 2 (m__law_are_refused P__law_are_refused) (mCons (mVar 1) (mCons (mVar 4) mNil))))))
  (sRet (mC (.bl false)))
  sNx)))))))))))))))
 (sRet (mC (.bl true)))))
end K02

set_option Elab.async false
set_option linter.all false
set_option maxRecDepth 100000
set_option maxHeartbeats 4000000
namespace K02
open PySem PySem.Spec PyProof.Rows L2 LamX Dn
def topS (i : Nat) : Stmt := PySem.Challenge.pw_paperslapse_k02_whole_days_lacking_moved.main.body.getD i (.Pass ⟨0, 0, 0, 0⟩)
structure Tops (K : PySem.W.Frag) (mg : Str → Option Value) : Prop where
  b_abs : mg "abs" = none
  b_all : mg "all" = none
  b_bool : mg "bool" = none
  b_int : mg "int" = none
  b_isinstance : mg "isinstance" = none
  b_len : mg "len" = none
  b_list : mg "list" = none
  b_max : mg "max" = none
  b_min : mg "min" = none
  b_range : mg "range" = none
  b_repr : mg "repr" = none
  b_set : mg "set" = none
  b_sorted : mg "sorted" = none
  b_sum : mg "sum" = none
  b_tuple : mg "tuple" = none
  c_LAST_DAY : ∃ t, mg "LAST_DAY" = some (.int 400 t)
  e_NoDay : ErrC K mg "NoDay"
  e_NoNumber : ErrC K mg "NoNumber"
  e_NoStretches : ErrC K mg "NoStretches"
section
variable {P : Program} {w : World} {K : PySem.W.Frag} {mg : Str → Option Value} {base : Heap} {k : Nat} {f : Addr} {fd : FuncData}
abbrev s_is_integer : Stmt := topS 6
theorem sc_is_integer : FnScope ["thing"] ["thing"] (defScope s_is_integer) := ⟨rfl, rfl, rfl, by decide +kernel, rfl, by decide +kernel, by decide +kernel⟩
theorem ok_is_integer (F : Fun K "is_integer" "is_integer" s_is_integer f fd) (hm : mg "is_integer" = some (.ref f)) (b : L2.Binds K fd ["thing"] []) (T : Tops K mg) : DefAt false P w K mg base (k + 1) "is_integer" 1 m_is_integer :=
 ⟨f, fd, ["thing"], hm, F.kp, b, def_fn F sc_is_integer fun cdv A outer s H E hr O =>
 (dss_one (ds_ret (de_and (de_isi "int" (by decide) (by rfl) T.b_isinstance (by rfl) T.b_int boot_int (de_var 0) boot_isinstance) (de_one (de_not (de_isi "bool" (by decide) (by rfl) T.b_isinstance (by rfl) T.b_bool boot_bool (de_var 0) boot_isinstance))))))⟩
abbrev s_is_number : Stmt := topS 7
theorem sc_is_number : FnScope ["thing"] ["thing"] (defScope s_is_number) := ⟨rfl, rfl, rfl, by decide +kernel, rfl, by decide +kernel, by decide +kernel⟩
theorem ok_is_number (F : Fun K "is_number" "is_number" s_is_number f fd) (hm : mg "is_number" = some (.ref f)) (b : L2.Binds K fd ["thing"] []) (T : Tops K mg) (g_is_integer : DefAt false P w K mg base k "is_integer" 1 m_is_integer) : DefAt false P w K mg base (k + 1) "is_number" 1 m_is_number :=
 ⟨f, fd, ["thing"], hm, F.kp, b, def_fn F sc_is_number fun cdv A outer s H E hr O =>
 (dss_one (ds_ret (de_and (de_call O.gd g_is_integer.up hr (by rfl) (da_cons (de_var 0) da_nil)) (de_one (de_cmp od_ge (de_var 0) de_int)))))⟩
abbrev s_is_between : Stmt := topS 8
theorem sc_is_between : FnScope ["thing", "least", "most"] ["thing", "least", "most"] (defScope s_is_between) := ⟨rfl, rfl, rfl, by decide +kernel, rfl, by decide +kernel, by decide +kernel⟩
theorem ok_is_between (F : Fun K "is_between" "is_between" s_is_between f fd) (hm : mg "is_between" = some (.ref f)) (b : L2.Binds K fd ["thing", "least", "most"] []) (T : Tops K mg) (g_is_integer : DefAt false P w K mg base k "is_integer" 1 m_is_integer) : DefAt false P w K mg base (k + 1) "is_between" 3 m_is_between :=
 ⟨f, fd, ["thing", "least", "most"], hm, F.kp, b, def_fn F sc_is_between fun cdv A outer s H E hr O =>
 (dss_one (ds_ret (de_and (de_call O.gd g_is_integer.up hr (by rfl) (da_cons (de_var 0) da_nil)) (de_one (de_chain od_le od_le (de_var 1) (de_var 0) (de_var 2))))))⟩
abbrev s_is_tuple_of : Stmt := topS 9
theorem sc_is_tuple_of : FnScope ["thing", "many"] ["thing", "many"] (defScope s_is_tuple_of) := ⟨rfl, rfl, rfl, by decide +kernel, rfl, by decide +kernel, by decide +kernel⟩
theorem ok_is_tuple_of (F : Fun K "is_tuple_of" "is_tuple_of" s_is_tuple_of f fd) (hm : mg "is_tuple_of" = some (.ref f)) (b : L2.Binds K fd ["thing", "many"] []) (T : Tops K mg) : DefAt false P w K mg base (k + 1) "is_tuple_of" 2 m_is_tuple_of :=
 ⟨f, fd, ["thing", "many"], hm, F.kp, b, def_fn F sc_is_tuple_of fun cdv A outer s H E hr O =>
 (dss_one (ds_ret (de_and (de_isi "tuple" (by decide) (by rfl) T.b_isinstance (by rfl) T.b_tuple boot_tuple (de_var 0) boot_isinstance) (de_one (de_cmp (od_eq (hu64 hr)) (de_callB cd_len (by rfl) T.b_len boot_len (da_cons (de_var 0) da_nil)) (de_var 1))))))⟩
abbrev s_is_day : Stmt := topS 12
theorem sc_is_day : FnScope ["thing"] ["thing"] (defScope s_is_day) := ⟨rfl, rfl, rfl, by decide +kernel, rfl, by decide +kernel, by decide +kernel⟩
theorem ok_is_day (F : Fun K "is_day" "is_day" s_is_day f fd) (hm : mg "is_day" = some (.ref f)) (b : L2.Binds K fd ["thing"] []) (T : Tops K mg) (g_is_between : DefAt false P w K mg base k "is_between" 3 m_is_between) : DefAt false P w K mg base (k + 1) "is_day" 1 m_is_day :=
 ⟨f, fd, ["thing"], hm, F.kp, b, def_fn F sc_is_day fun cdv A outer s H E hr O =>
 (dss_one (ds_ret (de_call O.gd g_is_between.up hr (by rfl) (da_cons (de_var 0) (da_cons de_int (da_cons (de_cI (by rfl) T.c_LAST_DAY) da_nil))))))⟩
abbrev s_need_days : Stmt := topS 13
theorem sc_need_days : FnScope ["first", "last"] ["first", "last"] (defScope s_need_days) := ⟨rfl, rfl, rfl, by decide +kernel, rfl, by decide +kernel, by decide +kernel⟩
theorem ok_need_days (F : Fun K "need_days" "need_days" s_need_days f fd) (hm : mg "need_days" = some (.ref f)) (b : L2.Binds K fd ["first", "last"] []) (T : Tops K mg) (g_is_day : DefAt false P w K mg base k "is_day" 1 m_is_day) : DefAt false P w K mg base (k + 1) "need_days" 2 m_need_days :=
 ⟨f, fd, ["first", "last"], hm, F.kp, b, def_fn F sc_need_days fun cdv A outer s H E hr O =>
 (dss_one (ds_if (dw_or (dt_not (dt_tru (de_call O.gd g_is_day.up hr (by rfl) (da_cons (de_var 0) da_nil)))) (dw_or (dt_not (dt_tru (de_call O.gd g_is_day.up hr (by rfl) (da_cons (de_var 1) da_nil)))) (dw_or1 (dt_cmp od_lt (de_var 1) (de_var 0))))).dt
  (dss_one (ds_raise O.calm T.e_NoDay (by rfl)))
  dss_nil))⟩
abbrev s_is_stretch : Stmt := topS 14
theorem sc_is_stretch : FnScope ["thing"] ["thing"] (defScope s_is_stretch) := ⟨rfl, rfl, rfl, by decide +kernel, rfl, by decide +kernel, by decide +kernel⟩
theorem ok_is_stretch (F : Fun K "is_stretch" "is_stretch" s_is_stretch f fd) (hm : mg "is_stretch" = some (.ref f)) (b : L2.Binds K fd ["thing"] []) (T : Tops K mg) (g_is_tuple_of : DefAt false P w K mg base k "is_tuple_of" 2 m_is_tuple_of) (g_is_day : DefAt false P w K mg base k "is_day" 1 m_is_day) : DefAt false P w K mg base (k + 1) "is_stretch" 1 m_is_stretch :=
 ⟨f, fd, ["thing"], hm, F.kp, b, def_fn F sc_is_stretch fun cdv A outer s H E hr O =>
 (dss_one (ds_ret (de_and (de_call O.gd g_is_tuple_of.up hr (by rfl) (da_cons (de_var 0) (da_cons de_int da_nil))) (de_and (de_call O.gd g_is_day.up hr (by rfl) (da_cons (de_ix (de_var 0) de_int) da_nil)) (de_and (de_call O.gd g_is_day.up hr (by rfl) (da_cons (de_ix (de_var 0) de_int) da_nil)) (de_one (de_cmp od_le (de_ix (de_var 0) de_int) (de_ix (de_var 0) de_int))))))))⟩
abbrev s_is_stretches : Stmt := topS 15
theorem sc_is_stretches : FnScope ["thing", "at", "one"] ["thing"] (defScope s_is_stretches) := ⟨rfl, rfl, rfl, by decide +kernel, rfl, by decide +kernel, by decide +kernel⟩
theorem ok_is_stretches (F : Fun K "is_stretches" "is_stretches" s_is_stretches f fd) (hm : mg "is_stretches" = some (.ref f)) (b : L2.Binds K fd ["thing"] []) (T : Tops K mg) (g_is_stretch : DefAt false P w K mg base k "is_stretch" 1 m_is_stretch) : DefAt false P w K mg base (k + 1) "is_stretches" 1 m_is_stretches :=
 ⟨f, fd, ["thing"], hm, F.kp, b, def_fn F sc_is_stretches fun cdv A outer s H E hr O =>
 (dss_cons (ds_if (dw_or (dt_not (dt_tru (de_isi "tuple" (by decide) (by rfl) T.b_isinstance (by rfl) T.b_tuple boot_tuple (de_var 0) boot_isinstance))) (dw_or1 (dt_not (dt_tru (de_callB (cd_all O.calm) (by rfl) T.b_all boot_all (da_cons (de_lc  [("one", 2)] O.calm O.nd (di_seq (de_var 0)) (blkOk_by (by kernel_rfl)) (fun _ _ _ _ _ => (dg_name 2 O.nd)) (fun _ _ _ _ _ => dts_nil) (fun _ _ _ _ _ => (de_call O.gd g_is_stretch.up hr (by rfl) (da_cons (de_var 2) da_nil)))) da_nil)))))).dt
  (dss_one (ds_ret de_bl))
  dss_nil)
 (dss_one (ds_ret (de_callB (cd_all O.calm) (by rfl) T.b_all boot_all (da_cons (de_lc  [("at", 1)] O.calm O.nd (di_range2 (by rfl) T.b_range (da_cons de_int (da_cons (de_callB cd_len (by rfl) T.b_len boot_len (da_cons (de_var 0) da_nil)) da_nil))) (blkOk_by (by kernel_rfl)) (fun _ _ _ _ _ => (dg_name 1 O.nd)) (fun _ _ _ _ _ => dts_nil) (fun _ _ _ _ _ => (de_cmp od_lt (de_op od_add (de_ix (de_ix (de_var 0) (de_op od_sub (de_var 1) de_int)) de_int) de_int) (de_ix (de_ix (de_var 0) (de_var 1)) de_int)))) da_nil)))))⟩
abbrev s_need_stretches : Stmt := topS 16
theorem sc_need_stretches : FnScope ["thing"] ["thing"] (defScope s_need_stretches) := ⟨rfl, rfl, rfl, by decide +kernel, rfl, by decide +kernel, by decide +kernel⟩
theorem ok_need_stretches (F : Fun K "need_stretches" "need_stretches" s_need_stretches f fd) (hm : mg "need_stretches" = some (.ref f)) (b : L2.Binds K fd ["thing"] []) (T : Tops K mg) (g_is_stretches : DefAt false P w K mg base k "is_stretches" 1 m_is_stretches) : DefAt false P w K mg base (k + 1) "need_stretches" 1 m_need_stretches :=
 ⟨f, fd, ["thing"], hm, F.kp, b, def_fn F sc_need_stretches fun cdv A outer s H E hr O =>
 (dss_one (ds_if (dt_not (dt_tru (de_call O.gd g_is_stretches.up hr (by rfl) (da_cons (de_var 0) da_nil))))
  (dss_one (ds_raise O.calm T.e_NoStretches (by rfl)))
  dss_nil))⟩
abbrev s_merged : Stmt := topS 17
theorem sc_merged : FnScope ["pairs", "found", "first", "last"] ["pairs"] (defScope s_merged) := ⟨rfl, rfl, rfl, by decide +kernel, rfl, by decide +kernel, by decide +kernel⟩
theorem ok_merged (F : Fun K "merged" "merged" s_merged f fd) (hm : mg "merged" = some (.ref f)) (b : L2.Binds K fd ["pairs"] []) (T : Tops K mg) : DefAt false P w K mg base (k + 1) "merged" 1 m_merged :=
 DefAt.rf (m := runD 4
 (sSeq (sSet 1 (mNew mNil))
 (sSeq (sKl [2, 3] (sFor (mIt (mFr (mBN gSrtN (mCons (mVar 0) mNil)))) (.tup [(.name 2), (.name 3)])
  (sKl [2, 3] (sIf (mAnd (mTru (mVar 1)) (mB (mOp gLe (mVar 2) (mOp gAdd (mOp gIx (mOp gIx (mVar 1) (mNeg (mC (.int 1)))) (mC (.int 1))) (mC (.int 1))))))
  (sSt (mTup (mCons (mOp gIx (mOp gIx (mVar 1) (mNeg (mC (.int 1)))) (mC (.int 0))) (mCons (mB1 gMax (mCons (mOp gIx (mOp gIx (mVar 1) (mNeg (mC (.int 1)))) (mC (.int 1))) (mCons (mVar 3) mNil))) mNil))) (mVar 1) (mNeg (mC (.int 1))))
  (sExpr (mApp (mVar 1) (mTup (mCons (mVar 2) (mCons (mVar 3) mNil)))))))))
 (sRet (mB1 gTupOf (mCons (mVar 1) mNil)))))) ⟨f, fd, ["pairs"], hm, F.kp, b, def_fn F sc_merged fun cdv A outer s H E hr O =>
 (dss_cons (ds_set 1 O.nd (de_new da_nil))
 (dss_cons (ds_kl [2, 3] (ds_for O (di_seq (de_fr (dn_callB cn_srt (by rfl) T.b_sorted boot_sorted (da_cons (de_var 0) da_nil)))) (dg_tup O.calm (dgs_cons (dg_name 2 O.nd) (dgs_cons (dg_name 3 O.nd) dgs_nil)))
  (dss_kl [2, 3] (dss_one (ds_if (dw_and (dt_tru (de_var 1)) (dw_and1 (dt_cmp od_le (de_var 2) (de_op od_add (de_ix (de_ix (de_var 1) (de_neg de_int)) de_int) de_int)))).dt
  (dss_one (ds_st (de_tup (da_cons (de_ix (de_ix (de_var 1) (de_neg de_int)) de_int) (da_cons (de_callB (cd_max O.calm) (by rfl) T.b_max boot_max (da_cons (de_ix (de_ix (de_var 1) (de_neg de_int)) de_int) (da_cons (de_var 3) da_nil))) da_nil))) (de_var 1) (de_neg de_int)))
  (dss_one (ds_expr (de_app (de_var 1) (de_tup (da_cons (de_var 2) (da_cons (de_var 3) da_nil)))))))))))
 (dss_one (ds_ret (de_callTy cd_tup (by rfl) T.b_tuple boot_tuple (da_cons (de_var 1) da_nil))))))⟩ rf_gc
abbrev s_raw_days : Stmt := topS 18
theorem sc_raw_days : FnScope ["stretches", "day", "first", "last"] ["stretches"] (defScope s_raw_days) := ⟨rfl, rfl, rfl, by decide +kernel, rfl, by decide +kernel, by decide +kernel⟩
theorem ok_raw_days (F : Fun K "raw_days" "raw_days" s_raw_days f fd) (hm : mg "raw_days" = some (.ref f)) (b : L2.Binds K fd ["stretches"] []) (T : Tops K mg) : DefAt false P w K mg base (k + 1) "raw_days" 1 m_raw_days :=
 ⟨f, fd, ["stretches"], hm, F.kp, b, def_fn F sc_raw_days fun cdv A outer s H E hr O =>
 (dss_one (ds_ret (de_fr (dn_lc2 [("first", 2), ("last", 3), ("day", 1)] [1] O.calm O.nd (di_seq (de_var 0)) (blkOk_by (by kernel_rfl)) (fun _ _ _ _ _ => (dg_tup O.calm (dgs_cons (dg_name 2 O.nd) (dgs_cons (dg_name 3 O.nd) dgs_nil)))) (fun _ _ _ _ _ => dts_nil) (fun _ _ _ _ _ => (dis_range2 (by rfl) T.b_range (da_cons (de_var 2) (da_cons (de_op od_add (de_var 3) de_int) da_nil)))) (fun _ _ _ _ _ => (dg_name 1 O.nd)) (fun _ _ _ _ _ => dts_nil) (fun _ _ _ _ _ => (de_var 1))))))⟩
abbrev s_day_count : Stmt := topS 19
theorem sc_day_count : FnScope ["stretches", "first", "last"] ["stretches"] (defScope s_day_count) := ⟨rfl, rfl, rfl, by decide +kernel, rfl, by decide +kernel, by decide +kernel⟩
theorem ok_day_count (F : Fun K "day_count" "day_count" s_day_count f fd) (hm : mg "day_count" = some (.ref f)) (b : L2.Binds K fd ["stretches"] []) (T : Tops K mg) (g_need_stretches : DefAt false P w K mg base k "need_stretches" 1 m_need_stretches) : DefAt false P w K mg base (k + 1) "day_count" 1 m_day_count :=
 ⟨f, fd, ["stretches"], hm, F.kp, b, def_fn F sc_day_count fun cdv A outer s H E hr O =>
 (dss_cons (ds_expr (de_call O.gd g_need_stretches.up hr (by rfl) (da_cons (de_var 0) da_nil)))
 (dss_one (ds_ret (de_callB (cd_sum O.calm) (by rfl) T.b_sum boot_sum (da_cons (de_lc  [("first", 1), ("last", 2)] O.calm O.nd (di_seq (de_var 0)) (blkOk_by (by kernel_rfl)) (fun _ _ _ _ _ => (dg_tup O.calm (dgs_cons (dg_name 1 O.nd) (dgs_cons (dg_name 2 O.nd) dgs_nil)))) (fun _ _ _ _ _ => dts_nil) (fun _ _ _ _ _ => (de_op od_add (de_op od_sub (de_var 2) (de_var 1)) de_int))) da_nil)))))⟩
abbrev s_common_of : Stmt := topS 20
theorem sc_common_of : FnScope ["one", "other", "found", "first", "last", "begin", "end"] ["one", "other"] (defScope s_common_of) := ⟨rfl, rfl, rfl, by decide +kernel, rfl, by decide +kernel, by decide +kernel⟩
theorem ok_common_of (F : Fun K "common_of" "common_of" s_common_of f fd) (hm : mg "common_of" = some (.ref f)) (b : L2.Binds K fd ["one", "other"] []) (T : Tops K mg) (g_need_stretches : DefAt false P w K mg base k "need_stretches" 1 m_need_stretches) (g_merged : DefAt false P w K mg base k "merged" 1 m_merged) : DefAt false P w K mg base (k + 1) "common_of" 2 m_common_of :=
 DefAt.rf (m := runD 7
 (sSeq (sExpr (mCall 1 m_need_stretches (mCons (mVar 0) mNil)))
 (sSeq (sExpr (mCall 1 m_need_stretches (mCons (mVar 1) mNil)))
 (sSeq (sSet 2 (mNew mNil))
 (sSeq (sKl [3, 4, 5, 6] (sFor (mIt (mVar 0)) (.tup [(.name 3), (.name 4)])
  (sKl [3, 4, 5, 6] (sKl [5, 6] (sFor (mIt (mVar 1)) (.tup [(.name 5), (.name 6)])
  (sKl [5, 6] (sIf (mB (mOp gLe (mB1 gMax (mCons (mVar 3) (mCons (mVar 5) mNil))) (mB1 gMin (mCons (mVar 4) (mCons (mVar 6) mNil)))))
  (sExpr (mApp (mVar 2) (mTup (mCons (mB1 gMax (mCons (mVar 3) (mCons (mVar 5) mNil))) (mCons (mB1 gMin (mCons (mVar 4) (mCons (mVar 6) mNil))) mNil)))))
  sNx)))))))
 (sRet (mCall 1 m_merged (mCons (mVar 2) mNil)))))))) ⟨f, fd, ["one", "other"], hm, F.kp, b, def_fn F sc_common_of fun cdv A outer s H E hr O =>
 (dss_cons (ds_expr (de_call O.gd g_need_stretches.up hr (by rfl) (da_cons (de_var 0) da_nil)))
 (dss_cons (ds_expr (de_call O.gd g_need_stretches.up hr (by rfl) (da_cons (de_var 1) da_nil)))
 (dss_cons (ds_set 2 O.nd (de_new da_nil))
 (dss_cons (ds_kl [3, 4, 5, 6] (ds_for O (di_seq (de_var 0)) (dg_tup O.calm (dgs_cons (dg_name 3 O.nd) (dgs_cons (dg_name 4 O.nd) dgs_nil)))
  (dss_kl [3, 4, 5, 6] (dss_one (ds_kl [5, 6] (ds_for O (di_seq (de_var 1)) (dg_tup O.calm (dgs_cons (dg_name 5 O.nd) (dgs_cons (dg_name 6 O.nd) dgs_nil)))
  (dss_kl [5, 6] (dss_one (ds_if (dt_cmp od_le (de_callB (cd_max O.calm) (by rfl) T.b_max boot_max (da_cons (de_var 3) (da_cons (de_var 5) da_nil))) (de_callB (cd_min O.calm) (by rfl) T.b_min boot_min (da_cons (de_var 4) (da_cons (de_var 6) da_nil))))
  (dss_one (ds_expr (de_app (de_var 2) (de_tup (da_cons (de_callB (cd_max O.calm) (by rfl) T.b_max boot_max (da_cons (de_var 3) (da_cons (de_var 5) da_nil))) (da_cons (de_callB (cd_min O.calm) (by rfl) T.b_min boot_min (da_cons (de_var 4) (da_cons (de_var 6) da_nil))) da_nil))))))
  dss_nil)))))))))
 (dss_one (ds_ret (de_call O.gd g_merged.up hr (by rfl) (da_cons (de_var 2) da_nil))))))))⟩ rf_gc
abbrev s_raw_lacking : Stmt := topS 21
theorem sc_raw_lacking : FnScope ["stretches", "first", "last", "found", "at", "begin", "end"] ["stretches", "first", "last"] (defScope s_raw_lacking) := ⟨rfl, rfl, rfl, by decide +kernel, rfl, by decide +kernel, by decide +kernel⟩
theorem ok_raw_lacking (F : Fun K "raw_lacking" "raw_lacking" s_raw_lacking f fd) (hm : mg "raw_lacking" = some (.ref f)) (b : L2.Binds K fd ["stretches", "first", "last"] []) (T : Tops K mg) : DefAt false P w K mg base (k + 1) "raw_lacking" 3 m_raw_lacking :=
 DefAt.rf (m := runD 7
 (sSeq (sSet 3 (mNew mNil))
 (sSeq (sSet 4 (mVar 1))
 (sSeq (sKl [5, 6] (sFor (mIt (mVar 0)) (.tup [(.name 5), (.name 6)])
  (sKl [5, 6] (sIf (mAnd (mB (mOp gGe (mVar 6) (mVar 4))) (mB (mOp gLe (mVar 5) (mVar 2))))
  (sSeq (sIf (mB (mOp gGt (mVar 5) (mVar 4)))
  (sExpr (mApp (mVar 3) (mTup (mCons (mVar 4) (mCons (mOp gSub (mVar 5) (mC (.int 1))) mNil)))))
  sNx)
 (sSet 4 (mOp gAdd (mVar 6) (mC (.int 1)))))
  sNx))))
 (sSeq (sIf (mB (mOp gLe (mVar 4) (mVar 2)))
  (sExpr (mApp (mVar 3) (mTup (mCons (mVar 4) (mCons (mVar 2) mNil)))))
  sNx)
 (sRet (mB1 gTupOf (mCons (mVar 3) mNil)))))))) ⟨f, fd, ["stretches", "first", "last"], hm, F.kp, b, def_fn F sc_raw_lacking fun cdv A outer s H E hr O =>
 (dss_cons (ds_set 3 O.nd (de_new da_nil))
 (dss_cons (ds_set 4 O.nd (de_var 1))
 (dss_cons (ds_kl [5, 6] (ds_for O (di_seq (de_var 0)) (dg_tup O.calm (dgs_cons (dg_name 5 O.nd) (dgs_cons (dg_name 6 O.nd) dgs_nil)))
  (dss_kl [5, 6] (dss_one (ds_if (dw_and (dt_cmp od_ge (de_var 6) (de_var 4)) (dw_and1 (dt_cmp od_le (de_var 5) (de_var 2)))).dt
  (dss_cons (ds_if (dt_cmp od_gt (de_var 5) (de_var 4))
  (dss_one (ds_expr (de_app (de_var 3) (de_tup (da_cons (de_var 4) (da_cons (de_op od_sub (de_var 5) de_int) da_nil))))))
  dss_nil)
 (dss_one (ds_set 4 O.nd (de_op od_add (de_var 6) de_int))))
  dss_nil)))))
 (dss_cons (ds_if (dt_cmp od_le (de_var 4) (de_var 2))
  (dss_one (ds_expr (de_app (de_var 3) (de_tup (da_cons (de_var 4) (da_cons (de_var 2) da_nil))))))
  dss_nil)
 (dss_one (ds_ret (de_callTy cd_tup (by rfl) T.b_tuple boot_tuple (da_cons (de_var 3) da_nil))))))))⟩ rf_gc
abbrev s_lacking : Stmt := topS 22
theorem sc_lacking : FnScope ["stretches", "first", "last"] ["stretches", "first", "last"] (defScope s_lacking) := ⟨rfl, rfl, rfl, by decide +kernel, rfl, by decide +kernel, by decide +kernel⟩
theorem ok_lacking (F : Fun K "lacking" "lacking" s_lacking f fd) (hm : mg "lacking" = some (.ref f)) (b : L2.Binds K fd ["stretches", "first", "last"] []) (T : Tops K mg) (g_need_stretches : DefAt false P w K mg base k "need_stretches" 1 m_need_stretches) (g_need_days : DefAt false P w K mg base k "need_days" 2 m_need_days) (g_raw_lacking : DefAt false P w K mg base k "raw_lacking" 3 m_raw_lacking) : DefAt false P w K mg base (k + 1) "lacking" 3 m_lacking :=
 ⟨f, fd, ["stretches", "first", "last"], hm, F.kp, b, def_fn F sc_lacking fun cdv A outer s H E hr O =>
 (dss_cons (ds_expr (de_call O.gd g_need_stretches.up hr (by rfl) (da_cons (de_var 0) da_nil)))
 (dss_cons (ds_expr (de_call O.gd g_need_days.up hr (by rfl) (da_cons (de_var 1) (da_cons (de_var 2) da_nil))))
 (dss_one (ds_ret (de_call O.gd g_raw_lacking.up hr (by rfl) (da_cons (de_var 0) (da_cons (de_var 1) (da_cons (de_var 2) da_nil))))))))⟩
abbrev s_moved : Stmt := topS 23
theorem sc_moved : FnScope ["stretches", "by", "day"] ["stretches", "by"] (defScope s_moved) := ⟨rfl, rfl, rfl, by decide +kernel, rfl, by decide +kernel, by decide +kernel⟩
theorem ok_moved (F : Fun K "moved" "moved" s_moved f fd) (hm : mg "moved" = some (.ref f)) (b : L2.Binds K fd ["stretches", "by"] []) (T : Tops K mg) (g_need_stretches : DefAt false P w K mg base k "need_stretches" 1 m_need_stretches) (g_is_between : DefAt false P w K mg base k "is_between" 3 m_is_between) (g_merged : DefAt false P w K mg base k "merged" 1 m_merged) (g_raw_days : DefAt false P w K mg base k "raw_days" 1 m_raw_days) (g_is_day : DefAt false P w K mg base k "is_day" 1 m_is_day) : DefAt false P w K mg base (k + 1) "moved" 2 m_moved :=
 ⟨f, fd, ["stretches", "by"], hm, F.kp, b, def_fn F sc_moved fun cdv A outer s H E hr O =>
 (dss_cons (ds_expr (de_call O.gd g_need_stretches.up hr (by rfl) (da_cons (de_var 0) da_nil)))
 (dss_cons (ds_if (dt_not (dt_tru (de_call O.gd g_is_between.up hr (by rfl) (da_cons (de_var 1) (da_cons (de_neg (de_cI (by rfl) T.c_LAST_DAY)) (da_cons (de_cI (by rfl) T.c_LAST_DAY) da_nil))))))
  (dss_one (ds_raise O.calm T.e_NoNumber (by rfl)))
  dss_nil)
 (dss_one (ds_ret (de_call O.gd g_merged.up hr (by rfl) (da_cons (de_lc  [("day", 2)] O.calm O.nd (di_seq (de_call O.gd g_raw_days.up hr (by rfl) (da_cons (de_var 0) da_nil))) (blkOk_by (by kernel_rfl)) (fun _ _ _ _ _ => (dg_name 2 O.nd)) (fun _ _ _ _ _ => (dts_one (dt_tru (de_call O.gd g_is_day.up hr (by rfl) (da_cons (de_op od_add (de_var 2) (de_var 1)) da_nil))))) (fun _ _ _ _ _ => (de_tup (da_cons (de_op od_add (de_var 2) (de_var 1)) (da_cons (de_op od_add (de_var 2) (de_var 1)) da_nil))))) da_nil))))))⟩
abbrev s_first_part : Stmt := topS 24
theorem sc_first_part : FnScope ["stretches", "many", "day"] ["stretches", "many"] (defScope s_first_part) := ⟨rfl, rfl, rfl, by decide +kernel, rfl, by decide +kernel, by decide +kernel⟩
theorem ok_first_part (F : Fun K "first_part" "first_part" s_first_part f fd) (hm : mg "first_part" = some (.ref f)) (b : L2.Binds K fd ["stretches", "many"] []) (T : Tops K mg) (g_need_stretches : DefAt false P w K mg base k "need_stretches" 1 m_need_stretches) (g_is_number : DefAt false P w K mg base k "is_number" 1 m_is_number) (g_merged : DefAt false P w K mg base k "merged" 1 m_merged) (g_raw_days : DefAt false P w K mg base k "raw_days" 1 m_raw_days) : DefAt false P w K mg base (k + 1) "first_part" 2 m_first_part :=
 ⟨f, fd, ["stretches", "many"], hm, F.kp, b, def_fn F sc_first_part fun cdv A outer s H E hr O =>
 (dss_cons (ds_expr (de_call O.gd g_need_stretches.up hr (by rfl) (da_cons (de_var 0) da_nil)))
 (dss_cons (ds_if (dt_not (dt_tru (de_call O.gd g_is_number.up hr (by rfl) (da_cons (de_var 1) da_nil))))
  (dss_one (ds_raise O.calm T.e_NoNumber (by rfl)))
  dss_nil)
 (dss_one (ds_ret (de_call O.gd g_merged.up hr (by rfl) (da_cons (de_lc  [("day", 2)] O.calm O.nd (di_seq (de_slice (de_call O.gd g_raw_days.up hr (by rfl) (da_cons (de_var 0) da_nil)) do_none (do_some (de_var 1)))) (blkOk_by (by kernel_rfl)) (fun _ _ _ _ _ => (dg_name 2 O.nd)) (fun _ _ _ _ _ => dts_nil) (fun _ _ _ _ _ => (de_tup (da_cons (de_var 2) (da_cons (de_var 2) da_nil))))) da_nil))))))⟩
abbrev s__law_hand : Stmt := topS 26
theorem sc__law_hand : FnScope ["script", "cells", "cell"] ["script"] (defScope s__law_hand) := ⟨rfl, rfl, rfl, by decide +kernel, rfl, by decide +kernel, by decide +kernel⟩
theorem ok__law_hand (F : Fun K "_law_hand" "_law_hand" s__law_hand f fd) (hm : mg "_law_hand" = some (.ref f)) (b : L2.Binds K fd ["script"] []) (T : Tops K mg) : DefAt false P w K mg base (k + 1) "_law_hand" 1 m__law_hand :=
 ⟨f, fd, ["script"], hm, F.kp, b, def_fn F sc__law_hand fun cdv A outer s H E hr O =>
 (dss_cons (ds_setLc 1 [("cell", 2)] O.calm O.nd (di_seq (de_slice (de_var 0) do_none (do_some de_int))) (blkOk_by (by kernel_rfl)) (fun _ _ _ _ _ => (dg_name 2 O.nd)) (fun _ _ _ _ _ => dts_nil) (fun _ _ _ _ _ => (de_op od_mod (de_callTy cd_int (by rfl) T.b_int boot_int (da_cons (de_callB cd_abs (by rfl) T.b_abs boot_abs (da_cons (de_callTy cd_int (by rfl) T.b_int boot_int (da_cons (de_var 2) da_nil)) da_nil)) da_nil)) (de_op od_pow de_int de_int))) (by exact sw_true rfl rfl rfl (by decide +kernel)))
 (dss_one (ds_ret (de_new (da_cons (de_var 1) (da_cons de_int (da_cons de_int (da_cons (de_op od_add de_int (de_op od_mul de_int (de_callB cd_len (by rfl) T.b_len boot_len (da_cons (de_var 1) da_nil)))) (da_cons de_int da_nil)))))))))⟩
abbrev s__law_draw : Stmt := topS 27
theorem sc__law_draw : FnScope ["hand", "many", "cell", "digit", "number"] ["hand", "many"] (defScope s__law_draw) := ⟨rfl, rfl, rfl, by decide +kernel, rfl, by decide +kernel, by decide +kernel⟩
theorem ok__law_draw (F : Fun K "_law_draw" "_law_draw" s__law_draw f fd) (hm : mg "_law_draw" = some (.ref f)) (b : L2.Binds K fd ["hand", "many"] []) (T : Tops K mg) : DefAt false P w K mg base (k + 1) "_law_draw" 2 m__law_draw :=
 ⟨f, fd, ["hand", "many"], hm, F.kp, b, def_fn F sc__law_draw fun cdv A outer s H E hr O =>
 (dss_cons (ds_if (dw_and (dt_cmp (od_eq (hu64 hr)) (de_ix (de_var 0) de_int) de_int) (dw_and1 (dt_cmp od_lt (de_ix (de_var 0) de_int) (de_callB cd_len (by rfl) T.b_len boot_len (da_cons (de_ix (de_var 0) de_int) da_nil))))).dt
  (dss_cons (ds_set 2 O.nd (de_ix (de_ix (de_var 0) de_int) (de_ix (de_var 0) de_int)))
 (dss_cons (ds_st (de_op od_add (de_ix (de_var 0) de_int) de_int) (de_var 0) de_int)
 (dss_cons (ds_st (de_op od_mod (de_callTy cd_int (by rfl) T.b_int boot_int (da_cons (de_op od_add (de_op od_add (de_op od_mul (de_ix (de_var 0) de_int) de_int) (de_op od_mul (de_var 2) de_int)) de_int) da_nil)) de_int) (de_var 0) de_int)
 (dss_one (ds_if (dt_cmp od_ge (de_var 2) (de_op od_pow de_int de_int))
  (dss_one (ds_st (de_var 2) (de_var 0) de_int))
  dss_nil)))))
  dss_nil)
 (dss_cons (ds_if (dt_cmp od_gt (de_ix (de_var 0) de_int) de_int)
  (dss_cons (ds_set 3 O.nd (de_op od_mod (de_callTy cd_int (by rfl) T.b_int boot_int (da_cons (de_ix (de_var 0) de_int) da_nil)) (de_var 1)))
 (dss_cons (ds_st (de_op od_div (de_ix (de_var 0) de_int) (de_var 1)) (de_var 0) de_int)
 (dss_one (ds_ret (de_var 3)))))
  dss_nil)
 (dss_cons (ds_st (de_op od_add (de_ix (de_var 0) de_int) de_int) (de_var 0) de_int)
 (dss_cons (ds_set 4 O.nd (de_op od_mod (de_callTy cd_int (by rfl) T.b_int boot_int (da_cons (de_op od_mul (de_callTy cd_int (by rfl) T.b_int boot_int (da_cons (de_op od_add (de_ix (de_var 0) de_int) (de_op od_mul de_int (de_ix (de_var 0) de_int))) da_nil)) de_int) da_nil)) de_int))
 (dss_cons (ds_set 4 O.nd (de_op od_mod (de_callTy cd_int (by rfl) T.b_int boot_int (da_cons (de_op od_mul (de_var 4) (de_op od_add (de_op od_div (de_var 4) de_int) de_int)) da_nil)) de_int))
 (dss_cons (ds_set 4 O.nd (de_op od_mod (de_callTy cd_int (by rfl) T.b_int boot_int (da_cons (de_op od_mul (de_var 4) (de_op od_add (de_op od_div (de_var 4) de_int) de_int)) da_nil)) de_int))
 (dss_one (ds_ret (de_op od_mod (de_callTy cd_int (by rfl) T.b_int boot_int (da_cons (de_op od_div (de_var 4) de_int) da_nil)) (de_var 1))))))))))⟩
abbrev s__law_any : Stmt := topS 28
theorem sc__law_any : FnScope ["hand", "some"] ["hand", "some"] (defScope s__law_any) := ⟨rfl, rfl, rfl, by decide +kernel, rfl, by decide +kernel, by decide +kernel⟩
theorem ok__law_any (F : Fun K "_law_any" "_law_any" s__law_any f fd) (hm : mg "_law_any" = some (.ref f)) (b : L2.Binds K fd ["hand", "some"] []) (T : Tops K mg) (g__law_draw : DefAt false P w K mg base k "_law_draw" 2 m__law_draw) : DefAt false P w K mg base (k + 1) "_law_any" 2 m__law_any :=
 ⟨f, fd, ["hand", "some"], hm, F.kp, b, def_fn F sc__law_any fun cdv A outer s H E hr O =>
 (dss_one (ds_ret (de_ix (de_var 1) (de_call O.gd g__law_draw.up hr (by rfl) (da_cons (de_var 0) (da_cons (de_callB cd_len (by rfl) T.b_len boot_len (da_cons (de_var 1) da_nil)) da_nil))))))⟩
abbrev s__law_is : Stmt := topS 29
theorem sc__law_is : FnScope ["told", "due"] ["told", "due"] (defScope s__law_is) := ⟨rfl, rfl, rfl, by decide +kernel, rfl, by decide +kernel, by decide +kernel⟩
theorem ok__law_is (F : Fun K "_law_is" "_law_is" s__law_is f fd) (hm : mg "_law_is" = some (.ref f)) (b : L2.Binds K fd ["told", "due"] []) (T : Tops K mg) : DefAt true P w K mg base (k + 1) "_law_is" 2 m__law_is :=
 ⟨f, fd, ["told", "due"], hm, F.kp, b, def_fn F sc__law_is fun cdv A outer s H E hr O =>
 (dss_one (ds_ret (de_cmp (od_eq (hu64 hr)) (de_callB (cd_repr (O.gd rfl) (hu64 hr)) (by rfl) T.b_repr boot_repr (da_cons (de_var 0) da_nil)) (de_callB (cd_repr (O.gd rfl) (hu64 hr)) (by rfl) T.b_repr boot_repr (da_cons (de_var 1) da_nil)))))⟩
abbrev s__law_runs : Stmt := topS 30
theorem sc__law_runs : FnScope ["days", "found", "day"] ["days"] (defScope s__law_runs) := ⟨rfl, rfl, rfl, by decide +kernel, rfl, by decide +kernel, by decide +kernel⟩
theorem ok__law_runs (F : Fun K "_law_runs" "_law_runs" s__law_runs f fd) (hm : mg "_law_runs" = some (.ref f)) (b : L2.Binds K fd ["days"] []) (T : Tops K mg) : DefAt false P w K mg base (k + 1) "_law_runs" 1 m__law_runs :=
 DefAt.rf (m := runD 3
 (sSeq (sSet 1 (mNew mNil))
 (sSeq (sKl [2] (sFor (mIt (mFr (mSrtSetN (mVar 0)))) (.name 2)
  (sKl [2] (sIf (mAnd (mB (mOp gNe (mVar 1) (mLst mNil))) (mB (mOp gEq (mOp gIx (mOp gIx (mVar 1) (mNeg (mC (.int 1)))) (mC (.int 1))) (mOp gSub (mVar 2) (mC (.int 1))))))
  (sSt (mTup (mCons (mOp gIx (mOp gIx (mVar 1) (mNeg (mC (.int 1)))) (mC (.int 0))) (mCons (mVar 2) mNil))) (mVar 1) (mNeg (mC (.int 1))))
  (sExpr (mApp (mVar 1) (mTup (mCons (mVar 2) (mCons (mVar 2) mNil)))))))))
 (sRet (mB1 gTupOf (mCons (mVar 1) mNil)))))) ⟨f, fd, ["days"], hm, F.kp, b, def_fn F sc__law_runs fun cdv A outer s H E hr O =>
 (dss_cons (ds_set 1 O.nd (de_new da_nil))
 (dss_cons (ds_kl [2] (ds_for O (di_seq (de_fr (dn_srtSet O.calm (by rfl) T.b_sorted (by rfl) T.b_set (de_var 0) boot_sorted boot_set))) (dg_name 2 O.nd)
  (dss_kl [2] (dss_one (ds_if (dw_and (dt_cmp (od_ne (hu64 hr)) (de_var 1) (de_lst da_nil)) (dw_and1 (dt_cmp (od_eq (hu64 hr)) (de_ix (de_ix (de_var 1) (de_neg de_int)) de_int) (de_op od_sub (de_var 2) de_int)))).dt
  (dss_one (ds_st (de_tup (da_cons (de_ix (de_ix (de_var 1) (de_neg de_int)) de_int) (da_cons (de_var 2) da_nil))) (de_var 1) (de_neg de_int)))
  (dss_one (ds_expr (de_app (de_var 1) (de_tup (da_cons (de_var 2) (da_cons (de_var 2) da_nil)))))))))))
 (dss_one (ds_ret (de_callTy cd_tup (by rfl) T.b_tuple boot_tuple (da_cons (de_var 1) da_nil))))))⟩ rf_gc
abbrev s__law_all : Stmt := topS 31
theorem sc__law_all : FnScope ["stretches", "found", "first", "last"] ["stretches"] (defScope s__law_all) := ⟨rfl, rfl, rfl, by decide +kernel, rfl, by decide +kernel, by decide +kernel⟩
theorem ok__law_all (F : Fun K "_law_all" "_law_all" s__law_all f fd) (hm : mg "_law_all" = some (.ref f)) (b : L2.Binds K fd ["stretches"] []) (T : Tops K mg) : DefAt false P w K mg base (k + 1) "_law_all" 1 m__law_all :=
 ⟨f, fd, ["stretches"], hm, F.kp, b, def_fn F sc__law_all fun cdv A outer s H E hr O =>
 (dss_cons (ds_set 1 O.nd (de_lst da_nil))
 (dss_cons (ds_kl [2, 3] (ds_for O (di_seq (de_var 0)) (dg_tup O.calm (dgs_cons (dg_name 2 O.nd) (dgs_cons (dg_name 3 O.nd) dgs_nil)))
  (dss_kl [2, 3] (dss_one (ds_set 1 O.nd (de_op od_add (de_var 1) (de_lstR O.calm (by rfl) T.b_list (dr_2 (by rfl) T.b_range (de_var 2) (de_op od_add (de_var 3) de_int)))))))))
 (dss_one (ds_ret (de_var 1)))))⟩
abbrev s__law_days : Stmt := topS 32
theorem sc__law_days : FnScope ["hand", "kind", "low", "wide", "found", "one", "turn"] ["hand"] (defScope s__law_days) := ⟨rfl, rfl, rfl, by decide +kernel, rfl, by decide +kernel, by decide +kernel⟩
theorem ok__law_days (F : Fun K "_law_days" "_law_days" s__law_days f fd) (hm : mg "_law_days" = some (.ref f)) (b : L2.Binds K fd ["hand"] []) (T : Tops K mg) (g__law_draw : DefAt false P w K mg base k "_law_draw" 2 m__law_draw) (g__law_any : DefAt false P w K mg base k "_law_any" 2 m__law_any) (g__law_all : DefAt false P w K mg base k "_law_all" 1 m__law_all) : DefAt false P w K mg base (k + 1) "_law_days" 1 m__law_days :=
 ⟨f, fd, ["hand"], hm, F.kp, b, def_fn F sc__law_days fun cdv A outer s H E hr O =>
 (dss_cons (ds_set 1 O.nd (de_call O.gd g__law_draw.up hr (by rfl) (da_cons (de_var 0) (da_cons de_int da_nil))))
 (dss_cons (ds_if (dt_cmp (od_eq (hu64 hr)) (de_var 1) de_int)
  (dss_one (ds_ret (de_lst da_nil)))
  dss_nil)
 (dss_cons (ds_if (dt_cmp (od_eq (hu64 hr)) (de_var 1) de_int)
  (dss_one (ds_ret (de_if (dt_cmp (od_eq (hu64 hr)) (de_call O.gd g__law_draw.up hr (by rfl) (da_cons (de_var 0) (da_cons de_int da_nil))) de_int) (de_lstR O.calm (by rfl) T.b_list (dr_1 (by rfl) T.b_range de_int)) (de_fr (dn_lstR3 O.calm (by rfl) T.b_list (by rfl) T.b_range (da_cons (de_call O.gd g__law_draw.up hr (by rfl) (da_cons (de_var 0) (da_cons de_int da_nil))) (da_cons de_int (da_cons de_int da_nil))))))))
  dss_nil)
 (dss_cons (ds_asg (de_tup (da_cons (de_call O.gd g__law_any.up hr (by rfl) (da_cons (de_var 0) (da_cons (de_lst (da_cons de_int (da_cons de_int (da_cons de_int (da_cons de_int da_nil))))) da_nil))) (da_cons (de_call O.gd g__law_any.up hr (by rfl) (da_cons (de_var 0) (da_cons (de_lst (da_cons de_int (da_cons de_int (da_cons de_int da_nil)))) da_nil))) da_nil))) (dg_tup O.calm (dgs_cons (dg_name 2 O.nd) (dgs_cons (dg_name 3 O.nd) dgs_nil))))
 (dss_cons (ds_setLc 4 [("turn", 6)] O.calm O.nd (di_range1 (by rfl) T.b_range (da_cons (de_op od_add de_int (de_call O.gd g__law_draw.up hr (by rfl) (da_cons (de_var 0) (da_cons de_int da_nil)))) da_nil)) (blkOk_by (by kernel_rfl)) (fun _ _ _ _ _ => (dg_name 6 O.nd)) (fun _ _ _ _ _ => dts_nil) (fun _ _ _ _ _ => (de_op od_add (de_var 2) (de_call O.gd g__law_draw.up hr (by rfl) (da_cons (de_var 0) (da_cons (de_var 3) da_nil))))) (by exact sw_true rfl rfl rfl (by decide +kernel)))
 (dss_cons (ds_if (dt_cmp od_gt (de_var 1) de_int)
  (dss_one (ds_set 4 O.nd (de_op od_add (de_var 4) (de_call O.gd g__law_all.up hr (by rfl) (da_cons (de_lc  [("one", 5)] O.calm O.nd (di_seq (de_slice (de_var 4) do_none (do_some de_int))) (blkOk_by (by kernel_rfl)) (fun _ _ _ _ _ => (dg_name 5 O.nd)) (fun _ _ _ _ _ => dts_nil) (fun _ _ _ _ _ => (de_tup (da_cons (de_var 5) (da_cons (de_callB (cd_min O.calm) (by rfl) T.b_min boot_min (da_cons de_int (da_cons (de_op od_add (de_var 5) (de_call O.gd g__law_draw.up hr (by rfl) (da_cons (de_var 0) (da_cons de_int da_nil)))) da_nil))) da_nil))))) da_nil)))))
  dss_nil)
 (dss_cons (ds_if (dt_cmp (od_eq (hu64 hr)) (de_var 1) de_int)
  (dss_one (ds_set 4 O.nd (de_op od_add (de_var 4) (de_lst (da_cons de_int (da_cons de_int (da_cons de_int (da_cons (de_op od_sub de_int (de_call O.gd g__law_draw.up hr (by rfl) (da_cons (de_var 0) (da_cons de_int da_nil)))) da_nil))))))))
  dss_nil)
 (dss_one (ds_ret (de_fr (dn_srtSet O.calm (by rfl) T.b_sorted (by rfl) T.b_set (de_lc  [("one", 5)] O.calm O.nd (di_seq (de_var 4)) (blkOk_by (by kernel_rfl)) (fun _ _ _ _ _ => (dg_name 5 O.nd)) (fun _ _ _ _ _ => dts_nil) (fun _ _ _ _ _ => (de_callB (cd_min O.calm) (by rfl) T.b_min boot_min (da_cons de_int (da_cons (de_var 5) da_nil))))) boot_sorted boot_set)))))))))))⟩
abbrev s__law_are_refused : Stmt := topS 34
theorem sc__law_are_refused : FnScope ["hand", "a", "bad", "none", "by", "words"] ["hand", "a"] (defScope s__law_are_refused) := ⟨rfl, rfl, rfl, by decide +kernel, rfl, by decide +kernel, by decide +kernel⟩
theorem ok__law_are_refused {P__law_are_refused : Addr} {c : Addr} (TB : TabB base mg c P__law_are_refused) (W : WordFn K mg "_law_word" cdW) (F : FunC K "_law_are_refused" "_law_are_refused" s__law_are_refused f fd (.ref c)) (hm : mg "_law_are_refused" = some (.ref f)) (b : L2.Binds K fd ["hand", "a"] []) (T : Tops K mg) (g__law_any : DefAt false P w K mg base k "_law_any" 2 m__law_any) (g_lacking : DefAt false P w K mg base k "lacking" 3 m_lacking) (g_moved : DefAt false P w K mg base k "moved" 2 m_moved) (g_first_part : DefAt false P w K mg base k "first_part" 2 m_first_part) : DefAt false P w K mg base (k + 2 + 1) "_law_are_refused" 2 (m__law_are_refused P__law_are_refused) :=
 DefAt.rf (m := runD 6
 (sSeq (sSet 2 (mCall 2 m__law_any (mCons (mVar 0) (mCons (mLst (mCons (mC .non) (mCons (mC (.int 3)) (mCons (mC (.str "3-7")) (mCons (mLst (mCons (mTup (mCons (mC (.int 3)) (mCons (mC (.int 7)) mNil))) mNil)) (mCons (mTup (mCons (mTup (mCons (mC (.int 7)) (mCons (mC (.int 3)) mNil))) mNil)) (mCons (mTup (mCons (mTup (mCons (mC (.int 3)) (mCons (mC (.int 7)) mNil))) (mCons (mTup (mCons (mC (.int 8)) (mCons (mC (.int 9)) mNil))) mNil))) (mCons (mTup (mCons (mTup (mCons (mC (.int 3)) (mCons (mC (.int 401)) mNil))) mNil)) mNil)))))))) mNil))))
 (sSeq (sSet 3 (mCall 2 m__law_any (mCons (mVar 0) (mCons (mLst (mCons (mC .non) (mCons (mNeg (mC (.int 1))) (mCons (mC (.int 401)) (mCons (mC (.bl true)) (mCons (mC (.str "3")) (mCons (mTup (mCons (mC (.int 3)) mNil)) mNil))))))) mNil))))
 (sSeq (sSet 4 (mCall 2 m__law_any (mCons (mVar 0) (mCons (mLst (mCons (mC .non) (mCons (mNeg (mC (.int 401))) (mCons (mC (.int 401)) (mCons (mC (.bl true)) (mCons (mC (.str "3")) (mCons (mTup (mCons (mC (.int 3)) mNil)) (mCons (mOp gMul (mOp gPow (mC (.int 10)) (mC (.int 50))) (mOp gPow (mC (.int 10)) (mC (.int 49)))) mNil)))))))) mNil))))
 (sSeq (sSet 5 (mNew (mCons (mLam 0 P__law_are_refused (("_law_are_refused" : Str) ++ ".<locals>." ++ "<lambda>") cdW (mCall 3 m_lacking (mCons (mVar 2) (mCons (mVar 3) (mCons (mVar 3) mNil))))) mNil)))
 (sSeq (sExpr (mApp (mVar 5) (mLam 0 P__law_are_refused (("_law_are_refused" : Str) ++ ".<locals>." ++ "<lambda>") cdW (mCall 3 m_lacking (mCons (mVar 1) (mCons (mVar 3) (mCons (mC (.int 3)) mNil)))))))
 (sSeq (sExpr (mApp (mVar 5) (mLam 0 P__law_are_refused (("_law_are_refused" : Str) ++ ".<locals>." ++ "<lambda>") cdW (mCall 3 m_lacking (mCons (mVar 1) (mCons (mC (.int 3)) (mCons (mVar 3) mNil)))))))
 (sSeq (sExpr (mApp (mVar 5) (mLam 0 P__law_are_refused (("_law_are_refused" : Str) ++ ".<locals>." ++ "<lambda>") cdW (mCall 3 m_lacking (mCons (mVar 1) (mCons (mC (.int 4)) (mCons (mC (.int 3)) mNil)))))))
 (sSeq (sExpr (mApp (mVar 5) (mLam 0 P__law_are_refused (("_law_are_refused" : Str) ++ ".<locals>." ++ "<lambda>") cdW (mCall 2 m_moved (mCons (mVar 2) (mCons (mVar 4) mNil))))))
 (sSeq (sExpr (mApp (mVar 5) (mLam 0 P__law_are_refused (("_law_are_refused" : Str) ++ ".<locals>." ++ "<lambda>") cdW (mCall 2 m_moved (mCons (mVar 1) (mCons (mVar 4) mNil))))))
 (sSeq (sExpr (mApp (mVar 5) (mLam 0 P__law_are_refused (("_law_are_refused" : Str) ++ ".<locals>." ++ "<lambda>") cdW (mCall 2 m_first_part (mCons (mVar 2) (mCons (mNeg (mC (.int 1))) mNil))))))
 (sSeq (sExpr (mApp (mVar 5) (mLam 0 P__law_are_refused (("_law_are_refused" : Str) ++ ".<locals>." ++ "<lambda>") cdW (mCall 2 m_first_part (mCons (mVar 1) (mCons (mCall 2 m__law_any (mCons (mVar 0) (mCons (mLst (mCons (mC .non) (mCons (mNeg (mC (.int 1))) (mCons (mC (.bl true)) (mCons (mC (.str "3")) (mCons (mTup (mCons (mC (.int 3)) mNil)) mNil)))))) mNil))) mNil))))))
 (sRet (mOp gEq (mVar 5) (mLst (mCons (mC (.int 0)) (mCons (mC (.int 1)) (mCons (mC (.int 1)) (mCons (mC (.int 1)) (mCons (mC (.int 0)) (mCons (mC (.int 2)) (mCons (mC (.int 0)) (mCons (mC (.int 2)) mNil))))))))))))))))))))))) ⟨f, fd, ["hand", "a"], hm, F.kp, b, def_fnC F sc__law_are_refused fun A outer s H E hr O =>
 (dss_cons (ds_set 2 O.nd (de_call O.gd (g__law_any.mono (by omega)).up hr (by rfl) (da_cons (de_var 0) (da_cons (de_lst (da_cons de_non (da_cons de_int (da_cons de_str (da_cons (de_lst (da_cons (de_tup (da_cons de_int (da_cons de_int da_nil))) da_nil)) (da_cons (de_tup (da_cons (de_tup (da_cons de_int (da_cons de_int da_nil))) da_nil)) (da_cons (de_tup (da_cons (de_tup (da_cons de_int (da_cons de_int da_nil))) (da_cons (de_tup (da_cons de_int (da_cons de_int da_nil))) da_nil))) (da_cons (de_tup (da_cons (de_tup (da_cons de_int (da_cons de_int da_nil))) da_nil)) da_nil)))))))) da_nil))))
 (dss_cons (ds_set 3 O.nd (de_call O.gd (g__law_any.mono (by omega)).up hr (by rfl) (da_cons (de_var 0) (da_cons (de_lst (da_cons de_non (da_cons (de_neg de_int) (da_cons de_int (da_cons de_bl (da_cons de_str (da_cons (de_tup (da_cons de_int da_nil)) da_nil))))))) da_nil))))
 (dss_cons (ds_set 4 O.nd (de_call O.gd (g__law_any.mono (by omega)).up hr (by rfl) (da_cons (de_var 0) (da_cons (de_lst (da_cons de_non (da_cons (de_neg de_int) (da_cons de_int (da_cons de_bl (da_cons de_str (da_cons (de_tup (da_cons de_int da_nil)) (da_cons (de_op od_mul (de_op od_pow de_int de_int) (de_op od_pow de_int de_int)) da_nil)))))))) da_nil))))
 (dss_cons (ds_set 5 O.nd (de_new (da_cons (W _ rfl rfl 0 (by rfl) TB rfl hr (lamS_by (sc := defScope s__law_are_refused) (by decide +kernel)) rfl (fun _ _ _ _ _ => rfl) (fun A' outer' s' H' E' f' c' hr' => (de_call (fb := false) (fun e => nomatch e) g_lacking hr' (by rfl) (da_cons (de_var 2) (da_cons (de_var 3) (da_cons (de_var 3) da_nil)))))) da_nil)))
 (dss_cons (ds_expr (de_app (de_var 5) (W _ rfl rfl 0 (by rfl) TB rfl hr (lamS_by (sc := defScope s__law_are_refused) (by decide +kernel)) rfl (fun _ _ _ _ _ => rfl) (fun A' outer' s' H' E' f' c' hr' => (de_call (fb := false) (fun e => nomatch e) g_lacking hr' (by rfl) (da_cons (de_var 1) (da_cons (de_var 3) (da_cons de_int da_nil))))))))
 (dss_cons (ds_expr (de_app (de_var 5) (W _ rfl rfl 0 (by rfl) TB rfl hr (lamS_by (sc := defScope s__law_are_refused) (by decide +kernel)) rfl (fun _ _ _ _ _ => rfl) (fun A' outer' s' H' E' f' c' hr' => (de_call (fb := false) (fun e => nomatch e) g_lacking hr' (by rfl) (da_cons (de_var 1) (da_cons de_int (da_cons (de_var 3) da_nil))))))))
 (dss_cons (ds_expr (de_app (de_var 5) (W _ rfl rfl 0 (by rfl) TB rfl hr (lamS_by (sc := defScope s__law_are_refused) (by decide +kernel)) rfl (fun _ _ _ _ _ => rfl) (fun A' outer' s' H' E' f' c' hr' => (de_call (fb := false) (fun e => nomatch e) g_lacking hr' (by rfl) (da_cons (de_var 1) (da_cons de_int (da_cons de_int da_nil))))))))
 (dss_cons (ds_expr (de_app (de_var 5) (W _ rfl rfl 0 (by rfl) TB rfl hr (lamS_by (sc := defScope s__law_are_refused) (by decide +kernel)) rfl (fun _ _ _ _ _ => rfl) (fun A' outer' s' H' E' f' c' hr' => (de_call (fb := false) (fun e => nomatch e) g_moved hr' (by rfl) (da_cons (de_var 2) (da_cons (de_var 4) da_nil)))))))
 (dss_cons (ds_expr (de_app (de_var 5) (W _ rfl rfl 0 (by rfl) TB rfl hr (lamS_by (sc := defScope s__law_are_refused) (by decide +kernel)) rfl (fun _ _ _ _ _ => rfl) (fun A' outer' s' H' E' f' c' hr' => (de_call (fb := false) (fun e => nomatch e) g_moved hr' (by rfl) (da_cons (de_var 1) (da_cons (de_var 4) da_nil)))))))
 (dss_cons (ds_expr (de_app (de_var 5) (W _ rfl rfl 0 (by rfl) TB rfl hr (lamS_by (sc := defScope s__law_are_refused) (by decide +kernel)) rfl (fun _ _ _ _ _ => rfl) (fun A' outer' s' H' E' f' c' hr' => (de_call (fb := false) (fun e => nomatch e) g_first_part hr' (by rfl) (da_cons (de_var 2) (da_cons (de_neg de_int) da_nil)))))))
 (dss_cons (ds_expr (de_app (de_var 5) (W _ rfl rfl 0 (by rfl) TB rfl hr (lamS_by (sc := defScope s__law_are_refused) (by decide +kernel)) rfl (fun _ _ _ _ _ => rfl) (fun A' outer' s' H' E' f' c' hr' => (de_call (fb := false) (fun e => nomatch e) g_first_part hr' (by rfl) (da_cons (de_var 1) (da_cons (de_call (fb := false) (fun e => nomatch e) g__law_any hr' (by rfl) (da_cons (de_var 0) (da_cons (de_lst (da_cons de_non (da_cons (de_neg de_int) (da_cons de_bl (da_cons de_str (da_cons (de_tup (da_cons de_int da_nil)) da_nil)))))) da_nil))) da_nil)))))))
 (dss_one (ds_ret (de_cmp (od_eq (hu64 hr)) (de_var 5) (de_lst (da_cons de_int (da_cons de_int (da_cons de_int (da_cons de_int (da_cons de_int (da_cons de_int (da_cons de_int (da_cons de_int da_nil)))))))))))))))))))))))⟩ rf_gc
abbrev s_law : Stmt := topS 35
theorem sc_law : FnScope ["script", "hand", "lap", "days", "a", "some", "ends", "first", "last", "told", "by", "many", "day"] ["script"] (defScope s_law) := ⟨rfl, rfl, rfl, by decide +kernel, rfl, by decide +kernel, by decide +kernel⟩
theorem fn_law {P__law_are_refused : Addr} (F : Fun K "law" "law" s_law f fd) (T : Tops K mg) (g__law_hand : DefAt false P w K mg base k "_law_hand" 1 m__law_hand) (g__law_days : DefAt false P w K mg base k "_law_days" 1 m__law_days) (g__law_runs : DefAt false P w K mg base k "_law_runs" 1 m__law_runs) (g__law_draw : DefAt false P w K mg base k "_law_draw" 2 m__law_draw) (g__law_any : DefAt false P w K mg base k "_law_any" 2 m__law_any) (g_lacking : DefAt false P w K mg base k "lacking" 3 m_lacking) (g__law_is : DefAt true P w K mg base k "_law_is" 2 m__law_is) (g_day_count : DefAt false P w K mg base k "day_count" 1 m_day_count) (g_common_of : DefAt false P w K mg base k "common_of" 2 m_common_of) (g_moved : DefAt false P w K mg base k "moved" 2 m_moved) (g_first_part : DefAt false P w K mg base k "first_part" 2 m_first_part) (g__law_are_refused : DefAt false P w K mg base k "_law_are_refused" 2 (m__law_are_refused P__law_are_refused)) : FnG true P w K mg base (k + 1) f fd ["script"] (spD K mg 1 (m_law P__law_are_refused)) :=
 def_fn F sc_law fun cdv A outer s H E hr O =>
 (dss_cons (ds_set 1 O.nd (de_call O.gd g__law_hand.up hr (by rfl) (da_cons (de_var 0) da_nil)))
 (dss_cons (ds_kl [2, 3, 4, 5, 6, 7, 8, 9, 10, 11] (ds_for O (di_range1 (by rfl) T.b_range (da_cons de_int da_nil)) (dg_name 2 O.nd)
  (dss_kl [2, 3, 4, 5, 6, 7, 8, 9, 10, 11] (dss_cons (ds_set 3 O.nd (de_call O.gd g__law_days.up hr (by rfl) (da_cons (de_var 1) da_nil)))
 (dss_cons (ds_set 4 O.nd (de_call O.gd g__law_runs.up hr (by rfl) (da_cons (de_var 3) da_nil)))
 (dss_cons (ds_set 5 O.nd (de_op od_add (de_op od_add (de_var 3) (de_lst (da_cons de_int (da_cons de_int (da_cons (de_call O.gd g__law_draw.up hr (by rfl) (da_cons (de_var 1) (da_cons de_int da_nil))) da_nil))))) (de_lc  [("day", 12)] O.calm O.nd (di_seq (de_var 3)) (blkOk_by (by kernel_rfl)) (fun _ _ _ _ _ => (dg_name 12 O.nd)) (fun _ _ _ _ _ => dts_nil) (fun _ _ _ _ _ => (de_callB (cd_min O.calm) (by rfl) T.b_min boot_min (da_cons de_int (da_cons (de_op od_add (de_var 12) de_int) da_nil)))))))
 (dss_cons (ds_set 6 O.nd (de_fr (dn_callB cn_srt (by rfl) T.b_sorted boot_sorted (da_cons (de_lst (da_cons (de_call O.gd g__law_any.up hr (by rfl) (da_cons (de_var 1) (da_cons (de_var 5) da_nil))) (da_cons (de_call O.gd g__law_any.up hr (by rfl) (da_cons (de_var 1) (da_cons (de_var 5) da_nil))) da_nil))) da_nil))))
 (dss_cons (ds_par 7 8 O.calm O.nd (da_cons (de_ix (de_var 6) de_int) (da_cons (de_ix (de_var 6) de_int) da_nil)))
 (dss_cons (ds_set 9 O.nd (de_call O.gd g_lacking.up hr (by rfl) (da_cons (de_var 4) (da_cons (de_var 7) (da_cons (de_var 8) da_nil)))))
 (dss_cons (ds_if (dt_not (dt_tru (de_call O.gd g__law_is hr (by rfl) (da_cons (de_var 9) (da_cons (de_call O.gd g__law_runs.up hr (by rfl) (da_cons (de_lc  [("day", 12)] O.calm O.nd (di_range2 (by rfl) T.b_range (da_cons (de_var 7) (da_cons (de_op od_add (de_var 8) de_int) da_nil))) (blkOk_by (by kernel_rfl)) (fun _ _ _ _ _ => (dg_name 12 O.nd)) (fun _ _ _ _ _ => (dts_one (dt_cmp od_notin (de_var 12) (de_var 3)))) (fun _ _ _ _ _ => (de_var 12))) da_nil)) da_nil)))))
  (dss_one (ds_ret de_bl))
  dss_nil)
 (dss_cons (ds_if (dt_cmp (od_ne (hu64 hr)) (de_op od_add (de_call O.gd g_day_count.up hr (by rfl) (da_cons (de_var 9) da_nil)) (de_call O.gd g_day_count.up hr (by rfl) (da_cons (de_call O.gd g_common_of.up hr (by rfl) (da_cons (de_var 4) (da_cons (de_tup (da_cons (de_tup (da_cons (de_var 7) (da_cons (de_var 8) da_nil))) da_nil)) da_nil))) da_nil))) (de_op od_add (de_op od_sub (de_var 8) (de_var 7)) de_int))
  (dss_one (ds_ret de_bl))
  dss_nil)
 (dss_cons (ds_set 10 O.nd (de_call O.gd g__law_any.up hr (by rfl) (da_cons (de_var 1) (da_cons (de_lst (da_cons de_int (da_cons de_int (da_cons (de_neg de_int) (da_cons de_int (da_cons (de_neg de_int) (da_cons (de_op od_sub (de_call O.gd g__law_draw.up hr (by rfl) (da_cons (de_var 1) (da_cons de_int da_nil))) de_int) (da_cons (de_op od_sub (de_call O.gd g__law_draw.up hr (by rfl) (da_cons (de_var 1) (da_cons de_int da_nil))) de_int) da_nil)))))))) da_nil))))
 (dss_cons (ds_if (dt_not (dt_tru (de_call O.gd g__law_is hr (by rfl) (da_cons (de_call O.gd g_moved.up hr (by rfl) (da_cons (de_var 4) (da_cons (de_var 10) da_nil))) (da_cons (de_call O.gd g__law_runs.up hr (by rfl) (da_cons (de_lc  [("day", 12)] O.calm O.nd (di_seq (de_var 3)) (blkOk_by (by kernel_rfl)) (fun _ _ _ _ _ => (dg_name 12 O.nd)) (fun _ _ _ _ _ => (dts_one (dt_chain od_le od_le de_int (de_op od_add (de_var 12) (de_var 10)) de_int))) (fun _ _ _ _ _ => (de_op od_add (de_var 12) (de_var 10)))) da_nil)) da_nil)))))
  (dss_one (ds_ret de_bl))
  dss_nil)
 (dss_cons (ds_set 11 O.nd (de_call O.gd g__law_any.up hr (by rfl) (da_cons (de_var 1) (da_cons (de_lst (da_cons de_int (da_cons de_int (da_cons (de_callB cd_len (by rfl) T.b_len boot_len (da_cons (de_var 3) da_nil)) (da_cons (de_op od_add (de_callB cd_len (by rfl) T.b_len boot_len (da_cons (de_var 3) da_nil)) de_int) (da_cons (de_op od_pow de_int de_int) (da_cons (de_call O.gd g__law_draw.up hr (by rfl) (da_cons (de_var 1) (da_cons (de_op od_add (de_callB cd_len (by rfl) T.b_len boot_len (da_cons (de_var 3) da_nil)) de_int) da_nil))) da_nil))))))) da_nil))))
 (dss_one (ds_if (dw_or (dt_not (dt_tru (de_call O.gd g__law_is hr (by rfl) (da_cons (de_call O.gd g_first_part.up hr (by rfl) (da_cons (de_var 4) (da_cons (de_var 11) da_nil))) (da_cons (de_call O.gd g__law_runs.up hr (by rfl) (da_cons (de_slice (de_var 3) do_none (do_some (de_var 11))) da_nil)) da_nil))))) (dw_or1 (dt_not (dt_tru (de_call O.gd g__law_are_refused.up hr (by rfl) (da_cons (de_var 1) (da_cons (de_var 4) da_nil))))))).dt
  (dss_one (ds_ret de_bl))
  dss_nil))))))))))))))))
 (dss_one (ds_ret de_bl))))
end
end K02

set_option Elab.async false
set_option linter.all false
set_option maxRecDepth 100000
set_option maxHeartbeats 4000000
namespace K02
open PySem L2 Dn
theorem e_raw_days {a : List Pr} (o : OkS a) (h : IHp) : m_raw_days [.tup (a.map prT)] h = .ok (.lst ((daysL a).map D.int)) h := by
  have hl := (daysL_days o).len
  have lc : ∀ (s0 : ISt) (h : IHp), 3 < s0.length → lcD2 (a.map prT, none) (.tup [.name 2, .name 3]) mYes (mRng2 (mCons (mVar 2) (mCons (mOp gAdd (mVar 3) (mC (.int 1))) mNil))) (.name 1) mYes (mVar 1) [1] s0 (a.map prT) [] h = .ok ((daysL a).map D.int) h := fun s0 h hs => by
    have h1 : 1 < s0.length := by omega
    have h2 : 2 < s0.length := by omega
    rw [lcD2_map (enc1 := D.int) (fun p => rgI p.1 (p.2 + 1 - p.1).toNat) D.int (by simp) a [] (fun p mp => ⟨_, tg_pr, rfl, by
      have hp := o.ok p mp
      have r2 : rng2 [.int p.1, .int (p.2 + 1)] = some (rngD p.1 (p.2 + 1 - p.1).toNat, none) := rng2_eq (smR_of ⟨by omega, by omega, by omega, by omega⟩)
      simp [hs, h2, r2, rngD_I], fun y _ => ⟨_, tg_name, rfl, by simp [h1]⟩⟩) (by
        have : (daysL a).length = (a.map fun x => (rgI x.1 (x.2 + 1 - x.1).toNat).length).sum := by unfold daysL; rw [List.length_flatMap]
        rw [← this]
        simp
        omega)]
    rfl
  simp [m_raw_days, lc]
theorem e_moved {a : List Pr} (o : OkS a) {b : Int} (b0 : -400 ≤ b) (b1 : b ≤ 400) (h : IHp) :
    m_moved [.tup (a.map prT), .int b] h = .ok (.tup ((runs (asc (((daysL a).filter fun d => isDay (.int (d + b))).map fun d => d + b))).map prT)) h := by
  have hl := (daysL_days o).len
  have hb : isBetw (.int b) (-400) 400 = true := by simp [isBetw, b0, b1]
  obtain ⟨js, hjs⟩ : ∃ js, js = ((daysL a).filter fun d => isDay (.int (d + b))).map fun d => d + b := ⟨_, rfl⟩
  have fl := List.length_filter_le (fun d => isDay (.int (d + b))) (daysL a)
  have lj : js.length ≤ 401 := by rw [hjs, List.length_map]; omega
  have bj : ∀ d ∈ js, 0 ≤ d ∧ d ≤ 400 := fun d m => by
    rw [hjs] at m
    obtain ⟨x, mx, rfl⟩ := List.mem_map.mp m
    obtain ⟨i, e, i0, i1⟩ := isDay_int (List.mem_filter.mp mx).2
    cases e
    exact ⟨i0, i1⟩
  have lc : ∀ (s0 : ISt) (h : IHp), 2 < s0.length → s0[1]? = some (some (.int b)) → lcD ((daysL a).map D.int, none) (.name 2) (mTru (mCall 1 m_is_day (mCons (mOp gAdd (mVar 2) (mVar 1)) mNil))) (mTup (mCons (mOp gAdd (mVar 2) (mVar 1)) (mCons (mOp gAdd (mVar 2) (mVar 1)) mNil))) s0 ((daysL a).map D.int) [] h = .ok ((pts js).map prT) h := fun s0 h hs h1 => by
    rw [lc_map (fun d => isDay (.int (d + b))) (fun d => prT (d + b, d + b)) (by simp) (daysL a) [] (fun i _ => ⟨_, tg_name, by simp [hs, h1, e_is_day], fun _ => by simp [hs, h1]⟩) (by simp; omega), hjs]
    unfold pts
    rw [List.map_map, List.map_map]
    rfl
  have em := e_merged (ps := pts js) (by unfold pts; rw [List.length_map]; omega) (h := h) (x := .lst ((pts js).map prT)) rfl
  rw [mg_pts bj] at em
  rw [← hjs]
  generalize pts js = q at lc em
  simp [m_moved, e_need_str o, e_is_between, hb, e_raw_days o, lc, em]
theorem cut_any (l : List Int) {q : Int} (q0 : 0 ≤ q) : cutD (l.map D.int) none (some q) = (l.take q.toNat).map D.int := by
  rw [cut_map]
  have e0 : HT.sIx l.length 0 none = 0 := rfl
  have e1 : HT.sIx l.length l.length (some q) = min q.toNat l.length := by
    show (if q < 0 then _ else _) = _
    rw [if_neg (by omega)]
  rw [e0, e1, List.drop_zero, Nat.sub_zero]
  congr 1
  by_cases h : l.length ≤ q.toNat
  · rw [Nat.min_eq_right h, List.take_length, List.take_of_length_le h]
  · rw [Nat.min_eq_left (by omega)]
theorem e_first {a : List Pr} (o : OkS a) {q : Int} (q0 : 0 ≤ q) (h : IHp) : m_first_part [.tup (a.map prT), .int q] h = .ok (.tup ((runs (asc ((daysL a).take q.toNat))).map prT)) h := by
  have hl := (daysL_days o).len
  have ct := cut_any (daysL a) q0
  have tl := List.length_take_le q.toNat (daysL a)
  have tm : ∀ d ∈ (daysL a).take q.toNat, 0 ≤ d ∧ d ≤ 400 := fun d m => (daysL_days o).lo d (List.mem_of_mem_take m)
  have tn : ((daysL a).take q.toNat).length ≤ 401 := by rw [List.length_take]; omega
  generalize (daysL a).take q.toNat = js at ct tm tn
  have lc : ∀ (s0 : ISt) (h : IHp), 2 < s0.length → lcD (js.map D.int, none) (.name 2) mYes (mTup (mCons (mVar 2) (mCons (mVar 2) mNil))) s0 (js.map D.int) [] h = .ok ((pts js).map prT) h := fun s0 h hs => by
    rw [lc_all (fun d => prT (d, d)) (by simp) js (fun i _ => ⟨_, tg_name, rfl, by simp [hs]⟩) (by omega)]
    unfold pts
    rw [List.map_map]
    rfl
  have em := e_merged (ps := pts js) (by unfold pts; rw [List.length_map]; omega) (h := h) (x := .lst ((pts js).map prT)) rfl
  rw [mg_pts tm] at em
  generalize pts js = z at lc em
  have nq : ∀ h : IHp, m_is_number [.int q] h = .ok (.bl true) h := fun h => by rw [e_is_number]; simp [q0]
  simp [m_first_part, e_need_str o, nq, e_raw_days o, ct, lc, em]
def P50 : Int := 10 ^ 50
def P49 : Int := 10 ^ 49
theorem pw50 (h : IHp) : gPow h (.int 10) (.int 50) = some (.int P50) := gPow_int (by decide) (by decide) (by decide)
theorem pw49 (h : IHp) : gPow h (.int 10) (.int 49) = some (.int P49) := gPow_int (by decide) (by decide) (by decide)
theorem mulBig (h : IHp) : gMul h (.int P50) (.int P49) = some (.int (P50 * P49)) := by
  show (if mulOk P50 P49 = true then some (D.int (P50 * P49)) else none) = _
  rw [if_pos (by
    have a : P50.natAbs < 2 ^ 9000 := Nat.lt_of_lt_of_le (show P50.natAbs < 2 ^ 200 by decide) (Nat.pow_le_pow_right (by decide) (by decide))
    have b : P49.natAbs < 2 ^ 9000 := Nat.lt_of_lt_of_le (show P49.natAbs < 2 ^ 200 by decide) (Nat.pow_le_pow_right (by decide) (by decide))
    unfold mulOk
    rw [decide_eq_true a, decide_eq_true b]
    simp)]
theorem p99 : 400 < P50 * P49 := by decide
def bads : List D := [.non, .int 3, .str "3-7", .lst [prT (3, 7)], .tup [prT (7, 3)], .tup [prT (3, 7), prT (8, 9)], .tup [prT (3, 401)]]
theorem bads_no : ∀ x ∈ bads, isStrD x = false ∧ Sm x := by
  intro x m
  simp only [bads, List.mem_cons, List.not_mem_nil, or_false] at m
  rcases m with rfl | rfl | rfl | rfl | rfl | rfl | rfl <;> refine ⟨by decide, fun ds e => ?_⟩ <;> cases e <;> simp
theorem cd0 : cdW "NoStretches" = some 0 := rfl
theorem cd1 : cdW "NoDay" = some 1 := rfl
theorem cd2 : cdW "NoNumber" = some 2 := rfl
theorem e_refused (P : Addr) {Y : IHp} {u : IO} (hz : 1 < Y.length) (o : HandOK u) (ht : Y[0]? = some (IO.tab P (("_law_are_refused" : Str) ++ ".<locals>." ++ "<lambda>"))) {a : List Pr} (oa : OkS a) :
    ∃ u', m__law_are_refused P [.ref 1, .tup (a.map prT)] (Y.set 1 u) = .ok (.bl true) (Y.set 1 u') ∧ HandOK u' := by
  obtain ⟨bad, u1, e1, o1, m1⟩ := e_any hz o (ds := bads) (by decide) (by decide) (x := .lst bads) (.inl rfl)
  obtain ⟨bn, bs⟩ := bads_no bad m1
  simp [bads] at e1
  obtain ⟨no, u2, e2, o2, m2⟩ := e_any hz o1 (ds := [.non, .int (-1), .int 401, .bl true, .str "3", .tup [.int 3]]) (by simp) (by simp) (x := .lst [.non, .int (-1), .int 401, .bl true, .str "3", .tup [.int 3]]) (.inl rfl)
  have hno : isDay no = false := by
    simp only [List.mem_cons, List.not_mem_nil, or_false] at m2
    rcases m2 with rfl | rfl | rfl | rfl | rfl | rfl <;> rfl
  obtain ⟨by_, u3, e3, o3, m3⟩ := e_any hz o2 (ds := [.non, .int (-401), .int 401, .bl true, .str "3", .tup [.int 3], .int (P50 * P49)]) (by simp) (by simp) (x := .lst [.non, .int (-401), .int 401, .bl true, .str "3", .tup [.int 3], .int (P50 * P49)]) (.inl rfl)
  have hby : isBetw by_ (-400) 400 = false := by
    have := p99
    simp only [List.mem_cons, List.not_mem_nil, or_false] at m3
    rcases m3 with rfl | rfl | rfl | rfl | rfl | rfl | rfl <;> simp [isBetw]
    omega
  obtain ⟨mn, u4, e4, o4, m4⟩ := e_anyL (L := [.lst [.int 0, .int 1, .int 1, .int 1, .int 0, .int 2, .int 0]]) hz o3 (ds := [.non, .int (-1), .bl true, .str "3", .tup [.int 3]]) (by simp) (by simp) (x := .lst [.non, .int (-1), .bl true, .str "3", .tup [.int 3]]) (.inl rfl)
  have hmn : ∀ h : IHp, m_is_number [mn] h = .ok (.bl false) h := fun h => by
    rw [e_is_number]
    simp only [List.mem_cons, List.not_mem_nil, or_false] at m4
    rcases m4 with rfl | rfl | rfl | rfl | rfl <;> simp
  have nd := fun (x y : D) (hx : isDay x = false ∨ isDay y = false) (h : IHp) => show m_need_days [x, y] h = .ex "NoDay" h by
    rw [e_need_days]
    rcases hx with e | e <;> simp [e]
  have nd43 : ∀ h : IHp, m_need_days [.int 4, .int 3] h = .ex "NoDay" h := fun h => by
    rw [e_need_days]
    simp
  have k1 : ∀ (x y : D) (h : IHp), m_lacking [bad, x, y] h = .ex "NoStretches" h := fun x y h => by simp [m_lacking, e_need_strD _ _ bs, bn]
  have k2 : ∀ h : IHp, m_lacking [.tup (a.map prT), no, .int 3] h = .ex "NoDay" h := fun h => by simp [m_lacking, e_need_str oa, nd no (.int 3) (.inl hno)]
  have k3 : ∀ h : IHp, m_lacking [.tup (a.map prT), .int 3, no] h = .ex "NoDay" h := fun h => by simp [m_lacking, e_need_str oa, nd (.int 3) no (.inr hno)]
  have k4 : ∀ h : IHp, m_lacking [.tup (a.map prT), .int 4, .int 3] h = .ex "NoDay" h := fun h => by simp [m_lacking, e_need_str oa, nd43]
  have k5 : ∀ (x : D) (h : IHp), m_moved [bad, x] h = .ex "NoStretches" h := fun x h => by simp [m_moved, e_need_strD _ _ bs, bn]
  have k6 : ∀ h : IHp, m_moved [.tup (a.map prT), by_] h = .ex "NoNumber" h := fun h => by simp [m_moved, e_need_str oa, e_is_between, hby]
  have k7 : ∀ (x : D) (h : IHp), m_first_part [bad, x] h = .ex "NoStretches" h := fun x h => by simp [m_first_part, e_need_strD _ _ bs, bn]
  have k8 : ∀ h : IHp, m_first_part [.tup (a.map prT), mn] h = .ex "NoNumber" h := fun h => by simp [m_first_part, e_need_str oa, hmn]
  have t0 := isTab_set0 (Y := Y) (z := 1) (u := u3) (by decide : (0 : Nat) ≠ 1) ht
  have t1 := fun L => isTab_set (Y := Y) (L := L) (z := 1) (u := u3) (by decide : (0 : Nat) ≠ 1) ht
  have fin := gEq_live (h := Y.set 1 u4 ++ [.lst [.int 0, .int 1, .int 1, .int 1, .int 0, .int 2, .int 0, .int 2]]) (n := Y.length) [0, 1, 1, 1, 0, 2, 0, 2] [0, 1, 1, 1, 0, 2, 0, 2] (by simp)
  simp only [List.map_cons, List.map_nil] at fin
  refine ⟨u4, ?_, o4⟩
  simp [m__law_are_refused, pw50, pw49, mulBig, e1, e2, e3, e4, k1, k2, k3, k4, k5, k6, k7, k8, t0, t1, cd0, cd1, cd2, fin]
  exact gc_hand hz o4.low (by simp)
end K02

set_option Elab.async false
set_option linter.all false
set_option maxRecDepth 100000
set_option maxHeartbeats 4000000
namespace K02
open PySem L2 Dn
theorem lkF_pw (l : Int) : ∀ (b : List Pr) (s : List Pr × Int), (∀ q ∈ b, q.1 ≤ q.2) → s.1.Pairwise (fun p q => p.2 + 1 < q.1) → (∀ p ∈ s.1, p.2 + 1 < s.2) →
    (b.foldl (lkF l) s).1.Pairwise (fun p q => p.2 + 1 < q.1) ∧ ∀ p ∈ (b.foldl (lkF l) s).1, p.2 + 1 < (b.foldl (lkF l) s).2
  | [], s, _, h1, h2 => ⟨h1, h2⟩
  | q :: b, s, hq, h1, h2 => by
    have q0 := hq q List.mem_cons_self
    rw [List.foldl_cons]
    refine lkF_pw l b _ (fun r m => hq r (List.mem_cons_of_mem _ m)) ?_ ?_
    · unfold lkF
      split
      · split
        · dsimp only
          rw [List.pairwise_append]
          exact ⟨h1, by simp, fun p m r mr => by rw [List.mem_singleton.mp mr]; exact h2 p m⟩
        · exact h1
      · exact h1
    · unfold lkF
      split
      · next c =>
        split
        · intro p m
          dsimp only at m ⊢
          rcases List.mem_append.mp m with m | m
          · have := h2 p m; omega
          · rw [List.mem_singleton.mp m]; dsimp only; omega
        · intro p m
          dsimp only at m ⊢
          have := h2 p m; omega
      · exact h2
theorem lack_ok {b : List Pr} {f l : Int} (ob : OkS b) (f0 : 0 ≤ f) (l4 : l ≤ 400) : OkS (lack b f l) := by
  refine ⟨lack_bd ob f0 l4, gaps_of ?_⟩
  obtain ⟨h1, h2⟩ := lkF_pw l b ([], f) (fun q m => (ob.ok q m).2.1) (by simp) (by simp)
  unfold lack
  dsimp only
  split
  · rw [List.pairwise_append]
    exact ⟨h1, by simp, fun p m r mr => by rw [List.mem_singleton.mp mr]; exact h2 p m⟩
  · exact h1
theorem sh_prs {a : List Pr} (o : OkS a) : ShD 2 20000 (.tup (a.map prT)) := by
  have := o.sz
  have s : ShL 1 42 (a.map prT).length (a.map prT) := ShL.of fun d m => by
    obtain ⟨p, mp, rfl⟩ := List.mem_map.mp m
    have hp := o.ok p mp
    have s2 : ShL 0 20 2 [D.int p.1, D.int p.2] := .cons (ShD.int (by omega) (by decide)) (.cons (ShD.int (by omega) (by decide)) .nil)
    exact s2.tup (by decide)
  exact s.tup (by rw [List.length_map]; omega)
theorem gNotIn_ints {h : IHp} {d : Int} {is : List Int} : gNotIn h (.int d) (.lst (is.map D.int)) = some (.bl (!decide (d ∈ is))) := by
  show (match flV (.int d), (some (is.map D.int)).bind flVs with
    | some v, some vs => some (D.bl (!inV v vs))
    | _, _ => none) = _
  rw [Option.bind_some, flVs_ints, ← inV_ints]
  rfl
def P30 : Int := 10 ^ 30
theorem pw30 (h : IHp) : gPow h (.int 10) (.int 30) = some (.int P30) := gPow_int (by decide) (by decide) (by decide)
theorem p30 : 0 ≤ P30 := by decide
theorem e_law (P : Addr) {ns : List Int} (hn : ns.length ≤ 63) : ∃ h, m_law P [.scr (ns.map D.int)] [IO.tab P (("_law_are_refused" : Str) ++ ".<locals>." ++ "<lambda>")] = .ok (.bl true) h := by
  obtain ⟨u, e1, o1⟩ := e_hand [IO.tab P (("_law_are_refused" : Str) ++ ".<locals>." ++ "<lambda>")] 24919 hn
  have r5 : rng1 [.int 5] = some (rngD 0 5, none) := rng1_eq (smR_of ⟨by omega, by omega, by omega, by omega⟩)
  unfold m_law
  simp [m__law_hand, e1, r5]
  refine use_loop (F := fun r => ∃ h, retK (seqK _ (klK _ r)) = .ok (.bl true) h)
    (fun s h => s = [some (.scr (ns.map D.int)), some (.ref 1), none, none, none, none, none, none, none, none, none, none, none] ∧ ∃ Y u, h = Y.set 1 u ∧ 1 < Y.length ∧ HandOK u ∧ Y[0]? = some (IO.tab P (("_law_are_refused" : Str) ++ ".<locals>." ++ "<lambda>"))) (by simp)
    ⟨rfl, [IO.tab P (("_law_are_refused" : Str) ++ ".<locals>." ++ "<lambda>"), u], u, rfl, by simp, o1, rfl⟩ ?_ ?_
  · rintro d md s h ⟨rfl, Y, u, rfl, hz, o, ht⟩
    refine ⟨_, tg_name, ?_⟩
    obtain ⟨days, u1, e2, o2, dd⟩ := e_days hz o
    have dl := dd.len
    have er : ∀ l : List Int, l.length ≤ 1203 → ∀ h : IHp, m__law_runs [.lst (l.map D.int)] h = .ok (.tup ((runs (asc l)).map prT)) h := fun l hl h => e_runs (by omega) h (.inl rfl)
    have ra := er days (by omega)
    rw [asc_id dd.pw] at ra
    have oa := dd.runs
    have ca := (runs_inv dd.pw).mem
    generalize runs days = A at ra oa ca
    have dA : daysL A = days := by
      rw [← asc_id (daysL_pw oa)]
      exact (asc_uniq dd.pw (asc_sorted _) fun j => by rw [mem_asc, daysL_mem, ca]).symm
    obtain ⟨w, u2, e3, o3, w0, w1⟩ := e_draw hz o2 (n := 401) (by decide) (by decide)
    obtain ⟨d1, hd1⟩ : ∃ d1, d1 = days ++ [0, 400, w] := ⟨_, rfl⟩
    obtain ⟨d2, hd2⟩ : ∃ d2, d2 = days.map fun i => min 400 (i + 1) := ⟨_, rfl⟩
    obtain ⟨L, hL⟩ : ∃ L, L = d1 ++ d2 := ⟨_, rfl⟩
    have g1 : ∀ h : IHp, gAdd h (.lst (days.map D.int)) (.lst [.int 0, .int 400, .int w]) = some (.lst (d1.map D.int)) := fun h => by
      rw [gAdd_lst (by simp; omega), hd1, List.map_append]; rfl
    have ld1 : d1.length = days.length + 3 := by rw [hd1]; simp
    have ld2 : d2.length = days.length := by rw [hd2]; simp
    have g2 : ∀ h : IHp, gAdd h (.lst (d1.map D.int)) (.lst (d2.map D.int)) = some (.lst (L.map D.int)) := fun h => by
      rw [gAdd_lst (by simp; omega), hL, List.map_append]
    have lL : L.length = days.length + 3 + days.length := by rw [hL, List.length_append]; omega
    have bL : ∀ i ∈ L, 0 ≤ i ∧ i ≤ 400 := fun i m => by
      rw [hL] at m
      rcases List.mem_append.mp m with m | m
      · rw [hd1] at m
        rcases List.mem_append.mp m with m | m
        · exact dd.lo i m
        · simp at m; omega
      · rw [hd2] at m
        obtain ⟨j, mj, rfl⟩ := List.mem_map.mp m
        have := dd.lo j mj
        omega
    have lc1 : ∀ (s0 : ISt) (h : IHp), 12 < s0.length → lcD (days.map D.int, none) (.name 12) mYes (mB1 gMin (mCons (mC (.int 400)) (mCons (mOp gAdd (mVar 12) (mC (.int 1))) mNil))) s0 (days.map D.int) [] h = .ok (d2.map D.int) h := fun s0 h hs => by
      rw [lc_all (fun i => .int (min 400 (i + 1))) (by simp) days (fun i _ => ⟨_, tg_name, rfl, by simp [hs]⟩) (by omega), hd2, List.map_map]
      rfl
    obtain ⟨x, u3, e4, o4, mx⟩ := e_any hz o3 (ds := L.map D.int) (by simp; omega) (by simp; omega) (x := .lst (L.map D.int)) (.inl rfl)
    obtain ⟨x, mx2, rfl⟩ := List.mem_map.mp mx
    obtain ⟨y, u4, e5, o5, my⟩ := e_any hz o4 (ds := L.map D.int) (by simp; omega) (by simp; omega) (x := .lst (L.map D.int)) (.inl rfl)
    obtain ⟨y, my2, rfl⟩ := List.mem_map.mp my
    have bx := bL x mx2
    have by_ := bL y my2
    obtain ⟨f, l, fl, f0, l4, hs⟩ : ∃ f l : Int, f ≤ l ∧ 0 ≤ f ∧ l ≤ 400 ∧ srt [x, y] = [f, l] := by
      by_cases c : x ≤ y
      · exact ⟨x, y, c, bx.1, by_.2, (srt_uniq (List.Perm.refl _) (by simp [c])).symm⟩
      · exact ⟨y, x, by omega, by_.1, bx.2, (srt_uniq (List.Perm.swap x y []) (by simp; omega)).symm⟩
    have sr : ∀ h : IHp, gSrtN h [.lst [.int x, .int y]] = some [.int f, .int l] := fun h => by
      rw [gSrtN_ints [x, y] rfl, hs]
      rfl
    have fk := e_lacking oa f0 fl l4
    have kok := lack_ok oa f0 l4
    have kcov := lack_cov oa f0 l4
    obtain ⟨gap, hgap⟩ : ∃ gap, gap = (rgI f (l + 1 - f).toNat).filter fun i => !decide (i ∈ days) := ⟨_, rfl⟩
    have gl : gap.length ≤ 401 := by
      rw [hgap]
      have := List.length_filter_le (fun i => !decide (i ∈ days)) (rgI f (l + 1 - f).toNat)
      rw [rgI_len] at this
      omega
    have r2 : rng2 [.int f, .int (l + 1)] = some (rngD f (l + 1 - f).toNat, none) := rng2_eq (smR_of ⟨by omega, by omega, by omega, by omega⟩)
    have lc2 : ∀ (s0 : ISt) (h : IHp), 12 < s0.length → s0[3]? = some (some (.lst (days.map D.int))) → lcD (rngD f (l + 1 - f).toNat, none) (.name 12) (mB (mOp gNotIn (mVar 12) (mVar 3))) (mVar 12) s0 (rngD f (l + 1 - f).toNat) [] h = .ok (gap.map D.int) h := fun s0 h hs h3 => by
      rw [rngD_I, lc_map (fun i => !decide (i ∈ days)) D.int (by simp) (rgI f (l + 1 - f).toNat) [] (fun i _ => ⟨_, tg_name, by simp [hs, h3, gNotIn_ints], fun _ => by simp [hs]⟩) (by simp; omega), hgap]
      rfl
    have rg := er gap (by omega)
    have bgap : ∀ d ∈ gap, 0 ≤ d ∧ d ≤ 400 := fun d m => by
      rw [hgap] at m
      have := mem_rgI.mp (List.mem_filter.mp m).1
      omega
    have eg : runs (asc gap) = lack A f l := okS_uniq (asc_days bgap).runs kok fun d => by
      rw [← (runs_inv (asc_sorted gap)).mem d, mem_asc, kcov, ← ca, hgap, List.mem_filter, mem_rgI]
      simp
      omega
    rw [eg] at rg
    have okfl : OkS [(f, l)] := ⟨fun p m => by rw [List.mem_singleton.mp m]; exact ⟨f0, fl, l4⟩, rfl⟩
    have fc := e_common oa okfl
    have cbd := comm_bd oa.ok okfl.ok
    have cok := mg_ok cbd
    have hcnt := parts oa f0 fl l4 kok cok kcov (fun d => by rw [mg_cov cbd, comm_cov, cov_one])
    have n1 := e_count kok
    have n2 := e_count cok
    have is1 := e_law_is (sh_prs kok) (by decide) (by decide) (Y.set 1 u4)
    simp only [List.map_cons, List.map_nil] at fc
    generalize mg (comm A [(f, l)]) = cm at fc cok hcnt n2
    generalize lack A f l = T at fk kok hcnt n1 is1 rg
    generalize ((daysL T).length : Int) = m1 at hcnt n1
    generalize ((daysL cm).length : Int) = m2 at hcnt n2
    obtain ⟨w2, u5, e6, o6, w20, w21⟩ := e_draw hz o5 (n := 801) (by decide) (by decide)
    obtain ⟨w3, u6, e7, o7, w30, w31⟩ := e_draw hz o6 (n := 21) (by decide) (by decide)
    obtain ⟨b, u7, e8, o8, mb⟩ := e_any hz o7 (ds := [.int 0, .int 1, .int (-1), .int 400, .int (-400), .int (w2 - 400), .int (w3 - 10)]) (by simp) (by simp) (x := .lst [.int 0, .int 1, .int (-1), .int 400, .int (-400), .int (w2 - 400), .int (w3 - 10)]) (.inl rfl)
    obtain ⟨b, rfl, b0, b1⟩ : ∃ i : Int, b = .int i ∧ -400 ≤ i ∧ i ≤ 400 := by
      simp only [List.mem_cons, List.not_mem_nil, or_false] at mb
      rcases mb with rfl | rfl | rfl | rfl | rfl | rfl | rfl <;> exact ⟨_, rfl, by omega, by omega⟩
    have fm := e_moved oa b0 b1
    rw [dA] at fm
    obtain ⟨js, hjs⟩ : ∃ js, js = (days.filter fun d => isDay (.int (d + b))).map fun d => d + b := ⟨_, rfl⟩
    have fl2 := List.length_filter_le (fun d => isDay (.int (d + b))) days
    have lj : js.length ≤ 401 := by rw [hjs, List.length_map]; omega
    have bj : ∀ d ∈ js, 0 ≤ d ∧ d ≤ 400 := fun d m => by
      rw [hjs] at m
      obtain ⟨x, mx, rfl⟩ := List.mem_map.mp m
      obtain ⟨i, e, i0, i1⟩ := isDay_int (List.mem_filter.mp mx).2
      cases e
      exact ⟨i0, i1⟩
    have lc3 : ∀ (s0 : ISt) (h : IHp), 12 < s0.length → s0[10]? = some (some (.int b)) → lcD (days.map D.int, none) (.name 12) (mB (mChain gLe gLe (mC (.int 0)) (mOp gAdd (mVar 12) (mVar 10)) (mC (.int 400)))) (mOp gAdd (mVar 12) (mVar 10)) s0 (days.map D.int) [] h = .ok (js.map D.int) h := fun s0 h hs h10 => by
      rw [lc_map (fun d => isDay (.int (d + b))) (fun d => D.int (d + b)) (by simp) days [] (fun i _ => ⟨_, tg_name, by
        by_cases c1 : 0 ≤ i + b <;> by_cases c2 : i + b ≤ 400 <;> simp [hs, h10, isDay, isBetw, c1, c2], fun _ => by simp [hs, h10]⟩) (by simp; omega), hjs, List.map_map]
      rfl
    rw [← hjs] at fm
    have rj := er js (by omega)
    have ojs := (asc_days bj).runs
    have is2 := e_law_is (sh_prs ojs) (by decide) (by decide) (Y.set 1 u7)
    obtain ⟨w4, u8, e9, o9, w40, w41⟩ := e_draw hz o8 (n := (days.length : Int) + 1) (by omega) (by omega)
    obtain ⟨q, u9, e10, o10, mq⟩ := e_any hz o9 (ds := [.int 0, .int 1, .int (days.length : Int), .int ((days.length : Int) + 1), .int P30, .int w4]) (by simp) (by simp) (x := .lst [.int 0, .int 1, .int (days.length : Int), .int ((days.length : Int) + 1), .int P30, .int w4]) (.inl rfl)
    obtain ⟨q, rfl, q0⟩ : ∃ i : Int, q = .int i ∧ 0 ≤ i := by
      have := p30
      simp only [List.mem_cons, List.not_mem_nil, or_false] at mq
      rcases mq with rfl | rfl | rfl | rfl | rfl | rfl <;> exact ⟨_, rfl, by omega⟩
    have ff := e_first oa q0
    rw [dA] at ff
    have ct := cut_any days q0
    have tl : (days.take q.toNat).length ≤ 401 := by rw [List.length_take]; omega
    have tm : ∀ d ∈ days.take q.toNat, 0 ≤ d ∧ d ≤ 400 := fun d m => dd.lo d (List.mem_of_mem_take m)
    generalize days.take q.toNat = tk at ff ct tl tm
    have rt := er tk (by omega)
    have is3 := e_law_is (sh_prs (asc_days tm).runs) (by decide) (by decide) (Y.set 1 u9)
    obtain ⟨u10, e11, o11⟩ := e_refused P hz o10 ht oa
    refine .eq (by
      simp [e2, ra, e3, g1, lc1, g2, e4, e5, sr, fk, r2, lc2, rg, is1, n1, fc, n2, hcnt, e6, e7, e8, fm, lc3, rj, is2, pw30, e9, e10, ff, ct, rt, is3, e11]) ⟨rfl, Y, u10, rfl, hz, o11, ht⟩
  · rintro s h ⟨rfl, Y, u, rfl, hz, o, ht⟩
    exact ⟨_, by simp; rfl⟩
end K02

set_option Elab.async false
set_option linter.all false
set_option maxRecDepth 100000
set_option maxHeartbeats 4000000
namespace K02
open PySem PySem.Spec PyProof.Rows L2 LamX Dn
abbrev s__law_word : Stmt := topS 33
theorem sc__law_word : FnScope ["call", "error", "flags"] ["call"] (defScope s__law_word) := ⟨rfl, rfl, rfl, by decide +kernel, rfl, by decide +kernel, by decide +kernel⟩
theorem word_ok {K : PySem.W.Frag} {mg : Str → Option Value} {g CP : Addr} {C0 C1 C2 : Addr} {oc : Value} {od : Option Addr} {kV doc pm : Value} {an : Option Addr} {cdv ct : Value} {osl : Array (Option Value)}
    (hm : mg "_law_word" = some (.ref g)) (lk : K.lookup g = some ⟨oc, od, .func (PySem.W.fnOf "_law_word" "_law_word" (defArgs s__law_word) (defBody s__law_word) (defScope s__law_word) .none kV doc pm an cdv ct), osl⟩) (hcg : PySem.W.codeIn K cdv "_law_word" = true) (hk : PySem.W.keepIn K (.ref g) = true)
    (mP : mg "PaperError" = some (.ref CP)) (hP : EH K CP) (eo : EO K) (bi : mg "isinstance" = none) (bv : mg "ValueError" = none)
    (m0 : mg "NoStretches" = some (.ref C0)) (h0 : EH K C0) (p0 : PySem.W.subIn K (.ref C0) (.ref CP) = some true)
    (m1 : mg "NoDay" = some (.ref C1)) (h1 : EH K C1) (p1 : PySem.W.subIn K (.ref C1) (.ref CP) = some true)
    (m2 : mg "NoNumber" = some (.ref C2)) (h2 : EH K C2) (p2 : PySem.W.subIn K (.ref C2) (.ref CP) = some true)
    (s0_1 : PySem.W.subIn K (.ref C0) (.ref C1) = some false)
    (s0_2 : PySem.W.subIn K (.ref C0) (.ref C2) = some false)
    (s1_0 : PySem.W.subIn K (.ref C1) (.ref C0) = some false)
    (s1_2 : PySem.W.subIn K (.ref C1) (.ref C2) = some false)
    (s2_0 : PySem.W.subIn K (.ref C2) (.ref C0) = some false)
    (s2_1 : PySem.W.subIn K (.ref C2) (.ref C1) = some false)
    : WordFn K mg "_law_word" cdW := by
  have k0_0 := h0.kit h0 h0.ss
  have k0_1 := h0.kit h1 s0_1
  have k0_2 := h0.kit h2 s0_2
  have k1_0 := h1.kit h0 s1_0
  have k1_1 := h1.kit h1 h1.ss
  have k1_2 := h1.kit h2 s1_2
  have k2_0 := h2.kit h0 s2_0
  have k2_1 := h2.kit h1 s2_1
  have k2_2 := h2.kit h2 h2.ss
  intro X eK em c P k n params body scope m p lpos pos hg TB hcode hr L hdef hbind hbody
  subst eK em
  have b := (fun_mk (st := s__law_word) lk hcg hk).binds (ps := ["call"]) fun _ _ _ _ _ _ us hl => match us, hl with | [_], _ => rfl
  have ef0 : flagsK X.K [C0, C1, C2] C0 = [true, false, false] := by simp [flagsK, k0_0, k0_1, k0_2]
  have ef1 : flagsK X.K [C0, C1, C2] C1 = [false, true, false] := by simp [flagsK, k1_0, k1_1, k1_2]
  have ef2 : flagsK X.K [C0, C1, C2] C2 = [false, false, true] := by simp [flagsK, k2_0, k2_1, k2_2]
  refine de_lam (cd := fun C => cdOf (flagsK X.K [C0, C1, C2] C)) (ok := fun C => C = C0 ∨ C = C1 ∨ C = C2) (k := k) (n := n) hg hm hk lk hcg b sc__law_word rfl (.inl rfl)
    (word_gives (es := []) rfl mP (by decide +kernel) (fun _ _ => rfl) (fun C hC => ?hw) fun s H C a oe pn hC hz hf => ?hsu) (fun y i C hy hC => ?hcd) TB hcode hr L hdef hbind hbody
  case hw =>
    rcases hC with rfl | rfl | rfl
    · exact ⟨h0.exc eo, hP.exm p0, h0.kitV⟩
    · exact ⟨h1.exc eo, hP.exm p1, h1.kitV⟩
    · exact ⟨h2.exc eo, hP.exm p2, h2.kitV⟩
  case hsu =>
    rcases hC with e | e | e
    · have e := e.symm
      subst e
      refine PSs.mono (suite_word (bs := [true, false, false]) (C := C0) sc__law_word.nd rfl rfl rfl rfl (.inl rfl) (.inl rfl) (.inl rfl) rfl ?_ (by rfl) bi (by rfl) bv (h0.exc eo) hz hf h0.kitV (by decide) rfl (fl_cons (b := true) rfl (.inl rfl) (by rfl) bi (h0.exc eo) hz hf (by rfl) m0 k0_0 (fl_cons (b := false) rfl (.inl rfl) (by rfl) bi (h0.exc eo) hz hf (by rfl) m1 k0_1 (fl_cons (b := false) rfl (.inl rfl) (by rfl) bi (h0.exc eo) hz hf (by rfl) m2 k0_2 fl_nil)))) fun D σ H ⟨q1, q2, q3⟩ => ⟨q1, q2, fun p nn => ?_⟩
      · have := hr.un
        show X.A.units + 3 + 64 < cLine
        omega
      · have z := q3 p ([true, false, false].map V.bl) nn
        rw [ef0] at z
        exact z
    · have e := e.symm
      subst e
      refine PSs.mono (suite_word (bs := [false, true, false]) (C := C1) sc__law_word.nd rfl rfl rfl rfl (.inl rfl) (.inl rfl) (.inl rfl) rfl ?_ (by rfl) bi (by rfl) bv (h1.exc eo) hz hf h1.kitV (by decide) rfl (fl_cons (b := false) rfl (.inl rfl) (by rfl) bi (h1.exc eo) hz hf (by rfl) m0 k1_0 (fl_cons (b := true) rfl (.inl rfl) (by rfl) bi (h1.exc eo) hz hf (by rfl) m1 k1_1 (fl_cons (b := false) rfl (.inl rfl) (by rfl) bi (h1.exc eo) hz hf (by rfl) m2 k1_2 fl_nil)))) fun D σ H ⟨q1, q2, q3⟩ => ⟨q1, q2, fun p nn => ?_⟩
      · have := hr.un
        show X.A.units + 3 + 64 < cLine
        omega
      · have z := q3 p ([false, true, false].map V.bl) nn
        rw [ef1] at z
        exact z
    · have e := e.symm
      subst e
      refine PSs.mono (suite_word (bs := [false, false, true]) (C := C2) sc__law_word.nd rfl rfl rfl rfl (.inl rfl) (.inl rfl) (.inl rfl) rfl ?_ (by rfl) bi (by rfl) bv (h2.exc eo) hz hf h2.kitV (by decide) rfl (fl_cons (b := false) rfl (.inl rfl) (by rfl) bi (h2.exc eo) hz hf (by rfl) m0 k2_0 (fl_cons (b := false) rfl (.inl rfl) (by rfl) bi (h2.exc eo) hz hf (by rfl) m1 k2_1 (fl_cons (b := true) rfl (.inl rfl) (by rfl) bi (h2.exc eo) hz hf (by rfl) m2 k2_2 fl_nil)))) fun D σ H ⟨q1, q2, q3⟩ => ⟨q1, q2, fun p nn => ?_⟩
      · have := hr.un
        show X.A.units + 3 + 64 < cLine
        omega
      · have z := q3 p ([false, false, true].map V.bl) nn
        rw [ef2] at z
        exact z
  case hcd =>
    unfold cdW at hy
    by_cases e0 : y = "NoStretches"
    · rw [if_pos e0] at hy
      subst e0
      rw [m0] at hC
      cases hC
      cases hy
      refine ⟨.inl rfl, ?_⟩
      show cdOf (flagsK X.K [C0, C1, C2] C0) = _
      rw [ef0]
      rfl
    rw [if_neg e0] at hy
    by_cases e1 : y = "NoDay"
    · rw [if_pos e1] at hy
      subst e1
      rw [m1] at hC
      cases hC
      cases hy
      refine ⟨.inr (.inl rfl), ?_⟩
      show cdOf (flagsK X.K [C0, C1, C2] C1) = _
      rw [ef1]
      rfl
    rw [if_neg e1] at hy
    by_cases e2 : y = "NoNumber"
    · rw [if_pos e2] at hy
      subst e2
      rw [m2] at hC
      cases hC
      cases hy
      refine ⟨.inr (.inr (rfl)), ?_⟩
      show cdOf (flagsK X.K [C0, C1, C2] C2) = _
      rw [ef2]
      rfl
    rw [if_neg e2] at hy
    cases hy
theorem all_mk {l : PySem.W.OpenLaw} {q : Program} {w : World} {K : PySem.W.Frag} {h : Heap} {mg : Str → Option Value} {fa f1 f2 f3 f4 f5 f6 f7 f8 f9 f10 f11 f12 f13 f14 f15 f16 f17 f18 f19 f20 f21 f22 f23 f24 f25 f26 : Addr} (X : K.In h) (G : h.Ns mainGlobals mg) (tf : TabOf q K h) (hfa : mg "law" = some (.ref fa))
    {od1 an1 od2 an2 od3 an3 od4 an4 od5 an5 od6 an6 od7 an7 od8 an8 od9 an9 od10 an10 od11 an11 od12 an12 od13 an13 od14 an14 od15 an15 od16 an16 od17 an17 od18 an18 od19 an19 od20 an20 od21 an21 od22 an22 od23 an23 od24 an24 od25 an25 od26 an26 : Option Addr} {sl1 sl2 sl3 sl4 sl5 sl6 sl7 sl8 sl9 sl10 sl11 sl12 sl13 sl14 sl15 sl16 sl17 sl18 sl19 sl20 sl21 sl22 sl23 sl24 sl25 sl26 : Array (Option Value)} {oc1 kV1 dc1 pm1 cd1 ct1 oc2 kV2 dc2 pm2 cd2 ct2 oc3 kV3 dc3 pm3 cd3 ct3 oc4 kV4 dc4 pm4 cd4 ct4 oc5 kV5 dc5 pm5 cd5 ct5 oc6 kV6 dc6 pm6 cd6 ct6 oc7 kV7 dc7 pm7 cd7 ct7 oc8 kV8 dc8 pm8 cd8 ct8 oc9 kV9 dc9 pm9 cd9 ct9 oc10 kV10 dc10 pm10 cd10 ct10 oc11 kV11 dc11 pm11 cd11 ct11 oc12 kV12 dc12 pm12 cd12 ct12 oc13 kV13 dc13 pm13 cd13 ct13 oc14 kV14 dc14 pm14 cd14 ct14 oc15 kV15 dc15 pm15 cd15 ct15 oc16 kV16 dc16 pm16 cd16 ct16 oc17 kV17 dc17 pm17 cd17 ct17 oc18 kV18 dc18 pm18 cd18 ct18 oc19 kV19 dc19 pm19 cd19 ct19 oc20 kV20 dc20 pm20 cd20 ct20 oc21 kV21 dc21 pm21 cd21 ct21 oc22 kV22 dc22 pm22 cd22 ct22 oc23 kV23 dc23 pm23 cd23 ct23 oc24 kV24 dc24 pm24 cd24 ct24 oc25 kV25 dc25 pm25 cd25 ct25 oc26 kV26 dc26 pm26 cd26 ct26 : Value} {t1 : Tok}
    (a1 : PySem.W.nsIn K mainGlobals "is_integer" = some (some (.ref f1)))
    (l1 : K.lookup f1 = some ⟨oc1, od1, .func (PySem.W.fnOf "is_integer" "is_integer" (defArgs s_is_integer) (defBody s_is_integer) (defScope s_is_integer) .none kV1 dc1 pm1 an1 cd1 ct1), sl1⟩)
    (c1 : PySem.W.codeIn K cd1 "is_integer" = true)
    (k1 : PySem.W.keepIn K (.ref f1) = true)
    (a2 : PySem.W.nsIn K mainGlobals "is_number" = some (some (.ref f2)))
    (l2 : K.lookup f2 = some ⟨oc2, od2, .func (PySem.W.fnOf "is_number" "is_number" (defArgs s_is_number) (defBody s_is_number) (defScope s_is_number) .none kV2 dc2 pm2 an2 cd2 ct2), sl2⟩)
    (c2 : PySem.W.codeIn K cd2 "is_number" = true)
    (k2 : PySem.W.keepIn K (.ref f2) = true)
    (a3 : PySem.W.nsIn K mainGlobals "is_between" = some (some (.ref f3)))
    (l3 : K.lookup f3 = some ⟨oc3, od3, .func (PySem.W.fnOf "is_between" "is_between" (defArgs s_is_between) (defBody s_is_between) (defScope s_is_between) .none kV3 dc3 pm3 an3 cd3 ct3), sl3⟩)
    (c3 : PySem.W.codeIn K cd3 "is_between" = true)
    (k3 : PySem.W.keepIn K (.ref f3) = true)
    (a4 : PySem.W.nsIn K mainGlobals "is_tuple_of" = some (some (.ref f4)))
    (l4 : K.lookup f4 = some ⟨oc4, od4, .func (PySem.W.fnOf "is_tuple_of" "is_tuple_of" (defArgs s_is_tuple_of) (defBody s_is_tuple_of) (defScope s_is_tuple_of) .none kV4 dc4 pm4 an4 cd4 ct4), sl4⟩)
    (c4 : PySem.W.codeIn K cd4 "is_tuple_of" = true)
    (k4 : PySem.W.keepIn K (.ref f4) = true)
    (a5 : PySem.W.nsIn K mainGlobals "is_day" = some (some (.ref f5)))
    (l5 : K.lookup f5 = some ⟨oc5, od5, .func (PySem.W.fnOf "is_day" "is_day" (defArgs s_is_day) (defBody s_is_day) (defScope s_is_day) .none kV5 dc5 pm5 an5 cd5 ct5), sl5⟩)
    (c5 : PySem.W.codeIn K cd5 "is_day" = true)
    (k5 : PySem.W.keepIn K (.ref f5) = true)
    (a6 : PySem.W.nsIn K mainGlobals "need_days" = some (some (.ref f6)))
    (l6 : K.lookup f6 = some ⟨oc6, od6, .func (PySem.W.fnOf "need_days" "need_days" (defArgs s_need_days) (defBody s_need_days) (defScope s_need_days) .none kV6 dc6 pm6 an6 cd6 ct6), sl6⟩)
    (c6 : PySem.W.codeIn K cd6 "need_days" = true)
    (k6 : PySem.W.keepIn K (.ref f6) = true)
    (a7 : PySem.W.nsIn K mainGlobals "is_stretch" = some (some (.ref f7)))
    (l7 : K.lookup f7 = some ⟨oc7, od7, .func (PySem.W.fnOf "is_stretch" "is_stretch" (defArgs s_is_stretch) (defBody s_is_stretch) (defScope s_is_stretch) .none kV7 dc7 pm7 an7 cd7 ct7), sl7⟩)
    (c7 : PySem.W.codeIn K cd7 "is_stretch" = true)
    (k7 : PySem.W.keepIn K (.ref f7) = true)
    (a8 : PySem.W.nsIn K mainGlobals "is_stretches" = some (some (.ref f8)))
    (l8 : K.lookup f8 = some ⟨oc8, od8, .func (PySem.W.fnOf "is_stretches" "is_stretches" (defArgs s_is_stretches) (defBody s_is_stretches) (defScope s_is_stretches) .none kV8 dc8 pm8 an8 cd8 ct8), sl8⟩)
    (c8 : PySem.W.codeIn K cd8 "is_stretches" = true)
    (k8 : PySem.W.keepIn K (.ref f8) = true)
    (a9 : PySem.W.nsIn K mainGlobals "need_stretches" = some (some (.ref f9)))
    (l9 : K.lookup f9 = some ⟨oc9, od9, .func (PySem.W.fnOf "need_stretches" "need_stretches" (defArgs s_need_stretches) (defBody s_need_stretches) (defScope s_need_stretches) .none kV9 dc9 pm9 an9 cd9 ct9), sl9⟩)
    (c9 : PySem.W.codeIn K cd9 "need_stretches" = true)
    (k9 : PySem.W.keepIn K (.ref f9) = true)
    (a10 : PySem.W.nsIn K mainGlobals "merged" = some (some (.ref f10)))
    (l10 : K.lookup f10 = some ⟨oc10, od10, .func (PySem.W.fnOf "merged" "merged" (defArgs s_merged) (defBody s_merged) (defScope s_merged) .none kV10 dc10 pm10 an10 cd10 ct10), sl10⟩)
    (c10 : PySem.W.codeIn K cd10 "merged" = true)
    (k10 : PySem.W.keepIn K (.ref f10) = true)
    (a11 : PySem.W.nsIn K mainGlobals "raw_days" = some (some (.ref f11)))
    (l11 : K.lookup f11 = some ⟨oc11, od11, .func (PySem.W.fnOf "raw_days" "raw_days" (defArgs s_raw_days) (defBody s_raw_days) (defScope s_raw_days) .none kV11 dc11 pm11 an11 cd11 ct11), sl11⟩)
    (c11 : PySem.W.codeIn K cd11 "raw_days" = true)
    (k11 : PySem.W.keepIn K (.ref f11) = true)
    (a12 : PySem.W.nsIn K mainGlobals "day_count" = some (some (.ref f12)))
    (l12 : K.lookup f12 = some ⟨oc12, od12, .func (PySem.W.fnOf "day_count" "day_count" (defArgs s_day_count) (defBody s_day_count) (defScope s_day_count) .none kV12 dc12 pm12 an12 cd12 ct12), sl12⟩)
    (c12 : PySem.W.codeIn K cd12 "day_count" = true)
    (k12 : PySem.W.keepIn K (.ref f12) = true)
    (a13 : PySem.W.nsIn K mainGlobals "common_of" = some (some (.ref f13)))
    (l13 : K.lookup f13 = some ⟨oc13, od13, .func (PySem.W.fnOf "common_of" "common_of" (defArgs s_common_of) (defBody s_common_of) (defScope s_common_of) .none kV13 dc13 pm13 an13 cd13 ct13), sl13⟩)
    (c13 : PySem.W.codeIn K cd13 "common_of" = true)
    (k13 : PySem.W.keepIn K (.ref f13) = true)
    (a14 : PySem.W.nsIn K mainGlobals "raw_lacking" = some (some (.ref f14)))
    (l14 : K.lookup f14 = some ⟨oc14, od14, .func (PySem.W.fnOf "raw_lacking" "raw_lacking" (defArgs s_raw_lacking) (defBody s_raw_lacking) (defScope s_raw_lacking) .none kV14 dc14 pm14 an14 cd14 ct14), sl14⟩)
    (c14 : PySem.W.codeIn K cd14 "raw_lacking" = true)
    (k14 : PySem.W.keepIn K (.ref f14) = true)
    (a15 : PySem.W.nsIn K mainGlobals "lacking" = some (some (.ref f15)))
    (l15 : K.lookup f15 = some ⟨oc15, od15, .func (PySem.W.fnOf "lacking" "lacking" (defArgs s_lacking) (defBody s_lacking) (defScope s_lacking) .none kV15 dc15 pm15 an15 cd15 ct15), sl15⟩)
    (c15 : PySem.W.codeIn K cd15 "lacking" = true)
    (k15 : PySem.W.keepIn K (.ref f15) = true)
    (a16 : PySem.W.nsIn K mainGlobals "moved" = some (some (.ref f16)))
    (l16 : K.lookup f16 = some ⟨oc16, od16, .func (PySem.W.fnOf "moved" "moved" (defArgs s_moved) (defBody s_moved) (defScope s_moved) .none kV16 dc16 pm16 an16 cd16 ct16), sl16⟩)
    (c16 : PySem.W.codeIn K cd16 "moved" = true)
    (k16 : PySem.W.keepIn K (.ref f16) = true)
    (a17 : PySem.W.nsIn K mainGlobals "first_part" = some (some (.ref f17)))
    (l17 : K.lookup f17 = some ⟨oc17, od17, .func (PySem.W.fnOf "first_part" "first_part" (defArgs s_first_part) (defBody s_first_part) (defScope s_first_part) .none kV17 dc17 pm17 an17 cd17 ct17), sl17⟩)
    (c17 : PySem.W.codeIn K cd17 "first_part" = true)
    (k17 : PySem.W.keepIn K (.ref f17) = true)
    (a18 : PySem.W.nsIn K mainGlobals "_law_hand" = some (some (.ref f18)))
    (l18 : K.lookup f18 = some ⟨oc18, od18, .func (PySem.W.fnOf "_law_hand" "_law_hand" (defArgs s__law_hand) (defBody s__law_hand) (defScope s__law_hand) .none kV18 dc18 pm18 an18 cd18 ct18), sl18⟩)
    (c18 : PySem.W.codeIn K cd18 "_law_hand" = true)
    (k18 : PySem.W.keepIn K (.ref f18) = true)
    (a19 : PySem.W.nsIn K mainGlobals "_law_draw" = some (some (.ref f19)))
    (l19 : K.lookup f19 = some ⟨oc19, od19, .func (PySem.W.fnOf "_law_draw" "_law_draw" (defArgs s__law_draw) (defBody s__law_draw) (defScope s__law_draw) .none kV19 dc19 pm19 an19 cd19 ct19), sl19⟩)
    (c19 : PySem.W.codeIn K cd19 "_law_draw" = true)
    (k19 : PySem.W.keepIn K (.ref f19) = true)
    (a20 : PySem.W.nsIn K mainGlobals "_law_any" = some (some (.ref f20)))
    (l20 : K.lookup f20 = some ⟨oc20, od20, .func (PySem.W.fnOf "_law_any" "_law_any" (defArgs s__law_any) (defBody s__law_any) (defScope s__law_any) .none kV20 dc20 pm20 an20 cd20 ct20), sl20⟩)
    (c20 : PySem.W.codeIn K cd20 "_law_any" = true)
    (k20 : PySem.W.keepIn K (.ref f20) = true)
    (a21 : PySem.W.nsIn K mainGlobals "_law_is" = some (some (.ref f21)))
    (l21 : K.lookup f21 = some ⟨oc21, od21, .func (PySem.W.fnOf "_law_is" "_law_is" (defArgs s__law_is) (defBody s__law_is) (defScope s__law_is) .none kV21 dc21 pm21 an21 cd21 ct21), sl21⟩)
    (c21 : PySem.W.codeIn K cd21 "_law_is" = true)
    (k21 : PySem.W.keepIn K (.ref f21) = true)
    (a22 : PySem.W.nsIn K mainGlobals "_law_runs" = some (some (.ref f22)))
    (l22 : K.lookup f22 = some ⟨oc22, od22, .func (PySem.W.fnOf "_law_runs" "_law_runs" (defArgs s__law_runs) (defBody s__law_runs) (defScope s__law_runs) .none kV22 dc22 pm22 an22 cd22 ct22), sl22⟩)
    (c22 : PySem.W.codeIn K cd22 "_law_runs" = true)
    (k22 : PySem.W.keepIn K (.ref f22) = true)
    (a23 : PySem.W.nsIn K mainGlobals "_law_all" = some (some (.ref f23)))
    (l23 : K.lookup f23 = some ⟨oc23, od23, .func (PySem.W.fnOf "_law_all" "_law_all" (defArgs s__law_all) (defBody s__law_all) (defScope s__law_all) .none kV23 dc23 pm23 an23 cd23 ct23), sl23⟩)
    (c23 : PySem.W.codeIn K cd23 "_law_all" = true)
    (k23 : PySem.W.keepIn K (.ref f23) = true)
    (a24 : PySem.W.nsIn K mainGlobals "_law_days" = some (some (.ref f24)))
    (l24 : K.lookup f24 = some ⟨oc24, od24, .func (PySem.W.fnOf "_law_days" "_law_days" (defArgs s__law_days) (defBody s__law_days) (defScope s__law_days) .none kV24 dc24 pm24 an24 cd24 ct24), sl24⟩)
    (c24 : PySem.W.codeIn K cd24 "_law_days" = true)
    (k24 : PySem.W.keepIn K (.ref f24) = true)
    (a25 : PySem.W.nsIn K mainGlobals "_law_are_refused" = some (some (.ref f25)))
    (l25 : K.lookup f25 = some ⟨oc25, od25, .func (PySem.W.fnOf "_law_are_refused" "_law_are_refused" (defArgs s__law_are_refused) (defBody s__law_are_refused) (defScope s__law_are_refused) .none kV25 dc25 pm25 an25 cd25 ct25), sl25⟩)
    (c25 : PySem.W.codeIn K cd25 "_law_are_refused" = true)
    (k25 : PySem.W.keepIn K (.ref f25) = true)
    (a26 : PySem.W.nsIn K mainGlobals "law" = some (some (.ref f26)))
    (l26 : K.lookup f26 = some ⟨oc26, od26, .func (PySem.W.fnOf "law" "law" (defArgs s_law) (defBody s_law) (defScope s_law) .none kV26 dc26 pm26 an26 cd26 ct26), sl26⟩)
    (c26 : PySem.W.codeIn K cd26 "law" = true)
    (k26 : PySem.W.keepIn K (.ref f26) = true)
    (z_abs : PySem.W.nsIn K mainGlobals "abs" = some none)
    (z_all : PySem.W.nsIn K mainGlobals "all" = some none)
    (z_bool : PySem.W.nsIn K mainGlobals "bool" = some none)
    (z_int : PySem.W.nsIn K mainGlobals "int" = some none)
    (z_isinstance : PySem.W.nsIn K mainGlobals "isinstance" = some none)
    (z_len : PySem.W.nsIn K mainGlobals "len" = some none)
    (z_list : PySem.W.nsIn K mainGlobals "list" = some none)
    (z_max : PySem.W.nsIn K mainGlobals "max" = some none)
    (z_min : PySem.W.nsIn K mainGlobals "min" = some none)
    (z_range : PySem.W.nsIn K mainGlobals "range" = some none)
    (z_repr : PySem.W.nsIn K mainGlobals "repr" = some none)
    (z_set : PySem.W.nsIn K mainGlobals "set" = some none)
    (z_sorted : PySem.W.nsIn K mainGlobals "sorted" = some none)
    (z_sum : PySem.W.nsIn K mainGlobals "sum" = some none)
    (z_tuple : PySem.W.nsIn K mainGlobals "tuple" = some none)
    (z_ValueError : PySem.W.nsIn K mainGlobals "ValueError" = some none)
    (y1 : PySem.W.nsIn K mainGlobals "LAST_DAY" = some (some (.int 400 t1)))
    {D_NoDay D_NoNumber D_NoStretches D_PaperError : Addr}
    (n_NoDay : PySem.W.nsIn K mainGlobals "NoDay" = some (some (.ref D_NoDay)))
    (x1_NoDay : PySem.W.keepIn K (.ref D_NoDay) = true)
    (x2_NoDay : PySem.W.excIn K D_NoDay [.type "ValueError", .type "Exception", .type "BaseException", .type "object"] "ValueError.__new__" = true)
    (x3_NoDay : PySem.W.subIn K (.ref D_NoDay) (.type "BaseException") = some true)
    (x4_NoDay : PySem.W.typeIn K (.ref D_NoDay) = some (.type "type"))
    (x5_NoDay : PySem.W.isClsIn K D_NoDay = true)
    (x6_NoDay : PySem.W.subIn K (.ref D_NoDay) (.type "ValueError") = some true)
    (x7_NoDay : PySem.W.subIn K (.ref D_NoDay) (.ref D_NoDay) = some true)
    (x8_NoDay : PySem.W.findIn K (.ref D_NoDay) "__getattribute__" = some (some (.builtin "BaseException.__getattribute__")))
    (x9_NoDay : PySem.W.findIn K (.ref D_NoDay) "__getattr__" = some none)
    (xa_NoDay : PySem.W.hasDictIn K D_NoDay = true)
    (xb_NoDay : PySem.W.findIn K (.ref D_NoDay) "__class__" = some (some (.builtin "object.__class__")))
    (xc_NoDay : PySem.W.mroIn K D_NoDay (.type "object") = some true)
    (n_NoNumber : PySem.W.nsIn K mainGlobals "NoNumber" = some (some (.ref D_NoNumber)))
    (x1_NoNumber : PySem.W.keepIn K (.ref D_NoNumber) = true)
    (x2_NoNumber : PySem.W.excIn K D_NoNumber [.type "ValueError", .type "Exception", .type "BaseException", .type "object"] "ValueError.__new__" = true)
    (x3_NoNumber : PySem.W.subIn K (.ref D_NoNumber) (.type "BaseException") = some true)
    (x4_NoNumber : PySem.W.typeIn K (.ref D_NoNumber) = some (.type "type"))
    (x5_NoNumber : PySem.W.isClsIn K D_NoNumber = true)
    (x6_NoNumber : PySem.W.subIn K (.ref D_NoNumber) (.type "ValueError") = some true)
    (x7_NoNumber : PySem.W.subIn K (.ref D_NoNumber) (.ref D_NoNumber) = some true)
    (x8_NoNumber : PySem.W.findIn K (.ref D_NoNumber) "__getattribute__" = some (some (.builtin "BaseException.__getattribute__")))
    (x9_NoNumber : PySem.W.findIn K (.ref D_NoNumber) "__getattr__" = some none)
    (xa_NoNumber : PySem.W.hasDictIn K D_NoNumber = true)
    (xb_NoNumber : PySem.W.findIn K (.ref D_NoNumber) "__class__" = some (some (.builtin "object.__class__")))
    (xc_NoNumber : PySem.W.mroIn K D_NoNumber (.type "object") = some true)
    (n_NoStretches : PySem.W.nsIn K mainGlobals "NoStretches" = some (some (.ref D_NoStretches)))
    (x1_NoStretches : PySem.W.keepIn K (.ref D_NoStretches) = true)
    (x2_NoStretches : PySem.W.excIn K D_NoStretches [.type "ValueError", .type "Exception", .type "BaseException", .type "object"] "ValueError.__new__" = true)
    (x3_NoStretches : PySem.W.subIn K (.ref D_NoStretches) (.type "BaseException") = some true)
    (x4_NoStretches : PySem.W.typeIn K (.ref D_NoStretches) = some (.type "type"))
    (x5_NoStretches : PySem.W.isClsIn K D_NoStretches = true)
    (x6_NoStretches : PySem.W.subIn K (.ref D_NoStretches) (.type "ValueError") = some true)
    (x7_NoStretches : PySem.W.subIn K (.ref D_NoStretches) (.ref D_NoStretches) = some true)
    (x8_NoStretches : PySem.W.findIn K (.ref D_NoStretches) "__getattribute__" = some (some (.builtin "BaseException.__getattribute__")))
    (x9_NoStretches : PySem.W.findIn K (.ref D_NoStretches) "__getattr__" = some none)
    (xa_NoStretches : PySem.W.hasDictIn K D_NoStretches = true)
    (xb_NoStretches : PySem.W.findIn K (.ref D_NoStretches) "__class__" = some (some (.builtin "object.__class__")))
    (xc_NoStretches : PySem.W.mroIn K D_NoStretches (.type "object") = some true)
    (n_PaperError : PySem.W.nsIn K mainGlobals "PaperError" = some (some (.ref D_PaperError)))
    (x3_PaperError : PySem.W.subIn K (.ref D_PaperError) (.type "BaseException") = some true)
    (x4_PaperError : PySem.W.typeIn K (.ref D_PaperError) = some (.type "type"))
    (x5_PaperError : PySem.W.isClsIn K D_PaperError = true)
    (x6_PaperError : PySem.W.subIn K (.ref D_PaperError) (.type "ValueError") = some true)
    (x7_PaperError : PySem.W.subIn K (.ref D_PaperError) (.ref D_PaperError) = some true)
    (x8_PaperError : PySem.W.findIn K (.ref D_PaperError) "__getattribute__" = some (some (.builtin "BaseException.__getattribute__")))
    (x9_PaperError : PySem.W.findIn K (.ref D_PaperError) "__getattr__" = some none)
    (xa_PaperError : PySem.W.hasDictIn K D_PaperError = true)
    (xb_PaperError : PySem.W.findIn K (.ref D_PaperError) "__class__" = some (some (.builtin "object.__class__")))
    (xc_PaperError : PySem.W.mroIn K D_PaperError (.type "object") = some true)
    (o1 : PySem.W.specialIn K (.builtin "object.__class__") "__get__" = some (some (.builtin "getset_descriptor.__get__")))
    (o2 : PySem.W.takesIn K (.builtin "object.__class__") = some true)
    (sp_NoStretches : PySem.W.subIn K (.ref D_NoStretches) (.ref D_PaperError) = some true)
    (sp_NoDay : PySem.W.subIn K (.ref D_NoDay) (.ref D_PaperError) = some true)
    (sp_NoNumber : PySem.W.subIn K (.ref D_NoNumber) (.ref D_PaperError) = some true)
    (s_NoStretches_NoDay : PySem.W.subIn K (.ref D_NoStretches) (.ref D_NoDay) = some false)
    (s_NoStretches_NoNumber : PySem.W.subIn K (.ref D_NoStretches) (.ref D_NoNumber) = some false)
    (s_NoDay_NoStretches : PySem.W.subIn K (.ref D_NoDay) (.ref D_NoStretches) = some false)
    (s_NoDay_NoNumber : PySem.W.subIn K (.ref D_NoDay) (.ref D_NoNumber) = some false)
    (s_NoNumber_NoStretches : PySem.W.subIn K (.ref D_NoNumber) (.ref D_NoStretches) = some false)
    (s_NoNumber_NoDay : PySem.W.subIn K (.ref D_NoNumber) (.ref D_NoDay) = some false)
    {gw : Addr} {ocw kVw dcw pmw cdw ctw : Value} {odw anw : Option Addr} {slw : Array (Option Value)}
    (aw : PySem.W.nsIn K mainGlobals "_law_word" = some (some (.ref gw)))
    (lw : K.lookup gw = some ⟨ocw, odw, .func (PySem.W.fnOf "_law_word" "_law_word" (defArgs s__law_word) (defBody s__law_word) (defScope s__law_word) .none kVw dcw pmw anw cdw ctw), slw⟩)
    (cw : PySem.W.codeIn K cdw "_law_word" = true)
    (kw : PySem.W.keepIn K (.ref gw) = true)
    {A__law_are_refused P__law_are_refused : Addr} {cc__law_are_refused : Value} {dd__law_are_refused : Option Addr} {vv__law_are_refused : Array Value} {ss__law_are_refused : Array (Option Value)} {R__law_are_refused : DefRec}
    (tc__law_are_refused : cd25 = .ref A__law_are_refused)
    (tl__law_are_refused : K.lookup A__law_are_refused = some ⟨cc__law_are_refused, dd__law_are_refused, .fields vv__law_are_refused, ss__law_are_refused⟩)
    (tv__law_are_refused : vv__law_are_refused[11]? = some (.ref P__law_are_refused))
    (tn__law_are_refused : K.lookup P__law_are_refused = none)
    (tr__law_are_refused : (recsOf q).find? (fun e => e.name == ("_law_are_refused" : Str)) = some R__law_are_refused)
    (hl : ∀ ns : List Int, ns.length ≤ 63 → ∃ h, m_law P__law_are_refused [.scr (ns.map D.int)] [IO.tab P__law_are_refused (("_law_are_refused" : Str) ++ ".<locals>." ++ "<lambda>")] = .ok (.bl true) h) :
    ∃ (fd : FuncData) (cs : List (Addr × Addr)) (sp : Sp), TabsAt K h cs ∧ (∀ (s : Shared) (v : Value), BindsTo s fd ⟨[v], []⟩ [("script", v)]) ∧ (∀ (H : Hp) (a : Addr) (ns : List Int), ns.length ≤ 63 → Start K H cs a ns → sp [.ref a] H (fun v _ => v = .bl true) fun _ _ _ => False) ∧
      ∀ base : Heap, K.In base → base.Ns mainGlobals mg → (∀ p ∈ cs, TabB base mg p.1 p.2) → FnG true l.prog w K mg base 11 fa fd ["script"] sp := by
  have e := hfa.symm.trans (PySem.W.mg_of X G a26)
  cases e
  subst tc__law_are_refused
  have F1 := fun_mk (st := s_is_integer) l1 c1 k1
  have F2 := fun_mk (st := s_is_number) l2 c2 k2
  have F3 := fun_mk (st := s_is_between) l3 c3 k3
  have F4 := fun_mk (st := s_is_tuple_of) l4 c4 k4
  have F5 := fun_mk (st := s_is_day) l5 c5 k5
  have F6 := fun_mk (st := s_need_days) l6 c6 k6
  have F7 := fun_mk (st := s_is_stretch) l7 c7 k7
  have F8 := fun_mk (st := s_is_stretches) l8 c8 k8
  have F9 := fun_mk (st := s_need_stretches) l9 c9 k9
  have F10 := fun_mk (st := s_merged) l10 c10 k10
  have F11 := fun_mk (st := s_raw_days) l11 c11 k11
  have F12 := fun_mk (st := s_day_count) l12 c12 k12
  have F13 := fun_mk (st := s_common_of) l13 c13 k13
  have F14 := fun_mk (st := s_raw_lacking) l14 c14 k14
  have F15 := fun_mk (st := s_lacking) l15 c15 k15
  have F16 := fun_mk (st := s_moved) l16 c16 k16
  have F17 := fun_mk (st := s_first_part) l17 c17 k17
  have F18 := fun_mk (st := s__law_hand) l18 c18 k18
  have F19 := fun_mk (st := s__law_draw) l19 c19 k19
  have F20 := fun_mk (st := s__law_any) l20 c20 k20
  have F21 := fun_mk (st := s__law_is) l21 c21 k21
  have F22 := fun_mk (st := s__law_runs) l22 c22 k22
  have F23 := fun_mk (st := s__law_all) l23 c23 k23
  have F24 := fun_mk (st := s__law_days) l24 c24 k24
  have F25 := FunC.mk' (st := s__law_are_refused) l25 c25 k25
  have F26 := fun_mk (st := s_law) l26 c26 k26
  have b1 := F1.binds (ps := ["thing"]) fun _ _ _ _ _ _ us hl => match us, hl with | [_], _ => rfl
  have b2 := F2.binds (ps := ["thing"]) fun _ _ _ _ _ _ us hl => match us, hl with | [_], _ => rfl
  have b3 := F3.binds (ps := ["thing", "least", "most"]) fun _ _ _ _ _ _ us hl => match us, hl with | [_, _, _], _ => rfl
  have b4 := F4.binds (ps := ["thing", "many"]) fun _ _ _ _ _ _ us hl => match us, hl with | [_, _], _ => rfl
  have b5 := F5.binds (ps := ["thing"]) fun _ _ _ _ _ _ us hl => match us, hl with | [_], _ => rfl
  have b6 := F6.binds (ps := ["first", "last"]) fun _ _ _ _ _ _ us hl => match us, hl with | [_, _], _ => rfl
  have b7 := F7.binds (ps := ["thing"]) fun _ _ _ _ _ _ us hl => match us, hl with | [_], _ => rfl
  have b8 := F8.binds (ps := ["thing"]) fun _ _ _ _ _ _ us hl => match us, hl with | [_], _ => rfl
  have b9 := F9.binds (ps := ["thing"]) fun _ _ _ _ _ _ us hl => match us, hl with | [_], _ => rfl
  have b10 := F10.binds (ps := ["pairs"]) fun _ _ _ _ _ _ us hl => match us, hl with | [_], _ => rfl
  have b11 := F11.binds (ps := ["stretches"]) fun _ _ _ _ _ _ us hl => match us, hl with | [_], _ => rfl
  have b12 := F12.binds (ps := ["stretches"]) fun _ _ _ _ _ _ us hl => match us, hl with | [_], _ => rfl
  have b13 := F13.binds (ps := ["one", "other"]) fun _ _ _ _ _ _ us hl => match us, hl with | [_, _], _ => rfl
  have b14 := F14.binds (ps := ["stretches", "first", "last"]) fun _ _ _ _ _ _ us hl => match us, hl with | [_, _, _], _ => rfl
  have b15 := F15.binds (ps := ["stretches", "first", "last"]) fun _ _ _ _ _ _ us hl => match us, hl with | [_, _, _], _ => rfl
  have b16 := F16.binds (ps := ["stretches", "by"]) fun _ _ _ _ _ _ us hl => match us, hl with | [_, _], _ => rfl
  have b17 := F17.binds (ps := ["stretches", "many"]) fun _ _ _ _ _ _ us hl => match us, hl with | [_, _], _ => rfl
  have b18 := F18.binds (ps := ["script"]) fun _ _ _ _ _ _ us hl => match us, hl with | [_], _ => rfl
  have b19 := F19.binds (ps := ["hand", "many"]) fun _ _ _ _ _ _ us hl => match us, hl with | [_, _], _ => rfl
  have b20 := F20.binds (ps := ["hand", "some"]) fun _ _ _ _ _ _ us hl => match us, hl with | [_, _], _ => rfl
  have b21 := F21.binds (ps := ["told", "due"]) fun _ _ _ _ _ _ us hl => match us, hl with | [_, _], _ => rfl
  have b22 := F22.binds (ps := ["days"]) fun _ _ _ _ _ _ us hl => match us, hl with | [_], _ => rfl
  have b23 := F23.binds (ps := ["stretches"]) fun _ _ _ _ _ _ us hl => match us, hl with | [_], _ => rfl
  have b24 := F24.binds (ps := ["hand"]) fun _ _ _ _ _ _ us hl => match us, hl with | [_], _ => rfl
  have b25 := (fun_mk (st := s__law_are_refused) l25 c25 k25).binds (ps := ["hand", "a"]) fun _ _ _ _ _ _ us hl => match us, hl with | [_, _], _ => rfl
  have T : Tops K mg := ⟨PySem.W.mg_none_of X G z_abs, PySem.W.mg_none_of X G z_all, PySem.W.mg_none_of X G z_bool, PySem.W.mg_none_of X G z_int, PySem.W.mg_none_of X G z_isinstance, PySem.W.mg_none_of X G z_len, PySem.W.mg_none_of X G z_list, PySem.W.mg_none_of X G z_max, PySem.W.mg_none_of X G z_min, PySem.W.mg_none_of X G z_range, PySem.W.mg_none_of X G z_repr, PySem.W.mg_none_of X G z_set, PySem.W.mg_none_of X G z_sorted, PySem.W.mg_none_of X G z_sum, PySem.W.mg_none_of X G z_tuple, ⟨t1, PySem.W.mg_of X G y1⟩, (EC.mk (PySem.W.mg_of X G n_NoDay) x1_NoDay x2_NoDay x3_NoDay x4_NoDay).err, (EC.mk (PySem.W.mg_of X G n_NoNumber) x1_NoNumber x2_NoNumber x3_NoNumber x4_NoNumber).err, (EC.mk (PySem.W.mg_of X G n_NoStretches) x1_NoStretches x2_NoStretches x3_NoStretches x4_NoStretches).err⟩
  have H_NoStretches : EH K D_NoStretches := ⟨x3_NoStretches, x4_NoStretches, x5_NoStretches, x6_NoStretches, x7_NoStretches, x8_NoStretches, x9_NoStretches, xa_NoStretches, xb_NoStretches, xc_NoStretches⟩
  have H_NoDay : EH K D_NoDay := ⟨x3_NoDay, x4_NoDay, x5_NoDay, x6_NoDay, x7_NoDay, x8_NoDay, x9_NoDay, xa_NoDay, xb_NoDay, xc_NoDay⟩
  have H_NoNumber : EH K D_NoNumber := ⟨x3_NoNumber, x4_NoNumber, x5_NoNumber, x6_NoNumber, x7_NoNumber, x8_NoNumber, x9_NoNumber, xa_NoNumber, xb_NoNumber, xc_NoNumber⟩
  have H_PaperError : EH K D_PaperError := ⟨x3_PaperError, x4_PaperError, x5_PaperError, x6_PaperError, x7_PaperError, x8_PaperError, x9_PaperError, xa_PaperError, xb_PaperError, xc_PaperError⟩
  have Wd := word_ok (PySem.W.mg_of X G aw) lw cw kw (PySem.W.mg_of X G n_PaperError) H_PaperError ⟨o1, o2⟩ (PySem.W.mg_none_of X G z_isinstance) (PySem.W.mg_none_of X G z_ValueError) (PySem.W.mg_of X G n_NoStretches) H_NoStretches sp_NoStretches (PySem.W.mg_of X G n_NoDay) H_NoDay sp_NoDay (PySem.W.mg_of X G n_NoNumber) H_NoNumber sp_NoNumber s_NoStretches_NoDay s_NoStretches_NoNumber s_NoDay_NoStretches s_NoDay_NoNumber s_NoNumber_NoStretches s_NoNumber_NoDay
  have tb__law_are_refused := tf R__law_are_refused "_law_are_refused" A__law_are_refused P__law_are_refused tr__law_are_refused (tab_in a25 l25 rfl tl__law_are_refused tv__law_are_refused)
  refine ⟨PySem.W.fnOf "law" "law" (defArgs s_law) (defBody s_law) (defScope s_law) .none kV26 dc26 pm26 an26 cd26 ct26, [(A__law_are_refused, P__law_are_refused)], spLawT K 63 [(A__law_are_refused, P__law_are_refused)], ⟨?_, ?_, ?_⟩, fun s v => .of_eq rfl, spLawT_ok, fun base _ _ TB => law_impT [(P__law_are_refused, (("_law_are_refused" : Str) ++ ".<locals>." ++ "<lambda>"))] ?_ rfl (by simp [tabSet]) hl⟩
  · intro p hp
    simp only [List.mem_cons, List.not_mem_nil, or_false] at hp
    rcases hp with rfl
    · exact tb__law_are_refused.2
  · intro p hp
    simp only [List.mem_cons, List.not_mem_nil, or_false] at hp
    rcases hp with rfl
    · exact tn__law_are_refused
  · intro p hp
    simp only [List.mem_cons, List.not_mem_nil, or_false] at hp
    rcases hp with rfl
    · exact tb__law_are_refused.1
  have g_is_integer : DefAt false l.prog w K mg base 1 "is_integer" 1 m_is_integer := ok_is_integer F1 (PySem.W.mg_of X G a1) b1 T 
  have g_is_number : DefAt false l.prog w K mg base 2 "is_number" 1 m_is_number := ok_is_number F2 (PySem.W.mg_of X G a2) b2 T (g_is_integer.mono (by decide))
  have g_is_between : DefAt false l.prog w K mg base 2 "is_between" 3 m_is_between := ok_is_between F3 (PySem.W.mg_of X G a3) b3 T (g_is_integer.mono (by decide))
  have g_is_tuple_of : DefAt false l.prog w K mg base 1 "is_tuple_of" 2 m_is_tuple_of := ok_is_tuple_of F4 (PySem.W.mg_of X G a4) b4 T 
  have g_is_day : DefAt false l.prog w K mg base 3 "is_day" 1 m_is_day := ok_is_day F5 (PySem.W.mg_of X G a5) b5 T (g_is_between.mono (by decide))
  have g_need_days : DefAt false l.prog w K mg base 4 "need_days" 2 m_need_days := ok_need_days F6 (PySem.W.mg_of X G a6) b6 T (g_is_day.mono (by decide))
  have g_is_stretch : DefAt false l.prog w K mg base 4 "is_stretch" 1 m_is_stretch := ok_is_stretch F7 (PySem.W.mg_of X G a7) b7 T (g_is_tuple_of.mono (by decide)) (g_is_day.mono (by decide))
  have g_is_stretches : DefAt false l.prog w K mg base 5 "is_stretches" 1 m_is_stretches := ok_is_stretches F8 (PySem.W.mg_of X G a8) b8 T (g_is_stretch.mono (by decide))
  have g_need_stretches : DefAt false l.prog w K mg base 6 "need_stretches" 1 m_need_stretches := ok_need_stretches F9 (PySem.W.mg_of X G a9) b9 T (g_is_stretches.mono (by decide))
  have g_merged : DefAt false l.prog w K mg base 1 "merged" 1 m_merged := ok_merged F10 (PySem.W.mg_of X G a10) b10 T 
  have g_raw_days : DefAt false l.prog w K mg base 1 "raw_days" 1 m_raw_days := ok_raw_days F11 (PySem.W.mg_of X G a11) b11 T 
  have g_day_count : DefAt false l.prog w K mg base 7 "day_count" 1 m_day_count := ok_day_count F12 (PySem.W.mg_of X G a12) b12 T (g_need_stretches.mono (by decide))
  have g_common_of : DefAt false l.prog w K mg base 7 "common_of" 2 m_common_of := ok_common_of F13 (PySem.W.mg_of X G a13) b13 T (g_need_stretches.mono (by decide)) (g_merged.mono (by decide))
  have g_raw_lacking : DefAt false l.prog w K mg base 1 "raw_lacking" 3 m_raw_lacking := ok_raw_lacking F14 (PySem.W.mg_of X G a14) b14 T 
  have g_lacking : DefAt false l.prog w K mg base 7 "lacking" 3 m_lacking := ok_lacking F15 (PySem.W.mg_of X G a15) b15 T (g_need_stretches.mono (by decide)) (g_need_days.mono (by decide)) (g_raw_lacking.mono (by decide))
  have g_moved : DefAt false l.prog w K mg base 7 "moved" 2 m_moved := ok_moved F16 (PySem.W.mg_of X G a16) b16 T (g_need_stretches.mono (by decide)) (g_is_between.mono (by decide)) (g_merged.mono (by decide)) (g_raw_days.mono (by decide)) (g_is_day.mono (by decide))
  have g_first_part : DefAt false l.prog w K mg base 7 "first_part" 2 m_first_part := ok_first_part F17 (PySem.W.mg_of X G a17) b17 T (g_need_stretches.mono (by decide)) (g_is_number.mono (by decide)) (g_merged.mono (by decide)) (g_raw_days.mono (by decide))
  have g__law_hand : DefAt false l.prog w K mg base 1 "_law_hand" 1 m__law_hand := ok__law_hand F18 (PySem.W.mg_of X G a18) b18 T 
  have g__law_draw : DefAt false l.prog w K mg base 1 "_law_draw" 2 m__law_draw := ok__law_draw F19 (PySem.W.mg_of X G a19) b19 T 
  have g__law_any : DefAt false l.prog w K mg base 2 "_law_any" 2 m__law_any := ok__law_any F20 (PySem.W.mg_of X G a20) b20 T (g__law_draw.mono (by decide))
  have g__law_is : DefAt true l.prog w K mg base 1 "_law_is" 2 m__law_is := ok__law_is F21 (PySem.W.mg_of X G a21) b21 T 
  have g__law_runs : DefAt false l.prog w K mg base 1 "_law_runs" 1 m__law_runs := ok__law_runs F22 (PySem.W.mg_of X G a22) b22 T 
  have g__law_all : DefAt false l.prog w K mg base 1 "_law_all" 1 m__law_all := ok__law_all F23 (PySem.W.mg_of X G a23) b23 T 
  have g__law_days : DefAt false l.prog w K mg base 3 "_law_days" 1 m__law_days := ok__law_days F24 (PySem.W.mg_of X G a24) b24 T (g__law_draw.mono (by decide)) (g__law_any.mono (by decide)) (g__law_all.mono (by decide))
  have g__law_are_refused : DefAt false l.prog w K mg base 10 "_law_are_refused" 2 (m__law_are_refused P__law_are_refused) := ok__law_are_refused (TB (A__law_are_refused, P__law_are_refused) (by simp)) Wd F25 (PySem.W.mg_of X G a25) b25 T (g__law_any.mono (by decide)) (g_lacking.mono (by decide)) (g_moved.mono (by decide)) (g_first_part.mono (by decide))
  exact fn_law F26 T (g__law_hand.mono (by decide)) (g__law_days.mono (by decide)) (g__law_runs.mono (by decide)) (g__law_draw.mono (by decide)) (g__law_any.mono (by decide)) (g_lacking.mono (by decide)) (g__law_is.mono (by decide)) (g_day_count.mono (by decide)) (g_common_of.mono (by decide)) (g_moved.mono (by decide)) (g_first_part.mono (by decide)) (g__law_are_refused.mono (by decide))
end K02
open PySem PySem.W PyProof.Rows
set_option maxHeartbeats 0 in
theorem PySem.Challenge.cw_paperslapse_k02_whole_days_lacking_moved_holds : PySem.Challenge.rw_paperslapse_k02_whole_days_lacking_moved.Holds := by
  w_on; o_law; k_head; (case hw => w_witness2)
  k_fill
  refine Dn.walkGT2 (fb := true) (l := PySem.Challenge.rw_paperslapse_k02_whole_days_lacking_moved) (n := 63) (k := 11) (x := "script") rfl (by decide) rfl ⟨rfl, by decide, by decide⟩ (fun w h Y => PySem.W.km_in_of Y) ?F
  case F =>
    intro w mg fa h tf KX G hmg
    refine' K02.all_mk KX G tf hmg ?a1 ?l1 ?c1 ?k1 ?a2 ?l2 ?c2 ?k2 ?a3 ?l3 ?c3 ?k3 ?a4 ?l4 ?c4 ?k4 ?a5 ?l5 ?c5 ?k5 ?a6 ?l6 ?c6 ?k6 ?a7 ?l7 ?c7 ?k7 ?a8 ?l8 ?c8 ?k8 ?a9 ?l9 ?c9 ?k9 ?a10 ?l10 ?c10 ?k10 ?a11 ?l11 ?c11 ?k11 ?a12 ?l12 ?c12 ?k12 ?a13 ?l13 ?c13 ?k13 ?a14 ?l14 ?c14 ?k14 ?a15 ?l15 ?c15 ?k15 ?a16 ?l16 ?c16 ?k16 ?a17 ?l17 ?c17 ?k17 ?a18 ?l18 ?c18 ?k18 ?a19 ?l19 ?c19 ?k19 ?a20 ?l20 ?c20 ?k20 ?a21 ?l21 ?c21 ?k21 ?a22 ?l22 ?c22 ?k22 ?a23 ?l23 ?c23 ?k23 ?a24 ?l24 ?c24 ?k24 ?a25 ?l25 ?c25 ?k25 ?a26 ?l26 ?c26 ?k26 ?z_abs ?z_all ?z_bool ?z_int ?z_isinstance ?z_len ?z_list ?z_max ?z_min ?z_range ?z_repr ?z_set ?z_sorted ?z_sum ?z_tuple ?z_ValueError ?y1 ?n_NoDay ?x1_NoDay ?x2_NoDay ?x3_NoDay ?x4_NoDay ?x5_NoDay ?x6_NoDay ?x7_NoDay ?x8_NoDay ?x9_NoDay ?xa_NoDay ?xb_NoDay ?xc_NoDay ?n_NoNumber ?x1_NoNumber ?x2_NoNumber ?x3_NoNumber ?x4_NoNumber ?x5_NoNumber ?x6_NoNumber ?x7_NoNumber ?x8_NoNumber ?x9_NoNumber ?xa_NoNumber ?xb_NoNumber ?xc_NoNumber ?n_NoStretches ?x1_NoStretches ?x2_NoStretches ?x3_NoStretches ?x4_NoStretches ?x5_NoStretches ?x6_NoStretches ?x7_NoStretches ?x8_NoStretches ?x9_NoStretches ?xa_NoStretches ?xb_NoStretches ?xc_NoStretches ?n_PaperError ?x3_PaperError ?x4_PaperError ?x5_PaperError ?x6_PaperError ?x7_PaperError ?x8_PaperError ?x9_PaperError ?xa_PaperError ?xb_PaperError ?xc_PaperError ?o1 ?o2 ?sp_NoStretches ?sp_NoDay ?sp_NoNumber ?s_NoStretches_NoDay ?s_NoStretches_NoNumber ?s_NoDay_NoStretches ?s_NoDay_NoNumber ?s_NoNumber_NoStretches ?s_NoNumber_NoDay ?aw ?lw ?cw ?kw ?tc__law_are_refused ?tl__law_are_refused ?tv__law_are_refused ?tn__law_are_refused ?tr__law_are_refused (fun ns hn => K02.e_law _ hn)
    (case a1 => k_is)
    (case l1 => k_is)
    (case c1 => k_is)
    (case k1 => k_is)
    (case a2 => k_is)
    (case l2 => k_is)
    (case c2 => k_is)
    (case k2 => k_is)
    (case a3 => k_is)
    (case l3 => k_is)
    (case c3 => k_is)
    (case k3 => k_is)
    (case a4 => k_is)
    (case l4 => k_is)
    (case c4 => k_is)
    (case k4 => k_is)
    (case a5 => k_is)
    (case l5 => k_is)
    (case c5 => k_is)
    (case k5 => k_is)
    (case a6 => k_is)
    (case l6 => k_is)
    (case c6 => k_is)
    (case k6 => k_is)
    (case a7 => k_is)
    (case l7 => k_is)
    (case c7 => k_is)
    (case k7 => k_is)
    (case a8 => k_is)
    (case l8 => k_is)
    (case c8 => k_is)
    (case k8 => k_is)
    (case a9 => k_is)
    (case l9 => k_is)
    (case c9 => k_is)
    (case k9 => k_is)
    (case a10 => k_is)
    (case l10 => k_is)
    (case c10 => k_is)
    (case k10 => k_is)
    (case a11 => k_is)
    (case l11 => k_is)
    (case c11 => k_is)
    (case k11 => k_is)
    (case a12 => k_is)
    (case l12 => k_is)
    (case c12 => k_is)
    (case k12 => k_is)
    (case a13 => k_is)
    (case l13 => k_is)
    (case c13 => k_is)
    (case k13 => k_is)
    (case a14 => k_is)
    (case l14 => k_is)
    (case c14 => k_is)
    (case k14 => k_is)
    (case a15 => k_is)
    (case l15 => k_is)
    (case c15 => k_is)
    (case k15 => k_is)
    (case a16 => k_is)
    (case l16 => k_is)
    (case c16 => k_is)
    (case k16 => k_is)
    (case a17 => k_is)
    (case l17 => k_is)
    (case c17 => k_is)
    (case k17 => k_is)
    (case a18 => k_is)
    (case l18 => k_is)
    (case c18 => k_is)
    (case k18 => k_is)
    (case a19 => k_is)
    (case l19 => k_is)
    (case c19 => k_is)
    (case k19 => k_is)
    (case a20 => k_is)
    (case l20 => k_is)
    (case c20 => k_is)
    (case k20 => k_is)
    (case a21 => k_is)
    (case l21 => k_is)
    (case c21 => k_is)
    (case k21 => k_is)
    (case a22 => k_is)
    (case l22 => k_is)
    (case c22 => k_is)
    (case k22 => k_is)
    (case a23 => k_is)
    (case l23 => k_is)
    (case c23 => k_is)
    (case k23 => k_is)
    (case a24 => k_is)
    (case l24 => k_is)
    (case c24 => k_is)
    (case k24 => k_is)
    (case a25 => k_is)
    (case l25 => k_is)
    (case c25 => k_is)
    (case k25 => k_is)
    (case a26 => k_is)
    (case l26 => k_is)
    (case c26 => k_is)
    (case k26 => k_is)
    (case z_abs => k_is)
    (case z_all => k_is)
    (case z_bool => k_is)
    (case z_int => k_is)
    (case z_isinstance => k_is)
    (case z_len => k_is)
    (case z_list => k_is)
    (case z_max => k_is)
    (case z_min => k_is)
    (case z_range => k_is)
    (case z_repr => k_is)
    (case z_set => k_is)
    (case z_sorted => k_is)
    (case z_sum => k_is)
    (case z_tuple => k_is)
    (case z_ValueError => k_is)
    (case y1 => k_is)
    (case n_NoDay => k_is)
    (case x1_NoDay => k_is)
    (case x2_NoDay => k_exc)
    (case x3_NoDay => k_is)
    (case x4_NoDay => k_is)
    (case x5_NoDay => k_is)
    (case x6_NoDay => k_is)
    (case x7_NoDay => k_is)
    (case x8_NoDay => k_is)
    (case x9_NoDay => k_is)
    (case xa_NoDay => k_is)
    (case xb_NoDay => k_is)
    (case xc_NoDay => k_is)
    (case n_NoNumber => k_is)
    (case x1_NoNumber => k_is)
    (case x2_NoNumber => k_exc)
    (case x3_NoNumber => k_is)
    (case x4_NoNumber => k_is)
    (case x5_NoNumber => k_is)
    (case x6_NoNumber => k_is)
    (case x7_NoNumber => k_is)
    (case x8_NoNumber => k_is)
    (case x9_NoNumber => k_is)
    (case xa_NoNumber => k_is)
    (case xb_NoNumber => k_is)
    (case xc_NoNumber => k_is)
    (case n_NoStretches => k_is)
    (case x1_NoStretches => k_is)
    (case x2_NoStretches => k_exc)
    (case x3_NoStretches => k_is)
    (case x4_NoStretches => k_is)
    (case x5_NoStretches => k_is)
    (case x6_NoStretches => k_is)
    (case x7_NoStretches => k_is)
    (case x8_NoStretches => k_is)
    (case x9_NoStretches => k_is)
    (case xa_NoStretches => k_is)
    (case xb_NoStretches => k_is)
    (case xc_NoStretches => k_is)
    (case n_PaperError => k_is)
    (case x3_PaperError => k_is)
    (case x4_PaperError => k_is)
    (case x5_PaperError => k_is)
    (case x6_PaperError => k_is)
    (case x7_PaperError => k_is)
    (case x8_PaperError => k_is)
    (case x9_PaperError => k_is)
    (case xa_PaperError => k_is)
    (case xb_PaperError => k_is)
    (case xc_PaperError => k_is)
    (case o1 => k_is)
    (case o2 => k_is)
    (case sp_NoStretches => k_is)
    (case sp_NoDay => k_is)
    (case sp_NoNumber => k_is)
    (case s_NoStretches_NoDay => k_is)
    (case s_NoStretches_NoNumber => k_is)
    (case s_NoDay_NoStretches => k_is)
    (case s_NoDay_NoNumber => k_is)
    (case s_NoNumber_NoStretches => k_is)
    (case s_NoNumber_NoDay => k_is)
    (case aw => k_is)
    (case lw => k_is)
    (case cw => k_is)
    (case kw => k_is)
    (case tc__law_are_refused => rfl)
    (case tl__law_are_refused => k_is)
    (case tv__law_are_refused => rfl)
    (case tn__law_are_refused => first | rfl | decide +kernel)
    (case tr__law_are_refused => rfl)
