import PyProof.Rows.All
import Wide.All
import OpenK.AllK
import Wide.FinOn
import HandS.ForMost
import HandS.ForExc
import HandS.More
import HandS.Defaults
import HandS.HeadHook1
import HandS.HeadHook2
import HandS.Walk
import HandS.Wide
import HandS.TupAny
import HandS.TupMul
import HandS.TupLe
import PyProof.SumWalkG
import HandS.IsInst
import HandS.Zip
import KE.GoesMore
import HandS.Style
import HandS.HeadEnd
import HandS.Conv
import HandS.RaiseMore
import KE.KStateDown
import HandS.Head0
import HandS.Head1
import HandS.Head2
import HandS.HeadHook4
import PySem.Challenge.RW_quiethour_k14_whole_main_fact

section
set_option Elab.async false
set_option linter.all false
set_option maxRecDepth 100000
set_option maxHeartbeats 4000000
/-! QS0: data trees D over a store, how they lie in the abstract heap (Rep), the judgements by plain denotations. -/
namespace QS
open PySem PySem.Spec PyProof.Rows L2
abbrev St := L2.St

/-- data: trees; loc n: the n-th thing of the store, which may change -/
inductive D where
  | non | bl (b : Bool) | int (i : Int) | str (x : Str)
  | tup (l : List D) | lst (l : List D)
  | dic (ks : List Key) (vs : List D)
  | ins (c : Str) (fs : List Str) (vs : List D)
  | loc (n : Nat)
  | scr (l : List D)
  | adr (a : Addr)
/-- what may change -/
inductive O where
  | lst (l : List D)
  | dic (ks : List Key) (vs : List D)
  | ins (c : Str) (fs : List Str) (vs : List D)
abbrev Sto := List O
/-- an exception: its class, what it keeps under a name -/
structure Ex where
  cls : Str
  own : Bool := true
  ty : String := ""
  arg : Option (Str × D) := none
inductive Res (α : Type) where
  | ok (a : α) (s : Sto)
  | exn (x : Ex) (s : Sto)
  | stuck
abbrev M (α : Type) := Sto → Res α
def bnd {α β : Type} (m : M α) (f : α → M β) : M β := fun s => match m s with
  | .ok a s' => f a s'
  | .exn x s' => .exn x s'
  | .stuck => .stuck
def ret {α : Type} (a : α) : M α := fun s => .ok a s
abbrev V1 (α : Type) := Sto → Option (α × Sto)
def lift {α : Type} (v : V1 α) : M α := fun s => match v s with
  | some (a, s') => .ok a s'
  | none => .stuck
abbrev En := List (Option D)
abbrev EM := En → M D
abbrev TM := En → M Bool
abbrev AM := En → M (List D)

/-! ### how data lie in the heap -/
/-- the written part, and the places that no datum lies at (a list that a comprehension is about to make) -/
abbrev KZ := PySem.W.Frag × List Addr
def Nin (K : KZ) (m : List Addr) (a : Addr) : Prop := a ∉ m ∧ a ∉ K.2
/-- a list that nobody writes: the script -/
def SqF (K : PySem.W.Frag) (H : Hp) (a : Addr) (xs : List V) : Prop :=
  (∃ o, H a = some (.frz o (.lst xs))) ∨
    ∃ (o : Obj) (its : Array Value) (n : Nat), K.lookup a = some o ∧ o.cls = .type "list" ∧ o.dict = none ∧ o.data = .seq its n ∧ its.size ≤ sizeLine ∧ Vals xs its.toList
theorem SqF.l {K : PySem.W.Frag} {H : Hp} {a : Addr} {xs : List V} (h : SqF K H a xs) : SqL K H a xs := by
  rcases h with ⟨o, h⟩ | h
  · exact .inl (.inr ⟨o, h⟩)
  · exact .inr h
mutual
inductive Rep (K : KZ) (m : List Addr) (H : Hp) : D → V → Prop
  | non : Rep K m H .non .non
  | bl (b : Bool) : Rep K m H (.bl b) (.bl b)
  | int (i : Int) : Rep K m H (.int i) (.int i)
  | str (x : Str) : Rep K m H (.str x) (.str x)
  | tup {a : Addr} {ds : List D} {vs : List V} : SqT K.1 H a vs → RepL K m H ds vs → Rep K m H (.tup ds) (.ref a)
  | lst {a : Addr} {ds : List D} {vs : List V} : Nin K m a → H a = some (.lst vs) → RepL K m H ds vs → Rep K m H (.lst ds) (.ref a)
  | scr {a : Addr} {ds : List D} {vs : List V} : SqF K.1 H a vs → RepL K m H ds vs → Rep K m H (.scr ds) (.ref a)
  | dic {a : Addr} {ks : List Key} {ds : List D} {vs : List V} : Nin K m a → ks.length = vs.length → Rd H a (.dK (ks.zip vs)) → RepL K m H ds vs → Rep K m H (.dic ks ds) (.ref a)
  | ins {a dx : Addr} {c : Str} {fs : List Str} {ds : List D} {vs : List V} : Nin K m a → fs.length = vs.length → H a = some (.ins (He.ga K.1 c) dx (fs.zip vs)) → RepL K m H ds vs → Rep K m H (.ins c fs ds) (.ref a)
  | loc {n : Nat} {a : Addr} : m[n]? = some a → Rep K m H (.loc n) (.ref a)
  | adr (a : Addr) : Rep K m H (.adr a) (.ref a)
inductive RepL (K : KZ) (m : List Addr) (H : Hp) : List D → List V → Prop
  | nil : RepL K m H [] []
  | cons {d : D} {v : V} {ds : List D} {vs : List V} : Rep K m H d v → RepL K m H ds vs → RepL K m H (d :: ds) (v :: vs)
end
/-- the world goes on: new places, what is not of the store stands -/
structure Ext (m : List Addr) (H : Hp) (m' : List Addr) (H' : Hp) : Prop where
  more : ∃ t, m' = m ++ t ∧ ∀ a ∈ t, H a = none
  keep : ∀ a o, H a = some o → a ∉ m → H' a = some o
  there : ∀ a, H a ≠ none → H' a ≠ none
section
variable {K : KZ} {m m' m'' : List Addr} {H H' H'' : Hp}
theorem Ext.refl : Ext m H m H := ⟨⟨[], by simp, fun _ h => nomatch h⟩, fun _ _ h _ => h, fun _ h => h⟩
theorem Ext.notin (e : Ext m H m' H') {a : Addr} (h : H a ≠ none) (n : a ∉ m) : a ∉ m' := by
  obtain ⟨t, rfl, q⟩ := e.more
  intro z
  rcases List.mem_append.mp z with z | z
  · exact n z
  · exact h (q a z)
theorem Ext.trans (e : Ext m H m' H') (f : Ext m' H' m'' H'') : Ext m H m'' H'' := by
  refine ⟨?_, fun a o h n => f.keep a o (e.keep a o h n) (e.notin (by rw [h]; exact fun z => nomatch z) n), fun a h => f.there a (e.there a h)⟩
  obtain ⟨t, rfl, q⟩ := e.more
  obtain ⟨t', rfl, q'⟩ := f.more
  refine ⟨t ++ t', by simp, fun a z => ?_⟩
  rcases List.mem_append.mp z with z | z
  · exact q a z
  · have := q' a z
    cases h : H a with
    | none => rfl
    | some o => exact absurd this (e.there a (by rw [h]; exact fun z => nomatch z))
theorem Ext.same (s : Same H H') : Ext m H m H' := ⟨⟨[], by simp, fun _ h => nomatch h⟩, fun a o h _ => s a o h, fun a h => by
  cases q : H a with
  | none => exact absurd q h
  | some o => rw [s a o q]; exact fun z => nomatch z⟩
theorem Ext.loc (e : Ext m H m' H') {n : Nat} {a : Addr} (h : m[n]? = some a) : m'[n]? = some a := by
  obtain ⟨t, rfl, _⟩ := e.more
  rw [List.getElem?_append_left (List.getElem?_eq_some_iff.mp h).1]
  exact h
theorem Ext.rd (e : Ext m H m' H') {a : Addr} {u : HO} (n : a ∉ m) (h : Rd H a u) : Rd H' a u := by
  rcases h with h | ⟨o, h⟩
  · exact .inl (e.keep a _ h n)
  · exact .inr ⟨o, e.keep a _ h n⟩
theorem Rd.ne {a : Addr} {u : HO} (h : Rd H a u) : H a ≠ none := by
  rcases h with h | ⟨o, h⟩ <;> (rw [h]; exact fun z => nomatch z)
/-- a tuple's place is none of the store's -/
def NoTup (m : List Addr) (H : Hp) : Prop := ∀ a ∈ m, ∃ o, H a = some o ∧ Mut (some o)
theorem SqT.ext (t : NoTup m H) (e : Ext m H m' H') {a : Addr} {vs : List V} (h : SqT K.1 H a vs) : SqT K.1 H' a vs := by
  rcases h with h | h
  · refine .inl ?_
    rcases h with h | ⟨o, h⟩
    · refine .inl (e.keep a _ h fun z => ?_)
      obtain ⟨o, q, mu⟩ := t a z
      rw [h] at q; cases q; exact mu
    · refine .inr ⟨o, e.keep a _ h fun z => ?_⟩
      obtain ⟨o', q, mu⟩ := t a z
      rw [h] at q; cases q; exact mu
  · exact .inr h
theorem SqF.ext (t : NoTup m H) (e : Ext m H m' H') {a : Addr} {vs : List V} (h : SqF K.1 H a vs) : SqF K.1 H' a vs := by
  rcases h with ⟨o, h⟩ | h
  · refine .inl ⟨o, e.keep a _ h fun z => ?_⟩
    obtain ⟨o', q, mu⟩ := t a z
    rw [h] at q; cases q; exact mu
  · exact .inr h
theorem Ext.nin (e : Ext m H m' H') {a : Addr} (h : H a ≠ none) (n : Nin K m a) : Nin K m' a := ⟨e.notin h n.1, n.2⟩
mutual
theorem Rep.ext (t : NoTup m H) (e : Ext m H m' H') : ∀ {d : D} {v : V}, Rep K m H d v → Rep K m' H' d v
  | _, _, .non => .non
  | _, _, .bl b => .bl b
  | _, _, .int i => .int i
  | _, _, .str x => .str x
  | _, _, .tup h r => .tup (SqT.ext t e h) (RepL.ext t e r)
  | _, _, .lst n h r => .lst (e.nin (by rw [h]; exact fun z => nomatch z) n) (e.keep _ _ h n.1) (RepL.ext t e r)
  | _, _, .scr h r => .scr (SqF.ext t e h) (RepL.ext t e r)
  | _, _, .dic n l h r => .dic (e.nin (QS.Rd.ne h) n) l (e.rd n.1 h) (RepL.ext t e r)
  | _, _, .ins n l h r => .ins (e.nin (by rw [h]; exact fun z => nomatch z) n) l (e.keep _ _ h n.1) (RepL.ext t e r)
  | _, _, .loc h => .loc (e.loc h)
  | _, _, .adr a => .adr a
theorem RepL.ext (t : NoTup m H) (e : Ext m H m' H') : ∀ {ds : List D} {vs : List V}, RepL K m H ds vs → RepL K m' H' ds vs
  | _, _, .nil => .nil
  | _, _, .cons h r => .cons (Rep.ext t e h) (RepL.ext t e r)
end
theorem RepL.length : ∀ {ds : List D} {vs : List V}, RepL K m H ds vs → ds.length = vs.length
  | _, _, .nil => rfl
  | _, _, .cons _ r => by simp [RepL.length r]
theorem RepL.get : ∀ {ds : List D} {vs : List V} {i : Nat} {d : D}, RepL K m H ds vs → ds[i]? = some d → ∃ v, vs[i]? = some v ∧ Rep K m H d v
  | _, _, _, _, .nil, h => by simp at h
  | _, _, 0, _, .cons h _, e => by simp at e; subst e; exact ⟨_, rfl, h⟩
  | _, _, i + 1, _, .cons _ r, e => by
    obtain ⟨v, h1, h2⟩ := RepL.get (i := i) r (by simpa using e)
    exact ⟨v, by simpa using h1, h2⟩
theorem RepL.append : ∀ {ds es : List D} {vs us : List V}, RepL K m H ds vs → RepL K m H es us → RepL K m H (ds ++ es) (vs ++ us)
  | _, _, _, _, .nil, s => s
  | _, _, _, _, .cons h r, s => .cons h (RepL.append r s)
theorem RepL.take : ∀ {ds : List D} {vs : List V} (n : Nat), RepL K m H ds vs → RepL K m H (ds.take n) (vs.take n)
  | _, _, 0, _ => by simp; exact .nil
  | _, _, _ + 1, .nil => by simp; exact .nil
  | _, _, n + 1, .cons h r => by simp; exact .cons h (RepL.take n r)
theorem RepL.drop : ∀ {ds : List D} {vs : List V} (n : Nat), RepL K m H ds vs → RepL K m H (ds.drop n) (vs.drop n)
  | _, _, 0, r => by simpa using r
  | _, _, _ + 1, .nil => by simp; exact .nil
  | _, _, n + 1, .cons _ r => by simpa using RepL.drop n r
theorem RepL.set {d : D} {v : V} (h : Rep K m H d v) : ∀ {ds : List D} {vs : List V} (i : Nat), RepL K m H ds vs → RepL K m H (ds.set i d) (vs.set i v)
  | _, _, _, .nil => .nil
  | _, _, 0, .cons _ r => .cons h r
  | _, _, i + 1, .cons g r => .cons g (RepL.set h i r)
theorem RepL.eraseIdx : ∀ {ds : List D} {vs : List V} (i : Nat), RepL K m H ds vs → RepL K m H (ds.eraseIdx i) (vs.eraseIdx i)
  | _, _, _, .nil => .nil
  | _, _, 0, .cons _ r => r
  | _, _, i + 1, .cons g r => .cons g (RepL.eraseIdx i r)
theorem RepL.dropLast {ds : List D} {vs : List V} (r : RepL K m H ds vs) : RepL K m H ds.dropLast vs.dropLast := by
  rw [List.dropLast_eq_take, List.dropLast_eq_take, ← r.length]
  exact r.take _
theorem RepL.replicate {d : D} {v : V} (h : Rep K m H d v) : ∀ n : Nat, RepL K m H (List.replicate n d) (List.replicate n v)
  | 0 => .nil
  | n + 1 => .cons h (RepL.replicate h n)
theorem RepL.flatten_rep {ds : List D} {vs : List V} (r : RepL K m H ds vs) : ∀ n : Nat, RepL K m H (List.replicate n ds).flatten (List.replicate n vs).flatten
  | 0 => .nil
  | n + 1 => by
    rw [List.replicate_succ, List.replicate_succ, List.flatten_cons, List.flatten_cons]
    exact r.append (RepL.flatten_rep r n)
theorem RepL.nil_iff {ds : List D} {vs : List V} (r : RepL K m H ds vs) : ds = [] ↔ vs = [] := by cases r <;> simp
/-- one thing of the store -/
def OR (K : KZ) (m : List Addr) (H : Hp) (a : Addr) : O → Prop
  | .lst ds => ∃ vs, H a = some (.lst vs) ∧ RepL K m H ds vs
  | .dic ks ds => ∃ vs, ks.length = vs.length ∧ H a = some (.dK (ks.zip vs)) ∧ RepL K m H ds vs
  | .ins c fs ds => ∃ dx vs, fs.length = vs.length ∧ H a = some (.ins (He.ga K.1 c) dx (fs.zip vs)) ∧ RepL K m H ds vs
structure StR (K : KZ) (m : List Addr) (H : Hp) (s : Sto) : Prop where
  len : m.length = s.length
  nd : m.Nodup
  hid : ∀ d ∈ K.2, H d ≠ none ∧ d ∉ m
  obj : ∀ (n : Nat) a o, m[n]? = some a → s[n]? = some o → OR K m H a o
theorem OR.mut {a : Addr} {o : O} (h : OR K m H a o) : ∃ u, H a = some u ∧ Mut (some u) := by
  cases o with
  | lst ds => obtain ⟨vs, e, _⟩ := h; exact ⟨_, e, True.intro⟩
  | dic ks ds => obtain ⟨vs, _, e, _⟩ := h; exact ⟨_, e, True.intro⟩
  | ins c fs ds => obtain ⟨dx, vs, _, e, _⟩ := h; exact ⟨_, e, True.intro⟩
theorem StR.noTup {s : Sto} (S : StR K m H s) : NoTup m H := fun a h => by
  obtain ⟨n, hn, e⟩ := List.mem_iff_getElem.mp h
  have e1 : m[n]? = some a := by rw [List.getElem?_eq_getElem hn, e]
  have hs : n < s.length := by rw [← S.len]; exact hn
  exact (S.obj n a s[n] e1 (List.getElem?_eq_getElem hs)).mut
theorem StR.at {s : Sto} (S : StR K m H s) {n : Nat} {o : O} (h : s[n]? = some o) : ∃ a, m[n]? = some a ∧ a ∈ m ∧ OR K m H a o := by
  have hn : n < m.length := by rw [S.len]; exact (List.getElem?_eq_some_iff.mp h).1
  exact ⟨m[n], List.getElem?_eq_getElem hn, List.getElem_mem hn, S.obj n _ o (List.getElem?_eq_getElem hn) h⟩
theorem OR.ext {a : Addr} {o : O} (t : NoTup m H) (e : Ext m H m' H') (k : ∀ u, H a = some u → H' a = some u) (h : OR K m H a o) : OR K m' H' a o := by
  cases o with
  | lst ds => obtain ⟨vs, q, r⟩ := h; exact ⟨vs, k _ q, RepL.ext t e r⟩
  | dic ks ds => obtain ⟨vs, l, q, r⟩ := h; exact ⟨vs, l, k _ q, RepL.ext t e r⟩
  | ins c fs ds => obtain ⟨dx, vs, l, q, r⟩ := h; exact ⟨dx, vs, l, k _ q, RepL.ext t e r⟩
/-- all stands -/
theorem StR.same {s : Sto} (S : StR K m H s) (k : Same H H') : StR K m H' s :=
  ⟨S.len, S.nd, fun d h => ⟨(Ext.same (m := m) k).there d (S.hid d h).1, (S.hid d h).2⟩, fun n a o h1 h2 => (S.obj n a o h1 h2).ext S.noTup (Ext.same k) fun u q => k a u q⟩
theorem same_upd {p : Addr} {o : HO} (h : H p = none) : Same H (upd H p o) := fun b u e => by
  rw [upd_ne (ne_of_none e h)]
  exact e
/-- a new thing of the store -/
theorem Ext.new {p : Addr} {o : HO} (hp : H p = none) : Ext m H (m ++ [p]) (upd H p o) :=
  ⟨⟨[p], rfl, fun a h => by simp at h; subst h; exact hp⟩, fun a u h _ => same_upd hp a u h, fun a h => by
    cases q : H a with
    | none => exact absurd q h
    | some u => rw [same_upd hp a u q]; exact fun z => nomatch z⟩
theorem StR.new {s : Sto} (S : StR K m H s) {p : Addr} {ho : HO} {o : O} (hp : H p = none) (h : OR K (m ++ [p]) (upd H p ho) p o) : StR K (m ++ [p]) (upd H p ho) (s ++ [o]) := by
  have np : p ∉ m := fun z => by
    obtain ⟨u, q, _⟩ := S.noTup p z
    rw [hp] at q; cases q
  refine ⟨by simp [S.len], List.nodup_append.mpr ⟨S.nd, by simp, fun a ha b hb => by simp at hb; subst hb; exact fun z => np (z ▸ ha)⟩, fun d dz => ⟨(Ext.new (m := m) hp).there d (S.hid d dz).1, fun z => ?_⟩, fun n a u h1 h2 => ?_⟩
  · rcases List.mem_append.mp z with z | z
    · exact (S.hid d dz).2 z
    · simp at z
      subst z
      exact (S.hid _ dz).1 hp
  by_cases hn : n < m.length
  · rw [List.getElem?_append_left hn] at h1
    rw [List.getElem?_append_left (by rw [← S.len]; exact hn)] at h2
    exact (S.obj n a u h1 h2).ext S.noTup (Ext.new hp) fun v q => same_upd hp a v q
  · have e1 : n = m.length := by
      have := (List.getElem?_eq_some_iff.mp h1).1
      simp at this; omega
    subst e1
    rw [List.getElem?_append_right (Nat.le_refl _)] at h1
    rw [List.getElem?_append_right (by rw [S.len]; exact Nat.le_refl _)] at h2
    simp at h1
    rw [S.len] at h2
    simp at h2
    subst h1; subst h2
    exact h
/-- a thing of the store is written -/
theorem Ext.write {n : Nat} {a : Addr} {o : HO} (h : m[n]? = some a) (t : NoTup m H) : Ext m H m (upd H a o) := by
  refine ⟨⟨[], by simp, fun _ h => nomatch h⟩, fun b u q nb => ?_, fun b q => ?_⟩
  · rw [upd_ne (fun z => nb (by rw [z]; exact List.mem_of_getElem? h))]
    exact q
  · by_cases z : b = a
    · subst z; rw [upd_same]; exact fun z => nomatch z
    · rw [upd_ne z]; exact q
theorem StR.write {s : Sto} (S : StR K m H s) {n : Nat} {a : Addr} {ho : HO} {o : O} (h : m[n]? = some a) (q : OR K m (upd H a ho) a o) : StR K m (upd H a ho) (s.set n o) := by
  refine ⟨by rw [List.length_set]; exact S.len, S.nd, fun d hd => ⟨(Ext.write (o := ho) h S.noTup).there d (S.hid d hd).1, (S.hid d hd).2⟩, fun j b u h1 h2 => ?_⟩
  by_cases z : n = j
  · subst z
    rw [h] at h1; cases h1
    have hs : n < s.length := by rw [← S.len]; exact (List.getElem?_eq_some_iff.mp h).1
    rw [List.getElem?_set_self hs] at h2
    cases h2
    exact q
  · rw [List.getElem?_set_ne z] at h2
    have ne : b ≠ a := fun e => by
      subst e
      obtain ⟨h3, e3⟩ := List.getElem?_eq_some_iff.mp h
      obtain ⟨h4, e4⟩ := List.getElem?_eq_some_iff.mp h1
      exact z ((List.getElem_inj S.nd).mp (e3.trans e4.symm))
    exact (S.obj j b u h1 h2).ext S.noTup (Ext.write h S.noTup) fun v e => by rw [upd_ne ne]; exact e
end
end QS
end

section
set_option Elab.async false
set_option linter.all false
set_option maxRecDepth 100000
set_option maxHeartbeats 4000000
/-! QS1: the judgements by denotations: expressions, tests, argument lists. -/
namespace QS
open PySem PySem.Spec PyProof.Rows L2

/-- the slots -/
structure EnR (K : KZ) (m : List Addr) (H : Hp) (ρ : En) (σ : St) : Prop where
  len : ρ.length = σ.length
  at_ : ∀ (i : Nat) d, ρ[i]? = some (some d) → ∃ v, σ[i]? = some (some v) ∧ Rep K m H d v
/-- an exception's class and dict -/
def ERep (K : KZ) (m : List Addr) (H : Hp) (x : Ex) (c : Value) (d : Option Addr) : Prop :=
  (if x.own = true then c = .ref (He.ga K.1 x.cls) else c = .type x.ty) ∧
  match x.arg with
  | none => d = none
  | some (f, a) => ∃ dd v, d = some dd ∧ dd ∉ m ∧ H dd = some (.xd [(f, v)]) ∧ Rep K m H a v
section
variable {K : KZ} {m m' m'' : List Addr} {H H' H'' : Hp} {s s' : Sto} {ρ : En} {σ : St}
theorem EnR.ext (t : NoTup m H) (e : Ext m H m' H') (r : EnR K m H ρ σ) : EnR K m' H' ρ σ :=
  ⟨r.len, fun i d h => let ⟨v, h1, h2⟩ := r.at_ i d h; ⟨v, h1, h2.ext t e⟩⟩
theorem EnR.set {d : D} {v : V} (r : EnR K m H ρ σ) (h : Rep K m H d v) (i : Nat) : EnR K m H (ρ.set i (some d)) (σ.set i (some v)) := by
  refine ⟨by simp [r.len], fun j e he => ?_⟩
  by_cases z : i = j
  · subst z
    have hi : i < ρ.length := by
      have := (List.getElem?_eq_some_iff.mp he).1
      simpa using this
    rw [List.getElem?_set_self hi] at he
    cases he
    exact ⟨v, List.getElem?_set_self (by rw [← r.len]; exact hi), h⟩
  · rw [List.getElem?_set_ne z] at he
    rw [List.getElem?_set_ne z]
    exact r.at_ j e he
theorem EnR.forget (r : EnR K m H ρ σ) (i : Nat) : EnR K m H (ρ.set i none) (σ.set i none) := by
  refine ⟨by simp [r.len], fun j e he => ?_⟩
  by_cases z : i = j
  · subst z
    have hi : i < ρ.length := by
      have := (List.getElem?_eq_some_iff.mp he).1
      simpa using this
    rw [List.getElem?_set_self hi] at he
    cases he
  · rw [List.getElem?_set_ne z] at he
    rw [List.getElem?_set_ne z]
    exact r.at_ j e he
/-- what is wanted of a result -/
def Good {α β : Type} (K : KZ) (W : WX) (σ : St) (rel : List Addr → Hp → α → β → Prop) (m : List Addr) (H : Hp) (Q : β → Hp → Prop) : Res α → Prop
  | .ok a s' => ∀ m' H' v, Ext m H m' H' → StR K m' H' s' → rel m' H' a v → Q v H'
  | .exn x s' => ∀ m' H' c d, Ext m H m' H' → StR K m' H' s' → ERep K m' H' x c d → W c d σ H'
  | .stuck => False
variable {α β γ δ : Type} {W : WX} {rel : List Addr → Hp → α → β → Prop} {rel2 : List Addr → Hp → γ → δ → Prop} {Q Q' : β → Hp → Prop} {Q2 : δ → Hp → Prop}
theorem Good.trans (e : Ext m H m' H') {r : Res α} (h : Good K W σ rel m H Q r) : Good K W σ rel m' H' Q r := by
  cases r with
  | ok a s => exact fun m'' H'' v f S q => h m'' H'' v (e.trans f) S q
  | exn x s => exact fun m'' H'' c d f S q => h m'' H'' c d (e.trans f) S q
  | stuck => exact h
theorem Good.mono {r : Res α} (h : Good K W σ rel m H Q r) (hq : ∀ v H', Q v H' → Q' v H') : Good K W σ rel m H Q' r := by
  cases r with
  | ok a s => exact fun m'' H'' v f S q => hq _ _ (h m'' H'' v f S q)
  | exn x s => exact h
  | stuck => exact h
theorem Good.bind {ma : M α} {f : α → M γ} (h : Good K W σ rel2 m H Q2 (bnd ma f s)) :
    Good K W σ rel m H (fun v H1 => ∃ m1 a s1, Ext m H m1 H1 ∧ StR K m1 H1 s1 ∧ rel m1 H1 a v ∧ Good K W σ rel2 m1 H1 Q2 (f a s1)) (ma s) := by
  unfold bnd at h
  cases e : ma s with
  | ok a s1 =>
    rw [e] at h
    exact fun m1 H1 v e1 S1 r1 => ⟨m1, a, s1, e1, S1, r1, Good.trans e1 h⟩
  | exn x s1 =>
    rw [e] at h
    exact h
  | stuck =>
    rw [e] at h
    exact h
/-- as a reading -/
def tG (K : KZ) (rel : List Addr → Hp → α → β → Prop) (W : WX) (e : En → M α) : St → Hp → (β → Hp → Prop) → Prop := fun σ H Q =>
  ∃ m ρ s, EnR K m H ρ σ ∧ StR K m H s ∧ Good K W σ rel m H Q (e ρ s)
abbrev tE (K : KZ) (W : WX) (e : EM) : TE := tG K (Rep K) W e
abbrev tT (K : KZ) (W : WX) (e : TM) : TT := tG K (fun _ _ (a b : Bool) => a = b) W e
abbrev tA (K : KZ) (W : WX) (e : AM) : TA := tG K (RepL K) W e
theorem tG.mono {e : En → M α} (hq : ∀ v H', Q v H' → Q' v H') (h : tG K rel W e σ H Q) : tG K rel W e σ H Q' := by
  obtain ⟨m, ρ, s, h1, h2, h3⟩ := h
  exact ⟨m, ρ, s, h1, h2, h3.mono hq⟩
/-- values by an operation that raises nothing -/
def GoodV (K : KZ) (m : List Addr) (H : Hp) (Q : VK) : Option (D × Sto) → Prop
  | some (d, s') => ∀ m' H' v, Ext m H m' H' → StR K m' H' s' → Rep K m' H' d v → Q v H'
  | none => False
theorem Good.lift {v : V1 D} {Q : VK} (h : Good K W σ (Rep K) m H Q (lift v s)) : GoodV K m H Q (v s) := by
  unfold QS.lift at h
  cases e : v s with
  | none => rw [e] at h; exact h
  | some p => rw [e] at h; exact h
end
end QS

namespace QS
open PySem PySem.Spec PyProof.Rows L2
/-! ### rules for rules -/
theorem PE.imp {X : Cx} {e : Expr} {t t' : TE} (h : PE X e t) (i : ∀ σ H Q, t' σ H Q → t σ H Q) : PE X e t' := ⟨fun pins s σ H Q I q => h.run pins s σ H Q I (i σ H Q q)⟩
theorem PT.imp {X : Cx} {e : Expr} {t t' : TT} (h : PT X e t) (i : ∀ σ H Q, t' σ H Q → t σ H Q) : PT X e t' := ⟨fun pins s σ H Q I q => h.run pins s σ H Q I (i σ H Q q)⟩
theorem PW.imp {X : Cx} {e : Expr} {t t' : TT} (h : PW X e t) (i : ∀ σ H Q, t' σ H Q → t σ H Q) : PW X e t' := ⟨fun wh pins s σ H Q I q => h.run wh pins s σ H Q I (i σ H Q q)⟩
theorem PA.imp {X : Cx} {e : List Expr} {t t' : TA} (h : PA X e t) (i : ∀ σ H Q, t' σ H Q → t σ H Q) : PA X e t' := ⟨fun pos pins s σ H Q I q => h.run pos pins s σ H Q I (i σ H Q q)⟩
theorem PS.imp {X : Cx} {e : Stmt} {t t' : TS} (h : PS X e t) (i : ∀ D σ H, t' D σ H → t D σ H) : PS X e t' := ⟨fun pins s σ H D I q => h.run pins s σ H D I (i D σ H q)⟩
theorem PSs.imp {X : Cx} {e : List Stmt} {t t' : TS} (h : PSs X e t) (i : ∀ D σ H, t' D σ H → t D σ H) : PSs X e t' := ⟨fun pins s σ H D I q => h.run pins s σ H D I (i D σ H q)⟩

/-! ### denotations of expressions -/
def eVar (i : Nat) : EM := fun ρ s => match ρ[i]? with
  | some (some d) => .ok d s
  | _ => .stuck
def eC (d : D) : EM := fun _ s => .ok d s
def eU (g : D → V1 D) (a : EM) : EM := fun ρ => bnd (a ρ) fun x => lift (g x)
def eB (g : D → D → V1 D) (a b : EM) : EM := fun ρ => bnd (a ρ) fun x => bnd (b ρ) fun y => lift (g x y)
def aNil : AM := fun _ => ret []
def aCons (e : EM) (r : AM) : AM := fun ρ => bnd (e ρ) fun x => bnd (r ρ) fun xs => ret (x :: xs)
/-- a call by values -/
def eF (g : List D → V1 D) (a : AM) : EM := fun ρ => bnd (a ρ) fun xs => lift (g xs)
/-- a method by values -/
def eMt (g : D → List D → V1 D) (o : EM) (a : AM) : EM := fun ρ => bnd (o ρ) fun x => bnd (a ρ) fun xs => lift (g x xs)
/-- a call of a def -/
def eCall (F : List D → M D) (a : AM) : EM := fun ρ => bnd (a ρ) F
def asB : D → M Bool := fun d s => match d with
  | .bl b => .ok b s
  | _ => .stuck
def tV (e : EM) : TM := fun ρ => bnd (e ρ) asB
def tNot (t : TM) : TM := fun ρ => bnd (t ρ) fun b => ret (!b)
def tAnd (t u : TM) : TM := fun ρ => bnd (t ρ) fun b => if b = true then u ρ else ret false
def tOr (t u : TM) : TM := fun ρ => bnd (t ρ) fun b => if b = true then ret true else u ρ
def eAnd (a b : EM) : EM := fun ρ => bnd (a ρ) fun x => bnd (asB x) fun c => if c = true then b ρ else ret (.bl false)
def eOr (a b : EM) : EM := fun ρ => bnd (a ρ) fun x => bnd (asB x) fun c => if c = true then ret (.bl true) else b ρ
def eNot (a : EM) : EM := fun ρ => bnd (a ρ) fun x => bnd (asB x) fun c => ret (.bl (!c))
def eIf (t : TM) (a b : EM) : EM := fun ρ => bnd (t ρ) fun c => if c = true then a ρ else b ρ
/-- a op b op' c -/
def eChain (g g' : D → D → V1 D) (a b c : EM) : EM := fun ρ => bnd (a ρ) fun x => bnd (b ρ) fun y => bnd (lift (g x y)) fun z => bnd (asB z) fun k =>
  if k = true then bnd (c ρ) fun w => lift (g' y w) else ret (.bl false)

section
variable {zz : List Addr} {X : Cx} {W : WX} {a b c e : Expr} {es : List Expr} {da db dc : EM} {ds : AM} {ta tb : TM} {pos : Pos}
/-! by values -/
def r1 (K : KZ) (g : D → V1 D) : V → Hp → VK → Prop := fun x H Q => ∃ m d s, StR K m H s ∧ Rep K m H d x ∧ GoodV K m H Q (g d s)
def r2 (K : KZ) (g : D → D → V1 D) : R2 := fun x y H Q => ∃ m d e s, StR K m H s ∧ Rep K m H d x ∧ Rep K m H e y ∧ GoodV K m H Q (g d e s)
def rL (K : KZ) (g : List D → V1 D) : List V → Hp → VK → Prop := fun vs H Q => ∃ m ds s, StR K m H s ∧ RepL K m H ds vs ∧ GoodV K m H Q (g ds s)
def rM (K : KZ) (g : D → List D → V1 D) : V → List V → Hp → VK → Prop := fun x vs H Q => ∃ m d ds s, StR K m H s ∧ Rep K m H d x ∧ RepL K m H ds vs ∧ GoodV K m H Q (g d ds s)
theorem into1 {K : KZ} {g : D → V1 D} {σ : St} {H : Hp} {Q : VK} (h : tE K W (eU g da) σ H Q) : tE K W da σ H fun x H1 => r1 K g x H1 Q := by
  obtain ⟨m, ρ, s, hE, hS, hG⟩ := h
  exact ⟨m, ρ, s, hE, hS, (Good.bind hG).mono fun v H1 ⟨m1, x, s1, e1, S1, q1, hG1⟩ => ⟨m1, x, s1, S1, q1, hG1.lift⟩⟩
theorem into2 {K : KZ} {g : D → D → V1 D} {σ : St} {H : Hp} {Q : VK} (h : tE K W (eB g da db) σ H Q) : tE K W da σ H fun x H1 => tE K W db σ H1 fun y H2 => r2 K g x y H2 Q := by
  obtain ⟨m, ρ, s, hE, hS, hG⟩ := h
  refine ⟨m, ρ, s, hE, hS, (Good.bind hG).mono fun v H1 ⟨m1, x, s1, e1, S1, q1, hG1⟩ => ?_⟩
  refine ⟨m1, ρ, s1, hE.ext hS.noTup e1, S1, (Good.bind hG1).mono fun u H2 ⟨m2, y, s2, e2, S2, q2, hG2⟩ => ?_⟩
  exact ⟨m2, x, y, s2, S2, q1.ext S1.noTup e2, q2, hG2.lift⟩
theorem intoL {K : KZ} {g : List D → V1 D} {σ : St} {H : Hp} {Q : VK} (h : tE K W (eF g ds) σ H Q) : tA K W ds σ H fun x H1 => rL K g x H1 Q := by
  obtain ⟨m, ρ, s, hE, hS, hG⟩ := h
  exact ⟨m, ρ, s, hE, hS, (Good.bind hG).mono fun v H1 ⟨m1, x, s1, e1, S1, q1, hG1⟩ => ⟨m1, x, s1, S1, q1, hG1.lift⟩⟩

theorem se_var (i : Nat) {x : Str} (hN : X.N[i]? = some x := by rfl) (hv : Vis X.env.scope x := by first | exact Or.inl rfl | exact Or.inr (Or.inl rfl) | exact Or.inr (Or.inr rfl)) (hd : (x == ("__debug__" : Str)) = false := by decide)
    (hcd : (x == ("__classdict__" : Str)) = false := by decide) : PE X (.Name x pos) (tE (X.K, zz) W (eVar i)) := by
  refine PE.imp (pe_var hN hv hd hcd) fun σ H Q ⟨m, ρ, s, hE, hS, hG⟩ => ?_
  unfold eVar at hG
  split at hG
  · rename_i d q0
    obtain ⟨v, h1, h2⟩ := hE.at_ i d q0
    exact ⟨v, h1, hG m H v Ext.refl hS h2⟩
  · exact hG.elim
theorem se_const {v : V} {d : D} (h : PE X e (tC v)) (r : ∀ m H, Rep (X.K, zz) m H d v) : PE X e (tE (X.K, zz) W (eC d)) :=
  PE.imp h fun σ H Q ⟨m, ρ, s, hE, hS, hG⟩ => hG m H v Ext.refl hS (r m H)
theorem se_int {i : Int} {j} : PE X (.Constant (.int i) j pos) (tE (X.K, zz) W (eC (.int i))) := se_const pe_int fun _ _ => .int i
theorem se_bl {b : Bool} {j} : PE X (.Constant (.bool b) j pos) (tE (X.K, zz) W (eC (.bl b))) := se_const pe_bl fun _ _ => .bl b
theorem se_non {j} : PE X (.Constant .none j pos) (tE (X.K, zz) W (eC .non)) := se_const pe_non fun _ _ => .non
theorem se_str {x : Str} {j} : PE X (.Constant (.str x) j pos) (tE (X.K, zz) W (eC (.str x))) := se_const pe_str fun _ _ => .str x
theorem se_gint {x : Str} {i : Int} (hg : Gl X x) (hm : ∃ t, X.mg x = some (.int i t)) (hd : (x == ("__debug__" : Str)) = false := by decide) : PE X (.Name x pos) (tE (X.K, zz) W (eC (.int i))) := by
  obtain ⟨t, hm⟩ := hm
  exact se_const (pe_glob (v := .int i) hg hm ⟨t, rfl⟩ hd) fun _ _ => .int i
theorem se_gstr {x z : Str} (hg : Gl X x) (hm : ∃ t, X.mg x = some (.str z t)) (hd : (x == ("__debug__" : Str)) = false := by decide) : PE X (.Name x pos) (tE (X.K, zz) W (eC (.str z))) := by
  obtain ⟨t, hm⟩ := hm
  exact se_const (pe_glob (v := .str z) hg hm ⟨t, rfl⟩ hd) fun _ _ => .str z
theorem se_bin {op : Operator} {g : D → D → V1 D} (ho : OpR X (binaryOp op) (r2 (X.K, zz) g)) (ha : PE X a (tE (X.K, zz) W da)) (hb : PE X b (tE (X.K, zz) W db)) : PE X (.BinOp a op b pos) (tE (X.K, zz) W (eB g da db)) :=
  PE.imp (pe_op ho ha hb) fun _ _ _ h => into2 h
theorem se_un {op : UnaryOp} {g : D → V1 D} (ho : UnR X (unaryOp op) (r1 (X.K, zz) g)) (ha : PE X a (tE (X.K, zz) W da)) : PE X (.UnaryOp op a pos) (tE (X.K, zz) W (eU g da)) :=
  PE.imp (pe_un ho ha) fun _ _ _ h => into1 h
theorem se_cmp {op : CmpOp} {g : D → D → V1 D} (ho : OpR X (compareOp op) (r2 (X.K, zz) g)) (ha : PE X a (tE (X.K, zz) W da)) (hb : PE X b (tE (X.K, zz) W db)) (hm : behindInMarks op b = false) : PE X (.Compare a [op] [b] pos) (tE (X.K, zz) W (eB g da db)) :=
  PE.imp (pe_cmpR ho ha hb hm) fun _ _ _ h => into2 h
/-- a value as a test -/
theorem intoT {K : KZ} {σ : St} {H : Hp} {Q : Bool → Hp → Prop} (h : tT K W (tV da) σ H Q) : tE K W da σ H fun x H' => ∃ k, x = .bl k ∧ Q k H' := by
  obtain ⟨m, ρ, s, hE, hS, hG⟩ := h
  refine ⟨m, ρ, s, hE, hS, (Good.bind hG).mono fun v H1 ⟨m1, x, s1, e1, S1, q1, hG1⟩ => ?_⟩
  cases q1 with
  | bl b => exact ⟨b, rfl, hG1 m1 H1 b Ext.refl S1 rfl⟩
  | _ => exact hG1.elim
theorem st_cmp {op : CmpOp} {g : D → D → V1 D} (ho : OpR X (compareOp op) (r2 (X.K, zz) g)) (ha : PE X a (tE (X.K, zz) W da)) (hb : PE X b (tE (X.K, zz) W db)) (hm : behindInMarks op b = false) : PT X (.Compare a [op] [b] pos) (tT (X.K, zz) W (tV (eB g da db))) :=
  PT.imp (pt_cmpR ho ha hb hm) fun _ _ _ h => into2 (intoT h)

theorem st_val (h : PE X e (tE (X.K, zz) W da)) (he : ∀ whole, isTrue e X.env whole = (do let v ← whole; standAt e.pos; holding [v] (truthy v)) := by intro _; rfl) : PT X e (tT (X.K, zz) W (tV da)) :=
  PT.imp (pt_val h he) fun _ _ _ h => intoT h
theorem st_not (h : PT X a (tT (X.K, zz) W ta)) : PT X (.UnaryOp .Not a pos) (tT (X.K, zz) W (QS.tNot ta)) :=
  PT.imp (pt_not h) fun σ H Q ⟨m, ρ, s, hE, hS, hG⟩ => ⟨m, ρ, s, hE, hS, (Good.bind hG).mono fun v H1 ⟨m1, x, s1, e1, S1, q1, hG1⟩ => by
    subst q1
    exact hG1 m1 H1 _ Ext.refl S1 rfl⟩
theorem sw_and1 (h : PT X a (tT (X.K, zz) W ta)) : PW X (.BoolOp .And [a] pos) (tT (X.K, zz) W ta) := pw_and1 h
theorem sw_or1 (h : PT X a (tT (X.K, zz) W ta)) : PW X (.BoolOp .Or [a] pos) (tT (X.K, zz) W ta) := pw_or1 h
theorem sw_and (h : PT X a (tT (X.K, zz) W ta)) (h2 : PW X (.BoolOp .And (b :: es) pos) (tT (X.K, zz) W tb)) : PW X (.BoolOp .And (a :: b :: es) pos) (tT (X.K, zz) W (QS.tAnd ta tb)) :=
  PW.imp (pw_and h h2) fun σ H Q ⟨m, ρ, s, hE, hS, hG⟩ => ⟨m, ρ, s, hE, hS, (Good.bind hG).mono fun v H1 ⟨m1, x, s1, e1, S1, q1, hG1⟩ => by
    subst q1
    cases x with
    | true =>
      simp only [if_true] at hG1 ⊢
      exact ⟨m1, ρ, s1, hE.ext hS.noTup e1, S1, hG1⟩
    | false =>
      simp only [Bool.false_eq_true, if_false] at hG1 ⊢
      exact hG1 m1 H1 _ Ext.refl S1 rfl⟩
theorem sw_or (h : PT X a (tT (X.K, zz) W ta)) (h2 : PW X (.BoolOp .Or (b :: es) pos) (tT (X.K, zz) W tb)) : PW X (.BoolOp .Or (a :: b :: es) pos) (tT (X.K, zz) W (QS.tOr ta tb)) :=
  PW.imp (pw_or h h2) fun σ H Q ⟨m, ρ, s, hE, hS, hG⟩ => ⟨m, ρ, s, hE, hS, (Good.bind hG).mono fun v H1 ⟨m1, x, s1, e1, S1, q1, hG1⟩ => by
    subst q1
    cases x with
    | true =>
      simp only [if_true] at hG1 ⊢
      exact hG1 m1 H1 _ Ext.refl S1 rfl
    | false =>
      simp only [Bool.false_eq_true, if_false] at hG1 ⊢
      exact ⟨m1, ρ, s1, hE.ext hS.noTup e1, S1, hG1⟩⟩
theorem se_one {op} (h : PE X a (tE (X.K, zz) W da)) : PE X (.BoolOp op [a] pos) (tE (X.K, zz) W da) := pe_one h
theorem asB_bl {K : KZ} {m : List Addr} {H : Hp} {x : D} {v : V} {s : Sto} {α β : Type} {rel : List Addr → Hp → α → β → Prop} {σ : St} {Q : β → Hp → Prop} {f : Bool → M α} (q : Rep K m H x v) (h : Good K W σ rel m H Q (bnd (asB x) f s)) : ∃ c, v = .bl c ∧ x = .bl c ∧ Good K W σ rel m H Q (f c s) := by
  cases q with
  | bl c => exact ⟨c, rfl, rfl, h⟩
  | _ => exact h.elim
theorem se_and (ha : PE X a (tE (X.K, zz) W da)) (hb : PE X (.BoolOp .And (b :: es) pos) (tE (X.K, zz) W db)) : PE X (.BoolOp .And (a :: b :: es) pos) (tE (X.K, zz) W (eAnd da db)) :=
  PE.imp (pe_and ha hb) fun σ H Q ⟨m, ρ, s, hE, hS, hG⟩ => ⟨m, ρ, s, hE, hS, (Good.bind hG).mono fun v H1 ⟨m1, x, s1, e1, S1, q1, hG1⟩ => by
    obtain ⟨c, ev, _, hG2⟩ := asB_bl q1 hG1
    refine ⟨c, ev, ?_⟩
    cases c with
    | true =>
      simp only [if_true] at hG2 ⊢
      exact ⟨m1, ρ, s1, hE.ext hS.noTup e1, S1, hG2⟩
    | false =>
      simp only [Bool.false_eq_true, if_false] at hG2 ⊢
      exact hG2 m1 H1 _ Ext.refl S1 (.bl false)⟩
theorem se_or (ha : PE X a (tE (X.K, zz) W da)) (hb : PE X (.BoolOp .Or (b :: es) pos) (tE (X.K, zz) W db)) : PE X (.BoolOp .Or (a :: b :: es) pos) (tE (X.K, zz) W (eOr da db)) :=
  PE.imp (pe_or ha hb) fun σ H Q ⟨m, ρ, s, hE, hS, hG⟩ => ⟨m, ρ, s, hE, hS, (Good.bind hG).mono fun v H1 ⟨m1, x, s1, e1, S1, q1, hG1⟩ => by
    obtain ⟨c, ev, _, hG2⟩ := asB_bl q1 hG1
    refine ⟨c, ev, ?_⟩
    cases c with
    | true =>
      simp only [if_true] at hG2 ⊢
      exact hG2 m1 H1 _ Ext.refl S1 (.bl true)
    | false =>
      simp only [Bool.false_eq_true, if_false] at hG2 ⊢
      exact ⟨m1, ρ, s1, hE.ext hS.noTup e1, S1, hG2⟩⟩
theorem se_not (ha : PE X a (tE (X.K, zz) W da)) : PE X (.UnaryOp .Not a pos) (tE (X.K, zz) W (eNot da)) :=
  PE.imp (pe_not ha) fun σ H Q ⟨m, ρ, s, hE, hS, hG⟩ => ⟨m, ρ, s, hE, hS, (Good.bind hG).mono fun v H1 ⟨m1, x, s1, e1, S1, q1, hG1⟩ => by
    obtain ⟨c, ev, _, hG2⟩ := asB_bl q1 hG1
    exact ⟨c, ev, hG2 m1 H1 _ Ext.refl S1 (.bl _)⟩⟩
theorem se_if (hc : PT X c (tT (X.K, zz) W ta)) (ha : PE X a (tE (X.K, zz) W da)) (hb : PE X b (tE (X.K, zz) W db)) : PE X (.IfExp c a b pos) (tE (X.K, zz) W (eIf ta da db)) :=
  PE.imp (pe_ifExp hc ha hb) fun σ H Q ⟨m, ρ, s, hE, hS, hG⟩ => ⟨m, ρ, s, hE, hS, (Good.bind hG).mono fun v H1 ⟨m1, x, s1, e1, S1, q1, hG1⟩ => by
    subst q1
    cases x with
    | true =>
      simp only [if_true] at hG1 ⊢
      exact ⟨m1, ρ, s1, hE.ext hS.noTup e1, S1, hG1⟩
    | false =>
      simp only [Bool.false_eq_true, if_false] at hG1 ⊢
      exact ⟨m1, ρ, s1, hE.ext hS.noTup e1, S1, hG1⟩⟩
theorem GoodV.mono {K : KZ} {m : List Addr} {H : Hp} {Q Q' : VK} {r : Option (D × Sto)} (h : GoodV K m H Q r) (hq : ∀ v H', Q v H' → Q' v H') : GoodV K m H Q' r := by
  cases r with
  | none => exact h
  | some p => exact fun m' H' v f S q => hq _ _ (h m' H' v f S q)
theorem intoChain {K : KZ} {g g' : D → D → V1 D} {σ : St} {H : Hp} {Q : VK} (h : tE K W (eChain g g' da db dc) σ H Q) : tChain (r2 K g) (r2 K g') (tE K W da) (tE K W db) (tE K W dc) σ H Q := by
  obtain ⟨m, ρ, s, hE, hS, hG⟩ := h
  refine ⟨m, ρ, s, hE, hS, (Good.bind hG).mono fun v H1 ⟨m1, x, s1, e1, S1, q1, hG1⟩ => ?_⟩
  refine ⟨m1, ρ, s1, hE.ext hS.noTup e1, S1, (Good.bind hG1).mono fun u H2 ⟨m2, y, s2, e2, S2, q2, hG2⟩ => ?_⟩
  refine ⟨m2, x, y, s2, S2, q1.ext S1.noTup e2, q2, (Good.bind hG2).lift.mono fun z H3 ⟨m3, zd, s3, e3, S3, q3, hG3⟩ => ?_⟩
  obtain ⟨k, ev, _, hG4⟩ := asB_bl q3 hG3
  refine ⟨k, ev, ?_⟩
  cases k with
  | true =>
    simp only [if_true] at hG4 ⊢
    refine ⟨m3, ρ, s3, (hE.ext hS.noTup e1).ext S1.noTup (e2.trans e3), S3, (Good.bind hG4).mono fun w' H4 ⟨m4, wd, s4, e4, S4, q4, hG5⟩ => ?_⟩
    exact ⟨m4, y, wd, s4, S4, q2.ext S2.noTup (e3.trans e4), q4, hG5.lift⟩
  | false =>
    simp only [Bool.false_eq_true, if_false] at hG4 ⊢
    exact hG4 m3 H3 _ Ext.refl S3 (.bl false)
theorem se_chain {op op' : CmpOp} {g g' : D → D → V1 D} (ho : OpR X (compareOp op) (r2 (X.K, zz) g)) (ho' : OpR X (compareOp op') (r2 (X.K, zz) g')) (ha : PE X a (tE (X.K, zz) W da)) (hb : PE X b (tE (X.K, zz) W db)) (hc : PE X c (tE (X.K, zz) W dc))
    (hm : lastMarks [op, op'] [b, c] = false := by with_unfolding_all rfl) : PE X (.Compare a [op, op'] [b, c] pos) (tE (X.K, zz) W (eChain g g' da db dc)) :=
  PE.imp (pe_chain ho ho' ha hb hc hm) fun _ _ _ h => intoChain h
theorem st_chain {op op' : CmpOp} {g g' : D → D → V1 D} (ho : OpR X (compareOp op) (r2 (X.K, zz) g)) (ho' : OpR X (compareOp op') (r2 (X.K, zz) g')) (ha : PE X a (tE (X.K, zz) W da)) (hb : PE X b (tE (X.K, zz) W db)) (hc : PE X c (tE (X.K, zz) W dc))
    (hm : lastMarks [op, op'] [b, c] = false := by with_unfolding_all rfl) : PT X (.Compare a [op, op'] [b, c] pos) (tT (X.K, zz) W (tV (eChain g g' da db dc))) :=
  PT.imp (pt_chain ho ho' ha hb hc hm) fun _ _ _ h => intoChain (intoT h)
/-! argument lists -/
theorem sa_nil : PA X [] (tA (X.K, zz) W aNil) := PA.imp pa_nil fun σ H Q ⟨m, ρ, s, hE, hS, hG⟩ => hG m H [] Ext.refl hS .nil
theorem sa_cons (ha : PE X e (tE (X.K, zz) W da)) (hr : PA X es (tA (X.K, zz) W ds)) (hs : starEach (e :: es) X.env = (false, eval e X.env) :: starEach es X.env := by rfl) : PA X (e :: es) (tA (X.K, zz) W (aCons da ds)) :=
  PA.imp (pa_cons ha hr hs) fun σ H Q ⟨m, ρ, s, hE, hS, hG⟩ => ⟨m, ρ, s, hE, hS, (Good.bind hG).mono fun v H1 ⟨m1, x, s1, e1, S1, q1, hG1⟩ =>
    ⟨m1, ρ, s1, hE.ext hS.noTup e1, S1, (Good.bind hG1).mono fun vs H2 ⟨m2, xs, s2, e2, S2, q2, hG2⟩ => hG2 m2 H2 _ Ext.refl S2 (.cons (q1.ext S1.noTup e2) q2)⟩⟩
/-! built-ins by name -/
theorem se_callB {x : Str} {id : String} {p : Pos} {g : List D → V1 D} (hc : CallR X (.builtin id) (rL (X.K, zz) g)) (hm : X.mg x = none) (hv : bootBuiltins x = some (.builtin id)) (ha : PA X (e :: es) (tA (X.K, zz) W ds)) (hg : Gl X x := by rfl) (hn : x ≠ "__name__" := by decide) (hdb : (x == ("__debug__" : Str)) = false := by decide)
    (he : starEach (e :: es) X.env = (false, eval e X.env) :: starEach es X.env := by rfl) (hpl : (backTo pos (starEach es X.env)).any (·.1) = false := by rfl) : PE X (.Call (.Name x p) (e :: es) [] pos) (tE (X.K, zz) W (eF g ds)) :=
  PE.imp (pe_callB hc hg hm hv ha hn hdb he hpl) fun _ _ _ h => intoL h
theorem se_callTy {x : Str} {T : String} {p : Pos} {g : List D → V1 D} (hc : CallR X (.type T) (rL (X.K, zz) g)) (hm : X.mg x = none) (hv : bootBuiltins x = some (.type T)) (ha : PA X (e :: es) (tA (X.K, zz) W ds)) (hg : Gl X x := by rfl) (hn : x ≠ "__name__" := by decide) (hdb : (x == ("__debug__" : Str)) = false := by decide)
    (he : starEach (e :: es) X.env = (false, eval e X.env) :: starEach es X.env := by rfl) (hpl : (backTo pos (starEach es X.env)).any (·.1) = false := by rfl) : PE X (.Call (.Name x p) (e :: es) [] pos) (tE (X.K, zz) W (eF g ds)) :=
  PE.imp (pe_callTy hc hg hm hv ha hn hdb he hpl) fun _ _ _ h => intoL h
/-! subscripts -/
theorem se_ix {g : D → D → V1 D} (hr : IxR X (r2 (X.K, zz) g)) (ha : PE X a (tE (X.K, zz) W da)) (hb : PE X b (tE (X.K, zz) W db)) (hs : PlainIx b := by exact fun _ _ => rfl) : PE X (.Subscript a b pos) (tE (X.K, zz) W (eB g da db)) :=
  PE.imp (pe_ix hr ha hb hs) fun _ _ _ h => into2 h
/-! a def called -/
/-- a def's promise -/
def spF (K : PySem.W.Frag) (n : Nat) (F : List D → M D) : Sp := fun vs H Q E => vs.length = n ∧ ∃ zz m ds s, RepL (K, zz) m H ds vs ∧ StR (K, zz) m H s ∧
  match F ds s with
  | .ok d s' => ∀ m' H' v, Ext m H m' H' → StR (K, zz) m' H' s' → Rep (K, zz) m' H' d v → Q v H'
  | .exn x s' => ∀ m' H' c d, Ext m H m' H' → StR (K, zz) m' H' s' → ERep (K, zz) m' H' x c d → E c d H'
  | .stuck => False
theorem spF_of {K : KZ} {n : Nat} {F : List D → M D} {m : List Addr} {H : Hp} {xs : List D} {vs : List V} {s : Sto} {σ : St} {Q : VK} {W : WX} (hl : xs.length = n) (r : RepL K m H xs vs) (S : StR K m H s) (h : Good K W σ (Rep K) m H Q (F xs s)) : spF K.1 n F vs H Q (WE W σ) := by
  obtain ⟨K, zz⟩ := K
  refine ⟨by rw [← r.length]; exact hl, zz, m, xs, s, r, S, ?_⟩
  cases e : F xs s with
  | ok d s' => rw [e] at h; exact h
  | exn x s' => rw [e] at h; exact h
  | stuck => rw [e] at h; exact h
/-- a def that takes n arguments -/
def fnN (n : Nat) (F : List D → M D) : List D → M D := fun xs s => if xs.length = n then F xs s else .stuck
theorem fnN_at {n : Nat} {F : List D → M D} {xs : List D} (h : xs.length = n) : fnN n F xs = F xs := by
  funext s
  unfold fnN
  rw [if_pos h]
theorem intoCall {K : KZ} {n : Nat} {F : List D → M D} {σ : St} {H : Hp} {Q : VK} (h : tE K W (eCall (fnN n F) ds) σ H Q) : tCallS (spF K.1 n F) (WE W) (tA K W ds) σ H Q := by
  obtain ⟨m, ρ, s, hE, hS, hG⟩ := h
  refine ⟨m, ρ, s, hE, hS, (Good.bind hG).mono fun vs H1 ⟨m1, xs, s1, e1, S1, q1, hG1⟩ => ?_⟩
  unfold fnN at hG1
  by_cases hl : xs.length = n
  · rw [if_pos hl] at hG1
    exact spF_of hl q1 S1 hG1
  · rw [if_neg hl] at hG1
    exact hG1.elim
theorem se_call {k f : Nat} {fd : FuncData} {ps : List Str} {n : Nat} {F : List D → M D} {x : Str} {p : Pos} (G : FnOk X.prog X.w X.K X.mg X.base (L2.CX X.prog X.w) k f fd ps (spF X.K n F)) (hr : Room k X.A) (hm : X.mg x = some (.ref f)) (hk : PySem.W.keepIn X.K (.ref f) = true) (hb : Binds X.K fd ps []) (tk : Takes X W)
    (ha : PA X (e :: es) (tA (X.K, zz) W ds)) (hg : Gl X x := by rfl) (hdb : (x == ("__debug__" : Str)) = false := by decide) (he : starEach (e :: es) X.env = (false, eval e X.env) :: starEach es X.env := by rfl) (hpl : (backTo pos (starEach es X.env)).any (·.1) = false := by rfl) :
    PE X (.Call (.Name x p) (e :: es) [] pos) (tE (X.K, zz) W (eCall (fnN n F) ds)) :=
  PE.imp (pe_callS G hr hg hm hk hb (fun σ => passAt tk σ) ha hdb he hpl) fun _ _ _ h => intoCall h
theorem se_call0 {k f : Nat} {fd : FuncData} {F : List D → M D} {x : Str} {p : Pos} (G : FnOk X.prog X.w X.K X.mg X.base (L2.CX X.prog X.w) k f fd [] (spF X.K 0 F)) (hr : Room k X.A) (hm : X.mg x = some (.ref f)) (hk : PySem.W.keepIn X.K (.ref f) = true) (hb : Binds X.K fd [] []) (tk : Takes X W)
    (hg : Gl X x := by rfl) (hdb : (x == ("__debug__" : Str)) = false := by decide) :
    PE X (.Call (.Name x p) [] [] pos) (tE (X.K, zz) W (eCall (fnN 0 F) aNil)) := by
  refine ⟨fun pins s σ H Q I h => ?_⟩
  refine wpAny_Call_Name_kw (ld_glob I hg hm ?_ hdb)
  refine PySem.W.callWith_K0 I.kIn hk (run_fnS (us := []) (vs := []) (E := WE W) G hr hb (passAt tk σ) I .nil ?_)
  obtain ⟨m, ρ, st, hE, hS, hG⟩ := h
  exact spF_of rfl .nil hS hG
end
end QS
end

section
set_option Elab.async false
set_option linter.all false
set_option maxRecDepth 100000
set_option maxHeartbeats 4000000
/-! QS2: operations by values. -/
namespace QS
open PySem PySem.Spec PyProof.Rows L2
def orV2 (g h : D → D → V1 D) : D → D → V1 D := fun x y s => match g x y s with
  | some r => some r
  | none => h x y s
def orVL (g h : List D → V1 D) : List D → V1 D := fun xs s => match g xs s with
  | some r => some r
  | none => h xs s
theorem r2_or {K : KZ} {g h : D → D → V1 D} {x y : V} {H : Hp} {Q : VK} (q : r2 K (orV2 g h) x y H Q) : r2 K g x y H Q ∨ r2 K h x y H Q := by
  obtain ⟨m, d, e, s, S, hd, he, hG⟩ := q
  unfold orV2 at hG
  cases hg : g d e s with
  | some r =>
    rw [hg] at hG
    exact .inl ⟨m, d, e, s, S, hd, he, by rw [hg]; exact hG⟩
  | none =>
    rw [hg] at hG
    exact .inr ⟨m, d, e, s, S, hd, he, hG⟩
theorem OpR.orV {zz : List Addr} {X : Cx} {f : Value → Value → Sem Value} {g h : D → D → V1 D} (a : OpR X f (r2 (X.K, zz) g)) (b : OpR X f (r2 (X.K, zz) h)) : OpR X f (r2 (X.K, zz) (orV2 g h)) := fun pins s σ H x y v u Q I rx ry q =>
  (r2_or q).elim (a pins s σ H x y v u Q I rx ry) (b pins s σ H x y v u Q I rx ry)
theorem IxR.orV {zz : List Addr} {X : Cx} {g h : D → D → V1 D} (a : IxR X (r2 (X.K, zz) g)) (b : IxR X (r2 (X.K, zz) h)) : IxR X (r2 (X.K, zz) (orV2 g h)) := by
  intro value slice pins s σ H x y v u Q I rx ry q hs
  exact (r2_or q).elim (fun z => a value slice pins s σ H x y v u Q I rx ry z hs) (fun z => b value slice pins s σ H x y v u Q I rx ry z hs)
theorem CallR.orV {zz : List Addr} {X : Cx} {f : Value} {g h : List D → V1 D} (a : CallR X f (rL (X.K, zz) g)) (b : CallR X f (rL (X.K, zz) h)) : CallR X f (rL (X.K, zz) (orVL g h)) := by
  intro pins s σ H xs us Q I r ⟨m, ds, st, S, hd, hG⟩
  unfold orVL at hG
  cases hg : g ds st with
  | some z =>
    rw [hg] at hG
    exact a pins s σ H xs us Q I r ⟨m, ds, st, S, hd, by rw [hg]; exact hG⟩
  | none =>
    rw [hg] at hG
    exact b pins s σ H xs us Q I r ⟨m, ds, st, S, hd, hG⟩

/-! ### lists and tuples in the heap -/
/-- a list, wherever it lies -/
def lstOf (s : Sto) : D → Option (List D)
  | .lst l => some l
  | .scr l => some l
  | .loc n => match s[n]? with
    | some (.lst l) => some l
    | _ => none
  | _ => none
/-- .. but the script -/
def lst2 (s : Sto) : D → Option (List D)
  | .lst l => some l
  | .loc n => match s[n]? with
    | some (.lst l) => some l
    | _ => none
  | _ => none
/-- a list or a tuple -/
def seqOf (s : Sto) : D → Option (List D)
  | .tup l => some l
  | .lst l => some l
  | .scr l => some l
  | .loc n => match s[n]? with
    | some (.lst l) => some l
    | _ => none
  | _ => none
section
variable {K : KZ} {m : List Addr} {H : Hp} {s : Sto} {d : D} {v : V} {ds : List D} {vs : List V} {Q : VK}
theorem locL {n : Nat} (h : (match s[n]? with
    | some (.lst l) => some l
    | _ => none) = some ds) : s[n]? = some (.lst ds) := by
  cases e : s[n]? with
  | none => rw [e] at h; cases h
  | some o =>
    rw [e] at h
    cases o with
    | lst l => cases h; rfl
    | _ => cases h
theorem lst2_at (S : StR K m H s) (r : Rep K m H d v) (h : lst2 s d = some ds) : ∃ a vs, v = .ref a ∧ H a = some (.lst vs) ∧ RepL K m H ds vs := by
  cases r with
  | lst n e q => cases h; exact ⟨_, _, rfl, e, q⟩
  | @loc n a e =>
    have hl : s[n]? = some (.lst ds) := locL h
    · obtain ⟨vs, e1, q⟩ := S.obj n a _ e hl
      exact ⟨a, vs, rfl, e1, q⟩
  | _ => cases h
theorem lstOf_at (S : StR K m H s) (r : Rep K m H d v) (h : lstOf s d = some ds) : ∃ a vs, v = .ref a ∧ SqL K.1 H a vs ∧ RepL K m H ds vs := by
  cases r with
  | lst n e q => cases h; exact ⟨_, _, rfl, .inl (.inl e), q⟩
  | scr e q => cases h; exact ⟨_, _, rfl, e.l, q⟩
  | @loc n a e =>
    have hl : s[n]? = some (.lst ds) := locL h
    · obtain ⟨vs, e1, q⟩ := S.obj n a _ e hl
      exact ⟨a, vs, rfl, .inl (.inl e1), q⟩
  | _ => cases h
theorem seqOf_at (S : StR K m H s) (r : Rep K m H d v) (h : seqOf s d = some ds) : ∃ a vs, v = .ref a ∧ (SqL K.1 H a vs ∨ SqT K.1 H a vs) ∧ RepL K m H ds vs := by
  cases r with
  | tup e q => cases h; exact ⟨_, _, rfl, .inr e, q⟩
  | lst n e q => cases h; exact ⟨_, _, rfl, .inl (.inl (.inl e)), q⟩
  | scr e q => cases h; exact ⟨_, _, rfl, .inl e.l, q⟩
  | @loc n a e =>
    have hl : s[n]? = some (.lst ds) := locL h
    · obtain ⟨vs, e1, q⟩ := S.obj n a _ e hl
      exact ⟨a, vs, rfl, .inl (.inl (.inl e1)), q⟩
  | _ => cases h
theorem tup_at (r : Rep K m H (.tup ds) v) : ∃ a vs, v = .ref a ∧ SqT K.1 H a vs ∧ RepL K m H ds vs := by
  cases r with
  | tup e q => exact ⟨_, _, rfl, e, q⟩
/-- a new list: of the store (mu), or that stays -/
def new (mu : Bool) (l : List D) : V1 D := fun s => if mu = true then some (.loc s.length, s ++ [.lst l]) else some (.lst l, s)
theorem fresh_notin (S : StR K m H s) {p : Addr} (hp : H p = none) : Nin K m p := by
  refine ⟨fun z => ?_, fun z => (S.hid p z).1 hp⟩
  obtain ⟨u, q, _⟩ := S.noTup p z
  rw [hp] at q; cases q
theorem RepL.upd (S : StR K m H s) (r : RepL K m H ds vs) {p : Addr} {o : HO} (hp : H p = none) : RepL K m (upd H p o) ds vs := RepL.ext S.noTup (Ext.same (same_upd hp)) r
theorem new_ok {mu : Bool} (S : StR K m H s) (r : RepL K m H ds vs) (h : GoodV K m H Q (new mu ds s)) (p : Addr) (hp : H p = none) : Q (.ref p) (L2.upd H p (.lst vs)) := by
  cases mu with
  | false =>
    have h : GoodV K m H Q (some (.lst ds, s)) := h
    exact h m _ _ (Ext.same (same_upd hp)) (S.same (same_upd hp)) (.lst (fresh_notin S hp) upd_same (RepL.upd S r hp))
  | true =>
    have h : GoodV K m H Q (some (.loc s.length, s ++ [.lst ds])) := h
    refine h (m ++ [p]) _ _ (Ext.new hp) (S.new hp ⟨vs, upd_same, RepL.ext S.noTup (Ext.new hp) r⟩) (.loc ?_)
    rw [← S.len]
    simp
theorem newT_ok (S : StR K m H s) (r : RepL K m H ds vs) (h : GoodV K m H Q (some (.tup ds, s))) (p : Addr) (hp : H p = none) : Q (.ref p) (L2.upd H p (.tup vs)) :=
  h m _ _ (Ext.same (same_upd hp)) (S.same (same_upd hp)) (.tup (.inl (.inl upd_same)) (RepL.upd S r hp))
theorem GoodV.here {d : D} (S : StR K m H s) (h : GoodV K m H Q (some (d, s))) (r : Rep K m H d v) : Q v H := h m H v Ext.refl S r
end

/-! ### numbers -/
def gI2 (C : Int → Int → Prop) [∀ i j, Decidable (C i j)] (f : Int → Int → D) : D → D → V1 D := fun x y s => match x, y with
  | .int i, .int j => if C i j then some (f i j, s) else none
  | _, _ => none
theorem gI2_at {C : Int → Int → Prop} [∀ i j, Decidable (C i j)] {f : Int → Int → D} {K : KZ} {x y : V} {H : Hp} {Q : VK} (h : r2 K (gI2 C f) x y H Q) :
    ∃ i j, x = .int i ∧ y = .int j ∧ C i j ∧ ∀ v, (∀ m, Rep K m H (f i j) v) → Q v H := by
  obtain ⟨m, d, e, s, S, hd, he, hG⟩ := h
  cases hd with
  | int i =>
    cases he with
    | int j =>
      have hG : GoodV K m H Q (if C i j then some (f i j, s) else none) := hG
      by_cases c : C i j
      · rw [if_pos c] at hG
        exact ⟨i, j, rfl, rfl, c, fun v r => hG.here S (r m)⟩
      · rw [if_neg c] at hG
        exact hG.elim
    | _ => exact hG.elim
  | _ => exact hG.elim
def gAddI : D → D → V1 D := gI2 (fun _ _ => True) fun i j => .int (i + j)
def gSub : D → D → V1 D := gI2 (fun _ _ => True) fun i j => .int (i - j)
/-- below a million bits together -/
def MulOk (i j : Int) : Prop := CMul i j ∨ CMulW i j
instance (i j : Int) : Decidable (MulOk i j) := by unfold MulOk CMul CMulW; infer_instance
def gMulI : D → D → V1 D := gI2 MulOk fun i j => .int (i * j)
def DivOk (i j : Int) : Prop := 0 < j ∧ j.natAbs.log2 < 9000
instance (i j : Int) : Decidable (DivOk i j) := by unfold DivOk; infer_instance
def gDiv : D → D → V1 D := gI2 DivOk fun i j => .int (i / j)
def gMod : D → D → V1 D := gI2 (fun _ j => 0 < j) fun i j => .int (i % j)
def PowOk (i j : Int) : Prop := CPow i j
instance (i j : Int) : Decidable (PowOk i j) := by unfold PowOk CPow; infer_instance
def gPow : D → D → V1 D := gI2 PowOk fun i j => .int (i ^ j.toNat)
def gLt : D → D → V1 D := gI2 (fun _ _ => True) fun i j => .bl (decide (i < j))
def gLe : D → D → V1 D := gI2 (fun _ _ => True) fun i j => .bl (decide (i ≤ j))
def gGt : D → D → V1 D := gI2 (fun _ _ => True) fun i j => .bl (decide (j < i))
def gGe : D → D → V1 D := gI2 (fun _ _ => True) fun i j => .bl (decide (j ≤ i))
def gNeg : D → V1 D := fun x s => match x with
  | .int i => some (.int (-i), s)
  | _ => none
section
variable {zz : List Addr} {X : Cx}
theorem o_addI : OpR X (binaryOp .Add) (r2 (X.K, zz) gAddI) := fun pins s σ H x y v u Q I rx ry h => by
  obtain ⟨i, j, ex, ey, _, q⟩ := gI2_at h
  exact op_add pins s σ H x y v u Q I rx ry ⟨i, j, ex, ey, q _ fun _ => .int _⟩
theorem o_addII : OpR X (inplaceOp .Add) (r2 (X.K, zz) gAddI) := fun pins s σ H x y v u Q I rx ry h => by
  obtain ⟨i, j, ex, ey, _, q⟩ := gI2_at h
  exact iop_add pins s σ H x y v u Q I rx ry ⟨i, j, ex, ey, q _ fun _ => .int _⟩
theorem o_sub : OpR X (binaryOp .Sub) (r2 (X.K, zz) gSub) := fun pins s σ H x y v u Q I rx ry h => by
  obtain ⟨i, j, ex, ey, _, q⟩ := gI2_at h
  exact op_sub pins s σ H x y v u Q I rx ry ⟨i, j, ex, ey, q _ fun _ => .int _⟩
theorem o_mulI : OpR X (binaryOp .Mult) (r2 (X.K, zz) gMulI) := fun pins s σ H x y v u Q I rx ry h => by
  obtain ⟨i, j, ex, ey, c, q⟩ := gI2_at h
  rcases c with c | c
  · exact op_mul pins s σ H x y v u Q I rx ry ⟨i, j, ex, ey, c, q _ fun _ => .int _⟩
  · exact op_mulW pins s σ H x y v u Q I rx ry ⟨i, j, ex, ey, c, q _ fun _ => .int _⟩
theorem o_div : OpR X (binaryOp .FloorDiv) (r2 (X.K, zz) gDiv) := fun pins s σ H x y v u Q I rx ry h => by
  obtain ⟨i, j, ex, ey, c, q⟩ := gI2_at h
  exact op_fdivW pins s σ H x y v u Q I rx ry ⟨i, j, ex, ey, c, q _ fun _ => .int _⟩
theorem o_mod : OpR X (binaryOp .Mod) (r2 (X.K, zz) gMod) := fun pins s σ H x y v u Q I rx ry h => by
  obtain ⟨i, j, ex, ey, c, q⟩ := gI2_at h
  exact op_mod pins s σ H x y v u Q I rx ry ⟨i, j, ex, ey, c, q _ fun _ => .int _⟩
theorem o_pow : OpR X (binaryOp .Pow) (r2 (X.K, zz) gPow) := fun pins s σ H x y v u Q I rx ry h => by
  obtain ⟨i, j, ex, ey, c, q⟩ := gI2_at h
  exact op_pow pins s σ H x y v u Q I rx ry ⟨i, j, ex, ey, c, q _ fun _ => .int _⟩
theorem o_ltI : OpR X (compareOp .Lt) (r2 (X.K, zz) gLt) := fun pins s σ H x y v u Q I rx ry h => by
  obtain ⟨i, j, ex, ey, _, q⟩ := gI2_at h
  exact op_lt pins s σ H x y v u Q I rx ry ⟨i, j, ex, ey, q _ fun _ => .bl _⟩
theorem o_le : OpR X (compareOp .LtE) (r2 (X.K, zz) gLe) := fun pins s σ H x y v u Q I rx ry h => by
  obtain ⟨i, j, ex, ey, _, q⟩ := gI2_at h
  exact op_le pins s σ H x y v u Q I rx ry ⟨i, j, ex, ey, q _ fun _ => .bl _⟩
theorem o_gt : OpR X (compareOp .Gt) (r2 (X.K, zz) gGt) := fun pins s σ H x y v u Q I rx ry h => by
  obtain ⟨i, j, ex, ey, _, q⟩ := gI2_at h
  exact op_gt pins s σ H x y v u Q I rx ry ⟨i, j, ex, ey, q _ fun _ => .bl _⟩
theorem o_ge : OpR X (compareOp .GtE) (r2 (X.K, zz) gGe) := fun pins s σ H x y v u Q I rx ry h => by
  obtain ⟨i, j, ex, ey, _, q⟩ := gI2_at h
  exact op_ge pins s σ H x y v u Q I rx ry ⟨i, j, ex, ey, q _ fun _ => .bl _⟩
theorem o_neg : UnR X (unaryOp .USub) (r1 (X.K, zz) gNeg) := fun pins s σ H x v Q I rx h => by
  obtain ⟨m, d, st, S, hd, hG⟩ := h
  cases hd with
  | int i => exact un_neg pins s σ H _ v Q I rx ⟨i, rfl, GoodV.here S hG (.int _)⟩
  | _ => exact hG.elim

/-! ### +, * of texts, lists, tuples -/
def gAddS : D → D → V1 D := fun x y s => match x, y with
  | .str a, .str b => if a.length + b.length ≤ sizeLine then some (.str (a ++ b), s) else none
  | _, _ => none
def gAddT : D → D → V1 D := fun x y s => match x, y with
  | .tup a, .tup b => if a.length + b.length ≤ sizeLine then some (.tup (a ++ b), s) else none
  | _, _ => none
def gAddL (mu : Bool) : D → D → V1 D := fun x y s => match lst2 s x, lst2 s y with
  | some a, some b => if a.length + b.length ≤ sizeLine then new mu (a ++ b) s else none
  | _, _ => none
def gAdd (mu : Bool) : D → D → V1 D := orV2 gAddI (orV2 gAddS (orV2 gAddT (gAddL mu)))
theorem o_addS : OpR X (binaryOp .Add) (r2 (X.K, zz) gAddS) := fun pins s σ H x y v u Q I rx ry h => by
  obtain ⟨m, d, e, st, S, hd, he, hG⟩ := h
  cases hd with
  | str a =>
    cases he with
    | str b =>
      have hG : GoodV (X.K, zz) m H Q (if a.length + b.length ≤ sizeLine then some (.str (a ++ b), st) else none) := hG
      by_cases c : a.length + b.length ≤ sizeLine
      · rw [if_pos c] at hG
        exact op_add_str pins s σ H _ _ v u Q I rx ry ⟨a, b, rfl, rfl, c, hG.here S (.str _)⟩
      · rw [if_neg c] at hG
        exact hG.elim
    | _ => exact hG.elim
  | _ => exact hG.elim
theorem o_addT : OpR X (binaryOp .Add) (r2 (X.K, zz) gAddT) := fun pins s σ H x y v u Q I rx ry h => by
  obtain ⟨m, d, e, st, S, hd, he, hG⟩ := h
  cases hd with
  | @tup a as vs h1 q1 =>
    cases he with
    | @tup b bs us h2 q2 =>
      have hG : GoodV (X.K, zz) m H Q (if as.length + bs.length ≤ sizeLine then some (.tup (as ++ bs), st) else none) := hG
      by_cases c : as.length + bs.length ≤ sizeLine
      · rw [if_pos c] at hG
        refine op_catA pins s σ H _ _ v u Q I rx ry ⟨a, b, vs, us, rfl, rfl, h1, h2, by rw [← q1.length, ← q2.length]; exact c, fun z => ?_, fun _ z => ?_, fun _ _ => newT_ok S (q1.append q2) hG⟩
        · rw [q1.nil_iff.mpr z, List.nil_append] at hG
          exact hG.here S (.tup h2 q2)
        · rw [q2.nil_iff.mpr z, List.append_nil] at hG
          exact hG.here S (.tup h1 q1)
      · rw [if_neg c] at hG
        exact hG.elim
    | _ => exact hG.elim
  | _ => exact hG.elim
theorem o_addL {mu : Bool} : OpR X (binaryOp .Add) (r2 (X.K, zz) (gAddL mu)) := fun pins s σ H x y v u Q I rx ry h => by
  obtain ⟨m, d, e, st, S, hd, he, hG⟩ := h
  unfold gAddL at hG
  cases h1 : lst2 st d with
  | none => rw [h1] at hG; exact hG.elim
  | some a =>
    cases h2 : lst2 st e with
    | none => rw [h1, h2] at hG; exact hG.elim
    | some b =>
      rw [h1, h2] at hG
      have hG : GoodV (X.K, zz) m H Q (if a.length + b.length ≤ sizeLine then new mu (a ++ b) st else none) := hG
      by_cases c : a.length + b.length ≤ sizeLine
      · rw [if_pos c] at hG
        obtain ⟨l, vs, rfl, e1, q1⟩ := lst2_at S hd h1
        obtain ⟨l', us, rfl, e2, q2⟩ := lst2_at S he h2
        exact op_cat pins s σ H _ _ v u Q I rx ry ⟨l, l', vs, us, rfl, rfl, e1, e2, by rw [← q1.length, ← q2.length]; exact c, fun p hp => new_ok S (q1.append q2) hG p hp⟩
      · rw [if_neg c] at hG
        exact hG.elim
theorem o_add {mu : Bool} : OpR X (binaryOp .Add) (r2 (X.K, zz) (gAdd mu)) := OpR.orV o_addI (OpR.orV o_addS (OpR.orV o_addT o_addL))
/-- list * int -/
def gRepL (mu : Bool) : D → D → V1 D := fun x y s => match lst2 s x, y with
  | some a, .int k => if k < 2 ^ 30 ∧ -(2 ^ 30) < k ∧ a.length * k.toNat ≤ sizeLine then new mu (List.replicate k.toNat a).flatten s else none
  | _, _ => none
theorem o_repL {mu : Bool} : OpR X (binaryOp .Mult) (r2 (X.K, zz) (gRepL mu)) := fun pins s σ H x y v u Q I rx ry h => by
  obtain ⟨m, d, e, st, S, hd, he, hG⟩ := h
  unfold gRepL at hG
  cases h1 : lst2 st d with
  | none => rw [h1] at hG; exact hG.elim
  | some a =>
    rw [h1] at hG
    cases he with
    | int k =>
      have hG : GoodV (X.K, zz) m H Q (if k < 2 ^ 30 ∧ -(2 ^ 30) < k ∧ a.length * k.toNat ≤ sizeLine then new mu (List.replicate k.toNat a).flatten st else none) := hG
      by_cases c : k < 2 ^ 30 ∧ -(2 ^ 30) < k ∧ a.length * k.toNat ≤ sizeLine
      · rw [if_pos c] at hG
        obtain ⟨l, vs, rfl, e1, q1⟩ := lst2_at S hd h1
        exact op_rep pins s σ H _ _ v u Q I rx ry ⟨l, k, vs, rfl, rfl, e1, by omega, by omega, by rw [← q1.length]; exact c.2.2, fun p hp => new_ok S (q1.flatten_rep _) hG p hp⟩
      · rw [if_neg c] at hG
        exact hG.elim
    | _ => exact hG.elim
/-- tuple * int -/
def gRepT : D → D → V1 D := fun x y s => match x, y with
  | .tup a, .int k => if a ≠ [] ∧ 2 ≤ k ∧ k ≤ 1000 ∧ a.length ≤ 1000 then some (.tup (List.replicate k.toNat a).flatten, s) else none
  | _, _ => none
theorem o_repT : OpR X (binaryOp .Mult) (r2 (X.K, zz) gRepT) := fun pins s σ H x y v u Q I rx ry h => by
  obtain ⟨m, d, e, st, S, hd, he, hG⟩ := h
  cases hd with
  | @tup a as vs h1 q1 =>
    cases he with
    | int k =>
      have hG : GoodV (X.K, zz) m H Q (if as ≠ [] ∧ 2 ≤ k ∧ k ≤ 1000 ∧ as.length ≤ 1000 then some (.tup (List.replicate k.toNat as).flatten, st) else none) := hG
      by_cases c : as ≠ [] ∧ 2 ≤ k ∧ k ≤ 1000 ∧ as.length ≤ 1000
      · rw [if_pos c] at hG
        exact op_repT pins s σ H _ _ v u Q I rx ry ⟨a, k, vs, rfl, rfl, h1, fun z => c.1 (q1.nil_iff.mpr z), c.2.1, c.2.2.1, by rw [← q1.length]; exact c.2.2.2, fun p hp => newT_ok S (q1.flatten_rep _) hG p hp⟩
      · rw [if_neg c] at hG
        exact hG.elim
    | _ => exact hG.elim
  | _ => exact hG.elim
def gMul (mu : Bool) : D → D → V1 D := orV2 gMulI (orV2 (gRepL mu) gRepT)
theorem o_mul {mu : Bool} : OpR X (binaryOp .Mult) (r2 (X.K, zz) (gMul mu)) := OpR.orV o_mulI (OpR.orV o_repL o_repT)
/-! ### subscripts -/
def gIxL : D → D → V1 D := fun x y s => match lstOf s x, y with
  | some a, .int i => (atI a i).map fun d => (d, s)
  | _, _ => none
def gIxT : D → D → V1 D := fun x y s => match x, y with
  | .tup a, .int i => (atI a i).map fun d => (d, s)
  | _, _ => none
def gIxS : D → D → V1 D := fun x y s => match x, y with
  | .str z, .int i => if z.length ≤ sizeLine then (atI z.cps.toList i).map fun c => (.str ⟨#[c]⟩, s) else none
  | _, _ => none
def gIx : D → D → V1 D := orV2 gIxL (orV2 gIxT gIxS)
theorem atI_rep {K : KZ} {m : List Addr} {H : Hp} {ds : List D} {vs : List V} {i : Int} {d : D} (r : RepL K m H ds vs) (h : atI ds i = some d) : ∃ v, atI vs i = some v ∧ Rep K m H d v := by
  unfold atI at h ⊢
  rw [← r.length]
  cases e : ixN ds.length i with
  | none => rw [e] at h; cases h
  | some j =>
    rw [e] at h
    exact r.get h
theorem i_list : IxR X (r2 (X.K, zz) gIxL) := fun value slice pins s σ H x y v u Q I rx ry h hs => by
  obtain ⟨m, d, e, st, S, hd, he, hG⟩ := h
  unfold gIxL at hG
  cases h1 : lstOf st d with
  | none => rw [h1] at hG; exact hG.elim
  | some a =>
    rw [h1] at hG
    cases he with
    | int i =>
      have hG : GoodV (X.K, zz) m H Q ((atI a i).map fun d => (d, st)) := hG
      cases h2 : atI a i with
      | none => rw [h2] at hG; exact hG.elim
      | some d' =>
        rw [h2] at hG
        obtain ⟨l, vs, rfl, e1, q1⟩ := lstOf_at S hd h1
        obtain ⟨w, hw, rw'⟩ := atI_rep q1 h2
        exact ix_list value slice pins s σ H _ _ v u Q I rx ry ⟨l, vs, i, w, rfl, rfl, e1, hw, GoodV.here S hG rw'⟩ hs
    | _ => exact hG.elim
theorem i_tup : IxR X (r2 (X.K, zz) gIxT) := fun value slice pins s σ H x y v u Q I rx ry h hs => by
  obtain ⟨m, d, e, st, S, hd, he, hG⟩ := h
  cases hd with
  | @tup a as vs h1 q1 =>
    cases he with
    | int i =>
      have hG : GoodV (X.K, zz) m H Q ((atI as i).map fun d => (d, st)) := hG
      cases h2 : atI as i with
      | none => rw [h2] at hG; exact hG.elim
      | some d' =>
        rw [h2] at hG
        obtain ⟨w, hw, rw'⟩ := atI_rep q1 h2
        exact ix_tup value slice pins s σ H _ _ v u Q I rx ry ⟨a, vs, i, w, rfl, rfl, h1, hw, GoodV.here S hG rw'⟩ hs
    | _ => exact hG.elim
  | _ => exact hG.elim
theorem i_str : IxR X (r2 (X.K, zz) gIxS) := fun value slice pins s σ H x y v u Q I rx ry h hs => by
  obtain ⟨m, d, e, st, S, hd, he, hG⟩ := h
  cases hd with
  | str z =>
    cases he with
    | int i =>
      have hG : GoodV (X.K, zz) m H Q (if z.length ≤ sizeLine then (atI z.cps.toList i).map fun c => (.str ⟨#[c]⟩, st) else none) := hG
      by_cases hz : z.length ≤ sizeLine
      · rw [if_pos hz] at hG
        cases h2 : atI z.cps.toList i with
        | none => rw [h2] at hG; exact hG.elim
        | some c =>
          rw [h2] at hG
          exact ix_str value slice pins s σ H _ _ v u Q I rx ry ⟨z, i, c, rfl, rfl, hz, h2, GoodV.here S hG (.str _)⟩ hs
      · rw [if_neg hz] at hG
        exact hG.elim
    | _ => exact hG.elim
  | _ => exact hG.elim
theorem i_seq : IxR X (r2 (X.K, zz) gIx) := IxR.orV i_list (IxR.orV i_tup i_str)
end
end QS
end

section
set_option Elab.async false
set_option linter.all false
set_option maxRecDepth 100000
set_option maxHeartbeats 4000000
/-! QS3: built-ins by values; equality. -/
namespace QS
open PySem PySem.Spec PyProof.Rows L2
def intsOf : List D → Option (List Int)
  | [] => some []
  | .int i :: r => (intsOf r).map (i :: ·)
  | _ :: _ => none
def blsOf : List D → Option (List Bool)
  | [] => some []
  | .bl i :: r => (blsOf r).map (i :: ·)
  | _ :: _ => none
def strsOf : List D → Option (List Str)
  | [] => some []
  | .str i :: r => (strsOf r).map (i :: ·)
  | _ :: _ => none
@[simp] theorem intsOf_map : ∀ ns : List Int, intsOf (ns.map D.int) = some ns
  | [] => rfl
  | i :: r => by rw [List.map_cons, intsOf, intsOf_map r]; rfl
@[simp] theorem blsOf_map : ∀ ns : List Bool, blsOf (ns.map D.bl) = some ns
  | [] => rfl
  | i :: r => by rw [List.map_cons, blsOf, blsOf_map r]; rfl
@[simp] theorem strsOf_map : ∀ ns : List Str, strsOf (ns.map D.str) = some ns
  | [] => rfl
  | i :: r => by rw [List.map_cons, strsOf, strsOf_map r]; rfl
section
variable {K : KZ} {m : List Addr} {H : Hp}
theorem ints_rep : ∀ {ds : List D} {vs : List V} {ns : List Int}, RepL K m H ds vs → intsOf ds = some ns → vs = ns.map V.int
  | _, _, _, .nil, h => by cases h; rfl
  | d :: _, _, ns, .cons hd r, h => by
    cases hd with
    | int i =>
      rw [intsOf] at h
      obtain ⟨t, h1, h2⟩ := Option.map_eq_some_iff.mp h
      rw [← h2, List.map_cons, ints_rep r h1]
    | _ => cases h
theorem bls_rep : ∀ {ds : List D} {vs : List V} {ns : List Bool}, RepL K m H ds vs → blsOf ds = some ns → vs = ns.map V.bl
  | _, _, _, .nil, h => by cases h; rfl
  | d :: _, _, ns, .cons hd r, h => by
    cases hd with
    | bl i =>
      rw [blsOf] at h
      obtain ⟨t, h1, h2⟩ := Option.map_eq_some_iff.mp h
      rw [← h2, List.map_cons, bls_rep r h1]
    | _ => cases h
theorem strs_rep : ∀ {ds : List D} {vs : List V} {ns : List Str}, RepL K m H ds vs → strsOf ds = some ns → vs = ns.map V.str
  | _, _, _, .nil, h => by cases h; rfl
  | d :: _, _, ns, .cons hd r, h => by
    cases hd with
    | str i =>
      rw [strsOf] at h
      obtain ⟨t, h1, h2⟩ := Option.map_eq_some_iff.mp h
      rw [← h2, List.map_cons, strs_rep r h1]
    | _ => cases h
theorem rep_ints (ns : List Int) : RepL K m H (ns.map D.int) (ns.map V.int) := by
  induction ns with
  | nil => exact .nil
  | cons i r ih => exact .cons (.int i) ih
theorem rep_strs (ns : List Str) : RepL K m H (ns.map D.str) (ns.map V.str) := by
  induction ns with
  | nil => exact .nil
  | cons i r ih => exact .cons (.str i) ih
theorem seqOf_len {s : Sto} {d : D} {v : V} {ds : List D} (S : StR K m H s) (r : Rep K m H d v) (h : seqOf s d = some ds) : LenV K.1 v H ds.length := by
  obtain ⟨a, vs, rfl, e, q⟩ := seqOf_at S r h
  rcases e with e | e
  · exact .inl ⟨vs, e, q.length⟩
  · exact .inr ⟨vs, e, q.length⟩
end
/-! len, abs, int, bool, str, min, max, sum, any, all -/
def g1 (f : Sto → D → Option D) : List D → V1 D := fun xs s => match xs with
  | [x] => (f s x).map fun d => (d, s)
  | _ => none
def gLenS : List D → V1 D := g1 fun s x => match x with
  | .str z => if z.length ≤ sizeLine then some (.int z.length) else none
  | x => (seqOf s x).map fun l => .int l.length
def dicOf (s : Sto) : D → Option (List Key × List D)
  | .dic ks vs => some (ks, vs)
  | .loc n => match s[n]? with
    | some (.dic ks vs) => some (ks, vs)
    | _ => none
  | _ => none
def gLenD : List D → V1 D := g1 fun s x => (dicOf s x).map fun l => .int l.1.length
def gLen : List D → V1 D := orVL gLenS gLenD
section
variable {zz : List Addr} {X : Cx}
theorem g1_at {f : Sto → D → Option D} {vs : List V} {H : Hp} {Q : VK} (h : rL (X.K, zz) (g1 f) vs H Q) : ∃ m d e s v, vs = [v] ∧ StR (X.K, zz) m H s ∧ Rep (X.K, zz) m H d v ∧ f s d = some e ∧ ∀ w, Rep (X.K, zz) m H e w → Q w H := by
  obtain ⟨m, ds, s, S, r, hG⟩ := h
  unfold g1 at hG
  cases r with
  | nil => exact hG.elim
  | cons hd r =>
    cases r with
    | nil =>
      rename_i d v
      have hG : GoodV (X.K, zz) m H Q ((f s d).map fun d => (d, s)) := hG
      cases e : f s d with
      | none => rw [e] at hG; exact hG.elim
      | some e' =>
        rw [e] at hG
        exact ⟨m, d, e', s, v, rfl, S, hd, e, fun w rw' => GoodV.here S hG rw'⟩
    | cons _ _ => exact hG.elim
theorem c_lenS : CallR X (.builtin "len") (rL (X.K, zz) gLenS) := by
  intro pins s σ H xs us Q I r h
  obtain ⟨m, d, e, st, v, rfl, S, hd, he, q⟩ := g1_at h
  have seq : ∀ l, seqOf st d = some l → e = .int l.length → wpAny (model X.prog X.w) X.A (call (.builtin "len") us) (EP X pins σ Q) X.xe s := fun l hl z => by
    subst z
    exact call_len pins s σ H _ us Q I r ⟨v, l.length, rfl, seqOf_len S hd hl, q _ (.int _)⟩
  have gen : (∀ z, d ≠ .str z) → wpAny (model X.prog X.w) X.A (call (.builtin "len") us) (EP X pins σ Q) X.xe s := fun hn => by
    have he' : ((seqOf st d).map fun l => D.int l.length) = some e := by
      cases d with
      | str z => exact absurd rfl (hn z)
      | _ => exact he
    obtain ⟨l, h1, h2⟩ := Option.map_eq_some_iff.mp he'
    exact seq l h1 h2.symm
  cases d with
  | str z =>
    cases hd
    have he : (if z.length ≤ sizeLine then some (D.int z.length) else none) = some e := he
    by_cases c : z.length ≤ sizeLine
    · rw [if_pos c] at he
      cases he
      exact call_len pins s σ H _ us Q I r ⟨.str z, z.length, rfl, ⟨c, rfl⟩, q _ (.int _)⟩
    · rw [if_neg c] at he; cases he
  | _ => exact gen fun z h => nomatch h
theorem dicOf_at {K : KZ} {m : List Addr} {H : Hp} {s : Sto} {d : D} {v : V} {ks : List Key} {ds : List D} (S : StR K m H s) (r : Rep K m H d v) (h : dicOf s d = some (ks, ds)) : ∃ a vs, v = .ref a ∧ ks.length = vs.length ∧ Rd H a (.dK (ks.zip vs)) ∧ RepL K m H ds vs := by
  cases r with
  | dic n l e q => cases h; exact ⟨_, _, rfl, l, e, q⟩
  | @loc n a e =>
    have h : (match s[n]? with
      | some (.dic ks vs) => some (ks, vs)
      | _ => none) = some (ks, ds) := h
    cases z : s[n]? with
    | none => rw [z] at h; cases h
    | some o =>
      rw [z] at h
      cases o with
      | dic ks' ds' =>
        cases h
        obtain ⟨vs, l, e1, q⟩ := S.obj n a _ e z
        exact ⟨a, vs, rfl, l, .inl e1, q⟩
      | _ => cases h
  | _ => cases h
theorem c_lenD : CallR X (.builtin "len") (rL (X.K, zz) gLenD) := by
  intro pins s σ H xs us Q I r h
  obtain ⟨m, d, e, st, v, rfl, S, hd, he, q⟩ := g1_at h
  obtain ⟨⟨ks, ds⟩, h1, h2⟩ := Option.map_eq_some_iff.mp he
  obtain ⟨a, vs, rfl, l, e1, q1⟩ := dicOf_at S hd h1
  subst h2
  obtain ⟨u, rfl, ru⟩ := vals1 r
  cases ru
  refine d_len I e1 fun t s' I' => ⟨.int (ks.zip vs).length, H, I', ⟨t, rfl⟩, ?_⟩
  rw [List.length_zip, ← l, Nat.min_self]
  exact q _ (.int _)
theorem c_len : CallR X (.builtin "len") (rL (X.K, zz) gLen) := CallR.orV c_lenS c_lenD
def gAbs : List D → V1 D := g1 fun _ x => match x with
  | .int i => some (.int (if i < 0 then -i else i))
  | _ => none
theorem c_abs : CallR X (.builtin "abs") (rL (X.K, zz) gAbs) := by
  intro pins s σ H xs us Q I r h
  obtain ⟨m, d, e, st, v, rfl, S, hd, he, q⟩ := g1_at h
  cases hd with
  | int i => cases he; exact call_abs pins s σ H _ us Q I r ⟨i, rfl, q _ (.int _)⟩
  | _ => cases he
def gInt : List D → V1 D := g1 fun _ x => match x with
  | .int i => some (.int i)
  | _ => none
theorem c_int : CallR X (.type "int") (rL (X.K, zz) gInt) := by
  intro pins s σ H xs us Q I r h
  obtain ⟨m, d, e, st, v, rfl, S, hd, he, q⟩ := g1_at h
  cases hd with
  | int i => cases he; exact call_int1 pins s σ H _ us Q I r (.inl ⟨i, rfl, q _ (.int _)⟩)
  | _ => cases he
def gStr : List D → V1 D := g1 fun _ x => match x with
  | .int i => if i.natAbs.log2 < 1920 then some (.str (toString i)) else none
  | _ => none
theorem c_str : CallR X (.type "str") (rL (X.K, zz) gStr) := by
  intro pins s σ H xs us Q I r h
  obtain ⟨m, d, e, st, v, rfl, S, hd, he, q⟩ := g1_at h
  cases hd with
  | int i =>
    have he : (if i.natAbs.log2 < 1920 then some (D.str (toString i)) else none) = some e := he
    by_cases c : i.natAbs.log2 < 1920
    · rw [if_pos c] at he
      cases he
      exact call_str_int pins s σ H _ us Q I r ⟨i, rfl, c, q _ (.str _)⟩
    · rw [if_neg c] at he; cases he
  | _ => cases he
def gSum : List D → V1 D := g1 fun s x => ((lstOf s x).bind intsOf).map fun ns => .int ns.sum
theorem c_sum (hc : X.calm = true := by rfl) : CallR X (.builtin "sum") (rL (X.K, zz) gSum) := by
  intro pins s σ H xs us Q I r h
  obtain ⟨m, d, e, st, v, rfl, S, hd, he, q⟩ := g1_at h
  obtain ⟨ns, h1, h2⟩ := Option.map_eq_some_iff.mp he
  obtain ⟨ds, h3, h4⟩ := Option.bind_eq_some_iff.mp h1
  obtain ⟨a, vs, rfl, e1, q1⟩ := lstOf_at S hd h3
  have ev := ints_rep q1 h4
  subst ev; subst h2
  exact cr_sum hc pins s σ H _ us Q I r ⟨a, ns, rfl, e1, q _ (.int _)⟩
def gAny : List D → V1 D := g1 fun s x => ((lstOf s x).bind blsOf).map fun ns => .bl (ns.any id)
theorem c_any (hc : X.calm = true := by rfl) : CallR X (.builtin "any") (rL (X.K, zz) gAny) := by
  intro pins s σ H xs us Q I r h
  obtain ⟨m, d, e, st, v, rfl, S, hd, he, q⟩ := g1_at h
  obtain ⟨ns, h1, h2⟩ := Option.map_eq_some_iff.mp he
  obtain ⟨ds, h3, h4⟩ := Option.bind_eq_some_iff.mp h1
  obtain ⟨a, vs, rfl, e1, q1⟩ := lstOf_at S hd h3
  have ev := bls_rep q1 h4
  subst ev; subst h2
  exact cr_any hc pins s σ H _ us Q I r ⟨a, ns, rfl, e1, q _ (.bl _)⟩
def gAll : List D → V1 D := g1 fun s x => ((lstOf s x).bind blsOf).map fun ns => .bl (ns.all id)
theorem c_all (hc : X.calm = true := by rfl) : CallR X (.builtin "all") (rL (X.K, zz) gAll) := by
  intro pins s σ H xs us Q I r h
  obtain ⟨m, d, e, st, v, rfl, S, hd, he, q⟩ := g1_at h
  obtain ⟨ns, h1, h2⟩ := Option.map_eq_some_iff.mp he
  obtain ⟨ds, h3, h4⟩ := Option.bind_eq_some_iff.mp h1
  obtain ⟨a, vs, rfl, e1, q1⟩ := lstOf_at S hd h3
  have ev := bls_rep q1 h4
  subst ev; subst h2
  exact cr_all hc pins s σ H _ us Q I r ⟨a, ns, rfl, e1, q _ (.bl _)⟩
/-- min, max of two ints, or of a list of ints -/
def gMin : List D → V1 D := fun xs s => match xs with
  | [.int i, .int j] => some (.int (if j < i then j else i), s)
  | [x] => ((lstOf s x).bind intsOf).bind fun ns => match ns with
    | [] => none
    | n :: r => some (.int (r.foldl min n), s)
  | _ => none
def gMax : List D → V1 D := fun xs s => match xs with
  | [.int i, .int j] => some (.int (if j > i then j else i), s)
  | [x] => ((lstOf s x).bind intsOf).bind fun ns => match ns with
    | [] => none
    | n :: r => some (.int (r.foldl max n), s)
  | _ => none
theorem foldl_min_le : ∀ (r : List Int) (n : Int), r.foldl min n ≤ n ∧ (∀ y ∈ r, r.foldl min n ≤ y) ∧ (r.foldl min n = n ∨ r.foldl min n ∈ r)
  | [], n => ⟨Int.le_refl n, (fun _ h => by cases h), .inl rfl⟩
  | a :: r, n => by
    obtain ⟨h1, h2, h3⟩ := foldl_min_le r (min n a)
    rw [List.foldl_cons]
    refine ⟨by omega, fun y hy => ?_, ?_⟩
    · rcases List.mem_cons.mp hy with rfl | hy
      · omega
      · exact h2 y hy
    · rcases h3 with h3 | h3
      · by_cases c : n ≤ a
        · left; rw [h3]; omega
        · right; rw [h3]; simp; left; omega
      · right; exact List.mem_cons_of_mem _ h3
theorem foldl_max_le : ∀ (r : List Int) (n : Int), n ≤ r.foldl max n ∧ (∀ y ∈ r, y ≤ r.foldl max n) ∧ (r.foldl max n = n ∨ r.foldl max n ∈ r)
  | [], n => ⟨Int.le_refl n, (fun _ h => by cases h), .inl rfl⟩
  | a :: r, n => by
    obtain ⟨h1, h2, h3⟩ := foldl_max_le r (max n a)
    rw [List.foldl_cons]
    refine ⟨by omega, fun y hy => ?_, ?_⟩
    · rcases List.mem_cons.mp hy with rfl | hy
      · omega
      · exact h2 y hy
    · rcases h3 with h3 | h3
      · by_cases c : a ≤ n
        · left; rw [h3]; omega
        · right; rw [h3]; simp; left; omega
      · right; exact List.mem_cons_of_mem _ h3
theorem two_or {K : KZ} {m : List Addr} {H : Hp} {ds : List D} {vs : List V} (r : RepL K m H ds vs) : ds = [] ∨ (∃ d v, ds = [d] ∧ vs = [v] ∧ Rep K m H d v) ∨ (∃ d e v u, ds = [d, e] ∧ vs = [v, u] ∧ Rep K m H d v ∧ Rep K m H e u) ∨ ∃ a b c l, ds = a :: b :: c :: l := by
  cases r with
  | nil => exact .inl rfl
  | cons h r =>
    cases r with
    | nil => exact .inr (.inl ⟨_, _, rfl, rfl, h⟩)
    | cons h2 r =>
      cases r with
      | nil => exact .inr (.inr (.inl ⟨_, _, _, _, rfl, rfl, h, h2⟩))
      | cons _ _ => exact .inr (.inr (.inr ⟨_, _, _, _, rfl⟩))
theorem c_min (hc : X.calm = true := by rfl) : CallR X (.builtin "min") (rL (X.K, zz) gMin) := by
  intro pins s σ H xs us Q I r h
  obtain ⟨m, ds, st, S, rr, hG⟩ := h
  rcases two_or rr with rfl | ⟨d, v, rfl, rfl, hd⟩ | ⟨d, e, v, u, rfl, rfl, hd, he⟩ | ⟨a, b, c, l, rfl⟩
  · exact hG.elim
  · have hG : GoodV (X.K, zz) m H Q (((lstOf st d).bind intsOf).bind fun ns => match ns with
      | [] => none
      | n :: r => some (.int (r.foldl min n), st)) := by
      cases d <;> exact hG
    cases h1 : (lstOf st d).bind intsOf with
    | none => rw [h1] at hG; exact hG.elim
    | some ns =>
      rw [h1] at hG
      cases ns with
      | nil => exact hG.elim
      | cons n r' =>
        obtain ⟨ds', h3, h4⟩ := Option.bind_eq_some_iff.mp h1
        obtain ⟨a, vs, rfl, e1, q1⟩ := lstOf_at S hd h3
        have ev := ints_rep q1 h4
        subst ev
        refine cr_min hc pins s σ H _ us Q I r ⟨a, n :: r', rfl, e1, by simp, fun k hk hle => ?_⟩
        obtain ⟨h5, h6, h7⟩ := foldl_min_le r' n
        have : k = r'.foldl min n := by
          apply Int.le_antisymm
          · refine hle _ ?_
            rcases h7 with h7 | h7
            · rw [h7]; exact List.mem_cons_self
            · exact List.mem_cons_of_mem _ h7
          · rcases List.mem_cons.mp hk with rfl | hk
            · exact h5
            · exact h6 k hk
        subst this
        exact GoodV.here S hG (.int _)
  · cases hd with
    | int i =>
      cases he with
      | int j => exact call_min2 hc pins s σ H _ us Q I r ⟨i, j, rfl, GoodV.here S hG (.int _)⟩
      | _ => exact hG.elim
    | _ => cases he <;> exact hG.elim
  · cases a <;> cases b <;> exact hG.elim
theorem c_max (hc : X.calm = true := by rfl) : CallR X (.builtin "max") (rL (X.K, zz) gMax) := by
  intro pins s σ H xs us Q I r h
  obtain ⟨m, ds, st, S, rr, hG⟩ := h
  rcases two_or rr with rfl | ⟨d, v, rfl, rfl, hd⟩ | ⟨d, e, v, u, rfl, rfl, hd, he⟩ | ⟨a, b, c, l, rfl⟩
  · exact hG.elim
  · have hG : GoodV (X.K, zz) m H Q (((lstOf st d).bind intsOf).bind fun ns => match ns with
      | [] => none
      | n :: r => some (.int (r.foldl max n), st)) := by
      cases d <;> exact hG
    cases h1 : (lstOf st d).bind intsOf with
    | none => rw [h1] at hG; exact hG.elim
    | some ns =>
      rw [h1] at hG
      cases ns with
      | nil => exact hG.elim
      | cons n r' =>
        obtain ⟨ds', h3, h4⟩ := Option.bind_eq_some_iff.mp h1
        obtain ⟨a, vs, rfl, e1, q1⟩ := lstOf_at S hd h3
        have ev := ints_rep q1 h4
        subst ev
        refine cr_max hc pins s σ H _ us Q I r ⟨a, n :: r', rfl, e1, by simp, fun k hk hle => ?_⟩
        obtain ⟨h5, h6, h7⟩ := foldl_max_le r' n
        have : k = r'.foldl max n := by
          apply Int.le_antisymm
          · rcases List.mem_cons.mp hk with rfl | hk
            · exact h5
            · exact h6 k hk
          · refine hle _ ?_
            rcases h7 with h7 | h7
            · rw [h7]; exact List.mem_cons_self
            · exact List.mem_cons_of_mem _ h7
        subst this
        exact GoodV.here S hG (.int _)
  · cases hd with
    | int i =>
      cases he with
      | int j => exact call_max2 hc pins s σ H _ us Q I r ⟨i, j, rfl, GoodV.here S hG (.int _)⟩
      | _ => exact hG.elim
    | _ => cases he <;> exact hG.elim
  · cases a <;> cases b <;> exact hG.elim
/-- tuple(xs), list(xs) -/
def gTuple : List D → V1 D := fun xs s => match xs with
  | [x] => (seqOf s x).bind fun l => some (.tup l, s)
  | _ => none
def gList (mu : Bool) : List D → V1 D := fun xs s => match xs with
  | [x] => (seqOf s x).bind fun l => new mu l s
  | _ => none
theorem c_tuple : CallR X (.type "tuple") (rL (X.K, zz) gTuple) := by
  intro pins s σ H xs us Q I r h
  obtain ⟨m, ds, st, S, rr, hG⟩ := h
  rcases two_or rr with rfl | ⟨d, v, rfl, rfl, hd⟩ | ⟨d, e, v, u, rfl, rfl, hd, he⟩ | ⟨a, b, c, l, rfl⟩
  · exact hG.elim
  · have hG : GoodV (X.K, zz) m H Q ((seqOf st d).bind fun l => some (.tup l, st)) := hG
    cases h1 : seqOf st d with
    | none => rw [h1] at hG; exact hG.elim
    | some l =>
      rw [h1] at hG
      obtain ⟨a, vs, rfl, e1, q1⟩ := seqOf_at S hd h1
      rcases e1 with e1 | e1
      · exact call_tuple_of pins s σ H _ us Q I r ⟨a, vs, rfl, .inl ⟨e1, fun p hp => newT_ok S q1 hG p hp⟩⟩
      · exact call_tuple_of pins s σ H _ us Q I r ⟨a, vs, rfl, .inr ⟨e1, GoodV.here S hG (.tup e1 q1)⟩⟩
  · exact hG.elim
  · exact hG.elim
theorem c_list {mu : Bool} : CallR X (.type "list") (rL (X.K, zz) (gList mu)) := by
  intro pins s σ H xs us Q I r h
  obtain ⟨m, ds, st, S, rr, hG⟩ := h
  rcases two_or rr with rfl | ⟨d, v, rfl, rfl, hd⟩ | ⟨d, e, v, u, rfl, rfl, hd, he⟩ | ⟨a, b, c, l, rfl⟩
  · exact hG.elim
  · have hG : GoodV (X.K, zz) m H Q ((seqOf st d).bind fun l => new mu l st) := hG
    cases h1 : seqOf st d with
    | none => rw [h1] at hG; exact hG.elim
    | some l =>
      rw [h1] at hG
      obtain ⟨a, vs, rfl, e1, q1⟩ := seqOf_at S hd h1
      exact call_list_of pins s σ H _ us Q I r ⟨a, vs, rfl, e1, fun p hp => new_ok S q1 hG p hp⟩
  · exact hG.elim
  · exact hG.elim

/-! ### equality -/
mutual
def dat0 : D → Option PyData
  | .non => some .none
  | .bl b => some (.bool b)
  | .int i => some (.int i)
  | .str x => some (.str x)
  | .tup l => (dat0L l).map .tuple
  | .lst l => (dat0L l).map .list
  | .scr l => (dat0L l).map .list
  | .dic _ _ => none
  | .ins _ _ _ => none
  | .loc _ => none
  | .adr _ => none
def dat0L : List D → Option (List PyData)
  | [] => some []
  | d :: r => (dat0 d).bind fun x => (dat0L r).map (x :: ·)
end
def datOf (s : Sto) : D → Option PyData
  | .loc n => match s[n]? with
    | some (.lst l) => (dat0L l).map .list
    | _ => none
  | d => dat0 d
section
variable {K : KZ} {m : List Addr} {H : Hp}
mutual
theorem dat0_at : ∀ {d : D} {v : V} {x : PyData}, Rep K m H d v → dat0 d = some x → Dp K.1 H v x
  | _, _, _, .non, h => by cases h; exact .non
  | _, _, _, .bl b, h => by cases h; exact .bl b
  | _, _, _, .int i, h => by cases h; exact .int i
  | _, _, _, .str x, h => by cases h; exact .str x
  | _, _, _, .tup e r, h => by
    obtain ⟨xs, h1, h2⟩ := Option.map_eq_some_iff.mp (show (dat0L _).map PyData.tuple = some _ from by simpa only [dat0] using h)
    subst h2
    exact .tup e (dat0L_at r h1)
  | _, _, _, .lst _ e r, h => by
    obtain ⟨xs, h1, h2⟩ := Option.map_eq_some_iff.mp (show (dat0L _).map PyData.list = some _ from by simpa only [dat0] using h)
    subst h2
    exact .lst (.inl (.inl e)) (dat0L_at r h1)
  | _, _, _, .scr e r, h => by
    obtain ⟨xs, h1, h2⟩ := Option.map_eq_some_iff.mp (show (dat0L _).map PyData.list = some _ from by simpa only [dat0] using h)
    subst h2
    exact .lst e.l (dat0L_at r h1)
  | _, _, _, .dic _ _ _ _, h => by simp [dat0] at h
  | _, _, _, .ins _ _ _ _, h => by simp [dat0] at h
  | _, _, _, .loc _, h => by simp [dat0] at h
  | _, _, _, .adr _, h => by simp [dat0] at h
theorem dat0L_at : ∀ {ds : List D} {vs : List V} {xs : List PyData}, RepL K m H ds vs → dat0L ds = some xs → DpAll K.1 H vs xs
  | _, _, _, .nil, h => by simp only [dat0L] at h; cases h; exact .nil
  | _, _, _, .cons hd r, h => by
    simp only [dat0L] at h
    obtain ⟨x, h1, h2⟩ := Option.bind_eq_some_iff.mp h
    obtain ⟨ys, h3, h4⟩ := Option.map_eq_some_iff.mp h2
    subst h4
    exact .cons (dat0_at hd h1) (dat0L_at r h3)
end
theorem datOf_at {s : Sto} {d : D} {v : V} {x : PyData} (S : StR K m H s) (r : Rep K m H d v) (h : datOf s d = some x) : Dp K.1 H v x := by
  cases r with
  | @loc n a e =>
    have h : (match s[n]? with
      | some (.lst l) => (dat0L l).map PyData.list
      | _ => none) = some x := h
    cases z : s[n]? with
    | none => rw [z] at h; cases h
    | some o =>
      rw [z] at h
      cases o with
      | lst l =>
        obtain ⟨xs, h1, h2⟩ := Option.map_eq_some_iff.mp (show (dat0L l).map PyData.list = some x from h)
        subst h2
        obtain ⟨vs, e1, q⟩ := S.obj n a _ e z
        exact .lst (.inl (.inl e1)) (dat0L_at q h1)
      | _ => cases h
  | non => exact dat0_at (m := m) .non h
  | bl b => exact dat0_at (m := m) (.bl b) h
  | int b => exact dat0_at (m := m) (.int b) h
  | str b => exact dat0_at (m := m) (.str b) h
  | tup e q => exact dat0_at (m := m) (.tup e q) h
  | lst n e q => exact dat0_at (m := m) (.lst n e q) h
  | scr e q => exact dat0_at (m := m) (.scr e q) h
  | dic a b c d => exact dat0_at (m := m) (.dic a b c d) h
  | ins a b c d => exact dat0_at (m := m) (.ins a b c d) h
  | adr a => exact dat0_at (m := m) (.adr a) h
end
/-- == and != of data -/
def gEqF (f : Bool → Bool) : D → D → V1 D := fun x y s => match datOf s x, datOf s y with
  | some a, some b => if SeqAt.shaped a = true ∧ SeqAt.shaped b = true then some (.bl (f (PyData.eqv a b)), s) else none
  | _, _ => none
def gEq : D → D → V1 D := gEqF id
def gNe : D → D → V1 D := gEqF not
theorem gEqF_at {f : Bool → Bool} {x y : V} {H : Hp} {Q : VK} (h : r2 (X.K, zz) (gEqF f) x y H Q) : ∃ a b, Dp X.K H x a ∧ Dp X.K H y b ∧ SeqAt.shaped a = true ∧ SeqAt.shaped b = true ∧ Q (.bl (f (PyData.eqv a b))) H := by
  obtain ⟨m, d, e, st, S, hd, he, hG⟩ := h
  unfold gEqF at hG
  cases h1 : datOf st d with
  | none => rw [h1] at hG; exact hG.elim
  | some a =>
    cases h2 : datOf st e with
    | none => rw [h1, h2] at hG; exact hG.elim
    | some b =>
      rw [h1, h2] at hG
      have hG : GoodV (X.K, zz) m H Q (if SeqAt.shaped a = true ∧ SeqAt.shaped b = true then some (.bl (f (PyData.eqv a b)), st) else none) := hG
      by_cases c : SeqAt.shaped a = true ∧ SeqAt.shaped b = true
      · rw [if_pos c] at hG
        exact ⟨a, b, datOf_at S hd h1, datOf_at S he h2, c.1, c.2, GoodV.here S hG (.bl _)⟩
      · rw [if_neg c] at hG
        exact hG.elim
theorem o_eq (hu : X.A.units + 64 < cLine) : OpR X (compareOp .Eq) (r2 (X.K, zz) gEq) := fun pins s σ H x y v u Q I rx ry h => by
  obtain ⟨a, b, ha, hb, sa, sb, q⟩ := gEqF_at h
  exact op_eqD hu pins s σ H x y v u Q I rx ry ⟨a, b, ha, hb, sa, sb, q⟩
theorem o_ne (hu : X.A.units + 64 < cLine) : OpR X (compareOp .NotEq) (r2 (X.K, zz) gNe) := fun pins s σ H x y v u Q I rx ry h => by
  obtain ⟨a, b, ha, hb, sa, sb, q⟩ := gEqF_at h
  exact op_neD hu pins s σ H x y v u Q I rx ry ⟨a, b, ha, hb, sa, sb, q⟩
/-- is None, is not None; is True -/
def isNon : D → Bool
  | .non => true
  | _ => false
def gIs : D → D → V1 D := fun x y s => match y with
  | .non => some (.bl (isNon x), s)
  | .bl b => match x with
    | .bl a => some (.bl (decide (a = b)), s)
    | _ => none
  | _ => none
def gIsNot : D → D → V1 D := fun x y s => match y with
  | .non => some (.bl (!isNon x), s)
  | .bl b => match x with
    | .bl a => some (.bl (!decide (a = b)), s)
    | _ => none
  | _ => none
theorem isNon_rep {K : KZ} {m : List Addr} {H : Hp} {d : D} {v : V} (r : Rep K m H d v) : decide (v = .non) = isNon d := by
  cases r <;> first | rfl | exact decide_eq_false (fun z => nomatch z)
theorem o_is : OpR X (compareOp .Is) (r2 (X.K, zz) gIs) := fun pins s σ H x y v u Q I rx ry h => by
  obtain ⟨m, d, e, st, S, hd, he, hG⟩ := h
  cases he with
  | non =>
    refine op_isN pins s σ H x _ v u Q I rx ry ⟨rfl, ?_⟩
    rw [isNon_rep hd]
    exact GoodV.here S hG (.bl _)
  | bl b =>
    cases hd with
    | bl a => exact op_is_bl pins s σ H _ _ v u Q I rx ry ⟨a, b, rfl, rfl, GoodV.here S hG (.bl _)⟩
    | _ => exact hG.elim
  | _ => exact hG.elim
theorem o_isNot : OpR X (compareOp .IsNot) (r2 (X.K, zz) gIsNot) := fun pins s σ H x y v u Q I rx ry h => by
  obtain ⟨m, d, e, st, S, hd, he, hG⟩ := h
  cases he with
  | non =>
    refine op_notN pins s σ H x _ v u Q I rx ry ⟨rfl, ?_⟩
    rw [isNon_rep hd]
    exact GoodV.here S hG (.bl _)
  | bl b =>
    cases hd with
    | bl a => exact op_isnot_bl pins s σ H _ _ v u Q I rx ry ⟨a, b, rfl, rfl, GoodV.here S hG (.bl _)⟩
    | _ => exact hG.elim
  | _ => exact hG.elim
end
end QS
end

section
set_option Elab.async false
set_option linter.all false
set_option maxRecDepth 100000
set_option maxHeartbeats 4000000
/-! QS4: statements, targets, loops, defs. -/
namespace QS
open PySem PySem.Spec PyProof.Rows L2
inductive SRes where
  | nx (ρ : En) (s : Sto)
  | rt (d : D) (s : Sto)
  | bk (ρ : En) (s : Sto)
  | ct (ρ : En) (s : Sto)
  | exn (x : Ex) (ρ : En) (s : Sto)
  | stuck
abbrev SM := En → Sto → SRes
def GoodS (K : KZ) (W : WX) (D : Ends) (m : List Addr) (H : Hp) : SRes → Prop
  | .nx ρ' s' => ∀ m' H' σ', Ext m H m' H' → StR K m' H' s' → EnR K m' H' ρ' σ' → D.nx σ' H'
  | .rt d s' => ∀ m' H' v, Ext m H m' H' → StR K m' H' s' → Rep K m' H' d v → D.rt v H'
  | .bk ρ' s' => ∀ m' H' σ', Ext m H m' H' → StR K m' H' s' → EnR K m' H' ρ' σ' → D.bk σ' H'
  | .ct ρ' s' => ∀ m' H' σ', Ext m H m' H' → StR K m' H' s' → EnR K m' H' ρ' σ' → D.ct σ' H'
  | .exn x ρ' s' => ∀ m' H' σ' c d, Ext m H m' H' → StR K m' H' s' → EnR K m' H' ρ' σ' → ERep K m' H' x c d → W c d σ' H'
  | .stuck => False
def tS (K : KZ) (W : WX) (e : SM) : TS := fun D σ H => ∃ m ρ s, EnR K m H ρ σ ∧ StR K m H s ∧ GoodS K W D m H (e ρ s)
/-- from an expression's result -/
def ofE {α : Type} (r : Res α) (ρ : En) (k : α → Sto → SRes) : SRes := match r with
  | .ok a s => k a s
  | .exn x s => .exn x ρ s
  | .stuck => .stuck
section
variable {K : KZ} {W : WX} {D D' : Ends} {m m' : List Addr} {H H' : Hp} {s : Sto} {ρ : En} {σ : St}
theorem GoodS.trans (e : Ext m H m' H') {r : SRes} (h : GoodS K W D m H r) : GoodS K W D m' H' r := by
  cases r with
  | nx ρ s => exact fun m'' H'' v f S q => h m'' H'' v (e.trans f) S q
  | rt ρ s => exact fun m'' H'' v f S q => h m'' H'' v (e.trans f) S q
  | bk ρ s => exact fun m'' H'' v f S q => h m'' H'' v (e.trans f) S q
  | ct ρ s => exact fun m'' H'' v f S q => h m'' H'' v (e.trans f) S q
  | exn x ρ s => exact fun m'' H'' v c d f S q => h m'' H'' v c d (e.trans f) S q
  | stuck => exact h
theorem GoodS.ofE {α β : Type} {rel : List Addr → Hp → α → β → Prop} {r : Res α} {k : α → Sto → SRes} (hS : StR K m H s) (hE : EnR K m H ρ σ) (h : GoodS K W D m H (QS.ofE r ρ k)) :
    Good K W σ rel m H (fun v H1 => ∃ m1 a s1, Ext m H m1 H1 ∧ StR K m1 H1 s1 ∧ rel m1 H1 a v ∧ EnR K m1 H1 ρ σ ∧ GoodS K W D m1 H1 (k a s1)) r := by
  cases r with
  | ok a s1 => exact fun m1 H1 v e1 S1 r1 => ⟨m1, a, s1, e1, S1, r1, hE.ext hS.noTup e1, GoodS.trans e1 h⟩
  | exn x s1 => exact fun m1 H1 c d e1 S1 r1 => h m1 H1 σ c d e1 S1 (hE.ext hS.noTup e1) r1
  | stuck => exact h
end

/-! ### plain statements -/
def sNil : SM := fun ρ s => .nx ρ s
def sSeq (a b : SM) : SM := fun ρ s => match a ρ s with
  | .nx ρ' s' => b ρ' s'
  | r => r
def sE (e : EM) : SM := fun ρ s => ofE (e ρ s) ρ fun _ s' => .nx ρ s'
def sSet (i : Nat) (e : EM) : SM := fun ρ s => ofE (e ρ s) ρ fun d s' => .nx (ρ.set i (some d)) s'
def sRet (e : EM) : SM := fun ρ s => ofE (e ρ s) ρ fun d s' => .rt d s'
def sIf (t : TM) (a b : SM) : SM := fun ρ s => ofE (t ρ s) ρ fun c s' => if c = true then a ρ s' else b ρ s'
def sNever : SM := fun _ _ => .stuck
def sBrk : SM := fun ρ s => .bk ρ s
def sCont : SM := fun ρ s => .ct ρ s
/-- targets -/
abbrev GM := D → En → Option En
def gSet (i : Nat) : GM := fun d ρ => some (ρ.set i (some d))
abbrev GMs := List D → En → Option En
def gNil : GMs := fun ds ρ => match ds with
  | [] => some ρ
  | _ => none
def gCons (g : GM) (r : GMs) : GMs := fun ds ρ => match ds with
  | d :: t => (g d ρ).bind fun ρ' => r t ρ'
  | _ => none
def gTup (n : Nat) (r : GMs) : GM := fun d ρ => match d with
  | .tup l => if l.length = n then r l ρ else none
  | _ => none
def sAsg (g : GM) (e : EM) : SM := fun ρ s => ofE (e ρ s) ρ fun d s' => match g d ρ with
  | some ρ' => .nx ρ' s'
  | none => .stuck
def sPar (i j : Nat) (a : AM) : SM := fun ρ s => ofE (a ρ s) ρ fun ds s' => match ds with
  | [x, y] => .nx ((ρ.set i (some x)).set j (some y)) s'
  | _ => .stuck
def gS (K : KZ) (g : GM) : TG := fun v σ H Q => ∃ m ρ d ρ', EnR K m H ρ σ ∧ Rep K m H d v ∧ g d ρ = some ρ' ∧ ∀ σ', EnR K m H ρ' σ' → Q σ' H
def gsS (K : KZ) (g : GMs) : TGs := fun vs σ H Q => ∃ m ρ ds ρ', EnR K m H ρ σ ∧ RepL K m H ds vs ∧ g ds ρ = some ρ' ∧ ∀ σ', EnR K m H ρ' σ' → Q σ' H
section
variable {zz : List Addr} {X : Cx} {W : WX} {st : Stmt} {sts : List Stmt} {e c : Expr} {es : List Expr} {de : EM} {dt : TM} {ds du : SM} {pos : Pos} {da : AM}
theorem ss_nil : PSs X [] (tS (X.K, zz) W sNil) := PSs.imp pss_nil fun D σ H ⟨m, ρ, s, hE, hS, hG⟩ => hG m H σ Ext.refl hS hE
theorem seq_in {K : KZ} {D : Ends} {σ : St} {H : Hp} (h : tS K W (sSeq ds du) D σ H) : tS K W ds { D with nx := tS K W du D } σ H := by
  obtain ⟨m, ρ, s, hE, hS, hG⟩ := h
  refine ⟨m, ρ, s, hE, hS, ?_⟩
  unfold sSeq at hG
  cases e : ds ρ s with
  | nx ρ' s' =>
    rw [e] at hG
    exact fun m' H' σ' f S q => ⟨m', ρ', s', q, S, GoodS.trans f hG⟩
  | rt d s' => rw [e] at hG; exact hG
  | bk ρ' s' => rw [e] at hG; exact hG
  | ct ρ' s' => rw [e] at hG; exact hG
  | exn x ρ' s' => rw [e] at hG; exact hG
  | stuck => rw [e] at hG; exact hG
theorem ss_cons (h1 : PS X st (tS (X.K, zz) W ds)) (h2 : PSs X sts (tS (X.K, zz) W du)) : PSs X (st :: sts) (tS (X.K, zz) W (sSeq ds du)) :=
  PSs.imp (pss_cons h1 h2) fun _ _ _ h => seq_in h
theorem ss_one (h1 : PS X st (tS (X.K, zz) W ds)) : PSs X [st] (tS (X.K, zz) W ds) := pss_one h1
theorem s_expr (he : PE X e (tE (X.K, zz) W de)) (hs : swapsWith e none pos.line X.env = pure false := by rfl) : PS X (.Expr e pos) (tS (X.K, zz) W (sE de)) :=
  PS.imp (ps_expr he hs) fun D σ H ⟨m, ρ, s, hE, hS, hG⟩ => ⟨m, ρ, s, hE, hS, (GoodS.ofE hS hE hG).mono fun v H1 ⟨m1, a, s1, e1, S1, q1, E1, g1⟩ => g1 m1 H1 σ Ext.refl S1 E1⟩
theorem s_doc {x : Str} {j} {pos' : Pos} : PS X (.Expr (.Constant (.str x) j pos) pos') (tS (X.K, zz) W sNil) := PS.imp ps_doc fun D σ H ⟨m, ρ, s, hE, hS, hG⟩ => hG m H σ Ext.refl hS hE
theorem s_pass : PS X (.Pass pos) (tS (X.K, zz) W sNil) := PS.imp ps_pass fun D σ H ⟨m, ρ, s, hE, hS, hG⟩ => hG m H σ Ext.refl hS hE
theorem s_break : PS X (.Break pos) (tS (X.K, zz) W sBrk) := PS.imp ps_break fun D σ H ⟨m, ρ, s, hE, hS, hG⟩ => hG m H σ Ext.refl hS hE
theorem s_continue : PS X (.Continue pos) (tS (X.K, zz) W sCont) := PS.imp ps_continue fun D σ H ⟨m, ρ, s, hE, hS, hG⟩ => hG m H σ Ext.refl hS hE
theorem s_never : PS X st (tS (X.K, zz) W sNever) := PS.imp ps_never fun D σ H ⟨m, ρ, s, hE, hS, hG⟩ => hG
theorem ss_never : PSs X sts (tS (X.K, zz) W sNever) := PSs.imp pss_never fun D σ H ⟨m, ρ, s, hE, hS, hG⟩ => hG
theorem s_set {i : Nat} {x : Str} {pos' : Pos} (hN : X.N.Nodup) (he : PE X e (tE (X.K, zz) W de)) (hi : X.N[i]? = some x := by rfl) (hx : Loc X.env.scope x := by first | exact Or.inl rfl | exact Or.inr rfl) (hs : swapsWith e (some (.Name x pos')) pos.line X.env = pure false := by rfl)
    (hf : X.fn x = true ∨ X.env.scope.names.lookup x = some .local := by first | exact .inl rfl | exact .inr rfl | assumption) : PS X (.Assign [.Name x pos'] e pos) (tS (X.K, zz) W (sSet i de)) :=
  PS.imp (ps_set hN hi hx he hs hf) fun D σ H ⟨m, ρ, s, hE, hS, hG⟩ => ⟨m, ρ, s, hE, hS, (GoodS.ofE hS hE hG).mono fun v H1 ⟨m1, a, s1, e1, S1, q1, E1, g1⟩ => g1 m1 H1 _ Ext.refl S1 (E1.set q1 i)⟩
theorem s_ret (he : PE X e (tE (X.K, zz) W de)) : PS X (.Return (some e) pos) (tS (X.K, zz) W (sRet de)) :=
  PS.imp (ps_ret he) fun D σ H ⟨m, ρ, s, hE, hS, hG⟩ => ⟨m, ρ, s, hE, hS, (GoodS.ofE hS hE hG).mono fun v H1 ⟨m1, a, s1, e1, S1, q1, E1, g1⟩ => g1 m1 H1 _ Ext.refl S1 q1⟩
theorem s_if {a b : List Stmt} (hc : PT X c (tT (X.K, zz) W dt)) (ha : PSs X a (tS (X.K, zz) W ds)) (hb : PSs X b (tS (X.K, zz) W du)) : PS X (.If c a b pos) (tS (X.K, zz) W (sIf dt ds du)) :=
  PS.imp (ps_if hc ha hb) fun D σ H ⟨m, ρ, s, hE, hS, hG⟩ => ⟨m, ρ, s, hE, hS, (GoodS.ofE hS hE hG).mono fun v H1 ⟨m1, a, s1, e1, S1, q1, E1, g1⟩ => by
    subst q1
    cases a with
    | true =>
      simp only [if_true] at g1 ⊢
      exact ⟨m1, ρ, s1, E1, S1, g1⟩
    | false =>
      simp only [Bool.false_eq_true, if_false] at g1 ⊢
      exact ⟨m1, ρ, s1, E1, S1, g1⟩⟩
/-! targets -/
theorem sg_name {i : Nat} {x : Str} (hN : X.N.Nodup) (hi : X.N[i]? = some x := by rfl) (hx : Loc X.env.scope x := by first | exact Or.inl rfl | exact Or.inr rfl) (hf : X.fn x = true ∨ X.env.scope.names.lookup x = some .local := by first | exact .inl rfl | exact .inr rfl | assumption) : PG X (.Name x pos) (gS (X.K, zz) (gSet i)) := by
  refine ⟨fun pins s σ H v u Q I r ⟨m, ρ, d, ρ', hE, hd, hg, hQ⟩ => (pg_name hN hi hx hf).run pins s σ H v u Q I r ?_⟩
  cases hg
  exact hQ _ (hE.set hd i)
theorem sgs_nil : PGs X [] (gsS (X.K, zz) QS.gNil) := by
  refine ⟨fun pins s σ H vs us Q I r ⟨m, ρ, ds, ρ', hE, hd, hg, hQ⟩ => pgs_nil.run pins s σ H vs us Q I r ?_⟩
  cases hd with
  | nil => cases hg; exact ⟨rfl, hQ _ hE⟩
  | cons _ _ => cases hg
theorem sgs_cons {g : GM} {gs : GMs} (h1 : PG X e (gS (X.K, zz) g)) (h2 : PGs X es (gsS (X.K, zz) gs)) (hs : (assignEach (e :: es) X.env).map (·.2) = assign e X.env :: (assignEach es X.env).map (·.2) := by rfl) : PGs X (e :: es) (gsS (X.K, zz) (QS.gCons g gs)) := by
  refine ⟨fun pins s σ H vs us Q I r ⟨m, ρ, ds, ρ', hE, hd, hg, hQ⟩ => (pgs_cons h1 h2 hs).run pins s σ H vs us Q I r ?_⟩
  cases hd with
  | nil => cases hg
  | @cons d v ds' vs' hd hr =>
    have hg : ((g d ρ).bind fun ρ' => gs ds' ρ') = some ρ' := hg
    obtain ⟨ρ1, q1, q2⟩ := Option.bind_eq_some_iff.mp hg
    exact ⟨v, vs', rfl, m, ρ, d, ρ1, hE, hd, q1, fun σ1 E1 => ⟨m, ρ1, ds', ρ', E1, hr, q2, hQ⟩⟩
theorem sg_tup {k : Nat} {gs : GMs} {n : Nat} (h : PGs X es (gsS (X.K, zz) gs)) (hc : X.calm = true := by rfl) (hn : (assignEach es X.env).length = n := by rfl) (hst : (assignEach es X.env).findIdx? (·.1) = none := by rfl) : PG X (.Tuple es k pos) (gS (X.K, zz) (QS.gTup n gs)) := by
  refine ⟨fun pins s σ H v u Q I r ⟨m, ρ, d, ρ', hE, hd, hg, hQ⟩ => (pg_tup hc h hn hst).run pins s σ H v u Q I r ?_⟩
  cases hd with
  | @tup a l vs h1 q1 =>
    have hg : (if l.length = n then gs l ρ else none) = some ρ' := hg
    by_cases z : l.length = n
    · rw [if_pos z] at hg
      exact ⟨a, vs, rfl, h1, by rw [← q1.length]; exact z, m, ρ, l, ρ', hE, q1, hg, hQ⟩
    · rw [if_neg z] at hg; cases hg
  | _ => cases hg
theorem s_asg {tg : Expr} {g : GM} (he : PE X e (tE (X.K, zz) W de)) (hg : PG X tg (gS (X.K, zz) g)) (hs : swapsWithSole [tg] e pos.line X.env = pure false := by rfl) (hw : swappedStores [tg] e X.env = pure none := by rfl)
    (h1 : (assignEach [tg] X.env).map (·.2) = [assign tg X.env] := by rfl) : PS X (.Assign [tg] e pos) (tS (X.K, zz) W (sAsg g de)) :=
  PS.imp (ps_asg he hg hs hw h1) fun D σ H ⟨m, ρ, s, hE, hS, hG⟩ => ⟨m, ρ, s, hE, hS, (GoodS.ofE hS hE hG).mono fun v H1 ⟨m1, a, s1, e1, S1, q1, E1, g1⟩ => by
    cases z : g a ρ with
    | none => rw [z] at g1; exact g1.elim
    | some ρ' =>
      rw [z] at g1
      exact ⟨m1, ρ, a, ρ', E1, q1, z, fun σ' E' => g1 m1 H1 σ' Ext.refl S1 E'⟩⟩
theorem s_par {i j : Nat} {x y : Str} {a b : Expr} {px py pt : Pos} {kt k2 pt2} (hN : X.N.Nodup) (ha : PA X [a, b] (tA (X.K, zz) W da)) (hi : X.N[i]? = some x := by rfl) (hj : X.N[j]? = some y := by rfl) (hij : i ≠ j := by decide)
    (hx : X.env.scope.names.lookup x = some .local := by rfl) (hy : X.env.scope.names.lookup y = some .local := by rfl) (hc : X.calm = true := by rfl)
    (hw : swappedStores [.Tuple [.Name x px, .Name y py] kt pt] (.Tuple [a, b] k2 pt2) X.env = pure (some [x, y]) := by rfl)
    (hs : swapsWithSole [.Tuple [.Name x px, .Name y py] kt pt] (.Tuple [a, b] k2 pt2) pos.line X.env = pure false := by rfl) :
    PS X (.Assign [.Tuple [.Name x px, .Name y py] kt pt] (.Tuple [a, b] k2 pt2) pos) (tS (X.K, zz) W (sPar i j da)) :=
  PS.imp (ps_par hc hN hi hj hij hx hy ha hw hs) fun D σ H ⟨m, ρ, s, hE, hS, hG⟩ => ⟨m, ρ, s, hE, hS, (GoodS.ofE hS hE hG).mono fun v H1 ⟨m1, a, s1, e1, S1, q1, E1, g1⟩ => by
    rcases two_or q1 with rfl | ⟨d, v', rfl, rfl, hd⟩ | ⟨d, e', v', u, rfl, rfl, hd, he⟩ | ⟨a', b', c', l, rfl⟩
    · exact g1.elim
    · exact g1.elim
    · exact ⟨v', u, rfl, g1 m1 H1 _ Ext.refl S1 ((E1.set hd i).set he j)⟩
    · exact g1.elim⟩
/-- x op= e -/
def sAug (i : Nat) (g : D → D → V1 D) (e : EM) : SM := fun ρ s => match ρ[i]? with
  | some (some x) => ofE (bnd (e ρ) (fun y => lift (g x y)) s) ρ fun d s' => .nx (ρ.set i (some d)) s'
  | _ => .stuck
theorem s_aug {i : Nat} {x : Str} {op : Operator} {g : D → D → V1 D} {pos' : Pos} (hN : X.N.Nodup) (ho : OpR X (inplaceOp op) (r2 (X.K, zz) g)) (he : PE X e (tE (X.K, zz) W de)) (hi : X.N[i]? = some x := by rfl) (hx : Loc X.env.scope x := by first | exact Or.inl rfl | exact Or.inr rfl)
    (hf : X.fn x = true ∨ X.env.scope.names.lookup x = some .local := by first | exact .inl rfl | exact .inr rfl | assumption) : PS X (.AugAssign (.Name x pos') op e pos) (tS (X.K, zz) W (sAug i g de)) :=
  PS.imp (ps_aug hN hi hx he ho hf) fun D σ H ⟨m, ρ, s, hE, hS, hG⟩ => by
    unfold sAug at hG
    split at hG
    · rename_i d hd
      obtain ⟨v, h1, h2⟩ := hE.at_ i d hd
      refine ⟨v, h1, m, ρ, s, hE, hS, (Good.bind (GoodS.ofE (rel := Rep (X.K, zz)) hS hE hG)).mono fun u H1 ⟨m1, y, s1, e1, S1, q1, hG1⟩ => ?_⟩
      refine ⟨m1, d, y, s1, S1, h2.ext hS.noTup e1, q1, hG1.lift.mono fun z H2 ⟨m2, a, s2, e2, S2, q2, E2, g2⟩ => ?_⟩
      exact g2 m2 H2 _ Ext.refl S2 (E2.set q2 i)
    · exact hG.elim
end

/-! ### while -/
def wS (t : TM) (b : SM) (k : SM) : SM := fun ρ s => ofE (t ρ s) ρ fun c s1 => if c = true then (match b ρ s1 with
    | .nx ρ' s' => k ρ' s'
    | .ct ρ' s' => k ρ' s'
    | .bk ρ' s' => .nx ρ' s'
    | r => r) else .nx ρ s1
def wN (t : TM) (b : SM) : Nat → SM
  | 0 => fun _ _ => .stuck
  | n + 1 => wS t b (wN t b n)
open Classical in
noncomputable def sWhile (t : TM) (b : SM) : SM := fun ρ s => if h : ∃ n, wN t b n ρ s ≠ .stuck then wN t b (Classical.choose h) ρ s else .stuck
theorem wN_more (t : TM) (b : SM) : ∀ (n : Nat) (ρ : En) (s : Sto), wN t b n ρ s ≠ .stuck → wN t b (n + 1) ρ s = wN t b n ρ s
  | 0, _, _, h => absurd rfl h
  | n + 1, ρ, s, h => by
    have ih := fun ρ s => wN_more t b n ρ s
    show wS t b (wN t b (n + 1)) ρ s = wS t b (wN t b n) ρ s
    have h : wS t b (wN t b n) ρ s ≠ .stuck := h
    unfold wS at h ⊢
    cases e : t ρ s with
    | exn x s1 => rfl
    | stuck => rfl
    | ok c s1 =>
      rw [e] at h
      cases c with
      | false => rfl
      | true =>
        simp only [ofE, if_true] at h ⊢
        cases e2 : b ρ s1 with
        | nx ρ' s' => rw [e2] at h; exact ih ρ' s' h
        | ct ρ' s' => rw [e2] at h; exact ih ρ' s' h
        | bk ρ' s' => rfl
        | rt d s' => rfl
        | exn x ρ' s' => rfl
        | stuck => rfl
theorem wN_add (t : TM) (b : SM) (n : Nat) (ρ : En) (s : Sto) (h : wN t b n ρ s ≠ .stuck) : ∀ k, wN t b (n + k) ρ s = wN t b n ρ s
  | 0 => rfl
  | k + 1 => by
    have e := wN_add t b n ρ s h k
    rw [← Nat.add_assoc, wN_more t b (n + k) ρ s (by rw [e]; exact h), e]
theorem sWhile_of {t : TM} {b : SM} {n : Nat} {ρ : En} {s : Sto} {r : SRes} (h : wN t b n ρ s = r) (hr : r ≠ .stuck) : sWhile t b ρ s = r := by
  have ex : ∃ n, wN t b n ρ s ≠ .stuck := ⟨n, by rw [h]; exact hr⟩
  unfold sWhile
  rw [dif_pos ex]
  have hc := Classical.choose_spec ex
  have h1 := wN_add t b n ρ s (by rw [h]; exact hr) (Classical.choose ex)
  have h2 := wN_add t b (Classical.choose ex) ρ s hc n
  rw [Nat.add_comm] at h2
  rw [← h2, h1, h]
/-- one turn -/
theorem sWhile_step {t : TM} {b : SM} {ρ ρ' : En} {s s1 s' : Sto} (ht : t ρ s = .ok true s1) (hb : b ρ s1 = .nx ρ' s') : sWhile t b ρ s = sWhile t b ρ' s' := by
  have key : ∀ n, wN t b (n + 1) ρ s = wN t b n ρ' s' := fun n => by
    show wS t b (wN t b n) ρ s = _
    unfold wS
    rw [ht]
    simp only [ofE, if_true, hb]
  by_cases ex : ∃ n, wN t b n ρ' s' ≠ .stuck
  · obtain ⟨n, hn⟩ := ex
    rw [sWhile_of (n := n) rfl hn]
    exact sWhile_of (key n) hn
  · have ex' : ¬ ∃ n, wN t b n ρ s ≠ .stuck := fun ⟨n, hn⟩ => by
      cases n with
      | zero => exact hn rfl
      | succ n => exact ex ⟨n, by rw [← key n]; exact hn⟩
    unfold sWhile
    rw [dif_neg ex, dif_neg ex']
theorem sWhile_end {t : TM} {b : SM} {ρ : En} {s s1 : Sto} (ht : t ρ s = .ok false s1) : sWhile t b ρ s = .nx ρ s1 :=
  sWhile_of (n := 1) (by show wS t b _ ρ s = _; unfold wS; rw [ht]; rfl) (fun z => nomatch z)
theorem sWhile_ret {t : TM} {b : SM} {ρ : En} {s s1 s' : Sto} {d : D} (ht : t ρ s = .ok true s1) (hb : b ρ s1 = .rt d s') : sWhile t b ρ s = .rt d s' :=
  sWhile_of (n := 1) (by show wS t b _ ρ s = _; unfold wS; rw [ht]; simp only [ofE, if_true, hb]) (fun z => nomatch z)
section
variable {zz : List Addr} {X : Cx} {W : WX} {c : Expr} {body : List Stmt} {dt : TM} {db : SM} {pos : Pos}
theorem s_while (hp : PassesOwn (model X.prog X.w) X.A X.env X.xe) (hc : PT X c (tT (X.K, zz) W dt)) (hb : PSs X body (tS (X.K, zz) W db)) : PS X (.While c body [] pos) (tS (X.K, zz) W (sWhile dt db)) := by
  refine PS.imp (ps_while hp hc hb) fun D σ H ⟨m, ρ, s, hE, hS, hG⟩ => ?_
  refine ⟨fun n σ H => ∃ m ρ s, EnR (X.K, zz) m H ρ σ ∧ StR (X.K, zz) m H s ∧ GoodS (X.K, zz) W D m H (wN dt db n ρ s), ?_, ?_⟩
  · unfold sWhile at hG
    by_cases ex : ∃ n, wN dt db n ρ s ≠ .stuck
    · rw [dif_pos ex] at hG
      exact ⟨_, m, ρ, s, hE, hS, hG⟩
    · rw [dif_neg ex] at hG
      exact hG.elim
  · rintro n σ H ⟨m, ρ, s, hE, hS, hG⟩
    cases n with
    | zero => exact hG.elim
    | succ n =>
      have hG : GoodS (X.K, zz) W D m H (wS dt db (wN dt db n) ρ s) := hG
      unfold wS at hG
      refine ⟨m, ρ, s, hE, hS, (GoodS.ofE hS hE hG).mono fun b H1 ⟨m1, a, s1, e1, S1, q1, E1, g1⟩ => ?_⟩
      subst q1
      cases a with
      | false =>
        simp only [Bool.false_eq_true, if_false] at g1 ⊢
        exact g1 m1 H1 σ Ext.refl S1 E1
      | true =>
        simp only [if_true] at g1 ⊢
        refine ⟨fun σ' H' => ∃ m ρ s, EnR (X.K, zz) m H' ρ σ' ∧ StR (X.K, zz) m H' s ∧ GoodS (X.K, zz) W D m H' (wN dt db n ρ s), fun σ' H' h => ⟨n, Nat.lt_succ_self n, h⟩, m1, ρ, s1, E1, S1, ?_⟩
        cases e2 : db ρ s1 with
        | nx ρ' s' => rw [e2] at g1; exact fun m2 H2 σ2 f S q => ⟨m2, ρ', s', q, S, GoodS.trans f g1⟩
        | ct ρ' s' => rw [e2] at g1; exact fun m2 H2 σ2 f S q => ⟨m2, ρ', s', q, S, GoodS.trans f g1⟩
        | bk ρ' s' => rw [e2] at g1; exact g1
        | rt d s' => rw [e2] at g1; exact g1
        | exn x ρ' s' => rw [e2] at g1; exact g1
        | stuck => rw [e2] at g1; exact g1
end

/-! ### what is walked -/
structure Items where
  l : List D
  gd : Option Nat := none
abbrev IM := En → M Items
/-- the walk J gives the items -/
def ItW (K : KZ) (m : List Addr) (s : Sto) (it : Items) (J : It) (H : Hp) : Prop := ∀ zz m1 H1 s1, (∀ p ∈ zz, p ∈ K.2 ∨ H p = none) → Ext m H m1 H1 → StR (K.1, zz) m1 H1 s1 → (∀ n, it.gd = some n → s1[n]? = s[n]?) →
  (∀ i, i < it.l.length → J.go i H1) ∧ J.stop it.l.length H1 ∧ ∀ (i : Nat) d x H1', it.l[i]? = some d → J.yld i H1 x H1' → Same H1 H1' ∧ Rep (K.1, zz) m1 H1' d x
section
variable {k : PySem.W.Frag} {z z' : List Addr} {m m' : List Addr} {H H' : Hp} {s : Sto} {ρ : En} {σ : St}
/-- a change of the world that data outlive -/
structure Chg (k : PySem.W.Frag) (z : List Addr) (m : List Addr) (H : Hp) (z' : List Addr) (m' : List Addr) (H' : Hp) : Prop where
  tup : ∀ a vs, SqT k H a vs → SqT k H' a vs
  scr : ∀ a vs, SqF k H a vs → SqF k H' a vs
  obj : ∀ a o, Nin (k, z) m a → H a = some o → Nin (k, z') m' a ∧ H' a = some o
  loc : ∀ (n : Nat) a, m[n]? = some a → m'[n]? = some a
mutual
theorem Rep.chg (c : Chg k z m H z' m' H') : ∀ {d : D} {v : V}, Rep (k, z) m H d v → Rep (k, z') m' H' d v
  | _, _, .non => .non
  | _, _, .bl b => .bl b
  | _, _, .int i => .int i
  | _, _, .str x => .str x
  | _, _, .tup h r => .tup (c.tup _ _ h) (RepL.chg c r)
  | _, _, .lst n h r => .lst (c.obj _ _ n h).1 (c.obj _ _ n h).2 (RepL.chg c r)
  | _, _, .scr h r => .scr (c.scr _ _ h) (RepL.chg c r)
  | _, _, .dic n l h r => by
    rcases h with h | ⟨o, h⟩
    · exact .dic (c.obj _ _ n h).1 l (.inl (c.obj _ _ n h).2) (RepL.chg c r)
    · exact .dic (c.obj _ _ n h).1 l (.inr ⟨o, (c.obj _ _ n h).2⟩) (RepL.chg c r)
  | _, _, .ins n l h r => .ins (c.obj _ _ n h).1 l (c.obj _ _ n h).2 (RepL.chg c r)
  | _, _, .loc h => .loc (c.loc _ _ h)
  | _, _, .adr a => .adr a
theorem RepL.chg (c : Chg k z m H z' m' H') : ∀ {ds : List D} {vs : List V}, RepL (k, z) m H ds vs → RepL (k, z') m' H' ds vs
  | _, _, .nil => .nil
  | _, _, .cons h r => .cons (Rep.chg c h) (RepL.chg c r)
end
/-- the world goes on, new places may be hidden -/
theorem chg_ext (t : NoTup m H) (hz : ∀ p ∈ z', p ∈ z ∨ H p = none) (e : Ext m H m' H') : Chg k z m H z' m' H' where
  tup := fun a vs h => SqT.ext (K := (k, z)) t e h
  scr := fun a vs h => SqF.ext (K := (k, z)) t e h
  obj := fun a o n h => ⟨⟨e.notin (by rw [h]; exact fun z => nomatch z) n.1, fun q => by
    rcases hz a q with q | q
    · exact n.2 q
    · rw [h] at q; cases q⟩, e.keep a o h n.1⟩
  loc := fun n a h => e.loc h
end
def GoodI (K : KZ) (W : WX) (σ : St) (m : List Addr) (H : Hp) (R : It → Hp → Prop) : Res Items → Prop
  | .ok it s' => ∀ m' H' J, Ext m H m' H' → StR K m' H' s' → ItW K m' s' it J H' → R J H'
  | .exn x s' => ∀ m' H' c d, Ext m H m' H' → StR K m' H' s' → ERep K m' H' x c d → W c d σ H'
  | .stuck => False
def iS (K : KZ) (W : WX) (e : IM) : TI := fun σ H R => ∃ m ρ s, EnR K m H ρ σ ∧ StR K m H s ∧ GoodI K W σ m H R (e ρ s)
theorem PI.imp {X : Cx} {tg e : Expr} {t t' : TI} (h : PI X tg e t) (i : ∀ σ H R, t' σ H R → t σ H R) : PI X tg e t' := ⟨fun pins s σ H R I q => h.run pins s σ H R I (i σ H R q)⟩
/-- the items of a value -/
def iOf {α : Type} (f : α → V1 Items) (e : En → M α) : IM := fun ρ => bnd (e ρ) fun a => lift (f a)
theorem iOf_in {α β : Type} {K : KZ} {W : WX} {rel : List Addr → Hp → α → β → Prop} {ma : En → M α} {f : α → V1 Items} {σ : St} {H : Hp} {R : It → Hp → Prop} (h : iS K W (iOf f ma) σ H R) :
    tG K rel W ma σ H fun v H1 => ∃ m1 a s1 it s2, StR K m1 H1 s1 ∧ rel m1 H1 a v ∧ f a s1 = some (it, s2) ∧ ∀ m' H' J, Ext m1 H1 m' H' → StR K m' H' s2 → ItW K m' s2 it J H' → R J H' := by
  obtain ⟨m, ρ, s, hE, hS, hG⟩ := h
  refine ⟨m, ρ, s, hE, hS, ?_⟩
  unfold iOf at hG
  have hG : GoodI K W σ m H R (bnd (ma ρ) (fun a => lift (f a)) s) := hG
  unfold bnd at hG
  cases e : ma ρ s with
  | stuck => rw [e] at hG; exact hG.elim
  | exn x s1 => rw [e] at hG; exact hG
  | ok a s1 =>
    rw [e] at hG
    intro m1 H1 v e1 S1 r1
    have hG : GoodI K W σ m H R (lift (f a) s1) := hG
    unfold lift at hG
    cases e2 : f a s1 with
    | none => rw [e2] at hG; exact hG.elim
    | some p =>
      rw [e2] at hG
      exact ⟨m1, a, s1, p.1, p.2, S1, r1, e2, fun m' H' J f' => hG m' H' J (e1.trans f')⟩
/-- a list, a tuple: guarded where it is of the store -/
def itSeq (x : D) : V1 Items := fun s => match x with
  | .loc n => match s[n]? with
    | some (.lst l) => some (⟨l, some n⟩, s)
    | _ => none
  | .lst l => some (⟨l, none⟩, s)
  | .scr l => some (⟨l, none⟩, s)
  | _ => none
def itTup (x : D) : V1 Items := fun s => match x with
  | .tup l => some (⟨l, none⟩, s)
  | _ => none
def signs (z : Str) : List D := z.cps.toList.map fun c => .str ⟨#[c]⟩
def itStr (x : D) : V1 Items := fun s => match x with
  | .str z => some (⟨signs z, none⟩, s)
  | _ => none
def rngD (lo : Int) (n : Nat) : List D := (List.range n).map fun i => .int (lo + (i : Nat))
def itRng1 (xs : List D) : V1 Items := fun s => match xs with
  | [.int j] => if -(2 ^ 62) ≤ j ∧ j < 2 ^ 62 then some (⟨rngD 0 j.toNat, none⟩, s) else none
  | _ => none
def itRng2 (xs : List D) : V1 Items := fun s => match xs with
  | [.int i, .int j] => if -(2 ^ 62) ≤ i ∧ i < 2 ^ 62 ∧ -(2 ^ 62) ≤ j ∧ j < 2 ^ 62 then some (⟨rngD i (j - i).toNat, none⟩, s) else none
  | _ => none
theorem rngD_at {lo : Int} {n i : Nat} {d : D} (h : (rngD lo n)[i]? = some d) : i < n ∧ d = .int (lo + (i : Nat)) := by
  unfold rngD at h
  rw [List.getElem?_map] at h
  obtain ⟨j, h1, h2⟩ := Option.map_eq_some_iff.mp h
  obtain ⟨h3, h4⟩ := List.getElem?_eq_some_iff.mp h1
  rw [List.getElem_range] at h4
  rw [List.length_range] at h3
  exact ⟨h3, by rw [← h2, h4]⟩
section
variable {K : KZ} {m : List Addr} {s : Sto} {H : Hp} {a : Addr} {l : List D} {vs : List V}
theorem itw_of_list {it : Items} (st : ∀ zz m1 H1 s1, (∀ p ∈ zz, p ∈ K.2 ∨ H p = none) → Ext m H m1 H1 → StR (K.1, zz) m1 H1 s1 → (∀ n, it.gd = some n → s1[n]? = s[n]?) → ∃ vs, SqL K.1 H1 a vs ∧ RepL (K.1, zz) m1 H1 it.l vs) : ItW K m s it (Itl K.1 a) H := by
  intro zz m1 H1 s1 hz e S g
  obtain ⟨vs, h1, h2⟩ := st zz m1 H1 s1 hz e S g
  refine ⟨fun i hi => ?_, ⟨vs, h1, by rw [h2.length]; exact Nat.le_refl _⟩, fun i d x H' hd hy => ?_⟩
  · have hi' : i < vs.length := by rw [← h2.length]; exact hi
    exact ⟨vs, vs[i], h1, List.getElem?_eq_getElem hi'⟩
  · obtain ⟨e1, e2⟩ := hy
    subst e1
    obtain ⟨v, h3, h4⟩ := h2.get hd
    have := e2 vs h1
    rw [h3] at this
    cases this
    exact ⟨Same.refl _, h4⟩
theorem itw_of_tup (S0 : StR K m H s) (h1 : SqT K.1 H a vs) (h2 : RepL K m H l vs) : ItW K m s ⟨l, none⟩ (Itt K.1 a) H := by
  intro zz m1 H1 s1 hz e S _
  have q1 : SqT K.1 H1 a vs := SqT.ext S0.noTup e h1
  have q2 : RepL (K.1, zz) m1 H1 l vs := RepL.chg (chg_ext S0.noTup hz e) h2
  refine ⟨fun i hi => ?_, ⟨vs, q1, by show vs.length ≤ l.length; rw [h2.length]; exact Nat.le_refl _⟩, fun i d x H' hd hy => ?_⟩
  · have hi' : i < vs.length := by rw [← h2.length]; exact hi
    exact ⟨vs, vs[i], q1, List.getElem?_eq_getElem hi'⟩
  · obtain ⟨e1, e2⟩ := hy
    subst e1
    obtain ⟨v, h3, h4⟩ := q2.get hd
    have := e2 vs q1
    rw [h3] at this
    cases this
    exact ⟨Same.refl _, h4⟩
theorem itw_rng {lo : Int} {n : Nat} : ItW K m s ⟨rngD lo n, none⟩ (Itr lo n) H := by
  intro zz m1 H1 s1 hz e S _
  have hl : (rngD lo n).length = n := by simp [rngD]
  refine ⟨fun i hi => ?_, ?_, fun i d x H' hd hy => ?_⟩
  · show i < n
    rw [← hl]; exact hi
  · show n ≤ (rngD lo n).length
    rw [hl]; exact Nat.le_refl _
  · obtain ⟨e1, e2⟩ := hy
    subst e1
    obtain ⟨_, rfl⟩ := rngD_at hd
    subst e2
    exact ⟨Same.refl _, .int _⟩
theorem itw_str {z : Str} : ItW K m s ⟨signs z, none⟩ (Its z) H := by
  intro zz m1 H1 s1 hz e S _
  have hl : (signs z).length = z.cps.size := by simp [signs]
  refine ⟨fun i hi => ?_, ?_, fun i d x H' hd hy => ?_⟩
  · show i < z.cps.size
    rw [← hl]; exact hi
  · show z.cps.size ≤ (signs z).length
    rw [hl]; exact Nat.le_refl _
  · obtain ⟨e1, c, e2, e3⟩ := hy
    subst e1
    unfold signs at hd
    have hd : ((z.cps.toList)[i]?).map (fun c => D.str ⟨#[c]⟩) = some d := by rw [← List.getElem?_map]; exact hd
    rw [Array.getElem?_toList, e2] at hd
    cases hd
    subst e3
    exact ⟨Same.refl _, .str _⟩
end
section
variable {zz : List Addr} {X : Cx} {W : WX} {tg e : Expr} {es : List Expr} {de : EM} {da : AM}
theorem si_seq (he : PE X e (tE (X.K, zz) W de)) : PI X tg e (iS (X.K, zz) W (iOf itSeq de)) :=
  PI.imp (pi_list he) fun σ H R h => tG.mono (fun v H1 ⟨m1, d, s1, it, s2, S1, q1, e1, hR⟩ => by
    have fin : ∀ a vs, SqL X.K H1 a vs → s1 = s2 → (∀ zz1 m2 H2 s3, (∀ p ∈ zz1, p ∈ zz ∨ H1 p = none) → Ext m1 H1 m2 H2 → StR (X.K, zz1) m2 H2 s3 → (∀ n, it.gd = some n → s3[n]? = s2[n]?) → ∃ vs, SqL X.K H2 a vs ∧ RepL (X.K, zz1) m2 H2 it.l vs) →
        (∃ xs, SqL X.K H1 a xs) ∧ R (Itl X.K a) H1 := fun a vs h1 es h3 => by
      subst es
      exact ⟨⟨vs, h1⟩, hR m1 H1 _ Ext.refl S1 (itw_of_list h3)⟩
    cases q1 with
    | @lst a ds vs n e q =>
      cases e1
      exact ⟨a, rfl, fin a vs (.inl (.inl e)) rfl fun zz1 m2 H2 s3 hz f S3 _ => ⟨vs, .inl (.inl (f.keep a _ e n.1)), q.chg (chg_ext S1.noTup hz f)⟩⟩
    | @scr a ds vs e q =>
      cases e1
      exact ⟨a, rfl, fin a vs e.l rfl fun zz1 m2 H2 s3 hz f S3 _ => ⟨vs, (SqF.ext (K := (X.K, zz)) S1.noTup f e).l, q.chg (chg_ext S1.noTup hz f)⟩⟩
    | @loc n a e =>
      have e1 : (match s1[n]? with
        | some (.lst l) => some ((⟨l, some n⟩ : Items), s1)
        | _ => none) = some (it, s2) := e1
      cases z : s1[n]? with
      | none => rw [z] at e1; cases e1
      | some o =>
        rw [z] at e1
        cases o with
        | lst l =>
          cases e1
          obtain ⟨vs, h1, h2⟩ := S1.obj n a _ e z
          refine ⟨a, rfl, fin a vs (.inl (.inl h1)) rfl fun zz1 m2 H2 s3 hz f S3 g => ?_⟩
          obtain ⟨us, h3, h4⟩ := S3.obj n a (.lst l) (f.loc e) (by rw [g n rfl]; exact z)
          exact ⟨us, .inl (.inl h3), h4⟩
        | _ => cases e1
    | _ => cases e1) (iOf_in h)
theorem si_tup (he : PE X e (tE (X.K, zz) W de)) : PI X tg e (iS (X.K, zz) W (iOf itTup de)) :=
  PI.imp (pi_tup he) fun σ H R h => tG.mono (fun v H1 ⟨m1, d, s1, it, s2, S1, q1, e1, hR⟩ => by
    cases q1 with
    | @tup a ds vs e q =>
      cases e1
      exact ⟨a, rfl, ⟨vs, e⟩, hR m1 H1 _ Ext.refl S1 (itw_of_tup S1 e q)⟩
    | _ => cases e1) (iOf_in h)
theorem si_str (he : PE X e (tE (X.K, zz) W de)) : PI X tg e (iS (X.K, zz) W (iOf itStr de)) :=
  PI.imp (pi_str he) fun σ H R h => tG.mono (fun v H1 ⟨m1, d, s1, it, s2, S1, q1, e1, hR⟩ => by
    cases q1 with
    | str z =>
      cases e1
      exact ⟨z, rfl, hR m1 H1 _ Ext.refl S1 itw_str⟩
    | _ => cases e1) (iOf_in h)
theorem si_rng1 {p pos : Pos} (hm : X.mg "range" = none) (ha : PA X [e] (tA (X.K, zz) W da)) (hg : Gl X "range" := by rfl) (hs : starEach [e] X.env = [(false, eval e X.env)] := by rfl) : PI X tg (.Call (.Name "range" p) [e] [] pos) (iS (X.K, zz) W (iOf itRng1 da)) :=
  PI.imp (pi_range1 hg hm ha hs) fun σ H R h => tG.mono (fun vs H1 ⟨m1, ds, s1, it, s2, S1, q1, e1, hR⟩ => by
    rcases two_or q1 with rfl | ⟨d, v, rfl, rfl, hd⟩ | ⟨d, e', v, u, rfl, rfl, hd, he⟩ | ⟨a, b, c, l, rfl⟩
    · cases e1
    · cases hd with
      | int j =>
        have e1 : (if -(2 ^ 62) ≤ j ∧ j < 2 ^ 62 then some ((⟨rngD 0 j.toNat, none⟩ : Items), s1) else none) = some (it, s2) := e1
        by_cases z : -(2 ^ 62) ≤ j ∧ j < 2 ^ 62
        · rw [if_pos z] at e1
          cases e1
          exact ⟨j, rfl, z.1, z.2, hR m1 H1 _ Ext.refl S1 itw_rng⟩
        · rw [if_neg z] at e1; cases e1
      | _ => cases e1
    · cases hd <;> cases e1
    · cases a <;> cases e1) (iOf_in h)
theorem si_rng2 {b : Expr} {p pos : Pos} (hm : X.mg "range" = none) (ha : PA X [e, b] (tA (X.K, zz) W da)) (hg : Gl X "range" := by rfl) (hs : starEach [e, b] X.env = [(false, eval e X.env), (false, eval b X.env)] := by rfl) (hs2 : starEach [b] X.env = [(false, eval b X.env)] := by rfl) :
    PI X tg (.Call (.Name "range" p) [e, b] [] pos) (iS (X.K, zz) W (iOf itRng2 da)) :=
  PI.imp (pi_range2 hg hm ha hs hs2) fun σ H R h => tG.mono (fun vs H1 ⟨m1, ds, s1, it, s2, S1, q1, e1, hR⟩ => by
    rcases two_or q1 with rfl | ⟨d, v, rfl, rfl, hd⟩ | ⟨d, e', v, u, rfl, rfl, hd, he⟩ | ⟨a, b', c, l, rfl⟩
    · cases e1
    · cases hd <;> cases e1
    · cases hd with
      | int i =>
        cases he with
        | int j =>
          have e1 : (if -(2 ^ 62) ≤ i ∧ i < 2 ^ 62 ∧ -(2 ^ 62) ≤ j ∧ j < 2 ^ 62 then some ((⟨rngD i (j - i).toNat, none⟩ : Items), s1) else none) = some (it, s2) := e1
          by_cases z : -(2 ^ 62) ≤ i ∧ i < 2 ^ 62 ∧ -(2 ^ 62) ≤ j ∧ j < 2 ^ 62
          · rw [if_pos z] at e1
            cases e1
            exact ⟨i, j, rfl, z, hR m1 H1 _ Ext.refl S1 itw_rng⟩
          · rw [if_neg z] at e1; cases e1
        | _ => cases e1
      | _ => cases e1
    · cases a <;> cases b' <;> cases e1) (iOf_in h)
end

/-! ### for -/
open Classical in
noncomputable def forL (g : GM) (b : SM) (gd : Option Nat) (s0 : Sto) : List D → SM
  | [] => fun ρ s => .nx ρ s
  | d :: r => fun ρ s => match g d ρ with
    | none => .stuck
    | some ρ1 => match b ρ1 s with
      | .nx ρ' s' => if ∀ n, gd = some n → s'[n]? = s0[n]? then forL g b gd s0 r ρ' s' else .stuck
      | .ct ρ' s' => if ∀ n, gd = some n → s'[n]? = s0[n]? then forL g b gd s0 r ρ' s' else .stuck
      | .bk ρ' s' => .nx ρ' s'
      | r => r
noncomputable def sFor (i : IM) (g : GM) (b : SM) : SM := fun ρ s => ofE (i ρ s) ρ fun it s' => forL g b it.gd s' it.l ρ s'
theorem GoodS.ofI {K : KZ} {W : WX} {D : Ends} {m : List Addr} {H : Hp} {s : Sto} {ρ : En} {σ : St} {r : Res Items} {k : Items → Sto → SRes} (hS : StR K m H s) (hE : EnR K m H ρ σ) (h : GoodS K W D m H (QS.ofE r ρ k)) :
    GoodI K W σ m H (fun J H1 => ∃ m1 it s1, StR K m1 H1 s1 ∧ ItW K m1 s1 it J H1 ∧ EnR K m1 H1 ρ σ ∧ GoodS K W D m1 H1 (k it s1)) r := by
  cases r with
  | ok it s1 => exact fun m1 H1 J e1 S1 w => ⟨m1, it, s1, S1, w, hE.ext hS.noTup e1, GoodS.trans e1 h⟩
  | exn x s1 => exact fun m1 H1 c d e1 S1 r1 => h m1 H1 σ c d e1 S1 (hE.ext hS.noTup e1) r1
  | stuck => exact h
theorem s_for {zz : List Addr} {X : Cx} {W : WX} {tg iter : Expr} {body : List Stmt} {di : IM} {g : GM} {db : SM} {pos : Pos} (hp : PassesOwn (model X.prog X.w) X.A X.env X.xe) (hi : PI X tg iter (iS (X.K, zz) W di)) (hg : PG X tg (gS (X.K, zz) g)) (hb : PSs X body (tS (X.K, zz) W db)) (hc : X.calm = true := by rfl)
    (hs : ∀ x, foldedSetIterable iter X.env x = pure x := by intro _; rfl) : PS X (.For tg iter body [] pos) (tS (X.K, zz) W (sFor di g db)) := by
  refine PS.imp (ps_for hp hc hi hg hb hs) fun D σ H ⟨m, ρ, s, hE, hS, hG⟩ => ⟨m, ρ, s, hE, hS, ?_⟩
  have h := GoodS.ofI hS hE hG
  cases e : di ρ s with
  | stuck => rw [e] at h; exact h
  | exn x s1 => rw [e] at h; exact h
  | ok it s1 =>
    rw [e] at h
    intro m1 H1 J e1 S1 w
    obtain ⟨m1', it', s1', S1', w', E1, g1⟩ := h m1 H1 J e1 S1 w
    clear h w S1 e1 e hG hE hS
    refine ⟨fun i n σ H => n = it'.l.length - i ∧ i ≤ it'.l.length ∧ ∃ m2 ρ2 s2, Ext m1' H1 m2 H ∧ EnR (X.K, zz) m2 H ρ2 σ ∧ StR (X.K, zz) m2 H s2 ∧ (∀ k, it'.gd = some k → s2[k]? = s1'[k]?) ∧ GoodS (X.K, zz) W D m2 H (forL g db it'.gd s1' (it'.l.drop i) ρ2 s2),
      ⟨_, rfl, Nat.zero_le _, m1', ρ, s1', Ext.refl, E1, S1', fun _ _ => rfl, by simpa using g1⟩, ?_⟩
    rintro i n σ2 H2 ⟨rfl, hi, m2, ρ2, s2, f2, E2, S2, gd2, G2⟩
    obtain ⟨go, stop, yld⟩ := w' zz m2 H2 s2 (fun p hp => .inl hp) f2 S2 gd2
    by_cases hlt : i < it'.l.length
    · refine .inr ⟨go i hlt, fun σ' H' => i + 1 ≤ it'.l.length ∧ ∃ m3 ρ3 s3, Ext m1' H1 m3 H' ∧ EnR (X.K, zz) m3 H' ρ3 σ' ∧ StR (X.K, zz) m3 H' s3 ∧ (∀ k, it'.gd = some k → s3[k]? = s1'[k]?) ∧ GoodS (X.K, zz) W D m3 H' (forL g db it'.gd s1' (it'.l.drop (i + 1)) ρ3 s3),
        fun σ' H' ⟨hl, hN⟩ => ⟨it'.l.length - (i + 1), by omega, rfl, hl, hN⟩, fun x H' hy => ?_⟩
      obtain ⟨sm, rx⟩ := yld i it'.l[i] x H' (List.getElem?_eq_getElem hlt) hy
      have f3 : Ext m2 H2 m2 H' := Ext.same sm
      rw [List.drop_eq_getElem_cons hlt] at G2
      unfold forL at G2
      have E3 := E2.ext S2.noTup f3
      cases eg : g it'.l[i] ρ2 with
      | none => simp only [eg] at G2; exact G2.elim
      | some ρ3 =>
        simp only [eg] at G2
        refine ⟨m2, ρ2, it'.l[i], ρ3, E3, rx, eg, fun σ3 E4 => ⟨m2, ρ3, s2, E4, S2.same sm, ?_⟩⟩
        have G3 := GoodS.trans f3 G2
        cases eb : db ρ3 s2 with
        | nx ρ' s' =>
          simp only [eb] at G3
          intro m4 H4 σ4 f4 S4 E5
          by_cases z : ∀ n, it'.gd = some n → s'[n]? = s1'[n]?
          · rw [if_pos z] at G3
            exact ⟨hlt, m4, ρ', s', f2.trans (f3.trans f4), E5, S4, z, GoodS.trans f4 G3⟩
          · rw [if_neg z] at G3; exact G3.elim
        | ct ρ' s' =>
          simp only [eb] at G3
          intro m4 H4 σ4 f4 S4 E5
          by_cases z : ∀ n, it'.gd = some n → s'[n]? = s1'[n]?
          · rw [if_pos z] at G3
            exact ⟨hlt, m4, ρ', s', f2.trans (f3.trans f4), E5, S4, z, GoodS.trans f4 G3⟩
          · rw [if_neg z] at G3; exact G3.elim
        | bk ρ' s' => simp only [eb] at G3; exact G3
        | rt d s' => simp only [eb] at G3; exact G3
        | exn x ρ' s' => simp only [eb] at G3; exact G3
        | stuck => simp only [eb] at G3; exact G3
    · have ei : i = it'.l.length := by omega
      subst ei
      refine .inl ⟨stop, ?_⟩
      rw [List.drop_length] at G2
      exact G2 m2 H2 σ2 Ext.refl S2 E2

/-! ### defs -/
/-- a def's body at arguments; N slots -/
def run (N : Nat) (b : SM) (args : List D) : M D := fun s => match b (args.map some ++ List.replicate (N - args.length) none) s with
  | .nx _ s' => .ok .non s'
  | .rt d s' => .ok d s'
  | .exn x _ s' => .exn x s'
  | _ => .stuck
theorem EnR.start {K : KZ} {m : List Addr} {H : Hp} {ds : List D} {vs : List V} (r : RepL K m H ds vs) (N : List Str) : EnR K m H (ds.map some ++ List.replicate (N.length - ds.length) none) (L2.start N vs) := by
  unfold L2.start
  refine ⟨by simp [r.length], fun i d h => ?_⟩
  by_cases hi : i < ds.length
  · rw [List.getElem?_append_left (by simpa using hi), List.getElem?_map] at h
    obtain ⟨d', h1, h2⟩ := Option.map_eq_some_iff.mp h
    cases h2
    obtain ⟨v, h3, h4⟩ := r.get h1
    refine ⟨v, ?_, h4⟩
    rw [List.getElem?_append_left (by rw [List.length_map, ← r.length]; exact hi), List.getElem?_map, h3]
    rfl
  · rw [List.getElem?_append_right (by simpa using hi), List.getElem?_replicate] at h
    split at h <;> cases h
/-- the wish of a def's body -/
abbrev WF (E : XK) : WX := fun c d _ H => E c d H
theorem ok_def {P : Program} {w : World} {K : PySem.W.Frag} {mg : Str → Option Value} {base : Heap} {x qual : Str} {params : Arguments} {body : List Stmt} {scope : Scope} {f : Addr} {fd : FuncData} {N ps : List Str} {k : Nat} {b : SM}
    (F : FunD K x qual params body scope [] [] f fd) (S : FnScope N ps scope)
    (h : ∀ (zz : List Addr) (cdv : Value) (A : Around) (outer : List Env) (s : Shared) (H : Hp) (E : XK), Room k (A.deeper (envOfC qual scope s.heap.objs.size f cdv)) →
      Takes (cxOf (L2.CX P w) P w K mg base N qual scope f cdv A outer s H E) (WF E) → PassesOwn (model P w) (A.deeper (envOfC qual scope s.heap.objs.size f cdv)) (envOfC qual scope s.heap.objs.size f cdv) (cxOf (L2.CX P w) P w K mg base N qual scope f cdv A outer s H E).xe →
      PSs (cxOf (L2.CX P w) P w K mg base N qual scope f cdv A outer s H E) body (tS (K, zz) (WF E) b)) :
    FnOk P w K mg base (L2.CX P w) (k + 1) f fd ps (spF K ps.length (run N.length b)) := by
  refine F.ok S (fun vs H Q E q => q.1) fun cdv A outer s H vs Q E hr hsp => ?_
  obtain ⟨hl, zz, m, ds, st, r, S', hG⟩ := hsp
  refine ⟨_, h zz cdv A outer s H E hr (takes_of rfl rfl rfl rfl) (passes_of rfl), ?_⟩
  refine ⟨m, _, st, EnR.start r N, S', ?_⟩
  unfold run at hG
  cases e : b (ds.map some ++ List.replicate (N.length - ds.length) none) st with
  | nx ρ s' => simp only [e] at hG; exact fun m' H' σ' f S q => hG m' H' _ f S .non
  | rt d s' => simp only [e] at hG; exact fun m' H' v f S q => hG m' H' v f S q
  | bk ρ s' => simp only [e] at hG
  | ct ρ s' => simp only [e] at hG
  | exn x ρ s' => simp only [e] at hG; exact fun m' H' σ' c d f S _ q => hG m' H' c d f S q
  | stuck => simp only [e] at hG
end QS
end

section
set_option Elab.async false
set_option linter.all false
set_option maxRecDepth 100000
set_option maxHeartbeats 4000000
/-! QS5: sealing, displays, slices, comprehensions, objects, methods. -/
namespace QS
open PySem PySem.Spec PyProof.Rows L2
/-! ### sealing: what a def has laid of the store is left behind -/
mutual
def closed (n : Nat) : D → Bool
  | .tup l => closedL n l
  | .lst l => closedL n l
  | .scr l => closedL n l
  | .dic _ l => closedL n l
  | .ins _ _ l => closedL n l
  | .loc j => decide (j < n)
  | .non => true
  | .adr _ => true
  | .bl _ => true
  | .int _ => true
  | .str _ => true
def closedL (n : Nat) : List D → Bool
  | [] => true
  | d :: r => closed n d && closedL n r
end
def O.closed (n : Nat) : O → Bool
  | .lst l => closedL n l
  | .dic _ l => closedL n l
  | .ins _ _ l => closedL n l
def frz : Nat → Nat → Sto → D → Option D
  | 0, n, _, d => if closed n d = true then some d else none
  | k + 1, n, s, d => if closed n d = true then some d else match d with
    | .loc j => (match s[j]? with
      | some (.lst l) => (l.mapM (frz k n s)).map .lst
      | some (.dic ks l) => (l.mapM (frz k n s)).map (.dic ks)
      | some (.ins c fs l) => (l.mapM (frz k n s)).map (.ins c fs)
      | none => none)
    | .tup l => (l.mapM (frz k n s)).map .tup
    | .lst l => (l.mapM (frz k n s)).map .lst
    | .dic ks l => (l.mapM (frz k n s)).map (.dic ks)
    | .ins c fs l => (l.mapM (frz k n s)).map (.ins c fs)
    | _ => none
def OldOk (s s' : Sto) : Prop := s.length ≤ s'.length ∧ ∀ i, i < s.length → s'[i]? = s[i]? ∨ ∃ o, s'[i]? = some o ∧ o.closed s.length = true
open Classical in
noncomputable def sealR (s : Sto) : Res D → Res D
  | .ok d s' => match frz 4 s.length s' d with
    | some d' => if OldOk s s' then .ok d' (s'.take s.length) else .stuck
    | none => .stuck
  | .exn x s' => match x.arg with
    | none => if OldOk s s' then .exn x (s'.take s.length) else .stuck
    | some (f, a) => if closed s.length a = true ∧ OldOk s s' then .exn x (s'.take s.length) else .stuck
  | .stuck => .stuck
noncomputable def sealF (F : List D → M D) : List D → M D := fun xs s => sealR s (F xs s)
noncomputable def eSeal (e : EM) : EM := fun ρ s => sealR s (e ρ s)
section
variable {K : KZ} {m m0 m' : List Addr} {H H0 H' : Hp} {s s0 s' : Sto}
theorem notin_take {a : Addr} {n : Nat} (h : a ∉ m) : a ∉ m.take n := fun z => h (List.mem_of_mem_take z)
theorem nin_take {a : Addr} {n : Nat} (h : Nin K m a) : Nin K (m.take n) a := ⟨notin_take h.1, h.2⟩
mutual
theorem closed_take {n : Nat} : ∀ {d : D} {v : V}, Rep K m H d v → closed n d = true → Rep K (m.take n) H d v
  | _, _, .non, _ => .non
  | _, _, .bl b, _ => .bl b
  | _, _, .int i, _ => .int i
  | _, _, .str x, _ => .str x
  | _, _, .adr x, _ => .adr x
  | _, _, .tup h r, c => .tup h (closedL_take r (by simpa only [closed] using c))
  | _, _, .lst a h r, c => .lst (nin_take a) h (closedL_take r (by simpa only [closed] using c))
  | _, _, .scr h r, c => .scr h (closedL_take r (by simpa only [closed] using c))
  | _, _, .dic a l h r, c => .dic (nin_take a) l h (closedL_take r (by simpa only [closed] using c))
  | _, _, .ins a l h r, c => .ins (nin_take a) l h (closedL_take r (by simpa only [closed] using c))
  | _, _, .loc (n := j) h, c => .loc (by
    have z : j < n := by simpa only [closed, decide_eq_true_eq] using c
    rw [List.getElem?_take_of_lt z]
    exact h)
theorem closedL_take {n : Nat} : ∀ {ds : List D} {vs : List V}, RepL K m H ds vs → closedL n ds = true → RepL K (m.take n) H ds vs
  | _, _, .nil, _ => .nil
  | d :: ds, _, .cons h r, c => by
    have c' : closed n d = true ∧ closedL n ds = true := by simpa only [closedL, Bool.and_eq_true] using c
    exact .cons (closed_take h c'.1) (closedL_take r c'.2)
end
mutual
theorem closed_of : ∀ {d : D} {v : V}, Rep K m H d v → closed m.length d = true
  | _, _, .non => by simp only [closed]
  | _, _, .bl b => by simp only [closed]
  | _, _, .int i => by simp only [closed]
  | _, _, .str x => by simp only [closed]
  | _, _, .adr x => by simp only [closed]
  | _, _, .tup h r => by simp only [closed]; exact closedL_of r
  | _, _, .lst a h r => by simp only [closed]; exact closedL_of r
  | _, _, .scr h r => by simp only [closed]; exact closedL_of r
  | _, _, .dic a l h r => by simp only [closed]; exact closedL_of r
  | _, _, .ins a l h r => by simp only [closed]; exact closedL_of r
  | _, _, .loc h => by simp only [closed, decide_eq_true_eq]; exact (List.getElem?_eq_some_iff.mp h).1
theorem closedL_of : ∀ {ds : List D} {vs : List V}, RepL K m H ds vs → closedL m.length ds = true
  | _, _, .nil => by simp only [closedL]
  | _, _, .cons h r => by simp only [closedL, closed_of h, closedL_of r, Bool.and_self]
end
theorem mapM_rep {f : D → Option D} {n : Nat} (hf : ∀ d v d', Rep K m H d v → f d = some d' → Rep K (m.take n) H d' v) : ∀ {ds : List D} {vs : List V} {ds' : List D}, RepL K m H ds vs → ds.mapM f = some ds' → RepL K (m.take n) H ds' vs
  | _, _, _, .nil, h => by simp at h; subst h; exact .nil
  | d :: r, _, _, .cons hd hr, h => by
    rw [List.mapM_cons] at h
    cases e1 : f d with
    | none => rw [e1] at h; cases h
    | some d' =>
      rw [e1] at h
      cases e2 : r.mapM f with
      | none => rw [e2] at h; cases h
      | some r' =>
        rw [e2] at h
        cases h
        exact .cons (hf _ _ _ hd e1) (mapM_rep hf hr e2)
theorem frz_rep (S : StR K m H s) : ∀ (k n : Nat) (d : D) (v : V) (d' : D), Rep K m H d v → frz k n s d = some d' → Rep K (m.take n) H d' v
  | 0, n, d, v, d', r, h => by
    unfold frz at h
    by_cases c : closed n d = true
    · rw [if_pos c] at h; cases h; exact closed_take r c
    · rw [if_neg c] at h; cases h
  | k + 1, n, d, v, d', r, h => by
    unfold frz at h
    by_cases c : closed n d = true
    · rw [if_pos c] at h; cases h; exact closed_take r c
    · rw [if_neg c] at h
      have ih := frz_rep S k n
      cases r with
      | @loc j a e =>
        have nj : ¬ j < n := fun z => c (by simp only [closed, decide_eq_true_eq]; exact z)
        have na : Nin K (m.take n) a := by
          refine ⟨fun z => ?_, fun z => (S.hid a z).2 (List.mem_of_getElem? e)⟩
          obtain ⟨i, hi, e2⟩ := List.mem_iff_getElem.mp z
          rw [List.length_take] at hi
          rw [List.getElem_take] at e2
          obtain ⟨h1, h2⟩ := List.getElem?_eq_some_iff.mp e
          have := (List.getElem_inj S.nd).mp (e2.trans h2.symm)
          omega
        cases z : s[j]? with
        | none => simp only [z] at h; cases h
        | some o =>
          simp only [z] at h
          have q := S.obj j a o e z
          cases o with
          | lst l =>
            obtain ⟨l', h1, h2⟩ := Option.map_eq_some_iff.mp h
            subst h2
            obtain ⟨vs, e1, q1⟩ := q
            exact .lst na e1 (mapM_rep (fun d v d' => ih d v d') q1 h1)
          | dic ks l =>
            obtain ⟨l', h1, h2⟩ := Option.map_eq_some_iff.mp h
            subst h2
            obtain ⟨vs, l1, e1, q1⟩ := q
            exact .dic na l1 (.inl e1) (mapM_rep (fun d v d' => ih d v d') q1 h1)
          | ins c fs l =>
            obtain ⟨l', h1, h2⟩ := Option.map_eq_some_iff.mp h
            subst h2
            obtain ⟨dx, vs, l1, e1, q1⟩ := q
            exact .ins na l1 e1 (mapM_rep (fun d v d' => ih d v d') q1 h1)
      | tup h0 q1 =>
        obtain ⟨l', h1, h2⟩ := Option.map_eq_some_iff.mp h
        subst h2
        exact .tup h0 (mapM_rep (fun d v d' => ih d v d') q1 h1)
      | lst n0 h0 q1 =>
        obtain ⟨l', h1, h2⟩ := Option.map_eq_some_iff.mp h
        subst h2
        exact .lst (nin_take n0) h0 (mapM_rep (fun d v d' => ih d v d') q1 h1)
      | dic n0 l0 h0 q1 =>
        obtain ⟨l', h1, h2⟩ := Option.map_eq_some_iff.mp h
        subst h2
        exact .dic (nin_take n0) l0 h0 (mapM_rep (fun d v d' => ih d v d') q1 h1)
      | ins n0 l0 h0 q1 =>
        obtain ⟨l', h1, h2⟩ := Option.map_eq_some_iff.mp h
        subst h2
        exact .ins (nin_take n0) l0 h0 (mapM_rep (fun d v d' => ih d v d') q1 h1)
      | _ => cases h
theorem seal_ext (e : Ext m0 H0 m' H') : Ext m0 H0 m0 H' := ⟨⟨[], by simp, fun _ h => by cases h⟩, e.keep, e.there⟩
theorem seal_take (S0 : StR K m0 H0 s0) (e : Ext m0 H0 m' H') : m'.take s0.length = m0 := by
  obtain ⟨t, rfl, _⟩ := e.more
  rw [← S0.len]
  simp
theorem seal_str (S0 : StR K m0 H0 s0) (e : Ext m0 H0 m' H') (S : StR K m' H' s') (h : OldOk s0 s') : StR K m0 H' (s'.take s0.length) := by
  have et := seal_take S0 e
  refine ⟨by rw [List.length_take, S0.len]; have := h.1; omega, S0.nd, fun d hd => ⟨(S.hid d hd).1, (S0.hid d hd).2⟩, fun i a o h1 h2 => ?_⟩
  have hi : i < s0.length := by rw [← S0.len]; exact (List.getElem?_eq_some_iff.mp h1).1
  rw [List.getElem?_take_of_lt hi] at h2
  have q := S.obj i a o (e.loc h1) h2
  have go : o.closed s0.length = true := by
    rcases h.2 i hi with z | ⟨o', z, c⟩
    · rw [h2] at z
      have q0 := S0.obj i a o h1 z.symm
      cases o with
      | lst l => obtain ⟨vs, _, r⟩ := q0; rw [← S0.len]; exact closedL_of r
      | dic ks l => obtain ⟨vs, _, _, r⟩ := q0; rw [← S0.len]; exact closedL_of r
      | ins c fs l => obtain ⟨dx, vs, _, _, r⟩ := q0; rw [← S0.len]; exact closedL_of r
    · rw [h2] at z; cases z; exact c
  cases o with
  | lst l => obtain ⟨vs, e1, r⟩ := q; exact ⟨vs, e1, by rw [← et]; exact closedL_take r go⟩
  | dic ks l => obtain ⟨vs, e0, e1, r⟩ := q; exact ⟨vs, e0, e1, by rw [← et]; exact closedL_take r go⟩
  | ins c fs l => obtain ⟨dx, vs, e0, e1, r⟩ := q; exact ⟨dx, vs, e0, e1, by rw [← et]; exact closedL_take r go⟩
theorem ERep.seal {x : Ex} {c : Value} {d : Option Addr} (S0 : StR K m0 H0 s0) (e : Ext m0 H0 m' H') (r : ERep K m' H' x c d) (h : ∀ f a, x.arg = some (f, a) → closed s0.length a = true) : ERep K m0 H' x c d := by
  refine ⟨r.1, ?_⟩
  have q := r.2
  cases z : x.arg with
  | none => rw [z] at q; exact q
  | some p =>
    obtain ⟨f, a⟩ := p
    rw [z] at q
    obtain ⟨dd, v, h1, h2, h3, h4⟩ := q
    refine ⟨dd, v, h1, ?_, h3, ?_⟩
    · obtain ⟨t, rfl, _⟩ := e.more
      exact fun z => h2 (List.mem_append_left _ z)
    · rw [← seal_take S0 e]
      exact closed_take h4 (h f a z)
/-- what is wanted of the sealed result is had of the result -/
theorem Good.sealed {W : WX} {σ : St} {Q : VK} {r : Res D} (S0 : StR K m0 H0 s0) (h : Good K W σ (Rep K) m0 H0 Q (sealR s0 r)) : Good K W σ (Rep K) m0 H0 Q r := by
  cases r with
  | stuck => exact h
  | ok d s' =>
    intro m' H' v e S q
    unfold sealR at h
    cases z : frz 4 s0.length s' d with
    | none => simp only [z] at h; exact h.elim
    | some d' =>
      simp only [z] at h
      by_cases c : OldOk s0 s'
      · rw [if_pos c] at h
        refine h m0 H' v (seal_ext e) (seal_str S0 e S c) ?_
        have := frz_rep S 4 s0.length d v d' q z
        rw [seal_take S0 e] at this
        exact this
      · rw [if_neg c] at h; exact h.elim
  | exn x s' =>
    intro m' H' c d e S q
    unfold sealR at h
    cases z : x.arg with
    | none =>
      simp only [z] at h
      by_cases c0 : OldOk s0 s'
      · rw [if_pos c0] at h
        exact h m0 H' c d (seal_ext e) (seal_str S0 e S c0) (q.seal S0 e (fun f a z' => by rw [z] at z'; cases z'))
      · rw [if_neg c0] at h; exact h.elim
    | some p =>
      simp only [z] at h
      by_cases c0 : closed s0.length p.2 = true ∧ OldOk s0 s'
      · rw [if_pos c0] at h
        exact h m0 H' c d (seal_ext e) (seal_str S0 e S c0.2) (q.seal S0 e (fun f a z' => by rw [z] at z'; cases z'; exact c0.1))
      · rw [if_neg c0] at h; exact h.elim
end
theorem se_seal {zz : List Addr} {X : Cx} {W : WX} {e : Expr} {de : EM} (h : PE X e (tE (X.K, zz) W de)) : PE X e (tE (X.K, zz) W (eSeal de)) :=
  PE.imp h fun σ H Q ⟨m, ρ, s, hE, hS, hG⟩ => ⟨m, ρ, s, hE, hS, Good.sealed hS hG⟩
theorem spF_seal {K : PySem.W.Frag} {n : Nat} {F : List D → M D} {vs : List V} {H : Hp} {Q : VK} {E : XK} (h : spF K n (sealF F) vs H Q E) : spF K n F vs H Q E := by
  obtain ⟨hl, zz, m, ds, s, r, S, hG⟩ := h
  refine ⟨hl, zz, m, ds, s, r, S, ?_⟩
  have g : Good (K, zz) (WF E) [] (Rep (K, zz)) m H Q (sealR s (F ds s)) := by
    unfold sealF at hG
    cases e : sealR s (F ds s) with
    | ok d s' => rw [e] at hG; exact hG
    | exn x s' => rw [e] at hG; exact hG
    | stuck => rw [e] at hG; exact hG
  have g2 := Good.sealed S g
  cases e : F ds s with
  | ok d s' => rw [e] at g2; exact g2
  | exn x s' => rw [e] at g2; exact g2
  | stuck => rw [e] at g2; exact g2
theorem ok_seal {P : Program} {w : World} {K : PySem.W.Frag} {mg : Str → Option Value} {base : Heap} {f : Addr} {fd : FuncData} {ps : List Str} {k n : Nat} {F : List D → M D} {CX : CXT} (h : FnOk P w K mg base CX k f fd ps (spF K n F)) : FnOk P w K mg base CX k f fd ps (spF K n (sealF F)) :=
  h.imp fun _ _ _ _ => spF_seal

/-! ### displays -/
def eTup (a : AM) : EM := fun ρ => bnd (a ρ) fun xs => lift fun s => if xs.length ≤ sizeLine then some (.tup xs, s) else none
def eLst (mu : Bool) (a : AM) : EM := fun ρ => bnd (a ρ) fun xs => lift fun s => if xs.length ≤ sizeLine then new mu xs s else none
section
variable {zz : List Addr} {X : Cx} {W : WX} {e a b : Expr} {es : List Expr} {de db : EM} {da : AM} {pos : Pos}
theorem se_tup {x1} (h : PA X es (tA (X.K, zz) W da)) : PE X (.Tuple es x1 pos) (tE (X.K, zz) W (eTup da)) :=
  PE.imp (pe_tup h) fun σ H Q ⟨m, ρ, s, hE, hS, hG⟩ => ⟨m, ρ, s, hE, hS, (Good.bind hG).mono fun vs H1 ⟨m1, xs, s1, e1, S1, q1, hG1⟩ => by
    have g := hG1.lift
    by_cases c : xs.length ≤ sizeLine
    · rw [if_pos c] at g
      exact ⟨by rw [← q1.length]; exact c, fun p hp => newT_ok S1 q1 g p hp⟩
    · rw [if_neg c] at g; exact g.elim⟩
theorem se_lst {mu : Bool} (h : PA X es (tA (X.K, zz) W da)) : PE X (.List es pos) (tE (X.K, zz) W (eLst mu da)) :=
  PE.imp (pe_lst h) fun σ H Q ⟨m, ρ, s, hE, hS, hG⟩ => ⟨m, ρ, s, hE, hS, (Good.bind hG).mono fun vs H1 ⟨m1, xs, s1, e1, S1, q1, hG1⟩ => by
    have g := hG1.lift
    by_cases c : xs.length ≤ sizeLine
    · rw [if_pos c] at g
      exact ⟨by rw [← q1.length]; exact c, fun p hp => new_ok S1 q1 g p hp⟩
    · rw [if_neg c] at g; exact g.elim⟩
/-! ### slices -/
abbrev OM := En → M (Option Int)
def oNone : OM := fun _ => ret none
def asI : D → M (Option Int) := fun d s => match d with
  | .int i => .ok (some i) s
  | _ => .stuck
def oSome (e : EM) : OM := fun ρ => bnd (e ρ) asI
def eSl (g : D → Option Int → Option Int → V1 D) (e : EM) (lo hi : OM) : EM := fun ρ => bnd (e ρ) fun x => bnd (lo ρ) fun l => bnd (hi ρ) fun h => lift (g x l h)
abbrev tO (K : KZ) (W : WX) (e : OM) : TO := tG K (fun _ _ (a b : Option Int) => a = b) W e
theorem PO.imp {e : Option Expr} {t t' : TO} (h : PO X e t) (i : ∀ σ H Q, t' σ H Q → t σ H Q) : PO X e t' := ⟨fun pins s σ H Q I q => h.run pins s σ H Q I (i σ H Q q)⟩
theorem so_none : PO X none (tO (X.K, zz) W oNone) := PO.imp po_none fun σ H Q ⟨m, ρ, s, hE, hS, hG⟩ => hG m H none Ext.refl hS rfl
theorem so_some (h : PE X e (tE (X.K, zz) W de)) : PO X (some e) (tO (X.K, zz) W (oSome de)) :=
  PO.imp (po_some h) fun σ H Q ⟨m, ρ, s, hE, hS, hG⟩ => ⟨m, ρ, s, hE, hS, (Good.bind hG).mono fun v H1 ⟨m1, x, s1, e1, S1, q1, hG1⟩ => by
    cases q1 with
    | int i => exact ⟨i, rfl, hG1 m1 H1 _ Ext.refl S1 rfl⟩
    | _ => exact hG1.elim⟩
def rS (K : KZ) (g : D → Option Int → Option Int → V1 D) : V → Option Int → Option Int → Hp → VK → Prop := fun x l h H Q => ∃ m d s, StR K m H s ∧ Rep K m H d x ∧ GoodV K m H Q (g d l h s)
theorem se_slice {g : D → Option Int → Option Int → V1 D} {lo hi : Option Expr} {ol oh : OM} {p2 : Pos} (hr : SlR X (rS (X.K, zz) g)) (he : PE X e (tE (X.K, zz) W de)) (hl : PO X lo (tO (X.K, zz) W ol)) (hu : PO X hi (tO (X.K, zz) W oh)) : PE X (.Subscript e (.Slice lo hi none p2) pos) (tE (X.K, zz) W (eSl g de ol oh)) :=
  PE.imp (pe_slice hr he hl hu) fun σ H Q ⟨m, ρ, s, hE, hS, hG⟩ => ⟨m, ρ, s, hE, hS, (Good.bind hG).mono fun v H1 ⟨m1, x, s1, e1, S1, q1, hG1⟩ =>
    ⟨m1, ρ, s1, hE.ext hS.noTup e1, S1, (Good.bind hG1).mono fun l H2 ⟨m2, l', s2, e2, S2, q2, hG2⟩ => by
      subst q2
      exact ⟨m2, ρ, s2, (hE.ext hS.noTup e1).ext S1.noTup e2, S2, (Good.bind hG2).mono fun u H3 ⟨m3, u', s3, e3, S3, q3, hG3⟩ => by
        subst q3
        exact ⟨m3, x, s3, S3, q1.ext S1.noTup (e2.trans e3), hG3.lift⟩⟩⟩⟩
def cut {α : Type} (xs : List α) (lo hi : Option Int) : List α := (xs.drop (HT.sIx xs.length 0 lo)).take (HT.sIx xs.length xs.length hi - HT.sIx xs.length 0 lo)
theorem cut_rep {K : KZ} {m : List Addr} {H : Hp} {ds : List D} {vs : List V} (r : RepL K m H ds vs) (lo hi : Option Int) : RepL K m H (cut ds lo hi) (cutV vs lo hi) := by
  unfold cut cutV
  rw [← r.length]
  exact (r.drop _).take _
def gSlL (mu : Bool) : D → Option Int → Option Int → V1 D := fun x lo hi s => (lstOf s x).bind fun l => new mu (cut l lo hi) s
def gSlT : D → Option Int → Option Int → V1 D := fun x lo hi s => match x with
  | .tup l => some (.tup (cut l lo hi), s)
  | _ => none
def gSlS : D → Option Int → Option Int → V1 D := fun x lo hi s => match x with
  | .str z => if z.length ≤ sizeLine then some (.str (cutS z lo hi), s) else none
  | _ => none
def orVS (g h : D → Option Int → Option Int → V1 D) : D → Option Int → Option Int → V1 D := fun x lo hi s => match g x lo hi s with
  | some r => some r
  | none => h x lo hi s
def gSl (mu : Bool) : D → Option Int → Option Int → V1 D := orVS (gSlL mu) (orVS gSlT gSlS)
theorem SlR.orV {g h : D → Option Int → Option Int → V1 D} (a : SlR X (rS (X.K, zz) g)) (b : SlR X (rS (X.K, zz) h)) : SlR X (rS (X.K, zz) (orVS g h)) := by
  intro pins s σ H x v vl vu lo hi sl Q I rx hs pl pu ⟨m, d, st, S, hd, hG⟩
  unfold orVS at hG
  cases hg : g d lo hi st with
  | some r =>
    rw [hg] at hG
    exact a pins s σ H x v vl vu lo hi sl Q I rx hs pl pu ⟨m, d, st, S, hd, by rw [hg]; exact hG⟩
  | none =>
    rw [hg] at hG
    exact b pins s σ H x v vl vu lo hi sl Q I rx hs pl pu ⟨m, d, st, S, hd, hG⟩
theorem l_list {mu : Bool} : SlR X (rS (X.K, zz) (gSlL mu)) := by
  intro pins s σ H x v vl vu lo hi sl Q I rx hs pl pu ⟨m, d, st, S, hd, hG⟩
  unfold gSlL at hG
  cases h1 : lstOf st d with
  | none => rw [h1] at hG; exact hG.elim
  | some l =>
    rw [h1] at hG
    obtain ⟨a, vs, rfl, e1, q1⟩ := lstOf_at S hd h1
    exact sl_list pins s σ H _ v vl vu lo hi sl Q I rx hs pl pu ⟨a, vs, rfl, e1, fun p hp => new_ok S (cut_rep q1 lo hi) hG p hp⟩
theorem cut_whole {α : Type} {xs : List α} {lo hi : Option Int} (h : HT.sIx xs.length 0 lo = 0 ∧ HT.sIx xs.length xs.length hi = xs.length) : cut xs lo hi = xs := by
  unfold cut
  rw [h.1, h.2]
  simp
theorem l_tup : SlR X (rS (X.K, zz) gSlT) := by
  intro pins s σ H x v vl vu lo hi sl Q I rx hs pl pu ⟨m, d, st, S, hd, hG⟩
  cases hd with
  | @tup a l vs e q =>
    have hG : GoodV (X.K, zz) m H Q (some (.tup (cut l lo hi), st)) := hG
    refine sl_tupA pins s σ H _ v vl vu lo hi sl Q I rx hs pl pu ⟨a, vs, rfl, e, fun w => ?_, fun _ p hp => newT_ok S (cut_rep q lo hi) hG p hp⟩
    rw [← q.length] at w
    rw [cut_whole w] at hG
    exact GoodV.here S hG (.tup e q)
  | _ => exact hG.elim
theorem l_str : SlR X (rS (X.K, zz) gSlS) := by
  intro pins s σ H x v vl vu lo hi sl Q I rx hs pl pu ⟨m, d, st, S, hd, hG⟩
  cases hd with
  | str z =>
    have hG : GoodV (X.K, zz) m H Q (if z.length ≤ sizeLine then some (.str (cutS z lo hi), st) else none) := hG
    by_cases c : z.length ≤ sizeLine
    · rw [if_pos c] at hG
      exact sl_str pins s σ H _ v vl vu lo hi sl Q I rx hs pl pu ⟨z, rfl, c, GoodV.here S hG (.str _)⟩
    · rw [if_neg c] at hG; exact hG.elim
  | _ => exact hG.elim
theorem l_seq {mu : Bool} : SlR X (rS (X.K, zz) (gSl mu)) := SlR.orV l_list (SlR.orV l_tup l_str)
/-! ### a list's item stored -/
def gStL : D → D → D → Sto → Option Sto := fun o i v s => match o, i with
  | .loc n, .int k => (match s[n]? with
    | some (.lst l) => (ixN l.length k).map fun j => s.set n (.lst (l.set j v))
    | _ => none)
  | _, _ => none
/-- o[i] = v -/
def sSub (g : D → D → D → Sto → Option Sto) (v o i : EM) : SM := fun ρ s => ofE (bnd (v ρ) (fun d => bnd (o ρ) fun x => bnd (i ρ) fun y => lift fun s => (g x y d s).map fun s' => (D.non, s')) s) ρ fun _ s' => .nx ρ s'
def rSt (K : KZ) (g : D → D → D → Sto → Option Sto) : TSet := fun o i v H Q => ∃ m x y d s s', StR K m H s ∧ Rep K m H x o ∧ Rep K m H y i ∧ Rep K m H d v ∧ g x y d s = some s' ∧ ∀ m' H', Ext m H m' H' → StR K m' H' s' → Q H'
theorem t_list : PSet X (rSt (X.K, zz) gStL) := by
  intro pins s σ H o i v ov iv u Q I ro ri rv ⟨m, x, y, d, st, st', S, hx, hy, hd, hg, hQ⟩
  cases hx with
  | @loc n a e =>
    cases hy with
    | int k =>
      have hg : (match st[n]? with
        | some (.lst l) => (ixN l.length k).map fun j => st.set n (.lst (l.set j d))
        | _ => none) = some st' := hg
      cases z : st[n]? with
      | none => rw [z] at hg; cases hg
      | some oo =>
        rw [z] at hg
        cases oo with
        | lst l =>
          obtain ⟨j, h1, h2⟩ := Option.map_eq_some_iff.mp (show (ixN l.length k).map (fun j => st.set n (.lst (l.set j d))) = some st' from hg)
          subst h2
          obtain ⟨vs, e1, q⟩ := S.obj n a _ e z
          refine set_list pins s σ H _ _ v ov iv u Q I ro ri rv ⟨a, vs, k, j, rfl, rfl, e1, by rw [← q.length]; exact h1, hQ m _ (Ext.write e S.noTup) (S.write e ⟨_, upd_same, ?_⟩)⟩
          exact RepL.ext S.noTup (Ext.write e S.noTup) (RepL.set hd j q)
        | _ => cases hg
    | _ => cases hg
  | _ => cases hg
theorem s_sub {g : D → D → D → Sto → Option Sto} {value : Expr} {dv : EM} {tpos : Pos} (ht : PSet X (rSt (X.K, zz) g)) (hv : PE X value (tE (X.K, zz) W dv)) (ho : PE X a (tE (X.K, zz) W de)) (hi : PE X b (tE (X.K, zz) W db))
    (ha : ∀ v, assign (.Subscript a b tpos) X.env v = (do
      let ov ← holding [v] (eval a X.env)
      let iv ← holding [v, ov] (eval b X.env)
      standAt tpos
      holding [v, ov, iv] (setItem ov iv v)
      release [v, ov, iv] []) := by intro _; rfl)
    (hs : swapsWithSole [.Subscript a b tpos] value pos.line X.env = pure false := by rfl) (hw : swappedStores [.Subscript a b tpos] value X.env = pure none := by rfl)
    (h1 : (assignEach [.Subscript a b tpos] X.env).map (·.2) = [assign (.Subscript a b tpos) X.env] := by rfl) : PS X (.Assign [.Subscript a b tpos] value pos) (tS (X.K, zz) W (sSub g dv de db)) := by
  refine PS.imp (ps_asg hv (pg_sub ho hi ht ha) hs hw h1) fun D σ H ⟨m, ρ, s, hE, hS, hG⟩ => ?_
  refine ⟨m, ρ, s, hE, hS, (Good.bind (GoodS.ofE (rel := Rep (X.K, zz)) hS hE hG)).mono fun v H1 ⟨m1, d, s1, e1, S1, q1, hG1⟩ => ?_⟩
  refine ⟨m1, ρ, s1, hE.ext hS.noTup e1, S1, (Good.bind hG1).mono fun o H2 ⟨m2, x, s2, e2, S2, q2, hG2⟩ => ?_⟩
  refine ⟨m2, ρ, s2, (hE.ext hS.noTup e1).ext S1.noTup e2, S2, (Good.bind hG2).mono fun i H3 ⟨m3, y, s3, e3, S3, q3, hG3⟩ => ?_⟩
  have g3 := hG3.lift
  cases z : g x y d s3 with
  | none => simp only [z, Option.map_none] at g3; exact g3.elim
  | some s4 =>
    simp only [z, Option.map_some] at g3
    refine ⟨m3, x, y, d, s3, s4, S3, q2.ext S2.noTup e3, q3, q1.ext S1.noTup (e2.trans e3), z, fun m' H' f S' => ?_⟩
    obtain ⟨m5, _, s5, e5, S5, q5, E5, g5⟩ := g3 m' H' .non f S' .non
    exact g5 m5 H' σ Ext.refl S5 E5
end
end QS
end

section
set_option Elab.async false
set_option linter.all false
set_option maxRecDepth 100000
set_option maxHeartbeats 4000000
/-! QS6: comprehensions. -/
namespace QS
open PySem PySem.Spec PyProof.Rows L2
section
variable {k : PySem.W.Frag} {z z' : List Addr} {m m' : List Addr} {H H' : Hp} {s : Sto} {ρ : En} {σ : St}
theorem EnR.chg (c : Chg k z m H z' m' H') (e : EnR (k, z) m H ρ σ) : EnR (k, z') m' H' ρ σ := ⟨e.len, fun i d h => let ⟨v, h1, h2⟩ := e.at_ i d h; ⟨v, h1, h2.chg c⟩⟩
theorem OR.chg (c : Chg k z m H z' m' H') {a : Addr} {o : O} (h : ∀ u, H a = some u → H' a = some u) (q : OR (k, z) m H a o) : OR (k, z') m' H' a o := by
  cases o with
  | lst ds => obtain ⟨vs, e, r⟩ := q; exact ⟨vs, h _ e, r.chg c⟩
  | dic ks ds => obtain ⟨vs, l, e, r⟩ := q; exact ⟨vs, l, h _ e, r.chg c⟩
  | ins c' fs ds => obtain ⟨dx, vs, l, e, r⟩ := q; exact ⟨dx, vs, l, h _ e, r.chg c⟩
theorem SqT.of_keep {p : Addr} {o : HO} (h : ∀ vs, H p = some (.tup vs) → False) (h2 : ∀ o' vs, H p = some (.frz o' (.tup vs)) → False) (a : Addr) (vs : List V) (q : SqT k H a vs) : SqT k (upd H p o) a vs := by
  rcases q with (q | ⟨o', q⟩) | q
  · refine .inl (.inl ?_)
    rw [upd_ne (fun e => by subst e; exact h _ q)]
    exact q
  · refine .inl (.inr ⟨o', ?_⟩)
    rw [upd_ne (fun e => by subst e; exact h2 _ _ q)]
    exact q
  · exact .inr q
theorem SqF.of_keep {p : Addr} {o : HO} (h2 : ∀ o' vs, H p = some (.frz o' (.lst vs)) → False) (a : Addr) (vs : List V) (q : SqF k H a vs) : SqF k (upd H p o) a vs := by
  rcases q with ⟨o', q⟩ | q
  · refine .inl ⟨o', ?_⟩
    rw [upd_ne (fun e => by subst e; exact h2 _ _ q)]
    exact q
  · exact .inr q
/-- a place is hidden -/
theorem chg_hide {p : Addr} {o : HO} (hp : H p = none) : Chg k z m H (p :: z) m (upd H p o) where
  tup := SqT.of_keep (fun vs e => by rw [hp] at e; cases e) (fun o' vs e => by rw [hp] at e; cases e)
  scr := SqF.of_keep (fun o' vs e => by rw [hp] at e; cases e)
  obj := fun a u n e => by
    have ne : a ≠ p := fun q => by subst q; rw [hp] at e; cases e
    exact ⟨⟨n.1, fun q => by
      rcases List.mem_cons.mp q with q | q
      · exact ne q
      · exact n.2 q⟩, by rw [upd_ne ne]; exact e⟩
  loc := fun n a h => h
theorem str_hide {p : Addr} {o : HO} (S : StR (k, z) m H s) (hp : H p = none) : StR (k, p :: z) m (upd H p o) s := by
  have np : ∀ a ∈ m, a ≠ p := fun a ha e => by
    obtain ⟨u, q, _⟩ := S.noTup a ha
    rw [e, hp] at q; cases q
  refine ⟨S.len, S.nd, fun d hd => ?_, fun n a u h1 h2 => (S.obj n a u h1 h2).chg (chg_hide hp) fun u q => by rw [upd_ne (np a (List.mem_of_getElem? h1))]; exact q⟩
  rcases List.mem_cons.mp hd with hd | hd
  · subst hd
    refine ⟨?_, fun q => np _ q rfl⟩
    rw [upd_same]
    exact fun z => by cases z
  · exact ⟨(Ext.new (m := m) hp).there d (S.hid d hd).1, (S.hid d hd).2⟩
/-- the hidden list is written -/
theorem chg_hupd {p : Addr} {acc : List V} {o : HO} (hp : H p = some (.lst acc)) (hz : p ∈ z) : Chg k z m H z m (upd H p o) where
  tup := SqT.of_keep (fun vs e => by rw [hp] at e; cases e) (fun o' vs e => by rw [hp] at e; cases e)
  scr := SqF.of_keep (fun o' vs e => by rw [hp] at e; cases e)
  obj := fun a u n e => ⟨n, by rw [upd_ne (fun q => by subst q; exact n.2 hz)]; exact e⟩
  loc := fun n a h => h
theorem str_hupd {p : Addr} {acc : List V} {o : HO} (S : StR (k, z) m H s) (hp : H p = some (.lst acc)) (hz : p ∈ z) : StR (k, z) m (upd H p o) s := by
  refine ⟨S.len, S.nd, fun d hd => ⟨?_, (S.hid d hd).2⟩, fun n a u h1 h2 => (S.obj n a u h1 h2).chg (chg_hupd hp hz) fun u q => by
    rw [upd_ne (fun e => by subst e; exact (S.hid _ hz).2 (List.mem_of_getElem? h1))]; exact q⟩
  by_cases e : d = p
  · subst e; rw [upd_same]; exact fun z => by cases z
  · rw [upd_ne e]; exact (S.hid d hd).1
/-- no more hidden -/
theorem chg_show {p : Addr} : Chg k (p :: z) m H z m H := ⟨fun _ _ h => h, fun _ _ h => h, fun a u n e => ⟨⟨n.1, fun q => n.2 (List.mem_cons_of_mem _ q)⟩, e⟩, fun _ _ h => h⟩
theorem str_show {p : Addr} (S : StR (k, p :: z) m H s) : StR (k, z) m H s :=
  ⟨S.len, S.nd, fun d hd => S.hid d (List.mem_cons_of_mem _ hd), fun n a u h1 h2 => (S.obj n a u h1 h2).chg chg_show fun u q => q⟩
/-- .. it comes into the store -/
theorem chg_in {p : Addr} : Chg k (p :: z) m H z (m ++ [p]) H := ⟨fun _ _ h => h, fun _ _ h => h, fun a u n e => ⟨⟨fun q => by
    rcases List.mem_append.mp q with q | q
    · exact n.1 q
    · simp at q
      exact n.2 (by rw [q]; exact List.mem_cons_self), fun q => n.2 (List.mem_cons_of_mem _ q)⟩, e⟩, fun n a h => by
      rw [List.getElem?_append_left (List.getElem?_eq_some_iff.mp h).1]; exact h⟩
theorem str_in {p : Addr} {o : O} (hz : p ∉ z) (S : StR (k, p :: z) m H s) (q : OR (k, z) (m ++ [p]) H p o) : StR (k, z) (m ++ [p]) H (s ++ [o]) := by
  have np : p ∉ m := (S.hid p List.mem_cons_self).2
  refine ⟨by simp [S.len], List.nodup_append.mpr ⟨S.nd, by simp, fun a ha b hb => by simp at hb; subst hb; exact fun e => np (e ▸ ha)⟩, fun d hd => ⟨(S.hid d (List.mem_cons_of_mem _ hd)).1, fun e => ?_⟩, fun n a u h1 h2 => ?_⟩
  · rcases List.mem_append.mp e with e | e
    · exact (S.hid d (List.mem_cons_of_mem _ hd)).2 e
    · simp at e
      exact hz (e ▸ hd)
  · by_cases hn : n < m.length
    · rw [List.getElem?_append_left hn] at h1
      rw [List.getElem?_append_left (by rw [← S.len]; exact hn)] at h2
      exact (S.obj n a u h1 h2).chg chg_in fun v q => q
    · have e1 : n = m.length := by
        have := (List.getElem?_eq_some_iff.mp h1).1
        simp at this; omega
      subst e1
      rw [List.getElem?_append_right (Nat.le_refl _)] at h1
      rw [List.getElem?_append_right (by rw [S.len]; exact Nat.le_refl _)] at h2
      simp at h1
      rw [S.len] at h2
      simp at h2
      subst h1; subst h2
      exact q
end
/-! ### the denotation -/
abbrev W0 : WX := fun _ _ _ _ => False
open Classical in
noncomputable def lcL (g : GM) (t : TM) (e : EM) (gd : Option Nat) (s0 : Sto) (ρ : En) : List D → M (List D)
  | [] => ret []
  | d :: r => fun s => match g d ρ with
    | none => .stuck
    | some ρ1 => match t ρ1 s with
      | .ok true s1 => (match e ρ1 s1 with
        | .ok y s2 => if ∀ n, gd = some n → s2[n]? = s0[n]? then bnd (lcL g t e gd s0 ρ r) (fun ys => ret (y :: ys)) s2 else .stuck
        | _ => .stuck)
      | .ok false s1 => if ∀ n, gd = some n → s1[n]? = s0[n]? then lcL g t e gd s0 ρ r s1 else .stuck
      | _ => .stuck
def wipeD (ρ : En) : List Nat → En
  | [] => ρ
  | v :: vs => (wipeD ρ vs).set v none
noncomputable def eLc (mu : Bool) (vs : List Nat) (i : IM) (g : GM) (t : TM) (e : EM) : EM := fun ρ => bnd (i ρ) fun it => bnd (fun s => if it.l.length ≤ sizeLine then lcL g t e it.gd s (wipeD ρ vs) it.l s else .stuck) fun l => lift (new mu l)
theorem EnR.wipe {K : KZ} {m : List Addr} {H : Hp} {ρ : En} {σ : St} (h : EnR K m H ρ σ) : ∀ vs : List Nat, EnR K m H (wipeD ρ vs) (wipe σ vs)
  | [] => h
  | v :: vs => (EnR.wipe h vs).forget v
theorem lcL_noexn {g : GM} {t : TM} {e : EM} {gd : Option Nat} {s0 : Sto} {ρ : En} : ∀ (l : List D) (s : Sto) x s', lcL g t e gd s0 ρ l s ≠ .exn x s'
  | [], s, x, s', h => by cases h
  | d :: r, s, x, s', h => by
    unfold lcL at h
    cases e1 : g d ρ with
    | none => simp only [e1] at h; cases h
    | some ρ1 =>
      simp only [e1] at h
      cases e2 : t ρ1 s with
      | stuck => simp only [e2] at h; cases h
      | exn x s1 => simp only [e2] at h; cases h
      | ok b s1 =>
        simp only [e2] at h
        cases b with
        | false =>
          simp only at h
          by_cases c : ∀ n, gd = some n → s1[n]? = s0[n]?
          · rw [if_pos c] at h; exact lcL_noexn r s1 x s' h
          · rw [if_neg c] at h; cases h
        | true =>
          simp only at h
          cases e3 : e ρ1 s1 with
          | stuck => simp only [e3] at h; cases h
          | exn x s1 => simp only [e3] at h; cases h
          | ok y s2 =>
            simp only [e3] at h
            by_cases c : ∀ n, gd = some n → s2[n]? = s0[n]?
            · rw [if_pos c] at h
              unfold bnd at h
              cases e4 : lcL g t e gd s0 ρ r s2 with
              | ok ys s3 => rw [e4] at h; cases h
              | stuck => rw [e4] at h; cases h
              | exn x' s3 => exact lcL_noexn r s2 x' s3 e4
            · rw [if_neg c] at h; cases h
/-- PTs of one test, or of none -/
def tT0 : TM := fun _ => ret true
theorem PTs.imp {X : Cx} {e : List Expr} {t t' : TT} (h : PTs X e t) (i : ∀ σ H Q, t' σ H Q → t σ H Q) : PTs X e t' := ⟨fun pins s σ H Q I q => h.run pins s σ H Q I (i σ H Q q)⟩
theorem sts_nil {zz : List Addr} {X : Cx} {W : WX} : PTs X [] (tT (X.K, zz) W tT0) := PTs.imp pts_nil fun σ H Q ⟨m, ρ, s, hE, hS, hG⟩ => hG m H true Ext.refl hS rfl
theorem sts_one {zz : List Addr} {X : Cx} {W : WX} {c : Expr} {t : TM} (h : PT X c (tT (X.K, zz) W t)) : PTs X [c] (tT (X.K, zz) W t) := pts_one h

def tEz (k : PySem.W.Frag) (e : EM) : TE := fun σ H Q => ∃ zz, tE (k, zz) W0 e σ H Q
def tTz (k : PySem.W.Frag) (e : TM) : TT := fun σ H Q => ∃ zz, tT (k, zz) W0 e σ H Q
/-- a target of a block: its slots are of the block -/
def gSw (vs : List Nat) (K : KZ) (g : GM) : TG := fun v σ H Q => ∃ m ρ d ρ', EnR K m H ρ σ ∧ Rep K m H d v ∧ g d ρ = some ρ' ∧ ∀ σ', EnR K m H ρ' σ' → wipe σ' vs = wipe σ vs → Q σ' H
def gsSw (vs : List Nat) (K : KZ) (g : GMs) : TGs := fun xs σ H Q => ∃ m ρ ds ρ', EnR K m H ρ σ ∧ RepL K m H ds xs ∧ g ds ρ = some ρ' ∧ ∀ σ', EnR K m H ρ' σ' → wipe σ' vs = wipe σ vs → Q σ' H
def gSz (vs : List Nat) (k : PySem.W.Frag) (g : GM) : TG := fun v σ H Q => ∃ zz, gSw vs (k, zz) g v σ H Q
theorem wipe_get (σ : St) (j : Nat) : ∀ vs : List Nat, (wipe σ vs)[j]? = if j ∈ vs then (σ[j]?).map (fun _ => none) else σ[j]?
  | [] => by simp [wipe]
  | v :: vs => by
    unfold wipe
    rw [List.getElem?_set]
    by_cases e : v = j
    · subst e
      by_cases hl : v < (wipe σ vs).length
      · rw [wipe_length] at hl
        simp [wipe_length, hl]
      · rw [wipe_length] at hl
        simp [wipe_length, hl]
    · rw [if_neg e, wipe_get σ j vs]
      have e' : ¬ j = v := fun q => e q.symm
      simp [e']
theorem wipe_eq {σ σ' : St} {vs : List Nat} (h : ∀ j, j ∉ vs → σ'[j]? = σ[j]?) (hl : σ'.length = σ.length) : wipe σ' vs = wipe σ vs := by
  apply List.ext_getElem?
  intro j
  rw [wipe_get, wipe_get]
  by_cases e : j ∈ vs
  · rw [if_pos e, if_pos e]
    by_cases c : j < σ.length
    · rw [List.getElem?_eq_getElem c, List.getElem?_eq_getElem (hl ▸ c)]; rfl
    · rw [List.getElem?_eq_none (by omega), List.getElem?_eq_none (by omega)]
  · rw [if_neg e, if_neg e]; exact h j e
theorem wipe_set {σ : St} {vs : List Nat} {i : Nat} {v : Option V} (h : i ∈ vs) : wipe (σ.set i v) vs = wipe σ vs :=
  wipe_eq (fun j hj => by rw [List.getElem?_set_ne (show i ≠ j from fun e => hj (by subst e; exact h))]) (by simp)
theorem wipe_wipe {σ : St} {vs : List Nat} : wipe (wipe σ vs) vs = wipe σ vs :=
  wipe_eq (fun j hj => by rw [wipe_get, if_neg hj]) (wipe_length _ _)
theorem PE.anyz {X : Cx} {e : Expr} {de : EM} (h : ∀ zz, PE X e (tE (X.K, zz) W0 de)) : PE X e (tEz X.K de) := ⟨fun pins s σ H Q I ⟨zz, q⟩ => (h zz).run pins s σ H Q I q⟩
theorem PTs.anyz {X : Cx} {e : List Expr} {de : TM} (h : ∀ zz, PTs X e (tT (X.K, zz) W0 de)) : PTs X e (tTz X.K de) := ⟨fun pins s σ H Q I ⟨zz, q⟩ => (h zz).run pins s σ H Q I q⟩
theorem PG.anyz {X : Cx} {e : Expr} {g : GM} {vs : List Nat} (h : ∀ zz, PG X e (gSw vs (X.K, zz) g)) : PG X e (gSz vs X.K g) := ⟨fun pins s σ H v u Q I r ⟨zz, q⟩ => (h zz).run pins s σ H v u Q I r q⟩
section
variable {zz : List Addr} {X : Cx} {W : WX} {e : Expr} {es : List Expr} {pos : Pos} {bs : List Nat}
theorem gw_name {i : Nat} {x : Str} (hN : X.N.Nodup) (hi : X.N[i]? = some x := by rfl) (hb : i ∈ bs := by decide) (hx : Loc X.env.scope x := by first | exact Or.inl rfl | exact Or.inr rfl) (hf : X.fn x = true ∨ X.env.scope.names.lookup x = some .local := by first | exact .inl rfl | exact .inr rfl | assumption) : PG X (.Name x pos) (gSw bs (X.K, zz) (gSet i)) := by
  refine ⟨fun pins s σ H v u Q I r ⟨m, ρ, d, ρ', hE, hd, hg, hQ⟩ => (pg_name hN hi hx hf).run pins s σ H v u Q I r ?_⟩
  cases hg
  exact hQ _ (hE.set hd i) (wipe_set hb)
theorem gws_nil : PGs X [] (gsSw bs (X.K, zz) QS.gNil) := by
  refine ⟨fun pins s σ H vs us Q I r ⟨m, ρ, ds, ρ', hE, hd, hg, hQ⟩ => pgs_nil.run pins s σ H vs us Q I r ?_⟩
  cases hd with
  | nil => cases hg; exact ⟨rfl, hQ _ hE rfl⟩
  | cons _ _ => cases hg
theorem gws_cons {g : GM} {gs : GMs} (h1 : PG X e (gSw bs (X.K, zz) g)) (h2 : PGs X es (gsSw bs (X.K, zz) gs)) (hs : (assignEach (e :: es) X.env).map (·.2) = assign e X.env :: (assignEach es X.env).map (·.2) := by rfl) : PGs X (e :: es) (gsSw bs (X.K, zz) (QS.gCons g gs)) := by
  refine ⟨fun pins s σ H vs us Q I r ⟨m, ρ, ds, ρ', hE, hd, hg, hQ⟩ => (pgs_cons h1 h2 hs).run pins s σ H vs us Q I r ?_⟩
  cases hd with
  | nil => cases hg
  | @cons d v ds' vs' hd hr =>
    have hg : ((g d ρ).bind fun ρ' => gs ds' ρ') = some ρ' := hg
    obtain ⟨ρ1, q1, q2⟩ := Option.bind_eq_some_iff.mp hg
    exact ⟨v, vs', rfl, m, ρ, d, ρ1, hE, hd, q1, fun σ1 E1 w1 => ⟨m, ρ1, ds', ρ', E1, hr, q2, fun σ2 E2 w2 => hQ σ2 E2 (w2.trans w1)⟩⟩
theorem gw_tup {k : Nat} {gs : GMs} {n : Nat} (h : PGs X es (gsSw bs (X.K, zz) gs)) (hc : X.calm = true := by rfl) (hn : (assignEach es X.env).length = n := by rfl) (hst : (assignEach es X.env).findIdx? (·.1) = none := by rfl) : PG X (.Tuple es k pos) (gSw bs (X.K, zz) (QS.gTup n gs)) := by
  refine ⟨fun pins s σ H v u Q I r ⟨m, ρ, d, ρ', hE, hd, hg, hQ⟩ => (pg_tup hc h hn hst).run pins s σ H v u Q I r ?_⟩
  cases hd with
  | @tup a l vs h1 q1 =>
    have hg : (if l.length = n then gs l ρ else none) = some ρ' := hg
    by_cases z : l.length = n
    · rw [if_pos z] at hg
      exact ⟨a, vs, rfl, h1, by rw [← q1.length]; exact z, m, ρ, l, ρ', hE, q1, hg, hQ⟩
    · rw [if_neg z] at hg; cases hg
  | _ => cases hg
end
/-- the reading of a comprehension -/
theorem lc_read {k : PySem.W.Frag} {zz : List Addr} {W : WX} {di : IM} {g : GM} {dt : TM} {de : EM} {mu : Bool} {vs : List Nat} {σ : St} {H : Hp} {Q : VK}
    (h : tE (k, zz) W (eLc mu vs di g dt de) σ H Q) : tLc (iS (k, zz) W di) (gSz vs k g) (tTz k dt) (tEz k de) vs σ H Q := by
  obtain ⟨m, ρ, s, hE, hS, hG⟩ := h
  refine ⟨m, ρ, s, hE, hS, ?_⟩
  unfold eLc at hG
  have hb := Good.bind (rel := fun _ _ (a b : Items) => True) (β := Items) hG
  cases e0 : di ρ s with
  | stuck => rw [e0] at hb; exact hb
  | exn x s1 => rw [e0] at hb; exact hb
  | ok it s1 =>
    rw [e0] at hb
    intro m1 H1 J e1 S1 w D hD
    clear hb
    unfold bnd at hG
    rw [e0] at hG
    simp only at hG
    by_cases hsz : it.l.length ≤ sizeLine
    · rw [if_pos hsz] at hG
      -- the hidden list
      have C0 : Chg k zz m1 H1 (D :: zz) m1 (upd H1 D (.lst [])) := chg_hide hD
      have E1 : EnR (k, zz) m1 H1 ρ σ := hE.ext hS.noTup e1
      have nD : D ∉ m1 ∧ D ∉ zz := fresh_notin S1 hD
      refine ⟨fun i n Hi => n = it.l.length - i ∧ i ≤ it.l.length ∧ ∃ m2 s2 acc ds, Ext m1 H1 m2 Hi ∧ Hi D = some (.lst acc) ∧ acc.length = ds.length ∧ ds.length ≤ i ∧ RepL (k, D :: zz) m2 Hi ds acc ∧ StR (k, D :: zz) m2 Hi s2 ∧ (∀ n, it.gd = some n → s2[n]? = s1[n]?) ∧
          ∃ rest s3, lcL g dt de it.gd s1 (wipeD ρ vs) (it.l.drop i) s2 = .ok rest s3 ∧ GoodV (k, zz) m H Q (new mu (ds ++ rest) s3), ?_, ?_⟩
      · cases e2 : lcL g dt de it.gd s1 (wipeD ρ vs) it.l s1 with
        | stuck => rw [e2] at hG; exact hG.elim
        | exn x s3 => exact absurd e2 (lcL_noexn _ _ _ _)
        | ok rest s3 =>
          rw [e2] at hG
          exact ⟨_, rfl, Nat.zero_le _, m1, s1, [], [], Ext.same (same_upd hD), upd_same, rfl, Nat.zero_le _, .nil, str_hide S1 hD, fun _ _ => rfl, rest, s3, by simpa using e2, by simpa using hG.lift⟩
      · rintro i n H2 ⟨rfl, hi, m2, s2, acc, ds, f2, hDl, hal, hdl, rds, S2, gd2, rest, s3, er, G⟩
        obtain ⟨go, stop, yld⟩ := w (D :: zz) m2 H2 s2 (fun p hp => by
          rcases List.mem_cons.mp hp with hp | hp
          · exact .inr (by rw [hp]; exact hD)
          · exact .inl hp) f2 S2 gd2
        have hz0 : D ∈ D :: zz := List.mem_cons_self
        by_cases hlt : i < it.l.length
        · refine .inr ⟨go i hlt, fun H' => i + 1 ≤ it.l.length ∧ ∃ m2 s2 acc ds, Ext m1 H1 m2 H' ∧ H' D = some (.lst acc) ∧ acc.length = ds.length ∧ ds.length ≤ i + 1 ∧ RepL (k, D :: zz) m2 H' ds acc ∧ StR (k, D :: zz) m2 H' s2 ∧ (∀ n, it.gd = some n → s2[n]? = s1[n]?) ∧
              ∃ rest s3, lcL g dt de it.gd s1 (wipeD ρ vs) (it.l.drop (i + 1)) s2 = .ok rest s3 ∧ GoodV (k, zz) m H Q (new mu (ds ++ rest) s3),
            fun H' ⟨hl, q⟩ => ⟨it.l.length - (i + 1), by omega, rfl, hl, q⟩, fun x H3 hy => ?_⟩
          obtain ⟨sm, rx⟩ := yld i it.l[i] x H3 (List.getElem?_eq_getElem hlt) hy
          have f3 : Ext m2 H2 m2 H3 := Ext.same sm
          have hD3 : H3 D = some (.lst acc) := sm _ _ hDl
          have S3 := S2.same sm
          rw [List.drop_eq_getElem_cons hlt] at er
          unfold lcL at er
          have EW : EnR (k, D :: zz) m2 H3 (wipeD ρ vs) (wipe σ vs) := ((E1.chg (chg_ext S1.noTup (fun p hp => by
            rcases List.mem_cons.mp hp with hp | hp
            · exact .inr (by rw [hp]; exact hD)
            · exact .inl hp) (f2.trans f3))).wipe vs)
          cases eg : g it.l[i] (wipeD ρ vs) with
          | none => simp only [eg] at er; cases er
          | some ρ1 =>
            simp only [eg] at er
            refine ⟨D :: zz, m2, wipeD ρ vs, it.l[i], ρ1, EW, rx, eg, fun σ1 E3 hwp => ⟨hwp.trans wipe_wipe, D :: zz, m2, ρ1, s2, E3, S3, ?_⟩⟩
            cases et : dt ρ1 s2 with
            | stuck => simp only [et] at er; cases er
            | exn x s' => simp only [et] at er; cases er
            | ok b s4 =>
              simp only [et] at er
              intro m4 H4 b' f4 S4 eb
              subst eb
              have hD4 : H4 D = some (.lst acc) := f4.keep D _ hD3 (S3.hid D hz0).2
              have rds4 : RepL (k, D :: zz) m4 H4 ds acc := RepL.ext S3.noTup f4 (RepL.ext S2.noTup f3 rds)
              cases b with
              | false =>
                simp only [Bool.false_eq_true, if_false] at er ⊢
                by_cases c : ∀ n, it.gd = some n → s4[n]? = s1[n]?
                · rw [if_pos c] at er
                  exact ⟨hlt, m4, s4, acc, ds, f2.trans (f3.trans f4), hD4, hal, by omega, rds4, S4, c, rest, s3, er, G⟩
                · rw [if_neg c] at er; cases er
              | true =>
                simp only [if_true] at er ⊢
                refine ⟨D :: zz, m4, ρ1, s4, E3.ext S3.noTup f4, S4, ?_⟩
                cases ee : de ρ1 s4 with
                | stuck => simp only [ee] at er; cases er
                | exn x s' => simp only [ee] at er; cases er
                | ok y s5 =>
                  simp only [ee] at er
                  intro m5 H5 u f5 S5 ry
                  have hD5 : H5 D = some (.lst acc) := f5.keep D _ hD4 (S4.hid D hz0).2
                  have rds5 : RepL (k, D :: zz) m5 H5 ds acc := RepL.ext S4.noTup f5 rds4
                  refine ⟨acc, hD5, by rw [hal]; omega, ?_⟩
                  have CU : Chg k (D :: zz) m5 H5 (D :: zz) m5 (upd H5 D (.lst (acc ++ [u]))) := chg_hupd hD5 hz0
                  have FU : Ext m1 H1 m5 (upd H5 D (.lst (acc ++ [u]))) := by
                    have f := f2.trans (f3.trans (f4.trans f5))
                    refine ⟨f.more, fun a o h na => ?_, fun a h => ?_⟩
                    · rw [upd_ne (fun e => by subst e; rw [hD] at h; cases h)]
                      exact f.keep a o h na
                    · by_cases e : a = D
                      · subst e; rw [upd_same]; exact fun z => by cases z
                      · rw [upd_ne e]; exact f.there a h
                  by_cases c : ∀ n, it.gd = some n → s5[n]? = s1[n]?
                  · rw [if_pos c] at er
                    unfold bnd at er
                    cases el : lcL g dt de it.gd s1 (wipeD ρ vs) (it.l.drop (i + 1)) s5 with
                    | stuck => rw [el] at er; cases er
                    | exn x s' => rw [el] at er; cases er
                    | ok ys s6 =>
                      rw [el] at er
                      cases er
                      refine ⟨hlt, m5, s5, acc ++ [u], ds ++ [y], FU, upd_same, by simp [hal], by simp; omega, ?_, str_hupd S5 hD5 hz0, c, ys, s3, el, by simpa using G⟩
                      exact (RepL.chg CU rds5).append (.cons (ry.chg CU) .nil)
                  · rw [if_neg c] at er; cases er
        · have ei : i = it.l.length := by omega
          subst ei
          refine .inl ⟨stop, ?_⟩
          rw [List.drop_length] at er
          unfold lcL at er
          cases er
          rw [List.append_nil] at G
          have FE : Ext m H m2 H2 := e1.trans f2
          cases mu with
          | false =>
            exact G m2 H2 _ FE (str_show S2) (.lst ⟨(S2.hid D hz0).2, nD.2⟩ hDl (RepL.chg chg_show rds))
          | true =>
            have G : GoodV (k, zz) m H Q (some (.loc s2.length, s2 ++ [.lst ds])) := G
            have FI : Ext m1 H1 (m2 ++ [D]) H2 := by
              obtain ⟨t, ht, hn⟩ := f2.more
              refine ⟨⟨t ++ [D], by rw [ht]; simp, fun a ha => ?_⟩, f2.keep, f2.there⟩
              rcases List.mem_append.mp ha with ha | ha
              · exact hn a ha
              · simp at ha; subst ha; exact hD
            refine G (m2 ++ [D]) H2 _ (e1.trans FI) (str_in nD.2 S2 ⟨acc, hDl, RepL.chg chg_in rds⟩) (.loc ?_)
            rw [← S2.len]
            simp
    · rw [if_neg hsz] at hG; exact hG.elim
section
variable {zz : List Addr} {X : Cx} {W : WX} {elt tg iter : Expr} {ifs : List Expr} {scope : Scope} {pos spos : Pos} {di : IM} {g : GM} {dt : TM} {de : EM}
/-- a block's context -/
abbrev Blk (X : Cx) (scope : Scope) (f : Cx → Prop) : Prop := ∀ (s : Shared) (H : Hp) (C : Addr) (cl : List (Str × Addr)) (fp : List Addr), f (X.blk s H scope (compEnvC scope cl C X.env) fp)
theorem takes0 (X : Cx) : Takes X W0 := fun u s' ⟨a, B, sI, pins, σ, H, cls, d, e, I, nb, up, sky, na, os, ag, w⟩ => w.elim
theorem se_lc (mu : Bool) (own : List (Str × Nat)) (hN : X.N.Nodup) (hi : PI X tg iter (iS (X.K, zz) W di)) (ok : BlkOk X.N X.env.scope scope own)
    (hg : Blk X scope fun Y => ∀ zz, PG Y tg (gSw (own.map (·.2)) (Y.K, zz) g)) (ht : Blk X scope fun Y => ∀ zz, PTs Y ifs (tT (Y.K, zz) W0 dt)) (he : Blk X scope fun Y => ∀ zz, PE Y elt (tE (Y.K, zz) W0 de)) (hc : X.calm = true := by rfl) (hs : ∀ x, foldedSetIterable iter X.env x = pure x := by intro _; rfl) :
    PE X (.ListComp elt [⟨tg, iter, ifs, 0⟩] scope pos) (tE (X.K, zz) W (eLc mu (own.map (·.2)) di g dt de)) :=
  PE.imp (pe_lc hc hN hi ok (fun s H C cl fp => PG.anyz (hg s H C cl fp)) (fun s H C cl fp => PTs.anyz (ht s H C cl fp)) (fun s H C cl fp => PE.anyz (he s H C cl fp)) hs) fun _ _ _ h => lc_read h
theorem s_setLc (mu : Bool) (own : List (Str × Nat)) {i : Nat} {y : Str} {py : Pos} (hN : X.N.Nodup) (hi : PI X tg iter (iS (X.K, zz) W di)) (ok : BlkOk X.N X.env.scope scope own)
    (hg : Blk X scope fun Y => ∀ zz, PG Y tg (gSw (own.map (·.2)) (Y.K, zz) g)) (ht : Blk X scope fun Y => ∀ zz, PTs Y ifs (tT (Y.K, zz) W0 dt)) (he : Blk X scope fun Y => ∀ zz, PE Y elt (tE (Y.K, zz) W0 de))
    (hy : X.N[i]? = some y := by rfl) (hyl : X.env.scope.names.lookup y = some .local := by rfl) (hsw : swapsWith (.ListComp elt [⟨tg, iter, ifs, 0⟩] scope pos) (some (.Name y py)) spos.line X.env = pure true := by rfl) (hc : X.calm = true := by rfl) (hs : ∀ x, foldedSetIterable iter X.env x = pure x := by intro _; rfl) :
    PS X (.Assign [.Name y py] (.ListComp elt [⟨tg, iter, ifs, 0⟩] scope pos) spos) (tS (X.K, zz) W (sSet i (eLc mu (own.map (·.2)) di g dt de))) :=
  PS.imp (ps_setLc hc hN hy hyl hsw hi ok (fun s H C cl fp => PG.anyz (hg s H C cl fp)) (fun s H C cl fp => PTs.anyz (ht s H C cl fp)) (fun s H C cl fp => PE.anyz (he s H C cl fp)) hs) fun D σ H ⟨m, ρ, s, hE, hS, hG⟩ =>
    lc_read ⟨m, ρ, s, hE, hS, (GoodS.ofE hS hE hG).mono fun v H1 ⟨m1, a, s1, e1, S1, q1, E1, g1⟩ => g1 m1 H1 _ Ext.refl S1 (E1.set q1 i)⟩
end
end QS
end

section
set_option Elab.async false
set_option linter.all false
set_option maxRecDepth 100000
set_option maxHeartbeats 4000000
/-! QS7: enumerate, zip, isinstance, fields, instances, methods. -/
namespace QS
open PySem PySem.Spec PyProof.Rows L2
open Sem (wp)
/-! ### enumerate(tuple) -/
def Itet (K : PySem.W.Frag) (a : Addr) : It :=
  ⟨fun i H => ∃ (xs : List V) (x : V), SqT K H a xs ∧ xs[i]? = some x, fun i H v H' => ∃ T x, v = .ref T ∧ H T = none ∧ H' = upd H T (.tup [.int (i : Nat), x]) ∧ ∀ xs, SqT K H a xs → xs[i]? = some x, fun i H => ∃ xs : List V, SqT K H a xs ∧ xs.length ≤ i⟩
theorem turn_enumT {P : Program} {w : World} {K : PySem.W.Frag} {elts : List Expr} {kk : Nat} {tpos : Pos} (a e it : Addr) :
    Turn P w K (.Tuple elts kk tpos) (Itet K a) [e, it] e (fun i h => (∃ old, IsEnum h e it ((i : Nat) : Int) old) ∧ h.IsTupleIter it a i ∧ e ≠ it) where
  mem := by simp
  obj := fun i h st b hb => by
    obtain ⟨⟨old, he⟩, ⟨o, ho, hc, hd⟩, _⟩ := st
    have e' : b = e ∨ b = it := by simpa using hb
    rcases e' with z | z
    · rw [z]; exact ⟨_, he, fun v q => nomatch q⟩
    · rw [z]; exact ⟨o, ho, fun v q => by rw [hd] at q; cases q⟩
  keep := fun i h h' st k => let ⟨⟨old, he⟩, hi, hne⟩ := st; ⟨⟨old, k e (by simp) _ he⟩, hi.at fun o q => k it (by simp) o q, hne⟩
  item := by
    intro X hP hw hK hc i pins s σ H E I hf st hg
    subst hP hw hK
    obtain ⟨⟨old, he⟩, hit, hne⟩ := st
    obtain ⟨xs, x, hq, hx⟩ := hg
    obtain ⟨its, rv, p, hz⟩ := I.tuple hq
    obtain ⟨u, hu, ru⟩ := rv.get hx
    have hel : e < s.heap.objs.size := Heap.lt_size he
    have hil : it < s.heap.objs.size := by obtain ⟨_, q, _⟩ := hit; exact Heap.lt_size q
    have hT : s.heap.IsTuple a its.toArray := p
    have hae : e ≠ a := fun z => by
      obtain ⟨o, ho, hc', _⟩ := hT
      rw [← z, he] at ho
      cases ho
      exact absurd hc' (by simp)
    have hai : a ≠ it := fun z => by
      obtain ⟨o, ho, hc', _⟩ := hT
      obtain ⟨o2, ho2, hc2, _⟩ := hit
      rw [z, ho2] at ho
      cases ho
      rw [hc2] at hc'
      exact absurd hc' (by simp)
    have hi2 : i < its.toArray.size := by
      have := (List.getElem?_eq_some_iff.mp hu).1
      simpa using this
    refine wpAny_pyNext_enum_itemD (Draws.tuple (A := X.A.in1) (I.ok.hd hc) it a hai its.toArray) he ⟨hit, hT⟩ hi2 hne (by simp only [List.mem_cons, List.not_mem_nil, or_false, not_or]; exact ⟨hne, hae⟩) fun x' h' tk hP ho hst hT1 hsz hk => ?_
    obtain rfl : x' = u := by
      rw [show its.toArray[i]? = some u by simpa using hu] at hP
      cases hP
      rfl
    refine ⟨_, rfl, wpAny_letOwnedTupleGo_enum (s := { s with heap := h', toks := tk + 1 }) ho fun h'' he' sb => ?_⟩
    have hT2 : h''.get? s.heap.objs.size = some { cls := .type "tuple", data := .seq #[.int i tk, x'] } := (sb.2 _ (Nat.ne_of_gt hel)).trans hT1
    have new : ObjOk X.prog X.w (upd H s.heap.objs.size (.tup [.int (i : Nat), x])) h'' s.heap.objs.size (.tup [.int (i : Nat), x]) :=
      ⟨by show 2 ≤ sizeLine; decide, [.int i tk, x'], .cons ⟨_, rfl⟩ (.cons ru .nil), ⟨_, hT2, rfl, _, rfl⟩⟩
    have I1 : Inv X pins σ (upd H s.heap.objs.size (.tup [.int (i : Nat), x])) { s with heap := h'', toks := tk + 1 } :=
      I.turnedNew (ch := [e, it]) (fun b ob hb q => (sb.2 b (fun z => hb (by simp [z]))).trans (hk b ob (fun z => hb (by simp [z])) (fun z => hb (by simp [z])) q)) hf (Nat.le_refl _) new
    refine ⟨.ref s.heap.objs.size, _, I1, rfl, ⟨_, x, rfl, I.hok.fresh (Nat.le_refl _), rfl, fun ys hy => by rw [I.tuple_inj hy hq]; exact hx⟩, ⟨⟨x', ?_⟩, hst.1.at fun o q => (sb.2 it (Ne.symm hne)).trans q, hne⟩, fun b hb => ?_⟩
    · have e1 : ((i + 1 : Nat) : Int) = (i : Int) + 1 := by omega
      rw [e1]; exact he'
    · have hb' : b < s.heap.objs.size := by
        have e' : b = e ∨ b = it := by simpa using hb
        rcases e' with z | z
        · rw [z]; exact hel
        · rw [z]; exact hil
      rw [upd_ne (Nat.ne_of_lt hb')]
      exact (hf b hb).1
  done := by
    intro X hP hw hK hc i pins s σ H E I hf st hg
    subst hP hw hK
    obtain ⟨⟨old, he⟩, hit, hne⟩ := st
    obtain ⟨xs, hq, hx⟩ := hg
    obtain ⟨its, rv, p, hz⟩ := I.tuple hq
    obtain ⟨f0, f1, f2, f3, f4, f5⟩ := hf it (by simp)
    have hl := rv.length
    have hT : s.heap.IsTuple a its.toArray := p
    have hT0 : s.TypeIs (.ref e) "enumerate" := ⟨_, he, rfl⟩
    unfold pyNext
    refine wpAny_bind (wpAny_attempt (wpAny_callSpecial?_slot (name := Str.ofString "__next__") hT0 F.slot_enumerate_next
      (wpAny_call_entry F.slot_enumerate_next hT0 F.entry_enumerate_next ?_ (F.args_enumerate_next_1 _))))
    show wpAny _ _ (field (.ref e) 2 >>= _) _ _ _
    refine wpAny_bind (wpAny_field he rfl (x := .ref it) rfl ?_)
    refine wpAny_bind (wpAny_nextOf_tuple_end (I.ok.hd hc) hit hT (by simp; omega) fun h' x he' hx' => ?_)
    obtain ⟨o, ho, hc⟩ := hx'
    refine wpAny_bind (wpAny_isInstance (T := "StopIteration") (b := true) ⟨o, ho, hc⟩ isSubtype_stop ?_)
    exact wpAny_pure ⟨rfl, I.turned (t' := s.toks) (fun b o hb q => he' b o hb q) f0 f1 f3 f4 f5⟩
  self := fun A i s Q E st h => let ⟨⟨_, he⟩, _⟩ := st; wpAny_pyIter_enum he h
set_option maxHeartbeats 1000000 in
theorem meets_enum_new1 {v : Value} {o : Obj} {H : Heap → Prop} (B : Begins v o H) :
    Meets (Builtin.«enumerate.__new__» ⟨[.type "enumerate", v], []⟩) (fun _ R s => H s.heap ∧
      R (.ok (.ret (.ref (s.heap.push o).objs.size))) { s with heap := (s.heap.push o).push { cls := .type "enumerate", data := .fields #[.none, .bool false, .ref s.heap.objs.size, rawInt 0, .none, .none] } }) :=
  .of_wp fun prog w A R s h => by
    obtain ⟨hp, g, d, tk, os⟩ := s; obtain ⟨h1, h⟩ := h
    have hsub := sub_enumerate
    have q1 : ∀ {A' : Around} {E : Value → Shared → Prop} {Q : Value → Shared → Prop}, Q (.ref hp.objs.size) ⟨hp.push o, g, d, tk, os⟩ → wpAny (model prog w) A' (pyIter v) Q E ⟨hp, g, d, tk, os⟩ :=
      fun q => B.iter prog w _ _ ⟨hp, g, d, tk, os⟩ _ h1 q
    wp_walk using q1
    refine wpAny_stack_any fun st => wpAny_pure ?_
    split
    · rename_i c _ _ _ _ _
      cases (c == Value.type "enumerate")
      · wp_walk using q1
        exact ⟨_, rfl, h⟩
      · wp_walk using q1
        exact ⟨_, rfl, h⟩
    · wp_walk using q1
      exact ⟨_, rfl, h⟩
theorem call_enumT {prog : Program} {w : World} {A : Around} {E : Value → Shared → Prop} {s : Shared} {a : Addr} {items : Array Value} {Q : Value → Shared → Prop} (hT : s.heap.IsTuple a items)
    (h : ∀ h', IsEnum h' (s.heap.objs.size + 1) s.heap.objs.size 0 .none → h'.IsTupleIter s.heap.objs.size a 0 → h'.objs.size = s.heap.objs.size + 2 →
      (∀ b o, s.heap.get? b = some o → h'.get? b = some o) → Q (.ref (s.heap.objs.size + 1)) { s with heap := h' }) :
    wpAny (model prog w) A (call (.type "enumerate") [.ref a]) Q E s := by
  refine callType_new F.called_enumerate (by decide) (F.typeCall_enumerate_1 _) (F.newCall_enumerate_1 _) (fun obj => F.args_object_init_2 obj _) F.entry_enumerate_new
    (meets_enum_new1 (begins_tuple a items)) ⟨hT, ?_⟩
  have hz : (s.heap.push { cls := .type "tuple_iterator", data := .fields #[.ref a, .int 0 0] }).objs.size = s.heap.objs.size + 1 := Heap.size_push ..
  show _ ∧ _
  rw [hz]
  have he : IsEnum ((s.heap.push { cls := .type "tuple_iterator", data := .fields #[.ref a, .int 0 0] }).push
      { cls := .type "enumerate", data := .fields #[.none, .bool false, .ref s.heap.objs.size, rawInt 0, .none, .none] }) (s.heap.objs.size + 1) s.heap.objs.size 0 .none := by
    have := Heap.get?_push_size (s.heap.push { cls := .type "tuple_iterator", data := .fields #[.ref a, .int 0 0] })
      (o := { cls := .type "enumerate", data := .fields #[.none, .bool false, .ref s.heap.objs.size, rawInt 0, .none, .none] }) rfl
    rw [hz] at this; exact this
  refine ⟨⟨_, he, rfl⟩, h _ he ⟨_, Heap.get?_push_of_some _ (Heap.get?_push_size _ rfl), rfl, rfl⟩ (by rw [Heap.size_push, hz]) fun b o x => Heap.get?_push_of_some _ (Heap.get?_push_of_some _ x)⟩
def iEnumA (K : PySem.W.Frag) (ta : TA) : TI := fun σ H R => ta σ H fun vs H1 => ∃ a, vs = [.ref a] ∧ ((∃ xs, SqL K H1 a xs ∧ R (Ite K a) H1) ∨ (∃ xs, SqT K H1 a xs ∧ R (Itet K a) H1))
theorem pi_enumA {X : Cx} {e : Expr} {ta : TA} {p pos tpos : Pos} {elts : List Expr} {kk : Nat} (hg : Gl X "enumerate") (hm : X.mg "enumerate" = none) (ha : PA X [e] ta) (hs : starEach [e] X.env = [(false, eval e X.env)] := by rfl) :
    PI X (.Tuple elts kk tpos) (.Call (.Name "enumerate" p) [e] [] pos) (iEnumA X.K ta) := by
  refine ⟨fun pins s σ H R I h => ?_⟩
  refine Call_ (ld_blt I hg hm boot_enumerate (PyProof.Rows.callWith_type1 (thn (ha.run pos pins s σ H _ I h) fun us s1 ⟨vs, H1, I1, r1, q1⟩ => ?_) hs rfl))
  obtain ⟨a, ex, q⟩ := q1
  subst ex
  cases r1 with
  | cons r rr =>
    cases rr
    cases r
    have fin : ∀ b ∈ [s1.heap.objs.size + 1, s1.heap.objs.size], FpOk X pins H1 b := fun b hb => by
      have e' : b = s1.heap.objs.size + 1 ∨ b = s1.heap.objs.size := by simpa using hb
      have hle : s1.heap.objs.size ≤ b := by
        rcases e' with z | z
        · rw [z]; exact Nat.le_add_right _ _
        · rw [z]; exact Nat.le_refl _
      exact I1.fpOk hle (I1.hok.fresh hle)
    rcases q with ⟨xs, hq, q⟩ | ⟨xs, hq, q⟩
    · obtain ⟨its, rv, p', hz⟩ := I1.list hq
      refine call_enumerate_list p'.isList fun h' he hit hsz hk => wpAny_pyIter_enum he ?_
      have I2 : Inv X pins σ H1 { s1 with heap := h' } := I1.kept (t' := s1.toks) hk
      exact ⟨s1.heap.objs.size + 1, [s1.heap.objs.size + 1, s1.heap.objs.size], _, _, H1, rfl, I2, turn_enum a (s1.heap.objs.size + 1) s1.heap.objs.size, ⟨⟨.none, he⟩, hit, Nat.succ_ne_self _⟩, fin, q⟩
    · obtain ⟨its, rv, p', hz⟩ := I1.tuple hq
      refine call_enumT (show s1.heap.IsTuple a its.toArray from p') fun h' he hit hsz hk => wpAny_pyIter_enum he ?_
      have I2 : Inv X pins σ H1 { s1 with heap := h' } := I1.kept (t' := s1.toks) hk
      exact ⟨s1.heap.objs.size + 1, [s1.heap.objs.size + 1, s1.heap.objs.size], _, _, H1, rfl, I2, turn_enumT a (s1.heap.objs.size + 1) s1.heap.objs.size, ⟨⟨.none, he⟩, hit, Nat.succ_ne_self _⟩, fin, q⟩
def numD (l : List D) : List D := l.mapIdx fun i d => .tup [.int (i : Nat), d]
def itAny (x : D) : V1 Items := fun s => match itSeq x s with
  | some r => some r
  | none => itTup x s
def itEnum (xs : List D) : V1 Items := fun s => match xs with
  | [x] => (itAny x s).map fun p => (⟨numD p.1.l, p.1.gd⟩, p.2)
  | _ => none
/-- a sequence that walks stand over: its items as long as the guard stands -/
inductive SeqW (K : KZ) (m : List Addr) (s : Sto) (it : Items) (H : Hp) (a : Addr) : Prop
  | l (xs : List V) (h0 : SqL K.1 H a xs) (h : ∀ zz m1 H1 s1, (∀ p ∈ zz, p ∈ K.2 ∨ H p = none) → Ext m H m1 H1 → StR (K.1, zz) m1 H1 s1 → (∀ n, it.gd = some n → s1[n]? = s[n]?) → ∃ vs, SqL K.1 H1 a vs ∧ RepL (K.1, zz) m1 H1 it.l vs)
  | t (xs : List V) (h0 : SqT K.1 H a xs) (h : ∀ zz m1 H1 s1, (∀ p ∈ zz, p ∈ K.2 ∨ H p = none) → Ext m H m1 H1 → StR (K.1, zz) m1 H1 s1 → (∀ n, it.gd = some n → s1[n]? = s[n]?) → ∃ vs, SqT K.1 H1 a vs ∧ RepL (K.1, zz) m1 H1 it.l vs)
theorem itAny_at {K : KZ} {m : List Addr} {H : Hp} {d : D} {v : V} {s s' : Sto} {it : Items} (S : StR K m H s) (r : Rep K m H d v) (h : itAny d s = some (it, s')) : s' = s ∧ ∃ a, v = .ref a ∧ SeqW K m s it H a := by
  obtain ⟨K, z⟩ := K
  cases r with
  | @lst a ds vs n e q =>
    cases h
    exact ⟨rfl, a, rfl, .l vs (.inl (.inl e)) fun zz1 m2 H2 s3 hz f S3 _ => ⟨vs, .inl (.inl (f.keep a _ e n.1)), q.chg (chg_ext S.noTup hz f)⟩⟩
  | @scr a ds vs e q =>
    cases h
    exact ⟨rfl, a, rfl, .l vs e.l fun zz1 m2 H2 s3 hz f S3 _ => ⟨vs, (SqF.ext (K := (K, z)) S.noTup f e).l, q.chg (chg_ext S.noTup hz f)⟩⟩
  | @tup a ds vs e q =>
    cases h
    exact ⟨rfl, a, rfl, .t vs e fun zz1 m2 H2 s3 hz f S3 _ => ⟨vs, SqT.ext (K := (K, z)) S.noTup f e, q.chg (chg_ext S.noTup hz f)⟩⟩
  | @loc n a e =>
    have h : (match (match s[n]? with
        | some (.lst l) => some ((⟨l, some n⟩ : Items), s)
        | _ => none) with
      | some r => some r
      | none => none) = some (it, s') := h
    cases zq : s[n]? with
    | none => rw [zq] at h; cases h
    | some o =>
      rw [zq] at h
      cases o with
      | lst l =>
        cases h
        obtain ⟨vs, h1, h2⟩ := S.obj n a _ e zq
        refine ⟨rfl, a, rfl, .l vs (.inl (.inl h1)) fun zz1 m2 H2 s3 hz f S3 g => ?_⟩
        obtain ⟨us, h3, h4⟩ := S3.obj n a (.lst l) (f.loc e) (by rw [g n rfl]; exact zq)
        exact ⟨us, .inl (.inl h3), h4⟩
      | _ => cases h
  | _ => cases h
theorem numD_get {l : List D} {i : Nat} {d : D} (h : (numD l)[i]? = some d) : ∃ x, l[i]? = some x ∧ d = .tup [.int (i : Nat), x] := by
  unfold numD at h
  rw [List.getElem?_mapIdx] at h
  obtain ⟨x, h1, h2⟩ := Option.map_eq_some_iff.mp h
  exact ⟨x, h1, h2.symm⟩
theorem pair_rep {K : KZ} {m : List Addr} {H : Hp} {T : Addr} {x y : D} {v u : V} {s : Sto} (S : StR K m H s) (hT : H T = none) (hx : Rep K m H x v) (hy : Rep K m H y u) : Rep K m (upd H T (.tup [v, u])) (.tup [x, y]) (.ref T) :=
  .tup (.inl (.inl upd_same)) (.cons (hx.ext S.noTup (Ext.same (same_upd hT))) (.cons (hy.ext S.noTup (Ext.same (same_upd hT))) .nil))
theorem itw_enumL {K : KZ} {m : List Addr} {s : Sto} {H : Hp} {a : Addr} {it : Items} (st : ∀ zz m1 H1 s1, (∀ p ∈ zz, p ∈ K.2 ∨ H p = none) → Ext m H m1 H1 → StR (K.1, zz) m1 H1 s1 → (∀ n, it.gd = some n → s1[n]? = s[n]?) → ∃ vs, SqL K.1 H1 a vs ∧ RepL (K.1, zz) m1 H1 it.l vs) : ItW K m s ⟨numD it.l, it.gd⟩ (Ite K.1 a) H := by
  intro zz m1 H1 s1 hz e S g
  obtain ⟨vs, h1, h2⟩ := st zz m1 H1 s1 hz e S g
  have hl : (numD it.l).length = vs.length := by simp [numD, h2.length]
  refine ⟨fun i hi => ?_, ⟨vs, h1, by show vs.length ≤ (numD it.l).length; omega⟩, fun i d x H' hd hy => ?_⟩
  · have hi' : i < vs.length := by rw [← hl]; exact hi
    exact ⟨vs, vs[i], h1, List.getElem?_eq_getElem hi'⟩
  · obtain ⟨T, x', ev, hT, e1, e2⟩ := hy
    subst e1 ev
    obtain ⟨y, hy1, rfl⟩ := numD_get hd
    obtain ⟨v, h3, h4⟩ := h2.get hy1
    have := e2 vs h1
    rw [h3] at this
    cases this
    exact ⟨same_upd hT, pair_rep S hT (.int _) h4⟩
theorem itw_enumT {K : KZ} {m : List Addr} {s : Sto} {H : Hp} {a : Addr} {it : Items} (st : ∀ zz m1 H1 s1, (∀ p ∈ zz, p ∈ K.2 ∨ H p = none) → Ext m H m1 H1 → StR (K.1, zz) m1 H1 s1 → (∀ n, it.gd = some n → s1[n]? = s[n]?) → ∃ vs, SqT K.1 H1 a vs ∧ RepL (K.1, zz) m1 H1 it.l vs) : ItW K m s ⟨numD it.l, it.gd⟩ (Itet K.1 a) H := by
  intro zz m1 H1 s1 hz e S g
  obtain ⟨vs, h1, h2⟩ := st zz m1 H1 s1 hz e S g
  have hl : (numD it.l).length = vs.length := by simp [numD, h2.length]
  refine ⟨fun i hi => ?_, ⟨vs, h1, by show vs.length ≤ (numD it.l).length; omega⟩, fun i d x H' hd hy => ?_⟩
  · have hi' : i < vs.length := by rw [← hl]; exact hi
    exact ⟨vs, vs[i], h1, List.getElem?_eq_getElem hi'⟩
  · obtain ⟨T, x', ev, hT, e1, e2⟩ := hy
    subst e1 ev
    obtain ⟨y, hy1, rfl⟩ := numD_get hd
    obtain ⟨v, h3, h4⟩ := h2.get hy1
    have := e2 vs h1
    rw [h3] at this
    cases this
    exact ⟨same_upd hT, pair_rep S hT (.int _) h4⟩
section
variable {zz : List Addr} {X : Cx} {W : WX} {e : Expr} {es : List Expr} {de : EM} {da : AM}
theorem si_enum {elts : List Expr} {kk : Nat} {p pos tpos : Pos} (hm : X.mg "enumerate" = none) (ha : PA X [e] (tA (X.K, zz) W da)) (hg : Gl X "enumerate" := by rfl) (hs : starEach [e] X.env = [(false, eval e X.env)] := by rfl) :
    PI X (.Tuple elts kk tpos) (.Call (.Name "enumerate" p) [e] [] pos) (iS (X.K, zz) W (iOf itEnum da)) :=
  PI.imp (pi_enumA hg hm ha hs) fun σ H R h => tG.mono (fun vs H1 ⟨m1, ds, s1, it, s2, S1, q1, e1, hR⟩ => by
    rcases two_or q1 with rfl | ⟨d, v, rfl, rfl, hd⟩ | ⟨d, e', v, u, rfl, rfl, hd, he⟩ | ⟨a, b, c, l, rfl⟩
    · cases e1
    · have e1 : (itAny d s1).map (fun p => ((⟨numD p.1.l, p.1.gd⟩ : Items), p.2)) = some (it, s2) := e1
      obtain ⟨⟨it', s'⟩, h1, h2⟩ := Option.map_eq_some_iff.mp e1
      cases h2
      obtain ⟨rfl, a, rfl, q⟩ := itAny_at S1 hd h1
      cases q with
      | l xs h0 h => exact ⟨a, rfl, .inl ⟨xs, h0, hR m1 H1 _ Ext.refl S1 (itw_enumL h)⟩⟩
      | t xs h0 h => exact ⟨a, rfl, .inr ⟨xs, h0, hR m1 H1 _ Ext.refl S1 (itw_enumT h)⟩⟩
    · cases e1
    · cases e1) (iOf_in h)
end
/-! ### zip -/
def itZip (xs : List D) : V1 Items := fun s => match xs with
  | [x, y] => (itSeq x s).bind (fun p => (itSeq y s).bind fun q => match p.1.gd, q.1.gd with
      | some n, some k => if n = k then some (⟨(p.1.l.zip q.1.l).map fun z => .tup [z.1, z.2], some n⟩, s) else none
      | some n, none => some (⟨(p.1.l.zip q.1.l).map fun z => .tup [z.1, z.2], some n⟩, s)
      | none, g => some (⟨(p.1.l.zip q.1.l).map fun z => .tup [z.1, z.2], g⟩, s)) <|>
    (itTup x s).bind (fun p => (itTup y s).bind fun q => some (⟨(p.1.l.zip q.1.l).map fun z => .tup [z.1, z.2], none⟩, s))
  | _ => none
theorem zipD_get {l r : List D} {i : Nat} {d : D} (h : ((l.zip r).map fun z => D.tup [z.1, z.2])[i]? = some d) : ∃ x y, l[i]? = some x ∧ r[i]? = some y ∧ d = .tup [x, y] := by
  rw [List.getElem?_map] at h
  obtain ⟨z, h1, h2⟩ := Option.map_eq_some_iff.mp h
  rw [List.getElem?_zip_eq_some] at h1
  exact ⟨z.1, z.2, h1.1, h1.2, h2.symm⟩
theorem seqL_at {K : KZ} {m : List Addr} {H : Hp} {d : D} {v : V} {s s' : Sto} {it : Items} (S : StR K m H s) (r : Rep K m H d v) (h : itSeq d s = some (it, s')) : s' = s ∧ ∃ a xs, v = .ref a ∧ SqL K.1 H a xs ∧
    ∀ zz m1 H1 s1, (∀ p ∈ zz, p ∈ K.2 ∨ H p = none) → Ext m H m1 H1 → StR (K.1, zz) m1 H1 s1 → (∀ n, it.gd = some n → s1[n]? = s[n]?) → ∃ vs, SqL K.1 H1 a vs ∧ RepL (K.1, zz) m1 H1 it.l vs := by
  obtain ⟨K, z⟩ := K
  cases r with
  | @lst a ds vs n e q =>
    cases h
    exact ⟨rfl, a, vs, rfl, .inl (.inl e), fun zz1 m2 H2 s3 hz f S3 _ => ⟨vs, .inl (.inl (f.keep a _ e n.1)), q.chg (chg_ext S.noTup hz f)⟩⟩
  | @scr a ds vs e q =>
    cases h
    exact ⟨rfl, a, vs, rfl, e.l, fun zz1 m2 H2 s3 hz f S3 _ => ⟨vs, (SqF.ext (K := (K, z)) S.noTup f e).l, q.chg (chg_ext S.noTup hz f)⟩⟩
  | @loc n a e =>
    have h : (match s[n]? with
        | some (.lst l) => some ((⟨l, some n⟩ : Items), s)
        | _ => none) = some (it, s') := h
    cases zq : s[n]? with
    | none => rw [zq] at h; cases h
    | some o =>
      rw [zq] at h
      cases o with
      | lst l =>
        cases h
        obtain ⟨vs, h1, h2⟩ := S.obj n a _ e zq
        refine ⟨rfl, a, vs, rfl, .inl (.inl h1), fun zz1 m2 H2 s3 hz f S3 g => ?_⟩
        obtain ⟨us, h3, h4⟩ := S3.obj n a (.lst l) (f.loc e) (by rw [g n rfl]; exact zq)
        exact ⟨us, .inl (.inl h3), h4⟩
      | _ => cases h
  | _ => cases h
theorem itw_zip {K : KZ} {m : List Addr} {s : Sto} {H : Hp} {J : It} {l r : List D} {g : Option Nat} (P : Hp → List V → Prop) (Q : Hp → List V → Prop)
    (hgo : ∀ i H xs ys x y, P H xs → Q H ys → xs[i]? = some x → ys[i]? = some y → J.go i H) (hst : ∀ i H xs ys, P H xs → Q H ys → xs.length ≤ i ∨ ys.length ≤ i → J.stop i H)
    (hy : ∀ i H v H' xs ys, P H xs → Q H ys → J.yld i H v H' → ∃ T x y, v = .ref T ∧ H T = none ∧ H' = upd H T (.tup [x, y]) ∧ xs[i]? = some x ∧ ys[i]? = some y)
    (st1 : ∀ zz m1 H1 s1, (∀ p ∈ zz, p ∈ K.2 ∨ H p = none) → Ext m H m1 H1 → StR (K.1, zz) m1 H1 s1 → (∀ n, g = some n → s1[n]? = s[n]?) → ∃ vs, P H1 vs ∧ RepL (K.1, zz) m1 H1 l vs)
    (st2 : ∀ zz m1 H1 s1, (∀ p ∈ zz, p ∈ K.2 ∨ H p = none) → Ext m H m1 H1 → StR (K.1, zz) m1 H1 s1 → (∀ n, g = some n → s1[n]? = s[n]?) → ∃ vs, Q H1 vs ∧ RepL (K.1, zz) m1 H1 r vs) :
    ItW K m s ⟨(l.zip r).map fun z => .tup [z.1, z.2], g⟩ J H := by
  intro zz m1 H1 s1 hz e S gd
  obtain ⟨vs, h1, h2⟩ := st1 zz m1 H1 s1 hz e S gd
  obtain ⟨us, h3, h4⟩ := st2 zz m1 H1 s1 hz e S gd
  have l1 := h2.length
  have l2 := h4.length
  have hl : ((l.zip r).map fun z => D.tup [z.1, z.2]).length = min vs.length us.length := by simp [l1, l2]
  refine ⟨fun i hi => ?_, hst _ H1 vs us h1 h3 (by
    show vs.length ≤ ((l.zip r).map fun z => D.tup [z.1, z.2]).length ∨ us.length ≤ ((l.zip r).map fun z => D.tup [z.1, z.2]).length
    omega), fun i d x H' hd hyl => ?_⟩
  · have hi' : i < min vs.length us.length := by rw [← hl]; exact hi
    exact hgo i H1 vs us vs[i] us[i] h1 h3 (List.getElem?_eq_getElem (by omega)) (List.getElem?_eq_getElem (by omega))
  · obtain ⟨T, a, b, rfl, hT, rfl, e1, e2⟩ := hy i H1 x H' vs us h1 h3 hyl
    obtain ⟨dx, dy, d1, d2, rfl⟩ := zipD_get hd
    obtain ⟨v1, h5, h6⟩ := h2.get d1
    obtain ⟨v2, h7, h8⟩ := h4.get d2
    rw [e1] at h5
    rw [e2] at h7
    cases h5; cases h7
    exact ⟨same_upd hT, pair_rep S hT h6 h8⟩
section
variable {zz : List Addr} {X : Cx} {W : WX} {e e2 : Expr} {da : AM}
theorem tupT_at {K : KZ} {m : List Addr} {H : Hp} {d : D} {v : V} {s s' : Sto} {it : Items} (S : StR K m H s) (r : Rep K m H d v) (h : itTup d s = some (it, s')) : s' = s ∧ it.gd = none ∧ ∃ a xs, v = .ref a ∧ SqT K.1 H a xs ∧
    ∀ zz m1 H1 s1, (∀ p ∈ zz, p ∈ K.2 ∨ H p = none) → Ext m H m1 H1 → StR (K.1, zz) m1 H1 s1 → ∃ vs, SqT K.1 H1 a vs ∧ RepL (K.1, zz) m1 H1 it.l vs := by
  obtain ⟨K, z⟩ := K
  cases r with
  | @tup a ds vs e q =>
    cases h
    exact ⟨rfl, rfl, a, vs, rfl, e, fun zz1 m2 H2 s3 hz f S3 => ⟨vs, SqT.ext (K := (K, z)) S.noTup f e, q.chg (chg_ext S.noTup hz f)⟩⟩
  | _ => cases h
theorem si_zip {elts : List Expr} {kk : Nat} {p pos tpos : Pos} (hm : X.mg "zip" = none) (ha : PA X [e, e2] (tA (X.K, zz) W da)) (hg : Gl X "zip" := by rfl) (hs : starEach [e, e2] X.env = (false, eval e X.env) :: starEach [e2] X.env := by rfl) (hpl : (backTo pos (starEach [e2] X.env)).any (·.1) = false := by rfl) :
    PI X (.Tuple elts kk tpos) (.Call (.Name "zip" p) [e, e2] [] pos) (iS (X.K, zz) W (iOf itZip da)) :=
  PI.imp (RZ.pi_zipA hg hm ha hs hpl) fun σ H R h => tG.mono (fun vs H1 ⟨m1, ds, s1, it, s2, S1, q1, e1, hR⟩ => by
    rcases two_or q1 with rfl | ⟨d, v, rfl, rfl, hd⟩ | ⟨d, e', v, u, rfl, rfl, hd, he⟩ | ⟨a, b, c, l, rfl⟩
    · cases e1
    · cases e1
    · unfold itZip at e1
      simp only at e1
      cases z1 : itSeq d s1 with
      | some p =>
        obtain ⟨i1, t1⟩ := p
        obtain ⟨rfl, a, xs, rfl, hx, w1⟩ := seqL_at S1 hd z1
        cases z2 : itSeq e' t1 with
        | some q =>
          obtain ⟨i2, t2⟩ := q
          obtain ⟨rfl, b, ys, rfl, hy, w2⟩ := seqL_at S1 he z2
          have key : ∀ g, (∀ n, i1.gd = some n → g = some n) → (∀ n, i2.gd = some n → g = some n) → ItW (X.K, zz) m1 t2 ⟨(i1.l.zip i2.l).map fun z => .tup [z.1, z.2], g⟩ (Itz X.K a b) H1 := fun g g1 g2 =>
            itw_zip (fun H xs => SqL X.K H a xs) (fun H xs => SqL X.K H b xs) (fun i H xs ys x y p q h1 h2 => ⟨xs, ys, x, y, p, q, h1, h2⟩) (fun i H xs ys p q h => ⟨xs, ys, p, q, h⟩)
              (fun i H v H' xs ys p q ⟨T, x, y, h1, h2, h3, h4, h5⟩ => ⟨T, x, y, h1, h2, h3, h4 xs p, h5 ys q⟩)
              (fun zz1 m2 H2 s3 hz f S3 gd => w1 zz1 m2 H2 s3 hz f S3 fun n hn => gd n (g1 n hn)) (fun zz1 m2 H2 s3 hz f S3 gd => w2 zz1 m2 H2 s3 hz f S3 fun n hn => gd n (g2 n hn))
          refine ⟨a, b, xs, ys, rfl, .inl ⟨hx, hy, ?_⟩⟩
          rw [z1] at e1
          simp only [Option.bind_some, z2] at e1
          have fin : ∀ g, (∀ n, i1.gd = some n → g = some n) → (∀ n, i2.gd = some n → g = some n) → some ((⟨(i1.l.zip i2.l).map fun z => .tup [z.1, z.2], g⟩ : Items), t2) = some (it, s2) → R (Itz X.K a b) H1 := fun g g1 g2 e => by
            cases e
            exact hR m1 H1 _ Ext.refl S1 (key g g1 g2)
          cases g1 : i1.gd with
          | none =>
            simp only [g1] at e1
            exact fin i2.gd (fun n h => by rw [g1] at h; cases h) (fun n h => h) e1
          | some n =>
            cases g2 : i2.gd with
            | none =>
              simp only [g1, g2] at e1
              exact fin (some n) (fun n h => by rw [g1] at h; exact h) (fun n h => by rw [g2] at h; cases h) e1
            | some k =>
              simp only [g1, g2] at e1
              by_cases c : n = k
              · subst c
                simp only [if_true] at e1
                exact fin (some n) (fun n h => by rw [g1] at h; exact h) (fun n h => by rw [g2] at h; exact h) e1
              · simp only [c, if_false] at e1
                cases hd <;> first | (cases e1; done) | cases z1
        | none =>
          rw [z1] at e1
          simp only [Option.bind_some, z2, Option.bind_none] at e1
          cases hd <;> first | (cases e1; done) | cases z1
      | none =>
        simp only [z1, Option.bind_none] at e1
        cases z3 : itTup d s1 with
        | none => rw [z3] at e1; cases e1
        | some p =>
          obtain ⟨i1, t1⟩ := p
          obtain ⟨rfl, g1, a, xs, rfl, hx, w1⟩ := tupT_at S1 hd z3
          cases z4 : itTup e' t1 with
          | none => rw [z3] at e1; simp only [Option.bind_some, z4] at e1; cases e1
          | some q =>
            obtain ⟨i2, t2⟩ := q
            obtain ⟨rfl, g2, b, ys, rfl, hy, w2⟩ := tupT_at S1 he z4
            rw [z3] at e1
            simp only [Option.bind_some, z4] at e1
            cases e1
            refine ⟨a, b, xs, ys, rfl, .inr ⟨hx, hy, hR m1 H1 _ Ext.refl S1 ?_⟩⟩
            exact itw_zip (fun H xs => SqT X.K H a xs) (fun H xs => SqT X.K H b xs) (fun i H xs ys x y p q h1 h2 => ⟨xs, ys, x, y, p, q, h1, h2⟩) (fun i H xs ys p q h => ⟨xs, ys, p, q, h⟩)
              (fun i H v H' xs ys p q ⟨T, x, y, h1, h2, h3, h4, h5⟩ => ⟨T, x, y, h1, h2, h3, h4 xs p, h5 ys q⟩)
              (fun zz1 m2 H2 s3 hz f S3 gd => w1 zz1 m2 H2 s3 hz f S3) (fun zz1 m2 H2 s3 hz f S3 gd => w2 zz1 m2 H2 s3 hz f S3)
    · cases e1) (iOf_in h)
end
end QS
end

section
set_option Elab.async false
set_option linter.all false
set_option maxRecDepth 100000
set_option maxHeartbeats 4000000
/-! QS8: isinstance, fields, instances, methods, a list's methods, three at once. -/
namespace QS
open PySem PySem.Spec PyProof.Rows L2
/-! ### isinstance -/
inductive TyV where
  | b (n : String)
  | o (c : Str)
  deriving DecidableEq
def TyV.val (K : PySem.W.Frag) : TyV → Value
  | .b n => .type n
  | .o c => .ref (He.ga K c)
def tyV (s : Sto) : D → Option TyV
  | .non => some (.b "NoneType")
  | .bl _ => some (.b "bool")
  | .int _ => some (.b "int")
  | .str _ => some (.b "str")
  | .tup _ => some (.b "tuple")
  | .lst _ => some (.b "list")
  | .scr _ => some (.b "list")
  | .dic _ _ => some (.b "dict")
  | .ins c _ _ => some (.o c)
  | .adr _ => none
  | .loc n => match s[n]? with
    | some (.lst _) => some (.b "list")
    | some (.dic _ _) => some (.b "dict")
    | some (.ins c _ _) => some (.o c)
    | none => none
/-- what isinstance wants of a written class -/
structure ClsI (K : PySem.W.Frag) (c : Str) : Prop where
  cl : Cls K (He.ga K c)
  ha : PySem.W.findIn K (.ref (He.ga K c)) "__class__" = some (some (.builtin "object.__class__"))
  hn : PySem.W.specialIn K (.builtin "object.__class__") "__get__" = some (some (.builtin "getset_descriptor.__get__"))
  htk : PySem.W.takesIn K (.builtin "object.__class__") = some true
  hm : PySem.W.mroIn K (He.ga K c) (.type "object") = some true
/-- the answers of isinstance(.., u) -/
def Ans (K : PySem.W.Frag) (u : Value) (ans : TyV → Option Bool) : Prop := ∀ t b, ans t = some b → PySem.W.kitOne K (t.val K) u = some b ∧ ∀ c, t = .o c → ClsI K c
section
variable {K : KZ} {m : List Addr} {H : Hp} {s : Sto} {d : D} {v : V} {t : TyV}
theorem sqT_ty {a : Addr} {vs : List V} (h : SqT K.1 H a vs) : TyX K.1 H (.ref a) (.type "tuple") := by
  rcases h with (h | ⟨o, h⟩) | ⟨o, its, n, h1, h2, _⟩
  · exact .base (.tup h)
  · exact .fTuple h
  · exact .kTuple h1 h2
theorem tyV_ok (S : StR K m H s) (r : Rep K m H d v) (h : tyV s d = some t) (hc : ∀ c, t = .o c → ClsI K.1 c) : TyX K.1 H v (t.val K.1) := by
  cases r with
  | non => cases h; exact .base .non
  | bl b => cases h; exact .base (.bl b)
  | int i => cases h; exact .base (.int i)
  | str x => cases h; exact .base (.str x)
  | tup e q => cases h; exact sqT_ty e
  | lst n e q => cases h; exact .base (.lst e)
  | scr e q =>
    cases h
    rcases e with ⟨o, e⟩ | ⟨o, its, n, h1, h2, _⟩
    · exact .base (.frz e)
    · exact .kList h1 h2
  | adr a => cases h
  | dic n l e q =>
    cases h
    rcases e with e | ⟨o, e⟩
    · exact .base (.dK e)
    · exact .fDict e
  | @ins a dx c fs ds vs n l e q =>
    cases h
    have z := hc c rfl
    exact .base (.ins e z.cl z.ha z.hn z.htk z.hm)
  | @loc n a e =>
    have h : (match s[n]? with
      | some (.lst _) => some (TyV.b "list")
      | some (.dic _ _) => some (.b "dict")
      | some (.ins c _ _) => some (.o c)
      | none => none) = some t := h
    cases z : s[n]? with
    | none => rw [z] at h; cases h
    | some o =>
      rw [z] at h
      have q := S.obj n a o e z
      cases o with
      | lst l =>
        cases h
        obtain ⟨vs, e1, _⟩ := q
        exact .base (.lst e1)
      | dic ks l =>
        cases h
        obtain ⟨vs, _, e1, _⟩ := q
        exact .base (.dK e1)
      | ins c fs l =>
        cases h
        obtain ⟨dx, vs, _, e1, _⟩ := q
        have z := hc c rfl
        exact .base (.ins e1 z.cl z.ha z.hn z.htk z.hm)
theorem tyX_same {u : Value} {H' : Hp} (sm : Same H H') (h : TyX K.1 H v u) : TyX K.1 H' v u := by
  cases h with
  | base b =>
    cases b with
    | non => exact .base .non
    | bl b => exact .base (.bl b)
    | int i => exact .base (.int i)
    | str x => exact .base (.str x)
    | flt x => exact .base (.flt x)
    | lst e => exact .base (.lst (sm _ _ e))
    | frz e => exact .base (.frz (sm _ _ e))
    | tup e => exact .base (.tup (sm _ _ e))
    | dK e => exact .base (.dK (sm _ _ e))
    | dT e => exact .base (.dT (sm _ _ e))
    | ins e a b c d' f => exact .base (.ins (sm _ _ e) a b c d' f)
  | byt b => exact .byt b
  | set e => exact .set (sm _ _ e)
  | kList e c => exact .kList e c
  | kTuple e c => exact .kTuple e c
  | kDict e c => exact .kDict e c
  | fTuple e => exact .fTuple (sm _ _ e)
  | fDict e => exact .fDict (sm _ _ e)
end
def gIsi (ans : TyV → Option Bool) : D → V1 D := fun d s => ((tyV s d).bind ans).map fun b => (.bl b, s)
/-- the answers for (c1, c2) -/
def ansOr (f g : TyV → Option Bool) : TyV → Option Bool := fun t => match f t with
  | some true => some true
  | some false => g t
  | none => none
section
variable {zz : List Addr} {X : Cx} {W : WX} {e o c c1 c2 : Expr} {es : List Expr} {de dv : EM} {da : AM} {pos p : Pos}
theorem isi_in {d : D} {v : V} {u : Value} {ans : TyV → Option Bool} {m : List Addr} {H : Hp} {s : Sto} {Q : VK} (hA : Ans X.K u ans) (S : StR (X.K, zz) m H s) (r : Rep (X.K, zz) m H d v) (h : GoodV (X.K, zz) m H Q (gIsi ans d s)) :
    ∃ t b, TyX X.K H v (TyV.val X.K t) ∧ PySem.W.kitOne X.K (TyV.val X.K t) u = some b ∧ Q (.bl b) H := by
  unfold gIsi at h
  cases z : tyV s d with
  | none => rw [z] at h; exact h.elim
  | some t =>
    rw [z] at h
    simp only [Option.bind_some] at h
    cases za : ans t with
    | none => rw [za] at h; exact h.elim
    | some b =>
      rw [za] at h
      obtain ⟨h1, h2⟩ := hA t b za
      exact ⟨t, b, tyV_ok S r z h2, h1, GoodV.here S h (.bl b)⟩
theorem se_isi {cv : V} {u : Value} {ans : TyV → Option Bool} (hA : Ans X.K u ans) (hm : X.mg "isinstance" = none) (he : PE X e (tE (X.K, zz) W de)) (hcv : PE X c (tC cv)) (ck : ClsV cv u) (hg : Gl X "isinstance" := by rfl)
    (hs1 : starEach [e, c] X.env = (false, eval e X.env) :: starEach [c] X.env := by rfl) (hs2 : starEach [c] X.env = (false, eval c X.env) :: starEach [] X.env := by rfl) (hpl : (backTo pos (starEach [c] X.env)).any (·.1) = false := by rfl) :
    PE X (.Call (.Name "isinstance" p) [e, c] [] pos) (tE (X.K, zz) W (eU (gIsi ans) de)) :=
  PE.imp (pe_callB (call_isi (X := X)) hg hm PyProof.Rows.boot_isinstance (pa_cons he (pa_cons hcv pa_nil hs2) hs1) (by decide) (by decide) hs1 hpl) fun σ H Q h => by
    refine tG.mono (fun v H1 q => ?_) (into1 h)
    obtain ⟨m1, x, s1, S1, q1, hG1⟩ := q
    obtain ⟨t, b, h1, h2, h3⟩ := isi_in hA S1 q1 hG1
    exact ⟨v, cv, _, u, b, rfl, ck, h1, h2, h3⟩
theorem se_isi2 {v1 v2 : V} {u1 u2 : Value} {f g : TyV → Option Bool} {k : Nat} {tpos : Pos} (hA1 : Ans X.K u1 f) (hA2 : Ans X.K u2 g) (hm : X.mg "isinstance" = none) (he : PE X e (tE (X.K, zz) W de)) (hc1 : PE X c1 (tC v1)) (hc2 : PE X c2 (tC v2)) (ck1 : ClsV v1 u1) (ck2 : ClsV v2 u2) (hg : Gl X "isinstance" := by rfl)
    (hs1 : starEach [e, .Tuple [c1, c2] k tpos] X.env = (false, eval e X.env) :: starEach [.Tuple [c1, c2] k tpos] X.env := by rfl) (hs2 : starEach [.Tuple [c1, c2] k tpos] X.env = (false, eval (.Tuple [c1, c2] k tpos) X.env) :: starEach [] X.env := by rfl) (hpl : (backTo pos (starEach [.Tuple [c1, c2] k tpos] X.env)).any (·.1) = false := by rfl)
    (ht1 : starEach [c1, c2] X.env = (false, eval c1 X.env) :: starEach [c2] X.env := by rfl) (ht2 : starEach [c2] X.env = (false, eval c2 X.env) :: starEach [] X.env := by rfl) :
    PE X (.Call (.Name "isinstance" p) [e, .Tuple [c1, c2] k tpos] [] pos) (tE (X.K, zz) W (eU (gIsi (ansOr f g)) de)) :=
  PE.imp (pe_callB (call_isiT (X := X)) hg hm PyProof.Rows.boot_isinstance (pa_cons he (pa_cons (pe_tup (pa_cons hc1 (pa_cons hc2 pa_nil ht2) ht1)) pa_nil hs2) hs1) (by decide) (by decide) hs1 hpl) fun σ H Q h => by
    refine tG.mono (fun v H1 q => ?_) (into1 h)
    obtain ⟨m1, x, s1, S1, q1, hG1⟩ := q
    refine ⟨by show 2 ≤ sizeLine; decide, fun T hT => ?_⟩
    unfold gIsi at hG1
    cases z : tyV s1 x with
    | none => rw [z] at hG1; exact hG1.elim
    | some t =>
      rw [z] at hG1
      simp only [Option.bind_some] at hG1
      have hfin : ∀ b, ansOr f g t = some b → Q (.bl b) (upd H1 T (.tup [v1, v2])) := fun b hb => by
        rw [hb] at hG1
        exact hG1 m1 _ _ (Ext.same (same_upd hT)) (S1.same (same_upd hT)) (.bl b)
      cases zf : f t with
      | none =>
        unfold ansOr at hG1
        rw [zf] at hG1; exact hG1.elim
      | some b1 =>
        obtain ⟨h1, h2⟩ := hA1 t b1 zf
        have ty := tyX_same (K := (X.K, zz)) (same_upd (o := .tup [v1, v2]) hT) (tyV_ok S1 q1 z h2)
        cases b1 with
        | true =>
          refine ⟨v, T, [v1, v2], t.val X.K, [u1, u2], true, rfl, upd_same, .cons ck1 (.cons ck2 .nil), ty, kitAny_cons h1 (fun z => by cases z) (fun _ => rfl), hfin true ?_⟩
          unfold ansOr
          rw [zf]
        | false =>
          cases zg : g t with
          | none =>
            unfold ansOr at hG1
            rw [zf, ] at hG1
            simp only [zg] at hG1
            exact hG1.elim
          | some b2 =>
            obtain ⟨h3, _⟩ := hA2 t b2 zg
            refine ⟨v, T, [v1, v2], t.val X.K, [u1, u2], b2, rfl, upd_same, .cons ck1 (.cons ck2 .nil), ty, kitAny_cons h1 (fun _ => kitAny_cons h3 (fun e => by rw [e]; exact kitAny_nil) (fun e => e)) (fun z => by cases z), hfin b2 ?_⟩
            unfold ansOr
            rw [zf]
            exact zg
/-! ### fields -/
def fldD (f : Str) : List Str → List D → Option D
  | g :: fs, d :: ds => if f == g then some d else fldD f fs ds
  | _, _ => none
def insOf (c : Str) (s : Sto) : D → Option (List Str × List D)
  | .ins c' fs ds => if c' = c then some (fs, ds) else none
  | .loc n => match s[n]? with
    | some (.ins c' fs ds) => if c' = c then some (fs, ds) else none
    | _ => none
  | _ => none
def gFld (c f : Str) : D → V1 D := fun x s => (insOf c s x).bind fun p => (fldD f p.1 p.2).map fun d => (d, s)
theorem insOf_at {K : KZ} {m : List Addr} {H : Hp} {s : Sto} {d : D} {v : V} {c : Str} {fs : List Str} {ds : List D} (S : StR K m H s) (r : Rep K m H d v) (h : insOf c s d = some (fs, ds)) :
    ∃ a dx vs, v = .ref a ∧ fs.length = vs.length ∧ H a = some (.ins (He.ga K.1 c) dx (fs.zip vs)) ∧ RepL K m H ds vs := by
  cases r with
  | @ins a dx c' fs' ds' vs n l e q =>
    have h : (if c' = c then some (fs', ds') else none) = some (fs, ds) := h
    by_cases z : c' = c
    · rw [if_pos z] at h
      cases h
      subst z
      exact ⟨a, dx, vs, rfl, l, e, q⟩
    · rw [if_neg z] at h; cases h
  | @loc n a e =>
    have h : (match s[n]? with
      | some (.ins c' fs ds) => if c' = c then some (fs, ds) else none
      | _ => none) = some (fs, ds) := h
    cases z : s[n]? with
    | none => rw [z] at h; cases h
    | some o =>
      rw [z] at h
      cases o with
      | ins c' fs' ds' =>
        simp only at h
        by_cases zc : c' = c
        · rw [if_pos zc] at h
          cases h
          subst zc
          obtain ⟨dx, vs, l, e1, q⟩ := S.obj n a _ e z
          exact ⟨a, dx, vs, rfl, l, e1, q⟩
        · rw [if_neg zc] at h; cases h
      | _ => cases h
  | _ => cases h
theorem fldD_at {K : KZ} {m : List Addr} {H : Hp} {f : Str} {d : D} : ∀ {fs : List Str} {ds : List D} {vs : List V}, RepL K m H ds vs → fldD f fs ds = some d → ∃ v, (fs.zip vs).lookup f = some v ∧ Rep K m H d v
  | [], _, _, _, h => by cases h
  | g :: fs, _, _, .nil, h => by cases h
  | g :: fs, _, _, .cons (d := d') (v := v') hd r, h => by
    unfold fldD at h
    cases c : f == g with
    | true =>
      rw [if_pos c] at h
      cases h
      exact ⟨v', by rw [List.zip_cons_cons, List.lookup_cons, c], hd⟩
    | false =>
      rw [c] at h
      simp only [Bool.false_eq_true, if_false] at h
      obtain ⟨v, h1, h2⟩ := fldD_at r h
      exact ⟨v, by rw [List.zip_cons_cons, List.lookup_cons, c]; exact h1, h2⟩
theorem se_fld {cn f : Str} (c : Cls X.K (He.ga X.K cn)) (n : NoAttr X.K (He.ga X.K cn) f) (he : PE X e (tE (X.K, zz) W de)) (hb : attributeBase e f X.env (eval e X.env) = eval e X.env := by rfl) : PE X (.Attribute e f pos) (tE (X.K, zz) W (eU (gFld cn f) de)) :=
  PE.imp (pe_fld he hb) fun σ H Q h => by
    refine tG.mono (fun v H1 q => ?_) (into1 h)
    obtain ⟨m1, x, s1, S1, q1, hG1⟩ := q
    unfold gFld at hG1
    cases z : insOf cn s1 x with
    | none => rw [z] at hG1; exact hG1.elim
    | some pr =>
      obtain ⟨fs, ds⟩ := pr
      rw [z] at hG1
      simp only [Option.bind_some] at hG1
      cases zf : fldD f fs ds with
      | none => rw [zf] at hG1; exact hG1.elim
      | some d =>
        rw [zf] at hG1
        obtain ⟨a, dx, vs, rfl, l, e1, q2⟩ := insOf_at S1 q1 z
        obtain ⟨w, h1, h2⟩ := fldD_at q2 zf
        exact ⟨a, _, dx, _, w, rfl, e1, c, n, h1, GoodV.here S1 hG1 h2⟩
/-- a field is put -/
def putD (f : Str) (d : D) : List Str → List D → List Str × List D
  | g :: fs, x :: ds => if g = f then (g :: fs, d :: ds) else ((g :: (putD f d fs ds).1), (x :: (putD f d fs ds).2))
  | _, _ => ([f], [d])
theorem putD_at {K : KZ} {m : List Addr} {H : Hp} {f : Str} {d : D} {v : V} (hd : Rep K m H d v) : ∀ {fs : List Str} {ds : List D} {vs : List V}, RepL K m H ds vs → fs.length = vs.length →
    ∃ us, (putD f d fs ds).1.length = us.length ∧ putF f v (fs.zip vs) = (putD f d fs ds).1.zip us ∧ RepL K m H (putD f d fs ds).2 us
  | [], ds, vs, r, l => by
    refine ⟨[v], rfl, ?_, .cons hd .nil⟩
    rw [List.zip_nil_left]; rfl
  | g :: fs, _, _, .nil, l => by simp at l
  | g :: fs, x :: ds, u :: vs, .cons hx r, l => by
    by_cases c : g = f
    · refine ⟨v :: vs, ?_, ?_, ?_⟩
      · simp only [putD, if_pos c]; simpa using l
      · simp only [putD, if_pos c, putF, List.zip_cons_cons]
      · simp only [putD, if_pos c]; exact .cons hd r
    · obtain ⟨us, h1, h2, h3⟩ := putD_at hd r (fs := fs) (by simpa using l)
      refine ⟨u :: us, ?_, ?_, ?_⟩
      · simp only [putD, if_neg c]; simpa using h1
      · simp only [putD, if_neg c, putF, List.zip_cons_cons, h2]
      · simp only [putD, if_neg c]; exact .cons hx h3
def gPutF (c f : Str) (o v : D) : Sto → Option Sto := fun s => match o with
  | .loc n => match s[n]? with
    | some (.ins c' fs ds) => if c' = c ∧ fs.length < 1000 then some (s.set n (.ins c (putD f v fs ds).1 (putD f v fs ds).2)) else none
    | _ => none
  | _ => none
/-- o.f = v -/
def sFld (c f : Str) (v o : EM) : SM := fun ρ s => ofE (bnd (v ρ) (fun d => bnd (o ρ) fun x => lift fun s => (gPutF c f x d s).map fun s' => (D.non, s')) s) ρ fun _ s' => .nx ρ s'
theorem s_fld {cn f : Str} {value : Expr} {pos' : Pos} (c : Cls X.K (He.ga X.K cn)) (n : NoAttr X.K (He.ga X.K cn) f) (hv : PE X value (tE (X.K, zz) W dv)) (ho : PE X o (tE (X.K, zz) W de)) (hs : swapsWith value (some (.Attribute o f pos')) pos.line X.env = pure false := by rfl) :
    PS X (.Assign [.Attribute o f pos'] value pos) (tS (X.K, zz) W (QS.sFld cn f dv de)) := by
  refine PS.imp (ps_fld ho hv hs) fun D σ H ⟨m, ρ, s, hE, hS, hG⟩ => ?_
  refine ⟨m, ρ, s, hE, hS, (Good.bind (GoodS.ofE (rel := Rep (X.K, zz)) hS hE hG)).mono fun v H1 ⟨m1, d, s1, e1, S1, q1, hG1⟩ => ?_⟩
  refine ⟨m1, ρ, s1, hE.ext hS.noTup e1, S1, (Good.bind hG1).mono fun ov H2 ⟨m2, x, s2, e2, S2, q2, hG2⟩ => ?_⟩
  have g3 := hG2.lift
  cases z : gPutF cn f x d s2 with
  | none => simp only [z, Option.map_none] at g3; exact g3.elim
  | some s4 =>
    simp only [z, Option.map_some] at g3
    cases q2 with
    | @loc k a e =>
      have z : (match s2[k]? with
        | some (.ins c' fs ds) => if c' = cn ∧ fs.length < 1000 then some (s2.set k (.ins cn (putD f d fs ds).1 (putD f d fs ds).2)) else none
        | _ => none) = some s4 := z
      cases zo : s2[k]? with
      | none => rw [zo] at z; cases z
      | some ob =>
        rw [zo] at z
        cases ob with
        | ins c' fs ds =>
          simp only at z
          by_cases zc : c' = cn ∧ fs.length < 1000
          · rw [if_pos zc] at z
            cases z
            obtain ⟨rfl, zl⟩ := zc
            obtain ⟨dx, vs, l, ea, q⟩ := S2.obj k a _ e zo
            have rd := q1.ext S1.noTup e2
            obtain ⟨us, h1, h2, h3⟩ := putD_at (f := f) rd q l
            refine ⟨a, _, dx, _, rfl, ea, c, n, ?_, ?_⟩
            · rw [List.length_zip, ← l]; simpa using zl
            · have we : Ext m2 H2 m2 (upd H2 a (.ins (He.ga X.K c') dx (putF f v (fs.zip vs)))) := Ext.write e S2.noTup
              obtain ⟨m5, _, s5, e5, S5, q5, E5, g5⟩ := g3 m2 (upd H2 a (.ins (He.ga X.K c') dx (putF f v (fs.zip vs)))) .non we
                (S2.write e ⟨dx, us, h1, by rw [upd_same, h2], RepL.ext S2.noTup we h3⟩) .non
              exact g5 m5 _ σ Ext.refl S5 E5
          · rw [if_neg zc] at z; cases z
        | _ => cases z
    | _ => cases z
/-! ### methods of written classes -/
/-- o.m(..) -/
def eMeth (c m : Str) (F : List D → M D) (o : EM) (a : AM) : EM := fun ρ => bnd (o ρ) fun x => bnd (lift fun s => match insOf c s x with
  | some p => if p.1.contains m then none else some (x, s)
  | none => none) fun x => bnd (a ρ) fun xs => F (x :: xs)
def tMethS (C : Addr) (m : Str) (sp : Sp) (E : St → XK) (ta : TE) (t : TA) : TE := fun σ H Q => ta σ H fun x H1 => ∃ a dx fs, x = .ref a ∧ H1 a = some (.ins C dx fs) ∧ fs.lookup m = none ∧
  t σ H1 fun vs H2 => sp (x :: vs) H2 Q (E σ)
theorem pe_methS {CX : CXT} {k : Nat} {C f : Addr} {fd : FuncData} {ps : List Str} {sp : Sp} {E : St → XK} {m : Str} {apos : Pos} {ta : TE} {t : TA} {pl : Sem Bool} (he : PE X o ta) (c : Cls X.K C) (hm : Meth X.K C m f) (F : FnOk X.prog X.w X.K X.mg X.base CX k f fd ps sp) (hr : Room k X.A) (hb : Binds X.K fd ps []) (hx : ∀ σ, PassesAt CX X σ (E σ)) (ha : PA X (e :: es) t)
    (hst : starEach (e :: es) X.env = (false, eval e X.env) :: starEach es X.env := by rfl) (hpl : (backTo pos (starEach es X.env)).any (·.1) = false := by rfl)
    (ht : eval (.Call (.Attribute o m apos) (e :: es) [] pos) X.env = (do
      let ov ← eval o X.env
      standAt apos.atName
      let (f, first) ← holding [ov] (getMethod ov m pl)
      callWith pos f first (backTo pos (starEach (e :: es) X.env)) (backToKw pos (keywordEach [] X.env))) := by rfl) :
    PE X (.Call (.Attribute o m apos) (e :: es) [] pos) (tMethS C m sp E ta t) := by
  refine ⟨fun pins s σ H Q I h => ?_⟩
  refine PySem.W.methodCall_KW (pl := pl) (thn (he.run pins s σ H _ I h) fun u s1 ⟨x, H1, I1, rx, a, dx, fs, ex, ea, l, q⟩ => ?_) ht
  subst ex
  obtain rfl : u = Value.ref a := rx
  refine getmeth_ok I1 ea c hm l ?_
  refine PySem.W.callWith_K (first := [.ref a]) (h₀ := X.base) I.ok.mod.kin hm.kp (thn (ha.run pos pins s1 σ H1 _ I1 q) fun us s2 ⟨vs, H2, I2, r, q2⟩ => ⟨I2.kIn, ?_⟩) hst hpl
  exact run_fnS (us := .ref a :: us) (vs := .ref a :: vs) F hr hb (hx σ) I2 (.cons rfl r) q2
theorem pe_meth0S {CX : CXT} {k : Nat} {C f : Addr} {fd : FuncData} {ps : List Str} {sp : Sp} {E : St → XK} {m : Str} {apos : Pos} {ta : TE} {pl : Sem Bool} (he : PE X o ta) (c : Cls X.K C) (hm : Meth X.K C m f) (F : FnOk X.prog X.w X.K X.mg X.base CX k f fd ps sp) (hr : Room k X.A) (hb : Binds X.K fd ps []) (hx : ∀ σ, PassesAt CX X σ (E σ))
    (ht : eval (.Call (.Attribute o m apos) [] [] pos) X.env = (do
      let ov ← eval o X.env
      standAt apos.atName
      let (f, first) ← holding [ov] (getMethod ov m pl)
      callWith pos f first (backTo pos (starEach [] X.env)) (backToKw pos (keywordEach [] X.env))) := by rfl) :
    PE X (.Call (.Attribute o m apos) [] [] pos) (tMethS C m sp E ta tNil) := by
  refine ⟨fun pins s σ H Q I h => ?_⟩
  refine PySem.W.methodCall_KW (pl := pl) (thn (he.run pins s σ H _ I h) fun u s1 ⟨x, H1, I1, rx, a, dx, fs, ex, ea, l, q⟩ => ?_) ht
  subst ex
  obtain rfl : u = Value.ref a := rx
  refine getmeth_ok I1 ea c hm l ?_
  exact PySem.W.callWith_K0 (first := [.ref a]) I1.kIn hm.kp (run_fnS (us := [.ref a]) (vs := [.ref a]) F hr hb (hx σ) I1 (.cons rfl .nil) q)
theorem lookup_none {f : Str} : ∀ {fs : List Str} {vs : List V}, fs.contains f = false → (fs.zip vs).lookup f = none
  | [], vs, h => by rw [List.zip_nil_left]; rfl
  | g :: fs, [], h => by rw [List.zip_nil_right]; rfl
  | g :: fs, v :: vs, h => by
    rw [List.contains_cons, Bool.or_eq_false_iff] at h
    rw [List.zip_cons_cons, List.lookup_cons, h.1]
    exact lookup_none h.2
theorem intoMeth {cn mn : Str} {n : Nat} {F : List D → M D} {ds : AM} {σ : St} {H : Hp} {Q : VK} (h : tE (X.K, zz) W (eMeth cn mn (fnN (n + 1) F) de ds) σ H Q) : tMethS (He.ga X.K cn) mn (spF X.K (n + 1) F) (WE W) (tE (X.K, zz) W de) (tA (X.K, zz) W ds) σ H Q := by
  obtain ⟨m, ρ, s, hE, hS, hG⟩ := h
  refine ⟨m, ρ, s, hE, hS, (Good.bind hG).mono fun v H1 ⟨m1, x, s1, e1, S1, q1, hG1⟩ => ?_⟩
  unfold bnd lift at hG1
  cases z : insOf cn s1 x with
  | none => simp only [z] at hG1; exact hG1.elim
  | some pr =>
    obtain ⟨fs, xs⟩ := pr
    simp only [z] at hG1
    cases zc : fs.contains mn with
    | true => simp only [zc, if_true] at hG1; exact hG1.elim
    | false =>
      simp only [zc, Bool.false_eq_true, if_false] at hG1
      obtain ⟨a, dx, vs, rfl, l, ea, q2⟩ := insOf_at S1 q1 z
      refine ⟨a, dx, _, rfl, ea, lookup_none zc, m1, ρ, s1, hE.ext hS.noTup e1, S1, (Good.bind (f := fun xs => fnN (n + 1) F (x :: xs)) hG1).mono fun us H2 ⟨m2, ys, s2, e2, S2, q3, hG2⟩ => ?_⟩
      unfold fnN at hG2
      by_cases hl : (x :: ys).length = n + 1
      · rw [if_pos hl] at hG2
        exact spF_of hl (.cons (q1.ext S1.noTup e2) q3) S2 hG2
      · rw [if_neg hl] at hG2
        exact hG2.elim
theorem se_meth {k : Nat} {f : Addr} {fd : FuncData} {ps : List Str} {n : Nat} {F : List D → M D} {cn mn : Str} {apos : Pos} {pl : Sem Bool} (c : Cls X.K (He.ga X.K cn)) (hm : Meth X.K (He.ga X.K cn) mn f) (G : FnOk X.prog X.w X.K X.mg X.base (L2.CX X.prog X.w) k f fd ps (spF X.K (n + 1) F)) (hr : Room k X.A) (hb : Binds X.K fd ps []) (tk : Takes X W)
    (he : PE X o (tE (X.K, zz) W de)) (ha : PA X (e :: es) (tA (X.K, zz) W da)) (hst : starEach (e :: es) X.env = (false, eval e X.env) :: starEach es X.env := by rfl) (hpl : (backTo pos (starEach es X.env)).any (·.1) = false := by rfl)
    (ht : eval (.Call (.Attribute o mn apos) (e :: es) [] pos) X.env = (do
      let ov ← eval o X.env
      standAt apos.atName
      let (f, first) ← holding [ov] (getMethod ov mn pl)
      callWith pos f first (backTo pos (starEach (e :: es) X.env)) (backToKw pos (keywordEach [] X.env))) := by rfl) :
    PE X (.Call (.Attribute o mn apos) (e :: es) [] pos) (tE (X.K, zz) W (eMeth cn mn (fnN (n + 1) F) de da)) :=
  PE.imp (pe_methS he c hm G hr hb (fun σ => passAt tk σ) ha hst hpl ht) fun _ _ _ h => intoMeth h
theorem se_meth0 {k : Nat} {f : Addr} {fd : FuncData} {ps : List Str} {F : List D → M D} {cn mn : Str} {apos : Pos} {pl : Sem Bool} (c : Cls X.K (He.ga X.K cn)) (hm : Meth X.K (He.ga X.K cn) mn f) (G : FnOk X.prog X.w X.K X.mg X.base (L2.CX X.prog X.w) k f fd ps (spF X.K 1 F)) (hr : Room k X.A) (hb : Binds X.K fd ps []) (tk : Takes X W)
    (he : PE X o (tE (X.K, zz) W de))
    (ht : eval (.Call (.Attribute o mn apos) [] [] pos) X.env = (do
      let ov ← eval o X.env
      standAt apos.atName
      let (f, first) ← holding [ov] (getMethod ov mn pl)
      callWith pos f first (backTo pos (starEach [] X.env)) (backToKw pos (keywordEach [] X.env))) := by rfl) :
    PE X (.Call (.Attribute o mn apos) [] [] pos) (tE (X.K, zz) W (eMeth cn mn (fnN 1 F) de aNil)) :=
  PE.imp (pe_meth0S he c hm G hr hb (fun σ => passAt tk σ) ht) fun σ H Q h => tG.mono (fun v H1 ⟨a, dx, fs, e1, e2, l, q⟩ => by
    refine ⟨a, dx, fs, e1, e2, l, ?_⟩
    obtain ⟨m, ρ, s, hE, hS, hG⟩ := q
    exact hG m H1 [] Ext.refl hS .nil) (intoMeth h)
/-! ### instances -/
/-- C(..) -/
def eMake (c : Str) (F : List D → M D) (a : AM) : EM := fun ρ => bnd (a ρ) fun xs s => match F (.loc s.length :: xs) (s ++ [.ins c [] []]) with
  | .ok .non s' => .ok (.loc s.length) s'
  | .ok _ _ => .stuck
  | .exn x s' => .exn x s'
  | .stuck => .stuck
def tMakeS (C : Addr) (sp : Sp) (E : St → XK) (t : TA) : TE := fun σ H Q => t σ H fun vs H1 => ∀ x dx, H1 x = none → H1 dx = none → dx ≠ x →
  sp (.ref x :: vs) (upd (upd H1 dx (.own x)) x (.ins C dx [])) (fun v H2 => v = .non ∧ Q (.ref x) H2) (E σ)
theorem run_makeS {CX : CXT} {k : Nat} {C f : Addr} {fd : FuncData} {ps : List Str} {sp : Sp} {E : XK} {pins : List (Addr × Obj)} {σ : St} {H : Hp} {s : Shared} {Q : VK} {us : List Value} {vs : List V} (M : Mk X.K C f) (F : FnOk X.prog X.w X.K X.mg X.base CX k f fd ps sp) (hr : Room (k + 1) X.A) (hb : Binds X.K fd ps [])
    (hx : PassesAt CX X σ E) (I : Inv X pins σ H s) (r : Vals vs us)
    (h : ∀ x dx, H x = none → H dx = none → dx ≠ x → sp (.ref x :: vs) (upd (upd H dx (.own x)) x (.ins C dx [])) (fun v H2 => v = .non ∧ Q (.ref x) H2) E) :
    wpAny (model X.prog X.w) X.A (call (.ref C) us) (EP X pins σ Q) X.xe s := by
  have hq := h (s.heap.objs.size + 1) s.heap.objs.size (I.hok.fresh (Nat.le_succ _)) (I.hok.fresh (Nat.le_refl _)) (Nat.ne_of_lt (Nat.lt_succ_self _))
  have I2 := Inv.made (C := C) I
  have r2 : Vals (V.ref (s.heap.objs.size + 1) :: vs) (Value.ref (s.heap.objs.size + 1) :: us) := .cons rfl r
  have hl : (Value.ref (s.heap.objs.size + 1) :: us ++ []).length = ps.length := by
    have e := r2.length
    rw [F.len _ _ _ _ hq] at e
    rw [List.append_nil]
    exact e.symm
  have b := hb { s with heap := (s.heap.push PySem.W.emptyDict).push (PySem.W.instObj C s.heap.objs.size) } (Value.ref (s.heap.objs.size + 1) :: us) I2.kIn hl
  rw [List.append_nil] at b
  refine wpAny_call (make_map (f := f) I.kIn M.makes M.init (beq_iff_eq.mp M.fn) (codeAny_mono (F.run _ X.stack _ _ ⟨Value.ref (s.heap.objs.size + 1) :: us, []⟩ (Value.ref (s.heap.objs.size + 1) :: us) _ _ E (hr.make C us [])
    (I2.env0.make C us []) b r2 hq) fun r s' hq' => ?_))
  cases r with
  | error e => exact hx pins _ _ e s' I2 hq'
  | ok fl =>
    cases fl with
    | ret u =>
      obtain ⟨v, H', I3, rv, ev, q3⟩ := I2.after hq'
      subst ev
      exact ⟨rv, ⟨V.ref (s.heap.objs.size + 1), H', I3, rfl, q3⟩⟩
    | next => exact False.elim hq'
    | brk => exact False.elim hq'
    | cont => exact False.elim hq'
theorem pe_makeS {CX : CXT} {k : Nat} {C f : Addr} {fd : FuncData} {ps : List Str} {sp : Sp} {E : St → XK} {x : Str} {t : TA} (M : Mk X.K C f) (F : FnOk X.prog X.w X.K X.mg X.base CX k f fd ps sp) (hr : Room (k + 1) X.A) (hg : Gl X x) (hm : X.mg x = some (.ref C)) (hb : Binds X.K fd ps []) (hx : ∀ σ, PassesAt CX X σ (E σ))
    (ha : PA X (e :: es) t) (hdb : (x == ("__debug__" : Str)) = false := by decide) (he : starEach (e :: es) X.env = (false, eval e X.env) :: starEach es X.env := by rfl) (hpl : (backTo pos (starEach es X.env)).any (·.1) = false := by rfl) :
    PE X (.Call (.Name x p) (e :: es) [] pos) (tMakeS C sp E t) := by
  refine ⟨fun pins s σ H Q I h => ?_⟩
  refine wpAny_Call_Name_kw (ld_glob I hg hm ?_ hdb)
  refine PySem.W.callWith_K (h₀ := X.base) I.ok.mod.kin M.kp (thn (ha.run pos pins s σ H _ I h) fun us s1 ⟨vs, H1, I1, r, q⟩ => ⟨I1.kIn, ?_⟩) he hpl
  exact run_makeS M F hr hb (hx σ) I1 r q
theorem make_in {cn : Str} {n : Nat} {F : List D → M D} {σ : St} {m : List Addr} {H : Hp} {xs : List D} {vs : List V} {s : Sto} {Q : VK} (S : StR (X.K, zz) m H s) (r : RepL (X.K, zz) m H xs vs)
    (h : Good (X.K, zz) W σ (Rep (X.K, zz)) m H Q (match fnN (n + 1) F (.loc s.length :: xs) (s ++ [.ins cn [] []]) with
      | .ok .non s' => .ok (.loc s.length) s'
      | .ok _ _ => .stuck
      | .exn x s' => .exn x s'
      | .stuck => .stuck)) (x dx : Addr) (hx : H x = none) (hd : H dx = none) (hne : dx ≠ x) :
    spF X.K (n + 1) F (.ref x :: vs) (upd (upd H dx (.own x)) x (.ins (He.ga X.K cn) dx [])) (fun v H2 => v = .non ∧ Q (.ref x) H2) (WE W σ) := by
  have f1 : Ext m H m (upd H dx (.own x)) := Ext.same (same_upd hd)
  have S1 : StR (X.K, zz) m (upd H dx (.own x)) s := S.same (same_upd hd)
  have hx1 : upd H dx (HO.own x) x = none := by rw [upd_ne (fun e => hne e.symm)]; exact hx
  have f2 : Ext m (upd H dx (.own x)) (m ++ [x]) (upd (upd H dx (.own x)) x (.ins (He.ga X.K cn) dx [])) := Ext.new hx1
  have S2 : StR (X.K, zz) (m ++ [x]) (upd (upd H dx (.own x)) x (.ins (He.ga X.K cn) dx [])) (s ++ [.ins cn [] []]) := S1.new hx1 ⟨dx, [], rfl, by rw [upd_same]; rfl, .nil⟩
  have hm : (m ++ [x])[s.length]? = some x := by rw [← S.len]; simp
  have r2 : RepL (X.K, zz) (m ++ [x]) (upd (upd H dx (.own x)) x (.ins (He.ga X.K cn) dx [])) (.loc s.length :: xs) (.ref x :: vs) := .cons (.loc hm) (RepL.ext S1.noTup f2 (RepL.ext S.noTup f1 r))
  have f12 := f1.trans f2
  unfold fnN at h
  by_cases hl : (D.loc s.length :: xs).length = n + 1
  · rw [if_pos hl] at h
    refine spF_of (K := (X.K, zz)) (W := W) (σ := σ) hl r2 S2 ?_
    cases e : F (.loc s.length :: xs) (s ++ [.ins cn [] []]) with
    | stuck => rw [e] at h; exact h.elim
    | exn y s' => rw [e] at h; exact fun m' H' c d f S q => h m' H' c d (f12.trans f) S q
    | ok d s' =>
      rw [e] at h
      intro m' H' v f S q
      cases d with
      | non =>
        cases q
        exact ⟨rfl, h m' H' _ (f12.trans f) S (.loc (f.loc hm))⟩
      | _ => exact h.elim
  · rw [if_neg hl] at h; exact h.elim
theorem se_make {k : Nat} {f : Addr} {fd : FuncData} {ps : List Str} {n : Nat} {F : List D → M D} {cn : Str} (Mm : Mk X.K (He.ga X.K cn) f) (G : FnOk X.prog X.w X.K X.mg X.base (L2.CX X.prog X.w) k f fd ps (spF X.K (n + 1) F)) (hr : Room (k + 1) X.A) (hm : X.mg cn = some (.ref (He.ga X.K cn))) (hb : Binds X.K fd ps []) (tk : Takes X W)
    (ha : PA X (e :: es) (tA (X.K, zz) W da)) (hg : Gl X cn := by rfl) (hdb : (cn == ("__debug__" : Str)) = false := by decide) (he : starEach (e :: es) X.env = (false, eval e X.env) :: starEach es X.env := by rfl) (hpl : (backTo pos (starEach es X.env)).any (·.1) = false := by rfl) :
    PE X (.Call (.Name cn p) (e :: es) [] pos) (tE (X.K, zz) W (eMake cn (fnN (n + 1) F) da)) :=
  PE.imp (pe_makeS Mm G hr hg hm hb (fun σ => passAt tk σ) ha hdb he hpl) fun σ H Q ⟨m, ρ, s, hE, hS, hG⟩ =>
    ⟨m, ρ, s, hE, hS, (Good.bind hG).mono fun vs H1 ⟨m1, xs, s1, e1, S1, q1, hG1⟩ => fun x dx hx hd hne => make_in S1 q1 hG1 x dx hx hd hne⟩
end
end QS
end

section
set_option Elab.async false
set_option linter.all false
set_option maxRecDepth 100000
set_option maxHeartbeats 4000000
/-! QS9: built-in methods, a list's methods, an item op=, three at once. -/
namespace QS
open PySem PySem.Spec PyProof.Rows L2
/-- the built-in type of a receiver -/
def tyB (T : String) (s : Sto) : D → Bool
  | .str _ => T == "str"
  | .lst _ => T == "list"
  | .scr _ => T == "list"
  | .loc n => match s[n]? with
    | some (.lst _) => T == "list"
    | some (.dic _ _) => T == "dict"
    | _ => false
  | _ => false
theorem tyB_at {K : KZ} {m : List Addr} {H : Hp} {s : Sto} {d : D} {v : V} {T : String} (S : StR K m H s) (r : Rep K m H d v) (h : tyB T s d = true) : L2.tyV K.1 T v H := by
  cases r with
  | str x => exact beq_iff_eq.mp h
  | lst n e q => exact .inl ⟨beq_iff_eq.mp h, _, .inl (.inl e)⟩
  | scr e q => exact .inl ⟨beq_iff_eq.mp h, _, e.l⟩
  | @loc n a e =>
    have h : (match s[n]? with
      | some (.lst _) => T == "list"
      | some (.dic _ _) => T == "dict"
      | _ => false) = true := h
    cases z : s[n]? with
    | none => rw [z] at h; cases h
    | some o =>
      rw [z] at h
      have q := S.obj n a o e z
      cases o with
      | lst l =>
        obtain ⟨vs, e1, _⟩ := q
        exact .inl ⟨beq_iff_eq.mp h, _, .inl (.inl e1)⟩
      | dic ks l =>
        obtain ⟨vs, _, e1, _⟩ := q
        exact .inr (.inr (.inl ⟨beq_iff_eq.mp h, .inl ⟨_, e1⟩⟩))
      | ins c fs l => cases h
  | _ => cases h
/-- o.m(..), a built-in's -/
def eMb (T : String) (g : D → List D → V1 D) (o : EM) (a : AM) : EM := fun ρ => bnd (o ρ) fun x => bnd (lift fun s => if tyB T s x = true then some (x, s) else none) fun x => bnd (a ρ) fun xs => lift (g x xs)
section
variable {zz : List Addr} {X : Cx} {W : WX} {e o i : Expr} {es : List Expr} {de dv di : EM} {da : AM} {pos p : Pos} {T id : String} {g : D → List D → V1 D} {name : Str} {apos cpos : Pos}
theorem mb_in {σ : St} {H : Hp} {Q : VK} (h : tE (X.K, zz) W (eMb T g de da) σ H Q) : tBM X.K T (rM (X.K, zz) g) (tE (X.K, zz) W de) (tA (X.K, zz) W da) σ H Q := by
  obtain ⟨m, ρ, s, hE, hS, hG⟩ := h
  refine ⟨m, ρ, s, hE, hS, (Good.bind hG).mono fun v H1 ⟨m1, x, s1, e1, S1, q1, hG1⟩ => ?_⟩
  unfold bnd lift at hG1
  by_cases c : tyB T s1 x = true
  · simp only [c, if_true] at hG1
    refine ⟨tyB_at S1 q1 c, m1, ρ, s1, hE.ext hS.noTup e1, S1, (Good.bind (f := fun xs => lift (g x xs)) hG1).mono fun us H2 ⟨m2, ys, s2, e2, S2, q3, hG2⟩ => ?_⟩
    exact ⟨m2, x, ys, s2, S2, q1.ext S1.noTup e2, q3, hG2.lift⟩
  · simp only [c, if_false] at hG1
    exact hG1.elim
theorem se_mb (pa : PlainAttrs T) (slot : Slot T name id) (hty : typeOf (.builtin id) = pure (.type "method_descriptor")) (hm : MtR X id (rM (X.K, zz) g)) (ho : PE X o (tE (X.K, zz) W de)) (ha : PA X (e :: es) (tA (X.K, zz) W da))
    (hbase : attributeBase o name X.env (eval o X.env) = eval o X.env := by rfl)
    (hfew : ((backTo cpos (starEach (e :: es) X.env)).all (fun x => !x.1) && (backToKw cpos (keywordEach [] X.env)).all (fun x => x.1.isSome)
      && decide ((e :: es).length + ([] : List Keyword).length + (if ([] : List Keyword).isEmpty then 0 else 1) < 30)) = true := by rfl)
    (hline : (apos.endLine == cpos.line) = true := by rfl) (hs : starEach (e :: es) X.env = (false, eval e X.env) :: starEach es X.env := by rfl) (hplain : (backTo cpos (starEach es X.env)).any (·.1) = false := by rfl) :
    PE X (.Call (.Attribute o name apos) (e :: es) [] cpos) (tE (X.K, zz) W (eMb T g de da)) :=
  PE.imp (pe_bm pa slot hty hm ho ha hbase hfew hline hs hplain) fun _ _ _ h => mb_in h
theorem se_mb0 (pa : PlainAttrs T) (slot : Slot T name id) (hty : typeOf (.builtin id) = pure (.type "method_descriptor")) (hm : MtR X id (rM (X.K, zz) g)) (ho : PE X o (tE (X.K, zz) W de))
    (hbase : attributeBase o name X.env (eval o X.env) = eval o X.env := by rfl) (hline : (apos.endLine == cpos.line) = true := by rfl) :
    PE X (.Call (.Attribute o name apos) [] [] cpos) (tE (X.K, zz) W (eMb T g de aNil)) :=
  PE.imp (pe_bm0 pa slot hty hm ho hbase hline) fun σ H Q h => tG.mono (fun v H1 ⟨ty, q⟩ => ⟨ty, by
    obtain ⟨m, ρ, s, hE, hS, hG⟩ := q
    exact hG m H1 [] Ext.refl hS .nil⟩) (mb_in h)
/-! the list's methods -/
def gAppend : D → List D → V1 D := fun x xs s => match x, xs with
  | .loc n, [d] => match s[n]? with
    | some (.lst l) => if l.length < sizeLine then some (.non, s.set n (.lst (l ++ [d]))) else none
    | _ => none
  | _, _ => none
def gPopAt : D → List D → V1 D := fun x xs s => match x, xs with
  | .loc n, [.int i] => match s[n]? with
    | some (.lst l) => if -(2 ^ 63) ≤ i ∧ i < 2 ^ 63 then (seqIndex? i l.length).bind fun k => (l[k]?).map fun d => (d, s.set n (.lst (l.eraseIdx k))) else none
    | _ => none
  | _, _ => none
def gPop : D → List D → V1 D := fun x xs s => match x, xs with
  | .loc n, [] => match s[n]? with
    | some (.lst l) => (l[l.length - 1]?).map fun d => (d, s.set n (.lst l.dropLast))
    | _ => none
  | _, _ => none
def gExtend : D → List D → V1 D := fun x xs s => match x, xs with
  | .loc n, [y] => match s[n]? with
    | some (.lst l) => (lst2 s y).bind fun r => if l.length + r.length ≤ sizeLine then some (.non, s.set n (.lst (l ++ r))) else none
    | _ => none
  | _, _ => none
theorem write_list {m : List Addr} {H : Hp} {s : Sto} {n : Nat} {a : Addr} {ds : List D} {vs : List V} {d : D} {v : V} {Q : VK} (S : StR (X.K, zz) m H s) (e : m[n]? = some a) (r : RepL (X.K, zz) m H ds vs) (rd : Rep (X.K, zz) m H d v)
    (h : GoodV (X.K, zz) m H Q (some (d, s.set n (.lst ds)))) : Q v (upd H a (.lst vs)) := by
  have we : Ext m H m (upd H a (.lst vs)) := Ext.write e S.noTup
  exact h m _ v we (S.write e ⟨vs, upd_same, RepL.ext S.noTup we r⟩) (rd.ext S.noTup we)
theorem m_append : MtR X "list.append" (rM (X.K, zz) gAppend) := by
  intro pins s σ H x xs v us Q I rx rs ⟨m, d, ds, st, S, hd, hds, hG⟩
  unfold gAppend at hG
  split at hG
  · rename_i n y
    cases hd with
    | @loc n a e =>
      cases hds with
      | @cons _ w _ _ hy hr =>
        cases hr
        cases z : st[n]? with
        | none => rw [z] at hG; exact hG.elim
        | some ob =>
          rw [z] at hG
          cases ob with
          | lst l =>
            simp only at hG
            by_cases c : l.length < sizeLine
            · rw [if_pos c] at hG
              obtain ⟨vs, e1, q⟩ := S.obj n a _ e z
              exact mt_append pins s σ H _ _ v us Q I rx rs ⟨a, vs, w, rfl, rfl, e1, by rw [← q.length]; exact c, write_list S e (q.append (.cons hy .nil)) .non hG⟩
            · rw [if_neg c] at hG; exact hG.elim
          | _ => exact hG.elim
  · exact hG.elim
theorem m_popAt : MtR X "list.pop" (rM (X.K, zz) gPopAt) := by
  intro pins s σ H x xs v us Q I rx rs ⟨m, d, ds, st, S, hd, hds, hG⟩
  unfold gPopAt at hG
  split at hG
  · rename_i n i
    cases hd with
    | @loc n a e =>
      cases hds with
      | @cons _ w _ _ hy hr =>
        cases hr
        cases hy
        cases z : st[n]? with
        | none => rw [z] at hG; exact hG.elim
        | some ob =>
          rw [z] at hG
          cases ob with
          | lst l =>
            simp only at hG
            by_cases c : -(2 ^ 63) ≤ i ∧ i < 2 ^ 63
            · rw [if_pos c] at hG
              cases zk : seqIndex? i l.length with
              | none => rw [zk] at hG; exact hG.elim
              | some k =>
                rw [zk] at hG
                simp only [Option.bind_some] at hG
                cases zd : l[k]? with
                | none => rw [zd] at hG; exact hG.elim
                | some y =>
                  rw [zd] at hG
                  obtain ⟨vs, e1, q⟩ := S.obj n a _ e z
                  obtain ⟨w, h1, h2⟩ := q.get zd
                  exact mt_popAt pins s σ H _ _ v us Q I rx rs ⟨a, vs, i, k, w, rfl, rfl, e1, c.1, c.2, by rw [← q.length]; exact zk, h1, write_list S e (q.eraseIdx k) h2 hG⟩
            · rw [if_neg c] at hG; exact hG.elim
          | _ => exact hG.elim
  · exact hG.elim
theorem m_pop : MtR X "list.pop" (rM (X.K, zz) gPop) := by
  intro pins s σ H x xs v us Q I rx rs ⟨m, d, ds, st, S, hd, hds, hG⟩
  unfold gPop at hG
  split at hG
  · rename_i n
    cases hd with
    | @loc n a e =>
      cases hds
      cases z : st[n]? with
      | none => rw [z] at hG; exact hG.elim
      | some ob =>
        rw [z] at hG
        cases ob with
        | lst l =>
          simp only at hG
          cases zd : l[l.length - 1]? with
          | none => rw [zd] at hG; exact hG.elim
          | some y =>
            rw [zd] at hG
            obtain ⟨vs, e1, q⟩ := S.obj n a _ e z
            obtain ⟨w, h1, h2⟩ := q.get zd
            exact mt_pop pins s σ H _ _ v us Q I rx rs ⟨a, vs, w, rfl, rfl, e1, by rw [← q.length]; exact h1, write_list S e q.dropLast h2 hG⟩
        | _ => exact hG.elim
  · exact hG.elim
theorem m_extend : MtR X "list.extend" (rM (X.K, zz) gExtend) := by
  intro pins s σ H x xs v us Q I rx rs ⟨m, d, ds, st, S, hd, hds, hG⟩
  unfold gExtend at hG
  split at hG
  · rename_i n y
    cases hd with
    | @loc n a e =>
      cases hds with
      | @cons _ w _ _ hy hr =>
        cases hr
        cases z : st[n]? with
        | none => rw [z] at hG; exact hG.elim
        | some ob =>
          rw [z] at hG
          cases ob with
          | lst l =>
            simp only at hG
            cases z2 : lst2 st y with
            | none => rw [z2] at hG; exact hG.elim
            | some r =>
              rw [z2] at hG
              simp only [Option.bind_some] at hG
              by_cases c : l.length + r.length ≤ sizeLine
              · rw [if_pos c] at hG
                obtain ⟨vs, e1, q⟩ := S.obj n a _ e z
                obtain ⟨b, ws, rfl, e2, q2⟩ := lst2_at S hy z2
                exact mt_extend pins s σ H _ _ v us Q I rx rs ⟨a, b, vs, ws, rfl, rfl, e1, e2, by rw [← q.length, ← q2.length]; exact c, write_list S e (q.append q2) .non hG⟩
              · rw [if_neg c] at hG; exact hG.elim
          | _ => exact hG.elim
  · exact hG.elim
/-! an item op= -/
def rG (K : KZ) (g : D → D → V1 D) : V → V → Hp → VK → Prop := r2 K g
theorem get_list : PGet X (r2 (X.K, zz) gIxL) := by
  intro pins s σ H x y v u Q I rx ry ⟨m, d, e, st, S, hd, he, hG⟩
  unfold gIxL at hG
  cases h1 : lstOf st d with
  | none => rw [h1] at hG; exact hG.elim
  | some a =>
    rw [h1] at hG
    cases he with
    | int i =>
      have hG : GoodV (X.K, zz) m H Q ((atI a i).map fun d => (d, st)) := hG
      cases h2 : atI a i with
      | none => rw [h2] at hG; exact hG.elim
      | some d' =>
        rw [h2] at hG
        obtain ⟨l, vs, rfl, e1, q1⟩ := lstOf_at S hd h1
        obtain ⟨z, hz, rz⟩ := atI_rep q1 h2
        have q := GoodV.here S hG rz
        cases rx
        obtain ⟨t, rfl⟩ := ry
        obtain ⟨its, r, pl, hzl⟩ := I.list e1
        obtain ⟨j, h1, h2, h3, h4, h5⟩ := atI_get hz
        obtain ⟨w, ew, rw'⟩ := r.get h2
        have hl := r.length
        have hn := line63
        have fin : EP X pins σ Q w s := ⟨z, H, I, rw', q⟩
        by_cases h0 : 0 ≤ i
        · have hj : i.toNat = j := by
            rw [seqIndex_of h0 h5] at h1
            exact Option.some.inj h1
          exact wpAny_getItem_list pl.isList h0 (by omega) (by rw [hj]; simpa using ew) fin
        · have hj : (i + (its.toArray.size : Int)).toNat = j := by
            rw [seqIndex_neg (by omega) h4] at h1
            rw [List.size_toArray, ← hl]
            exact Option.some.inj h1
          exact wpAny_getItem_list_neg pl.isList (by omega) (by rw [List.size_toArray] <;> omega) (by omega) (by rw [hj]; simpa using ew) fin
    | _ => exact hG.elim
/-- o[i] op= e -/
def sAugS (gi : D → D → V1 D) (g : D → D → V1 D) (st : D → D → D → Sto → Option Sto) (o i e : EM) : SM := fun ρ s => ofE (bnd (o ρ) (fun x => bnd (i ρ) fun y => bnd (lift (gi x y)) fun old => bnd (e ρ) fun v => bnd (lift (g old v)) fun nw => lift fun s => (st x y nw s).map fun s' => (D.non, s')) s) ρ fun _ s' => .nx ρ s'
theorem s_augS {gi g : D → D → V1 D} {st : D → D → D → Sto → Option Sto} {op : Operator} {tpos : Pos} (hgi : PGet X (r2 (X.K, zz) gi)) (hop : PIp X op (r2 (X.K, zz) g)) (hst : PSet X (rSt (X.K, zz) st)) (ho : PE X o (tE (X.K, zz) W de)) (hi : PE X i (tE (X.K, zz) W di)) (he : PE X e (tE (X.K, zz) W dv))
    (ha : ∀ ov iv new, augStore i ov iv new = (do holding [new, ov, iv] (setItem ov iv new); release [new, ov, iv] []; pure .next) := by intros; rfl) :
    PS X (.AugAssign (.Subscript o i tpos) op e pos) (tS (X.K, zz) W (sAugS gi g st de di dv)) := by
  refine PS.imp (ps_augS ho hi hgi he hop hst ha) fun D σ H ⟨m, ρ, s, hE, hS, hG⟩ => ?_
  refine ⟨m, ρ, s, hE, hS, (Good.bind (GoodS.ofE (rel := Rep (X.K, zz)) hS hE hG)).mono fun v1 H1 ⟨m1, x, s1, e1, S1, q1, hG1⟩ => ?_⟩
  have E1 := hE.ext hS.noTup e1
  refine ⟨m1, ρ, s1, E1, S1, (Good.bind hG1).mono fun v2 H2 ⟨m2, y, s2, e2, S2, q2, hG2⟩ => ?_⟩
  have E2 := E1.ext S1.noTup e2
  refine ⟨m2, x, y, s2, S2, q1.ext S1.noTup e2, q2, (Good.bind hG2).lift.mono fun v3 H3 ⟨m3, old, s3, e3, S3, q3, hG3⟩ => ?_⟩
  have E3 := E2.ext S2.noTup e3
  refine ⟨m3, ρ, s3, E3, S3, (Good.bind hG3).mono fun v4 H4 ⟨m4, vd, s4, e4, S4, q4, hG4⟩ => ?_⟩
  have E4 := E3.ext S3.noTup e4
  refine ⟨m4, old, vd, s4, S4, q3.ext S3.noTup e4, q4, (Good.bind hG4).lift.mono fun v5 H5 ⟨m5, nw, s5, e5, S5, q5, hG5⟩ => ?_⟩
  have g5 := hG5.lift
  cases z : st x y nw s5 with
  | none => simp only [z, Option.map_none] at g5; exact g5.elim
  | some s6 =>
    simp only [z, Option.map_some] at g5
    refine ⟨m5, x, y, nw, s5, s6, S5, q1.ext S1.noTup (e2.trans (e3.trans (e4.trans e5))), q2.ext S2.noTup (e3.trans (e4.trans e5)), q5, z, fun m' H' f S' => ?_⟩
    obtain ⟨m7, _, s7, e7, S7, q7, E7, g7⟩ := g5 m' H' .non f S' .non
    exact g7 m7 H' σ Ext.refl S7 E7
theorem ip_addI : PIp X .Add (r2 (X.K, zz) gAddI) := fun pins s σ H x y v u Q I rx ry h => by
  obtain ⟨m, d, e, st, S, hd, he, hG⟩ := h
  cases hd with
  | int i =>
    cases he with
    | int j => exact ip_add pins s σ H _ _ v u Q I rx ry ⟨i, j, rfl, rfl, GoodV.here S hG (.int _)⟩
    | _ => exact hG.elim
  | _ => exact hG.elim
/-! a, b, c = x, y, z -/
def sPar3 (i j l : Nat) (a : AM) : SM := fun ρ s => ofE (a ρ s) ρ fun ds s' => match ds with
  | [x, y, z] => .nx (((ρ.set i (some x)).set j (some y)).set l (some z)) s'
  | _ => .stuck
theorem s_par3 {i j l : Nat} {x y z : Str} {a b c : Expr} {px py pz pt : Pos} {kt k2 pt2} (hN : X.N.Nodup) (ha : PA X [a, b, c] (tA (X.K, zz) W da)) (hi : X.N[i]? = some x := by rfl) (hj : X.N[j]? = some y := by rfl) (hl : X.N[l]? = some z := by rfl) (hij : i ≠ j := by decide) (hil : i ≠ l := by decide) (hjl : j ≠ l := by decide)
    (hx : X.env.scope.names.lookup x = some .local := by rfl) (hy : X.env.scope.names.lookup y = some .local := by rfl) (hz : X.env.scope.names.lookup z = some .local := by rfl) (hc : X.calm = true := by rfl)
    (hw : swappedStores [.Tuple [.Name x px, .Name y py, .Name z pz] kt pt] (.Tuple [a, b, c] k2 pt2) X.env = pure (some [x, y, z]) := by rfl)
    (hs : swapsWithSole [.Tuple [.Name x px, .Name y py, .Name z pz] kt pt] (.Tuple [a, b, c] k2 pt2) pos.line X.env = pure false := by rfl) :
    PS X (.Assign [.Tuple [.Name x px, .Name y py, .Name z pz] kt pt] (.Tuple [a, b, c] k2 pt2) pos) (tS (X.K, zz) W (sPar3 i j l da)) :=
  PS.imp (ps_par3 hc hN hi hj hl hij hil hjl hx hy hz ha hw hs) fun D σ H ⟨m, ρ, s, hE, hS, hG⟩ => ⟨m, ρ, s, hE, hS, (GoodS.ofE hS hE hG).mono fun v H1 ⟨m1, a, s1, e1, S1, q1, E1, g1⟩ => by
    cases q1 with
    | nil => exact g1.elim
    | cons h1 r1 =>
      cases r1 with
      | nil => exact g1.elim
      | cons h2 r2 =>
        cases r2 with
        | nil => exact g1.elim
        | cons h3 r3 =>
          cases r3 with
          | cons _ _ => exact g1.elim
          | nil => exact ⟨_, _, _, rfl, g1 m1 H1 _ Ext.refl S1 (((E1.set h1 i).set h2 j).set h3 l)⟩⟩
end
end QS
end

section
set_option Elab.async false
set_option linter.all false
set_option maxRecDepth 100000
set_option maxHeartbeats 4000000
/-! QS10: defs with their binding, calls of them. -/
namespace QS
open PySem PySem.Spec PyProof.Rows L2
/-- a def that keeps its promise, may be called -/
def OkF (P : Program) (w : World) (K : PySem.W.Frag) (mg : Str → Option Value) (base : Heap) (k : Nat) (f : Addr) (n : Nat) (F : List D → M D) : Prop :=
  ∃ (fd : FuncData) (ps : List Str), FnOk P w K mg base (L2.CX P w) k f fd ps (spF K n F) ∧ Binds K fd ps [] ∧ PySem.W.keepIn K (.ref f) = true
section
variable {P : Program} {w : World} {K : PySem.W.Frag} {mg : Str → Option Value} {base : Heap} {x qual : Str} {params : Arguments} {body : List Stmt} {scope : Scope} {f : Addr} {fd : FuncData} {N ps : List Str} {k n : Nat} {b : SM} {F : List D → M D}
theorem okF_def (Fd : FunD K x qual params body scope [] [] f fd) (S : FnScope N ps scope) (hn : ps.length = n)
    (hb : ∀ (kV doc pm : Value) (an : Option Addr) (cdv ct : Value) (us : List Value), us.length = ps.length → bindArgs (PySem.W.fnOf x qual params body scope .none kV doc pm an cdv ct) ⟨us, []⟩ = pure (ps.zip us))
    (h : ∀ (zz : List Addr) (cdv : Value) (A : Around) (outer : List Env) (s : Shared) (H : Hp) (E : XK), Room k (A.deeper (envOfC qual scope s.heap.objs.size f cdv)) →
      Takes (cxOf (L2.CX P w) P w K mg base N qual scope f cdv A outer s H E) (WF E) → PassesOwn (model P w) (A.deeper (envOfC qual scope s.heap.objs.size f cdv)) (envOfC qual scope s.heap.objs.size f cdv) (cxOf (L2.CX P w) P w K mg base N qual scope f cdv A outer s H E).xe →
      PSs (cxOf (L2.CX P w) P w K mg base N qual scope f cdv A outer s H E) body (tS (K, zz) (WF E) b)) :
    OkF P w K mg base (k + 1) f n (run N.length b) := by
  subst hn
  exact ⟨fd, ps, ok_def Fd S h, Fd.bindsN hb, Fd.kp⟩
theorem OkF.seal (h : OkF P w K mg base k f n F) : OkF P w K mg base k f n (sealF F) :=
  let ⟨fd, ps, a, b, c⟩ := h
  ⟨fd, ps, ok_seal a, b, c⟩
theorem OkF.mono {j : Nat} (h : OkF P w K mg base j f n F) (l : j ≤ k) : OkF P w K mg base k f n F :=
  let ⟨fd, ps, a, b, c⟩ := h
  ⟨fd, ps, a.mono l, b, c⟩
/-- nothing is promised -/
theorem okF_none (Fd : FunD K x qual params body scope [] [] f fd) (hn : ps.length = n)
    (hb : ∀ (kV doc pm : Value) (an : Option Addr) (cdv ct : Value) (us : List Value), us.length = ps.length → bindArgs (PySem.W.fnOf x qual params body scope .none kV doc pm an cdv ct) ⟨us, []⟩ = pure (ps.zip us)) :
    OkF P w K mg base k f n (fun _ _ => .stuck) :=
  ⟨fd, ps, ⟨fun vs H Q E q => q.1.trans hn.symm, fun A outer s H args us vs Q E _ _ _ _ q => by
    obtain ⟨_, zz, m, ds, st, r, S, hG⟩ := q
    exact hG.elim⟩, Fd.bindsN hb, Fd.kp⟩
end
section
variable {zz : List Addr} {X : Cx} {W : WX} {e o : Expr} {es : List Expr} {de : EM} {da : AM} {pos p : Pos} {x : Str} {k kk f n : Nat} {F : List D → M D}
theorem se_callO (G : OkF X.prog X.w X.K X.mg X.base k f n F) (hr : Room kk X.A) (hk : k ≤ kk) (hm : X.mg x = some (.ref f)) (tk : Takes X W)
    (ha : PA X (e :: es) (tA (X.K, zz) W da)) (hg : Gl X x := by rfl) (hdb : (x == ("__debug__" : Str)) = false := by decide) (he : starEach (e :: es) X.env = (false, eval e X.env) :: starEach es X.env := by rfl) (hpl : (backTo pos (starEach es X.env)).any (·.1) = false := by rfl) :
    PE X (.Call (.Name x p) (e :: es) [] pos) (tE (X.K, zz) W (eCall (fnN n F) da)) :=
  let ⟨_, _, a, b, c⟩ := G
  se_call a (hr.mono hk) hm c b tk ha hg hdb he hpl
theorem se_callO0 (G : OkF X.prog X.w X.K X.mg X.base k f 0 F) (hr : Room kk X.A) (hk : k ≤ kk) (hm : X.mg x = some (.ref f)) (tk : Takes X W)
    (hg : Gl X x := by rfl) (hdb : (x == ("__debug__" : Str)) = false := by decide) :
    PE X (.Call (.Name x p) [] [] pos) (tE (X.K, zz) W (eCall (fnN 0 F) aNil)) := by
  obtain ⟨fd, ps, a, b, c⟩ := G
  refine ⟨fun pins s σ H Q I h => ?_⟩
  refine wpAny_Call_Name_kw (ld_glob I hg hm ?_ hdb)
  obtain ⟨m, ρ, st, hE, hS, hG⟩ := h
  exact PySem.W.callWith_K0 I.kIn c (run_fnS (us := []) (vs := []) (E := WE W) a (hr.mono hk) b (passAt tk σ) I .nil (spF_of rfl .nil hS hG))
theorem se_makeO {cn : Str} (Mm : Mk X.K (He.ga X.K cn) f) (G : OkF X.prog X.w X.K X.mg X.base k f (n + 1) F) (hr : Room kk X.A) (hk : k + 1 ≤ kk) (hm : X.mg cn = some (.ref (He.ga X.K cn))) (tk : Takes X W)
    (ha : PA X (e :: es) (tA (X.K, zz) W da)) (hg : Gl X cn := by rfl) (hdb : (cn == ("__debug__" : Str)) = false := by decide) (he : starEach (e :: es) X.env = (false, eval e X.env) :: starEach es X.env := by rfl) (hpl : (backTo pos (starEach es X.env)).any (·.1) = false := by rfl) :
    PE X (.Call (.Name cn p) (e :: es) [] pos) (tE (X.K, zz) W (eMake cn (fnN (n + 1) F) da)) :=
  let ⟨_, _, a, b, c⟩ := G
  se_make Mm a (hr.mono hk) hm b tk ha hg hdb he hpl
theorem se_methO {cn mn : Str} {apos : Pos} {pl : Sem Bool} (c : Cls X.K (He.ga X.K cn)) (hm : Meth X.K (He.ga X.K cn) mn f) (G : OkF X.prog X.w X.K X.mg X.base k f (n + 1) F) (hr : Room kk X.A) (hk : k ≤ kk) (tk : Takes X W)
    (he : PE X o (tE (X.K, zz) W de)) (ha : PA X (e :: es) (tA (X.K, zz) W da)) (hst : starEach (e :: es) X.env = (false, eval e X.env) :: starEach es X.env := by rfl) (hpl : (backTo pos (starEach es X.env)).any (·.1) = false := by rfl)
    (ht : eval (.Call (.Attribute o mn apos) (e :: es) [] pos) X.env = (do
      let ov ← eval o X.env
      standAt apos.atName
      let (f, first) ← holding [ov] (getMethod ov mn pl)
      callWith pos f first (backTo pos (starEach (e :: es) X.env)) (backToKw pos (keywordEach [] X.env))) := by rfl) :
    PE X (.Call (.Attribute o mn apos) (e :: es) [] pos) (tE (X.K, zz) W (eMeth cn mn (fnN (n + 1) F) de da)) :=
  let ⟨_, _, a, b, _⟩ := G
  se_meth (pl := pl) c hm a (hr.mono hk) b tk he ha hst hpl ht
theorem se_methO0 {cn mn : Str} {apos : Pos} {pl : Sem Bool} (c : Cls X.K (He.ga X.K cn)) (hm : Meth X.K (He.ga X.K cn) mn f) (G : OkF X.prog X.w X.K X.mg X.base k f 1 F) (hr : Room kk X.A) (hk : k ≤ kk) (tk : Takes X W)
    (he : PE X o (tE (X.K, zz) W de))
    (ht : eval (.Call (.Attribute o mn apos) [] [] pos) X.env = (do
      let ov ← eval o X.env
      standAt apos.atName
      let (f, first) ← holding [ov] (getMethod ov mn pl)
      callWith pos f first (backTo pos (starEach [] X.env)) (backToKw pos (keywordEach [] X.env))) := by rfl) :
    PE X (.Call (.Attribute o mn apos) [] [] pos) (tE (X.K, zz) W (eMeth cn mn (fnN 1 F) de aNil)) :=
  let ⟨_, _, a, b, _⟩ := G
  se_meth0 (pl := pl) c hm a (hr.mono hk) b tk he ht
theorem room_u {kk c : Nat} {A : Around} (hr : Room kk A) (h : c ≤ 200) : A.units + c < cLine := by
  have := hr.un
  omega
/-- built-in types as values -/
theorem pe_tyN {T : String} (hm : X.mg (Str.ofString T) = none) (hv : bootBuiltins (Str.ofString T) = some (.type T)) (hg : Gl X (Str.ofString T) := by rfl) (hn : (Str.ofString T) ≠ "__name__" := by decide) (hd : ((Str.ofString T) == ("__debug__" : Str)) = false := by decide) : PE X (.Name (Str.ofString T) pos) (tC (.ty T)) :=
  pe_bltn hg hm hv rfl hn hd
/-- a written class as a value -/
theorem pe_clsN {cn : Str} (hm : X.mg cn = some (.ref (He.ga X.K cn))) (hg : Gl X cn := by rfl) (hd : (cn == ("__debug__" : Str)) = false := by decide) : PE X (.Name cn pos) (tC (.ref (He.ga X.K cn))) :=
  pe_glob hg hm rfl hd
end
/-! answers of isinstance -/
def builtinTys : List String := ["NoneType", "bool", "int", "str", "tuple", "list", "dict"]
/-- is it the built-in type T; of the written classes in cs it is not -/
def ansB (T : String) (cs : List Str) : TyV → Option Bool
  | .b n => if n ∈ builtinTys then some (n == T || (n == "bool" && T == "int")) else none
  | .o c => if c ∈ cs then some false else none
def isiB (K : PySem.W.Frag) (T : String) (cs : List Str) : Bool := cs.all fun c => decide (PySem.W.kitOne K (.ref (He.ga K c)) (.type T) = some false)
def clsB (K : PySem.W.Frag) (c : Str) : Bool := decide (PySem.W.findIn K (.ref (He.ga K c)) "__class__" = some (some (.builtin "object.__class__"))) && (decide (PySem.W.specialIn K (.builtin "object.__class__") "__get__" = some (some (.builtin "getset_descriptor.__get__"))) &&
  (decide (PySem.W.takesIn K (.builtin "object.__class__") = some true) && decide (PySem.W.mroIn K (He.ga K c) (.type "object") = some true)))
theorem clsI_of {K : PySem.W.Frag} {c : Str} (h : clsB K c = true) (hc : Cls K (He.ga K c)) : ClsI K c := by
  unfold clsB at h
  simp only [Bool.and_eq_true, decide_eq_true_eq] at h
  exact ⟨hc, h.1, h.2.1, h.2.2.1, h.2.2.2⟩
theorem ans_b {K : PySem.W.Frag} {T : String} {cs : List Str} (h : isiB K T cs = true) (hc : ∀ c ∈ cs, ClsI K c) (hk : ∀ n ∈ builtinTys, kitB n T = some (n == T || (n == "bool" && T == "int")) := by decide +kernel) : Ans K (.type T) (ansB T cs) := by
  intro t b ht
  cases t with
  | b n =>
    simp only [ansB] at ht
    by_cases m : n ∈ builtinTys
    · rw [if_pos m] at ht
      cases ht
      exact ⟨kit_ty (hk n m), fun c z => by cases z⟩
    · rw [if_neg m] at ht; cases ht
  | o c =>
    simp only [ansB] at ht
    by_cases m : c ∈ cs
    · rw [if_pos m] at ht
      cases ht
      unfold isiB at h
      rw [List.all_eq_true] at h
      exact ⟨of_decide_eq_true (h c m), fun c' z => by cases z; exact hc c m⟩
    · rw [if_neg m] at ht; cases ht
/-- is it of the written class cn; cs: the written classes it may be of -/
def ansO (cn : Str) (cs : List Str) : TyV → Option Bool
  | .b n => if n ∈ builtinTys then some false else none
  | .o c => if c ∈ cs then some (c == cn) else none
def isiO (K : PySem.W.Frag) (cn : Str) (cs : List Str) : Bool := (builtinTys.all fun n => decide (PySem.W.kitOne K (.type n) (.ref (He.ga K cn)) = some false)) && cs.all fun c => decide (PySem.W.kitOne K (.ref (He.ga K c)) (.ref (He.ga K cn)) = some (c == cn))
theorem ans_o {K : PySem.W.Frag} {cn : Str} {cs : List Str} (h : isiO K cn cs = true) (hc : ∀ c ∈ cs, ClsI K c) : Ans K (.ref (He.ga K cn)) (ansO cn cs) := by
  intro t b ht
  unfold isiO at h
  rw [Bool.and_eq_true, List.all_eq_true, List.all_eq_true] at h
  cases t with
  | b n =>
    simp only [ansO] at ht
    by_cases m : n ∈ builtinTys
    · rw [if_pos m] at ht
      cases ht
      exact ⟨of_decide_eq_true (h.1 n m), fun c z => by cases z⟩
    · rw [if_neg m] at ht; cases ht
  | o c =>
    simp only [ansO] at ht
    by_cases m : c ∈ cs
    · rw [if_pos m] at ht
      cases ht
      exact ⟨of_decide_eq_true (h.2 c m), fun c' z => by cases z; exact hc c m⟩
    · rw [if_neg m] at ht; cases ht
end QS
end

section
set_option Elab.async false
set_option linter.all false
set_option maxRecDepth 100000
set_option maxHeartbeats 4000000
/-! QS11: the end of a law. -/
namespace QS
open PySem PySem.Spec PyProof.Rows L2
theorem walk_end {l : PySem.W.OpenLaw} {n k : Nat} {q : Program} {loose : List Str} {XP : (Str → Option Value) → Heap → Prop} {YP : World → Heap → Prop} {d : DefRec} {x : Str} {F : List D → M D}
    (hn : l.most = some n) (hn2 : n ≤ sizeLine) (hdf : d.params.defaults = []) (hr : Room k callerA)
    (hF : ∀ (w : World) (mg : Str → Option Value) (fa : Addr) (h : Heap), YP w h → h.Ns mainGlobals mg → mg d.name = some (.ref fa) →
      ∃ (K : PySem.W.Frag) (fd : FuncData), K.In h ∧ (∀ (s : Shared) (u : Value), BindsTo s fd ⟨[u], []⟩ [(x, u)]) ∧
        ∀ base : Heap, K.In base → base.Ns mainGlobals mg → FnOk l.prog w K mg base (L2.CX l.prog w) k fa fd [x] (spF K 1 F))
    (hlaw : ∀ ns : List Int, ns.length ≤ n → ∃ s, F [.scr (ns.map D.int)] [] = .ok (.bl true) s) :
    PySem.W.WalkO q loose XP YP l.row.toRowW d [] (fun f vs => PySem.call f vs) := by
  refine Att.attach_call hn hdf fun w s₀ s₁ mg mb fa o pm cd doc a vs ns G Y ho hd hcd hmg hobj hints hlen hg => ?_
  obtain ⟨K, fd, KX, hb, hF⟩ := hF w mg fa _ Y G.T.g hmg
  refine law_call KX G.T.g G.T.b G.T.builtins G.T.nolimit hg hobj hints (Nat.le_trans hlen hn2) hr hF hb (fun H hO hS => ?_) fun H e s' ⟨_, _, _, _, _, _, _, _, _, _, _, _, z⟩ => z
  obtain ⟨s, hs⟩ := hlaw ns hlen
  refine ⟨rfl, [], [], [.scr (ns.map D.int)], [], .cons (.scr ?_ (rep_ints ns)) .nil, ⟨rfl, List.nodup_nil, fun d hd => (nomatch hd), fun i a o h1 _ => by simp at h1⟩, ?_⟩
  · rcases hS with (hS | ⟨o, hS⟩) | hS
    · rcases hO a with z | ⟨o, xs, z⟩
      · rw [hS] at z; cases z
      · rw [hS] at z; cases z
    · exact .inl ⟨o, hS⟩
    · exact .inr hS
  · rw [hs]
    intro m' H' v f S q
    cases q
    rfl
end QS
end

section
set_option Elab.async false
set_option linter.all false
set_option maxRecDepth 100000
set_option maxHeartbeats 4000000
/-! QS12: what is lost behind a suite; weakest preconditions of denotations. -/
namespace QS
open PySem PySem.Spec PyProof.Rows L2
/-! ### what a suite has laid is left behind -/
def cln (n : Nat) (ρ : En) : En := ρ.map fun o => o.bind fun d => if closed n d = true then some d else none
open Classical in
noncomputable def sClean (b : SM) : SM := fun ρ s => match b ρ s with
  | .nx ρ' s' => if OldOk s s' then .nx (cln s.length ρ') (s'.take s.length) else .stuck
  | .rt d s' => .rt d s'
  | .bk ρ' s' => .bk ρ' s'
  | .ct ρ' s' => .ct ρ' s'
  | .exn x ρ' s' => .exn x ρ' s'
  | .stuck => .stuck
theorem cln_rep {K : KZ} {m0 m' : List Addr} {H0 H' : Hp} {s0 : Sto} {ρ : En} {σ : St} (S0 : StR K m0 H0 s0) (e : Ext m0 H0 m' H') (E : EnR K m' H' ρ σ) : EnR K m0 H' (cln s0.length ρ) σ := by
  refine ⟨by simp [cln, E.len], fun i d h => ?_⟩
  unfold cln at h
  rw [List.getElem?_map] at h
  obtain ⟨o, h1, h2⟩ := Option.map_eq_some_iff.mp h
  obtain ⟨d', h3, h4⟩ := Option.bind_eq_some_iff.mp h2
  subst h3
  by_cases c : closed s0.length d' = true
  · rw [if_pos c] at h4
    cases h4
    obtain ⟨v, h5, h6⟩ := E.at_ i d h1
    refine ⟨v, h5, ?_⟩
    rw [← seal_take S0 e]
    exact closed_take h6 c
  · rw [if_neg c] at h4; cases h4
theorem clean_in {K : KZ} {W : WX} {D : Ends} {b : SM} {σ : St} {H : Hp} (h : tS K W (sClean b) D σ H) : tS K W b D σ H := by
  obtain ⟨m, ρ, s, hE, hS, hG⟩ := h
  refine ⟨m, ρ, s, hE, hS, ?_⟩
  unfold sClean at hG
  cases e : b ρ s with
  | nx ρ' s' =>
    simp only [e] at hG
    by_cases c : OldOk s s'
    · rw [if_pos c] at hG
      exact fun m' H' σ' f S q => hG m H' σ' (seal_ext f) (seal_str hS f S c) (cln_rep hS f q)
    · rw [if_neg c] at hG; exact hG.elim
  | rt d s' => simp only [e] at hG; exact hG
  | bk ρ' s' => simp only [e] at hG; exact hG
  | ct ρ' s' => simp only [e] at hG; exact hG
  | exn x ρ' s' => simp only [e] at hG; exact hG
  | stuck => simp only [e] at hG; exact hG
theorem ss_clean {zz : List Addr} {X : Cx} {W : WX} {l : List Stmt} {b : SM} (h : PSs X l (tS (X.K, zz) W b)) : PSs X l (tS (X.K, zz) W (sClean b)) := PSs.imp h fun _ _ _ h => clean_in h
theorem s_clean {zz : List Addr} {X : Cx} {W : WX} {l : Stmt} {b : SM} (h : PS X l (tS (X.K, zz) W b)) : PS X l (tS (X.K, zz) W (sClean b)) := PS.imp h fun _ _ _ h => clean_in h

/-! ### weakest preconditions -/
abbrev noX : Ex → Sto → Prop := fun _ _ => False
abbrev noXS : Ex → En → Sto → Prop := fun _ _ _ => False
section
variable {α β : Type}
def wp0 (r : Res α) (Q : α → Sto → Prop) (E : Ex → Sto → Prop) : Prop := match r with
  | .ok a s => Q a s
  | .exn x s => E x s
  | .stuck => False
/-- r ends well with Q, or with an exception and E -/
structure wp (r : Res α) (Q : α → Sto → Prop) (E : Ex → Sto → Prop := noX) : Prop where
  run : wp0 r Q E
def wpv0 (r : Option (α × Sto)) (Q : α → Sto → Prop) : Prop := match r with
  | some (a, s) => Q a s
  | none => False
structure wpv (r : Option (α × Sto)) (Q : α → Sto → Prop) : Prop where
  run : wpv0 r Q
def wps0 (r : SRes) (N : En → Sto → Prop) (R : D → Sto → Prop) (E : Ex → En → Sto → Prop) : Prop := match r with
  | .nx ρ s => N ρ s
  | .rt d s => R d s
  | .exn x ρ s => E x ρ s
  | _ => False
structure wps (r : SRes) (N : En → Sto → Prop) (R : D → Sto → Prop) (E : Ex → En → Sto → Prop := noXS) : Prop where
  run : wps0 r N R E
variable {s s' : Sto} {ρ : En} {Q Q' : α → Sto → Prop} {N N' : En → Sto → Prop} {R R' : D → Sto → Prop} {E E' : Ex → Sto → Prop} {X X' : Ex → En → Sto → Prop}
@[simp] theorem wp_ok {a : α} : wp (.ok a s) Q E = Q a s := propext ⟨fun h => h.run, fun h => ⟨h⟩⟩
@[simp] theorem wp_stuck : wp (.stuck : Res α) Q E = False := propext ⟨fun h => h.run, fun h => h.elim⟩
@[simp] theorem wp_exn {x : Ex} : wp (.exn x s : Res α) Q E = E x s := propext ⟨fun h => h.run, fun h => ⟨h⟩⟩
@[simp] theorem wpv_some {a : α} : wpv (some (a, s)) Q = Q a s := propext ⟨fun h => h.run, fun h => ⟨h⟩⟩
@[simp] theorem wpv_none : wpv (none : Option (α × Sto)) Q = False := propext ⟨fun h => h.run, fun h => h.elim⟩
@[simp] theorem wps_nx : wps (.nx ρ s) N R X = N ρ s := propext ⟨fun h => h.run, fun h => ⟨h⟩⟩
@[simp] theorem wps_rt {d : D} : wps (.rt d s) N R X = R d s := propext ⟨fun h => h.run, fun h => ⟨h⟩⟩
@[simp] theorem wps_stuck : wps .stuck N R X = False := propext ⟨fun h => h.run, fun h => h.elim⟩
@[simp] theorem wps_bk : wps (.bk ρ s) N R X = False := propext ⟨fun h => h.run, fun h => h.elim⟩
@[simp] theorem wps_ct : wps (.ct ρ s) N R X = False := propext ⟨fun h => h.run, fun h => h.elim⟩
@[simp] theorem wps_exn {x : Ex} : wps (.exn x ρ s) N R X = X x ρ s := propext ⟨fun h => h.run, fun h => ⟨h⟩⟩
/-- what raises nothing, before any wish -/
theorem wp.noX {r : Res α} (h : wp r Q) : wp r Q E := by
  cases r with
  | ok a s => rw [wp_ok] at h ⊢; exact h
  | exn x s => rw [wp_exn] at h; exact h.elim
  | stuck => rw [wp_stuck] at h; exact h.elim
theorem wp.mono {r : Res α} (h : wp r Q) (q : ∀ a s, Q a s → Q' a s) : wp r Q' E := by
  cases r with
  | ok a s => rw [wp_ok] at h ⊢; exact q _ _ h
  | exn x s => rw [wp_exn] at h; exact h.elim
  | stuck => rw [wp_stuck] at h; exact h.elim
theorem wp.monoX {r : Res α} (h : wp r Q E) (q : ∀ a s, Q a s → Q' a s) (q2 : ∀ x s, E x s → E' x s) : wp r Q' E' := by
  cases r with
  | ok a s => rw [wp_ok] at h ⊢; exact q _ _ h
  | exn x s => rw [wp_exn] at h ⊢; exact q2 _ _ h
  | stuck => rw [wp_stuck] at h; exact h.elim
theorem wps.mono {r : SRes} (h : wps r N R X) (q : ∀ a s, N a s → N' a s) (q2 : ∀ a s, R a s → R' a s) : wps r N' R' X := by
  cases r with
  | nx ρ s => rw [wps_nx] at h ⊢; exact q _ _ h
  | rt ρ s => rw [wps_rt] at h ⊢; exact q2 _ _ h
  | exn x ρ s => rw [wps_exn] at h ⊢; exact h
  | _ => exact h.run.elim
theorem wps.noX {r : SRes} (h : wps r N R) : wps r N R X := by
  cases r with
  | nx ρ s => rw [wps_nx] at h ⊢; exact h
  | rt ρ s => rw [wps_rt] at h ⊢; exact h
  | _ => exact h.run.elim
theorem wp_eq {r : Res α} {a : α} (h : wp r fun b s2 => b = a ∧ s2 = s) : r = .ok a s := by
  cases r with
  | ok b s2 => rw [wp_ok] at h; obtain ⟨rfl, rfl⟩ := h; rfl
  | _ => exact h.run.elim
/-- just this exception -/
theorem wp_eqX {r : Res α} {x : Ex} (h : wp r (fun _ _ => False) (fun y s2 => y = x ∧ s2 = s)) : r = .exn x s := by
  cases r with
  | exn b s2 => rw [wp_exn] at h; obtain ⟨rfl, rfl⟩ := h; rfl
  | _ => exact h.run.elim
theorem wps_eq {r : SRes} (h : wps r (fun ρ1 s1 => ρ1 = ρ ∧ s1 = s) (fun _ _ => False)) : r = .nx ρ s := by
  cases r with
  | nx b s2 => rw [wps_nx] at h; obtain ⟨rfl, rfl⟩ := h; rfl
  | _ => exact h.run.elim
theorem wps_eqR {r : SRes} {d : D} (h : wps r (fun _ _ => False) (fun e s1 => e = d ∧ s1 = s)) : r = .rt d s := by
  cases r with
  | rt b s2 => rw [wps_rt] at h; obtain ⟨rfl, rfl⟩ := h; rfl
  | _ => exact h.run.elim
theorem wp_get {r : Res α} (h : wp r Q) : ∃ a s, r = .ok a s ∧ Q a s := by
  cases r with
  | ok b s2 => rw [wp_ok] at h; exact ⟨b, s2, rfl, h⟩
  | _ => exact h.run.elim
@[simp] theorem wp_ret {a : α} : wp (ret a s) Q E = Q a s := wp_ok
@[simp] theorem wp_bnd {m : M α} {f : α → M β} {Q : β → Sto → Prop} : wp (bnd m f s) Q E = wp (m s) (fun a s' => wp (f a s') Q E) E := by
  unfold bnd
  cases m s <;> simp
@[simp] theorem wp_lift {v : V1 α} : wp (lift v s) Q E = wpv (v s) Q := by
  unfold lift
  rcases v s with _ | ⟨a, s'⟩ <;> simp
@[simp] theorem wps_ofE {r : Res α} {k : α → Sto → SRes} : wps (ofE r ρ k) N R X = wp r (fun a s' => wps (k a s') N R X) (fun x s' => X x ρ s') := by
  cases r <;> simp [ofE]
@[simp] theorem wpv_ite {c : Prop} [Decidable c] {a b : Option (α × Sto)} : wpv (if c then a else b) Q = if c then wpv a Q else wpv b Q := by
  by_cases h : c <;> simp [h]
theorem wpv_if {c : Prop} [Decidable c] {a : Option (α × Sto)} : wpv (if c then a else none) Q = (c ∧ wpv a Q) := by
  by_cases h : c <;> simp [h]
/-! expressions -/
variable {a b c : EM} {ds : AM} {ta tb : TM} {Q : D → Sto → Prop} {QB : Bool → Sto → Prop} {QL : List D → Sto → Prop}
def at0 (o : Option (Option D)) (P : D → Prop) : Prop := match o with
  | some (some d) => P d
  | _ => False
@[simp] theorem at0_some {d : D} {P : D → Prop} : at0 (some (some d)) P = P d := rfl
@[simp] theorem at0_none {P : D → Prop} : at0 (some none) P = False := rfl
@[simp] theorem wp_eVar {i : Nat} : wp (eVar i ρ s) Q E = at0 ρ[i]? fun d => Q d s := by
  unfold eVar at0
  rcases ρ[i]? with _ | _ | d <;> simp
@[simp] theorem wp_eC {d : D} : wp (eC d ρ s) Q E = Q d s := wp_ok
@[simp] theorem wp_eU {g : D → V1 D} : wp (eU g a ρ s) Q E = wp (a ρ s) (fun x s1 => wpv (g x s1) Q) E := by simp [eU]
@[simp] theorem wp_eB {g : D → D → V1 D} : wp (eB g a b ρ s) Q E = wp (a ρ s) (fun x s1 => wp (b ρ s1) (fun y s2 => wpv (g x y s2) Q) E) E := by simp [eB]
@[simp] theorem wp_aNil : wp (aNil ρ s) QL E = QL [] s := wp_ok
@[simp] theorem wp_aCons : wp (aCons a ds ρ s) QL E = wp (a ρ s) (fun x s1 => wp (ds ρ s1) (fun xs s2 => QL (x :: xs) s2) E) E := by simp [aCons]
@[simp] theorem wp_eF {g : List D → V1 D} : wp (eF g ds ρ s) Q E = wp (ds ρ s) (fun xs s1 => wpv (g xs s1) Q) E := by simp [eF]
@[simp] theorem wp_eCall {F : List D → M D} : wp (eCall F ds ρ s) Q E = wp (ds ρ s) (fun xs s1 => wp (F xs s1) Q E) E := by simp [eCall]
@[simp] theorem fnN0 {F : List D → M D} : fnN 0 F [] = F [] := fnN_at rfl
@[simp] theorem fnN1 {F : List D → M D} {x : D} : fnN 1 F [x] = F [x] := fnN_at rfl
@[simp] theorem fnN2 {F : List D → M D} {x y : D} : fnN 2 F [x, y] = F [x, y] := fnN_at rfl
@[simp] theorem fnN3 {F : List D → M D} {x y z : D} : fnN 3 F [x, y, z] = F [x, y, z] := fnN_at rfl
@[simp] theorem fnN4 {F : List D → M D} {x y z u : D} : fnN 4 F [x, y, z, u] = F [x, y, z, u] := fnN_at rfl
@[simp] theorem fnN5 {F : List D → M D} {x y z u v : D} : fnN 5 F [x, y, z, u, v] = F [x, y, z, u, v] := fnN_at rfl
@[simp] theorem wp_asB {b : Bool} : wp (asB (.bl b) s) QB E = QB b s := wp_ok
@[simp] theorem wp_tV : wp (tV a ρ s) QB E = wp (a ρ s) (fun x s1 => wp (asB x s1) QB E) E := by simp [tV]
@[simp] theorem wp_tNot : wp (QS.tNot ta ρ s) QB E = wp (ta ρ s) (fun b s1 => QB (!b) s1) E := by simp [QS.tNot]
@[simp] theorem wp_tAnd : wp (QS.tAnd ta tb ρ s) QB E = wp (ta ρ s) (fun b s1 => if b = true then wp (tb ρ s1) QB E else QB false s1) E := by
  simp only [QS.tAnd, wp_bnd]
  congr 1
  funext x s1
  cases x <;> simp
@[simp] theorem wp_tOr : wp (QS.tOr ta tb ρ s) QB E = wp (ta ρ s) (fun b s1 => if b = true then QB true s1 else wp (tb ρ s1) QB E) E := by
  simp only [QS.tOr, wp_bnd]
  congr 1
  funext x s1
  cases x <;> simp
@[simp] theorem wp_eAnd : wp (eAnd a b ρ s) Q E = wp (a ρ s) (fun x s1 => wp (asB x s1) (fun c s2 => if c = true then wp (b ρ s2) Q E else Q (.bl false) s2) E) E := by
  simp only [eAnd, wp_bnd]
  congr 1
  funext x s1
  congr 1
  funext c s2
  cases c <;> simp
@[simp] theorem wp_eOr : wp (eOr a b ρ s) Q E = wp (a ρ s) (fun x s1 => wp (asB x s1) (fun c s2 => if c = true then Q (.bl true) s2 else wp (b ρ s2) Q E) E) E := by
  simp only [eOr, wp_bnd]
  congr 1
  funext x s1
  congr 1
  funext c s2
  cases c <;> simp
@[simp] theorem wp_eNot : wp (QS.eNot a ρ s) Q E = wp (a ρ s) (fun x s1 => wp (asB x s1) (fun c s2 => Q (.bl (!c)) s2) E) E := by simp [QS.eNot]
@[simp] theorem wp_eIf : wp (eIf ta a b ρ s) Q E = wp (ta ρ s) (fun c s1 => if c = true then wp (a ρ s1) Q E else wp (b ρ s1) Q E) E := by
  simp only [eIf, wp_bnd]
  congr 1
  funext c s1
  cases c <;> simp
@[simp] theorem wp_eChain {g g' : D → D → V1 D} : wp (eChain g g' a b c ρ s) Q E = wp (a ρ s) (fun x s1 => wp (b ρ s1) (fun y s2 => wpv (g x y s2) fun z s3 => wp (asB z s3) (fun k s4 => if k = true then wp (c ρ s4) (fun w s5 => wpv (g' y w s5) Q) E else Q (.bl false) s4) E) E) E := by
  simp only [eChain, wp_bnd, wp_lift]
  congr 1
  funext x s1
  congr 1
  funext y s2
  congr 1
  funext z s3
  congr 1
  funext k s4
  cases k <;> simp
@[simp] theorem wp_eTup : wp (eTup ds ρ s) Q E = wp (ds ρ s) (fun xs s1 => xs.length ≤ sizeLine ∧ Q (.tup xs) s1) E := by
  simp only [eTup, wp_bnd, wp_lift, wpv_if, wpv_some]
@[simp] theorem wpv_new {mu : Bool} {l : List D} : wpv (new mu l s) Q = if mu = true then Q (.loc s.length) (s ++ [.lst l]) else Q (.lst l) s := by
  unfold new
  cases mu <;> simp
@[simp] theorem wp_eLst {mu : Bool} : wp (eLst mu ds ρ s) Q E = wp (ds ρ s) (fun xs s1 => xs.length ≤ sizeLine ∧ wpv (new mu xs s1) Q) E := by
  simp only [eLst, wp_bnd, wp_lift, wpv_if]
@[simp] theorem wp_oNone {QO : Option Int → Sto → Prop} : wp (oNone ρ s) QO E = QO none s := wp_ok
@[simp] theorem wp_asI {i : Int} {QO : Option Int → Sto → Prop} : wp (asI (.int i) s) QO E = QO (some i) s := wp_ok
@[simp] theorem wp_oSome {QO : Option Int → Sto → Prop} : wp (oSome a ρ s) QO E = wp (a ρ s) (fun x s1 => wp (asI x s1) QO E) E := by simp [oSome]
@[simp] theorem wp_eSl {g : D → Option Int → Option Int → V1 D} {lo hi : OM} : wp (eSl g a lo hi ρ s) Q E = wp (a ρ s) (fun x s1 => wp (lo ρ s1) (fun l s2 => wp (hi ρ s2) (fun h s3 => wpv (g x l h s3) Q) E) E) E := by simp [eSl]
@[simp] theorem wp_eMb {T : String} {g : D → List D → V1 D} : wp (eMb T g a ds ρ s) Q E = wp (a ρ s) (fun x s1 => tyB T s1 x = true ∧ wp (ds ρ s1) (fun xs s2 => wpv (g x xs s2) Q) E) E := by
  simp only [eMb, wp_bnd, wp_lift, wpv_if, wpv_some]
@[simp] theorem wp_eMeth {cn mn : Str} {F : List D → M D} : wp (eMeth cn mn F a ds ρ s) Q E = wp (a ρ s) (fun x s1 => (∃ p, insOf cn s1 x = some p ∧ p.1.contains mn = false) ∧ wp (ds ρ s1) (fun xs s2 => wp (F (x :: xs) s2) Q E) E) E := by
  simp only [eMeth, wp_bnd, wp_lift]
  congr 1
  funext x s1
  cases e : insOf cn s1 x with
  | none => simp
  | some p =>
    cases e2 : p.1.contains mn with
    | true => simp [e2]
    | false =>
      simp only [e2, Bool.false_eq_true, if_false, wpv_some, eq_iff_iff]
      exact ⟨fun h => ⟨⟨p, rfl, e2⟩, h⟩, fun h => h.2⟩
@[simp] theorem wp_eMake {cn : Str} {F : List D → M D} : wp (eMake cn F ds ρ s) Q E = wp (ds ρ s) (fun xs s1 => wp (F (.loc s1.length :: xs) (s1 ++ [.ins cn [] []])) (fun d s2 => d = .non ∧ Q (.loc s1.length) s2) E) E := by
  simp only [eMake, wp_bnd]
  congr 1
  funext xs s1
  cases e : F (.loc s1.length :: xs) (s1 ++ [.ins cn [] []]) with
  | ok d s2 => cases d <;> simp
  | exn x s2 => simp
  | stuck => simp
/-! statements -/
variable {sa sb : SM}
@[simp] theorem wps_sNil : wps (sNil ρ s) N R X = N ρ s := wps_nx
@[simp] theorem wps_sNever : wps (sNever ρ s) N R X = False := wps_stuck
@[simp] theorem wps_sSeq : wps (sSeq sa sb ρ s) N R X = wps (sa ρ s) (fun ρ' s' => wps (sb ρ' s') N R X) R X := by
  unfold sSeq
  cases sa ρ s <;> simp
@[simp] theorem wps_sE : wps (sE a ρ s) N R X = wp (a ρ s) (fun _ s' => N ρ s') (fun x s' => X x ρ s') := by simp [sE]
@[simp] theorem wps_sSet {i : Nat} : wps (sSet i a ρ s) N R X = wp (a ρ s) (fun d s' => N (ρ.set i (some d)) s') (fun x s' => X x ρ s') := by simp [sSet]
@[simp] theorem wps_sRet : wps (sRet a ρ s) N R X = wp (a ρ s) R (fun x s' => X x ρ s') := by simp [sRet]
@[simp] theorem wps_sIf : wps (sIf ta sa sb ρ s) N R X = wp (ta ρ s) (fun c s1 => if c = true then wps (sa ρ s1) N R X else wps (sb ρ s1) N R X) (fun x s' => X x ρ s') := by
  simp only [sIf, wps_ofE]
  congr 1
  funext c s1
  cases c <;> simp
@[simp] theorem wps_sAsg {g : GM} : wps (sAsg g a ρ s) N R X = wp (a ρ s) (fun d s' => ∃ ρ', g d ρ = some ρ' ∧ N ρ' s') (fun x s' => X x ρ s') := by
  simp only [sAsg, wps_ofE]
  congr 1
  funext d s1
  cases g d ρ with
  | none => simp
  | some ρ' => simp
def at2 (xs : List D) (P : D → D → Prop) : Prop := match xs with
  | [x, y] => P x y
  | _ => False
@[simp] theorem at2_two {x y : D} {P : D → D → Prop} : at2 [x, y] P = P x y := rfl
def at3 (xs : List D) (P : D → D → D → Prop) : Prop := match xs with
  | [x, y, z] => P x y z
  | _ => False
@[simp] theorem at3_three {x y z : D} {P : D → D → D → Prop} : at3 [x, y, z] P = P x y z := rfl
@[simp] theorem wps_sPar {i j : Nat} : wps (sPar i j ds ρ s) N R X = wp (ds ρ s) (fun xs s' => at2 xs fun x y => N ((ρ.set i (some x)).set j (some y)) s') (fun x s' => X x ρ s') := by
  simp only [sPar, wps_ofE]
  congr 1
  funext xs s1
  match xs with
  | [] => simp [at2]
  | [_] => simp [at2]
  | [x, y] => simp
  | _ :: _ :: _ :: _ => simp [at2]
@[simp] theorem wps_sPar3 {i j l : Nat} : wps (sPar3 i j l ds ρ s) N R X = wp (ds ρ s) (fun xs s' => at3 xs fun x y z => N (((ρ.set i (some x)).set j (some y)).set l (some z)) s') (fun x s' => X x ρ s') := by
  simp only [sPar3, wps_ofE]
  congr 1
  funext xs s1
  match xs with
  | [] => simp [at3]
  | [_] => simp [at3]
  | [_, _] => simp [at3]
  | [x, y, z] => simp
  | _ :: _ :: _ :: _ :: _ => simp [at3]
@[simp] theorem wps_sAug {i : Nat} {g : D → D → V1 D} : wps (sAug i g a ρ s) N R X = at0 ρ[i]? fun x => wp (a ρ s) (fun y s1 => wpv (g x y s1) fun d s2 => N (ρ.set i (some d)) s2) (fun x s' => X x ρ s') := by
  unfold sAug at0
  rcases ρ[i]? with _ | _ | d <;> simp
@[simp] theorem wps_sFld {cn f : Str} {v o : EM} : wps (QS.sFld cn f v o ρ s) N R X = wp (v ρ s) (fun d s1 => wp (o ρ s1) (fun x s2 => ∃ s3, gPutF cn f x d s2 = some s3 ∧ N ρ s3) (fun x s' => X x ρ s')) (fun x s' => X x ρ s') := by
  simp only [QS.sFld, wps_ofE, wp_bnd, wp_lift]
  congr 1
  funext d s1
  congr 1
  funext x s2
  cases gPutF cn f x d s2 <;> simp
@[simp] theorem wps_sSub {g : D → D → D → Sto → Option Sto} {v o i : EM} : wps (sSub g v o i ρ s) N R X = wp (v ρ s) (fun d s1 => wp (o ρ s1) (fun x s2 => wp (i ρ s2) (fun y s3 => ∃ s4, g x y d s3 = some s4 ∧ N ρ s4) (fun x s' => X x ρ s')) (fun x s' => X x ρ s')) (fun x s' => X x ρ s') := by
  simp only [sSub, wps_ofE, wp_bnd, wp_lift]
  congr 1
  funext d s1
  congr 1
  funext x s2
  congr 1
  funext y s3
  cases g x y d s3 <;> simp
@[simp] theorem wps_sAugS {gi g : D → D → V1 D} {st : D → D → D → Sto → Option Sto} {o i e : EM} : wps (sAugS gi g st o i e ρ s) N R X = wp (o ρ s) (fun x s1 => wp (i ρ s1) (fun y s2 => wpv (gi x y s2) fun old s3 => wp (e ρ s3) (fun v s4 => wpv (g old v s4) fun nw s5 => ∃ s6, st x y nw s5 = some s6 ∧ N ρ s6) (fun x s' => X x ρ s')) (fun x s' => X x ρ s')) (fun x s' => X x ρ s') := by
  simp only [sAugS, wps_ofE, wp_bnd, wp_lift]
  congr 1
  funext x s1
  congr 1
  funext y s2
  congr 1
  funext old s3
  congr 1
  funext v s4
  congr 1
  funext nw s5
  cases st x y nw s5 <;> simp
@[simp] theorem wps_sFor {i : IM} {g : GM} {b : SM} : wps (sFor i g b ρ s) N R X = wp (i ρ s) (fun it s' => wps (forL g b it.gd s' it.l ρ s') N R X) (fun x s' => X x ρ s') := by simp [sFor]
@[simp] theorem wp_iOf {f : α → V1 Items} {e : En → M α} {QI : Items → Sto → Prop} : wp (iOf f e ρ s) QI E = wp (e ρ s) (fun a s1 => wpv (f a s1) QI) E := by simp [iOf]
open Classical in
@[simp] theorem wps_sClean {b : SM} : wps (sClean b ρ s) N R X = wps (b ρ s) (fun ρ' s' => OldOk s s' ∧ N (cln s.length ρ') (s'.take s.length)) R X := by
  unfold sClean
  cases b ρ s with
  | nx ρ' s' =>
    simp only [wps_nx]
    by_cases c : OldOk s s' <;> simp [c]
  | _ => simp
/-- a loop by an invariant of what is left -/
theorem wps_forL {g : GM} {b : SM} {gd : Option Nat} {s0 : Sto} (P : List D → En → Sto → Prop) (hs : ∀ d r ρ s, P (d :: r) ρ s → ∃ ρ1, g d ρ = some ρ1 ∧ wps (b ρ1 s) (fun ρ' s' => (∀ n, gd = some n → s'[n]? = s0[n]?) ∧ P r ρ' s') R X)
    (he : ∀ ρ s, P [] ρ s → N ρ s) : ∀ (l : List D) (ρ : En) (s : Sto), P l ρ s → wps (forL g b gd s0 l ρ s) N R X
  | [], ρ, s, h => by unfold forL; rw [wps_nx]; exact he ρ s h
  | d :: r, ρ, s, h => by
    obtain ⟨ρ1, h1, h2⟩ := hs d r ρ s h
    unfold forL
    simp only [h1]
    cases e : b ρ1 s with
    | nx ρ' s' =>
      rw [e, wps_nx] at h2
      obtain ⟨h3, h4⟩ := h2
      simp only [if_pos h3]
      exact wps_forL P hs he r ρ' s' h4
    | rt d s' => rw [e, wps_rt] at h2; simp only [wps_rt]; exact h2
    | exn x ρ' s' => rw [e, wps_exn] at h2; simp only [wps_exn]; exact h2
    | _ => rw [e] at h2; exact h2.run.elim
/-- .. with break: it goes to the end -/
theorem wps_forB {g : GM} {b : SM} {gd : Option Nat} {s0 : Sto} (P : List D → En → Sto → Prop) (hs : ∀ d r ρ s, P (d :: r) ρ s → ∃ ρ1, g d ρ = some ρ1 ∧ match b ρ1 s with
      | .nx ρ' s' => (∀ n, gd = some n → s'[n]? = s0[n]?) ∧ P r ρ' s'
      | .ct ρ' s' => (∀ n, gd = some n → s'[n]? = s0[n]?) ∧ P r ρ' s'
      | .bk ρ' s' => N ρ' s'
      | .rt d s' => R d s'
      | .exn x ρ' s' => X x ρ' s'
      | .stuck => False)
    (he : ∀ ρ s, P [] ρ s → N ρ s) : ∀ (l : List D) (ρ : En) (s : Sto), P l ρ s → wps (forL g b gd s0 l ρ s) N R X
  | [], ρ, s, h => by unfold forL; rw [wps_nx]; exact he ρ s h
  | d :: r, ρ, s, h => by
    obtain ⟨ρ1, h1, h2⟩ := hs d r ρ s h
    unfold forL
    simp only [h1]
    cases e : b ρ1 s with
    | nx ρ' s' =>
      simp only [e] at h2
      simp only [if_pos h2.1]
      exact wps_forB P hs he r ρ' s' h2.2
    | ct ρ' s' =>
      simp only [e] at h2
      simp only [if_pos h2.1]
      exact wps_forB P hs he r ρ' s' h2.2
    | bk ρ' s' => simp only [e] at h2; simp only [wps_nx]; exact h2
    | rt d s' => simp only [e] at h2; simp only [wps_rt]; exact h2
    | exn x ρ' s' => simp only [e] at h2; simp only [wps_exn]; exact h2
    | stuck => simp only [e] at h2
/-- a while by an invariant with a measure -/
theorem wps_while {t : TM} {b : SM} (P : Nat → En → Sto → Prop) (hs : ∀ k ρ s, P k ρ s → wp (t ρ s) fun c s1 => if c = true then wps (b ρ s1) (fun ρ' s' => ∃ j, j < k ∧ P j ρ' s') R X else N ρ s1) :
    ∀ (k : Nat) (ρ : En) (s : Sto), P k ρ s → wps (sWhile t b ρ s) N R X := by
  intro k
  induction k using Nat.strongRecOn with
  | ind k ih =>
    intro ρ s h
    have h1 := hs k ρ s h
    cases e : t ρ s with
    | ok c s1 =>
      rw [e] at h1
      cases c with
      | false =>
        rw [sWhile_end e]
        simpa using h1
      | true =>
        have h1 : wps (b ρ s1) (fun ρ' s' => ∃ j, j < k ∧ P j ρ' s') R X := by simpa using h1
        cases e2 : b ρ s1 with
        | nx ρ' s' =>
          rw [e2] at h1
          rw [wps_nx] at h1
          obtain ⟨j, hj, hP⟩ := h1
          rw [sWhile_step e e2]
          exact ih j hj ρ' s' hP
        | rt d s' =>
          rw [e2, wps_rt] at h1
          rw [sWhile_ret e e2, wps_rt]
          exact h1
        | exn x ρ' s' =>
          rw [e2, wps_exn] at h1
          rw [sWhile_of (n := 1) (r := .exn x ρ' s') (by show wS t b _ ρ s = _; unfold wS; rw [e]; simp only [ofE, if_true, e2]) (fun z => nomatch z), wps_exn]
          exact h1
        | _ => rw [e2] at h1; exact h1.run.elim
    | _ => rw [e] at h1; exact h1.run.elim
/-- defs -/
theorem wp_run {N : Nat} {b : SM} {args : List D} (h : wps (b (args.map some ++ List.replicate (N - args.length) none) s) (fun _ s' => Q .non s') Q (fun x _ s' => E x s')) : wp (run N b args s) Q E := by
  unfold run
  cases e : b (args.map some ++ List.replicate (N - args.length) none) s with
  | nx ρ s' => simp only [e, wps_nx, wp_ok] at h ⊢; exact h
  | rt d s' => simp only [e, wps_rt, wp_ok] at h ⊢; exact h
  | exn x ρ s' => simp only [e, wps_exn, wp_exn] at h ⊢; exact h
  | _ => rw [e] at h; exact h.run.elim
/-- an exception that a sealed thing lets out -/
def exOut (s : Sto) (E : Ex → Sto → Prop) : Ex → Sto → Prop := fun x s1 => (∀ p, x.arg = some p → closed s.length p.2 = true) ∧ OldOk s s1 ∧ E x (s1.take s.length)
theorem wp_sealR {r : Res D} : wp (sealR s r) Q E = wp r (fun d s1 => ∃ d', frz 4 s.length s1 d = some d' ∧ OldOk s s1 ∧ Q d' (s1.take s.length)) (exOut s E) := by
  unfold sealR
  cases r with
  | ok d s1 =>
    simp only [wp_ok]
    cases e1 : frz 4 s.length s1 d with
    | none => simp
    | some d' =>
      by_cases c : OldOk s s1
      · simp [c]
      · simp [c]
  | exn x s1 =>
    simp only [wp_exn, exOut]
    cases e : x.arg with
    | none => by_cases c : OldOk s s1 <;> simp [c]
    | some p =>
      by_cases c : closed s.length p.2 = true
      · by_cases c2 : OldOk s s1 <;> simp [c, c2]
      · simp [c]
  | stuck => simp
theorem wp_seal {F : List D → M D} {args : List D} (h : wp (F args s) (fun d s1 => ∃ d', frz 4 s.length s1 d = some d' ∧ OldOk s s1 ∧ Q d' (s1.take s.length)) (exOut s E)) : wp (sealF F args s) Q E := by
  unfold sealF
  rw [wp_sealR]
  exact h
@[simp] theorem wp_eSeal : wp (eSeal a ρ s) Q E = wp (a ρ s) (fun d s1 => ∃ d', frz 4 s.length s1 d = some d' ∧ OldOk s s1 ∧ Q d' (s1.take s.length)) (exOut s E) := wp_sealR
@[simp] theorem wp_eLc {mu : Bool} {vs : List Nat} {i : IM} {g : GM} {t : TM} {e : EM} : wp (eLc mu vs i g t e ρ s) Q E = wp (i ρ s) (fun it s1 => it.l.length ≤ sizeLine ∧ wp (lcL g t e it.gd s1 (wipeD ρ vs) it.l s1) (fun l s2 => wpv (new mu l s2) Q) E) E := by
  simp only [eLc, wp_bnd, wp_lift]
  congr 1
  funext it s1
  by_cases c : it.l.length ≤ sizeLine
  · rw [if_pos c]; simp [c]
  · rw [if_neg c]; simp [c]
/-- a comprehension by an invariant: what is left, what came -/
theorem wp_lcL {g : GM} {t : TM} {e : EM} {gd : Option Nat} {s0 : Sto} {ρ : En} (P : List D → List D → Sto → Prop)
    (hs : ∀ d r acc s, P (d :: r) acc s → ∃ ρ1, g d ρ = some ρ1 ∧ wp (t ρ1 s) fun b s1 => if b = true then wp (e ρ1 s1) (fun y s2 => (∀ n, gd = some n → s2[n]? = s0[n]?) ∧ P r (acc ++ [y]) s2) else (∀ n, gd = some n → s1[n]? = s0[n]?) ∧ P r acc s1) :
    ∀ (l acc : List D) (s : Sto), P l acc s → wp (lcL g t e gd s0 ρ l s) (fun ys s' => P [] (acc ++ ys) s')
  | [], acc, s, h => by
    unfold lcL
    simpa using h
  | d :: r, acc, s, h => by
    obtain ⟨ρ1, h1, h2⟩ := hs d r acc s h
    unfold lcL
    simp only [h1]
    cases et : t ρ1 s with
    | ok b s1 =>
      rw [et] at h2
      cases b with
      | false =>
        have h2 : (∀ n, gd = some n → s1[n]? = s0[n]?) ∧ P r acc s1 := by simpa using h2
        simp only [if_pos h2.1]
        exact wp_lcL P hs r acc s1 h2.2
      | true =>
        have h2 : wp (e ρ1 s1) (fun y s2 => (∀ n, gd = some n → s2[n]? = s0[n]?) ∧ P r (acc ++ [y]) s2) := by simpa using h2
        cases ee : e ρ1 s1 with
        | ok y s2 =>
          rw [ee, wp_ok] at h2
          simp only [ee, if_true, if_pos h2.1]
          rw [wp_bnd]
          refine (wp_lcL P hs r (acc ++ [y]) s2 h2.2).mono fun ys s' q => ?_
          simpa using q
        | _ => rw [ee] at h2; exact h2.run.elim
    | _ => rw [et] at h2; exact h2.run.elim
/-- .. where nothing is laid or written -/
theorem lcL_pure {γ : Type} {g : GM} {t : TM} {e : EM} {gd : Option Nat} {ρ : En} {cv : γ → D} (p : γ → Bool) (f : γ → D) : ∀ (xs : List γ) (h : ∀ x ∈ xs, ∃ ρ1, g (cv x) ρ = some ρ1 ∧ t ρ1 s = .ok (p x) s ∧ (p x = true → e ρ1 s = .ok (f x) s)),
    lcL g t e gd s ρ (xs.map cv) s = .ok ((xs.filter p).map f) s
  | [], _ => rfl
  | x :: xs, h => by
    obtain ⟨ρ1, h1, h2, h3⟩ := h x (List.mem_cons_self ..)
    have ih := lcL_pure (gd := gd) p f xs fun y hy => h y (List.mem_cons_of_mem _ hy)
    rw [List.map_cons]
    unfold lcL
    simp only [h1, h2]
    cases e1 : p x with
    | false =>
      simp only [e1, List.filter_cons, Bool.false_eq_true, if_false]
      rw [if_pos (fun _ _ => True.intro)]
      exact ih
    | true =>
      simp only [e1, h3 e1, List.filter_cons, if_true, List.map_cons]
      rw [if_pos (fun _ _ => True.intro)]
      unfold bnd
      rw [ih]
      rfl
end
end QS
end

section
set_option Elab.async false
set_option linter.all false
set_option maxRecDepth 100000
set_option maxHeartbeats 4000000
/-! QS13: the operations in weakest preconditions. -/
namespace QS
open PySem PySem.Spec PyProof.Rows L2
def atO (o : Option O) (PL : List D → Prop) (PD : List Key → List D → Prop) (PI : Str → List Str → List D → Prop) : Prop := match o with
  | some (.lst l) => PL l
  | some (.dic ks vs) => PD ks vs
  | some (.ins c fs vs) => PI c fs vs
  | none => False
section
variable {PL : List D → Prop} {PD : List Key → List D → Prop} {PI : Str → List Str → List D → Prop}
@[simp] theorem atO_lst {l : List D} : atO (some (.lst l)) PL PD PI = PL l := rfl
@[simp] theorem atO_dic {ks : List Key} {l : List D} : atO (some (.dic ks l)) PL PD PI = PD ks l := rfl
@[simp] theorem atO_ins {c : Str} {fs : List Str} {l : List D} : atO (some (.ins c fs l)) PL PD PI = PI c fs l := rfl
@[simp] theorem atO_none : atO none PL PD PI = False := rfl
end
section
variable {s : Sto} {Q : D → Sto → Prop} {i j : Int} {n : Nat} {mu : Bool} {l r : List D} {x y : D}
@[simp] theorem wpv_addI : wpv (gAdd mu (.int i) (.int j) s) Q = Q (.int (i + j)) s := wpv_some
@[simp] theorem wpv_gAddI : wpv (gAddI (.int i) (.int j) s) Q = Q (.int (i + j)) s := wpv_some
@[simp] theorem wpv_sub : wpv (gSub (.int i) (.int j) s) Q = Q (.int (i - j)) s := wpv_some
@[simp] theorem wpv_mul : wpv (gMul mu (.int i) (.int j) s) Q = (MulOk i j ∧ Q (.int (i * j)) s) := by
  have e : gMul mu (.int i) (.int j) s = if MulOk i j then some (.int (i * j), s) else none := by
    by_cases c : MulOk i j
    · simp [gMul, orV2, gMulI, gI2, c]
    · simp [gMul, orV2, gMulI, gI2, c, gRepL, gRepT, lst2]
  rw [e, wpv_if, wpv_some]
@[simp] theorem wpv_div : wpv (gDiv (.int i) (.int j) s) Q = (DivOk i j ∧ Q (.int (i / j)) s) := (wpv_if (a := some (D.int (i / j), s))).trans (by rw [wpv_some])
@[simp] theorem wpv_mod : wpv (gMod (.int i) (.int j) s) Q = (0 < j ∧ Q (.int (i % j)) s) := (wpv_if (a := some (D.int (i % j), s))).trans (by rw [wpv_some])
@[simp] theorem wpv_pow : wpv (gPow (.int i) (.int j) s) Q = (PowOk i j ∧ Q (.int (i ^ j.toNat)) s) := (wpv_if (a := some (D.int (i ^ j.toNat), s))).trans (by rw [wpv_some])
@[simp] theorem wpv_lt : wpv (gLt (.int i) (.int j) s) Q = Q (.bl (decide (i < j))) s := wpv_some
@[simp] theorem wpv_le : wpv (gLe (.int i) (.int j) s) Q = Q (.bl (decide (i ≤ j))) s := wpv_some
@[simp] theorem wpv_gt : wpv (gGt (.int i) (.int j) s) Q = Q (.bl (decide (j < i))) s := wpv_some
@[simp] theorem wpv_ge : wpv (gGe (.int i) (.int j) s) Q = Q (.bl (decide (j ≤ i))) s := wpv_some
@[simp] theorem wpv_neg : wpv (gNeg (.int i) s) Q = Q (.int (-i)) s := wpv_some
@[simp] theorem lst2_lst : lst2 s (.lst l) = some l := rfl
@[simp] theorem wpv_addT : wpv (gAdd mu (.tup l) (.tup r) s) Q = (l.length + r.length ≤ sizeLine ∧ Q (.tup (l ++ r)) s) := by
  have e : gAdd mu (.tup l) (.tup r) s = if l.length + r.length ≤ sizeLine then some (.tup (l ++ r), s) else none := by
    by_cases c : l.length + r.length ≤ sizeLine
    · simp [gAdd, orV2, gAddI, gI2, gAddS, gAddT, c]
    · simp [gAdd, orV2, gAddI, gI2, gAddS, gAddT, c, gAddL, lst2]
  rw [e, wpv_if, wpv_some]
theorem gAddL_wp : wpv (gAddL mu x y s) Q = ∃ a b, lst2 s x = some a ∧ lst2 s y = some b ∧ a.length + b.length ≤ sizeLine ∧ wpv (new mu (a ++ b) s) Q := by
  unfold gAddL
  cases h1 : lst2 s x with
  | none => simp
  | some a =>
    cases h2 : lst2 s y with
    | none => simp
    | some b => simp [wpv_if]
@[simp] theorem wpv_addL : wpv (gAdd mu (.lst l) y s) Q = ∃ b, lst2 s y = some b ∧ l.length + b.length ≤ sizeLine ∧ wpv (new mu (l ++ b) s) Q := by
  have e : gAdd mu (.lst l) y s = gAddL mu (.lst l) y s := by simp [gAdd, orV2, gAddI, gI2, gAddS, gAddT]
  rw [e, gAddL_wp]
  simp
@[simp] theorem wpv_addLoc : wpv (gAdd mu (.loc n) y s) Q = ∃ a b, lst2 s (.loc n) = some a ∧ lst2 s y = some b ∧ a.length + b.length ≤ sizeLine ∧ wpv (new mu (a ++ b) s) Q := by
  have e : gAdd mu (.loc n) y s = gAddL mu (.loc n) y s := by simp [gAdd, orV2, gAddI, gI2, gAddS, gAddT]
  rw [e, gAddL_wp]
theorem lst2_loc (h : s[n]? = some (.lst l)) : lst2 s (.loc n) = some l := by simp [lst2, h]
@[simp] theorem wpv_addS {a b : Str} : wpv (gAdd mu (.str a) (.str b) s) Q = (a.length + b.length ≤ sizeLine ∧ Q (.str (a ++ b)) s) := by
  have e : gAdd mu (.str a) (.str b) s = if a.length + b.length ≤ sizeLine then some (.str (a ++ b), s) else none := by
    by_cases c : a.length + b.length ≤ sizeLine
    · simp [gAdd, orV2, gAddI, gI2, gAddS, c]
    · simp [gAdd, orV2, gAddI, gI2, gAddS, gAddT, c, gAddL, lst2]
  rw [e, wpv_if, wpv_some]
@[simp] theorem wpv_rep : wpv (gMul mu (.lst l) (.int i) s) Q = (i < 2 ^ 30 ∧ -(2 ^ 30) < i ∧ l.length * i.toNat ≤ sizeLine ∧ wpv (new mu (List.replicate i.toNat l).flatten s) Q) := by
  have e : gMul mu (.lst l) (.int i) s = if i < 2 ^ 30 ∧ -(2 ^ 30) < i ∧ l.length * i.toNat ≤ sizeLine then new mu (List.replicate i.toNat l).flatten s else none := by
    by_cases c : i < 2 ^ 30 ∧ -(2 ^ 30) < i ∧ l.length * i.toNat ≤ sizeLine
    · have : ∃ p, new mu (List.replicate i.toNat l).flatten s = some p := by unfold new; cases mu <;> exact ⟨_, rfl⟩
      obtain ⟨p, hp⟩ := this
      simp only [gMul, orV2, gMulI, gI2, gRepL, lst2, if_pos c, hp]
    · simp only [gMul, orV2, gMulI, gI2, gRepL, lst2, if_neg c, gRepT]
  rw [e, wpv_if]
  simp [and_assoc]
/-! subscripts -/
theorem ixN_nat {k : Nat} : ixN n (k : Int) = if k < n then some k else none := by
  unfold ixN
  rw [if_pos (Int.natCast_nonneg k)]
  by_cases c : k < n
  · rw [if_pos c, if_pos (by omega)]; simp
  · rw [if_neg c, if_neg (by omega)]
theorem atI_nat {α : Type} {l : List α} {k : Nat} : atI l (k : Int) = l[k]? := by
  unfold atI
  rw [ixN_nat]
  by_cases c : k < l.length
  · rw [if_pos c]; rfl
  · rw [if_neg c, List.getElem?_eq_none (by omega)]; rfl
@[simp] theorem atI0 {α : Type} {l : List α} : atI l 0 = l[0]? := atI_nat (k := 0)
@[simp] theorem atI1 {α : Type} {l : List α} : atI l 1 = l[1]? := atI_nat (k := 1)
@[simp] theorem atI2 {α : Type} {l : List α} : atI l 2 = l[2]? := atI_nat (k := 2)
@[simp] theorem atI3 {α : Type} {l : List α} : atI l 3 = l[3]? := atI_nat (k := 3)
@[simp] theorem atI4 {α : Type} {l : List α} : atI l 4 = l[4]? := atI_nat (k := 4)
@[simp] theorem ixN0 : ixN n 0 = if 0 < n then some 0 else none := ixN_nat (k := 0)
@[simp] theorem ixN1 : ixN n 1 = if 1 < n then some 1 else none := ixN_nat (k := 1)
@[simp] theorem ixN2 : ixN n 2 = if 2 < n then some 2 else none := ixN_nat (k := 2)
@[simp] theorem ixN3 : ixN n 3 = if 3 < n then some 3 else none := ixN_nat (k := 3)
@[simp] theorem ixN4 : ixN n 4 = if 4 < n then some 4 else none := ixN_nat (k := 4)
theorem wpv_map_bind {α : Type} {o : Option α} {f : α → D} : wpv (o.map fun d => (f d, s)) Q = ∃ d, o = some d ∧ Q (f d) s := by
  cases o <;> simp
@[simp] theorem wpv_ixT : wpv (gIx (.tup l) (.int i) s) Q = ∃ d, atI l i = some d ∧ Q d s := by
  have e : gIx (.tup l) (.int i) s = (atI l i).map fun d => (d, s) := by
    cases h : atI l i with
    | none => simp [gIx, orV2, gIxL, lstOf, gIxT, gIxS, h]
    | some d => simp [gIx, orV2, gIxL, lstOf, gIxT, h]
  rw [e]
  exact wpv_map_bind
theorem gIx_l {x : D} (h : lstOf s x = some l) (hx : ∀ l, x ≠ .tup l) (hs : ∀ l, x ≠ .str l) : gIx x (.int i) s = (atI l i).map fun d => (d, s) := by
  cases h2 : atI l i with
  | some d => simp [gIx, orV2, gIxL, h, h2]
  | none =>
    cases x with
    | tup l => exact absurd rfl (hx l)
    | str l => exact absurd rfl (hs l)
    | _ => simp [gIx, orV2, gIxL, h, h2, gIxT, gIxS]
@[simp] theorem wpv_ixL : wpv (gIx (.lst l) (.int i) s) Q = ∃ d, atI l i = some d ∧ Q d s := by
  rw [gIx_l (l := l) rfl (fun _ z => by cases z) (fun _ z => by cases z)]
  exact wpv_map_bind
@[simp] theorem wpv_ixScr : wpv (gIx (.scr l) (.int i) s) Q = ∃ d, atI l i = some d ∧ Q d s := by
  rw [gIx_l (l := l) rfl (fun _ z => by cases z) (fun _ z => by cases z)]
  exact wpv_map_bind
@[simp] theorem wpv_ixLoc : wpv (gIx (.loc n) (.int i) s) Q = atO s[n]? (fun l => ∃ d, atI l i = some d ∧ Q d s) (fun _ _ => False) (fun _ _ _ => False) := by
  cases h : s[n]? with
  | none => simp [gIx, orV2, gIxL, lstOf, h, gIxT, gIxS]
  | some o =>
    cases o with
    | lst l =>
      rw [gIx_l (l := l) (by simp [lstOf, h]) (fun _ z => by cases z) (fun _ z => by cases z)]
      exact wpv_map_bind
    | _ => simp [gIx, orV2, gIxL, lstOf, h, gIxT, gIxS]
@[simp] theorem wpv_gIxL_loc : wpv (gIxL (.loc n) (.int i) s) Q = atO s[n]? (fun l => ∃ d, atI l i = some d ∧ Q d s) (fun _ _ => False) (fun _ _ _ => False) := by
  cases h : s[n]? with
  | none => simp [gIxL, lstOf, h]
  | some o =>
    cases o with
    | lst l =>
      simp only [gIxL, lstOf, h, atO_lst]
      exact wpv_map_bind
    | _ => simp [gIxL, lstOf, h]
@[simp] theorem stL_loc {v : D} {s4 : Sto} : (gStL (.loc n) (.int i) v s = some s4) = atO s[n]? (fun l => ∃ k, ixN l.length i = some k ∧ s4 = s.set n (.lst (l.set k v))) (fun _ _ => False) (fun _ _ _ => False) := by
  cases h : s[n]? with
  | none => simp [gStL, h]
  | some o =>
    cases o with
    | lst l =>
      simp only [gStL, h, atO_lst, Option.map_eq_some_iff, eq_iff_iff]
      exact ⟨fun ⟨k, a, b⟩ => ⟨k, a, b.symm⟩, fun ⟨k, a, b⟩ => ⟨k, a, b.symm⟩⟩
    | _ => simp [gStL, h]
/-! slices -/
theorem orVS_some {g h : D → Option Int → Option Int → V1 D} {lo hi : Option Int} {p : D × Sto} (e : g x lo hi s = some p) : orVS g h x lo hi s = some p := by simp [orVS, e]
@[simp] theorem wpv_slT {lo hi : Option Int} : wpv (gSl mu (.tup l) lo hi s) Q = Q (.tup (cut l lo hi)) s := by
  simp [gSl, orVS, gSlL, lstOf, gSlT]
theorem gSl_l {x : D} {lo hi : Option Int} (h : lstOf s x = some l) : wpv (gSl mu x lo hi s) Q = wpv (new mu (cut l lo hi) s) Q := by
  have : ∃ p, new mu (cut l lo hi) s = some p := by unfold new; cases mu <;> exact ⟨_, rfl⟩
  obtain ⟨p, hp⟩ := this
  simp [gSl, orVS, gSlL, h, hp]
@[simp] theorem wpv_slL {lo hi : Option Int} : wpv (gSl mu (.lst l) lo hi s) Q = wpv (new mu (cut l lo hi) s) Q := gSl_l rfl
@[simp] theorem wpv_slScr {lo hi : Option Int} : wpv (gSl mu (.scr l) lo hi s) Q = wpv (new mu (cut l lo hi) s) Q := gSl_l rfl
@[simp] theorem wpv_slLoc {lo hi : Option Int} : wpv (gSl mu (.loc n) lo hi s) Q = atO s[n]? (fun l => wpv (new mu (cut l lo hi) s) Q) (fun _ _ => False) (fun _ _ _ => False) := by
  cases h : s[n]? with
  | none => simp [gSl, orVS, gSlL, lstOf, h, gSlT, gSlS]
  | some o =>
    cases o with
    | lst l => rw [atO_lst]; exact gSl_l (by simp [lstOf, h])
    | _ => simp [gSl, orVS, gSlL, lstOf, h, gSlT, gSlS]
/-! built-ins -/
@[simp] theorem wpv_lenT : wpv (gLen [.tup l] s) Q = Q (.int l.length) s := wpv_some
@[simp] theorem wpv_lenL : wpv (gLen [.lst l] s) Q = Q (.int l.length) s := wpv_some
@[simp] theorem wpv_lenScr : wpv (gLen [.scr l] s) Q = Q (.int l.length) s := wpv_some
@[simp] theorem wpv_lenLoc : wpv (gLen [.loc n] s) Q = atO s[n]? (fun l => Q (.int l.length) s) (fun ks _ => Q (.int ks.length) s) (fun _ _ _ => False) := by
  cases h : s[n]? with
  | none => simp [gLen, orVL, gLenS, gLenD, g1, seqOf, dicOf, h]
  | some o => cases o <;> simp [gLen, orVL, gLenS, gLenD, g1, seqOf, dicOf, h]
@[simp] theorem wpv_abs : wpv (gAbs [.int i] s) Q = Q (.int (if i < 0 then -i else i)) s := wpv_some
@[simp] theorem wpv_int : wpv (gInt [.int i] s) Q = Q (.int i) s := wpv_some
@[simp] theorem wpv_sumL {ns : List Int} : wpv (gSum [.lst (ns.map D.int)] s) Q = Q (.int ns.sum) s := by simp [gSum, g1, lstOf]
@[simp] theorem wpv_anyL {ns : List Bool} : wpv (gAny [.lst (ns.map D.bl)] s) Q = Q (.bl (ns.any id)) s := by simp [gAny, g1, lstOf]
@[simp] theorem wpv_allL {ns : List Bool} : wpv (gAll [.lst (ns.map D.bl)] s) Q = Q (.bl (ns.all id)) s := by simp [gAll, g1, lstOf]
@[simp] theorem wpv_tupleT : wpv (gTuple [.tup l] s) Q = Q (.tup l) s := wpv_some
@[simp] theorem wpv_tupleL : wpv (gTuple [.lst l] s) Q = Q (.tup l) s := wpv_some
@[simp] theorem wpv_tupleLoc : wpv (gTuple [.loc n] s) Q = atO s[n]? (fun l => Q (.tup l) s) (fun _ _ => False) (fun _ _ _ => False) := by
  cases h : s[n]? with
  | none => simp [gTuple, seqOf, h]
  | some o => cases o <;> simp [gTuple, seqOf, h]
@[simp] theorem wpv_listT : wpv (gList mu [.tup l] s) Q = wpv (new mu l s) Q := rfl
@[simp] theorem wpv_listL : wpv (gList mu [.lst l] s) Q = wpv (new mu l s) Q := rfl
@[simp] theorem wpv_listLoc : wpv (gList mu [.loc n] s) Q = atO s[n]? (fun l => wpv (new mu l s) Q) (fun _ _ => False) (fun _ _ _ => False) := by
  cases h : s[n]? with
  | none => simp [gList, seqOf, h]
  | some o => cases o <;> simp [gList, seqOf, h]
@[simp] theorem wpv_isNone : wpv (gIs x .non s) Q = Q (.bl (isNon x)) s := wpv_some
@[simp] theorem wpv_isNotNone : wpv (gIsNot x .non s) Q = Q (.bl (!isNon x)) s := wpv_some
@[simp] theorem isNon_non : isNon .non = true := rfl
@[simp] theorem isNon_int : isNon (.int i) = false := rfl
@[simp] theorem isNon_tup : isNon (.tup l) = false := rfl
@[simp] theorem isNon_lst : isNon (.lst l) = false := rfl
@[simp] theorem isNon_bl {b : Bool} : isNon (.bl b) = false := rfl
@[simp] theorem isNon_str {b : Str} : isNon (.str b) = false := rfl
@[simp] theorem isNon_loc : isNon (.loc n) = false := rfl
/-! isinstance -/
@[simp] theorem wpv_isi {ans : TyV → Option Bool} : wpv (gIsi ans x s) Q = ∃ t b, tyV s x = some t ∧ ans t = some b ∧ Q (.bl b) s := by
  unfold gIsi
  cases h : tyV s x with
  | none => simp
  | some t =>
    cases h2 : ans t with
    | none => simp [h2]
    | some b => simp only [Option.bind_some, h2, Option.map_some, wpv_some, eq_iff_iff]; exact ⟨fun q => ⟨t, b, rfl, h2, q⟩, fun ⟨t', b', e, e2, q⟩ => by cases e; rw [h2] at e2; cases e2; exact q⟩
@[simp] theorem tyV_int : tyV s (.int i) = some (.b "int") := rfl
@[simp] theorem tyV_non : tyV s .non = some (.b "NoneType") := rfl
@[simp] theorem tyV_bl {b : Bool} : tyV s (.bl b) = some (.b "bool") := rfl
@[simp] theorem tyV_str {b : Str} : tyV s (.str b) = some (.b "str") := rfl
@[simp] theorem tyV_tup : tyV s (.tup l) = some (.b "tuple") := rfl
@[simp] theorem tyV_lst : tyV s (.lst l) = some (.b "list") := rfl
@[simp] theorem tyV_ins {c : Str} {fs : List Str} : tyV s (.ins c fs l) = some (.o c) := rfl
/-! fields -/
theorem wpv_fld {c f : Str} : wpv (gFld c f x s) Q = ∃ p d, insOf c s x = some p ∧ fldD f p.1 p.2 = some d ∧ Q d s := by
  unfold gFld
  cases h : insOf c s x with
  | none => simp
  | some p =>
    cases h2 : fldD f p.1 p.2 with
    | none => simp [h2]
    | some d => simp [h2]
/-! walks -/
@[simp] theorem wpv_itTup {QI : Items → Sto → Prop} : wpv (itTup (.tup l) s) QI = QI ⟨l, none⟩ s := wpv_some
@[simp] theorem wpv_itSeqL {QI : Items → Sto → Prop} : wpv (itSeq (.lst l) s) QI = QI ⟨l, none⟩ s := wpv_some
@[simp] theorem wpv_itSeqScr {QI : Items → Sto → Prop} : wpv (itSeq (.scr l) s) QI = QI ⟨l, none⟩ s := wpv_some
@[simp] theorem wpv_itSeqLoc {QI : Items → Sto → Prop} : wpv (itSeq (.loc n) s) QI = atO s[n]? (fun l => QI ⟨l, some n⟩ s) (fun _ _ => False) (fun _ _ _ => False) := by
  cases h : s[n]? with
  | none => simp [itSeq, h]
  | some o => cases o <;> simp [itSeq, h]
def RngOk (j : Int) : Prop := -(2 ^ 62) ≤ j ∧ j < 2 ^ 62
theorem rngOk_of {j : Int} (h : -4611686018427387904 ≤ j) (h2 : j < 4611686018427387904) : RngOk j := ⟨by omega, by omega⟩
@[simp] theorem wpv_itRng1 {QI : Items → Sto → Prop} : wpv (itRng1 [.int j] s) QI = (RngOk j ∧ QI ⟨rngD 0 j.toNat, none⟩ s) := by
  simp only [itRng1, wpv_if, wpv_some, RngOk]
@[simp] theorem wpv_itRng2 {QI : Items → Sto → Prop} : wpv (itRng2 [.int i, .int j] s) QI = (RngOk i ∧ RngOk j ∧ QI ⟨rngD i (j - i).toNat, none⟩ s) := by
  simp only [itRng2, wpv_if, wpv_some, and_assoc, RngOk]
@[simp] theorem wpv_itEnumT {QI : Items → Sto → Prop} : wpv (itEnum [.tup l] s) QI = QI ⟨numD l, none⟩ s := wpv_some
@[simp] theorem wpv_itEnumL {QI : Items → Sto → Prop} : wpv (itEnum [.lst l] s) QI = QI ⟨numD l, none⟩ s := wpv_some
@[simp] theorem wpv_itZipT {QI : Items → Sto → Prop} : wpv (itZip [.tup l, .tup r] s) QI = QI ⟨(l.zip r).map fun z => .tup [z.1, z.2], none⟩ s := wpv_some
@[simp] theorem wpv_itZipL {QI : Items → Sto → Prop} : wpv (itZip [.lst l, .lst r] s) QI = QI ⟨(l.zip r).map fun z => .tup [z.1, z.2], none⟩ s := wpv_some
/-! targets -/
@[simp] theorem gSet_at {ρ : En} {k : Nat} : QS.gSet k x ρ = some (ρ.set k (some x)) := rfl
@[simp] theorem gTup_at {ρ : En} {k : Nat} {g : GMs} : QS.gTup k g (.tup l) ρ = if l.length = k then g l ρ else none := rfl
@[simp] theorem gCons_at {ρ : En} {g : GM} {gs : GMs} : QS.gCons g gs (x :: l) ρ = (g x ρ).bind fun ρ' => gs l ρ' := rfl
@[simp] theorem gNil_at {ρ : En} : QS.gNil [] ρ = some ρ := rfl
/-! a list's methods -/
@[simp] theorem wpv_append : wpv (gAppend (.loc n) [x] s) Q = atO s[n]? (fun l => l.length < sizeLine ∧ Q .non (s.set n (.lst (l ++ [x])))) (fun _ _ => False) (fun _ _ _ => False) := by
  cases h : s[n]? with
  | none => simp [gAppend, h]
  | some o => cases o <;> simp [gAppend, h, wpv_if]
@[simp] theorem wpv_popAt : wpv (gPopAt (.loc n) [.int i] s) Q = atO s[n]? (fun l => (-(2 ^ 63) ≤ i ∧ i < 2 ^ 63) ∧ ∃ k d, seqIndex? i l.length = some k ∧ l[k]? = some d ∧ Q d (s.set n (.lst (l.eraseIdx k)))) (fun _ _ => False) (fun _ _ _ => False) := by
  cases h : s[n]? with
  | none => simp [gPopAt, h]
  | some o =>
    cases o with
    | lst l =>
      simp only [gPopAt, h, wpv_if, atO_lst, eq_iff_iff]
      refine and_congr_right fun _ => ?_
      cases h1 : seqIndex? i l.length with
      | none => simp
      | some k =>
        cases h2 : l[k]? with
        | none => simp [h2]
        | some d => simp [h2]
    | _ => simp [gPopAt, h]
@[simp] theorem wpv_pop : wpv (gPop (.loc n) [] s) Q = atO s[n]? (fun l => ∃ d, l[l.length - 1]? = some d ∧ Q d (s.set n (.lst l.dropLast))) (fun _ _ => False) (fun _ _ _ => False) := by
  cases h : s[n]? with
  | none => simp [gPop, h]
  | some o =>
    cases o with
    | lst l =>
      cases h2 : l[l.length - 1]? with
      | none => simp [gPop, h, h2]
      | some d => simp [gPop, h, h2]
    | _ => simp [gPop, h]
theorem tyB_loc (h : s[n]? = some (.lst l)) : tyB "list" s (.loc n) = true := by simp [tyB, h]
/-! sealing -/
@[simp] theorem closed_int {k : Nat} : closed k (.int i) = true := by simp only [closed]
@[simp] theorem closed_non {k : Nat} : closed k .non = true := by simp only [closed]
@[simp] theorem closed_bl {k : Nat} {b : Bool} : closed k (.bl b) = true := by simp only [closed]
@[simp] theorem closed_str {k : Nat} {b : Str} : closed k (.str b) = true := by simp only [closed]
@[simp] theorem closed_adr {k : Nat} {a : Addr} : closed k (.adr a) = true := by simp only [closed]
@[simp] theorem closed_tup {k : Nat} : closed k (.tup l) = closedL k l := by simp only [closed]
@[simp] theorem closed_lst {k : Nat} : closed k (.lst l) = closedL k l := by simp only [closed]
@[simp] theorem closed_scr {k : Nat} : closed k (.scr l) = closedL k l := by simp only [closed]
@[simp] theorem closed_ins {k : Nat} {c : Str} {fs : List Str} : closed k (.ins c fs l) = closedL k l := by simp only [closed]
@[simp] theorem closed_dic {k : Nat} {ks : List Key} : closed k (.dic ks l) = closedL k l := by simp only [closed]
@[simp] theorem closed_loc {k : Nat} : closed k (.loc n) = decide (n < k) := by simp only [closed]
@[simp] theorem closedL_nil {k : Nat} : closedL k [] = true := by simp only [closedL]
@[simp] theorem closedL_cons {k : Nat} : closedL k (x :: l) = (closed k x && closedL k l) := by simp only [closedL]
theorem closedL_all {k : Nat} : ∀ {l : List D}, closedL k l = true ↔ ∀ d ∈ l, closed k d = true
  | [] => by simp
  | d :: r => by simp [closedL_all (l := r)]
@[simp] theorem closedL_app {k : Nat} : closedL k (l ++ r) = (closedL k l && closedL k r) := by
  induction l with
  | nil => simp
  | cons d t ih => simp [ih, Bool.and_assoc]
@[simp] theorem closedL_ints {k : Nat} {ns : List Int} : closedL k (ns.map D.int) = true := closedL_all.mpr fun d hd => by
  obtain ⟨i, _, rfl⟩ := List.mem_map.mp hd
  simp
theorem frz_closed {j k : Nat} {d : D} (h : closed k d = true) : frz j k s d = some d := by
  cases j with
  | zero => unfold frz; rw [if_pos h]
  | succ j => unfold frz; rw [if_pos h]
theorem OldOk.refl (s : Sto) : OldOk s s := ⟨Nat.le_refl _, fun i hi => .inl rfl⟩
theorem OldOk.app (s g : Sto) : OldOk s (s ++ g) := ⟨by simp, fun i hi => .inl (by rw [List.getElem?_append_left hi])⟩
/-- a def that lays nothing -/
theorem seal_pure {E : Ex → Sto → Prop} {F : List D → M D} {args : List D} (h : wp (F args s) (fun d s1 => s1 = s ∧ closed s.length d = true ∧ Q d s) (fun x s1 => s1 = s ∧ (∀ p, x.arg = some p → closed s.length p.2 = true) ∧ E x s)) : wp (sealF F args s) Q E :=
  wp_seal (h.monoX (fun d s1 ⟨e, c, q⟩ => by
    subst e
    exact ⟨d, frz_closed c, OldOk.refl _, by rw [List.take_of_length_le (Nat.le_refl _)]; exact q⟩) fun x s1 ⟨e, c, q⟩ => by
    subst e
    exact ⟨c, OldOk.refl _, by rw [List.take_of_length_le (Nat.le_refl _)]; exact q⟩)
/-- .. that lays -/
theorem seal_new {E : Ex → Sto → Prop} {F : List D → M D} {args : List D} (h : wp (F args s) (fun d s1 => ∃ g d', s1 = s ++ g ∧ frz 4 s.length s1 d = some d' ∧ Q d' s) (fun x s1 => ∃ g, s1 = s ++ g ∧ (∀ p, x.arg = some p → closed s.length p.2 = true) ∧ E x s)) : wp (sealF F args s) Q E :=
  wp_seal (h.monoX (fun d s1 ⟨g, d', e, c, q⟩ => by
    subst e
    exact ⟨d', c, OldOk.app _ _, by rw [List.take_left]; exact q⟩) fun x s1 ⟨g, e, c, q⟩ => by
    subst e
    exact ⟨c, OldOk.app _ _, by rw [List.take_left]; exact q⟩)
theorem frz_lst {k j : Nat} (h : s[n]? = some (.lst l)) (hn : ¬ n < k) (hc : closedL k l = true) : frz (j + 1) k s (.loc n) = some (.lst l) := by
  unfold frz
  have hn' : ¬ closed k (.loc n) = true := by simpa using hn
  rw [if_neg hn']
  simp only [h]
  have : l.mapM (frz j k s) = some l := by
    clear h
    induction l with
    | nil => rfl
    | cons d r ih =>
      simp only [closedL_cons, Bool.and_eq_true] at hc
      rw [List.mapM_cons, frz_closed hc.1, ih hc.2]
      rfl
  rw [this]
  rfl
end
end QS
end

section
set_option Elab.async false
set_option linter.all false
set_option maxRecDepth 100000
set_option maxHeartbeats 4000000
/-! QS14: equality of data, the hand of cells. -/
namespace QS
open PySem PySem.Spec PyProof.Rows L2
theorem divOk_small {i j : Int} (h : 0 < j) (h2 : j < 2 ^ 64) : DivOk i j := by
  refine ⟨h, ?_⟩
  have h3 : j.natAbs < 2 ^ 64 := by omega
  by_cases z : j.natAbs = 0
  · rw [z]; decide
  · have := (Nat.log2_lt z).mpr h3
    omega
theorem divOk_of {i j : Int} (h : 0 < j) (h2 : j < 2 ^ 8000) : DivOk i j := by
  refine ⟨h, ?_⟩
  have h3 : j.natAbs < 2 ^ 8000 := by omega
  by_cases z : j.natAbs = 0
  · rw [z]; decide
  · have := (Nat.log2_lt z).mpr h3
    omega
theorem mulOk_l {i j : Int} (h : -(2 ^ 64) < i) (h2 : i < 2 ^ 64) : MulOk i j := .inl (.inl ⟨h, h2⟩)
theorem mulOk_r {i j : Int} (h : -(2 ^ 64) < j) (h2 : j < 2 ^ 64) : MulOk i j := .inl (.inr ⟨h, h2⟩)
theorem mulOk_of {i j : Int} {a b : Nat} (h : i.natAbs < 2 ^ a) (h2 : j.natAbs < 2 ^ b) (h3 : a + b < 900000) : MulOk i j := by
  refine .inr ?_
  have key : ∀ (x : Int) (a : Nat), x.natAbs < 2 ^ a → x.natAbs.log2 ≤ a := fun x a hx => by
    by_cases z : x.natAbs = 0
    · rw [z]; simp [Nat.log2_zero]
    · exact Nat.le_of_lt ((Nat.log2_lt z).mpr hx)
  have h4 := key i a h
  have h5 := key j b h2
  show i.natAbs.log2 + j.natAbs.log2 < 1000000
  omega
theorem powOk {i j : Int} (h : 0 ≤ j) (h2 : j ≤ 1000000) (h3 : i.natAbs < 2 ^ 64) : PowOk i j := ⟨h, h2, h3⟩
/-! ### equality -/
section
variable {s : Sto} {Q : D → Sto → Prop} {i j : Int} {a b : Str} {x y : D}
theorem shaped_int : SeqAt.shaped (.int i) = true := by simp [SeqAt.shaped, PyData.canLay0, PyData.depth]
@[simp] theorem wpv_eqI : wpv (gEq (.int i) (.int j) s) Q = Q (.bl (decide (i = j))) s := by
  have e : gEq (.int i) (.int j) s = some (.bl (decide (i = j)), s) := by
    simp only [gEq, gEqF, datOf, dat0, shaped_int, and_self, if_true, id, PyData.eqv]
    rfl
  rw [e, wpv_some]
@[simp] theorem wpv_neI : wpv (gNe (.int i) (.int j) s) Q = Q (.bl (!decide (i = j))) s := by
  have e : gNe (.int i) (.int j) s = some (.bl (!decide (i = j)), s) := by
    simp only [gNe, gEqF, datOf, dat0, shaped_int, and_self, if_true, PyData.eqv]
    rfl
  rw [e, wpv_some]
/-- a family of data that are equal just when they are the same -/
structure Fam (α : Type) [DecidableEq α] where
  c : α → D
  p : α → PyData
  k : Nat
  hd : ∀ x, dat0 (c x) = some (p x)
  he : ∀ x y, PyData.eqv (p x) (p y) = decide (x = y)
  hc : ∀ x, PyData.canLay0 (p x) = true
  hk : ∀ x, PyData.depth (p x) ≤ k
  cl : ∀ n x, closed n (c x) = true
theorem dat0_ne {d : D} {x : PyData} (h : dat0 d = some x) (s : Sto) : datOf s d = some x := by
  cases d with
  | loc n => simp [dat0] at h
  | _ => exact h
theorem Fam.eq {α : Type} [DecidableEq α] (F : Fam α) (hk : F.k ≤ 64) (x y : α) : gEq (F.c x) (F.c y) s = some (.bl (decide (x = y)), s) := by
  have sh : ∀ z, SeqAt.shaped (F.p z) = true := fun z => by
    have := F.hk z
    simp only [SeqAt.shaped, F.hc z, Bool.true_and, decide_eq_true_eq]
    omega
  simp only [gEq, gEqF, dat0_ne (F.hd x) s, dat0_ne (F.hd y) s, sh, and_self, if_true, id, F.he]
theorem Fam.ne {α : Type} [DecidableEq α] (F : Fam α) (hk : F.k ≤ 64) (x y : α) : gNe (F.c x) (F.c y) s = some (.bl (!decide (x = y)), s) := by
  have sh : ∀ z, SeqAt.shaped (F.p z) = true := fun z => by
    have := F.hk z
    simp only [SeqAt.shaped, F.hc z, Bool.true_and, decide_eq_true_eq]
    omega
  simp only [gNe, gEqF, dat0_ne (F.hd x) s, dat0_ne (F.hd y) s, sh, and_self, if_true, F.he]
end
theorem dat0L_map {α : Type} {c : α → D} {p : α → PyData} (h : ∀ x, dat0 (c x) = some (p x)) : ∀ l : List α, dat0L (l.map c) = some (l.map p)
  | [] => by simp [dat0L]
  | x :: r => by simp [dat0L, h x, dat0L_map h r]
theorem eqvAll_map {α : Type} [DecidableEq α] {p : α → PyData} (h : ∀ x y, PyData.eqv (p x) (p y) = decide (x = y)) : ∀ l r : List α, PyData.eqvAll (l.map p) (r.map p) = decide (l = r)
  | [], [] => by simp [PyData.eqvAll]
  | [], _ :: _ => by simp [PyData.eqvAll]
  | _ :: _, [] => by simp [PyData.eqvAll]
  | x :: l, y :: r => by simp [PyData.eqvAll, h x y, eqvAll_map h l r, Bool.decide_and]
theorem canLayAll_map {α : Type} {p : α → PyData} (h : ∀ x, PyData.canLay0 (p x) = true) : ∀ l : List α, PyData.canLayAll0 (l.map p) = true
  | [] => by simp [PyData.canLayAll0]
  | x :: r => by simp [PyData.canLayAll0, h x, canLayAll_map h r]
theorem depthAll_map {α : Type} {p : α → PyData} {k : Nat} (h : ∀ x, PyData.depth (p x) ≤ k) : ∀ l : List α, PyData.depthAll (l.map p) ≤ k
  | [] => by simp [PyData.depthAll]
  | x :: r => by
    have h1 := h x
    have h2 := depthAll_map h r
    simp only [List.map_cons, PyData.depthAll]
    omega
def famInt : Fam Int := ⟨D.int, PyData.int, 1, fun _ => rfl, fun x y => by simp only [PyData.eqv]; rfl, fun _ => rfl, fun _ => by simp [PyData.depth], fun _ _ => by simp⟩
def famTup {α : Type} [DecidableEq α] (F : Fam α) : Fam (List α) := ⟨fun l => .tup (l.map F.c), fun l => .tuple (l.map F.p), F.k + 1, fun l => by simp [dat0, dat0L_map F.hd l], fun x y => by simp only [PyData.eqv]; exact eqvAll_map F.he x y, fun l => by simp only [PyData.canLay0]; exact canLayAll_map F.hc l,
  fun l => by have := depthAll_map F.hk l; simp only [PyData.depth]; omega, fun n l => by simp only [closed_tup]; exact closedL_all.mpr fun d hd => by obtain ⟨x, _, rfl⟩ := List.mem_map.mp hd; exact F.cl n x⟩
def famLst {α : Type} [DecidableEq α] (F : Fam α) : Fam (List α) := ⟨fun l => .lst (l.map F.c), fun l => .list (l.map F.p), F.k + 1, fun l => by simp [dat0, dat0L_map F.hd l], fun x y => by simp only [PyData.eqv]; exact eqvAll_map F.he x y, fun l => by simp only [PyData.canLay0]; exact canLayAll_map F.hc l,
  fun l => by have := depthAll_map F.hk l; simp only [PyData.depth]; omega, fun n l => by simp only [closed_lst]; exact closedL_all.mpr fun d hd => by obtain ⟨x, _, rfl⟩ := List.mem_map.mp hd; exact F.cl n x⟩
def famPair {α β : Type} [DecidableEq α] [DecidableEq β] (F : Fam α) (G : Fam β) : Fam (α × β) := ⟨fun x => .tup [F.c x.1, G.c x.2], fun x => .tuple [F.p x.1, G.p x.2], max F.k G.k + 1, fun x => by simp [dat0, dat0L, F.hd, G.hd],
  fun x y => by simp only [PyData.eqv, PyData.eqvAll, F.he, G.he, Bool.and_true]; rw [← Bool.decide_and]; simp [Prod.ext_iff], fun x => by simp [PyData.canLay0, PyData.canLayAll0, F.hc, G.hc],
  fun x => by have h1 := F.hk x.1; have h2 := G.hk x.2; simp only [PyData.depth, PyData.depthAll]; omega, fun n x => by simp [F.cl, G.cl]⟩
/-- a pair of numbers -/
def pD (p : Int × Int) : D := .tup [.int p.1, .int p.2]
def famP : Fam (Int × Int) := famPair famInt famInt
@[simp] theorem famP_c : famP.c = pD := rfl
@[simp] theorem closed_pD {n : Nat} {p : Int × Int} : closed n (pD p) = true := famP.cl n p
@[simp] theorem closedL_pD {n : Nat} {l : List (Int × Int)} : closedL n (l.map pD) = true := by
  have := (famTup famP).cl n l
  simpa [famTup] using this
section
variable {s : Sto} {Q : D → Sto → Prop}
theorem wpv_eqTI {a b : List Int} : wpv (gEq (.tup (a.map .int)) (.tup (b.map .int)) s) Q = Q (.bl (decide (a = b))) s := by
  have := (famTup famInt).eq (s := s) (by decide) a b
  rw [show gEq (.tup (a.map .int)) (.tup (b.map .int)) s = _ from this, wpv_some]
theorem wpv_neTI {a b : List Int} : wpv (gNe (.tup (a.map .int)) (.tup (b.map .int)) s) Q = Q (.bl (!decide (a = b))) s := by
  have := (famTup famInt).ne (s := s) (by decide) a b
  rw [show gNe (.tup (a.map .int)) (.tup (b.map .int)) s = _ from this, wpv_some]
end
/-! ### the hand -/
def WH (o : O) : Prop := ∃ (cells : List Int) (p b m c : Int), o = .lst [.lst (cells.map D.int), .int p, .int b, .int m, .int c] ∧ 0 ≤ p
def HandAt (n : Nat) (s : Sto) : Prop := ∃ o, s[n]? = some o ∧ WH o
structure Hs (n : Nat) (s s' : Sto) : Prop where
  len : s'.length = s.length
  same : ∀ j, j ≠ n → s'[j]? = s[j]?
  hand : HandAt n s'
theorem HandAt.lt {n : Nat} {s : Sto} (h : HandAt n s) : n < s.length := by
  obtain ⟨o, h, _⟩ := h
  exact (List.getElem?_eq_some_iff.mp h).1
theorem Hs.refl {n : Nat} {s : Sto} (h : HandAt n s) : Hs n s s := ⟨rfl, fun _ _ => rfl, h⟩
theorem Hs.trans {n : Nat} {s s1 s2 : Sto} (h : Hs n s s1) (g : Hs n s1 s2) : Hs n s s2 := ⟨g.len.trans h.len, fun j hj => (g.same j hj).trans (h.same j hj), g.hand⟩
theorem WH.closed {o : O} (h : WH o) (k : Nat) : o.closed k = true := by
  obtain ⟨cells, p, b, m, c, rfl, _⟩ := h
  simp [O.closed]
/-- with more behind it -/
structure Hx (n : Nat) (s s' : Sto) : Prop where
  len : s.length ≤ s'.length
  same : ∀ j, j < s.length → j ≠ n → s'[j]? = s[j]?
  hand : HandAt n s'
theorem Hs.x {n : Nat} {s s' : Sto} (h : Hs n s s') : Hx n s s' := ⟨Nat.le_of_eq h.len.symm, fun j _ hj => h.same j hj, h.hand⟩
theorem Hx.trans {n : Nat} {s s1 s2 : Sto} (h : Hx n s s1) (g : Hx n s1 s2) : Hx n s s2 := ⟨Nat.le_trans h.len g.len, fun j hj hn => (g.same j (Nat.lt_of_lt_of_le hj h.len) hn).trans (h.same j hj hn), g.hand⟩
theorem Hx.app {n : Nat} {s : Sto} (h : HandAt n s) (g : Sto) : Hx n s (s ++ g) := ⟨by simp, fun j hj _ => List.getElem?_append_left hj, by
  obtain ⟨o, h1, h2⟩ := h
  exact ⟨o, by rw [List.getElem?_append_left (HandAt.lt ⟨o, h1, h2⟩)]; exact h1, h2⟩⟩
/-- a place behind s is written -/
theorem Hx.write {n : Nat} {s s1 : Sto} (h : Hx n s s1) (hn : n < s.length) {j : Nat} {o : O} (hj : s.length ≤ j) : Hx n s (s1.set j o) := ⟨by simpa using h.len, fun i hi hin => by
  rw [List.getElem?_set_ne (by omega)]
  exact h.same i hi hin, by
  obtain ⟨o', h1, h2⟩ := h.hand
  exact ⟨o', by rw [List.getElem?_set_ne (by omega)]; exact h1, h2⟩⟩
theorem Hx.old {n : Nat} {s s' : Sto} (h : Hx n s s') : OldOk s s' := ⟨h.len, fun i hi => by
  by_cases e : i = n
  · obtain ⟨o, h1, h2⟩ := h.hand
    exact .inr ⟨o, by rw [e]; exact h1, h2.closed _⟩
  · exact .inl (h.same i hi e)⟩
theorem Hx.take {n : Nat} {s s' : Sto} (h : Hx n s s') (hn : n < s.length) : Hs n s (s'.take s.length) := ⟨by rw [List.length_take]; have := h.len; omega, fun j hj => by
  by_cases c : j < s.length
  · rw [List.getElem?_take_of_lt c]; exact h.same j c hj
  · rw [List.getElem?_eq_none (by rw [List.length_take]; omega), List.getElem?_eq_none (by omega)], by
  obtain ⟨o, h1, h2⟩ := h.hand
  exact ⟨o, by rw [List.getElem?_take_of_lt hn]; exact h1, h2⟩⟩
/-- a def that draws, sealed -/
theorem seal_hand {n : Nat} {s : Sto} {E : Ex → Sto → Prop} {F : List D → M D} {args : List D} {Q : D → Sto → Prop} (hn : n < s.length) (h : wp (F args s) (fun d s1 => Hx n s s1 ∧ ∃ d', frz 4 s.length s1 d = some d' ∧ ∀ s2, Hs n s s2 → Q d' s2) (fun x s1 => Hx n s s1 ∧ (∀ p, x.arg = some p → closed s.length p.2 = true) ∧ ∀ s2, Hs n s s2 → E x s2)) : wp (sealF F args s) Q E :=
  wp_seal (h.monoX (fun d s1 ⟨x, d', e, q⟩ => ⟨d', e, x.old, q _ (x.take hn)⟩) fun x s1 ⟨h, c, q⟩ => ⟨c, h.old, q _ (h.take hn)⟩)
end QS
end

section
set_option Elab.async false
set_option linter.all false
set_option maxRecDepth 100000
set_option maxHeartbeats 4000000
/-! QS15: sum of a tuple. -/
namespace QS
open PySem PySem.Spec PyProof.Rows L2
section
variable {prog : Program} {w : World} {A : Around} {E : Value → Shared → Prop} {s : Shared}
theorem sum_tupG {l : Addr} {vs : List Value} {ns : List Int} {Q : Value → Shared → Prop} (hh : A.handled = none) (hl : s.heap.IsTuple l vs.toArray) (hi : IntsAre vs ns)
    (h : ∀ h' tk t', (∀ b o, s.heap.get? b = some o → h'.get? b = some o) → Q (.int ns.sum t') { s with heap := h', toks := tk }) :
    wpAny (model prog w) A (call (.builtin "sum") [.ref l]) Q E s := by
  obtain ⟨xs, e⟩ := hi.allInts.items
  have hs : preSum (numAt xs) xs.size = ns.sum := by
    have h1 := hi.numsOf
    have h2 : numsOf (intItems xs).toList = ns := by rw [← e]; exact h1
    rw [nums_intItems] at h2
    rw [preSum_eq, List.take_of_length_le (by simp), h2]
  have hlt : l < s.heap.objs.size := by obtain ⟨_, q, _⟩ := hl; exact Heap.lt_size q
  rw [e] at hl
  refine call_sum_walkG (wpAny_pyIter_tuple hl ?_)
  refine ⟨_, _, _, _, _, _, numAt xs, rfl, Walks.tuple (A := A.in1) hh s.heap.objs.size l (Nat.ne_of_lt hlt) (intItems xs), ⟨⟨_, Heap.get?_push_size _ rfl, rfl, rfl⟩, hl.push _⟩, fun b hb => ?_, (fun _ _ => intItems_at), fun h' tk t' hk => ?_⟩
  · show b < (s.heap.push _).objs.size
    rw [Heap.size_push]
    rcases List.mem_cons.mp hb with rfl | hb
    · exact Nat.lt_succ_self _
    · rcases List.mem_cons.mp hb with rfl | hb
      · exact Nat.lt_succ_of_lt hlt
      · cases hb
  · have := h h' tk t' (fun b o e => by
      refine hk b o (fun hm => ?_) (Heap.get?_push_of_some _ e)
      rcases List.mem_cons.mp hm with e1 | hm
      · exact absurd (e1 ▸ Heap.lt_size e) (Nat.lt_irrefl _)
      · cases hm)
    have sz : (intItems xs).size = xs.size := by simp [intItems]
    rw [sz, hs]
    exact this
end
section
variable {zz : List Addr} {X : Cx}
def gSumT : List D → V1 D := g1 fun s x => match x with
  | .tup l => (intsOf l).map fun ns => .int ns.sum
  | _ => none
theorem c_sumT (hc : X.calm = true := by rfl) : CallR X (.builtin "sum") (rL (X.K, zz) gSumT) := by
  intro pins s σ H xs us Q I r h
  obtain ⟨m, d, e, st, v, rfl, S, hd, he, q⟩ := g1_at h
  cases hd with
  | @tup a ds vs h1 q1 =>
    obtain ⟨ns, h2, h3⟩ := Option.map_eq_some_iff.mp he
    have ev := ints_rep q1 h2
    subst ev; subst h3
    obtain ⟨its, rv, hl, _⟩ := I.tuple h1
    rw [Vals.ref1 r]
    exact sum_tupG (I.ok.hd hc) (show s.heap.IsTuple a its.toArray from hl) rv.ints fun h' tk t' hk => ⟨.int _, H, I.kept hk, ⟨_, rfl⟩, q _ (.int _)⟩
  | _ => cases he
def gSumA : List D → V1 D := orVL gSum gSumT
theorem c_sumA (hc : X.calm = true := by rfl) : CallR X (.builtin "sum") (rL (X.K, zz) gSumA) := CallR.orV (c_sum hc) (c_sumT hc)
end
@[simp] theorem wpv_sumAL {ns : List Int} {s : Sto} {Q : D → Sto → Prop} : wpv (gSumA [.lst (ns.map D.int)] s) Q = Q (.int ns.sum) s := by
  have e : gSumA [.lst (ns.map D.int)] s = some (.int ns.sum, s) := by simp [gSumA, orVL, gSum, g1, lstOf]
  rw [e, wpv_some]
@[simp] theorem wpv_sumAT {ns : List Int} {s : Sto} {Q : D → Sto → Prop} : wpv (gSumA [.tup (ns.map D.int)] s) Q = Q (.int ns.sum) s := by
  have e : gSumA [.tup (ns.map D.int)] s = some (.int ns.sum, s) := by simp [gSumA, orVL, gSum, g1, lstOf, gSumT]
  rw [e, wpv_some]
end QS
end

section
set_option Elab.async false
set_option linter.all false
set_option maxRecDepth 100000
set_option maxHeartbeats 4000000
/-! QS16: what a loop goes over: a list, a tuple or a string. -/
namespace QS
open PySem PySem.Spec PyProof.Rows L2
def orI {α : Type} (f g : α → V1 Items) : α → V1 Items := fun x s => match f x s with
  | some p => some p
  | none => g x s
theorem iS_or {K : KZ} {W : WX} {α : Type} {f g : α → V1 Items} {de : En → M α} {σ : St} {H : Hp} {R : It → Hp → Prop} (h : iS K W (iOf (orI f g) de) σ H R) : iS K W (iOf f de) σ H R ∨ iS K W (iOf g de) σ H R := by
  obtain ⟨m, ρ, s, hE, hS, hG⟩ := h
  have key : (iOf (orI f g) de) ρ s = (iOf f de) ρ s ∨ (iOf (orI f g) de) ρ s = (iOf g de) ρ s := by
    unfold iOf
    show bnd (de ρ) _ s = bnd (de ρ) _ s ∨ bnd (de ρ) _ s = bnd (de ρ) _ s
    unfold bnd
    cases e : de ρ s with
    | stuck => exact .inl rfl
    | exn x s1 => exact .inl rfl
    | ok a s1 =>
      show lift _ s1 = lift _ s1 ∨ lift _ s1 = lift _ s1
      unfold lift orI
      cases e2 : f a s1 with
      | some p => exact .inl rfl
      | none => exact .inr rfl
  rcases key with k | k
  · rw [k] at hG; exact .inl ⟨m, ρ, s, hE, hS, hG⟩
  · rw [k] at hG; exact .inr ⟨m, ρ, s, hE, hS, hG⟩
theorem PI.or {X : Cx} {tg e : Expr} {t1 t2 t : TI} (h1 : PI X tg e t1) (h2 : PI X tg e t2) (i : ∀ σ H R, t σ H R → t1 σ H R ∨ t2 σ H R) : PI X tg e t := ⟨fun pins s σ H R I q => (i σ H R q).elim (fun q => h1.run pins s σ H R I q) (fun q => h2.run pins s σ H R I q)⟩
def itEach : D → V1 Items := orI itSeq (orI itTup itStr)
section
variable {X : Cx} {tg e : Expr} {zz : List Addr} {W : WX} {de : EM}
theorem si_each (he : PE X e (tE (X.K, zz) W de)) : PI X tg e (iS (X.K, zz) W (iOf itEach de)) := by
  unfold itEach
  exact
  PI.or (si_seq he) (PI.or (si_tup he) (si_str he) fun σ H R h => iS_or h) fun σ H R h => iS_or h
end
section
variable {l : List D} {s : Sto} {QI : Items → Sto → Prop}
@[simp] theorem wpv_itEachT : wpv (itEach (.tup l) s) QI = QI ⟨l, none⟩ s := wpv_some
@[simp] theorem wpv_itEachL : wpv (itEach (.lst l) s) QI = QI ⟨l, none⟩ s := wpv_some
@[simp] theorem wpv_itEachS : wpv (itEach (.scr l) s) QI = QI ⟨l, none⟩ s := wpv_some
@[simp] theorem wpv_itEachStr {z : Str} : wpv (itEach (.str z) s) QI = QI ⟨signs z, none⟩ s := by
  have e : itEach (.str z) s = some (⟨signs z, none⟩, s) := rfl
  rw [e, wpv_some]
@[simp] theorem wpv_itEachLoc {n : Nat} : wpv (itEach (.loc n) s) QI = atO s[n]? (fun l => QI ⟨l, some n⟩ s) (fun _ _ => False) (fun _ _ _ => False) := by
  cases h : s[n]? with
  | none => simp [itEach, orI, itSeq, itTup, itStr, h]
  | some o => cases o <;> simp [itEach, orI, itSeq, itTup, itStr, h]
end
end QS
end

section
set_option Elab.async false
set_option linter.all false
set_option maxRecDepth 100000
set_option maxHeartbeats 4000000
/-! QS17: tuple(range(n)), list(range(n)). -/
namespace QS
open PySem PySem.Spec PyProof.Rows L2
def gTupRg : D → V1 D := fun x s => match x with
  | .int j => if -(2 ^ 62) ≤ j ∧ j < 2 ^ 62 ∧ j.toNat ≤ 2 ^ 24 then some (.tup (rngD 0 j.toNat), s) else none
  | _ => none
def gLstRg (mu : Bool) : D → V1 D := fun x s => match x with
  | .int j => if -(2 ^ 62) ≤ j ∧ j < 2 ^ 62 ∧ j.toNat ≤ 2 ^ 24 then new mu (rngD 0 j.toNat) s else none
  | _ => none
theorem rep_rng {K : KZ} {m : List Addr} {H : Hp} (j : Int) : RepL K m H (rngD 0 j.toNat) (rgV 0 j) := by
  have h := rep_ints (K := K) (m := m) (H := H) ((List.range j.toNat).map fun i : Nat => (0 : Int) + (i : Nat))
  have e1 : ((List.range j.toNat).map fun i : Nat => (0 : Int) + (i : Nat)).map D.int = rngD 0 j.toNat := by simp [rngD]
  have e2 : ((List.range j.toNat).map fun i : Nat => (0 : Int) + (i : Nat)).map V.int = rgV 0 j := by simp [rgV]
  rwa [e1, e2] at h
section
variable {X : Cx} {e : Expr} {zz : List Addr} {W : WX} {de : EM} {p p2 pos pos2 : Pos}
theorem se_tupRg (hm : X.mg "tuple" = none) (hm2 : X.mg "range" = none) (he : PE X e (tE (X.K, zz) W de)) (hc : X.calm = true := by rfl) (hg : Gl X "tuple" := by rfl) (hg2 : Gl X "range" := by rfl) (na : starEach [e] X.env = (false, eval e X.env) :: starEach [] X.env := by rfl) (na2 : starEach [.Call (.Name "range" p2) [e] [] pos2] X.env = (false, eval (.Call (.Name "range" p2) [e] [] pos2) X.env) :: starEach [] X.env := by rfl) :
    PE X (.Call (.Name "tuple" p) [.Call (.Name "range" p2) [e] [] pos2] [] pos) (tE (X.K, zz) W (eU gTupRg de)) :=
  PE.imp (pe_tupRg hc hg hm (prg_1 hg2 hm2 he na) na2) fun σ H Q h => (into1 h).mono fun x H1 ⟨m1, d, s1, S1, q1, hG⟩ => by
    cases q1 with
    | int j =>
      have hG : GoodV (X.K, zz) m1 H1 Q (if -(2 ^ 62) ≤ j ∧ j < 2 ^ 62 ∧ j.toNat ≤ 2 ^ 24 then some (.tup (rngD 0 j.toNat), s1) else none) := hG
      by_cases c : -(2 ^ 62) ≤ j ∧ j < 2 ^ 62 ∧ j.toNat ≤ 2 ^ 24
      · rw [if_pos c] at hG
        exact ⟨j, rfl, ⟨by decide, by decide, c.1, c.2.1, by simpa using c.2.2⟩, fun q hq => newT_ok S1 (rep_rng j) hG q hq⟩
      · rw [if_neg c] at hG; exact hG.elim
    | _ => exact hG.elim
theorem se_lstRg {mu : Bool} (hm : X.mg "list" = none) (hm2 : X.mg "range" = none) (he : PE X e (tE (X.K, zz) W de)) (hc : X.calm = true := by rfl) (hg : Gl X "list" := by rfl) (hg2 : Gl X "range" := by rfl) (na : starEach [e] X.env = (false, eval e X.env) :: starEach [] X.env := by rfl) (na2 : starEach [.Call (.Name "range" p2) [e] [] pos2] X.env = (false, eval (.Call (.Name "range" p2) [e] [] pos2) X.env) :: starEach [] X.env := by rfl) :
    PE X (.Call (.Name "list" p) [.Call (.Name "range" p2) [e] [] pos2] [] pos) (tE (X.K, zz) W (eU (gLstRg mu) de)) :=
  PE.imp (pe_listRg hc hg hm (prg_1 hg2 hm2 he na) na2) fun σ H Q h => (into1 h).mono fun x H1 ⟨m1, d, s1, S1, q1, hG⟩ => by
    cases q1 with
    | int j =>
      have hG : GoodV (X.K, zz) m1 H1 Q (if -(2 ^ 62) ≤ j ∧ j < 2 ^ 62 ∧ j.toNat ≤ 2 ^ 24 then new mu (rngD 0 j.toNat) s1 else none) := hG
      by_cases c : -(2 ^ 62) ≤ j ∧ j < 2 ^ 62 ∧ j.toNat ≤ 2 ^ 24
      · rw [if_pos c] at hG
        exact ⟨j, rfl, ⟨by decide, by decide, c.1, c.2.1, by simpa using c.2.2⟩, fun q hq => new_ok S1 (rep_rng j) hG q hq⟩
      · rw [if_neg c] at hG; exact hG.elim
    | _ => exact hG.elim
end
section
variable {i : Int} {s : Sto} {Q : D → Sto → Prop}
@[simp] theorem wpv_tupRg : wpv (gTupRg (.int i) s) Q = ((-(2 ^ 62) ≤ i ∧ i < 2 ^ 62 ∧ i.toNat ≤ 2 ^ 24) ∧ Q (.tup (rngD 0 i.toNat)) s) := by simp only [gTupRg, wpv_if, wpv_some]
@[simp] theorem wpv_lstRg {mu : Bool} : wpv (gLstRg mu (.int i) s) Q = ((-(2 ^ 62) ≤ i ∧ i < 2 ^ 62 ∧ i.toNat ≤ 2 ^ 24) ∧ wpv (new mu (rngD 0 i.toNat) s) Q) := by simp only [gLstRg, wpv_if]
end
end QS
end

section
set_option Elab.async false
set_option linter.all false
set_option maxRecDepth 100000
set_option maxHeartbeats 4000000
/-! QS18: repr of None, of a flag and of a whole number. -/
namespace QS
open PySem PySem.Spec PyProof.Rows L2
def gRepr : List D → V1 D := g1 fun s x => match x with
  | .non => some (.str "None")
  | .bl b => some (.str (if b then "True" else "False"))
  | .int i => if i.natAbs.log2 < 1920 then some (.str (toString i)) else none
  | _ => none
section
variable {X : Cx} {zz : List Addr}
theorem c_repr : CallR X (.builtin "repr") (rL (X.K, zz) gRepr) := by
  intro pins s σ H xs us Q I r h
  obtain ⟨m, d, e, st, v, rfl, S, hd, he, q⟩ := g1_at h
  obtain ⟨u, rfl, ru⟩ := vals1 r
  cases hd with
  | non =>
    cases he
    obtain rfl : u = .none := ru
    exact PySem.P.repr_of_none ⟨.str _, H, I.tok _, ⟨_, rfl⟩, q _ (.str _)⟩
  | bl b =>
    cases he
    obtain rfl : u = .bool b := ru
    exact PySem.P.repr_of_bool ⟨.str _, H, I.tok _, ⟨_, rfl⟩, q _ (.str _)⟩
  | int i =>
    have he : (if i.natAbs.log2 < 1920 then some (D.str (toString i)) else none) = some e := he
    by_cases c : i.natAbs.log2 < 1920
    · rw [if_pos c] at he
      cases he
      obtain ⟨t, rfl⟩ := ru
      exact PySem.P.repr_of_int c ⟨.str _, H, I.tok _, ⟨_, rfl⟩, q _ (.str _)⟩
    · rw [if_neg c] at he; cases he
  | _ => cases he
end
end QS
end

section
set_option Elab.async false
set_option linter.all false
set_option maxRecDepth 100000
set_option maxHeartbeats 4000000
/-! QS19: in, not in over whole numbers. -/
namespace QS
open PySem PySem.Spec PyProof.Rows L2
def gInB (neg : Bool) : D → D → V1 D := fun x y s => match x with
  | .int i => (seqOf s y).bind fun l => (intsOf l).bind fun ns => some (.bl (if neg then !decide (i ∈ ns) else decide (i ∈ ns)), s)
  | _ => none
theorem inV_ints (i : Int) (ns : List Int) : inV (.int i) (ns.map V.int) = decide (i ∈ ns) := by
  unfold inV
  induction ns with
  | nil => rfl
  | cons n ns ih =>
    rw [List.map_cons, List.any_cons, ih]
    by_cases c : n = i
    · simp [eqV, c]
    · have c' : ¬i = n := fun e => c e.symm
      simp [eqV, c, c']
theorem flat_ints (ns : List Int) : (ns.map V.int).all flatV = true := by simp [flatV]
section
variable {X : Cx} {zz : List Addr}
theorem o_in : OpR X (compareOp .In) (r2 (X.K, zz) (gInB false)) := fun pins s σ H x y v u Q I rx ry h => by
  obtain ⟨m, d, e, st, S, hd, he, hG⟩ := h
  cases hd with
  | int i =>
    have hG : GoodV (X.K, zz) m H Q ((seqOf st e).bind fun l => (intsOf l).bind fun ns => some (.bl (if false then !decide (i ∈ ns) else decide (i ∈ ns)), st)) := hG
    cases h1 : seqOf st e with
    | none => rw [h1] at hG; exact hG.elim
    | some l =>
      rw [h1] at hG
      cases h2 : intsOf l with
      | none =>
        have hG : GoodV (X.K, zz) m H Q ((intsOf l).bind fun ns => some (.bl (if false then !decide (i ∈ ns) else decide (i ∈ ns)), st)) := hG
        rw [h2] at hG; exact hG.elim
      | some ns =>
        have hG : GoodV (X.K, zz) m H Q ((intsOf l).bind fun ns => some (.bl (if false then !decide (i ∈ ns) else decide (i ∈ ns)), st)) := hG
        rw [h2] at hG
        obtain ⟨a, vs, rfl, e1, q1⟩ := seqOf_at S he h1
        have ev := ints_rep q1 h2
        subst ev
        exact op_in_seq pins s σ H _ _ v u Q I rx ry ⟨a, _, rfl, e1, rfl, flat_ints ns, by rw [inV_ints]; exact GoodV.here S hG (.bl _)⟩
  | _ => exact hG.elim
theorem o_notin : OpR X (compareOp .NotIn) (r2 (X.K, zz) (gInB true)) := fun pins s σ H x y v u Q I rx ry h => by
  obtain ⟨m, d, e, st, S, hd, he, hG⟩ := h
  cases hd with
  | int i =>
    have hG : GoodV (X.K, zz) m H Q ((seqOf st e).bind fun l => (intsOf l).bind fun ns => some (.bl (if true then !decide (i ∈ ns) else decide (i ∈ ns)), st)) := hG
    cases h1 : seqOf st e with
    | none => rw [h1] at hG; exact hG.elim
    | some l =>
      rw [h1] at hG
      cases h2 : intsOf l with
      | none =>
        have hG : GoodV (X.K, zz) m H Q ((intsOf l).bind fun ns => some (.bl (if true then !decide (i ∈ ns) else decide (i ∈ ns)), st)) := hG
        rw [h2] at hG; exact hG.elim
      | some ns =>
        have hG : GoodV (X.K, zz) m H Q ((intsOf l).bind fun ns => some (.bl (if true then !decide (i ∈ ns) else decide (i ∈ ns)), st)) := hG
        rw [h2] at hG
        obtain ⟨a, vs, rfl, e1, q1⟩ := seqOf_at S he h1
        have ev := ints_rep q1 h2
        subst ev
        exact op_notIn_seq pins s σ H _ _ v u Q I rx ry ⟨a, _, rfl, e1, rfl, flat_ints ns, by rw [inV_ints]; exact GoodV.here S hG (.bl _)⟩
  | _ => exact hG.elim
end
section
variable {l : List D} {s : Sto} {Q : D → Sto → Prop} {neg : Bool} {i : Int} {ns : List Int}
@[simp] theorem wpv_inL : wpv (gInB neg (.int i) (.lst (ns.map D.int)) s) Q = Q (.bl (if neg then !decide (i ∈ ns) else decide (i ∈ ns))) s := by
  simp [gInB, seqOf]
@[simp] theorem wpv_inT : wpv (gInB neg (.int i) (.tup (ns.map D.int)) s) Q = Q (.bl (if neg then !decide (i ∈ ns) else decide (i ∈ ns))) s := by
  simp [gInB, seqOf]
end
end QS
end

section
set_option Elab.async false
set_option linter.all false
set_option maxRecDepth 100000
set_option maxHeartbeats 1000000
/-! QS20: words for all laws. -/
namespace QS
open PySem PySem.Spec PyProof.Rows L2
theorem mok {i j : Int} (h : (-(2 ^ 64) < i ∧ i < 2 ^ 64) ∨ (-(2 ^ 64) < j ∧ j < 2 ^ 64)) : MulOk i j := .inl h
theorem emod_small {i j : Int} (h : 0 < j) (h2 : j < 2 ^ 64) : -(2 ^ 64) < i % j ∧ i % j < 2 ^ 64 := ⟨by have := Int.emod_nonneg i (show j ≠ 0 by omega); omega, by have := Int.emod_lt_of_pos i h; omega⟩
theorem lcL_map {γ : Type} {g : GM} {t : TM} {e : EM} {gd : Option Nat} {ρ : En} {s : Sto} {cv : γ → D} (f : γ → D) (xs : List γ) (h : ∀ x ∈ xs, ∃ ρ1, g (cv x) ρ = some ρ1 ∧ t ρ1 s = .ok true s ∧ e ρ1 s = .ok (f x) s) :
    lcL g t e gd s ρ (xs.map cv) s = .ok (xs.map f) s := by
  rw [lcL_pure (cv := cv) (fun _ => true) f xs (fun x hx => let ⟨a, b, c, d⟩ := h x hx; ⟨a, b, c, fun _ => d⟩)]
  congr 1
  congr 1
  exact List.filter_eq_self.mpr fun _ _ => rfl
theorem rngD_succ (lo : Int) (n : Nat) : rngD lo (n + 1) = .int lo :: rngD (lo + 1) n := by
  unfold rngD
  rw [List.range_succ_eq_map]
  simp
  intro a _
  omega
@[simp] theorem rngD_zero (lo : Int) : rngD lo 0 = [] := rfl
@[simp] theorem rngD_len (lo : Int) (n : Nat) : (rngD lo n).length = n := by simp [rngD]
theorem rngD0 (m : Nat) : rngD 0 m = (List.range m).map fun i : Nat => D.int (i : Int) := by
  unfold rngD
  congr 1
  funext i
  simp
theorem cut_from {α : Type} {xs : List α} {k : Nat} (h : k ≤ xs.length) : cut xs (some (k : Int)) none = xs.drop k := by
  unfold cut
  rw [HT.sIx_nat, HT.sIx_none, Nat.min_eq_left h, List.take_of_length_le (by simp)]
theorem cut_to {α : Type} {xs : List α} {k : Nat} : cut xs none (some (k : Int)) = xs.take k := by
  unfold cut
  rw [HT.sIx_nat, HT.sIx_none, Nat.sub_zero, List.drop_zero]
  by_cases c : k ≤ xs.length
  · rw [Nat.min_eq_left c]
  · rw [Nat.min_eq_right (by omega), List.take_of_length_le (Nat.le_refl _), List.take_of_length_le (by omega)]
theorem seqIx {i n : Nat} (h : i < n) : seqIndex? (i : Int) n = some i := by
  rw [seqIndex_of (by omega) (by omega)]; simp
theorem erase_map {α β : Type} (f : α → β) : ∀ (l : List α) (i : Nat), (l.map f).eraseIdx i = (l.eraseIdx i).map f
  | [], i => by simp
  | a :: t, 0 => by simp
  | a :: t, i + 1 => by simp [erase_map f t i]
theorem get_erase_perm {α : Type} : ∀ (l : List α) (i : Nat) (h : i < l.length), (l[i] :: l.eraseIdx i).Perm l
  | [], i, h => by simp at h
  | a :: t, 0, h => by simp
  | a :: t, i + 1, h => by
    have ih := get_erase_perm t i (by simpa using h)
    simp only [List.getElem_cons_succ, List.eraseIdx_cons_succ]
    exact (List.Perm.swap _ _ _).trans (ih.cons a)
theorem frz_ins_new {s : Sto} {c : Str} {fs : List Str} {l : List D} (h : closedL s.length l = true) : frz 4 s.length (s ++ [.ins c fs l]) (.loc s.length) = some (.ins c fs l) := by
  have hn' : ¬ closed s.length (.loc s.length) = true := by simp
  have hm : l.mapM (frz 3 s.length (s ++ [.ins c fs l])) = some l := by
    generalize s ++ [O.ins c fs l] = t
    induction l with
    | nil => rfl
    | cons d r ih =>
      simp only [closedL_cons, Bool.and_eq_true] at h
      rw [List.mapM_cons, frz_closed h.1, ih h.2]
      rfl
  unfold frz
  rw [if_neg hn']
  simp [hm]
theorem shaped_bl {b : Bool} : SeqAt.shaped (.bool b) = true := by simp [SeqAt.shaped, PyData.canLay0, PyData.depth]
@[simp] theorem wpv_eqB {a b : Bool} {s : Sto} {Q : D → Sto → Prop} : wpv (gEq (.bl a) (.bl b) s) Q = Q (.bl (decide (a = b))) s := by
  have e : gEq (.bl a) (.bl b) s = some (.bl (decide (a = b)), s) := by
    simp only [gEq, gEqF, datOf, dat0, shaped_bl, and_self, if_true, id, PyData.eqv]
    cases a <;> cases b <;> rfl
  rw [e, wpv_some]
@[simp] theorem wpv_neB {a b : Bool} {s : Sto} {Q : D → Sto → Prop} : wpv (gNe (.bl a) (.bl b) s) Q = Q (.bl (!decide (a = b))) s := by
  have e : gNe (.bl a) (.bl b) s = some (.bl (!decide (a = b)), s) := by
    simp only [gNe, gEqF, datOf, dat0, shaped_bl, and_self, if_true, PyData.eqv]
    cases a <;> cases b <;> rfl
  rw [e, wpv_some]
/-! whole numbers from 0 on -/
def natD (l : List Nat) : List D := l.map fun i : Nat => D.int (i : Int)
@[simp] theorem natD_len {l : List Nat} : (natD l).length = l.length := by simp [natD]
theorem natD_nil : natD [] = [] := rfl
theorem natD_cons {i : Nat} {l : List Nat} : natD (i :: l) = .int (i : Nat) :: natD l := rfl
theorem natD_app {l r : List Nat} : natD (l ++ r) = natD l ++ natD r := by simp [natD]
theorem natD_drop {l : List Nat} {k : Nat} : (natD l).drop k = natD (l.drop k) := by simp [natD]
theorem natD_ints {l : List Nat} : natD l = (l.map fun i : Nat => (i : Int)).map D.int := by simp [natD]
@[simp] theorem closedL_natD {n : Nat} {l : List Nat} : closedL n (natD l) = true := closedL_all.mpr fun d hd => by
  obtain ⟨i, _, rfl⟩ := List.mem_map.mp hd
  simp
theorem allT {α : Type} (l : List α) : (l.map fun _ => D.bl true) = (l.map fun _ => true).map D.bl := by simp [Function.comp_def]
theorem boolL {α : Type} (p : α → Bool) (l : List α) : (l.map fun x => D.bl (p x)) = (l.map p).map D.bl := by simp [Function.comp_def]
theorem intL {α : Type} (p : α → Int) (l : List α) : (l.map fun x => D.int (p x)) = (l.map p).map D.int := by simp [Function.comp_def]
/-- numbered -/
def numE (j : Nat) : List D → List D
  | [] => []
  | d :: r => .tup [.int (j : Nat), d] :: numE (j + 1) r
theorem numD_eq (l : List D) : numD l = numE 0 l := by
  have key : ∀ (l : List D) (j : Nat), l.mapIdx (fun i d => D.tup [.int ((i + j : Nat) : Int), d]) = numE j l := by
    intro l
    induction l with
    | nil => intro j; rfl
    | cons d r ih =>
      intro j
      rw [List.mapIdx_cons, numE, ← ih (j + 1)]
      congr 1
      · simp
      · congr 1
        funext i d
        rw [show i + 1 + j = i + (j + 1) by omega]
  have := key l 0
  simpa [numD] using this
/-- numbered: as a list of pairs -/
def enu {α : Type} (j : Nat) : List α → List (Nat × α)
  | [] => []
  | a :: r => (j, a) :: enu (j + 1) r
theorem numE_enu {α : Type} (f : α → D) : ∀ (l : List α) (j : Nat), numE j (l.map f) = (enu j l).map fun x => D.tup [.int (x.1 : Nat), f x.2]
  | [], j => rfl
  | a :: r, j => by simp only [List.map_cons, numE, enu, numE_enu f r (j + 1)]
theorem enu_mem {α : Type} : ∀ {l : List α} {j : Nat} {x : Nat × α}, x ∈ enu j l → j ≤ x.1 ∧ l[x.1 - j]? = some x.2
  | a :: r, j, x, h => by
    rcases List.mem_cons.mp h with rfl | h
    · simp
    · obtain ⟨h1, h2⟩ := enu_mem h
      refine ⟨by omega, ?_⟩
      rw [show x.1 - j = (x.1 - (j + 1)) + 1 by omega, List.getElem?_cons_succ]
      exact h2
@[simp] theorem enu_len {α : Type} : ∀ {l : List α} {j : Nat}, (enu j l).length = l.length
  | [], j => rfl
  | a :: r, j => by simp [enu, enu_len]
@[simp] theorem numD_len {l : List D} : (numD l).length = l.length := by simp [numD]
/-! None or a number -/
def optI : Option Int → D
  | none => .non
  | some i => .int i
@[simp] theorem isNon_optI {o : Option Int} : isNon (optI o) = o.isNone := by cases o <;> rfl
@[simp] theorem closed_optI {n : Nat} {o : Option Int} : closed n (optI o) = true := by cases o <;> simp [optI]
theorem shaped_non : SeqAt.shaped .none = true := by simp [SeqAt.shaped, PyData.canLay0, PyData.depth]
@[simp] theorem wpv_eqO {a b : Option Int} {s : Sto} {Q : D → Sto → Prop} : wpv (gEq (optI a) (optI b) s) Q = Q (.bl (decide (a = b))) s := by
  have e : gEq (optI a) (optI b) s = some (.bl (decide (a = b)), s) := by
    cases a <;> cases b <;> simp only [optI, gEq, gEqF, datOf, dat0, shaped_non, shaped_int, and_self, if_true, id, PyData.eqv]
    · rfl
    · rfl
    · rfl
    · simp only [Option.some.injEq]; rfl
  rw [e, wpv_some]
@[simp] theorem wpv_neO {a b : Option Int} {s : Sto} {Q : D → Sto → Prop} : wpv (gNe (optI a) (optI b) s) Q = Q (.bl (!decide (a = b))) s := by
  have e : gNe (optI a) (optI b) s = some (.bl (!decide (a = b)), s) := by
    cases a <;> cases b <;> simp only [optI, gNe, gEqF, datOf, dat0, shaped_non, shaped_int, and_self, if_true, PyData.eqv]
    · rfl
    · rfl
    · rfl
    · simp only [Option.some.injEq]; rfl
  rw [e, wpv_some]
def optP : Option (Nat × Nat) → D
  | none => .non
  | some p => .tup [.int (p.1 : Nat), .int (p.2 : Nat)]
@[simp] theorem closed_optP {n : Nat} {o : Option (Nat × Nat)} : closed n (optP o) = true := by cases o <;> simp [optP]
@[simp] theorem isNon_optP {o : Option (Nat × Nat)} : isNon (optP o) = o.isNone := by cases o <;> rfl
theorem datOf_optP {o : Option (Nat × Nat)} {s : Sto} : ∃ x, datOf s (optP o) = some x ∧ SeqAt.shaped x = true := by
  cases o with
  | none => exact ⟨_, rfl, shaped_non⟩
  | some p => exact ⟨.tuple [.int p.1, .int p.2], by simp [optP, datOf, dat0, dat0L], by simp [SeqAt.shaped, PyData.canLay0, PyData.canLayAll0, PyData.depth, PyData.depthAll]⟩
theorem eqv_optP {a b : Option (Nat × Nat)} {s : Sto} {x y : PyData} (h1 : datOf s (optP a) = some x) (h2 : datOf s (optP b) = some y) : PyData.eqv x y = decide (a = b) := by
  cases a with
  | none =>
    cases b with
    | none => cases h1; cases h2; rfl
    | some q =>
      have h2 : datOf s (.tup [.int q.1, .int q.2]) = some y := h2
      simp [datOf, dat0, dat0L] at h2
      cases h1; subst h2; rfl
  | some p =>
    have h1 : datOf s (.tup [.int p.1, .int p.2]) = some x := h1
    simp [datOf, dat0, dat0L] at h1
    subst h1
    cases b with
    | none => cases h2; rfl
    | some q =>
      have h2 : datOf s (.tup [.int q.1, .int q.2]) = some y := h2
      simp [datOf, dat0, dat0L] at h2
      subst h2
      obtain ⟨p1, p2⟩ := p
      obtain ⟨q1, q2⟩ := q
      simp only [PyData.eqv, PyData.eqvAll, Bool.and_true]
      have e : ∀ i j : Nat, ((i : Int) == (j : Int)) = decide (i = j) := fun i j => by
        rw [Bool.eq_iff_iff]; simp only [beq_iff_eq, decide_eq_true_eq]; omega
      rw [e, e, ← Bool.decide_and]
      simp
@[simp] theorem wpv_eqP {a b : Option (Nat × Nat)} {s : Sto} {Q : D → Sto → Prop} : wpv (gEq (optP a) (optP b) s) Q = Q (.bl (decide (a = b))) s := by
  obtain ⟨x, h1, h2⟩ := datOf_optP (o := a) (s := s)
  obtain ⟨y, h3, h4⟩ := datOf_optP (o := b) (s := s)
  have e : gEq (optP a) (optP b) s = some (.bl (decide (a = b)), s) := by
    simp only [gEq, gEqF, h1, h3, h2, h4, and_self, if_true, id, eqv_optP h1 h3]
  rw [e, wpv_some]
@[simp] theorem wpv_neP {a b : Option (Nat × Nat)} {s : Sto} {Q : D → Sto → Prop} : wpv (gNe (optP a) (optP b) s) Q = Q (.bl (!decide (a = b))) s := by
  obtain ⟨x, h1, h2⟩ := datOf_optP (o := a) (s := s)
  obtain ⟨y, h3, h4⟩ := datOf_optP (o := b) (s := s)
  have e : gNe (optP a) (optP b) s = some (.bl (!decide (a = b)), s) := by
    simp only [gNe, gEqF, h1, h3, h2, h4, and_self, if_true, eqv_optP h1 h3]
  rw [e, wpv_some]
@[simp] theorem wpv_inN {neg : Bool} {i : Nat} {l : List Nat} {s : Sto} {Q : D → Sto → Prop} : wpv (gInB neg (.int (i : Nat)) (.lst (natD l)) s) Q = Q (.bl (if neg then !decide (i ∈ l) else decide (i ∈ l))) s := by
  have e : decide ((i : Int) ∈ l.map fun i : Nat => (i : Int)) = decide (i ∈ l) := by
    congr 1
    simp only [List.mem_map, eq_iff_iff]
    constructor
    · rintro ⟨a, ha, e⟩
      rwa [← show a = i by omega]
    · exact fun h => ⟨i, h, rfl⟩
  rw [natD_ints, wpv_inL, e]
/-! lists wherever they lie -/
theorem lstOf_loc {s : Sto} {n : Nat} {l : List D} (h : s[n]? = some (.lst l)) : lstOf s (.loc n) = some l := by simp [lstOf, h]
theorem wpv_len_l {s : Sto} {x : D} {l : List D} {Q : D → Sto → Prop} (h : lstOf s x = some l) : wpv (gLen [x] s) Q = Q (.int l.length) s := by
  cases x with
  | lst l' => cases h; exact wpv_lenL
  | scr l' => cases h; exact wpv_lenScr
  | loc n => rw [wpv_lenLoc, show s[n]? = some (.lst l) from locL h, atO_lst]
  | _ => cases h
theorem wpv_ix_l {s : Sto} {x : D} {l : List D} {i : Int} {Q : D → Sto → Prop} (h : lstOf s x = some l) : wpv (gIx x (.int i) s) Q = ∃ d, atI l i = some d ∧ Q d s := by
  cases x with
  | lst l' => cases h; exact wpv_ixL
  | scr l' => cases h; exact wpv_ixScr
  | loc n => rw [wpv_ixLoc, show s[n]? = some (.lst l) from locL h, atO_lst]
  | _ => cases h
theorem wpv_tuple_l {s : Sto} {x : D} {l : List D} {Q : D → Sto → Prop} (h : lstOf s x = some l) : wpv (gTuple [x] s) Q = Q (.tup l) s := by
  cases x with
  | lst l' => cases h; exact wpv_tupleL
  | scr l' => cases h; simp [gTuple, seqOf]
  | loc n => rw [wpv_tupleLoc, show s[n]? = some (.lst l) from locL h, atO_lst]
  | _ => cases h
theorem cut_take {α : Type} {xs : List α} {k : Nat} (i : Int) (h : i = k) : cut xs none (some i) = xs.take k := by rw [h]; exact cut_to
theorem cut_drop {α : Type} {xs : List α} {k : Nat} (i : Int) (h : i = k) (hl : k ≤ xs.length) : cut xs (some i) none = xs.drop k := by rw [h]; exact cut_from hl
theorem atI_of {α : Type} {l : List α} {k : Nat} (i : Int) (h : i = k) (hk : k < l.length) : atI l i = some l[k] := by rw [h, atI_nat, List.getElem?_eq_getElem hk]
end QS
end

section
set_option Elab.async false
set_option linter.all false
set_option maxRecDepth 100000
set_option maxHeartbeats 1000000
/-! QSB: the bag of drawn numbers: [seed, count, great, always] with great a list of its own. -/
namespace QS
open PySem PySem.Spec PyProof.Rows L2
def AlOk (d : D) : Prop := d = .non ∨ ∃ i : Int, d = .int i
structure BgAt (n g : Nat) (s : Sto) : Prop where
  bag : ∃ (a b : Int) (al : D), s[n]? = some (.lst [.int a, .int b, .loc g, al]) ∧ AlOk al
  great : ∃ gs : List Int, s[g]? = some (.lst (gs.map D.int))
  ne : g ≠ n
theorem BgAt.lt {n g : Nat} {s : Sto} (h : BgAt n g s) : n < s.length ∧ g < s.length := by
  obtain ⟨⟨a, b, al, h1, _⟩, ⟨gs, h2⟩, _⟩ := h
  exact ⟨(List.getElem?_eq_some_iff.mp h1).1, (List.getElem?_eq_some_iff.mp h2).1⟩
structure Bs (n g : Nat) (s s' : Sto) : Prop where
  len : s'.length = s.length
  same : ∀ j, j ≠ n → j ≠ g → s'[j]? = s[j]?
  at_ : BgAt n g s'
theorem Bs.refl {n g : Nat} {s : Sto} (h : BgAt n g s) : Bs n g s s := ⟨rfl, fun _ _ _ => rfl, h⟩
theorem Bs.trans {n g : Nat} {s s1 s2 : Sto} (h : Bs n g s s1) (k : Bs n g s1 s2) : Bs n g s s2 := ⟨k.len.trans h.len, fun j hj hj2 => (k.same j hj hj2).trans (h.same j hj hj2), k.at_⟩
structure Bx (n g : Nat) (s s' : Sto) : Prop where
  len : s.length ≤ s'.length
  same : ∀ j, j < s.length → j ≠ n → j ≠ g → s'[j]? = s[j]?
  at_ : BgAt n g s'
theorem Bs.x {n g : Nat} {s s' : Sto} (h : Bs n g s s') : Bx n g s s' := ⟨Nat.le_of_eq h.len.symm, fun j _ a b => h.same j a b, h.at_⟩
theorem Bx.trans {n g : Nat} {s s1 s2 : Sto} (h : Bx n g s s1) (k : Bx n g s1 s2) : Bx n g s s2 := ⟨Nat.le_trans h.len k.len, fun j hj a b => (k.same j (Nat.lt_of_lt_of_le hj h.len) a b).trans (h.same j hj a b), k.at_⟩
theorem BgAt.app {n g : Nat} {s : Sto} (h : BgAt n g s) (t : Sto) : BgAt n g (s ++ t) := by
  have hl := h.lt
  obtain ⟨⟨a, b, al, h1, h2⟩, ⟨gs, h3⟩, h4⟩ := h
  exact ⟨⟨a, b, al, by rw [List.getElem?_append_left hl.1]; exact h1, h2⟩, ⟨gs, by rw [List.getElem?_append_left hl.2]; exact h3⟩, h4⟩
theorem Bx.app {n g : Nat} {s : Sto} (h : BgAt n g s) (t : Sto) : Bx n g s (s ++ t) := ⟨by simp, fun j hj _ _ => List.getElem?_append_left hj, h.app t⟩
/-- a place of neither is written -/
theorem BgAt.write {n g j : Nat} {s : Sto} {o : O} (h : BgAt n g s) (h1 : j ≠ n) (h2 : j ≠ g) : BgAt n g (s.set j o) := by
  obtain ⟨⟨a, b, al, q1, q2⟩, ⟨gs, q3⟩, q4⟩ := h
  exact ⟨⟨a, b, al, by rw [List.getElem?_set_ne h1]; exact q1, q2⟩, ⟨gs, by rw [List.getElem?_set_ne h2]; exact q3⟩, q4⟩
/-- a place behind s is written -/
theorem Bx.write {n g : Nat} {s s1 : Sto} (h : Bx n g s s1) (hn : n < s.length ∧ g < s.length) {j : Nat} {o : O} (hj : s.length ≤ j) : Bx n g s (s1.set j o) := ⟨by simpa using h.len, fun i hi a b => by
  rw [List.getElem?_set_ne (by omega)]
  exact h.same i hi a b, h.at_.write (by omega) (by omega)⟩
theorem AlOk.closed {d : D} (h : AlOk d) (k : Nat) : closed k d = true := by
  rcases h with rfl | ⟨i, rfl⟩ <;> simp
theorem Bx.old {n g : Nat} {s s' : Sto} (h : Bx n g s s') (hn : n < s.length ∧ g < s.length) : OldOk s s' := ⟨h.len, fun i hi => by
  obtain ⟨⟨a, b, al, q1, q2⟩, ⟨gs, q3⟩, q4⟩ := h.at_
  by_cases e : i = n
  · exact .inr ⟨_, by rw [e]; exact q1, by simp [O.closed, hn.2, q2.closed]⟩
  · by_cases e2 : i = g
    · exact .inr ⟨_, by rw [e2]; exact q3, by simp [O.closed]⟩
    · exact .inl (h.same i hi e e2)⟩
theorem Bx.take {n g : Nat} {s s' : Sto} (h : Bx n g s s') (hn : n < s.length ∧ g < s.length) : Bs n g s (s'.take s.length) := by
  obtain ⟨⟨a, b, al, q1, q2⟩, ⟨gs, q3⟩, q4⟩ := h.at_
  refine ⟨by rw [List.length_take]; have := h.len; omega, fun j hj hj2 => ?_, ⟨a, b, al, by rw [List.getElem?_take_of_lt hn.1]; exact q1, q2⟩, ⟨gs, by rw [List.getElem?_take_of_lt hn.2]; exact q3⟩, q4⟩
  by_cases c : j < s.length
  · rw [List.getElem?_take_of_lt c]; exact h.same j c hj hj2
  · rw [List.getElem?_eq_none (by rw [List.length_take]; omega), List.getElem?_eq_none (by omega)]
theorem seal_bag {n g : Nat} {s : Sto} {E : Ex → Sto → Prop} {F : List D → M D} {args : List D} {Q : D → Sto → Prop} (hn : n < s.length ∧ g < s.length) (h : wp (F args s) (fun d s1 => Bx n g s s1 ∧ ∃ d', frz 4 s.length s1 d = some d' ∧ ∀ s2, Bs n g s s2 → Q d' s2) (fun x s1 => Bx n g s s1 ∧ (∀ p, x.arg = some p → closed s.length p.2 = true) ∧ ∀ s2, Bs n g s s2 → E x s2)) : wp (sealF F args s) Q E :=
  wp_seal (h.monoX (fun d s1 ⟨x, d', e, q⟩ => ⟨d', e, x.old hn, q _ (x.take hn)⟩) fun x s1 ⟨h, c, q⟩ => ⟨c, h.old hn, q _ (h.take hn)⟩)
/-- both places written -/
theorem BgAt.put {n g : Nat} {s : Sto} (h : BgAt n g s) (a b : Int) (al : D) (gs : List Int) (ha : AlOk al) : Bs n g s ((s.set n (.lst [.int a, .int b, .loc g, al])).set g (.lst (gs.map D.int))) := by
  have hl := h.lt
  have hne := h.ne
  refine ⟨by simp, fun j h1 h2 => by rw [List.getElem?_set_ne (fun e => h2 e.symm), List.getElem?_set_ne (fun e => h1 e.symm)], ⟨a, b, al, ?_, ha⟩, ⟨gs, ?_⟩, hne⟩
  · rw [List.getElem?_set_ne hne, List.getElem?_set_self hl.1]
  · rw [List.getElem?_set_self (by simpa using hl.2)]
theorem put_bag {n g : Nat} {s : Sto} (h : BgAt n g s) (a b : Int) (al : D) (ha : AlOk al) : Bs n g s (s.set n (.lst [.int a, .int b, .loc g, al])) := by
  have hl := h.lt
  have hne := h.ne
  obtain ⟨_, ⟨gs, h3⟩, _⟩ := h
  exact ⟨by simp, fun j h1 h2 => by rw [List.getElem?_set_ne (fun e => h1 e.symm)], ⟨a, b, al, by rw [List.getElem?_set_self hl.1], ha⟩, ⟨gs, by rw [List.getElem?_set_ne (fun e => hne e.symm)]; exact h3⟩, hne⟩
theorem put_great {n g : Nat} {s : Sto} (h : BgAt n g s) (gs : List Int) : Bs n g s (s.set g (.lst (gs.map D.int))) := by
  have hl := h.lt
  have hne := h.ne
  obtain ⟨⟨a, b, al, h1, h2⟩, _, _⟩ := h
  exact ⟨by simp, fun j h1 h2 => by rw [List.getElem?_set_ne (fun e => h2 e.symm)], ⟨a, b, al, by rw [List.getElem?_set_ne hne]; exact h1, h2⟩, ⟨gs, by rw [List.getElem?_set_self hl.2]⟩, hne⟩
end QS
end

section
set_option linter.all false
set_option maxRecDepth 100000
/-! MA: finite sums, binomials, bells over a round. -/
namespace QS.MA
def sm : Nat → (Nat → Int) → Int
  | 0, _ => 0
  | n + 1, f => sm n f + f n
theorem sm_congr {f g : Nat → Int} : ∀ {n : Nat}, (∀ i, i < n → f i = g i) → sm n f = sm n g
  | 0, _ => rfl
  | n + 1, h => by simp only [sm]; rw [sm_congr (n := n) fun i hi => h i (by omega), h n (by omega)]
theorem sm_add {f g : Nat → Int} : ∀ n, sm n (fun i => f i + g i) = sm n f + sm n g
  | 0 => rfl
  | n + 1 => by simp only [sm]; rw [sm_add n]; omega
theorem sm_mul {f : Nat → Int} {c : Int} : ∀ n, sm n (fun i => c * f i) = c * sm n f
  | 0 => by simp [sm]
  | n + 1 => by simp only [sm]; rw [sm_mul n, Int.mul_add]
theorem sm_zero : ∀ n, sm n (fun _ => 0) = 0
  | 0 => rfl
  | n + 1 => by simp only [sm]; rw [sm_zero n]; rfl
theorem sm_front {f : Nat → Int} : ∀ n, sm (n + 1) f = f 0 + sm n fun i => f (i + 1)
  | 0 => by simp [sm]
  | n + 1 => by
    have := sm_front (f := f) n
    simp only [sm] at this ⊢
    omega
theorem sm_swap {f : Nat → Nat → Int} : ∀ n k, sm n (fun i => sm k fun j => f i j) = sm k fun j => sm n fun i => f i j
  | 0, k => by simp only [sm]; exact (sm_zero k).symm
  | n + 1, k => by
    simp only [sm]
    rw [sm_swap n k, ← sm_add]
theorem sm_append {f : Nat → Int} (a : Nat) : ∀ b, sm (a + b) f = sm a f + sm b fun i => f (a + i)
  | 0 => by simp [sm]
  | b + 1 => by
    rw [← Nat.add_assoc]
    simp only [sm]
    rw [sm_append a b]; omega
theorem sum_append (l r : List Int) : (l ++ r).sum = l.sum + r.sum := by
  induction l with
  | nil => simp
  | cons a t ih => simp [ih]; omega
theorem sum_range (f : Nat → Int) : ∀ n, ((List.range n).map f).sum = sm n f
  | 0 => rfl
  | n + 1 => by
    rw [List.range_succ, List.map_append, sum_append, sum_range f n]
    simp [sm]
/-! binomials -/
def binom : Nat → Nat → Nat
  | _, 0 => 1
  | 0, _ + 1 => 0
  | n + 1, k + 1 => binom n k + binom n (k + 1)
@[simp] theorem binom_zero (n : Nat) : binom n 0 = 1 := by cases n <;> rfl
theorem binom_succ (n k : Nat) : binom (n + 1) (k + 1) = binom n k + binom n (k + 1) := rfl
theorem binom_big : ∀ {n k : Nat}, n < k → binom n k = 0
  | n, 0, h => by omega
  | 0, k + 1, _ => rfl
  | n + 1, k + 1, h => by rw [binom_succ, binom_big (n := n) (k := k) (by omega), binom_big (n := n) (k := k + 1) (by omega)]
theorem binom_step : ∀ n k : Nat, (binom n (k + 1) : Int) * (k + 1) = binom n k * (n - k)
  | 0, 0 => by simp [binom]
  | 0, k + 1 => by simp [binom]
  | n + 1, 0 => by
    have := binom_step n 0
    simp [binom_succ] at this ⊢
    omega
  | n + 1, k + 1 => by
    have h1 := binom_step n k
    have h2 := binom_step n (k + 1)
    rw [binom_succ n (k + 1), binom_succ n k]
    generalize binom n k = a at *
    generalize binom n (k + 1) = b at *
    generalize binom n (k + 1 + 1) = c at *
    have e1 : ((b + c : Nat) : Int) * ((k + 1 : Nat) + 1) = (b : Int) * (k + 1 + 1) + (c : Int) * ((k + 1 : Nat) + 1) := by
      push_cast; rw [Int.add_mul]
    have e2 : ((a + b : Nat) : Int) * (((n + 1 : Nat) : Int) - ((k + 1 : Nat) : Int)) = (a : Int) * (n - k) + (b : Int) * (n - k) := by
      push_cast; rw [Int.add_mul, show (n : Int) + 1 - (k + 1) = n - k by omega]
    rw [e1, e2, h2, ← h1]
    push_cast
    rw [← Int.mul_add, ← Int.mul_add]
    congr 1
    omega
def sg (i : Int) : Int := 1 - 2 * (i % 2)
def gk (j k : Nat) : Int := binom j k * sg ((j : Int) - k)
theorem sg_succ (i : Int) : sg (i + 1) = - sg i := by unfold sg; omega
theorem gk_zero (j : Nat) : gk (j + 1) 0 = - gk j 0 := by
  unfold gk
  simp
  rw [sg_succ]
theorem gk_succ (j k : Nat) : gk (j + 1) (k + 1) = - gk j (k + 1) + gk j k := by
  unfold gk
  rw [binom_succ]
  have e1 : ((j + 1 : Nat) : Int) - ((k + 1 : Nat) : Int) = (j : Int) - k := by omega
  have e2 : (j : Int) - ((k + 1 : Nat) : Int) = (j : Int) - k - 1 := by omega
  have e3 : sg ((j : Int) - k - 1) = - sg ((j : Int) - k) := by
    have := sg_succ ((j : Int) - k - 1)
    rw [show (j : Int) - k - 1 + 1 = j - k by omega] at this
    omega
  rw [e1, e2, e3]
  push_cast
  rw [Int.add_mul, Int.mul_neg]
  omega
/-- inclusion and exclusion -/
theorem inc_exc : ∀ (r n k : Nat), r ≤ n → sm (n + 1) (fun j => gk j k * binom r j) = if r = k then 1 else 0
  | 0, n, k, _ => by
    rw [sm_front]
    have : sm n (fun i => gk (i + 1) k * (binom 0 (i + 1) : Int)) = 0 := by
      rw [sm_congr (g := fun _ => 0) (fun i _ => by simp [binom]), sm_zero]
    rw [this]
    cases k with
    | zero => simp [gk, sg]
    | succ k => simp [gk, binom]
  | r + 1, 0, k, h => by omega
  | r + 1, n + 1, k, h => by
    have split : sm (n + 1 + 1) (fun j => gk j k * binom (r + 1) j) = sm (n + 1 + 1) (fun j => gk j k * binom r j) + sm (n + 1) (fun j => gk (j + 1) k * binom r j) := by
      rw [sm_front, sm_front (f := fun j => gk j k * (binom r j : Int))]
      have : sm (n + 1) (fun i => gk (i + 1) k * (binom (r + 1) (i + 1) : Int)) = sm (n + 1) (fun i => gk (i + 1) k * (binom r (i + 1) : Int)) + sm (n + 1) (fun i => gk (i + 1) k * (binom r i : Int)) := by
        rw [← sm_add]
        refine sm_congr fun i _ => ?_
        rw [binom_succ]
        push_cast
        rw [Int.mul_add]; omega
      rw [this]
      simp
      omega
    have ext : sm (n + 1 + 1) (fun j => gk j k * binom r j) = sm (n + 1) (fun j => gk j k * binom r j) := by
      simp only [sm]
      rw [binom_big (n := r) (k := n + 1) (by omega)]
      simp
    rw [split, ext]
    cases k with
    | zero =>
      have : sm (n + 1) (fun j => gk (j + 1) 0 * (binom r j : Int)) = (-1) * sm (n + 1) (fun j => gk j 0 * (binom r j : Int)) := by
        rw [← sm_mul]
        refine sm_congr fun i _ => ?_
        rw [gk_zero]
        rw [Int.neg_mul]; omega
      rw [this]
      simp
      omega
    | succ k =>
      have : sm (n + 1) (fun j => gk (j + 1) (k + 1) * (binom r j : Int)) = (-1) * sm (n + 1) (fun j => gk j (k + 1) * (binom r j : Int)) + sm (n + 1) (fun j => gk j k * (binom r j : Int)) := by
        rw [← sm_mul, ← sm_add]
        refine sm_congr fun i _ => ?_
        rw [gk_succ]
        rw [Int.add_mul, Int.neg_mul]; omega
      rw [this, inc_exc r n k (by omega)]
      simp
      omega
/-! over a round -/
/-- the sum over n hours from c on -/
def SH (c : Int) (n : Nat) (f : Int → Int) : Int := sm n fun i => f (c + i)
theorem SH_shift {f : Int → Int} {n : Nat} (hp : ∀ h, f (h + n) = f h) (c : Int) : SH (c + 1) n f = SH c n f := by
  have h1 := sm_front (f := fun i => f (c + i)) n
  unfold SH
  have e : sm n (fun i => f (c + 1 + i)) = sm n fun i => f (c + ((i + 1 : Nat) : Int)) := sm_congr fun i _ => by congr 1; omega
  rw [e]
  simp only [sm] at h1
  have := hp c
  simp at h1
  simp
  omega
theorem SH_any {f : Int → Int} {n : Nat} (hp : ∀ h, f (h + n) = f h) : ∀ c : Int, SH c n f = SH 0 n f := by
  have up : ∀ k : Nat, SH (k : Int) n f = SH 0 n f := fun k => by
    induction k with
    | zero => rfl
    | succ k ih => rw [← ih]; have := SH_shift hp (k : Int); push_cast; exact this
  have dn : ∀ k : Nat, SH (-(k : Int)) n f = SH 0 n f := fun k => by
    induction k with
    | zero => rfl
    | succ k ih =>
      rw [← ih]
      have := SH_shift hp (-((k + 1 : Nat) : Int))
      rw [← this]
      congr 1
      omega
  intro c
  rcases Int.le_total 0 c with h | h
  · have := up c.toNat
    rwa [Int.toNat_of_nonneg h] at this
  · have := dn (-c).toNat
    rwa [Int.toNat_of_nonneg (by omega), Int.neg_neg] at this
theorem SH_by {f : Int → Int} {n : Nat} (hp : ∀ h, f (h + n) = f h) (b : Int) : SH 0 n (fun h => f (h + b)) = SH 0 n f := by
  rw [← SH_any hp b]
  unfold SH
  exact sm_congr fun i _ => by show f (0 + i + b) = f (b + i); congr 1; omega
/-- one of e hours in a row -/
theorem one_of {e a c : Int} (he : 0 < e) : SH c e.toNat (fun h => if e ∣ h - a then 1 else 0) = 1 := by
  have key : ∀ (i0 : Nat) (n : Nat), sm n (fun i => if i = i0 then (1 : Int) else 0) = if i0 < n then 1 else 0 := fun i0 n => by
    induction n with
    | zero => rfl
    | succ n ih =>
      simp only [sm, ih]
      by_cases h : i0 < n
      · simp [h, show ¬ n = i0 by omega, show i0 < n + 1 by omega]
      · by_cases h2 : n = i0
        · simp [h2]
        · simp [h, h2, show ¬ i0 < n + 1 by omega]
  have h1 := Int.emod_nonneg (a - c) (show e ≠ 0 by omega)
  have h2 := Int.emod_lt_of_pos (a - c) he
  have h3 := Int.emod_add_mul_ediv (a - c) e
  unfold SH
  rw [sm_congr (g := fun i => if i = ((a - c) % e).toNat then (1 : Int) else 0)]
  · rw [key, if_pos (by omega)]
  · intro i hi
    have iff : e ∣ c + i - a ↔ i = ((a - c) % e).toNat := by
      constructor
      · rintro ⟨k, hk⟩
        have : (a - c) % e = i := by
          have e1 : a - c = i + e * (-k) := by rw [Int.mul_neg]; omega
          rw [e1, Int.add_mul_emod_self_left]
          exact Int.emod_eq_of_lt (by omega) (by omega)
        omega
      · intro hk
        refine ⟨- ((a - c) / e), ?_⟩
        rw [Int.mul_neg]
        omega
    show (if e ∣ c + i - a then (1 : Int) else 0) = _
    by_cases q : e ∣ c + i - a
    · rw [if_pos q, if_pos (iff.mp q)]
    · rw [if_neg q, if_neg (fun z => q (iff.mpr z))]
theorem SH_append {f : Int → Int} (c : Int) (a b : Nat) : SH c (a + b) f = SH c a f + SH (c + a) b f := by
  unfold SH
  rw [sm_append]
  congr 1
  exact sm_congr fun i _ => by congr 1; push_cast; omega
/-- how often a bell rings in q times its number of hours -/
theorem ring_count {e a : Int} (he : 0 < e) : ∀ (q : Nat) (c : Int), SH c (e.toNat * q) (fun h => if e ∣ h - a then 1 else 0) = q
  | 0, c => rfl
  | q + 1, c => by
    rw [Nat.mul_succ, SH_append, ring_count he q, one_of he]
    rfl
end QS.MA
end

section
set_option linter.all false
set_option maxRecDepth 100000
/-! MB: 2 ^ K hours are enough. Functions of two whole numbers: an hour h and a place t; a shift in t stands for a root of unity. -/
namespace QS.MB
/-- a sum of functions, each of which goes on by its own shift -/
def Ex (e : Int) (c : Int → Int → Int) : Prop := ∀ h t, c (h + 1) t = c h (t + e)
def su (l : List (Int × (Int → Int → Int))) (h t : Int) : Int := (l.map fun p => p.2 h t).sum
theorem su_nil {h t : Int} : su [] h t = 0 := rfl
theorem su_cons {p : Int × (Int → Int → Int)} {l : List (Int × (Int → Int → Int))} {h t : Int} : su (p :: l) h t = p.2 h t + su l h t := by simp [su]
theorem su_sub (e : Int) (l : List (Int × (Int → Int → Int))) (h t : Int) : su (l.map fun p => (p.1, fun h t => p.2 (h + 1) t - p.2 h (t + e))) h t = su l (h + 1) t - su l h (t + e) := by
  induction l with
  | nil => rfl
  | cons p l ih =>
    rw [List.map_cons, su_cons, su_cons, su_cons, ih]
    show p.2 (h + 1) t - p.2 h (t + e) + _ = _
    omega
/-- zero for as many hours as there are terms: zero for ever -/
theorem su_zero : ∀ (m : Nat) (l : List (Int × (Int → Int → Int))), l.length = m → (∀ p ∈ l, Ex p.1 p.2) → ∀ h0 : Int, (∀ k : Nat, k < m → ∀ t, su l (h0 + k) t = 0) → ∀ h t, su l h t = 0 := by
  intro m
  induction m with
  | zero =>
    intro l hl he h0 hz h t
    cases l with
    | nil => rfl
    | cons p l => cases hl
  | succ m ih =>
    intro l hl he h0 hz h t
    cases l with
    | nil => cases hl
    | cons p l =>
      have hg : ∀ h t, su (l.map fun q => (q.1, fun h t => q.2 (h + 1) t - q.2 h (t + p.1))) h t = su (p :: l) (h + 1) t - su (p :: l) h (t + p.1) := by
        intro h t
        rw [su_sub, su_cons, su_cons, he p (List.mem_cons_self ..) h t]
        omega
      have hstep : ∀ h t, su (p :: l) (h + 1) t = su (p :: l) h (t + p.1) := by
        intro h t
        have h0' := ih (l.map fun q => (q.1, fun h t => q.2 (h + 1) t - q.2 h (t + p.1))) (by simpa using hl) (by
          intro q hq
          obtain ⟨r, hr, rfl⟩ := List.mem_map.mp hq
          intro h t
          have h1 := he r (List.mem_cons_of_mem _ hr)
          show r.2 (h + 1 + 1) t - r.2 (h + 1) (t + p.1) = r.2 (h + 1) (t + r.1) - r.2 h (t + r.1 + p.1)
          rw [h1 (h + 1) t, h1 h (t + p.1)]
          rw [show t + p.1 + r.1 = t + r.1 + p.1 by omega]) h0 (by
          intro k hk t
          rw [hg, hz k (by omega)]
          have h2 := hz (k + 1) (by omega) t
          rw [show h0 + (k : Int) + 1 = h0 + ((k + 1 : Nat) : Int) by push_cast; omega, h2]
          rfl) h t
        rw [hg] at h0'
        omega
      have hup : ∀ (n : Nat) (t : Int), su (p :: l) (h0 + n) t = 0 := by
        intro n
        induction n with
        | zero => intro t; exact hz 0 (by omega) t
        | succ n ihn =>
          intro t
          rw [show h0 + ((n + 1 : Nat) : Int) = h0 + (n : Int) + 1 by push_cast; omega, hstep]
          exact ihn _
      have hdn : ∀ (n : Nat) (t : Int), su (p :: l) (h0 - n) t = 0 := by
        intro n
        induction n with
        | zero => intro t; have := hz 0 (by omega) t; simpa using this
        | succ n ihn =>
          intro t
          have h2 := hstep (h0 - ((n + 1 : Nat) : Int)) (t - p.1)
          rw [show h0 - ((n + 1 : Nat) : Int) + 1 = h0 - (n : Int) by push_cast; omega, ihn, show t - p.1 + p.1 = t by omega] at h2
          exact h2.symm
      by_cases c : h0 ≤ h
      · have := hup (h - h0).toNat t
        rwa [show h0 + (((h - h0).toNat : Nat) : Int) = h by omega] at this
      · have := hdn (h0 - h).toNat t
        rwa [show h0 - (((h0 - h).toNat : Nat) : Int) = h by omega] at this
/-! the product over the bells -/
/-- bells (n, a); N = n * e -/
def pr (N : Int) (w : Int → Int) : List (Int × Int) → Int → Int → Int
  | [], _, t => w t
  | p :: bs, h, t => pr N w bs h t - pr N w bs h (t + N / p.1 * (h - p.2))
def tm (N : Int) (w : Int → Int) : List (Int × Int) → List (Int × (Int → Int → Int))
  | [] => [(0, fun _ t => w t)]
  | p :: bs => tm N w bs ++ (tm N w bs).map fun q => (q.1 + N / p.1, fun h t => -q.2 h (t + N / p.1 * (h - p.2)))
theorem tm_len {N : Int} {w : Int → Int} : ∀ bs : List (Int × Int), (tm N w bs).length = 2 ^ bs.length
  | [] => rfl
  | p :: bs => by simp [tm, tm_len bs, Nat.pow_succ]; omega
theorem tm_ex {N : Int} {w : Int → Int} : ∀ (bs : List (Int × Int)), ∀ q ∈ tm N w bs, Ex q.1 q.2
  | [], q, hq => by
    simp [tm] at hq
    subst hq
    intro h t
    show w t = w (t + 0)
    rw [Int.add_zero]
  | p :: bs, q, hq => by
    rcases List.mem_append.mp hq with hq | hq
    · exact tm_ex bs q hq
    · obtain ⟨r, hr, rfl⟩ := List.mem_map.mp hq
      intro h t
      have := tm_ex bs r hr h (t + N / p.1 * (h + 1 - p.2))
      show -r.2 (h + 1) (t + N / p.1 * (h + 1 - p.2)) = -r.2 h (t + (r.1 + N / p.1) + N / p.1 * (h - p.2))
      rw [this, show h + 1 - p.2 = (h - p.2) + 1 by omega, Int.mul_add, Int.mul_one]
      rw [show t + (N / p.1 * (h - p.2) + N / p.1) + r.1 = t + (r.1 + N / p.1) + N / p.1 * (h - p.2) by omega]
theorem su_app {l r : List (Int × (Int → Int → Int))} {h t : Int} : su (l ++ r) h t = su l h t + su r h t := by simp [su]
theorem su_tm {N : Int} {w : Int → Int} : ∀ (bs : List (Int × Int)) (h t : Int), su (tm N w bs) h t = pr N w bs h t
  | [], h, t => by simp [tm, su, pr]
  | p :: bs, h, t => by
    rw [tm, su_app, su_tm bs, pr, ← su_tm bs h (t + N / p.1 * (h - p.2))]
    have : ∀ l : List (Int × (Int → Int → Int)), su (l.map fun q => (q.1 + N / p.1, fun h t => -q.2 h (t + N / p.1 * (h - p.2)))) h t = -su l h (t + N / p.1 * (h - p.2)) := by
      intro l
      induction l with
      | nil => rfl
      | cons q l ih => rw [List.map_cons, su_cons, su_cons, ih]; show -q.2 h (t + N / p.1 * (h - p.2)) + _ = _; omega
    rw [this]
    omega
def Per (N : Int) (F : Int → Int) : Prop := ∀ t, F (t + N) = F t
theorem Per.mul {N : Int} {F : Int → Int} (h : Per N F) (k : Int) (t : Int) : F (t + N * k) = F t := by
  have up : ∀ (n : Nat) t, F (t + N * n) = F t := by
    intro n
    induction n with
    | zero => intro t; simp
    | succ n ih => intro t; rw [show t + N * ((n + 1 : Nat) : Int) = (t + N * n) + N by push_cast; rw [Int.mul_add, Int.mul_one]; omega, h, ih]
  by_cases c : 0 ≤ k
  · have := up k.toNat t
    rwa [Int.toNat_of_nonneg c] at this
  · have := up (-k).toNat (t + N * k)
    rw [Int.toNat_of_nonneg (by omega), show t + N * k + N * -k = t by rw [Int.mul_neg]; omega] at this
    exact this.symm
theorem per_pr {N : Int} {w : Int → Int} (h : Per N w) : ∀ (bs : List (Int × Int)) (x : Int), Per N (pr N w bs x)
  | [], x => h
  | p :: bs, x => fun t => by
    have ih := per_pr h bs x
    show pr N w bs x (t + N) - pr N w bs x (t + N + N / p.1 * (x - p.2)) = pr N w bs x t - pr N w bs x (t + N / p.1 * (x - p.2))
    rw [ih, show t + N + N / p.1 * (x - p.2) = t + N / p.1 * (x - p.2) + N by omega, ih]
theorem pr_loud {N : Int} {w : Int → Int} (hw : Per N w) : ∀ (bs : List (Int × Int)) (x : Int), (∀ p ∈ bs, p.1 ∣ N) → (∃ p ∈ bs, p.1 ∣ x - p.2) → ∀ t, pr N w bs x t = 0
  | [], x, hd, ⟨p, hp, _⟩, t => (nomatch hp)
  | p :: bs, x, hd, ⟨q, hq, h⟩, t => by
    show pr N w bs x t - pr N w bs x (t + N / p.1 * (x - p.2)) = 0
    rcases List.mem_cons.mp hq with rfl | hq
    · obtain ⟨k, hk⟩ := h
      rw [hk, ← Int.mul_assoc, Int.ediv_mul_cancel (hd q (List.mem_cons_self ..)), (per_pr hw bs x).mul]
      omega
    · have ih := pr_loud hw bs x (fun r hr => hd r (List.mem_cons_of_mem _ hr)) ⟨q, hq, h⟩
      rw [ih, ih]
      rfl
/-! the sums over the parts of a round -/
def Prm (q : Nat) : Prop := 2 ≤ q ∧ ∀ d, d ∣ q → d = 1 ∨ d = q
/-- F's sum over the q places t + k * m -/
def qs (F : Int → Int) (m : Int) : Nat → Int → Int
  | 0, _ => 0
  | k + 1, t => qs F m k t + F (t + k * m)
/-- of each prime that divides N the sum is nothing -/
def Van (N : Nat) (F : Int → Int) : Prop := ∀ q, Prm q → q ∣ N → ∀ t, qs F ((N / q : Nat) : Int) q t = 0
theorem qs_per {F : Int → Int} {m : Int} (h : Per m F) : ∀ (k : Nat) (t : Int), qs F m k t = k * F t
  | 0, t => by simp [qs]
  | k + 1, t => by
    rw [qs, qs_per h k, show (k : Int) * m = m * k from Int.mul_comm .., h.mul]
    push_cast
    rw [Int.add_mul, Int.one_mul]
theorem qs_sub {F G : Int → Int} {m : Int} : ∀ (k : Nat) (t : Int), qs (fun t => F t - G t) m k t = qs F m k t - qs G m k t
  | 0, t => rfl
  | k + 1, t => by rw [qs, qs, qs, qs_sub k]; omega
theorem qs_shift {F : Int → Int} {m e : Int} : ∀ (k : Nat) (t : Int), qs (fun t => F (t + e)) m k t = qs F m k (t + e)
  | 0, t => rfl
  | k + 1, t => by rw [qs, qs, qs_shift k, show t + (k : Int) * m + e = t + e + k * m by omega]
theorem van_pr {N : Nat} {w : Int → Int} (h : Van N w) : ∀ (bs : List (Int × Int)) (x : Int), Van N (pr N w bs x)
  | [], x => h
  | p :: bs, x => fun q hq hd t => by
    have ih := van_pr h bs x q hq hd
    have e : pr N w (p :: bs) x = fun t => pr N w bs x t - (fun t => pr N w bs x (t + N / p.1 * (x - p.2))) t := rfl
    rw [e, qs_sub, qs_shift, ih, ih]
    rfl
/-- some prime divides what is at least 2 -/
theorem prm_ex (n : Nat) (h : 2 ≤ n) : ∃ q, Prm q ∧ q ∣ n := by
  induction n using Nat.strongRecOn with
  | ind n ih =>
    by_cases c : ∀ d, d ∣ n → d = 1 ∨ d = n
    · exact ⟨n, ⟨h, c⟩, Nat.dvd_refl n⟩
    · have ⟨d, hd⟩ := Classical.not_forall.mp c
      have hd1 : d ∣ n := Classical.byContradiction fun h => hd fun h' => absurd h' h
      have hd2 : ¬(d = 1 ∨ d = n) := fun h => hd fun _ => h
      have hle := Nat.le_of_dvd (by omega) hd1
      have hd0 : d ≠ 0 := by
        rintro rfl
        have := Nat.eq_zero_of_zero_dvd hd1
        omega
      obtain ⟨q, hq, hqd⟩ := ih d (by omega) (by omega)
      exact ⟨q, hq, Nat.dvd_trans hqd hd1⟩
/-- F goes on by N and by e: it goes on by their greatest divisor -/
theorem per_gcd {F : Int → Int} : ∀ a b : Nat, Per a F → Per b F → Per (Nat.gcd a b : Nat) F := by
  intro a b
  induction a, b using Nat.gcd.induction with
  | H0 b => intro _ g; rw [Nat.gcd_zero_left]; exact g
  | H1 a b ha ih =>
    intro h g
    rw [Nat.gcd_rec]
    refine ih ?_ h
    intro t
    have h1 := h.mul (-((b / a : Nat) : Int)) (t + b)
    have h2 : ((b % a : Nat) : Int) = b + (a : Int) * -((b / a : Nat) : Int) := by
      have := Nat.div_add_mod b a
      have h3 : (b : Int) = (a : Int) * ((b / a : Nat) : Int) + ((b % a : Nat) : Int) := by exact_mod_cast this.symm
      rw [Int.mul_neg]
      omega
    rw [h2, show t + (b + (a : Int) * -((b / a : Nat) : Int)) = t + b + (a : Int) * -((b / a : Nat) : Int) by omega, h1]
    exact g t
theorem per_neg {e : Int} {F : Int → Int} (h : Per e F) : Per (e.natAbs : Int) F := by
  rcases Int.natAbs_eq e with c | c
  · rw [← c]; exact h
  · intro t
    have := h.mul (-1) t
    rw [show e * -1 = (e.natAbs : Int) by omega] at this
    exact this
theorem per_dvd {a b : Nat} {F : Int → Int} (h : Per (a : Int) F) (d : a ∣ b) : Per (b : Int) F := by
  obtain ⟨k, rfl⟩ := d
  intro t
  have := h.mul k t
  rwa [← Int.natCast_mul] at this
/-- what goes on by e, not a multiple of N, and vanishes, is nothing -/
theorem van_zero {N : Nat} {F : Int → Int} (hN : 1 ≤ N) (hp : Per (N : Int) F) (hv : Van N F) {e : Int} (he : Per e F) (hd : ¬(N : Int) ∣ e) : ∀ t, F t = 0 := by
  have hg := per_gcd N e.natAbs hp (per_neg he)
  obtain ⟨m, hm⟩ := Nat.gcd_dvd_left N e.natAbs
  have hm2 : 2 ≤ m := by
    have : m ≠ 0 := by rintro rfl; omega
    have : m ≠ 1 := by
      rintro rfl
      have h1 : N ∣ e.natAbs := by
        have := Nat.gcd_dvd_right N e.natAbs
        rw [Nat.mul_one] at hm
        rwa [← hm] at this
      exact hd (Int.ofNat_dvd_left.mpr h1)
    omega
  obtain ⟨q, hq, hqm⟩ := prm_ex m hm2
  obtain ⟨r, rfl⟩ := hqm
  have hq0 : 0 < q := by have := hq.1; omega
  have hqN : q ∣ N := ⟨Nat.gcd N e.natAbs * r, hm.trans (Nat.mul_left_comm ..)⟩
  have hdv : Nat.gcd N e.natAbs ∣ N / q := ⟨r, by
    apply Nat.div_eq_of_eq_mul_left hq0
    rw [Nat.mul_assoc, Nat.mul_comm r q]; exact hm⟩
  intro t
  have h1 := hv q hq hqN t
  rw [qs_per (per_dvd hg hdv)] at h1
  rcases Int.mul_eq_zero.mp h1 with h1 | h1
  · omega
  · exact h1
theorem pr_quiet {N : Nat} {w : Int → Int} (hN : 1 ≤ N) (hw : Per (N : Int) w) (hv : Van N w) {t0 : Int} (h0 : w t0 ≠ 0) : ∀ (bs : List (Int × Int)) (x : Int), (∀ p ∈ bs, p.1 ∣ N ∧ 1 ≤ p.1) → (∀ t, pr N w bs x t = 0) → ∃ p ∈ bs, p.1 ∣ x - p.2
  | [], x, _, hz => absurd (hz t0) h0
  | p :: bs, x, hd, hz => by
    by_cases c : p.1 ∣ x - p.2
    · exact ⟨p, List.mem_cons_self .., c⟩
    · obtain ⟨hp1, hp2⟩ := hd p (List.mem_cons_self ..)
      have hc : ¬(N : Int) ∣ N / p.1 * (x - p.2) := by
        intro h
        apply c
        obtain ⟨k, hk⟩ := hp1
        rw [hk, Int.mul_ediv_cancel_left _ (by omega), Int.mul_comm p.1 k] at h
        refine Int.dvd_of_mul_dvd_mul_left ?_ h
        rintro rfl
        rw [Int.mul_zero] at hk
        omega
      have hz' : ∀ t, pr N w bs x t = 0 := van_zero hN (per_pr hw bs x) (van_pr hv bs x) (e := N / p.1 * (x - p.2)) (fun t => by
        have := hz t
        simp only [pr] at this
        omega) hc
      obtain ⟨q, hq, h⟩ := pr_quiet hN hw hv h0 bs x (fun r hr => hd r (List.mem_cons_of_mem _ hr)) hz'
      exact ⟨q, List.mem_cons_of_mem _ hq, h⟩
/-! a function that vanishes so -/
theorem qs_add {F G : Int → Int} {m : Int} : ∀ (k : Nat) (t : Int), qs (fun t => F t + G t) m k t = qs F m k t + qs G m k t
  | 0, t => rfl
  | k + 1, t => by rw [qs, qs, qs, qs_add k]; omega
theorem qs_mulc {F : Int → Int} {m c : Int} : ∀ (k : Nat) (t : Int), qs (fun t => c * F t) m k t = c * qs F m k t
  | 0, t => by simp [qs]
  | k + 1, t => by rw [qs, qs, qs_mulc k, Int.mul_add]
theorem qs_zero {m : Int} : ∀ (k : Nat) (t : Int), qs (fun _ => 0) m k t = 0
  | 0, t => rfl
  | k + 1, t => by rw [qs, qs_zero k]; rfl
theorem qs_qs {F : Int → Int} {m m' : Int} {r : Nat} (h : ∀ t, qs F m' r t = 0) : ∀ (k : Nat) (t : Int), qs (fun t => qs F m k t) m' r t = 0
  | 0, t => by simp only [qs]; exact qs_zero r t
  | k + 1, t => by
    simp only [qs]
    rw [qs_add, qs_qs h k, qs_shift, h]
    rfl
theorem qs_next {F : Int → Int} {m : Int} : ∀ (k : Nat) (t : Int), qs F m k (t + m) = qs F m k t + F (t + k * m) - F t
  | 0, t => by simp [qs]
  | k + 1, t => by
    rw [qs, qs, qs_next k]
    rw [show t + m + (k : Int) * m = t + ((k + 1 : Nat) : Int) * m by push_cast; rw [Int.add_mul, Int.one_mul]; omega]
    omega
theorem qs_some {F : Int → Int} {m : Int} : ∀ (k : Nat) (t : Int), qs F m k t ≠ 0 → ∃ j : Nat, j < k ∧ F (t + j * m) ≠ 0
  | 0, t, h => absurd rfl h
  | k + 1, t, h => by
    by_cases c : F (t + k * m) = 0
    · rw [qs, c, Int.add_zero] at h
      obtain ⟨j, hj, hF⟩ := qs_some k t h
      exact ⟨j, by omega, hF⟩
    · exact ⟨k, by omega, c⟩
theorem prm_mul {q a b : Nat} (h : Prm q) (hd : q ∣ a * b) : q ∣ a ∨ q ∣ b := by
  rcases h.2 (Nat.gcd q a) (Nat.gcd_dvd_left ..) with c | c
  · exact .inr (Nat.Coprime.dvd_of_dvd_mul_left c hd)
  · exact .inl (by rw [← c]; exact Nat.gcd_dvd_right ..)
def prod : List Nat → Nat
  | [] => 1
  | q :: ps => q * prod ps
theorem prm_prod {q : Nat} (h : Prm q) : ∀ ps : List Nat, (∀ r ∈ ps, Prm r) → q ∣ prod ps → q ∈ ps
  | [], _, hd => by
    have := Nat.dvd_one.mp hd
    have := h.1
    omega
  | r :: ps, hp, hd => by
    rcases prm_mul h hd with c | c
    · rcases (hp r (List.mem_cons_self ..)).2 q c with e | e
      · have := h.1
        omega
      · rw [e]; exact List.mem_cons_self ..
    · exact List.mem_cons_of_mem _ (prm_prod h ps (fun s hs => hp s (List.mem_cons_of_mem _ hs)) c)
theorem theta {N : Nat} (hN : 1 ≤ N) : ∀ ps : List Nat, ps.Nodup → (∀ q ∈ ps, Prm q ∧ q ∣ N) → ∃ w : Int → Int, Per (N : Int) w ∧ (∃ t, w t ≠ 0) ∧ (∀ q ∈ ps, ∀ t, qs w ((N / q : Nat) : Int) q t = 0) ∧ ∀ t, w t ≠ 0 → (N : Int) ∣ prod ps * t
  | [], _, _ => by
    refine ⟨fun t => if (N : Int) ∣ t then 1 else 0, fun t => ?_, ⟨0, by simp⟩, fun q hq => (nomatch hq), fun t ht => ?_⟩
    · show (if (N : Int) ∣ t + N then (1 : Int) else 0) = if (N : Int) ∣ t then 1 else 0
      have : ((N : Int) ∣ t + N) ↔ ((N : Int) ∣ t) := Int.dvd_add_left (Int.dvd_refl _)
      simp [this]
    · have : (N : Int) ∣ t := Classical.byContradiction fun h => ht (by simp [h])
      simpa [prod] using this
  | q :: ps, hn, hp => by
    obtain ⟨hq, hqN⟩ := hp q (List.mem_cons_self ..)
    obtain ⟨w, hw, ⟨t0, ht0⟩, hv, hs⟩ := theta hN ps (List.nodup_cons.mp hn).2 (fun r hr => hp r (List.mem_cons_of_mem _ hr))
    have hq0 : 0 < q := by have := hq.1; omega
    obtain ⟨m, hm⟩ : ∃ m : Nat, N / q = m := ⟨_, rfl⟩
    have hNm : N = q * m := by rw [← hm, Nat.mul_div_cancel' hqN]
    have hm0 : 0 < m := by
      rcases Nat.eq_zero_or_pos m with c | c
      · rw [c, Nat.mul_zero] at hNm; omega
      · exact c
    have hper : Per (m : Int) (fun t => qs w (m : Int) q t) := by
      intro t
      show qs w (m : Int) q (t + m) = qs w (m : Int) q t
      rw [qs_next]
      have := hw t
      rw [hNm] at this
      push_cast at this
      rw [this]
      omega
    refine ⟨fun t => q * w t - qs w (m : Int) q t, ?_, ?_, ?_, ?_⟩
    · intro t
      show q * w (t + N) - qs w (m : Int) q (t + N) = q * w t - qs w (m : Int) q t
      rw [hw, ← qs_shift]
      congr 2
      funext t
      exact hw t
    · refine Classical.byContradiction fun hno => ?_
      have hz : ∀ t, (q : Int) * w t = qs w (m : Int) q t := fun t => by
        have : ¬((q : Int) * w t - qs w (m : Int) q t ≠ 0) := fun h => hno ⟨t, h⟩
        omega
      have hwm : w (t0 + m) = w t0 := by
        have h1 := hz (t0 + m)
        have h2 : qs w (m : Int) q (t0 + m) = qs w (m : Int) q t0 := hper t0
        rw [h2, ← hz t0] at h1
        exact Int.eq_of_mul_eq_mul_left (by omega) h1
      have d1 := hs (t0 + m) (by rw [hwm]; exact ht0)
      have d2 := hs t0 ht0
      rw [Int.mul_add] at d1
      have d3 : (N : Int) ∣ (prod ps : Int) * m := (Int.dvd_add_right d2).mp d1
      have d4 : N ∣ prod ps * m := by exact_mod_cast d3
      rw [hNm] at d4
      have d5 : q ∣ prod ps := Nat.dvd_of_mul_dvd_mul_right hm0 d4
      exact (List.nodup_cons.mp hn).1 (prm_prod hq ps (fun r hr => (hp r (List.mem_cons_of_mem _ hr)).1) d5)
    · intro r hr t
      rcases List.mem_cons.mp hr with rfl | hr
      · rw [hm, qs_sub, qs_mulc, qs_per hper]
        omega
      · rw [qs_sub, qs_mulc, hv r hr, qs_qs (hv r hr)]
        simp
    · intro t ht
      have hsome : w t ≠ 0 ∨ qs w (m : Int) q t ≠ 0 := by
        refine Classical.byContradiction fun h => ht ?_
        have h1 : w t = 0 := Classical.byContradiction fun c => h (.inl c)
        have h2 : qs w (m : Int) q t = 0 := Classical.byContradiction fun c => h (.inr c)
        show (q : Int) * w t - qs w (m : Int) q t = 0
        rw [h1, h2]
        simp
      show (N : Int) ∣ ((q * prod ps : Nat) : Int) * t
      push_cast
      rcases hsome with h | h
      · rw [Int.mul_assoc]
        exact Int.dvd_mul_of_dvd_right (hs t h)
      · obtain ⟨j, _, hj⟩ := qs_some _ _ h
        have d := hs _ hj
        rw [Int.mul_add] at d
        have d2 : (N : Int) ∣ q * ((prod ps : Int) * t + prod ps * (j * m)) := Int.dvd_mul_of_dvd_right d
        rw [Int.mul_add] at d2
        have d3 : (N : Int) ∣ q * ((prod ps : Int) * (j * m)) := ⟨prod ps * j, by rw [hNm]; push_cast; simp only [Int.mul_comm, Int.mul_left_comm, Int.mul_assoc]⟩
        rw [Int.mul_assoc]
        exact (Int.dvd_add_left d3).mp d2
open Classical in
theorem theta_all {N : Nat} (hN : 1 ≤ N) : ∃ w : Int → Int, Per (N : Int) w ∧ Van N w ∧ ∃ t, w t ≠ 0 := by
  obtain ⟨w, h1, h2, h3, _⟩ := theta hN ((List.range (N + 1)).filter fun q => decide (Prm q ∧ q ∣ N)) (List.nodup_range.filter _) (fun q hq => by simpa using (List.mem_filter.mp hq).2)
  refine ⟨w, h1, fun q hq hd t => h3 q ?_ t, h2⟩
  rw [List.mem_filter]
  exact ⟨List.mem_range.mpr (by have := Nat.le_of_dvd (by omega) hd; omega), by simp [hq, hd]⟩
/-- 2 ^ K hours are enough -/
theorem two_pow (bs : List (Int × Int)) (h : ∀ p ∈ bs, 1 ≤ p.1) (h0 : Int) (hz : ∀ k : Nat, k < 2 ^ bs.length → ∃ p ∈ bs, p.1 ∣ h0 + k - p.2) (x : Int) : ∃ p ∈ bs, p.1 ∣ x - p.2 := by
  obtain ⟨N, hN, hd⟩ : ∃ N : Nat, 1 ≤ N ∧ ∀ p ∈ bs, p.1 ∣ (N : Int) := by
    clear hz
    induction bs with
    | nil => exact ⟨1, by decide, fun p hp => (nomatch hp)⟩
    | cons q bs ih =>
      obtain ⟨N, hN, hd⟩ := ih (fun p hp => h p (List.mem_cons_of_mem _ hp))
      have hq := h q (List.mem_cons_self ..)
      refine ⟨q.1.toNat * N, Nat.mul_pos (by omega) hN, fun p hp => ?_⟩
      rw [Int.natCast_mul, Int.toNat_of_nonneg (by omega)]
      rcases List.mem_cons.mp hp with rfl | hp
      · exact Int.dvd_mul_right ..
      · exact Int.dvd_mul_of_dvd_right (hd p hp)
  obtain ⟨w, hw, hv, t0, ht0⟩ := theta_all hN
  refine pr_quiet hN hw hv ht0 bs x (fun p hp => ⟨hd p hp, h p hp⟩) fun t => ?_
  rw [← su_tm]
  refine su_zero (2 ^ bs.length) (tm N w bs) (tm_len bs) (tm_ex bs) h0 (fun k hk t => ?_) x t
  rw [su_tm]
  exact pr_loud hw bs _ hd (hz k hk) t
end QS.MB
end

section
set_option Elab.async false
set_option linter.all false
set_option maxRecDepth 100000
set_option maxHeartbeats 0
namespace QS.K14
open PySem PySem.Spec PyProof.Rows L2 QS
/-! ### denotations -/
abbrev cls : List Str := ["Bells"]
noncomputable def b__law_bag : SM :=
    sSeq (sSet 1 (eB (gAdd false) (eC (.int 59)) (eF gLen (aCons (eVar 0) (aNil)))))
    (sSeq (sFor (iOf itEach (eSl (gSl false) (eVar 0) (oNone) (oSome (eC (.int 60))))) (gSet 2)
    (sSet 1 (eB gMod (eF gInt (aCons (eB (gAdd false) (eB (gAdd false) (eB (gMul false) (eVar 1) (eC (.int 48271))) (eF gInt (aCons (eVar 2) (aNil)))) (eB gPow (eC (.int 2)) (eC (.int 40)))) (aNil))) (eC (.int 2147483629)))))
    (sSeq (sSet 3 (eLc true [2] (iOf itEach (eSl (gSl false) (eVar 0) (oNone) (oSome (eC (.int 60))))) (gSet 2) (tV (eB gGe (eF gAbs (aCons (eF gInt (aCons (eVar 2) (aNil))) (aNil))) (eB gPow (eC (.int 10)) (eC (.int 12))))) (eF gAbs (aCons (eF gInt (aCons (eVar 2) (aNil))) (aNil)))))
    (sSeq (sSet 4 (eC .non))
    (sSeq (sIf (QS.tOr (tV (eB gEq (eF gLen (aCons (eVar 0) (aNil))) (eC (.int 0)))) (QS.tAnd (tV (eB gEq (eF gLen (aCons (eVar 0) (aNil))) (eC (.int 1)))) (tV (eB gLt (eF gAbs (aCons (eF gInt (aCons (eB gIx (eVar 0) (eC (.int 0))) (aNil))) (aNil))) (eC (.int 8))))))
    (sSet 4 (eF gAbs (aCons (eF gSumA (aCons (eLc false [2] (iOf itEach (eVar 0)) (gSet 2) (tT0) (eF gInt (aCons (eVar 2) (aNil)))) (aNil))) (aNil))))
    (sNil))
    (sRet (eLst true (aCons (eVar 1) (aCons (eC (.int 1)) (aCons (eVar 3) (aCons (eVar 4) (aNil)))))))))))
noncomputable def d__law_bag : List D → M D := (run 5 b__law_bag)

noncomputable def b_is_integer : SM :=
    sRet (eAnd (eU (gIsi (ansB "int" cls)) (eVar 0)) (QS.eNot (eU (gIsi (ansB "bool" cls)) (eVar 0))))
noncomputable def d_is_integer : List D → M D := sealF (run 1 b_is_integer)

noncomputable def b_is_below : SM :=
    sRet (eAnd (eCall (fnN 1 d_is_integer) (aCons (eVar 0) (aNil))) (eChain gLe gLt (eC (.int 0)) (eVar 0) (eVar 1)))
noncomputable def d_is_below : List D → M D := sealF (run 2 b_is_below)

noncomputable def b_is_pair : SM :=
    sSeq (sIf (QS.tOr (QS.tNot (tV (eU (gIsi (ansB "tuple" cls)) (eVar 0)))) (tV (eB gNe (eF gLen (aCons (eVar 0) (aNil))) (eC (.int 2)))))
    (sRet (eC (.bl false)))
    (sNil))
    (sRet (eAnd (eCall (fnN 2 d_is_below) (aCons (eB gIx (eVar 0) (eC (.int 0))) (aCons (eB (gAdd false) (eC (.int 1000000000)) (eC (.int 1))) (aNil)))) (eCall (fnN 2 d_is_below) (aCons (eB gIx (eVar 0) (eC (.int 1))) (aCons (eB gIx (eVar 0) (eC (.int 0))) (aNil))))))
noncomputable def d_is_pair : List D → M D := sealF (run 1 b_is_pair)

noncomputable def b_first_bad : SM :=
    sSeq (sIf (QS.tOr (QS.tNot (tV (eU (gIsi (ansB "tuple" cls)) (eVar 0)))) (tV (eB gGt (eF gLen (aCons (eVar 0) (aNil))) (eC (.int 14)))))
    (sRet (eU gNeg (eC (.int 1))))
    (sNil))
    (sSeq (sFor (iOf itEnum (aCons (eVar 0) (aNil))) (QS.gTup 2 (QS.gCons (gSet 1) (QS.gCons (gSet 2) (QS.gNil))))
    (sIf (QS.tNot (tV (eCall (fnN 1 d_is_pair) (aCons (eVar 2) (aNil)))))
    (sRet (eVar 1))
    (sNil)))
    (sRet (eC .non)))
noncomputable def d_first_bad : List D → M D := sealF (run 3 b_first_bad)

noncomputable def b_Bells_init : SM :=
    sSeq (sSet 2 (eCall (fnN 1 d_first_bad) (aCons (eVar 1) (aNil))))
    (sSeq (sIf (tV (eB gIsNot (eVar 2) (eC .non)))
    (sNever)
    (sNil))
    (QS.sFld "Bells" "pairs" (eVar 1) (eVar 0)))
noncomputable def d_Bells_init : List D → M D := sealF (run 3 b_Bells_init)

noncomputable def b__law_pick : SM :=
    sSeq (sIf (tV (eB gIsNot (eB gIx (eVar 0) (eC (.int 3))) (eC .non)))
    (sRet (eB gMod (eF gInt (aCons (eB gIx (eVar 0) (eC (.int 3))) (aNil))) (eVar 1)))
    (sNil))
    (sSeq (sIf (tV (eB gGt (eF gLen (aCons (eB gIx (eVar 0) (eC (.int 2))) (aNil))) (eC (.int 0))))
    (sSeq (sSet 2 (eB gIx (eB gIx (eVar 0) (eC (.int 2))) (eC (.int 0))))
    (sSeq (sSet 3 (eB gMod (eF gInt (aCons (eVar 2) (aNil))) (eVar 1)))
    (sSeq (sIf (tV (eB gLt (eVar 2) (eVar 1)))
    (sE (eMb "list" gPopAt (eB gIx (eVar 0) (eC (.int 2))) (aCons (eC (.int 0)) (aNil))))
    (sSub gStL (eB gDiv (eVar 2) (eVar 1)) (eB gIx (eVar 0) (eC (.int 2))) (eC (.int 0))))
    (sRet (eVar 3)))))
    (sNil))
    (sSeq (sSub gStL (eB gMod (eF gInt (aCons (eB (gAdd false) (eB (gMul false) (eF gInt (aCons (eB gIx (eVar 0) (eC (.int 0))) (aNil))) (eC (.int 69621))) (eB gIx (eVar 0) (eC (.int 1)))) (aNil))) (eC (.int 2147483629))) (eVar 0) (eC (.int 0)))
    (sSeq (sSub gStL (eB (gAdd false) (eB gIx (eVar 0) (eC (.int 1))) (eC (.int 1))) (eVar 0) (eC (.int 1)))
    (sRet (eB gMod (eF gInt (aCons (eB gDiv (eB gIx (eVar 0) (eC (.int 0))) (eC (.int 7))) (aNil))) (eVar 1))))))
noncomputable def d__law_pick : List D → M D := sealF (run 4 b__law_pick)

noncomputable def b__law_split : SM :=
    sSeq (sAsg (QS.gTup 2 (QS.gCons (gSet 4) (QS.gCons (gSet 5) (QS.gNil)))) (eB gIx (eVar 0) (eVar 1)))
    (sSeq (sSet 3 (eLc false [6] (iOf itRng1 (aCons (eVar 2) (aNil))) (gSet 6) (tT0) (eTup (aCons (eB (gMul false) (eVar 4) (eVar 2)) (aCons (eB (gAdd false) (eVar 5) (eB (gMul false) (eVar 4) (eVar 6))) (aNil))))))
    (sRet (eB (gAdd false) (eB (gAdd false) (eSl (gSl false) (eVar 0) (oNone) (oSome (eVar 1))) (eVar 3)) (eSl (gSl false) (eVar 0) (oSome (eB (gAdd false) (eVar 1) (eC (.int 1)))) (oNone)))))
noncomputable def d__law_split : List D → M D := sealF (run 7 b__law_split)

noncomputable def b__law_grown : SM :=
    sSeq (sSet 3 (eLst false (aCons (eTup (aCons (eC (.int 1)) (aCons (eC (.int 0)) (aNil)))) (aNil))))
    (sSeq (sFor (iOf itRng1 (aCons (eB (gAdd false) (eC (.int 1)) (eCall (fnN 2 d__law_pick) (aCons (eVar 0) (aCons (eC (.int 6)) (aNil))))) (aNil))) (gSet 4)
    (sSeq (sPar 6 7 (aCons (eCall (fnN 2 d__law_pick) (aCons (eVar 0) (aCons (eF gLen (aCons (eVar 3) (aNil))) (aNil)))) (aCons (eB (gAdd false) (eC (.int 2)) (eCall (fnN 2 d__law_pick) (aCons (eVar 0) (aCons (eC (.int 3)) (aNil))))) (aNil))))
    (sIf (QS.tAnd (tV (eB gLe (eB (gAdd false) (eB gSub (eF gLen (aCons (eVar 3) (aNil))) (eC (.int 1))) (eVar 7)) (eVar 1))) (tV (eB gLe (eB (gMul false) (eB gIx (eB gIx (eVar 3) (eVar 6)) (eC (.int 0))) (eVar 7)) (eVar 2))))
    (sSet 3 (eCall (fnN 3 d__law_split) (aCons (eVar 3) (aCons (eVar 6) (aCons (eVar 7) (aNil))))))
    (sNil))))
    (sSeq (sSet 5 (eCall (fnN 2 d__law_pick) (aCons (eVar 0) (aCons (eB gPow (eC (.int 10)) (eC (.int 9))) (aNil)))))
    (sRet (eLc false [8, 9] (iOf itEach (eVar 3)) (QS.gTup 2 (QS.gCons (gSet 8) (QS.gCons (gSet 9) (QS.gNil)))) (tT0) (eTup (aCons (eVar 8) (aCons (eB gMod (eF gInt (aCons (eB (gAdd false) (eVar 9) (eVar 5)) (aNil))) (eVar 8)) (aNil))))))))
noncomputable def d__law_grown : List D → M D := sealF (run 10 b__law_grown)

noncomputable def b__law_some : SM :=
    sRet (eB gIx (eVar 1) (eCall (fnN 2 d__law_pick) (aCons (eVar 0) (aCons (eF gLen (aCons (eVar 1) (aNil))) (aNil)))))
noncomputable def d__law_some : List D → M D := sealF (run 2 b__law_some)

noncomputable def b_Bells_size : SM :=
    sRet (eF gLen (aCons (eU (gFld "Bells" "pairs") (eVar 0)) (aNil)))
noncomputable def d_Bells_size : List D → M D := sealF (run 1 b_Bells_size)

noncomputable def b_doubled : SM :=
    sSeq (sSet 1 (eC (.int 1)))
    (sSeq (sFor (iOf itRng1 (aCons (eVar 0) (aNil))) (gSet 2)
    (sAug 1 gAddI (eVar 1)))
    (sRet (eVar 1)))
noncomputable def d_doubled : List D → M D := sealF (run 3 b_doubled)

noncomputable def b_rings : SM :=
    sRet (eB gEq (eB gMod (eF gInt (aCons (eVar 1) (aNil))) (eB gIx (eVar 0) (eC (.int 0)))) (eB gIx (eVar 0) (eC (.int 1))))
noncomputable def d_rings : List D → M D := sealF (run 2 b_rings)

noncomputable def b_is_quiet : SM :=
    sRet (QS.eNot (eF gAny (aCons (eLc false [2] (iOf itTup (eU (gFld "Bells" "pairs") (eVar 0))) (gSet 2) (tT0) (eCall (fnN 2 d_rings) (aCons (eVar 2) (aCons (eVar 1) (aNil))))) (aNil))))
noncomputable def d_is_quiet : List D → M D := sealF (run 3 b_is_quiet)

noncomputable def b_first_quiet : SM :=
    sSeq (sFor (iOf itRng1 (aCons (eCall (fnN 1 d_doubled) (aCons (eMeth "Bells" "size" (fnN 1 d_Bells_size) (eVar 0) aNil) (aNil))) (aNil))) (gSet 3)
    (sIf (tV (eCall (fnN 2 d_is_quiet) (aCons (eVar 0) (aCons (eB (gAdd false) (eVar 1) (eB (gMul false) (eVar 2) (eVar 3))) (aNil)))))
    (sRet (eB (gAdd false) (eVar 1) (eB (gMul false) (eVar 2) (eVar 3))))
    (sNil)))
    (sRet (eC .non))
noncomputable def d_first_quiet : List D → M D := sealF (run 4 b_first_quiet)

noncomputable def b_common : SM :=
    sSeq (sWhile (tV (eB gGt (eVar 1) (eC (.int 0))))
    (sPar 0 1 (aCons (eVar 1) (aCons (eB gMod (eF gInt (aCons (eVar 0) (aNil))) (eVar 1)) (aNil)))))
    (sRet (eVar 0))
noncomputable def d_common : List D → M D := sealF (run 2 b_common)

noncomputable def b_ever_meet : SM :=
    sRet (eB gEq (eB gMod (eF gInt (aCons (eB gSub (eB gIx (eVar 1) (eC (.int 1))) (eB gIx (eVar 0) (eC (.int 1)))) (aNil))) (eCall (fnN 2 d_common) (aCons (eB gIx (eVar 0) (eC (.int 0))) (aCons (eB gIx (eVar 1) (eC (.int 0))) (aNil))))) (eC (.int 0)))
noncomputable def d_ever_meet : List D → M D := sealF (run 2 b_ever_meet)

noncomputable def b_raw_pair : SM :=
    sSeq (sFor (iOf itEnum (aCons (eVar 1) (aNil))) (QS.gTup 2 (QS.gCons (gSet 3) (QS.gCons (gSet 4) (QS.gNil))))
    (sFor (iOf itEach (eSl (gSl false) (eVar 1) (oSome (eB (gAdd false) (eVar 3) (eC (.int 1)))) (oNone))) (gSet 5)
    (sIf (tV (eB gEq (eCall (fnN 2 d_ever_meet) (aCons (eB gIx (eU (gFld "Bells" "pairs") (eVar 0)) (eVar 4)) (aCons (eB gIx (eU (gFld "Bells" "pairs") (eVar 0)) (eVar 5)) (aNil)))) (eVar 2)))
    (sRet (eTup (aCons (eVar 4) (aCons (eVar 5) (aNil)))))
    (sNil))))
    (sRet (eC .non))
noncomputable def d_raw_pair : List D → M D := sealF (run 6 b_raw_pair)

noncomputable def b_why_not_exact : SM :=
    sSeq (sSet 1 (eCall (fnN 3 d_raw_pair) (aCons (eVar 0) (aCons (eU gTupRg (eMeth "Bells" "size" (fnN 1 d_Bells_size) (eVar 0) aNil)) (aCons (eC (.bl true)) (aNil))))))
    (sSeq (sIf (tV (eB gIsNot (eVar 1) (eC .non)))
    (sRet (eTup (aCons (eC (.str "both")) (aCons (eB gIx (eVar 1) (eC (.int 0))) (aCons (eB gIx (eVar 1) (eC (.int 1))) (aNil))))))
    (sNil))
    (sSeq (sSet 2 (eCall (fnN 3 d_first_quiet) (aCons (eVar 0) (aCons (eC (.int 0)) (aCons (eC (.int 1)) (aNil))))))
    (sRet (eIf (tV (eB gIs (eVar 2) (eC .non))) (eC .non) (eTup (aCons (eC (.str "quiet")) (aCons (eVar 2) (aNil))))))))
noncomputable def d_why_not_exact : List D → M D := sealF (run 3 b_why_not_exact)

noncomputable def b_is_exact : SM :=
    sRet (eB gIs (eCall (fnN 1 d_why_not_exact) (aCons (eVar 0) (aNil))) (eC .non))
noncomputable def d_is_exact : List D → M D := sealF (run 1 b_is_exact)

noncomputable def b_is_loud_for_ever : SM :=
    sRet (eB gIs (eCall (fnN 3 d_first_quiet) (aCons (eVar 0) (aCons (eC (.int 0)) (aCons (eC (.int 1)) (aNil))))) (eC .non))
noncomputable def d_is_loud_for_ever : List D → M D := sealF (run 1 b_is_loud_for_ever)

noncomputable def b_is_hour : SM :=
    sRet (eAnd (eCall (fnN 1 d_is_integer) (aCons (eVar 0) (aNil))) (eChain gLe gLe (eU gNeg (eC (.int 1000000000000000000000000000000))) (eVar 0) (eC (.int 1000000000000000000000000000000))))
noncomputable def d_is_hour : List D → M D := sealF (run 1 b_is_hour)

noncomputable def b_check_hour : SM :=
    sIf (QS.tNot (tV (eCall (fnN 1 d_is_hour) (aCons (eVar 0) (aNil)))))
    (sNever)
    (sNil)
noncomputable def d_check_hour : List D → M D := sealF (run 1 b_check_hour)

noncomputable def b_quiet : SM :=
    sSeq (sE (eCall (fnN 1 d_check_hour) (aCons (eVar 1) (aNil))))
    (sRet (eCall (fnN 3 d_first_quiet) (aCons (eVar 0) (aCons (eVar 1) (aCons (eC (.int 1)) (aNil))))))
noncomputable def d_quiet : List D → M D := sealF (run 2 b_quiet)

noncomputable def b_quiet_before : SM :=
    sSeq (sE (eCall (fnN 1 d_check_hour) (aCons (eVar 1) (aNil))))
    (sRet (eCall (fnN 3 d_first_quiet) (aCons (eVar 0) (aCons (eVar 1) (aCons (eU gNeg (eC (.int 1))) (aNil))))))
noncomputable def d_quiet_before : List D → M D := sealF (run 2 b_quiet_before)

noncomputable def b_choices : SM :=
    sSeq (sSet 2 (eC (.int 1)))
    (sSeq (sFor (iOf itRng1 (aCons (eVar 1) (aNil))) (gSet 3)
    (sSet 2 (eB gDiv (eB (gMul false) (eVar 2) (eB gSub (eVar 0) (eVar 3))) (eB (gAdd false) (eVar 3) (eC (.int 1))))))
    (sRet (eVar 2)))
noncomputable def d_choices : List D → M D := sealF (run 4 b_choices)

noncomputable def b_inverse : SM :=
    sSeq (sAsg (QS.gTup 4 (QS.gCons (gSet 2) (QS.gCons (gSet 3) (QS.gCons (gSet 4) (QS.gCons (gSet 5) (QS.gNil)))))) (eTup (aCons (eB gMod (eF gInt (aCons (eVar 0) (aNil))) (eVar 1)) (aCons (eVar 1) (aCons (eC (.int 1)) (aCons (eC (.int 0)) (aNil)))))))
    (sSeq (sWhile (tV (eB gGt (eVar 3) (eC (.int 0))))
    (sSeq (sSet 6 (eB gDiv (eVar 2) (eVar 3)))
    (sAsg (QS.gTup 4 (QS.gCons (gSet 2) (QS.gCons (gSet 3) (QS.gCons (gSet 4) (QS.gCons (gSet 5) (QS.gNil)))))) (eTup (aCons (eVar 3) (aCons (eB gSub (eVar 2) (eB (gMul false) (eVar 6) (eVar 3))) (aCons (eVar 5) (aCons (eB gSub (eVar 4) (eB (gMul false) (eVar 6) (eVar 5))) (aNil)))))))))
    (sRet (eB gMod (eF gInt (aCons (eVar 4) (aNil))) (eVar 1))))
noncomputable def d_inverse : List D → M D := sealF (run 7 b_inverse)

noncomputable def b_least_multiple : SM :=
    sRet (eB (gMul false) (eB gDiv (eVar 0) (eCall (fnN 2 d_common) (aCons (eVar 0) (aCons (eVar 1) (aNil))))) (eVar 1))
noncomputable def d_least_multiple : List D → M D := sealF (run 2 b_least_multiple)

noncomputable def b_common_hours : SM :=
    sSeq (sSet 2 (eCall (fnN 2 d_common) (aCons (eB gIx (eVar 0) (eC (.int 0))) (aCons (eB gIx (eVar 1) (eC (.int 0))) (aNil)))))
    (sSeq (sIf (tV (eB gNe (eB gMod (eF gInt (aCons (eB gSub (eB gIx (eVar 1) (eC (.int 1))) (eB gIx (eVar 0) (eC (.int 1)))) (aNil))) (eVar 2)) (eC (.int 0))))
    (sRet (eC .non))
    (sNil))
    (sSeq (sSet 3 (eB gDiv (eB gIx (eVar 1) (eC (.int 0))) (eVar 2)))
    (sSeq (sSet 4 (eB gMod (eF gInt (aCons (eB (gMul false) (eB gDiv (eB gSub (eB gIx (eVar 1) (eC (.int 1))) (eB gIx (eVar 0) (eC (.int 1)))) (eVar 2)) (eCall (fnN 2 d_inverse) (aCons (eB gDiv (eB gIx (eVar 0) (eC (.int 0))) (eVar 2)) (aCons (eVar 3) (aNil))))) (aNil))) (eVar 3)))
    (sSeq (sSet 5 (eCall (fnN 2 d_least_multiple) (aCons (eB gIx (eVar 0) (eC (.int 0))) (aCons (eB gIx (eVar 1) (eC (.int 0))) (aNil)))))
    (sRet (eTup (aCons (eVar 5) (aCons (eB gMod (eF gInt (aCons (eB (gAdd false) (eB gIx (eVar 0) (eC (.int 1))) (eB (gMul false) (eB gIx (eVar 0) (eC (.int 0))) (eVar 4))) (aNil))) (eVar 5)) (aNil)))))))))
noncomputable def d_common_hours : List D → M D := sealF (run 6 b_common_hours)

noncomputable def b_round_of : SM :=
    sSeq (sSet 1 (eC (.int 1)))
    (sSeq (sFor (iOf itTup (eU (gFld "Bells" "pairs") (eVar 0))) (QS.gTup 2 (QS.gCons (gSet 2) (QS.gCons (gSet 3) (QS.gNil))))
    (sSet 1 (eCall (fnN 2 d_least_multiple) (aCons (eVar 1) (aCons (eVar 2) (aNil))))))
    (sRet (eVar 1)))
noncomputable def d_round_of : List D → M D := sealF (run 4 b_round_of)

noncomputable def b_meeting_sums : SM :=
    sSeq (sSet 1 (eCall (fnN 1 d_round_of) (aCons (eVar 0) (aNil))))
    (sSeq (sSet 2 (eLst false (aCons (eTup (aCons (eTup (aCons (eC (.int 1)) (aCons (eC (.int 0)) (aNil)))) (aCons (eC (.int 0)) (aNil)))) (aNil))))
    (sSeq (sFor (iOf itTup (eU (gFld "Bells" "pairs") (eVar 0))) (gSet 3)
    (sSeq (sSet 5 (eLc false [6, 7] (iOf itEach (eVar 2)) (QS.gTup 2 (QS.gCons (gSet 6) (QS.gCons (gSet 7) (QS.gNil)))) (tT0) (eTup (aCons (eCall (fnN 2 d_common_hours) (aCons (eVar 6) (aCons (eVar 3) (aNil)))) (aCons (eB (gAdd false) (eVar 7) (eC (.int 1))) (aNil))))))
    (sSet 2 (eB (gAdd false) (eVar 2) (eLc false [8] (iOf itEach (eVar 5)) (gSet 8) (tV (eB gIsNot (eB gIx (eVar 8) (eC (.int 0))) (eC .non))) (eVar 8))))))
    (sSeq (sSet 4 (eB (gMul true) (eLst false (aCons (eC (.int 0)) (aNil))) (eB (gAdd false) (eMeth "Bells" "size" (fnN 1 d_Bells_size) (eVar 0) aNil) (eC (.int 1)))))
    (sSeq (sFor (iOf itEach (eVar 2)) (QS.gTup 2 (QS.gCons (gSet 6) (QS.gCons (gSet 7) (QS.gNil))))
    (sAugS gIxL gAddI gStL (eVar 4) (eVar 7) (eB gDiv (eVar 1) (eB gIx (eVar 6) (eC (.int 0))))))
    (sRet (eVar 4))))))
noncomputable def d_meeting_sums : List D → M D := sealF (run 9 b_meeting_sums)

noncomputable def b_counts : SM :=
    sSeq (sAsg (QS.gTup 2 (QS.gCons (gSet 2) (QS.gCons (gSet 3) (QS.gNil)))) (eTup (aCons (eCall (fnN 1 d_meeting_sums) (aCons (eVar 0) (aNil))) (aCons (eLst true (aNil)) (aNil)))))
    (sSeq (sFor (iOf itRng1 (aCons (eF gLen (aCons (eVar 2) (aNil))) (aNil))) (gSet 1)
    (sSeq (sSet 4 (eLc false [5] (iOf itRng1 (aCons (eF gLen (aCons (eVar 2) (aNil))) (aNil))) (gSet 5) (tT0) (eB (gMul false) (eB (gMul false) (eCall (fnN 2 d_choices) (aCons (eVar 5) (aCons (eVar 1) (aNil)))) (eB gIx (eVar 2) (eVar 5))) (eB gSub (eC (.int 1)) (eB (gMul false) (eC (.int 2)) (eB gMod (eF gInt (aCons (eB gSub (eVar 5) (eVar 1)) (aNil))) (eC (.int 2))))))))
    (sE (eMb "list" gAppend (eVar 3) (aCons (eF gSumA (aCons (eSl (gSl false) (eVar 4) (oSome (eVar 1)) (oNone)) (aNil))) (aNil))))))
    (sRet (eF gTuple (aCons (eVar 3) (aNil)))))
noncomputable def d_counts : List D → M D := sealF (run 6 b_counts)

noncomputable def b_share : SM :=
    sSeq (sPar 2 3 (aCons (eB gIx (eCall (fnN 1 d_counts) (aCons (eVar 0) (aNil))) (eC (.int 0))) (aCons (eCall (fnN 1 d_round_of) (aCons (eVar 0) (aNil))) (aNil))))
    (sSeq (sSet 1 (eIf (tV (eB gGt (eVar 2) (eC (.int 0)))) (eCall (fnN 2 d_common) (aCons (eVar 3) (aCons (eVar 2) (aNil)))) (eVar 3)))
    (sRet (eTup (aCons (eB gDiv (eVar 2) (eVar 1)) (aCons (eB gDiv (eVar 3) (eVar 1)) (aNil))))))
noncomputable def d_share : List D → M D := sealF (run 4 b_share)

noncomputable def r11__law_great_right : SM :=
    sSeq (sSet 5 (eIf (tV (eB gEq (eB gMod (eF gInt (aCons (eB gSub (eVar 5) (eVar 10)) (aNil))) (eB (gMul false) (eVar 9) (eVar 8))) (eC (.int 0)))) (eB gSub (eVar 5) (eVar 9)) (eVar 5)))
    (sSeq (sIf (QS.tOr (tV (eB gNe (eCall (fnN 2 d_quiet) (aCons (eVar 12) (aCons (eVar 3) (aNil)))) (eVar 4))) (tV (eB gNe (eCall (fnN 2 d_quiet_before) (aCons (eVar 12) (aCons (eVar 3) (aNil)))) (eVar 5))))
    (sRet (eC (.bl false)))
    (sNil))
    (sSeq (sSet 6 (eCall (fnN 1 d_share) (aCons (eVar 12) (aNil))))
    (sRet (eB gEq (eB (gMul false) (eB (gMul false) (eB gIx (eVar 6) (eC (.int 0))) (eVar 9)) (eVar 8)) (eB (gMul false) (eB gIx (eVar 6) (eC (.int 1))) (eB gSub (eVar 8) (eC (.int 1))))))))

noncomputable def r7__law_great_right : SM :=
    sSeq (sSet 3 (eB (gMul false) (eCall (fnN 2 d__law_some) (aCons (eVar 0) (aCons (eLst false (aCons (eC (.int 1)) (aCons (eU gNeg (eC (.int 1))) (aNil)))) (aNil)))) (eB (gAdd false) (eB gPow (eC (.int 10)) (eC (.int 29))) (eCall (fnN 2 d__law_pick) (aCons (eVar 0) (aCons (eB gPow (eC (.int 10)) (eC (.int 9))) (aNil)))))))
    (sSeq (sSet 4 (eB (gAdd false) (eVar 3) (eB gMod (eF gInt (aCons (eB gSub (eVar 10) (eVar 3)) (aNil))) (eVar 9))))
    (sSeq (sSet 4 (eIf (tV (eB gEq (eB gMod (eF gInt (aCons (eB gSub (eVar 4) (eVar 10)) (aNil))) (eB (gMul false) (eVar 9) (eVar 8))) (eC (.int 0)))) (eB (gAdd false) (eVar 4) (eVar 9)) (eVar 4)))
    (sSeq (sSet 5 (eB gSub (eVar 3) (eB gMod (eF gInt (aCons (eB gSub (eVar 3) (eVar 10)) (aNil))) (eVar 9))))
    (r11__law_great_right))))

noncomputable def r6__law_great_right : SM :=
    sSeq (sIf (QS.tOr (tV (eB gIsNot (eCall (fnN 1 d_is_loud_for_ever) (aCons (eVar 12) (aNil))) (eC (.bl false)))) (tV (eB gIsNot (eCall (fnN 2 d_quiet) (aCons (eVar 11) (aCons (eVar 10) (aNil)))) (eC .non))))
    (sRet (eC (.bl false)))
    (sNil))
    (r7__law_great_right)

noncomputable def r4__law_great_right : SM :=
    sSeq (sPar 11 12 (aCons (eSeal (eMake "Bells" (fnN 2 d_Bells_init) (aCons (eF gTuple (aCons (eVar 1) (aNil))) (aNil)))) (aCons (eSeal (eMake "Bells" (fnN 2 d_Bells_init) (aCons (eF gTuple (aCons (eVar 2) (aNil))) (aNil)))) (aNil))))
    (sSeq (sIf (QS.tOr (tV (eB gIsNot (eCall (fnN 1 d_is_loud_for_ever) (aCons (eVar 11) (aNil))) (eC (.bl true)))) (tV (eB gIsNot (eCall (fnN 1 d_is_exact) (aCons (eVar 11) (aNil))) (eC (.bl true)))))
    (sRet (eC (.bl false)))
    (sNil))
    (r6__law_great_right))

noncomputable def b__law_great_right : SM :=
    sSeq (sSet 1 (eCall (fnN 3 d__law_grown) (aCons (eVar 0) (aCons (eC (.int 13)) (aCons (eB gPow (eC (.int 10)) (eC (.int 6))) (aNil))))))
    (sSeq (sPar 7 8 (aCons (eCall (fnN 2 d__law_pick) (aCons (eVar 0) (aCons (eF gLen (aCons (eVar 1) (aNil))) (aNil)))) (aCons (eCall (fnN 2 d__law_some) (aCons (eVar 0) (aCons (eLst false (aCons (eC (.int 2)) (aCons (eC (.int 3)) (aCons (eC (.int 997)) (aNil))))) (aNil)))) (aNil))))
    (sSeq (sAsg (QS.gTup 2 (QS.gCons (gSet 9) (QS.gCons (gSet 10) (QS.gNil)))) (eB gIx (eVar 1) (eVar 7)))
    (sSeq (sSet 2 (eB (gAdd false) (eB (gAdd false) (eSl (gSl false) (eVar 1) (oNone) (oSome (eVar 7))) (eLst false (aCons (eTup (aCons (eB (gMul false) (eVar 9) (eVar 8)) (aCons (eVar 10) (aNil)))) (aNil)))) (eSl (gSl false) (eVar 1) (oSome (eB (gAdd false) (eVar 7) (eC (.int 1)))) (oNone))))
    (r4__law_great_right))))
noncomputable def d__law_great_right : List D → M D := sealF (run 13 b__law_great_right)

noncomputable def b__law_rings : SM :=
    sRet (eLc false [2, 3] (iOf itEnum (aCons (eVar 0) (aNil))) (QS.gTup 2 (QS.gCons (gSet 2) (QS.gCons (gSet 3) (QS.gNil)))) (tV (eB gEq (eB gMod (eF gInt (aCons (eB gSub (eVar 1) (eB gIx (eVar 3) (eC (.int 1)))) (aNil))) (eB gIx (eVar 3) (eC (.int 0)))) (eC (.int 0)))) (eVar 2))
noncomputable def d__law_rings : List D → M D := sealF (run 4 b__law_rings)

noncomputable def r5__law_counts_right : SM :=
    sSeq (sSet 7 (eLc false [8] (iOf itRng2 (aCons (eC (.int 2)) (aCons (eB (gAdd false) (eB gIx (eVar 6) (eC (.int 1))) (eC (.int 1))) (aNil)))) (gSet 8) (tV (eB gEq (eB gMod (eF gInt (aCons (eB gIx (eVar 6) (eC (.int 0))) (aNil))) (eVar 8)) (eC (.int 0)))) (eVar 8)))
    (sSeq (sIf (tV (eF gAny (aCons (eLc false [8] (iOf itEach (eVar 7)) (gSet 8) (tT0) (eB gEq (eB gMod (eF gInt (aCons (eB gIx (eVar 6) (eC (.int 1))) (aNil))) (eVar 8)) (eC (.int 0)))) (aNil))))
    (sRet (eC (.bl false)))
    (sNil))
    (sRet (eB gEq (eF gRepr (aCons (eCall (fnN 1 d_is_exact) (aCons (eVar 0) (aNil))) (aNil))) (eF gRepr (aCons (eB gEq (eB gIx (eVar 4) (eC (.int 1))) (eVar 2)) (aNil))))))

noncomputable def r3__law_counts_right : SM :=
    sSeq (sSet 6 (eCall (fnN 1 d_share) (aCons (eVar 0) (aNil))))
    (sSeq (sIf (QS.tOr (tV (eB gNe (eB (gMul false) (eB gIx (eVar 6) (eC (.int 0))) (eVar 2)) (eB (gMul false) (eB gIx (eVar 6) (eC (.int 1))) (eF gLen (aCons (eVar 3) (aNil)))))) (tV (eB gLt (eB gIx (eVar 6) (eC (.int 1))) (eC (.int 1)))))
    (sRet (eC (.bl false)))
    (sNil))
    (r5__law_counts_right))

noncomputable def r2__law_counts_right : SM :=
    sSeq (sIf (QS.tOr (tV (eB gNe (eCall (fnN 1 d_counts) (aCons (eVar 0) (aNil))) (eF gTuple (aCons (eVar 4) (aNil))))) (tV (eB gNe (eF gLen (aCons (eVar 3) (aNil))) (eB gIx (eVar 4) (eC (.int 0))))))
    (sRet (eC (.bl false)))
    (sNil))
    (r3__law_counts_right)

noncomputable def b__law_counts_right : SM :=
    sSeq (sSet 4 (eB (gMul true) (eLst false (aCons (eC (.int 0)) (aNil))) (eB (gAdd false) (eF gLen (aCons (eVar 1) (aNil))) (eC (.int 1)))))
    (sSeq (sFor (iOf itRng1 (aCons (eVar 2) (aNil))) (gSet 5)
    (sAugS gIxL gAddI gStL (eVar 4) (eF gLen (aCons (eCall (fnN 2 d__law_rings) (aCons (eVar 1) (aCons (eVar 5) (aNil)))) (aNil))) (eC (.int 1))))
    (r2__law_counts_right))
noncomputable def d__law_counts_right : List D → M D := sealF (run 9 b__law_counts_right)

noncomputable def b__law_first : SM :=
    sSeq (sFor (iOf itRng1 (aCons (eVar 1) (aNil))) (gSet 3)
    (sSeq (sSet 4 (eCall (fnN 2 d__law_rings) (aCons (eVar 0) (aCons (eVar 3) (aNil)))))
    (sIf (tV (eF gAll (aCons (eLc false [5] (iOf itEach (eVar 2)) (gSet 5) (tT0) (eB (gInB false) (eVar 5) (eVar 4))) (aNil))))
    (sRet (eVar 3))
    (sNil))))
    (sRet (eC .non))
noncomputable def d__law_first : List D → M D := sealF (run 6 b__law_first)

noncomputable def b_is_lot_below : SM :=
    sSeq (sIf (QS.tOr (QS.tNot (tV (eU (gIsi (ansB "tuple" cls)) (eVar 0)))) (QS.tNot (tV (eF gAll (aCons (eLc false [3] (iOf itEach (eVar 0)) (gSet 3) (tT0) (eCall (fnN 2 d_is_below) (aCons (eVar 3) (aCons (eVar 1) (aNil))))) (aNil))))))
    (sRet (eC (.bl false)))
    (sNil))
    (sRet (eF gAll (aCons (eLc false [2] (iOf itRng1 (aCons (eB gSub (eF gLen (aCons (eVar 0) (aNil))) (eC (.int 1))) (aNil))) (gSet 2) (tT0) (eB gLt (eB gIx (eVar 0) (eVar 2)) (eB gIx (eVar 0) (eB (gAdd false) (eVar 2) (eC (.int 1)))))) (aNil))))
noncomputable def d_is_lot_below : List D → M D := sealF (run 4 b_is_lot_below)

noncomputable def b_check_lot : SM :=
    sIf (QS.tNot (tV (eCall (fnN 2 d_is_lot_below) (aCons (eVar 1) (aCons (eMeth "Bells" "size" (fnN 1 d_Bells_size) (eVar 0) aNil) (aNil))))))
    (sNever)
    (sNil)
noncomputable def d_check_lot : List D → M D := sealF (run 2 b_check_lot)

noncomputable def b_apart : SM :=
    sSeq (sE (eCall (fnN 2 d_check_lot) (aCons (eVar 0) (aCons (eVar 1) (aNil)))))
    (sRet (eCall (fnN 3 d_raw_pair) (aCons (eVar 0) (aCons (eVar 1) (aCons (eC (.bl false)) (aNil))))))
noncomputable def d_apart : List D → M D := sealF (run 2 b_apart)

noncomputable def b_all_of : SM :=
    sSeq (sSet 1 (eTup (aCons (eC (.int 1)) (aCons (eC (.int 0)) (aNil)))))
    (sSeq (sFor (iOf itEach (eVar 0)) (gSet 2)
    (sSet 1 (eIf (tV (eB gIs (eVar 1) (eC .non))) (eC .non) (eCall (fnN 2 d_common_hours) (aCons (eVar 1) (aCons (eVar 2) (aNil)))))))
    (sRet (eVar 1)))
noncomputable def d_all_of : List D → M D := sealF (run 3 b_all_of)

noncomputable def b_together : SM :=
    sSeq (sE (eCall (fnN 2 d_check_lot) (aCons (eVar 0) (aCons (eVar 1) (aNil)))))
    (sSeq (sSet 2 (eCall (fnN 1 d_all_of) (aCons (eLc false [3] (iOf itEach (eVar 1)) (gSet 3) (tT0) (eB gIx (eU (gFld "Bells" "pairs") (eVar 0)) (eVar 3))) (aNil))))
    (sRet (eIf (tV (eB gIs (eVar 2) (eC .non))) (eC .non) (eB gIx (eVar 2) (eC (.int 1))))))
noncomputable def d_together : List D → M D := sealF (run 4 b_together)

noncomputable def b__law_lots_right : SM :=
    sSeq (sFor (iOf itRng1 (aCons (eC (.int 4)) (aNil))) (gSet 4)
    (sSeq (sSet 5 (eF gTuple (aCons (eLc false [10] (iOf itRng1 (aCons (eF gLen (aCons (eVar 2) (aNil))) (aNil))) (gSet 10) (tV (eB gEq (eCall (fnN 2 d__law_pick) (aCons (eVar 0) (aCons (eC (.int 2)) (aNil)))) (eC (.int 0)))) (eVar 10)) (aNil))))
    (sSeq (sPar 7 8 (aCons (eCall (fnN 3 d__law_first) (aCons (eVar 2) (aCons (eVar 3) (aCons (eVar 5) (aNil))))) (aCons (eC .non) (aNil))))
    (sSeq (sIf (tV (eB gNe (eCall (fnN 2 d_together) (aCons (eVar 1) (aCons (eVar 5) (aNil)))) (eVar 7)))
    (sRet (eC (.bl false)))
    (sNil))
    (sSeq (sFor (iOf itEach (eVar 5)) (gSet 6)
    (sFor (iOf itSeq (eLc false [10] (iOf itEach (eVar 5)) (gSet 10) (tV (eB gGt (eVar 10) (eVar 6))) (eVar 10))) (gSet 9)
    (sIf (QS.tAnd (tV (eB gIs (eVar 8) (eC .non))) (tV (eB gIs (eCall (fnN 3 d__law_first) (aCons (eVar 2) (aCons (eVar 3) (aCons (eTup (aCons (eVar 6) (aCons (eVar 9) (aNil)))) (aNil))))) (eC .non))))
    (sSet 8 (eTup (aCons (eVar 6) (aCons (eVar 9) (aNil)))))
    (sNil))))
    (sIf (QS.tOr (tV (eB gNe (eCall (fnN 2 d_apart) (aCons (eVar 1) (aCons (eVar 5) (aNil)))) (eVar 8))) (tV (eB gNe (eB gIs (eVar 8) (eC .non)) (eB gIsNot (eVar 7) (eC .non)))))
    (sRet (eC (.bl false)))
    (sNil)))))))
    (sRet (eC (.bl true)))
noncomputable def d__law_lots_right : List D → M D := sealF (run 11 b__law_lots_right)

noncomputable def b__law_round : SM :=
    sSeq (sSet 1 (eC (.int 1)))
    (sSeq (sFor (iOf itEach (eVar 0)) (QS.gTup 2 (QS.gCons (gSet 2) (QS.gCons (gSet 3) (QS.gNil))))
    (sSeq (sSet 4 (eVar 1))
    (sWhile (tV (eB gNe (eB gMod (eF gInt (aCons (eVar 1) (aNil))) (eVar 2)) (eC (.int 0))))
    (sSet 1 (eB (gAdd false) (eVar 1) (eVar 4))))))
    (sRet (eVar 1)))
noncomputable def d__law_round : List D → M D := sealF (run 5 b__law_round)

noncomputable def r5__law_small : SM :=
    sSeq (sIf (QS.tAnd (tV (eB gLt (eVar 1) (eC (.int 2)))) (tV (eB gEq (eCall (fnN 2 d__law_pick) (aCons (eVar 0) (aCons (eC (.int 2)) (aNil)))) (eC (.int 0)))))
    (sSeq (sSet 5 (eCall (fnN 2 d__law_pick) (aCons (eVar 0) (aCons (eF gLen (aCons (eVar 2) (aNil))) (aNil)))))
    (sSeq (sSet 4 (eB gIx (eB gIx (eVar 2) (eVar 5)) (eC (.int 0))))
    (sSet 2 (eB (gAdd true) (eB (gAdd false) (eSl (gSl false) (eVar 2) (oNone) (oSome (eVar 5))) (eLst false (aCons (eTup (aCons (eVar 4) (aCons (eCall (fnN 2 d__law_pick) (aCons (eVar 0) (aCons (eVar 4) (aNil)))) (aNil)))) (aNil)))) (eSl (gSl false) (eVar 2) (oSome (eB (gAdd false) (eVar 5) (eC (.int 1)))) (oNone))))))
    (sNil))
    (sRet (eVar 2))

noncomputable def r4__law_small : SM :=
    sSeq (sIf (tV (eB gEq (eVar 1) (eC (.int 1))))
    (sSet 2 (eCall (fnN 3 d__law_grown) (aCons (eVar 0) (aCons (eC (.int 6)) (aCons (eC (.int 12)) (aNil))))))
    (sNil))
    (r5__law_small)

noncomputable def r3__law_small : SM :=
    sSeq (sIf (tV (eB gEq (eVar 1) (eC (.int 0))))
    (sSet 2 (eLst true (aCons (eTup (aCons (eC (.int 2)) (aCons (eC (.int 0)) (aNil)))) (aCons (eTup (aCons (eC (.int 3)) (aCons (eC (.int 0)) (aNil)))) (aCons (eTup (aCons (eC (.int 4)) (aCons (eC (.int 1)) (aNil)))) (aCons (eTup (aCons (eC (.int 6)) (aCons (eC (.int 5)) (aNil)))) (aCons (eTup (aCons (eC (.int 12)) (aCons (eC (.int 7)) (aNil)))) (aNil))))))))
    (sNil))
    (r4__law_small)

noncomputable def b__law_small : SM :=
    sSeq (sSet 1 (eCall (fnN 2 d__law_pick) (aCons (eVar 0) (aCons (eC (.int 4)) (aNil)))))
    (sSeq (sSet 2 (eLst true (aNil)))
    (sSeq (sFor (iOf itRng1 (aCons (eB (gAdd false) (eC (.int 1)) (eCall (fnN 2 d__law_pick) (aCons (eVar 0) (aCons (eC (.int 6)) (aNil))))) (aNil))) (gSet 3)
    (sSeq (sSet 4 (eCall (fnN 2 d__law_some) (aCons (eVar 0) (aCons (eLst false (aCons (eC (.int 1)) (aCons (eC (.int 2)) (aCons (eC (.int 3)) (aCons (eC (.int 4)) (aCons (eC (.int 6)) (aCons (eC (.int 8)) (aCons (eC (.int 12)) (aCons (eC (.int 5)) (aNil)))))))))) (aNil)))))
    (sE (eMb "list" gAppend (eVar 2) (aCons (eTup (aCons (eVar 4) (aCons (eCall (fnN 2 d__law_pick) (aCons (eVar 0) (aCons (eVar 4) (aNil)))) (aNil)))) (aNil))))))
    (r3__law_small)))
noncomputable def d__law_small : List D → M D := sealF (run 6 b__law_small)

noncomputable def b__law_two : SM :=
    sSeq (sSet 1 (eC (.int 1)))
    (sSeq (sFor (iOf itRng1 (aCons (eVar 0) (aNil))) (gSet 2)
    (sSet 1 (eB (gAdd false) (eVar 1) (eVar 1))))
    (sRet (eVar 1)))
noncomputable def d__law_two : List D → M D := sealF (run 3 b__law_two)

noncomputable def b_raw_ringing : SM :=
    sRet (eF gTuple (aCons (eLc false [2, 3] (iOf itEnum (aCons (eU (gFld "Bells" "pairs") (eVar 0)) (aNil))) (QS.gTup 2 (QS.gCons (gSet 2) (QS.gCons (gSet 3) (QS.gNil)))) (tV (eCall (fnN 2 d_rings) (aCons (eVar 3) (aCons (eVar 1) (aNil))))) (eVar 2)) (aNil)))
noncomputable def d_raw_ringing : List D → M D := sealF (run 4 b_raw_ringing)

noncomputable def b_ringing : SM :=
    sSeq (sE (eCall (fnN 1 d_check_hour) (aCons (eVar 1) (aNil))))
    (sRet (eCall (fnN 2 d_raw_ringing) (aCons (eVar 0) (aCons (eVar 1) (aNil)))))
noncomputable def d_ringing : List D → M D := sealF (run 2 b_ringing)

noncomputable def r7__law_small_right : SM :=
    sRet (eAnd (eCall (fnN 4 d__law_counts_right) (aCons (eVar 5) (aCons (eVar 1) (aCons (eVar 6) (aCons (eVar 2) (aNil)))))) (eCall (fnN 4 d__law_lots_right) (aCons (eVar 0) (aCons (eVar 5) (aCons (eVar 1) (aCons (eVar 6) (aNil)))))))

noncomputable def r6__law_small_right : SM :=
    sSeq (sFor (iOf itRng1 (aCons (eC (.int 4)) (aNil))) (gSet 4)
    (sSeq (sSet 7 (eCall (fnN 2 d__law_some) (aCons (eVar 0) (aCons (eLst false (aCons (eC (.int 0)) (aCons (eC (.int 1)) (aCons (eU gNeg (eC (.int 1))) (aCons (eB gPow (eC (.int 10)) (eC (.int 30))) (aCons (eU gNeg (eB gPow (eC (.int 10)) (eC (.int 30)))) (aCons (eB gPow (eC (.int 10)) (eC (.int 12))) (aCons (eU gNeg (eC (.int 7))) (aNil))))))))) (aNil)))))
    (sSeq (sSet 8 (eLc false [10] (iOf itRng1 (aCons (eVar 6) (aNil))) (gSet 10) (tV (eB gEq (eCall (fnN 2 d__law_rings) (aCons (eVar 1) (aCons (eB (gAdd false) (eVar 7) (eVar 10)) (aNil)))) (eLst false (aNil)))) (eB (gAdd false) (eVar 7) (eVar 10))))
    (sSeq (sSet 9 (eLc false [10] (iOf itRng1 (aCons (eVar 6) (aNil))) (gSet 10) (tV (eB gEq (eCall (fnN 2 d__law_rings) (aCons (eVar 1) (aCons (eB gSub (eVar 7) (eVar 10)) (aNil)))) (eLst false (aNil)))) (eB gSub (eVar 7) (eVar 10))))
    (sSeq (sIf (QS.tOr (tV (eB gNe (eCall (fnN 2 d_quiet) (aCons (eVar 5) (aCons (eVar 7) (aNil)))) (eB gIx (eB (gAdd false) (eVar 8) (eLst false (aCons (eC .non) (aNil)))) (eC (.int 0))))) (tV (eB gNe (eCall (fnN 2 d_quiet_before) (aCons (eVar 5) (aCons (eVar 7) (aNil)))) (eB gIx (eB (gAdd false) (eVar 9) (eLst false (aCons (eC .non) (aNil)))) (eC (.int 0))))))
    (sRet (eC (.bl false)))
    (sNil))
    (sIf (tV (eB gNe (eCall (fnN 2 d_ringing) (aCons (eVar 5) (aCons (eVar 7) (aNil)))) (eF gTuple (aCons (eCall (fnN 2 d__law_rings) (aCons (eVar 1) (aCons (eVar 7) (aNil)))) (aNil)))))
    (sRet (eC (.bl false)))
    (sNil)))))))
    (r7__law_small_right)

noncomputable def r3__law_small_right : SM :=
    sSeq (sIf (QS.tOr (tV (eB gNe (eCall (fnN 1 d_round_of) (aCons (eVar 5) (aNil))) (eVar 6))) (tV (eB gNe (eF gRepr (aCons (eCall (fnN 1 d_is_loud_for_ever) (aCons (eVar 5) (aNil))) (aNil))) (eF gRepr (aCons (eB gEq (eVar 2) (eLst false (aNil))) (aNil))))))
    (sRet (eC (.bl false)))
    (sNil))
    (sSeq (sSet 3 (eLc false [7] (iOf itRng2 (aCons (eC (.int 7)) (aCons (eB (gAdd false) (eC (.int 7)) (eCall (fnN 1 d__law_two) (aCons (eF gLen (aCons (eVar 1) (aNil))) (aNil)))) (aNil)))) (gSet 7) (tV (eB gEq (eCall (fnN 2 d__law_rings) (aCons (eVar 1) (aCons (eVar 7) (aNil)))) (eLst false (aNil)))) (eVar 7)))
    (sSeq (sIf (tV (eB gNe (eB gEq (eF gLen (aCons (eVar 2) (aNil))) (eC (.int 0))) (eB gEq (eF gLen (aCons (eVar 3) (aNil))) (eC (.int 0)))))
    (sRet (eC (.bl false)))
    (sNil))
    (r6__law_small_right)))

noncomputable def b__law_small_right : SM :=
    sSeq (sSet 1 (eCall (fnN 1 d__law_small) (aCons (eVar 0) (aNil))))
    (sSeq (sPar 5 6 (aCons (eSeal (eMake "Bells" (fnN 2 d_Bells_init) (aCons (eF gTuple (aCons (eVar 1) (aNil))) (aNil)))) (aCons (eCall (fnN 1 d__law_round) (aCons (eVar 1) (aNil))) (aNil))))
    (sSeq (sSet 2 (eLc false [7] (iOf itRng1 (aCons (eVar 6) (aNil))) (gSet 7) (tV (eB gEq (eCall (fnN 2 d__law_rings) (aCons (eVar 1) (aCons (eVar 7) (aNil)))) (eLst false (aNil)))) (eVar 7)))
    (r3__law_small_right)))
noncomputable def d__law_small_right : List D → M D := sealF (run 11 b__law_small_right)

noncomputable def b_law : SM :=
    sSeq (sSet 1 (eCall (fnN 1 d__law_bag) (aCons (eVar 0) (aNil))))
    (sRet (eAnd (eCall (fnN 1 d__law_small_right) (aCons (eVar 1) (aNil))) (eAnd (eCall (fnN 1 d__law_small_right) (aCons (eVar 1) (aNil))) (eCall (fnN 1 d__law_great_right) (aCons (eVar 1) (aNil))))))
noncomputable def d_law : List D → M D := sealF (run 2 b_law)

end QS.K14
end

section
set_option Elab.async false
set_option linter.all false
set_option maxRecDepth 100000
set_option maxHeartbeats 1000000
namespace QS.K14
open PySem PySem.Spec PyProof.Rows L2 QS
theorem sp_is_integer {i : Int} {s : Sto} : d_is_integer [.int i] s = .ok (.bl true) s := by
  apply wp_eq
  apply seal_pure
  apply wp_run
  simp [b_is_integer, ansB, builtinTys]
theorem sp_is_below {i j : Int} {s : Sto} : d_is_below [.int i, .int j] s = .ok (.bl (decide (0 ≤ i) && decide (i < j))) s := by
  apply wp_eq
  apply seal_pure
  apply wp_run
  by_cases c : 0 ≤ i <;> simp [b_is_below, sp_is_integer, c]
def Ok (p : Int × Int) : Prop := 1 ≤ p.1 ∧ p.1 ≤ 1000000000 ∧ 0 ≤ p.2 ∧ p.2 < p.1
theorem sp_is_pair {p : Int × Int} {s : Sto} (h : Ok p) : d_is_pair [pD p] s = .ok (.bl true) s := by
  obtain ⟨h1, h2, h3, h4⟩ := h
  apply wp_eq
  apply seal_pure
  apply wp_run
  simp [b_is_pair, pD, sp_is_below, ansB, builtinTys]
  omega
theorem sp_first_bad {bs : List (Int × Int)} {s : Sto} (h : ∀ p ∈ bs, Ok p) (hl : bs.length ≤ 14) : d_first_bad [.tup (bs.map pD)] s = .ok .non s := by
  apply wp_eq
  apply seal_pure
  apply wp_run
  have hl' : ¬ (14 : Int) < bs.length := by omega
  simp [b_first_bad, ansB, builtinTys, hl']
  refine wps_forL (fun l ρ s1 => s1 = s ∧ (∃ a x y, ρ = [a, x, y]) ∧ ∀ d ∈ l, ∃ i p, d = D.tup [.int i, pD p] ∧ Ok p) ?_ ?_ _ _ _ ⟨rfl, ⟨_, _, _, rfl⟩, ?_⟩
  · rintro d r ρ s1 ⟨rfl, ⟨a, x, y, rfl⟩, hd⟩
    obtain ⟨i, p, rfl, hp⟩ := hd d (List.mem_cons_self ..)
    simp [sp_is_pair hp]
    simpa using fun d hm => hd d (List.mem_cons_of_mem _ hm)
  · rintro ρ s1 ⟨rfl, _⟩
    simp
  · intro d hd
    obtain ⟨i, hi⟩ := List.mem_iff_getElem?.mp hd
    obtain ⟨x, h1, rfl⟩ := numD_get hi
    rw [List.getElem?_map] at h1
    obtain ⟨p, h2, rfl⟩ := Option.map_eq_some_iff.mp h1
    exact ⟨_, p, rfl, h p (List.mem_of_getElem? h2)⟩
def OkL (bs : List (Int × Int)) : Prop := (∀ p ∈ bs, Ok p) ∧ bs.length ≤ 14
def mk : List (Int × Int) → D := fun bs => .ins "Bells" ["pairs"] [.tup (bs.map pD)]
theorem sp_Bells_init {bs : List (Int × Int)} {s : Sto} (h : OkL bs) : d_Bells_init [.loc s.length, .tup (bs.map pD)] (s ++ [.ins "Bells" [] []]) = .ok .non (s ++ [.ins "Bells" ["pairs"] [.tup (bs.map pD)]]) := by
  apply wp_eq
  apply wp_seal
  apply wp_run
  simp [b_Bells_init, sp_first_bad h.1 h.2, gPutF, putD]
  refine ⟨_, frz_closed (by simp), ⟨by simp, fun i hi => ?_⟩, rfl, ?_⟩
  · by_cases c : i < s.length
    · left; rw [List.getElem?_append_left c, List.getElem?_append_left c]
    · simp at hi
      have e : i = s.length := by omega
      subst e
      right
      exact ⟨.ins "Bells" ["pairs"] [.tup (bs.map pD)], by simp, by simp [O.closed]⟩
  · rw [List.take_of_length_le (by simp)]
theorem wp_Bells {bs : List (Int × Int)} {s : Sto} {Q : D → Sto → Prop} (h : OkL bs) : (wp (fnN 2 d_Bells_init [.loc s.length, .tup (bs.map pD)] (s ++ [.ins "Bells" [] []])) fun d s2 => d = .non ∧ ∃ d', frz 4 s.length s2 (.loc s.length) = some d' ∧ OldOk s s2 ∧ Q d' (s2.take s.length)) = Q (mk bs) s := by
  rw [fnN2, sp_Bells_init h]
  simp [frz_ins_new, OldOk.app, mk]
@[simp] theorem wpv_pairs {bs : List (Int × Int)} {s : Sto} {Q : D → Sto → Prop} : wpv (gFld "Bells" "pairs" (mk bs) s) Q = Q (.tup (bs.map pD)) s := by
  have h1 : insOf "Bells" s (mk bs) = some ((["pairs"], [D.tup (bs.map pD)]) : List Str × List D) := by simp [mk, insOf]
  have h2 : ∀ d, fldD "pairs" (["pairs"] : List Str) [d] = some d := fun _ => rfl
  simp [gFld, h1, h2]
@[simp] theorem closed_mk {bs : List (Int × Int)} {n : Nat} : closed n (mk bs) = true := by simp [mk]
theorem sp_size {bs : List (Int × Int)} {s : Sto} : d_Bells_size [mk bs] s = .ok (.int bs.length) s := by
  apply wp_eq
  apply seal_pure
  apply wp_run
  simp [b_Bells_size]
theorem sp_rings {p : Int × Int} {h : Int} {s : Sto} (hp : 1 ≤ p.1) : d_rings [pD p, .int h] s = .ok (.bl (decide (h % p.1 = p.2))) s := by
  apply wp_eq
  apply seal_pure
  apply wp_run
  simp [b_rings, pD]
  omega
/-- some bell rings at an hour -/
def loud (bs : List (Int × Int)) (h : Int) : Bool := bs.any fun p => decide (h % p.1 = p.2)
theorem sp_is_quiet {bs : List (Int × Int)} {h : Int} {s : Sto} (hb : OkL bs) : d_is_quiet [mk bs, .int h] s = .ok (.bl (!loud bs h)) s := by
  apply wp_eq
  apply seal_pure
  apply wp_run
  have hl := hb.2
  have hsz : 16777216 = sizeLine := by decide
  simp [b_is_quiet, wipeD]
  refine ⟨by omega, ?_⟩
  rw [lcL_map (cv := pD) (fun p => D.bl (decide (h % p.1 = p.2))) bs (fun p hp => ⟨_, by simp; rfl, rfl, wp_eq (by simp [sp_rings (hb.1 p hp).1])⟩)]
  have e : (bs.map fun p => D.bl (decide (h % p.1 = p.2))) = (bs.map fun p => decide (h % p.1 = p.2)).map D.bl := by simp [Function.comp_def]
  simp only [wp_ok, wpv_new, Bool.false_eq_true, if_false]
  rw [e, wpv_anyL]
  simp [loud, List.any_map, Function.comp_def]
theorem sp_doubled {n : Nat} {s : Sto} (hn : n ≤ 100) : d_doubled [.int n] s = .ok (.int (2 ^ n : Nat)) s := by
  generalize hN : (n : Int) = M
  apply wp_eq
  apply seal_pure
  apply wp_run
  simp [b_doubled]
  refine ⟨rngOk_of (by omega) (by omega), ?_⟩
  obtain ⟨P, hP⟩ : ∃ P : List D → En → Sto → Prop, P = fun l ρ s1 => s1 = s ∧ ∃ (j k : Nat) (b : Option D), ρ = [some (.int M), some (.int ((2 : Int) ^ j)), b] ∧ l = rngD j k ∧ j + k = n := ⟨_, rfl⟩
  refine wps_forL P ?_ ?_ _ _ _ (by rw [hP]; exact ⟨rfl, 0, n, _, by simp; rfl, by rw [← hN]; simp, by omega⟩)
  · intro d l ρ s1 hI
    rw [hP] at hI
    obtain ⟨rfl, j, k, b, rfl, hl, hj⟩ := hI
    cases k with
    | zero => cases hl
    | succ k =>
      rw [rngD_succ] at hl
      cases hl
      have e : (2 : Int) ^ j + 2 ^ j = 2 ^ (j + 1) := by rw [Int.pow_succ]; omega
      simp [e]
      rw [hP]
      exact ⟨rfl, j + 1, k, _, rfl, by push_cast; rfl, by omega⟩
  · intro ρ s1 hI
    rw [hP] at hI
    obtain ⟨rfl, j, k, b, rfl, hl, hj⟩ := hI
    cases k with
    | succ n => rw [rngD_succ] at hl; cases hl
    | zero =>
      simp
      have : j = n := by omega
      rw [this]
/-- the first quiet hour by steps -/
def fqF (bs : List (Int × Int)) (h st : Int) : Option Int := ((List.range (2 ^ bs.length)).map fun k : Nat => h + st * k).find? fun x => !loud bs x
theorem sp_first_quiet {bs : List (Int × Int)} {h st : Int} {s : Sto} (hb : OkL bs) (hst : st = 1 ∨ st = -1) : d_first_quiet [mk bs, .int h, .int st] s = .ok (optI (fqF bs h st)) s := by
  apply wp_eq
  apply seal_pure
  apply wp_run
  have hl := hb.2
  have hpow : 2 ^ bs.length ≤ 16384 := Nat.le_trans (Nat.pow_le_pow_right (by omega) hl) (by decide)
  have hmk : (∃ a, (∃ x, insOf (Str.ofString "Bells") s (mk bs) = some (a, x)) ∧ ¬Str.ofString "size" ∈ a) := ⟨["pairs"], ⟨_, by simp [mk, insOf]; rfl⟩, by decide⟩
  have hd := sp_doubled (n := bs.length) (s := s) (by omega)
  push_cast at hd
  simp [b_first_quiet, hmk, sp_size, hd]
  obtain ⟨m, hm⟩ : ∃ m : Nat, m = 2 ^ bs.length := ⟨_, rfl⟩
  have hm2 : (2 : Int) ^ bs.length = (m : Nat) := by rw [hm]; push_cast; rfl
  rw [hm2]
  refine ⟨rngOk_of (by omega) (by omega), ?_⟩
  obtain ⟨P, hP⟩ : ∃ P : List D → En → Sto → Prop, P = fun l ρ s1 => s1 = s ∧ ∃ (j k : Nat) (b : Option D), ρ = [some (mk bs), some (.int h), some (.int st), b] ∧ l = rngD j k ∧ j + k = m ∧ fqF bs h st = ((List.range' j k).map fun k : Nat => h + st * k).find? fun x => !loud bs x := ⟨_, rfl⟩
  refine wps_forL P ?_ ?_ _ _ _ (by rw [hP]; exact ⟨rfl, 0, m, _, rfl, by simp, by omega, by unfold fqF; rw [← hm, List.range_eq_range']⟩)
  · intro d l ρ s1 hI
    rw [hP] at hI
    obtain ⟨rfl, j, k, b, rfl, hl, hj, hf⟩ := hI
    cases k with
    | zero => cases hl
    | succ k =>
      rw [rngD_succ] at hl
      cases hl
      rw [List.range'_succ, List.map_cons, List.find?_cons] at hf
      have mo : MulOk st (j : Int) := mok (.inl (by rcases hst with rfl | rfl <;> decide))
      simp [mo, sp_is_quiet hb]
      cases c : loud bs (h + st * j) with
      | true =>
        rw [c] at hf
        simp
        rw [hP]
        exact ⟨rfl, j + 1, k, _, rfl, by push_cast; rfl, by omega, hf⟩
      | false =>
        rw [c] at hf
        simp [mo]
        rw [hf]
        rfl
  · intro ρ s1 hI
    rw [hP] at hI
    obtain ⟨rfl, j, k, b, rfl, hl, hj, hf⟩ := hI
    cases k with
    | succ n => rw [rngD_succ] at hl; cases hl
    | zero =>
      simp
      rw [hf]
      simp [optI]
theorem sp_loud_for_ever {bs : List (Int × Int)} {s : Sto} (hb : OkL bs) : d_is_loud_for_ever [mk bs] s = .ok (.bl (fqF bs 0 1).isNone) s := by
  apply wp_eq
  apply seal_pure
  apply wp_run
  simp [b_is_loud_for_ever, sp_first_quiet hb (.inl rfl)]
end QS.K14
end

section
set_option Elab.async false
set_option linter.all false
set_option maxRecDepth 100000
set_option maxHeartbeats 1000000
namespace QS.K14
open PySem PySem.Spec PyProof.Rows L2 QS QS.MB
theorem emod_eq_iff {h e a : Int} (he : 1 ≤ e) (h0 : 0 ≤ a) (h1 : a < e) : h % e = a ↔ e ∣ h - a := by
  constructor
  · intro q
    have := Int.emod_add_mul_ediv h e
    exact ⟨h / e, by omega⟩
  · rintro ⟨t, ht⟩
    have e1 : h = a + e * t := by omega
    rw [e1, Int.add_mul_emod_self_left]
    exact Int.emod_eq_of_lt h0 h1
theorem loud_iff {bs : List (Int × Int)} {h : Int} (hb : ∀ p ∈ bs, Ok p) : loud bs h = true ↔ ∃ p ∈ bs, p.1 ∣ h - p.2 := by
  unfold loud
  rw [List.any_eq_true]
  constructor
  · rintro ⟨p, hp, q⟩
    obtain ⟨h1, h2, h3, h4⟩ := hb p hp
    exact ⟨p, hp, (emod_eq_iff h1 h3 h4).mp (of_decide_eq_true q)⟩
  · rintro ⟨p, hp, q⟩
    obtain ⟨h1, h2, h3, h4⟩ := hb p hp
    exact ⟨p, hp, decide_eq_true ((emod_eq_iff h1 h3 h4).mpr q)⟩
/-- 2 ^ K hours are enough -/
theorem loud_all {bs : List (Int × Int)} (hb : ∀ p ∈ bs, Ok p) (h0 : Int) (hz : ∀ k : Nat, k < 2 ^ bs.length → loud bs (h0 + k) = true) (x : Int) : loud bs x = true :=
  (loud_iff hb).mpr (two_pow bs (fun p hp => (hb p hp).1) h0 (fun k hk => (loud_iff hb).mp (hz k hk)) x)
theorem find_range {p : Int → Bool} {h st : Int} {n : Nat} {q : Int} (e : ((List.range n).map fun k : Nat => h + st * k).find? p = some q) : ∃ k : Nat, k < n ∧ q = h + st * k ∧ p q = true ∧ ∀ j : Nat, j < k → p (h + st * j) = false := by
  obtain ⟨h1, as, bs, h2, h3⟩ := List.find?_eq_some_iff_append.mp e
  have hk : as.length < n := by
    have := congrArg List.length h2
    simp at this
    omega
  have at_ : ∀ j : Nat, j < n → ((List.range n).map fun k : Nat => h + st * k)[j]? = some (h + st * j) := fun j hj => by simp [hj]
  refine ⟨as.length, hk, ?_, h1, fun j hj => ?_⟩
  · have := at_ as.length hk
    rw [h2, List.getElem?_append_right (Nat.le_refl _)] at this
    simpa using this
  · have := at_ j (by omega)
    rw [h2, List.getElem?_append_left hj] at this
    simpa using h3 _ (List.mem_of_getElem? this)
theorem find_none {p : Int → Bool} {h st : Int} {n : Nat} (e : ((List.range n).map fun k : Nat => h + st * k).find? p = none) : ∀ j : Nat, j < n → p (h + st * j) = false := fun j hj => by
  have := List.find?_eq_none.mp e (h + st * j) (List.mem_map.mpr ⟨j, List.mem_range.mpr hj, rfl⟩)
  simpa using this
theorem fq_none {bs : List (Int × Int)} {h st : Int} (hb : ∀ p ∈ bs, Ok p) (hst : st = 1 ∨ st = -1) : fqF bs h st = none ↔ ∀ x, loud bs x = true := by
  constructor
  · intro e x
    have q := find_none e
    rcases hst with rfl | rfl
    · exact loud_all hb h (fun k hk => by simpa using q k hk) x
    · refine loud_all hb (h - (2 ^ bs.length - 1 : Nat)) (fun k hk => ?_) x
      have := q (2 ^ bs.length - 1 - k) (by omega)
      have e2 : h + -1 * ((2 ^ bs.length - 1 - k : Nat) : Int) = h - (2 ^ bs.length - 1 : Nat) + k := by omega
      rw [e2] at this
      simpa using this
  · intro hx
    unfold fqF
    rw [List.find?_eq_none]
    intro x _
    simp [hx x]
/-- the least quiet hour from one on -/
theorem fq_next {bs : List (Int × Int)} {h q : Int} (hb : ∀ p ∈ bs, Ok p) : fqF bs h 1 = some q ↔ h ≤ q ∧ loud bs q = false ∧ ∀ x, h ≤ x → x < q → loud bs x = true := by
  constructor
  · intro e
    obtain ⟨k, hk, rfl, h1, h2⟩ := find_range e
    refine ⟨by omega, by simpa using h1, fun x hx hx2 => ?_⟩
    have := h2 (x - h).toNat (by omega)
    rw [show h + 1 * ((x - h).toNat : Int) = x by omega] at this
    simpa using this
  · rintro ⟨h1, h2, h3⟩
    cases e : fqF bs h 1 with
    | none =>
      rw [fq_none hb (.inl rfl)] at e
      rw [e q] at h2
      cases h2
    | some q' =>
      obtain ⟨k, hk, rfl, g1, g2⟩ := find_range e
      have g1 : loud bs (h + 1 * k) = false := by simpa using g1
      congr 1
      by_cases c : h + 1 * (k : Int) < q
      · rw [h3 _ (by omega) c] at g1; cases g1
      · by_cases c2 : q < h + 1 * (k : Int)
        · have := g2 (q - h).toNat (by omega)
          rw [show h + 1 * ((q - h).toNat : Int) = q by omega] at this
          rw [h2] at this; cases this
        · omega
/-- the greatest quiet hour up to one -/
theorem fq_last {bs : List (Int × Int)} {h q : Int} (hb : ∀ p ∈ bs, Ok p) : fqF bs h (-1) = some q ↔ q ≤ h ∧ loud bs q = false ∧ ∀ x, q < x → x ≤ h → loud bs x = true := by
  constructor
  · intro e
    obtain ⟨k, hk, rfl, h1, h2⟩ := find_range e
    refine ⟨by omega, by simpa using h1, fun x hx hx2 => ?_⟩
    have := h2 (h - x).toNat (by omega)
    rw [show h + -1 * ((h - x).toNat : Int) = x by omega] at this
    simpa using this
  · rintro ⟨h1, h2, h3⟩
    cases e : fqF bs h (-1) with
    | none =>
      rw [fq_none hb (.inr rfl)] at e
      rw [e q] at h2
      cases h2
    | some q' =>
      obtain ⟨k, hk, rfl, g1, g2⟩ := find_range e
      have g1 : loud bs (h + -1 * k) = false := by simpa using g1
      congr 1
      by_cases c : q < h + -1 * (k : Int)
      · rw [h3 _ c (by omega)] at g1; cases g1
      · by_cases c2 : h + -1 * (k : Int) < q
        · have := g2 (h - q).toNat (by omega)
          rw [show h + -1 * ((h - q).toNat : Int) = q by omega] at this
          rw [h2] at this; cases this
        · omega
/-! hours -/
theorem sp_is_hour {h : Int} {s : Sto} : d_is_hour [.int h] s = .ok (.bl (decide (-1000000000000000000000000000000 ≤ h) && decide (h ≤ 1000000000000000000000000000000))) s := by
  apply wp_eq
  apply seal_pure
  apply wp_run
  by_cases c : -1000000000000000000000000000000 ≤ h <;> simp [b_is_hour, sp_is_integer, c]
def HourOk (h : Int) : Prop := -1000000000000000000000000000000 ≤ h ∧ h ≤ 1000000000000000000000000000000
theorem sp_check_hour {h : Int} {s : Sto} (hh : HourOk h) : d_check_hour [.int h] s = .ok .non s := by
  obtain ⟨h1, h2⟩ := hh
  apply wp_eq
  apply seal_pure
  apply wp_run
  simp [b_check_hour, sp_is_hour, h1, h2]
theorem sp_quiet {bs : List (Int × Int)} {h : Int} {s : Sto} (hb : OkL bs) (hh : HourOk h) : d_quiet [mk bs, .int h] s = .ok (optI (fqF bs h 1)) s := by
  apply wp_eq
  apply seal_pure
  apply wp_run
  simp [b_quiet, sp_check_hour hh, sp_first_quiet hb (.inl rfl)]
theorem sp_quiet_before {bs : List (Int × Int)} {h : Int} {s : Sto} (hb : OkL bs) (hh : HourOk h) : d_quiet_before [mk bs, .int h] s = .ok (optI (fqF bs h (-1))) s := by
  apply wp_eq
  apply seal_pure
  apply wp_run
  simp [b_quiet_before, sp_check_hour hh, sp_first_quiet hb (.inr rfl)]
end QS.K14
end

section
set_option Elab.async false
set_option linter.all false
set_option maxRecDepth 100000
set_option maxHeartbeats 1000000
namespace QS.K14
open PySem PySem.Spec PyProof.Rows L2 QS
theorem gcd_step {x y : Int} (hx : 0 ≤ x) : Int.gcd y (x % y) = Int.gcd x y := by
  unfold Int.gcd
  rw [Int.natAbs_emod_of_nonneg hx, Nat.gcd_comm, ← Nat.gcd_rec, Nat.gcd_comm]
theorem sp_common {a b : Int} {s : Sto} (ha : 0 ≤ a) (hb : 0 ≤ b) : d_common [.int a, .int b] s = .ok (.int (Int.gcd a b)) s := by
  apply wp_eq
  apply seal_pure
  apply wp_run
  simp [b_common]
  refine wps_while (fun k ρ s1 => s1 = s ∧ ∃ x y, ρ = [some (.int x), some (.int y)] ∧ 0 ≤ x ∧ 0 ≤ y ∧ y.toNat = k ∧ Int.gcd x y = Int.gcd a b) ?_ _ _ _ ⟨rfl, a, b, rfl, ha, hb, rfl, rfl⟩
  rintro k ρ s1 ⟨rfl, x, y, rfl, hx, hy, rfl, hg⟩
  by_cases c : 0 < y
  · simp [c]
    have h1 := Int.emod_nonneg x (show y ≠ 0 by omega)
    have h2 := Int.emod_lt_of_pos x c
    exact ⟨_, by omega, _, _, ⟨rfl, rfl⟩, by omega, h1, rfl, by rw [gcd_step hx]; exact hg⟩
  · have : y = 0 := by omega
    subst this
    simp
    rw [← hg]
    simp
    omega
/-- a // gcd * b -/
def lcmI (a b : Int) : Int := a / (Int.gcd a b : Int) * b
theorem gcd_le_r {a b : Int} (hb : 1 ≤ b) : (Int.gcd a b : Int) ≤ b ∧ 0 < (Int.gcd a b : Int) := by
  have h1 : Int.gcd a b ≠ 0 := by
    intro z
    have := Int.gcd_eq_zero_iff.mp z
    omega
  have h2 : (Int.gcd a b : Int) ∣ b := Int.gcd_dvd_right ..
  exact ⟨Int.le_of_dvd (by omega) h2, by omega⟩
theorem sp_lm {a b : Int} {s : Sto} (ha : 1 ≤ a) (hb : 1 ≤ b) (hb2 : b ≤ 1000000000) : d_least_multiple [.int a, .int b] s = .ok (.int (lcmI a b)) s := by
  have h := gcd_le_r (a := a) hb
  apply wp_eq
  apply seal_pure
  apply wp_run
  simp [b_least_multiple, sp_common (show 0 ≤ a by omega) (show 0 ≤ b by omega), lcmI]
  exact ⟨divOk_small h.2 (by omega), mok (.inr ⟨by omega, by omega⟩)⟩
theorem lcmI_pos {a b : Int} (ha : 1 ≤ a) (hb : 1 ≤ b) : 1 ≤ lcmI a b := by
  have h := gcd_le_r (a := a) hb
  have h3 : (Int.gcd a b : Int) ≤ a := Int.le_of_dvd (by omega) (Int.gcd_dvd_left ..)
  have : 1 ≤ a / (Int.gcd a b : Int) := by
    rw [Int.le_ediv_iff_mul_le h.2]; omega
  have := Int.mul_le_mul this hb (by omega) (by omega)
  unfold lcmI
  omega
def Wl : List (Int × Int) → Int → Int
  | [], w => w
  | p :: r, w => Wl r (lcmI w p.1)
theorem sp_round {bs : List (Int × Int)} {s : Sto} (h : ∀ p ∈ bs, Ok p) : d_round_of [mk bs] s = .ok (.int (Wl bs 1)) s := by
  apply wp_eq
  apply seal_pure
  apply wp_run
  simp [b_round_of]
  obtain ⟨P, hP⟩ : ∃ P : List D → En → Sto → Prop, P = fun l ρ s1 => s1 = s ∧ ∃ r w a x y, ρ = [a, some (.int w), x, y] ∧ l = r.map pD ∧ (∀ p ∈ r, Ok p) ∧ 1 ≤ w ∧ Wl r w = Wl bs 1 := ⟨_, rfl⟩
  refine wps_forL P ?_ ?_ _ _ _ (by rw [hP]; exact ⟨rfl, bs, 1, _, _, _, rfl, rfl, h, by omega, rfl⟩)
  · intro d l ρ s1 hI
    rw [hP] at hI
    obtain ⟨rfl, r, w, a, x, y, rfl, hl, hr, hw, e⟩ := hI
    cases r with
    | nil => cases hl
    | cons p r =>
      cases hl
      obtain ⟨h1, h2, h3, h4⟩ := hr p (List.mem_cons_self ..)
      simp [pD, sp_lm hw h1 h2]
      rw [hP]
      exact ⟨rfl, r, _, _, _, _, rfl, rfl, fun p hp => hr p (List.mem_cons_of_mem _ hp), lcmI_pos hw h1, e⟩
  · intro ρ s1 hI
    rw [hP] at hI
    obtain ⟨rfl, r, w, a, x, y, rfl, hl, hr, hw, e⟩ := hI
    cases r with
    | cons p r => cases hl
    | nil =>
      simp
      exact e
end QS.K14
end

section
set_option Elab.async false
set_option linter.all false
set_option maxRecDepth 100000
set_option maxHeartbeats 1000000
namespace QS.K14
open PySem PySem.Spec PyProof.Rows L2 QS
theorem gcd_emod_l {a m : Int} : Int.gcd (a % m) m = Int.gcd a m := by
  apply Nat.dvd_antisymm
  · apply Int.natCast_dvd_natCast.mp
    have h1 : (Int.gcd (a % m) m : Int) ∣ a % m := Int.gcd_dvd_left ..
    have h2 : (Int.gcd (a % m) m : Int) ∣ m := Int.gcd_dvd_right ..
    refine Int.dvd_coe_gcd ?_ h2
    have := Int.emod_add_mul_ediv a m
    have h3 := Int.dvd_add h1 (Int.dvd_mul_of_dvd_left (c := a / m) h2)
    rwa [this] at h3
  · apply Int.natCast_dvd_natCast.mp
    have h1 : (Int.gcd a m : Int) ∣ a := Int.gcd_dvd_left ..
    have h2 : (Int.gcd a m : Int) ∣ m := Int.gcd_dvd_right ..
    refine Int.dvd_coe_gcd ?_ h2
    have := Int.emod_add_mul_ediv a m
    have e : a % m = a - m * (a / m) := by omega
    rw [e]
    exact Int.dvd_sub h1 (Int.dvd_mul_of_dvd_left h2)
theorem wp_inverse {a m : Int} {s : Sto} (hm : 1 ≤ m) (hm2 : m ≤ 1000000000) : wp (d_inverse [.int a, .int m] s) fun d s1 => s1 = s ∧ ∃ r, d = .int r ∧ 0 ≤ r ∧ r < m ∧ m ∣ a * r - Int.gcd a m := by
  apply seal_pure
  apply wp_run
  have h1 := Int.emod_nonneg a (show m ≠ 0 by omega)
  have h2 := Int.emod_lt_of_pos a (show 0 < m by omega)
  simp [b_inverse]
  refine ⟨by omega, by decide, ?_⟩
  obtain ⟨P, hP⟩ : ∃ P : Nat → En → Sto → Prop, P = fun k ρ s1 => s1 = s ∧ ∃ x y u v t, ρ = [some (.int a), some (.int m), some (.int x), some (.int y), some (.int u), some (.int v), t] ∧ 0 ≤ x ∧ x ≤ m ∧ 0 ≤ y ∧ y ≤ m ∧ y.toNat = k ∧ Int.gcd x y = Int.gcd a m ∧ m ∣ a * u - x ∧ m ∣ a * v - y := ⟨_, rfl⟩
  refine wps_while P ?_ m.toNat _ _ (by
    rw [hP]
    refine ⟨rfl, _, _, _, _, _, rfl, h1, by omega, by omega, by omega, rfl, ?_, ?_, ?_⟩
    · exact gcd_emod_l
    · have : a * 1 - a % m = m * (a / m) := by have := Int.emod_add_mul_ediv a m; omega
      rw [this]
      exact Int.dvd_mul_right ..
    · simp)
  intro k ρ s1 hI
  rw [hP] at hI
  obtain ⟨rfl, x, y, u, v, t, rfl, hx, hx2, hy, hy2, rfl, hg, hu, hv⟩ := hI
  by_cases c : 0 < y
  · simp [c]
    have q1 := Int.ediv_nonneg hx hy
    have q2 : x / y ≤ x := Int.ediv_le_self _ hx
    refine ⟨divOk_small c (by omega), mok (.inr ⟨by omega, by omega⟩), mok (.inl ⟨by omega, by omega⟩), by decide, ?_⟩
    have e : x - x / y * y = x % y := by have := Int.emod_add_mul_ediv x y; rw [Int.mul_comm]; omega
    have e1 := Int.emod_nonneg x (show y ≠ 0 by omega)
    have e2 := Int.emod_lt_of_pos x c
    refine ⟨(x % y).toNat, by omega, ?_⟩
    rw [hP, e]
    refine ⟨rfl, _, _, _, _, _, rfl, hy, hy2, e1, by omega, rfl, by rw [gcd_step hx]; exact hg, hv, ?_⟩
    have : a * (u - x / y * v) - x % y = (a * u - x) - x / y * (a * v - y) := by
      have := Int.emod_add_mul_ediv x y
      have e3 : a * (u - x / y * v) = a * u - x / y * (a * v) := by
        rw [Int.mul_sub]; congr 1; rw [← Int.mul_assoc, ← Int.mul_assoc, Int.mul_comm a]
      have e4 : x / y * (a * v - y) = x / y * (a * v) - x / y * y := Int.mul_sub ..
      omega
    rw [this]
    exact Int.dvd_sub hu (Int.dvd_mul_of_dvd_right hv)
  · have : y = 0 := by omega
    subst this
    simp
    have e1 := Int.emod_nonneg u (show m ≠ 0 by omega)
    have e2 := Int.emod_lt_of_pos u (show 0 < m by omega)
    refine ⟨by omega, e1, e2, ?_⟩
    have hgx : (Int.gcd a m : Int) = x := by rw [← hg]; simp; omega
    rw [hgx]
    have : a * (u % m) - x = (a * u - x) - m * (a * (u / m)) := by
      have h := Int.emod_add_mul_ediv u m
      have h3 : a * u = a * (u % m) + m * (a * (u / m)) := by
        have : a * u = a * (u % m + m * (u / m)) := by rw [h]
        rw [this, Int.mul_add]; congr 1
        rw [← Int.mul_assoc, ← Int.mul_assoc, Int.mul_comm a m]
      omega
    rw [this]
    exact Int.dvd_sub hu (Int.dvd_mul_right ..)
/-- a meeting of two -/
structure IsMeet (p q c : Int × Int) : Prop where
  e : c.1 = lcmI p.1 q.1
  lo : 0 ≤ c.2
  hi : c.2 < c.1
  a : p.1 ∣ c.2 - p.2
  b : q.1 ∣ c.2 - q.2
theorem lcmI_eq {a b : Int} (ha : 0 ≤ a) (hb : 0 ≤ b) : lcmI a b = (Int.lcm a b : Int) := by
  obtain ⟨m, rfl⟩ := Int.eq_ofNat_of_zero_le ha
  obtain ⟨n, rfl⟩ := Int.eq_ofNat_of_zero_le hb
  have h : Nat.gcd m n ∣ m := Nat.gcd_dvd_left ..
  have e : lcmI (m : Int) (n : Int) = ((m / Nat.gcd m n * n : Nat) : Int) := by simp [lcmI, Int.gcd]
  rw [e]
  congr 1
  show m / Nat.gcd m n * n = Nat.lcm m n
  unfold Nat.lcm
  rw [Nat.mul_comm m n, Nat.mul_div_assoc _ h, Nat.mul_comm]
theorem lcm_dvd {a b x : Int} (ha : 0 ≤ a) (hb : 0 ≤ b) (h1 : a ∣ x) (h2 : b ∣ x) : lcmI a b ∣ x := by
  rw [lcmI_eq ha hb]
  have h3 : a ∣ ((x.natAbs : Nat) : Int) := Int.dvd_natAbs.mpr h1
  have h4 : b ∣ ((x.natAbs : Nat) : Int) := Int.dvd_natAbs.mpr h2
  have := Int.lcm_dvd h3 h4
  exact Int.dvd_natAbs.mp (Int.natCast_dvd_natCast.mpr this)
theorem dvd_lcm_l {a b : Int} (ha : 0 ≤ a) (hb : 0 ≤ b) : a ∣ lcmI a b := by rw [lcmI_eq ha hb]; exact Int.dvd_lcm_left ..
theorem dvd_lcm_r {a b : Int} (ha : 0 ≤ a) (hb : 0 ≤ b) : b ∣ lcmI a b := by rw [lcmI_eq ha hb]; exact Int.dvd_lcm_right ..
theorem IsMeet.uniq {p q c c' : Int × Int} (hp : 1 ≤ p.1) (hq : 1 ≤ q.1) (h : IsMeet p q c) (h' : IsMeet p q c') : c = c' := by
  have hd : lcmI p.1 q.1 ∣ c.2 - c'.2 := lcm_dvd (by omega) (by omega) (by have := Int.dvd_sub h.a h'.a; rwa [show c.2 - p.2 - (c'.2 - p.2) = c.2 - c'.2 by omega] at this) (by have := Int.dvd_sub h.b h'.b; rwa [show c.2 - q.2 - (c'.2 - q.2) = c.2 - c'.2 by omega] at this)
  obtain ⟨k, hk⟩ := hd
  have h1 := h.e
  have h2 := h'.e
  have l0 := h.lo
  have l1 := h.hi
  have l2 := h'.lo
  have l3 := h'.hi
  rw [h1] at l1
  rw [h2] at l3
  have : k = 0 := by
    have hL := lcmI_pos hp hq
    by_cases c0 : k = 0
    · exact c0
    · by_cases c1 : 0 < k
      · have := Int.mul_le_mul_of_nonneg_left (show 1 ≤ k by omega) (show 0 ≤ lcmI p.1 q.1 by omega)
        omega
      · have := Int.mul_le_mul_of_nonneg_left (show k ≤ -1 by omega) (show 0 ≤ lcmI p.1 q.1 by omega)
        omega
  subst this
  have : c.2 = c'.2 := by omega
  exact Prod.ext (h1.trans h2.symm) this
open Classical in
noncomputable def chF (p q : Int × Int) : Option (Int × Int) := if h : ∃ c, IsMeet p q c then some (Classical.choose h) else none
def optD : Option (Int × Int) → D
  | none => .non
  | some c => pD c
theorem chF_some {p q c : Int × Int} (hp : 1 ≤ p.1) (hq : 1 ≤ q.1) (h : IsMeet p q c) : chF p q = some c := by
  have ex : ∃ c, IsMeet p q c := ⟨c, h⟩
  unfold chF
  rw [dif_pos ex]
  rw [IsMeet.uniq hp hq (Classical.choose_spec ex) h]
theorem chF_none {p q : Int × Int} (h : ∀ c, ¬ IsMeet p q c) : chF p q = none := by
  unfold chF
  rw [dif_neg (fun ⟨c, q⟩ => h c q)]
theorem sp_ch {p q : Int × Int} {s : Sto} (hp : 1 ≤ p.1) (hq : 1 ≤ q.1) (hq2 : q.1 ≤ 1000000000) : d_common_hours [pD p, pD q] s = .ok (optD (chF p q)) s := by
  apply wp_eq
  apply seal_pure
  apply wp_run
  have hg := gcd_le_r (a := p.1) hq
  have hga : (Int.gcd p.1 q.1 : Int) ∣ p.1 := Int.gcd_dvd_left ..
  have hgb : (Int.gcd p.1 q.1 : Int) ∣ q.1 := Int.gcd_dvd_right ..
  have hG : Int.gcd (p.1 / (Int.gcd p.1 q.1 : Int)) (q.1 / (Int.gcd p.1 q.1 : Int)) = 1 := Int.gcd_ediv_gcd_ediv_gcd (by omega)
  by_cases c : (q.2 - p.2) % (Int.gcd p.1 q.1 : Int) = 0
  · simp [b_common_hours, pD, sp_common (show 0 ≤ p.1 by omega) (show 0 ≤ q.1 by omega), c, sp_lm hp hq hq2]
    have hv : 1 ≤ q.1 / (Int.gcd p.1 q.1 : Int) := by rw [Int.le_ediv_iff_mul_le hg.2]; omega
    have hv2 : q.1 / (Int.gcd p.1 q.1 : Int) ≤ q.1 := Int.ediv_le_self _ (by omega)
    refine ⟨by omega, divOk_small hg.2 (by omega), divOk_small hg.2 (by omega), divOk_small hg.2 (by omega), (wp_inverse hv (by omega)).mono ?_⟩
    rintro y s2 ⟨rfl, r, rfl, r0, r1, hr⟩
    rw [hG] at hr
    simp
    have hL := lcmI_pos hp hq
    have hst := Int.emod_nonneg ((q.2 - p.2) / (Int.gcd p.1 q.1 : Int) * r) (show q.1 / (Int.gcd p.1 q.1 : Int) ≠ 0 by omega)
    have hst2 := Int.emod_lt_of_pos ((q.2 - p.2) / (Int.gcd p.1 q.1 : Int) * r) (show 0 < q.1 / (Int.gcd p.1 q.1 : Int) by omega)
    refine ⟨mok (.inr ⟨by omega, by omega⟩), by omega, mok (.inr ⟨by omega, by omega⟩), by omega, by decide, ?_⟩
    -- what the number is
    have ec : (q.2 - p.2) = (Int.gcd p.1 q.1 : Int) * ((q.2 - p.2) / (Int.gcd p.1 q.1 : Int)) := (Int.mul_ediv_cancel' (Int.dvd_of_emod_eq_zero c)).symm
    have ea : p.1 = (Int.gcd p.1 q.1 : Int) * (p.1 / (Int.gcd p.1 q.1 : Int)) := (Int.mul_ediv_cancel' hga).symm
    have eb : q.1 = (Int.gcd p.1 q.1 : Int) * (q.1 / (Int.gcd p.1 q.1 : Int)) := (Int.mul_ediv_cancel' hgb).symm
    have key : q.1 ∣ p.1 * ((q.2 - p.2) / (Int.gcd p.1 q.1 : Int) * r % (q.1 / (Int.gcd p.1 q.1 : Int))) - (q.2 - p.2) := by
      generalize (Int.gcd p.1 q.1 : Int) = g at *
      generalize p.1 / g = u at *
      generalize q.1 / g = v at *
      generalize (q.2 - p.2) / g = t at *
      have h1 := Int.emod_add_mul_ediv (t * r) v
      generalize t * r % v = x at *
      generalize t * r / v = y at *
      have h2 : v ∣ u * x - t := by
        have e1 : u * x - t = t * (u * r - 1) - v * (u * y) := by
          have : x = t * r - v * y := by omega
          rw [this, Int.mul_sub, Int.mul_sub, Int.mul_one]
          have a1 : u * (t * r) = t * (u * r) := by rw [← Int.mul_assoc, ← Int.mul_assoc, Int.mul_comm u]
          have a2 : u * (v * y) = v * (u * y) := by rw [← Int.mul_assoc, ← Int.mul_assoc, Int.mul_comm u]
          rw [a1, a2]; omega
        rw [e1]
        exact Int.dvd_sub (Int.dvd_mul_of_dvd_right hr) (Int.dvd_mul_right ..)
      rw [ec, ea, eb, Int.mul_assoc, ← Int.mul_sub]
      exact Int.mul_dvd_mul_left g h2
    generalize (q.2 - p.2) / (Int.gcd p.1 q.1 : Int) * r % (q.1 / (Int.gcd p.1 q.1 : Int)) = x at *
    have l1 := Int.emod_nonneg (p.2 + p.1 * x) (show lcmI p.1 q.1 ≠ 0 by omega)
    have l2 := Int.emod_lt_of_pos (p.2 + p.1 * x) (show 0 < lcmI p.1 q.1 by omega)
    have l3 := Int.emod_add_mul_ediv (p.2 + p.1 * x) (lcmI p.1 q.1)
    have d1 : p.1 ∣ (p.2 + p.1 * x) % lcmI p.1 q.1 - p.2 := by
      have e : (p.2 + p.1 * x) % lcmI p.1 q.1 - p.2 = p.1 * x - lcmI p.1 q.1 * ((p.2 + p.1 * x) / lcmI p.1 q.1) := by omega
      rw [e]
      exact Int.dvd_sub (Int.dvd_mul_right ..) (Int.dvd_mul_of_dvd_left (dvd_lcm_l (by omega) (by omega)))
    have d2 : q.1 ∣ (p.2 + p.1 * x) % lcmI p.1 q.1 - q.2 := by
      have e : (p.2 + p.1 * x) % lcmI p.1 q.1 - q.2 = (p.1 * x - (q.2 - p.2)) - lcmI p.1 q.1 * ((p.2 + p.1 * x) / lcmI p.1 q.1) := by omega
      rw [e]
      exact Int.dvd_sub key (Int.dvd_mul_of_dvd_left (dvd_lcm_r (by omega) (by omega)))
    rw [chF_some (c := (lcmI p.1 q.1, (p.2 + p.1 * x) % lcmI p.1 q.1)) hp hq ⟨rfl, l1, l2, d1, d2⟩]
    rfl
  · simp [b_common_hours, pD, sp_common (show 0 ≤ p.1 by omega) (show 0 ≤ q.1 by omega), c]
    refine ⟨by omega, ?_⟩
    rw [chF_none]
    · rfl
    · intro m hm
      apply c
      have h1 : (Int.gcd p.1 q.1 : Int) ∣ m.2 - p.2 := Int.dvd_trans hga hm.a
      have h2 : (Int.gcd p.1 q.1 : Int) ∣ m.2 - q.2 := Int.dvd_trans hgb hm.b
      have h3 := Int.dvd_sub h1 h2
      rw [show m.2 - p.2 - (m.2 - q.2) = q.2 - p.2 by omega] at h3
      exact Int.emod_eq_zero_of_dvd h3
end QS.K14
end

section
set_option Elab.async false
set_option linter.all false
set_option maxRecDepth 100000
set_option maxHeartbeats 1000000
namespace QS.K14
open PySem PySem.Spec PyProof.Rows L2 QS QS.MA
theorem sp_choices {m k : Nat} {s : Sto} (hm : m ≤ 1000) (hk : k ≤ 1000) : d_choices [.int m, .int k] s = .ok (.int (binom m k)) s := by
  generalize hM : (m : Int) = M
  generalize hK : (k : Int) = K
  apply wp_eq
  apply seal_pure
  apply wp_run
  simp [b_choices]
  refine ⟨rngOk_of (by omega) (by omega), ?_⟩
  obtain ⟨P, hP⟩ : ∃ P : List D → En → Sto → Prop, P = fun l ρ s1 => s1 = s ∧ ∃ (j n : Nat) (b y : Option D), ρ = [some (.int M), b, some (.int (binom m j)), y] ∧ l = rngD j n ∧ j + n = k := ⟨_, rfl⟩
  refine wps_forL P ?_ ?_ _ _ _ (by rw [hP]; subst hK; exact ⟨rfl, 0, k, _, _, by simp; exact ⟨rfl, rfl⟩, by simp, by omega⟩)
  · intro d l ρ s1 hI
    rw [hP] at hI
    obtain ⟨rfl, j, n, b, y, rfl, hl, hj⟩ := hI
    cases n with
    | zero => cases hl
    | succ n =>
      rw [rngD_succ] at hl
      cases hl
      simp
      have st := binom_step m j
      have e : (binom m j : Int) * (M - j) / ((j : Int) + 1) = binom m (j + 1) := by
        rw [← hM, ← st]
        exact Int.mul_ediv_cancel _ (by omega)
      refine ⟨mok (.inr ⟨by omega, by omega⟩), divOk_small (by omega) (by omega), ?_⟩
      rw [hP, e]
      exact ⟨rfl, j + 1, n, _, _, rfl, by push_cast; rfl, by omega⟩
  · intro ρ s1 hI
    rw [hP] at hI
    obtain ⟨rfl, j, n, b, y, rfl, hl, hj⟩ := hI
    cases n with
    | succ n => rw [rngD_succ] at hl; cases hl
    | zero =>
      simp
      have : j = k := by omega
      rw [this]
/-! rows -/
abbrev Row := (Int × Int) × Nat
def rowD (r : Row) : D := .tup [pD r.1, .int r.2]
noncomputable def rowsF (rows : List Row) (p : Int × Int) : List Row := rows ++ rows.filterMap fun r => (chF r.1 p).map fun c => (c, r.2 + 1)
noncomputable def rowsAll : List (Int × Int) → List Row → List Row
  | [], rows => rows
  | p :: r, rows => rowsAll r (rowsF rows p)
/-- what holds of rows; w the round so far, k how many bells -/
structure RowOk (w : Int) (k : Nat) (r : Row) : Prop where
  e : 1 ≤ r.1.1
  d : r.1.1 ∣ w
  m : r.2 ≤ k
theorem rowsF_ok {rows : List Row} {p : Int × Int} {w : Int} {k : Nat} (hw : 1 ≤ w) (hp : 1 ≤ p.1) (h : ∀ r ∈ rows, RowOk w k r) : ∀ r ∈ rowsF rows p, RowOk (lcmI w p.1) (k + 1) r := by
  intro r hr
  unfold rowsF at hr
  rcases List.mem_append.mp hr with hr | hr
  · have := h r hr
    exact ⟨this.e, Int.dvd_trans this.d (dvd_lcm_l (by omega) (by omega)), by have := this.m; omega⟩
  · obtain ⟨r0, h0, h1⟩ := List.mem_filterMap.mp hr
    obtain ⟨c, h2, rfl⟩ := Option.map_eq_some_iff.mp h1
    have q := h r0 h0
    have hm : IsMeet r0.1 p c := by
      unfold chF at h2
      split at h2
      · rename_i ex
        cases h2
        exact Classical.choose_spec ex
      · cases h2
    refine ⟨?_, ?_, by have := q.m; simp; omega⟩
    · show 1 ≤ c.1
      rw [hm.e]; exact lcmI_pos q.e hp
    · show c.1 ∣ _
      rw [hm.e]
      exact lcm_dvd (by have := q.e; omega) (by omega) (Int.dvd_trans q.d (dvd_lcm_l (by omega) (by omega))) (dvd_lcm_r (by omega) (by omega))
theorem rowsF_len {rows : List Row} {p : Int × Int} : (rowsF rows p).length ≤ 2 * rows.length := by
  unfold rowsF
  rw [List.length_append]
  have := List.length_filterMap_le (fun r : Row => (chF r.1 p).map fun c => (c, r.2 + 1)) rows
  omega
def found0 (n : Nat) : List Int := List.replicate (n + 1) 0
def addAt (W : Int) (f : List Int) (r : Row) : List Int := f.set r.2 (f.getD r.2 0 + W / r.1.1)
theorem rowsF_D {rows : List Row} {p : Int × Int} : rows.map rowD ++ (rows.filter fun q => (chF q.1 p).isSome).map (fun q => D.tup [optD (chF q.1 p), .int ((q.2 : Int) + 1)]) = (rowsF rows p).map rowD := by
  unfold rowsF
  rw [List.map_append]
  congr 1
  induction rows with
  | nil => rfl
  | cons q r ih =>
    cases c : chF q.1 p with
    | none => simp [List.filter_cons, List.filterMap_cons, c, ih]
    | some m =>
      have e : optD (some m) = pD m := rfl
      simp only [List.filter_cons, List.filterMap_cons, c, Option.isSome_some, if_true, List.map_cons, Option.map_some, e, ih]
      rfl
theorem sumLen {α : Type} (l : List α) (p : α → Bool) : (l.filter p).length ≤ l.length := List.length_filter_le ..
theorem lcmI_le {a b : Int} (ha : 1 ≤ a) (hb : 1 ≤ b) : lcmI a b ≤ a * b := by
  unfold lcmI
  exact Int.mul_le_mul_of_nonneg_right (Int.ediv_le_self _ (by omega)) (by omega)
theorem Wl_le : ∀ {bs : List (Int × Int)} {w : Int} (h : ∀ p ∈ bs, Ok p) (hw : 1 ≤ w), Wl bs w ≤ w * 1000000000 ^ bs.length
  | [], w, h, hw => by simp [Wl]
  | p :: r, w, h, hw => by
    obtain ⟨h1, h2, h3, h4⟩ := h p (List.mem_cons_self ..)
    have q1 := Wl_le (bs := r) (w := lcmI w p.1) (fun p hp => h p (List.mem_cons_of_mem _ hp)) (lcmI_pos hw h1)
    have q2 := lcmI_le hw h1
    have q3 : w * p.1 ≤ w * 1000000000 := Int.mul_le_mul_of_nonneg_left h2 (by omega)
    show Wl r (lcmI w p.1) ≤ _
    have q4 : lcmI w p.1 * 1000000000 ^ r.length ≤ w * 1000000000 * 1000000000 ^ r.length := Int.mul_le_mul_of_nonneg_right (by omega) (Int.pow_nonneg (by decide))
    have e : w * 1000000000 ^ (p :: r).length = w * 1000000000 * 1000000000 ^ r.length := by
      rw [List.length_cons, Int.pow_succ, Int.mul_assoc, Int.mul_comm (1000000000 : Int)]
    rw [e]
    exact Int.le_trans q1 q4
theorem Wl_pos : ∀ {bs : List (Int × Int)} {w : Int} (h : ∀ p ∈ bs, Ok p) (hw : 1 ≤ w), 1 ≤ Wl bs w
  | [], w, h, hw => hw
  | p :: r, w, h, hw => Wl_pos (bs := r) (fun p hp => h p (List.mem_cons_of_mem _ hp)) (lcmI_pos hw (h p (List.mem_cons_self ..)).1)
theorem Wl_big {bs : List (Int × Int)} (h : OkL bs) : Wl bs 1 < 2 ^ 8000 := by
  have h1 := Wl_le h.1 (w := 1) (by omega)
  have h2 : (1000000000 : Int) ^ bs.length ≤ 1000000000 ^ 14 := by
    obtain ⟨d, hd⟩ := Nat.exists_eq_add_of_le h.2
    rw [hd, Int.pow_add]
    have a : (1 : Int) ≤ 1000000000 ^ d := Int.pow_pos (by decide)
    have b : (0 : Int) ≤ 1000000000 ^ bs.length := Int.pow_nonneg (by decide)
    have := Int.mul_le_mul_of_nonneg_left a b
    omega
  have h3 : (1000000000 : Int) ^ 14 < 2 ^ 8000 := by decide +kernel
  omega
theorem addAt_len {W : Int} {f : List Int} {r : Row} : (addAt W f r).length = f.length := by simp [addAt]
theorem wp_sums {bs : List (Int × Int)} {s : Sto} (h : OkL bs) : wp (d_meeting_sums [mk bs] s) fun d s1 => s1 = s ∧ d = .lst (((rowsAll bs [((1, 0), 0)]).foldl (addAt (Wl bs 1)) (found0 bs.length)).map D.int) := by
  apply seal_new
  apply wp_run
  simp [b_meeting_sums, sp_round h.1, sp_size]
  refine ⟨by decide, by decide, ?_⟩
  obtain ⟨P, hP⟩ : ∃ P : List D → En → Sto → Prop, P = fun l ρ s1 => s1 = s ∧ ∃ (r : List (Int × Int)) (rows : List Row) (w : Int) (k : Nat) (x3 x4 x5 x6 x7 x8 : Option D), ρ = [some (mk bs), some (.int (Wl bs 1)), some (.lst (rows.map rowD)), x3, x4, x5, x6, x7, x8] ∧ l = r.map pD ∧ (∀ p ∈ r, Ok p) ∧ 1 ≤ w ∧ Wl r w = Wl bs 1 ∧
    (∀ q ∈ rows, RowOk w k q) ∧ rowsAll r rows = rowsAll bs [((1, 0), 0)] ∧ rows.length ≤ 2 ^ k ∧ k + r.length = bs.length := ⟨_, rfl⟩
  refine wps_forL P ?_ ?_ _ _ _ (by
    rw [hP]
    exact ⟨rfl, bs, [((1, 0), 0)], 1, 0, _, _, _, _, _, _, rfl, rfl, h.1, by omega, rfl, fun q hq => by simp at hq; subst hq; exact ⟨by simp, by simp, by simp⟩, rfl, by simp, by omega⟩)
  · intro d l ρ s1 hI
    rw [hP] at hI
    obtain ⟨rfl, r, rows, w, k, x3, x4, x5, x6, x7, x8, rfl, hl, hr, hw, e, hok, hall, hlen, hk⟩ := hI
    cases r with
    | nil => cases hl
    | cons p r =>
      cases hl
      obtain ⟨h1, h2, h3, h4⟩ := hr p (List.mem_cons_self ..)
      have hb := h.2
      have hk14 : k ≤ 13 := by simp at hk; omega
      have hpow : 2 ^ k ≤ 8192 := Nat.le_trans (Nat.pow_le_pow_right (by omega) hk14) (by decide)
      have hsz : 16777216 = sizeLine := by decide
      simp [wipeD]
      refine ⟨by omega, ?_⟩
      rw [lcL_map (cv := rowD) (fun q => .tup [optD (chF q.1 p), .int ((q.2 : Int) + 1)]) rows ?h]
      case h =>
        intro q hq
        have := hok q hq
        refine ⟨_, by simp [rowD]; rfl, rfl, ?_⟩
        apply wp_eq
        simp [sp_ch (p := q.1) (q := p) this.e h1 h2]
        decide
      simp
      refine ⟨by omega, ?_⟩
      rw [lcL_pure (fun q => (chF q.1 p).isSome) (fun q => .tup [optD (chF q.1 p), .int ((q.2 : Int) + 1)]) rows ?h2]
      case h2 =>
        intro q hq
        refine ⟨_, rfl, ?_, fun _ => ?_⟩
        · apply wp_eq
          simp
          cases chF q.1 p <;> simp [optD, pD]
        · apply wp_eq
          simp
      have hL := sumLen rows fun q => (chF q.1 p).isSome
      simp
      refine ⟨by omega, ?_⟩
      have hR := rowsF_D (rows := rows) (p := p)
      rw [hP, hR]
      refine ⟨rfl, r, rowsF rows p, lcmI w p.1, k + 1, _, _, _, _, _, _, rfl, rfl, fun p hp => hr p (List.mem_cons_of_mem _ hp), lcmI_pos hw h1, e, rowsF_ok hw h1 hok, hall, ?_, by simp at hk; omega⟩
      have := rowsF_len (rows := rows) (p := p)
      rw [Nat.pow_succ]; omega
  · intro ρ s1 hI
    rw [hP] at hI
    obtain ⟨rfl, r, rows, w, k, x3, x4, x5, x6, x7, x8, rfl, hl, hr, hw, e, hok, hall, hlen, hk⟩ := hI
    cases r with
    | cons p r => cases hl
    | nil =>
      have hall : rows = rowsAll bs [((1, 0), 0)] := hall
      have e : w = Wl bs 1 := e
      subst e
      have hk : k = bs.length := by simpa using hk
      subst hk
      have hmk : (∃ a, (∃ x, insOf (Str.ofString "Bells") s1 (mk bs) = some (a, x)) ∧ ¬Str.ofString "size" ∈ a) := ⟨["pairs"], ⟨_, by simp [mk, insOf]; rfl⟩, by decide⟩
      have hb := h.2
      have hsz : 16777216 = sizeLine := by decide
      simp [hmk, sp_size]
      refine ⟨by decide, by omega, by omega, by omega, ?_⟩
      have hrep : List.replicate (bs.length + 1) (D.int 0) = (found0 bs.length).map D.int := by simp [found0]
      rw [hrep]
      have hW := Wl_big h
      obtain ⟨P2, hP2⟩ : ∃ P2 : List D → En → Sto → Prop, P2 = fun l ρ s2 => ∃ (r : List Row) (f : List Int) (x2 x3 x5 x6 x7 x8 : Option D), s2 = s1 ++ [.lst (f.map D.int)] ∧ ρ = [some (mk bs), some (.int (Wl bs 1)), x2, x3, some (.loc s1.length), x5, x6, x7, x8] ∧ l = r.map rowD ∧
        (∀ q ∈ r, RowOk (Wl bs 1) bs.length q) ∧ f.length = bs.length + 1 ∧ r.foldl (addAt (Wl bs 1)) f = rows.foldl (addAt (Wl bs 1)) (found0 bs.length) := ⟨_, rfl⟩
      refine wps_forL P2 ?_ ?_ _ _ _ (by rw [hP2]; exact ⟨rows, _, _, _, _, _, _, _, rfl, rfl, rfl, hok, by simp [found0], rfl⟩)
      · intro d l ρ s2 hI
        rw [hP2] at hI
        obtain ⟨r, f, x2, x3, x5, x6, x7, x8, rfl, rfl, hl, hr, hf, hfold⟩ := hI
        cases r with
        | nil => cases hl
        | cons q r =>
          cases hl
          have hq := hr q (List.mem_cons_self ..)
          have hm := hq.m
          have hat : (f.map D.int)[q.2]? = some (D.int (f.getD q.2 0)) := by
            rw [List.getElem?_map, List.getD_eq_getElem?_getD, List.getElem?_eq_getElem (by omega)]; rfl
          have hdiv : DivOk (Wl bs 1) q.1.1 := divOk_of (by have := hq.e; omega) (by have := Int.le_of_dvd (by omega) hq.d; omega)
          simp [rowD, pD, atI_nat, hat, hdiv, ixN_nat, hf, show q.2 < bs.length + 1 by omega]
          rw [hP2]
          have hgd : f.getD q.2 0 = f[q.2]'(by omega) := by rw [List.getD_eq_getElem?_getD, List.getElem?_eq_getElem (by omega)]; rfl
          have hset : (f.map D.int).set q.2 (D.int (f[q.2]'(by omega) + Wl bs 1 / q.1.1)) = (addAt (Wl bs 1) f q).map D.int := by
            unfold addAt
            rw [hgd, List.map_set]
          rw [hset]
          exact ⟨r, addAt (Wl bs 1) f q, _, _, _, _, _, _, rfl, rfl, rfl, fun q hq => hr q (List.mem_cons_of_mem _ hq), by rw [addAt_len]; exact hf, hfold⟩
      · intro ρ s2 hI
        rw [hP2] at hI
        obtain ⟨r, f, x2, x3, x5, x6, x7, x8, rfl, rfl, hl, hr, hf, hfold⟩ := hI
        cases r with
        | cons p r => cases hl
        | nil =>
          simp
          rw [← hall, ← hfold]
          exact frz_lst (by simp) (by simp) (by simp)
end QS.K14
end

section
set_option Elab.async false
set_option linter.all false
set_option maxRecDepth 100000
set_option maxHeartbeats 1000000
namespace QS.K14
open PySem PySem.Spec PyProof.Rows L2 QS QS.MA
/-- how many of the bells ring -/
def rc (bs : List (Int × Int)) (h : Int) : Nat := match bs with
  | [] => 0
  | p :: r => rc r h + if p.1 ∣ h - p.2 then 1 else 0
theorem rc_le (bs : List (Int × Int)) (h : Int) : rc bs h ≤ bs.length := by
  induction bs with
  | nil => simp [rc]
  | cons p r ih => simp only [rc, List.length_cons]; split <;> omega
def cnt : List Row → Nat → Int → Nat
  | [], _, _ => 0
  | r :: t, j, h => cnt t j h + if r.2 = j ∧ r.1.1 ∣ h - r.1.2 then 1 else 0
theorem cnt_append (a b : List Row) (j : Nat) (h : Int) : cnt (a ++ b) j h = cnt a j h + cnt b j h := by
  induction a with
  | nil => simp [cnt]
  | cons r t ih => simp only [List.cons_append, cnt, ih]; omega
/-- a number in both -/
theorem chF_in {p q : Int × Int} (hp : 1 ≤ p.1) (hq : 1 ≤ q.1) (h : Int) : (∃ c, chF p q = some c ∧ c.1 ∣ h - c.2) ↔ (p.1 ∣ h - p.2 ∧ q.1 ∣ h - q.2) := by
  constructor
  · rintro ⟨c, hc, hd⟩
    have hm : IsMeet p q c := by
      unfold chF at hc
      split at hc
      · rename_i ex
        cases hc
        exact Classical.choose_spec ex
      · cases hc
    rw [hm.e] at hd
    constructor
    · have := Int.dvd_add (Int.dvd_trans (dvd_lcm_l (by omega) (by omega)) hd) hm.a
      rwa [show h - c.2 + (c.2 - p.2) = h - p.2 by omega] at this
    · have := Int.dvd_add (Int.dvd_trans (dvd_lcm_r (by omega) (by omega)) hd) hm.b
      rwa [show h - c.2 + (c.2 - q.2) = h - q.2 by omega] at this
  · rintro ⟨h1, h2⟩
    have hL := lcmI_pos hp hq
    have e0 := Int.emod_nonneg h (show lcmI p.1 q.1 ≠ 0 by omega)
    have e1 := Int.emod_lt_of_pos h (show 0 < lcmI p.1 q.1 by omega)
    have e2 := Int.emod_add_mul_ediv h (lcmI p.1 q.1)
    have hm : IsMeet p q (lcmI p.1 q.1, h % lcmI p.1 q.1) := by
      refine ⟨rfl, e0, e1, ?_, ?_⟩
      · show p.1 ∣ h % lcmI p.1 q.1 - p.2
        have := Int.dvd_sub h1 (Int.dvd_mul_of_dvd_left (c := h / lcmI p.1 q.1) (dvd_lcm_l (a := p.1) (b := q.1) (by omega) (by omega)))
        rwa [show h - p.2 - lcmI p.1 q.1 * (h / lcmI p.1 q.1) = h % lcmI p.1 q.1 - p.2 by omega] at this
      · show q.1 ∣ h % lcmI p.1 q.1 - q.2
        have := Int.dvd_sub h2 (Int.dvd_mul_of_dvd_left (c := h / lcmI p.1 q.1) (dvd_lcm_r (a := p.1) (b := q.1) (by omega) (by omega)))
        rwa [show h - q.2 - lcmI p.1 q.1 * (h / lcmI p.1 q.1) = h % lcmI p.1 q.1 - q.2 by omega] at this
    refine ⟨_, chF_some hp hq hm, ?_⟩
    show lcmI p.1 q.1 ∣ h - h % lcmI p.1 q.1
    exact ⟨h / lcmI p.1 q.1, by omega⟩
theorem cnt_fresh {p : Int × Int} (hp : 1 ≤ p.1) (j : Nat) (h : Int) : ∀ {rows : List Row} (hr : ∀ r ∈ rows, 1 ≤ r.1.1), cnt (rows.filterMap fun r => (chF r.1 p).map fun c => (c, r.2 + 1)) (j + 1) h = if p.1 ∣ h - p.2 then cnt rows j h else 0
  | [], _ => by simp [cnt]
  | r :: t, hr => by
    have ih := cnt_fresh hp j h (rows := t) fun q hq => hr q (List.mem_cons_of_mem _ hq)
    have h1 := chF_in (hr r (List.mem_cons_self ..)) hp h
    cases c : chF r.1 p with
    | none =>
      have h2 : ¬ (r.1.1 ∣ h - r.1.2 ∧ p.1 ∣ h - p.2) := fun z => by
        obtain ⟨c', e, _⟩ := h1.mpr z
        rw [c] at e; cases e
      simp only [List.filterMap_cons, c, Option.map_none, ih, cnt]
      by_cases hp2 : p.1 ∣ h - p.2
      · have : ¬ r.1.1 ∣ h - r.1.2 := fun z => h2 ⟨z, hp2⟩
        simp [hp2, this]
      · simp [hp2]
    | some m =>
      have h2 : m.1 ∣ h - m.2 ↔ (r.1.1 ∣ h - r.1.2 ∧ p.1 ∣ h - p.2) := by
        rw [← h1, c]
        exact ⟨fun z => ⟨m, rfl, z⟩, fun ⟨c', e, z⟩ => by cases e; exact z⟩
      simp only [List.filterMap_cons, c, Option.map_some, ih, cnt, h2]
      by_cases hp2 : p.1 ∣ h - p.2
      · simp [hp2]
      · simp [hp2]
theorem cnt_fresh0 {p : Int × Int} (h : Int) : ∀ {rows : List Row}, cnt (rows.filterMap fun r => (chF r.1 p).map fun c => (c, r.2 + 1)) 0 h = 0
  | [] => rfl
  | r :: t => by
    have ih := cnt_fresh0 (p := p) h (rows := t)
    cases c : chF r.1 p with
    | none => simp only [List.filterMap_cons, c, Option.map_none, ih]
    | some m => simp only [List.filterMap_cons, c, Option.map_some, cnt, ih]; simp
theorem cnt_all : ∀ {bs : List (Int × Int)} {rows : List Row} {g : Int → Nat} (hb : ∀ p ∈ bs, 1 ≤ p.1) (hr : ∀ r ∈ rows, 1 ≤ r.1.1) (hc : ∀ j h, cnt rows j h = binom (g h) j), ∀ j h, cnt (rowsAll bs rows) j h = binom (g h + rc bs h) j
  | [], rows, g, hb, hr, hc, j, h => by simpa [rowsAll, rc] using hc j h
  | p :: r, rows, g, hb, hr, hc, j, h => by
    have hp := hb p (List.mem_cons_self ..)
    have step : ∀ j h, cnt (rowsF rows p) j h = binom (g h + if p.1 ∣ h - p.2 then 1 else 0) j := fun j h => by
      unfold rowsF
      rw [cnt_append]
      cases j with
      | zero => rw [cnt_fresh0, hc]; simp
      | succ j =>
        rw [cnt_fresh hp j h hr, hc, hc]
        by_cases z : p.1 ∣ h - p.2
        · simp only [z, if_true]; rw [binom_succ]; omega
        · simp [z]
    have hr2 : ∀ q ∈ rowsF rows p, 1 ≤ q.1.1 := fun q hq => by
      unfold rowsF at hq
      rcases List.mem_append.mp hq with hq | hq
      · exact hr q hq
      · obtain ⟨r0, h0, h1⟩ := List.mem_filterMap.mp hq
        obtain ⟨c, h2, rfl⟩ := Option.map_eq_some_iff.mp h1
        have hm : IsMeet r0.1 p c := by
          unfold chF at h2
          split at h2
          · rename_i ex
            cases h2
            exact Classical.choose_spec ex
          · cases h2
        show 1 ≤ c.1
        rw [hm.e]; exact lcmI_pos (hr r0 h0) hp
    have := cnt_all (bs := r) (rows := rowsF rows p) (g := fun h => g h + if p.1 ∣ h - p.2 then 1 else 0) (fun q hq => hb q (List.mem_cons_of_mem _ hq)) hr2 step j h
    show cnt (rowsAll r (rowsF rows p)) j h = _
    rw [this]
    congr 1
    simp only [rc]
    omega
/-- the sum of the rows of j bells -/
def fs (W : Int) : List Row → Nat → Int
  | [], _ => 0
  | r :: t, j => fs W t j + if r.2 = j then W / r.1.1 else 0
theorem SH_add {c : Int} {n : Nat} {f g : Int → Int} : SH c n (fun h => f h + g h) = SH c n f + SH c n g := sm_add n
theorem SH_zero {c : Int} {n : Nat} : SH c n (fun _ => 0) = 0 := sm_zero n
theorem SH_congr {c : Int} {n : Nat} {f g : Int → Int} (h : ∀ x, f x = g x) : SH c n f = SH c n g := sm_congr fun i _ => h _
theorem ring_W {W e a : Int} (hW : 1 ≤ W) (he : 1 ≤ e) (hd : e ∣ W) (c : Int) : SH c W.toNat (fun h => if e ∣ h - a then 1 else 0) = W / e := by
  obtain ⟨q, rfl⟩ := hd
  have hq : 0 ≤ q := by
    by_cases z : 0 ≤ q
    · exact z
    · have := Int.mul_le_mul_of_nonneg_left (show q ≤ -1 by omega) (show 0 ≤ e by omega)
      omega
  have := ring_count (e := e) (a := a) (by omega) q.toNat c
  rw [Int.mul_ediv_cancel_left _ (by omega : e ≠ 0)]
  rw [show (e * q).toNat = e.toNat * q.toNat by rw [Int.toNat_mul (by omega) hq]]
  rw [this]
  omega
theorem fs_eq {W : Int} (hW : 1 ≤ W) (j : Nat) : ∀ {rows : List Row} (h : ∀ r ∈ rows, 1 ≤ r.1.1 ∧ r.1.1 ∣ W), fs W rows j = SH 0 W.toNat fun h => (cnt rows j h : Int)
  | [], _ => by simp only [fs, cnt]; exact SH_zero.symm
  | r :: t, h => by
    have ih := fs_eq hW j (rows := t) fun q hq => h q (List.mem_cons_of_mem _ hq)
    obtain ⟨h1, h2⟩ := h r (List.mem_cons_self ..)
    simp only [fs]
    rw [ih]
    by_cases e : r.2 = j
    · rw [if_pos e, ← ring_W (a := r.1.2) hW h1 h2 0, ← SH_add]
      refine SH_congr fun x => ?_
      simp only [cnt, e, true_and]
      push_cast
      split <;> rfl
    · rw [if_neg e, Int.add_zero]
      refine SH_congr fun x => ?_
      simp [cnt, e]
theorem fold_at {W : Int} {n : Nat} : ∀ {rows : List Row} {f : List Int} (h : ∀ r ∈ rows, r.2 ≤ n) (hf : f.length = n + 1) (j : Nat) (hj : j ≤ n), (rows.foldl (addAt W) f).getD j 0 = f.getD j 0 + fs W rows j
  | [], f, h, hf, j, hj => by simp [fs]
  | r :: t, f, h, hf, j, hj => by
    have ih := fold_at (W := W) (n := n) (rows := t) (f := addAt W f r) (fun q hq => h q (List.mem_cons_of_mem _ hq)) (by rw [addAt_len]; exact hf) j hj
    rw [List.foldl_cons, ih]
    have hr := h r (List.mem_cons_self ..)
    simp only [fs]
    have : (addAt W f r).getD j 0 = f.getD j 0 + if r.2 = j then W / r.1.1 else 0 := by
      unfold addAt
      simp only [List.getD_eq_getElem?_getD]
      by_cases e : r.2 = j
      · subst e
        rw [List.getElem?_set_self (by omega)]
        simp
      · rw [List.getElem?_set_ne e]
        simp [e]
    rw [this]
    omega
theorem fold_len {W : Int} : ∀ {rows : List Row} {f : List Int}, (rows.foldl (addAt W) f).length = f.length
  | [], f => rfl
  | r :: t, f => by rw [List.foldl_cons, fold_len, addAt_len]
theorem rowsAll_ok : ∀ {bs : List (Int × Int)} {rows : List Row} {w : Int} {k : Nat} (hb : ∀ p ∈ bs, Ok p) (hw : 1 ≤ w) (h : ∀ r ∈ rows, RowOk w k r), ∀ r ∈ rowsAll bs rows, RowOk (Wl bs w) (k + bs.length) r
  | [], rows, w, k, hb, hw, h => by simpa [rowsAll, Wl] using h
  | p :: t, rows, w, k, hb, hw, h => by
    have hp := hb p (List.mem_cons_self ..)
    have := rowsAll_ok (bs := t) (fun q hq => hb q (List.mem_cons_of_mem _ hq)) (lcmI_pos hw hp.1) (rowsF_ok hw hp.1 h)
    intro r hr
    have q := this r hr
    exact ⟨q.e, q.d, by have := q.m; simp; omega⟩
abbrev init : List Row := [((1, 0), 0)]
theorem init_ok : ∀ r ∈ init, RowOk 1 0 r := fun q hq => by simp at hq; subst hq; exact ⟨by simp, by simp, by simp⟩
/-- the sums -/
def Sj (bs : List (Int × Int)) (j : Nat) : Int := SH 0 (Wl bs 1).toNat fun h => binom (rc bs h) j
theorem sums_eq {bs : List (Int × Int)} (h : ∀ p ∈ bs, Ok p) : (rowsAll bs init).foldl (addAt (Wl bs 1)) (found0 bs.length) = (List.range (bs.length + 1)).map (Sj bs) := by
  have hok := rowsAll_ok h (by omega : (1 : Int) ≤ 1) init_ok
  apply List.ext_getElem
  · rw [fold_len]; simp [found0]
  · intro j h1 h2
    have hj : j ≤ bs.length := by simp at h2; omega
    have e := fold_at (W := Wl bs 1) (n := bs.length) (rows := rowsAll bs init) (f := found0 bs.length) (fun r hr => by have := (hok r hr).m; omega) (by simp [found0]) j hj
    rw [List.getD_eq_getElem?_getD, List.getElem?_eq_getElem h1] at e
    have e0 : (found0 bs.length).getD j 0 = 0 := by simp [found0, List.getD_eq_getElem?_getD, List.getElem?_replicate, show j < bs.length + 1 by omega]
    rw [e0, fs_eq (Wl_pos h (by omega)) j (fun r hr => ⟨(hok r hr).e, (hok r hr).d⟩)] at e
    simp at e
    rw [e]
    simp only [List.getElem_map, List.getElem_range]
    unfold Sj
    refine SH_congr fun x => ?_
    have := cnt_all (bs := bs) (rows := init) (g := fun _ => 0) (fun p hp => (h p hp).1) (fun r hr => (init_ok r hr).e) (fun j h => by cases j <;> simp [cnt, binom]) j x
    rw [this]
    simp
end QS.K14
end

section
set_option Elab.async false
set_option linter.all false
set_option maxRecDepth 100000
set_option maxHeartbeats 1000000
namespace QS.K14
open PySem PySem.Spec PyProof.Rows L2 QS QS.MA
def sumL (bs : List (Int × Int)) : List Int := (List.range (bs.length + 1)).map (Sj bs)
theorem sumL_len {bs : List (Int × Int)} : (sumL bs).length = bs.length + 1 := by simp [sumL]
theorem sumL_at {bs : List (Int × Int)} {j : Nat} (h : j ≤ bs.length) : (sumL bs)[j]? = some (Sj bs j) := by simp [sumL, show j < bs.length + 1 by omega]
theorem sp_sums {bs : List (Int × Int)} {s : Sto} (h : OkL bs) : d_meeting_sums [mk bs] s = .ok (.lst ((sumL bs).map D.int)) s := by
  obtain ⟨d, s1, e, rfl, rfl⟩ := wp_get (wp_sums (s := s) h)
  rw [e, sums_eq h.1]
  rfl
/-- how many hours of a round have just k bells that ring -/
def Nk (bs : List (Int × Int)) (k : Nat) : Int := SH 0 (Wl bs 1).toNat fun h => if rc bs h = k then 1 else 0
def cntL (bs : List (Int × Int)) : List Int := (List.range (bs.length + 1)).map (Nk bs)
theorem SH_mul {c x : Int} {n : Nat} {f : Int → Int} : SH c n (fun h => x * f h) = x * SH c n f := sm_mul n
theorem sum_parts (bs : List (Int × Int)) (k : Nat) : sm (bs.length + 1) (fun j => (binom j k : Int) * Sj bs j * (1 - 2 * (((j : Int) - k) % 2))) = Nk bs k := by
  have e1 : sm (bs.length + 1) (fun j => (binom j k : Int) * Sj bs j * (1 - 2 * (((j : Int) - k) % 2))) = sm (bs.length + 1) (fun j => SH 0 (Wl bs 1).toNat fun h => gk j k * binom (rc bs h) j) := by
    refine sm_congr fun j _ => ?_
    rw [SH_mul]
    unfold gk sg Sj
    rw [Int.mul_assoc, Int.mul_assoc, Int.mul_comm (SH _ _ _)]
  rw [e1]
  unfold SH
  rw [sm_swap]
  unfold Nk SH
  refine sm_congr fun i _ => ?_
  exact inc_exc _ _ _ (rc_le _ _)
theorem binom_le : ∀ n k : Nat, binom n k ≤ 2 ^ n
  | n, 0 => by rw [binom_zero]; exact Nat.one_le_two_pow
  | 0, k + 1 => by simp [binom]
  | n + 1, k + 1 => by
    have h1 := binom_le n k
    have h2 := binom_le n (k + 1)
    rw [binom_succ, Nat.pow_succ]; omega
theorem drop_sum (f : Nat → Int) (m k : Nat) (hk : k ≤ m) (h : ∀ j, j < k → f j = 0) : (((List.range m).map f).drop k).sum = sm m f := by
  obtain ⟨d, rfl⟩ := Nat.exists_eq_add_of_le hk
  rw [← sum_range, List.range_add, List.map_append, List.drop_append]
  have h0 : ((List.range k).map f).sum = 0 := by
    rw [sum_range, sm_congr (g := fun _ => 0) h, sm_zero]
  have hd : ((List.range k).map f).drop k = [] := List.drop_of_length_le (by simp)
  rw [hd, MA.sum_append, MA.sum_append, h0]
  simp
theorem sp_counts {bs : List (Int × Int)} {s : Sto} (h : OkL bs) : d_counts [mk bs] s = .ok (.tup ((cntL bs).map D.int)) s := by
  apply wp_eq
  apply seal_new
  apply wp_run
  have hb := h.2
  have hsz : 16777216 = sizeLine := by decide
  simp [b_counts, sp_sums h, sumL_len]
  refine ⟨by decide, rngOk_of (by omega) (by omega), ?_⟩
  obtain ⟨P, hP⟩ : ∃ P : List D → En → Sto → Prop, P = fun l ρ s1 => ∃ (k n : Nat) (acc : List Int) (x1 x4 x5 : Option D), s1 = s ++ [.lst (acc.map D.int)] ∧ ρ = [some (mk bs), x1, some (.lst ((sumL bs).map D.int)), some (.loc s.length), x4, x5] ∧ l = rngD k n ∧ k + n = bs.length + 1 ∧ acc = (List.range k).map (Nk bs) := ⟨_, rfl⟩
  refine wps_forL P ?_ ?_ _ _ _ (by rw [hP]; exact ⟨0, _, [], _, _, _, rfl, rfl, rfl, by omega, rfl⟩)
  · intro d l ρ s1 hI
    rw [hP] at hI
    obtain ⟨k, n, acc, x1, x4, x5, rfl, rfl, hl, hk, hacc⟩ := hI
    cases n with
    | zero => cases hl
    | succ n =>
      rw [rngD_succ] at hl
      cases hl
      simp [wipeD, sumL_len, rngD0]
      refine ⟨rngOk_of (by omega) (by omega), by omega, ?_⟩
      rw [lcL_map (cv := fun i : Nat => D.int (i : Int)) (fun j => D.int ((binom j k : Int) * Sj bs j * (1 - 2 * (((j : Int) - k) % 2)))) (List.range (bs.length + 1)) ?h]
      case h =>
        intro j hj
        have hj : j < bs.length + 1 := List.mem_range.mp hj
        refine ⟨_, rfl, rfl, ?_⟩
        apply wp_eq
        have hbin : (binom j k : Int) < 2 ^ 64 := by
          have h1 := binom_le j k
          have h2 : 2 ^ j ≤ 2 ^ 14 := Nat.pow_le_pow_right (by omega) (by omega)
          have h3 : (binom j k : Int) ≤ (2 ^ 14 : Nat) := by exact_mod_cast Nat.le_trans h1 h2
          have h4 : ((2 ^ 14 : Nat) : Int) < 2 ^ 64 := by decide
          omega
        simp [sp_choices (show j ≤ 1000 by omega) (show k ≤ 1000 by omega), atI_nat, sumL_at (show j ≤ bs.length by omega)]
        exact ⟨mok (.inl ⟨by omega, hbin⟩), mok (.inl (by decide)), mok (.inr ⟨by omega, by omega⟩)⟩
      simp
      refine ⟨tyB_loc (l := acc.map D.int) (by simp), ?_⟩
      have e1 : (cut ((List.range (bs.length + 1)).map (fun j : Nat => D.int ((binom j k : Int) * Sj bs j * (1 - 2 * (((j : Int) - k) % 2))))) (some (k : Int)) none) = (((List.range (bs.length + 1)).map (fun j : Nat => (binom j k : Int) * Sj bs j * (1 - 2 * (((j : Int) - k) % 2)))).drop k).map D.int := by
        rw [cut_from (by simp; omega), List.map_drop]
        simp [Function.comp_def]
      have e2 := drop_sum (fun j : Nat => (binom j k : Int) * Sj bs j * (1 - 2 * (((j : Int) - k) % 2))) (bs.length + 1) k (by omega) (fun j hj => by simp [binom_big hj])
      rw [e1, wpv_sumAL, e2, sum_parts]
      have hal : acc.length = k := by rw [hacc]; simp
      simp
      refine ⟨by omega, ?_⟩
      rw [hP]
      refine ⟨k + 1, n, acc ++ [Nk bs k], _, _, _, by simp, rfl, by push_cast; rfl, by omega, ?_⟩
      rw [hacc, List.range_succ, List.map_append]
      rfl
  · intro ρ s1 hI
    rw [hP] at hI
    obtain ⟨k, n, acc, x1, x4, x5, rfl, rfl, hl, hk, hacc⟩ := hI
    cases n with
    | succ n => rw [rngD_succ] at hl; cases hl
    | zero =>
      simp
      have : k = bs.length + 1 := by omega
      subst this
      rw [hacc]
      exact frz_closed (by rw [closed_tup]; exact closedL_ints)
/-! share -/
def shareF (bs : List (Int × Int)) : Int × Int := if 0 < Nk bs 0 then (Nk bs 0 / (Int.gcd (Wl bs 1) (Nk bs 0) : Int), Wl bs 1 / (Int.gcd (Wl bs 1) (Nk bs 0) : Int)) else (0, 1)
theorem Nk_nonneg (bs : List (Int × Int)) (k : Nat) : 0 ≤ Nk bs k ∧ Nk bs k ≤ (Wl bs 1).toNat := by
  have key : ∀ n : Nat, 0 ≤ sm n (fun i => if rc bs (0 + i) = k then 1 else 0) ∧ sm n (fun i => if rc bs (0 + i) = k then 1 else 0) ≤ n := fun n => by
    induction n with
    | zero => simp [sm]
    | succ n ih => simp only [sm]; split <;> omega
  exact key _
theorem cntL_zero (bs : List (Int × Int)) : cntL bs = Nk bs 0 :: (List.range bs.length).map fun k => Nk bs (k + 1) := by
  unfold cntL
  rw [List.range_succ_eq_map]
  simp [Function.comp_def]
theorem sp_share {bs : List (Int × Int)} {s : Sto} (h : OkL bs) : d_share [mk bs] s = .ok (pD (shareF bs)) s := by
  apply wp_eq
  apply seal_pure
  apply wp_run
  have hW := Wl_pos h.1 (w := 1) (by omega)
  have hWb := Wl_big h
  obtain ⟨h0, h1⟩ := Nk_nonneg bs 0
  simp [b_share, sp_counts h, sp_round h.1, cntL_zero]
  by_cases c : 0 < Nk bs 0
  · have hg := gcd_le_r (a := Wl bs 1) (b := Nk bs 0) (by omega)
    simp [c, sp_common (show 0 ≤ Wl bs 1 by omega) h0]
    exact ⟨divOk_of hg.2 (by omega), divOk_of hg.2 (by omega), by decide, by simp [shareF, c, pD]⟩
  · have e : Nk bs 0 = 0 := by omega
    simp [c]
    refine ⟨divOk_of (by omega) hWb, divOk_of (by omega) hWb, by decide, ?_⟩
    simp [shareF, e, pD]
    exact Int.ediv_self (by omega)
end QS.K14
end

section
set_option Elab.async false
set_option linter.all false
set_option maxRecDepth 100000
set_option maxHeartbeats 1000000
namespace QS.K14
open PySem PySem.Spec PyProof.Rows L2 QS QS.MA
/-! ### meeting -/
theorem hmk {bs : List (Int × Int)} {s : Sto} : (∃ a, (∃ x, insOf (Str.ofString "Bells") s (mk bs) = some (a, x)) ∧ ¬Str.ofString "size" ∈ a) := ⟨["pairs"], ⟨_, by simp [mk, insOf]; rfl⟩, by decide⟩
def meets (p q : Int × Int) : Bool := decide ((q.2 - p.2) % (Int.gcd p.1 q.1 : Int) = 0)
theorem sp_ever_meet {p q : Int × Int} {s : Sto} (hp : Ok p) (hq : Ok q) : d_ever_meet [pD p, pD q] s = .ok (.bl (meets p q)) s := by
  apply wp_eq
  apply seal_pure
  apply wp_run
  obtain ⟨h1, h2, h3, h4⟩ := hp
  obtain ⟨g1, g2, g3, g4⟩ := hq
  have hg := gcd_le_r (a := p.1) g1
  simp [b_ever_meet, pD, sp_common (show 0 ≤ p.1 by omega) (show 0 ≤ q.1 by omega), meets]
  omega
theorem bez {a m : Int} (hm : 1 ≤ m) (hm2 : m ≤ 1000000000) : ∃ r, m ∣ a * r - Int.gcd a m := by
  obtain ⟨d0, s0, e0, _, r, rfl, _, _, hr⟩ := wp_get (wp_inverse (a := a) (m := m) (s := []) hm hm2)
  exact ⟨r, hr⟩
/-- two progressions have a number in common just if .. -/
theorem two_meet {p q : Int × Int} (hq : 1 ≤ q.1) (hq2 : q.1 ≤ 1000000000) : (∃ h, p.1 ∣ h - p.2 ∧ q.1 ∣ h - q.2) ↔ (Int.gcd p.1 q.1 : Int) ∣ q.2 - p.2 := by
  constructor
  · rintro ⟨h, h1, h2⟩
    have a1 : (Int.gcd p.1 q.1 : Int) ∣ h - p.2 := Int.dvd_trans (Int.gcd_dvd_left ..) h1
    have a2 : (Int.gcd p.1 q.1 : Int) ∣ h - q.2 := Int.dvd_trans (Int.gcd_dvd_right ..) h2
    have := Int.dvd_sub a1 a2
    rwa [show h - p.2 - (h - q.2) = q.2 - p.2 by omega] at this
  · rintro ⟨u, hu⟩
    obtain ⟨r, hr⟩ := bez (a := p.1) hq hq2
    refine ⟨p.2 + p.1 * (r * u), ?_, ?_⟩
    · rw [show p.2 + p.1 * (r * u) - p.2 = p.1 * (r * u) by omega]; exact Int.dvd_mul_right ..
    · have := Int.dvd_mul_of_dvd_left (c := u) hr
      rw [Int.sub_mul, Int.mul_assoc, ← hu] at this
      rwa [show p.2 + p.1 * (r * u) - q.2 = p.1 * (r * u) - (q.2 - p.2) by omega]
theorem meets_iff {p q : Int × Int} (hq : Ok q) : meets p q = true ↔ ∃ h, p.1 ∣ h - p.2 ∧ q.1 ∣ h - q.2 := by
  rw [two_meet hq.1 hq.2.1]
  unfold meets
  rw [decide_eq_true_iff]
  exact Int.dvd_iff_emod_eq_zero.symm
theorem chF_meet' {p q c : Int × Int} (hc : chF p q = some c) : IsMeet p q c := by
  unfold chF at hc
  split at hc
  · rename_i ex
    cases hc
    exact Classical.choose_spec ex
  · cases hc
/-! all of some -/
noncomputable def allF (c : Option (Int × Int)) : List (Int × Int) → Option (Int × Int)
  | [] => c
  | p :: r => allF (c.bind fun x => chF x p) r
theorem sp_all_of {bs : List (Int × Int)} {s : Sto} (hb : ∀ p ∈ bs, Ok p) : d_all_of [.lst (bs.map pD)] s = .ok (optD (allF (some (1, 0)) bs)) s := by
  apply wp_eq
  apply seal_pure
  apply wp_run
  have h2 : 2 ≤ sizeLine := by decide
  simp [b_all_of, h2]
  obtain ⟨P, hP⟩ : ∃ P : List D → En → Sto → Prop, P = fun l ρ s1 => s1 = s ∧ ∃ (r : List (Int × Int)) (c : Option (Int × Int)) (a b : Option D), ρ = [a, some (optD c), b] ∧ l = r.map pD ∧ (∀ p ∈ r, Ok p) ∧ (∀ x, c = some x → 1 ≤ x.1) ∧ allF c r = allF (some (1, 0)) bs := ⟨_, rfl⟩
  refine wps_forL P ?_ ?_ _ _ _ (by rw [hP]; exact ⟨rfl, bs, some (1, 0), _, _, rfl, rfl, hb, fun x hx => (by cases hx; decide), rfl⟩)
  · intro d l ρ s1 hI
    rw [hP] at hI
    obtain ⟨rfl, r, c, a, b, rfl, hl, hr, hc, e⟩ := hI
    cases r with
    | nil => cases hl
    | cons p r =>
      cases hl
      have hp := hr p (List.mem_cons_self ..)
      cases c with
      | none =>
        simp [optD]
        rw [hP]
        exact ⟨rfl, r, none, _, _, rfl, rfl, fun p hp => hr p (List.mem_cons_of_mem _ hp), fun x hx => (by cases hx), e⟩
      | some x =>
        have hx := hc x rfl
        have e1 : optD (some x) = pD x := rfl
        have e2 : isNon (pD x) = false := rfl
        simp [e1, e2, sp_ch hx hp.1 hp.2.1]
        rw [hP]
        refine ⟨rfl, r, chF x p, _, _, rfl, rfl, fun p hp => hr p (List.mem_cons_of_mem _ hp), fun y hy => ?_, e⟩
        have M := chF_meet' hy
        rw [M.e]
        exact lcmI_pos hx hp.1
  · intro ρ s1 hI
    rw [hP] at hI
    obtain ⟨rfl, r, c, a, b, rfl, hl, hr, hc, e⟩ := hI
    cases r with
    | cons p r => cases hl
    | nil =>
      have e : c = allF (some (1, 0)) bs := e
      simp [e]
      cases allF (some (1, 0)) bs <;> simp [optD]
end QS.K14
end

section
set_option Elab.async false
set_option linter.all false
set_option maxRecDepth 100000
set_option maxHeartbeats 1000000
namespace QS.K14
open PySem PySem.Spec PyProof.Rows L2 QS QS.MA
/-- an hour at which all ring -/
def Ring (bs : List (Int × Int)) (h : Int) : Prop := ∀ p ∈ bs, p.1 ∣ h - p.2
theorem allF_none : ∀ bs : List (Int × Int), allF none bs = none
  | [] => rfl
  | p :: r => allF_none r
theorem allF_some : ∀ {bs : List (Int × Int)} {c m : Int × Int} (hb : ∀ p ∈ bs, Ok p) (hc : 1 ≤ c.1 ∧ 0 ≤ c.2 ∧ c.2 < c.1) (e : allF (some c) bs = some m), m.1 = Wl bs c.1 ∧ 0 ≤ m.2 ∧ m.2 < m.1 ∧ ∀ h, m.1 ∣ h - m.2 ↔ (c.1 ∣ h - c.2 ∧ Ring bs h)
  | [], c, m, hb, hc, e => by
    cases e
    exact ⟨rfl, hc.2.1, hc.2.2, fun h => ⟨fun z => ⟨z, fun p hp => nomatch hp⟩, fun z => z.1⟩⟩
  | p :: r, c, m, hb, hc, e => by
    have hp := hb p (List.mem_cons_self ..)
    have e : allF (chF c p) r = some m := e
    cases q : chF c p with
    | none => rw [q, allF_none] at e; cases e
    | some x =>
      rw [q] at e
      have M := chF_meet' q
      have hx : 1 ≤ x.1 := by rw [M.e]; exact lcmI_pos hc.1 hp.1
      obtain ⟨h1, h2, h3, h4⟩ := allF_some (fun q hq => hb q (List.mem_cons_of_mem _ hq)) ⟨hx, M.lo, M.hi⟩ e
      refine ⟨by rw [h1, M.e]; rfl, h2, h3, fun h => ?_⟩
      rw [h4]
      have := chF_in hc.1 hp.1 h
      rw [q] at this
      constructor
      · rintro ⟨a, b⟩
        obtain ⟨a1, a2⟩ := this.mp ⟨x, rfl, a⟩
        refine ⟨a1, fun t ht => ?_⟩
        rcases List.mem_cons.mp ht with rfl | ht
        · exact a2
        · exact b t ht
      · rintro ⟨a, b⟩
        obtain ⟨x', e', z⟩ := this.mpr ⟨a, b p (List.mem_cons_self ..)⟩
        cases e'
        exact ⟨z, fun t ht => b t (List.mem_cons_of_mem _ ht)⟩
theorem allF_ex : ∀ {bs : List (Int × Int)} {c : Int × Int} (hb : ∀ p ∈ bs, Ok p) (hc : 1 ≤ c.1) {h : Int} (h1 : c.1 ∣ h - c.2) (h2 : Ring bs h), ∃ m, allF (some c) bs = some m
  | [], c, hb, hc, h, h1, h2 => ⟨c, rfl⟩
  | p :: r, c, hb, hc, h, h1, h2 => by
    have hp := hb p (List.mem_cons_self ..)
    obtain ⟨x, q, z⟩ := (chF_in hc hp.1 h).mpr ⟨h1, h2 p (List.mem_cons_self ..)⟩
    have M := chF_meet' q
    have hx : 1 ≤ x.1 := by rw [M.e]; exact lcmI_pos hc hp.1
    obtain ⟨m, hm⟩ := allF_ex (bs := r) (fun q hq => hb q (List.mem_cons_of_mem _ hq)) hx z fun t ht => h2 t (List.mem_cons_of_mem _ ht)
    refine ⟨m, ?_⟩
    show allF (chF c p) r = some m
    rw [q]
    exact hm
/-- the least hour from 0 on at which all ring -/
noncomputable def togF (bs : List (Int × Int)) : Option Int := (allF (some (1, 0)) bs).map (·.2)
theorem togF_some {bs : List (Int × Int)} {h : Int} (hb : ∀ p ∈ bs, Ok p) : togF bs = some h ↔ 0 ≤ h ∧ h < Wl bs 1 ∧ Ring bs h := by
  constructor
  · intro e
    obtain ⟨m, h1, rfl⟩ := Option.map_eq_some_iff.mp e
    obtain ⟨a1, a2, a3, a4⟩ := allF_some hb ⟨by decide, by decide, by decide⟩ h1
    exact ⟨a2, by rw [← a1]; exact a3, ((a4 m.2).mp (by simp)).2⟩
  · rintro ⟨h0, h1, h2⟩
    obtain ⟨m, e⟩ := allF_ex (c := (1, 0)) hb (by decide) (by simp) h2
    obtain ⟨a1, a2, a3, a4⟩ := allF_some hb ⟨by decide, by decide, by decide⟩ e
    have d := (a4 h).mpr ⟨by simp, h2⟩
    unfold togF
    rw [e]
    show some m.2 = some h
    congr 1
    rw [← a1] at h1
    have e1 : (h - m.2) % m.1 = 0 := Int.emod_eq_zero_of_dvd d
    obtain ⟨k, hk⟩ := d
    have : k = 0 := by
      by_cases c : 1 ≤ k
      · have := Int.mul_le_mul_of_nonneg_left c (show 0 ≤ m.1 by omega); omega
      · by_cases c2 : k ≤ -1
        · have := Int.mul_le_mul_of_nonneg_left c2 (show 0 ≤ m.1 by omega); omega
        · omega
    rw [this] at hk
    omega
theorem togF_none {bs : List (Int × Int)} (hb : ∀ p ∈ bs, Ok p) : togF bs = none ↔ ∀ h, ¬ Ring bs h := by
  constructor
  · intro e h hh
    obtain ⟨m, e2⟩ := allF_ex (c := (1, 0)) hb (by decide) (by simp) hh
    unfold togF at e
    rw [e2] at e
    cases e
  · intro hn
    cases e : togF bs with
    | none => rfl
    | some h => exact absurd ((togF_some hb).mp e).2.2 (hn h)
theorem dist2 {e a b d : Int} (h1 : (Int.gcd e a : Int) ∣ d) (h2 : (Int.gcd e b : Int) ∣ d) : (Int.gcd e (Int.lcm a b) : Int) ∣ d := by
  have nat : ∀ e a b D : Nat, Nat.gcd e a ∣ D → Nat.gcd e b ∣ D → Nat.gcd e (Nat.lcm a b) ∣ D := fun e a b D h1 h2 => by
    have hg1 : Nat.gcd e (Nat.lcm a b) ∣ e := Nat.gcd_dvd_left ..
    have hg2 : Nat.gcd e (Nat.lcm a b) ∣ Nat.lcm a b := Nat.gcd_dvd_right ..
    generalize Nat.gcd e (Nat.lcm a b) = g at *
    have hu : Nat.gcd g a ∣ D := Nat.dvd_trans (Nat.dvd_gcd (Nat.dvd_trans (Nat.gcd_dvd_left ..) hg1) (Nat.gcd_dvd_right ..)) h1
    have hv : Nat.gcd g b ∣ D := Nat.dvd_trans (Nat.dvd_gcd (Nat.dvd_trans (Nat.gcd_dvd_left ..) hg1) (Nat.gcd_dvd_right ..)) h2
    refine Nat.dvd_trans ?_ (Nat.lcm_dvd hu hv)
    have hua : Nat.gcd g a ∣ a := Nat.gcd_dvd_right ..
    have hvb : Nat.gcd g b ∣ b := Nat.gcd_dvd_right ..
    have hug : Nat.gcd g a ∣ g := Nat.gcd_dvd_left ..
    have w1 : Nat.gcd (Nat.gcd g a) (Nat.gcd g b) ∣ a := Nat.dvd_trans (Nat.gcd_dvd_left ..) hua
    have w2 : Nat.gcd (Nat.gcd g a) (Nat.gcd g b) ∣ b := Nat.dvd_trans (Nat.gcd_dvd_right ..) hvb
    have key : g * Nat.gcd (Nat.gcd g a) (Nat.gcd g b) ∣ Nat.gcd g a * Nat.gcd g b := by
      have e1 : Nat.gcd g a * Nat.gcd g b = Nat.gcd (g * Nat.gcd g b) (a * Nat.gcd g b) := (Nat.gcd_mul_right ..).symm
      rw [e1]
      refine Nat.dvd_gcd (Nat.mul_dvd_mul_left g (Nat.gcd_dvd_right ..)) ?_
      have e2 : a * Nat.gcd g b = Nat.gcd (a * g) (a * b) := (Nat.gcd_mul_left ..).symm
      rw [e2]
      refine Nat.dvd_gcd ?_ ?_
      · rw [Nat.mul_comm a g]; exact Nat.mul_dvd_mul_left g w1
      · have := Nat.gcd_mul_lcm a b
        rw [← this, Nat.mul_comm (Nat.gcd a b)]
        exact Nat.mul_dvd_mul hg2 (Nat.dvd_gcd w1 w2)
    have e3 := Nat.gcd_mul_lcm (Nat.gcd g a) (Nat.gcd g b)
    by_cases z : Nat.gcd (Nat.gcd g a) (Nat.gcd g b) = 0
    · have z1 := Nat.eq_zero_of_gcd_eq_zero_left z
      have z2 := Nat.eq_zero_of_gcd_eq_zero_left z1
      rw [z1] ; simp
    · rw [← e3, Nat.mul_comm] at key
      exact Nat.dvd_of_mul_dvd_mul_left (Nat.pos_of_ne_zero z) key
  have n1 : Nat.gcd e.natAbs a.natAbs ∣ d.natAbs := Int.natCast_dvd_natCast.mp (Int.dvd_natAbs.mpr h1)
  have n2 : Nat.gcd e.natAbs b.natAbs ∣ d.natAbs := Int.natCast_dvd_natCast.mp (Int.dvd_natAbs.mpr h2)
  have := nat _ _ _ _ n1 n2
  have e1 : (Int.gcd e (Int.lcm a b) : Nat) = Nat.gcd e.natAbs (Nat.lcm a.natAbs b.natAbs) := rfl
  rw [e1]
  exact Int.dvd_natAbs.mp (Int.natCast_dvd_natCast.mpr this)
theorem dist_Wl {e d : Int} : ∀ {bs : List (Int × Int)} {w : Int} (hb : ∀ p ∈ bs, 1 ≤ p.1) (hw : 1 ≤ w) (h0 : (Int.gcd e w : Int) ∣ d) (h : ∀ p ∈ bs, (Int.gcd e p.1 : Int) ∣ d), (Int.gcd e (Wl bs w) : Int) ∣ d
  | [], w, hb, hw, h0, h => h0
  | p :: r, w, hb, hw, h0, h => by
    have hp := hb p (List.mem_cons_self ..)
    refine dist_Wl (bs := r) (w := lcmI w p.1) (fun q hq => hb q (List.mem_cons_of_mem _ hq)) (lcmI_pos hw hp) ?_ fun q hq => h q (List.mem_cons_of_mem _ hq)
    rw [lcmI_eq (by omega) (by omega)]
    exact dist2 h0 (h p (List.mem_cons_self ..))
theorem dvd_Wl : ∀ {bs : List (Int × Int)} {w : Int} (hb : ∀ p ∈ bs, 1 ≤ p.1) (hw : 1 ≤ w), 1 ≤ Wl bs w ∧ w ∣ Wl bs w ∧ ∀ p ∈ bs, p.1 ∣ Wl bs w
  | [], w, hb, hw => ⟨hw, Int.dvd_refl w, fun p hp => nomatch hp⟩
  | p :: r, w, hb, hw => by
    have hp := hb p (List.mem_cons_self ..)
    have ih := dvd_Wl (bs := r) (w := lcmI w p.1) (fun p hp => hb p (List.mem_cons_of_mem _ hp)) (lcmI_pos hw hp)
    refine ⟨ih.1, Int.dvd_trans (dvd_lcm_l (by omega) (by omega)) ih.2.1, fun q hq => ?_⟩
    rcases List.mem_cons.mp hq with rfl | hq
    · exact Int.dvd_trans (dvd_lcm_r (by omega) (by omega)) ih.2.1
    · exact ih.2.2 q hq
/-- the fact of pairs -/
theorem helly : ∀ {bs : List (Int × Int)} (hb : ∀ p ∈ bs, Ok p) (h : ∀ p ∈ bs, ∀ q ∈ bs, (Int.gcd p.1 q.1 : Int) ∣ q.2 - p.2), ∃ x, Ring bs x
  | [], hb, h => ⟨0, fun p hp => nomatch hp⟩
  | p :: r, hb, h => by
    have hp := hb p (List.mem_cons_self ..)
    have hr : ∀ q ∈ r, Ok q := fun q hq => hb q (List.mem_cons_of_mem _ hq)
    obtain ⟨x, hx⟩ := helly hr fun a ha b hb => h a (List.mem_cons_of_mem _ ha) b (List.mem_cons_of_mem _ hb)
    obtain ⟨w1, _, w2⟩ := dvd_Wl (bs := r) (w := 1) (fun q hq => (hr q hq).1) (by omega)
    have hd : (Int.gcd p.1 (Wl r 1) : Int) ∣ x - p.2 := by
      refine dist_Wl (fun q hq => (hr q hq).1) (by omega) (by simp) fun q hq => ?_
      have a1 : (Int.gcd p.1 q.1 : Int) ∣ q.2 - p.2 := h p (List.mem_cons_self ..) q (List.mem_cons_of_mem _ hq)
      have a2 : (Int.gcd p.1 q.1 : Int) ∣ x - q.2 := Int.dvd_trans (Int.gcd_dvd_right ..) (hx q hq)
      have := Int.dvd_add a1 a2
      rwa [show q.2 - p.2 + (x - q.2) = x - p.2 by omega] at this
    obtain ⟨y, hy1, hy2⟩ := (two_meet (p := (Wl r 1, x)) (q := p) hp.1 hp.2.1).mpr (by
      show (Int.gcd (Wl r 1) p.1 : Int) ∣ p.2 - x
      rw [Int.gcd_comm]
      have := Int.dvd_neg.mpr hd
      rwa [show -(x - p.2) = p.2 - x by omega] at this)
    refine ⟨y, fun q hq => ?_⟩
    rcases List.mem_cons.mp hq with rfl | hq
    · exact hy2
    · have := Int.dvd_add (Int.dvd_trans (w2 q hq) hy1) (hx q hq)
      rwa [show y - x + (x - q.2) = y - q.2 by omega] at this
end QS.K14
end

section
set_option Elab.async false
set_option linter.all false
set_option maxRecDepth 100000
set_option maxHeartbeats 1000000
namespace QS.K14
open PySem PySem.Spec PyProof.Rows L2 QS QS.MA
/-! ### lots -/
def LtOk (n : Nat) (l : List Nat) : Prop := l.Pairwise (· < ·) ∧ ∀ i ∈ l, i < n
theorem ltOk_len {n : Nat} : ∀ {l : List Nat}, LtOk n l → l.length ≤ n := fun {l} h => by
  have key : ∀ (l : List Nat) (a : Nat), l.Pairwise (· < ·) → (∀ i ∈ l, a ≤ i ∧ i < n) → a ≤ n → l.length + a ≤ n := by
    intro l
    induction l with
    | nil => intro a _ _ h; simpa using h
    | cons x r ih =>
      intro a hp hm ha
      have hx := hm x (List.mem_cons_self ..)
      rw [List.pairwise_cons] at hp
      have := ih (x + 1) hp.2 (fun i hi => ⟨hp.1 i hi, (hm i (List.mem_cons_of_mem _ hi)).2⟩) (by omega)
      simp; omega
  simpa using key l 0 h.1 (fun i hi => ⟨by omega, h.2 i hi⟩) (by omega)
theorem sp_lot_below {n : Nat} {l : List Nat} {s : Sto} (h : LtOk n l) (hn : n ≤ 1000) : d_is_lot_below [.tup (natD l), .int n] s = .ok (.bl true) s := by
  have hl := ltOk_len h
  have hsz : 16777216 = sizeLine := by decide
  generalize hN : (n : Int) = M
  apply wp_eq
  apply seal_pure
  apply wp_run
  simp [b_is_lot_below, ansB, builtinTys, wipeD]
  refine ⟨by omega, ?_⟩
  unfold natD
  rw [lcL_map (cv := fun i : Nat => D.int (i : Int)) (fun _ => D.bl true) l (fun i hi => ⟨_, by simp; rfl, rfl, wp_eq (by have := h.2 i hi; simp [sp_is_below]; omega)⟩), allT]
  simp only [wp_ok, wpv_new, Bool.false_eq_true, if_false, wpv_allL]
  simp
  have e0 : ((l.length : Int) - 1).toNat = l.length - 1 := by omega
  refine ⟨rngOk_of (by omega) (by omega), by omega, ?_⟩
  rw [rngD0]
  rw [lcL_map (cv := fun i : Nat => D.int (i : Int)) (fun _ => D.bl true) (List.range (l.length - 1)) (fun i hi => ⟨_, by simp; rfl, rfl, wp_eq (by
    have hi := List.mem_range.mp hi
    have hp := List.pairwise_iff_getElem.mp h.1 i (i + 1) (by omega) (by omega) (by omega)
    have a1 : atI (l.map fun i : Nat => D.int (i : Int)) (i : Int) = some (.int (l[i]'(by omega) : Nat)) := by rw [atI_nat]; simp [show i < l.length by omega]
    have a2 : atI (l.map fun i : Nat => D.int (i : Int)) ((i : Int) + 1) = some (.int (l[i + 1]'(by omega) : Nat)) := by
      have := atI_nat (l := l.map fun i : Nat => D.int (i : Int)) (k := i + 1)
      push_cast at this
      rw [this]
      simp [show i + 1 < l.length by omega]
    simp [a1, a2]; omega)⟩), allT]
  simp only [wp_ok, wpv_new, Bool.false_eq_true, if_false, wpv_allL]
  simp
theorem sp_check_lot {bs : List (Int × Int)} {l : List Nat} {s : Sto} (hb : OkL bs) (h : LtOk bs.length l) : d_check_lot [mk bs, .tup (natD l)] s = .ok .non s := by
  apply wp_eq
  apply seal_pure
  apply wp_run
  have hl := hb.2
  simp [b_check_lot, hmk, sp_size, sp_lot_below h (by omega)]
/-- the bells of a lot -/
def bAt (bs : List (Int × Int)) (i : Nat) : Int × Int := bs.getD i (1, 0)
def sel (bs : List (Int × Int)) (l : List Nat) : List (Int × Int) := l.map (bAt bs)
theorem sel_at {bs : List (Int × Int)} {i : Nat} (h : i < bs.length) : bs[i]? = some (bAt bs i) := by
  unfold bAt
  rw [List.getD_eq_getElem?_getD, List.getElem?_eq_getElem h]; rfl
theorem sel_ok {bs : List (Int × Int)} (hb : ∀ p ∈ bs, Ok p) {l : List Nat} (h : ∀ i ∈ l, i < bs.length) : ∀ p ∈ sel bs l, Ok p := fun p hp => by
  obtain ⟨i, hi, rfl⟩ := List.mem_map.mp hp
  exact hb _ (List.mem_of_getElem? (sel_at (h i hi)))
theorem sp_together {bs : List (Int × Int)} {l : List Nat} {s : Sto} (hb : OkL bs) (h : LtOk bs.length l) : d_together [mk bs, .tup (natD l)] s = .ok (optI (togF (sel bs l))) s := by
  have hl := ltOk_len h
  have hb2 := hb.2
  have hsz : 16777216 = sizeLine := by decide
  apply wp_eq
  apply seal_pure
  apply wp_run
  simp [b_together, sp_check_lot hb h, wipeD]
  refine ⟨by omega, ?_⟩
  unfold natD
  rw [lcL_map (cv := fun i : Nat => D.int (i : Int)) (fun i => pD (bAt bs i)) l (fun i hi => ⟨_, by simp; rfl, rfl, wp_eq (by simp [atI_nat, sel_at (h.2 i hi)])⟩)]
  have e : (l.map fun i => pD (bAt bs i)) = (sel bs l).map pD := by simp [sel]
  rw [e]
  simp [sp_all_of (sel_ok hb.1 h.2)]
  cases c : allF (some (1, 0)) (sel bs l) with
  | none =>
    simp [optD]
    simp [togF, c, optI]
  | some m =>
    have e1 : optD (some m) = pD m := rfl
    have e2 : isNon (pD m) = false := rfl
    simp [e1, e2, pD]
    simp [togF, c, optI]
/-! the least pair -/
def rawF (bs : List (Int × Int)) (f : Bool) : List Nat → Option (Nat × Nat)
  | [] => none
  | a :: r => match r.find? (fun b => meets (bAt bs a) (bAt bs b) == f) with
    | some b => some (a, b)
    | none => rawF bs f r
theorem sp_raw_pair {bs : List (Int × Int)} {l : List Nat} {f : Bool} {s : Sto} (hb : OkL bs) (h : LtOk bs.length l) : d_raw_pair [mk bs, .tup (natD l), .bl f] s = .ok (optP (rawF bs f l)) s := by
  have hl := ltOk_len h
  have hb2 := hb.2
  have hok : ∀ i ∈ l, Ok (bAt bs i) := fun i hi => hb.1 _ (List.mem_of_getElem? (sel_at (h.2 i hi)))
  apply wp_eq
  apply seal_pure
  apply wp_run
  simp [b_raw_pair]
  obtain ⟨P, hP⟩ : ∃ P : List D → En → Sto → Prop, P = fun it ρ s1 => s1 = s ∧ ∃ (done r : List Nat) (a b c : Option D), ρ = [some (mk bs), some (.tup (natD l)), some (.bl f), a, b, c] ∧ it = numE done.length (natD r) ∧ l = done ++ r ∧ rawF bs f r = rawF bs f l := ⟨_, rfl⟩
  refine wps_forL P ?_ ?_ _ _ _ (by rw [hP, numD_eq]; exact ⟨rfl, [], l, _, _, _, rfl, rfl, rfl, rfl⟩)
  · intro d it ρ s1 hI
    rw [hP] at hI
    obtain ⟨rfl, done, r, a, b, c, rfl, hl2, hsp, e⟩ := hI
    cases r with
    | nil => cases hl2
    | cons x r =>
      cases hl2
      have hx := hok x (by rw [hsp]; simp)
      have hxl := h.2 x (by rw [hsp]; simp)
      have ec : cut (natD l) (some ((done.length : Int) + 1)) none = natD r := by
        have := cut_from (xs := natD l) (k := done.length + 1) (by rw [hsp]; simp)
        push_cast at this
        rw [this, natD_drop, hsp]
        simp
      simp [ec]
      obtain ⟨P2, hP2⟩ : ∃ P2 : List D → En → Sto → Prop, P2 = fun it ρ s2 => s2 = s1 ∧ ∃ (r2 : List Nat) (c : Option D), ρ = [some (mk bs), some (.tup (natD l)), some (.bl f), some (.int (done.length : Nat)), some (.int (x : Nat)), c] ∧ it = natD r2 ∧ (∀ i ∈ r2, i ∈ l) ∧ r2.find? (fun b => meets (bAt bs x) (bAt bs b) == f) = r.find? (fun b => meets (bAt bs x) (bAt bs b) == f) := ⟨_, rfl⟩
      refine wps_forL P2 ?_ ?_ _ _ _ (by rw [hP2]; exact ⟨rfl, r, _, rfl, rfl, fun i hi => (by rw [hsp]; simp [hi]), rfl⟩)
      · intro d it ρ s2 hI
        rw [hP2] at hI
        obtain ⟨rfl, r2, c, rfl, hl3, hm, e2⟩ := hI
        cases r2 with
        | nil => cases hl3
        | cons y r2 =>
          cases hl3
          have hy := hok y (hm y (List.mem_cons_self ..))
          have hyl := h.2 y (hm y (List.mem_cons_self ..))
          rw [List.find?_cons] at e2
          simp [atI_nat, sel_at hxl, sel_at hyl, sp_ever_meet hx hy]
          by_cases q : meets (bAt bs x) (bAt bs y) = f
          · simp [q] at e2
            simp [q]
            refine ⟨by decide, ?_⟩
            rw [← e]
            unfold rawF
            rw [← e2]
            rfl
          · have q' : (meets (bAt bs x) (bAt bs y) == f) = false := by simpa using q
            simp only [q'] at e2
            simp [q]
            rw [hP2]
            exact ⟨rfl, r2, _, rfl, rfl, fun i hi => hm i (List.mem_cons_of_mem _ hi), e2⟩
      · intro ρ s2 hI
        rw [hP2] at hI
        obtain ⟨rfl, r2, c, rfl, hl3, hm, e2⟩ := hI
        cases r2 with
        | cons p r => cases hl3
        | nil =>
          rw [hP]
          refine ⟨rfl, done ++ [x], r, _, _, _, rfl, by rw [List.length_append]; rfl, by rw [hsp]; simp, ?_⟩
          rw [← e]
          have e2 : none = r.find? (fun b => meets (bAt bs x) (bAt bs b) == f) := e2
          have e3 : rawF bs f (x :: r) = match r.find? (fun b => meets (bAt bs x) (bAt bs b) == f) with
            | some b => some (x, b)
            | none => rawF bs f r := rfl
          rw [e3, ← e2]
  · intro ρ s1 hI
    rw [hP] at hI
    obtain ⟨rfl, done, r, a, b, c, rfl, hl2, hsp, e⟩ := hI
    cases r with
    | cons p r => cases hl2
    | nil =>
      simp
      rw [← e]
      rfl
theorem sp_apart {bs : List (Int × Int)} {l : List Nat} {s : Sto} (hb : OkL bs) (h : LtOk bs.length l) : d_apart [mk bs, .tup (natD l)] s = .ok (optP (rawF bs false l)) s := by
  apply wp_eq
  apply seal_pure
  apply wp_run
  simp [b_apart, sp_check_lot hb h, sp_raw_pair hb h]
theorem ltOk_range (n : Nat) : LtOk n (List.range n) := ⟨List.pairwise_lt_range, fun i hi => List.mem_range.mp hi⟩
theorem rawF_none {bs : List (Int × Int)} {f : Bool} : ∀ {l : List Nat}, rawF bs f l = none ↔ l.Pairwise fun a b => meets (bAt bs a) (bAt bs b) ≠ f
  | [] => by simp [rawF]
  | x :: r => by
    rw [List.pairwise_cons, ← rawF_none (l := r)]
    have e3 : rawF bs f (x :: r) = match r.find? (fun b => meets (bAt bs x) (bAt bs b) == f) with
      | some b => some (x, b)
      | none => rawF bs f r := rfl
    rw [e3]
    cases c : r.find? (fun b => meets (bAt bs x) (bAt bs b) == f) with
    | none =>
      rw [List.find?_eq_none] at c
      simp only
      exact ⟨fun h => ⟨fun b hb q => c b hb (by simp [q]), h⟩, fun h => h.2⟩
    | some b =>
      have h1 := List.find?_some c
      have h2 := List.mem_of_find?_eq_some c
      simp only [reduceCtorEq, false_iff]
      exact fun h => h.1 b h2 (by simpa using h1)
theorem rawF_some {bs : List (Int × Int)} {f : Bool} : ∀ {l : List Nat} {p : Nat × Nat}, rawF bs f l = some p → p.1 ∈ l ∧ p.2 ∈ l ∧ meets (bAt bs p.1) (bAt bs p.2) = f
  | x :: r, p, e => by
    have e3 : rawF bs f (x :: r) = match r.find? (fun b => meets (bAt bs x) (bAt bs b) == f) with
      | some b => some (x, b)
      | none => rawF bs f r := rfl
    rw [e3] at e
    cases c : r.find? (fun b => meets (bAt bs x) (bAt bs b) == f) with
    | none =>
      rw [c] at e
      obtain ⟨h1, h2, h3⟩ := rawF_some (l := r) e
      exact ⟨List.mem_cons_of_mem _ h1, List.mem_cons_of_mem _ h2, h3⟩
    | some b =>
      rw [c] at e
      cases e
      have h1 := List.find?_some c
      exact ⟨List.mem_cons_self .., List.mem_cons_of_mem _ (List.mem_of_find?_eq_some c), by simpa using h1⟩
/-- why bells are not exact -/
def whyF (bs : List (Int × Int)) : Option (Nat × Nat) × Option Int := (rawF bs true (List.range bs.length), fqF bs 0 1)
def whyD (bs : List (Int × Int)) : D := match rawF bs true (List.range bs.length) with
  | some p => .tup [.str "both", .int (p.1 : Nat), .int (p.2 : Nat)]
  | none => match fqF bs 0 1 with
    | some h => .tup [.str "quiet", .int h]
    | none => .non
theorem sp_why {bs : List (Int × Int)} {s : Sto} (hb : OkL bs) : d_why_not_exact [mk bs] s = .ok (whyD bs) s := by
  apply wp_eq
  apply seal_pure
  apply wp_run
  have hl := hb.2
  have hr := sp_raw_pair (f := true) (s := s) hb (ltOk_range bs.length)
  have e : rngD 0 bs.length = natD (List.range bs.length) := rngD0 _
  simp [b_why_not_exact, hmk, sp_size, e]
  refine ⟨by omega, ?_⟩
  rw [hr]
  cases c : rawF bs true (List.range bs.length) with
  | some p =>
    simp [optP]
    refine ⟨by decide, ?_⟩
    simp [whyD, c]
  | none =>
    simp [optP, sp_first_quiet hb (.inl rfl)]
    cases c2 : fqF bs 0 1 with
    | none => simp [optI, whyD, c, c2]
    | some h =>
      simp [optI]
      refine ⟨by decide, ?_⟩
      simp [whyD, c, c2]
/-- just one rings at each hour -/
def exactB (bs : List (Int × Int)) : Bool := (rawF bs true (List.range bs.length)).isNone && (fqF bs 0 1).isNone
theorem sp_is_exact {bs : List (Int × Int)} {s : Sto} (hb : OkL bs) : d_is_exact [mk bs] s = .ok (.bl (exactB bs)) s := by
  apply wp_eq
  apply seal_pure
  apply wp_run
  simp [b_is_exact, sp_why hb]
  unfold whyD exactB
  cases rawF bs true (List.range bs.length) <;> cases fqF bs 0 1 <;> simp
/-! who rings -/
def ringL (bs : List (Int × Int)) (h : Int) : List Nat := ((enu 0 bs).filter fun x => decide (h % x.2.1 = x.2.2)).map (·.1)
theorem sp_raw_ringing {bs : List (Int × Int)} {h : Int} {s : Sto} (hb : OkL bs) : d_raw_ringing [mk bs, .int h] s = .ok (.tup (natD (ringL bs h))) s := by
  apply wp_eq
  apply seal_pure
  apply wp_run
  have hl := hb.2
  have hsz : 16777216 = sizeLine := by decide
  simp [b_raw_ringing, wipeD]
  refine ⟨by omega, ?_⟩
  rw [numD_eq, numE_enu]
  rw [lcL_pure (cv := fun x : Nat × (Int × Int) => D.tup [.int (x.1 : Nat), pD x.2]) (fun x => decide (h % x.2.1 = x.2.2)) (fun x => D.int (x.1 : Nat)) (enu 0 bs) (fun x hx => ?_)]
  · have e : (((enu 0 bs).filter fun x => decide (h % x.2.1 = x.2.2)).map fun x => D.int (x.1 : Nat)) = natD (ringL bs h) := by simp [natD, ringL, Function.comp_def]
    rw [e]
    simp
  · have hx2 := (enu_mem hx).2
    have hp := hb.1 _ (List.mem_of_getElem? hx2)
    refine ⟨_, by simp; rfl, ?_, fun _ => ?_⟩
    · apply wp_eq
      simp [sp_rings hp.1]
    · apply wp_eq
      simp
theorem sp_ringing {bs : List (Int × Int)} {h : Int} {s : Sto} (hb : OkL bs) (hh : HourOk h) : d_ringing [mk bs, .int h] s = .ok (.tup (natD (ringL bs h))) s := by
  apply wp_eq
  apply seal_pure
  apply wp_run
  simp [b_ringing, sp_check_hour hh, sp_raw_ringing hb]
end QS.K14
end

section
set_option Elab.async false
set_option linter.all false
set_option maxRecDepth 100000
set_option maxHeartbeats 1000000
namespace QS.K14
open PySem PySem.Spec PyProof.Rows L2 QS
theorem sp_pick {n g : Nat} {s : Sto} {many : Int} (hb : BgAt n g s) (h0 : 0 < many) (h1 : many < 2 ^ 8000) : wp (d__law_pick [.loc n, .int many] s) fun d s' => ∃ r, d = .int r ∧ 0 ≤ r ∧ r < many ∧ Bs n g s s' := by
  have hlt := hb.lt
  apply seal_bag hlt
  apply wp_run
  obtain ⟨⟨a, b, al, q1, q2⟩, ⟨gs, q3⟩, q4⟩ := id hb
  have mn : ∀ x : Int, 0 ≤ x % many ∧ x % many < many := fun x => ⟨Int.emod_nonneg _ (by omega), Int.emod_lt_of_pos _ h0⟩
  have last : ∀ (t : Sto) (x : Int), ∃ d', frz 4 s.length t (.int (x % many)) = some d' ∧ ∀ (s2 : Sto), Bs n g s s2 → ∃ r, d' = D.int r ∧ 0 ≤ r ∧ r < many ∧ Bs n g s s2 := fun t x => ⟨_, frz_closed (by simp), fun s2 h2 => ⟨_, rfl, (mn x).1, (mn x).2, h2⟩⟩
  have hdiv : DivOk (1 : Int) many := divOk_of h0 h1
  have hdv : ∀ x : Int, DivOk x many := fun x => hdiv
  have hgn : ∀ x, (s.set n x)[n]? = some x := fun x => List.getElem?_set_self hlt.1
  have hss : ∀ x y, (s.set n x).set n y = s.set n y := fun x y => by simp
  have hgg : ∀ x, (s.set n x)[g]? = some (.lst (gs.map D.int)) := fun x => by rw [List.getElem?_set_ne (fun e => q4 e.symm)]; exact q3
  unfold b__law_pick
  rcases q2 with rfl | ⟨i, rfl⟩
  · cases gs with
    | nil =>
      simp [q1, q3, hgn, hss, hgg]
      exact ⟨mok (.inr (by decide)), divOk_small (by decide) (by decide), h0, (put_bag hb _ _ _ (.inl rfl)).x, last _ _⟩
    | cons x gs =>
      by_cases c : x < many
      · have hs0 : seqIndex? 0 (gs.length + 1) = some 0 := seqIx (i := 0) (by omega)
        simp [q1, q3, c, h0, tyB_loc q3, hs0]
        exact ⟨(put_great hb gs).x, last _ _⟩
      · simp [q1, q3, c, h0, hdv]
        have e : D.int (x / many) :: gs.map D.int = (x / many :: gs).map D.int := rfl
        rw [e]
        exact ⟨(put_great hb (x / many :: gs)).x, last _ _⟩
  · simp [q1, h0]
    exact ⟨(Bs.refl hb).x, last _ _⟩
theorem sp_some {n g : Nat} {s : Sto} {rows : List D} (hb : BgAt n g s) (h0 : 0 < rows.length) (h1 : rows.length ≤ sizeLine) (hc : closedL s.length rows = true) : wp (d__law_some [.loc n, .lst rows] s) fun d s' => d ∈ rows ∧ Bs n g s s' := by
  have hlt := hb.lt
  have hsz : 16777216 = sizeLine := by decide
  apply seal_bag hlt
  apply wp_run
  simp [b__law_some]
  refine (sp_pick hb (by omega) (by omega)).mono ?_
  rintro d s2 ⟨r, rfl, r0, r1, H1⟩
  obtain ⟨k, rfl⟩ := Int.eq_ofNat_of_zero_le r0
  have hk : k < rows.length := by omega
  simp [atI_nat, List.getElem?_eq_getElem hk]
  exact ⟨H1.x, _, frz_closed ((closedL_all.mp hc) _ (List.getElem_mem hk)), fun s2 h2 => ⟨List.getElem_mem hk, h2⟩⟩
theorem wp_bag {ns : List Int} (h : ns.length ≤ 63) : wp (d__law_bag [.scr (ns.map D.int)] []) fun d s => d = .loc 1 ∧ s.length = 2 ∧ BgAt 1 0 s := by
  have hsz : 16777216 = sizeLine := by decide
  apply wp_run
  have hc : cut (ns.map D.int) none (some 60) = (ns.take 60).map D.int := by
    have := cut_to (xs := ns.map D.int) (k := 60)
    rw [show ((60 : Nat) : Int) = 60 from rfl] at this
    rw [this, List.map_take]
  have pw : PowOk 2 40 := by decide
  have pw2 : PowOk 10 12 := by decide
  simp [b__law_bag, hc]
  refine wps_forL (fun l ρ s1 => s1 = [] ∧ ∃ (r : List Int) (sd : Int) (x : Option D), ρ = [some (.scr (ns.map D.int)), some (.int sd), x, none, none] ∧ l = r.map D.int) ?_ ?_ _ _ _ ⟨rfl, ns.take 60, _, _, rfl, by simp⟩
  · rintro d l ρ s1 ⟨rfl, r, sd, x, rfl, hl⟩
    cases r with
    | nil => cases hl
    | cons y r =>
      cases hl
      simp [pw]
      exact ⟨mok (.inr (by decide)), r, rfl⟩
  · rintro ρ s1 ⟨rfl, r, sd, x, rfl, hl⟩
    cases r with
    | cons y r => cases hl
    | nil =>
      simp [wipeD, hc]
      refine ⟨by omega, ?_⟩
      rw [← List.map_take, lcL_pure (cv := D.int) (fun i => decide (10 ^ 12 ≤ (if i < 0 then -i else i))) (fun i => D.int (if i < 0 then -i else i)) (ns.take 60) (fun i hi => ⟨_, by simp; rfl, wp_eq (by simp [pw2]), fun _ => wp_eq (by simp)⟩)]
      simp only [wp_ok, wpv_new, if_true]
      rw [intL]
      generalize (((ns.take 60).filter _).map _ : List Int) = gs
      cases ns with
      | nil =>
        simp [wipeD, lcL, gSumA, orVL, gSum, g1, lstOf, intsOf]
        exact ⟨by decide, ⟨⟨_, _, _, rfl, .inr ⟨_, rfl⟩⟩, ⟨gs, rfl⟩, by decide⟩⟩
      | cons x t =>
        cases t with
        | nil =>
          by_cases c : (if x < 0 then -x else x) < 8
          · simp [c, wipeD]
            refine ⟨by decide, ?_⟩
            have e1 : [D.int x] = [x].map D.int := rfl
            rw [e1, lcL_map (cv := D.int) (fun i => D.int i) [x] (fun i hi => ⟨_, by simp; rfl, rfl, wp_eq (by simp)⟩)]
            simp only [wp_ok, wpv_new, Bool.false_eq_true, if_false]
            rw [show ([x].map fun i => D.int i) = [x].map D.int from rfl, wpv_sumAL]
            simp
            exact ⟨by decide, ⟨⟨_, _, _, rfl, .inr ⟨_, rfl⟩⟩, ⟨gs, rfl⟩, by decide⟩⟩
          · simp [c]
            exact ⟨by decide, ⟨⟨_, _, _, rfl, .inl rfl⟩, ⟨gs, rfl⟩, by decide⟩⟩
        | cons y r =>
          have e : ¬ ((r.length : Int) + 1 + 1 = 1) := by omega
          simp [e]
          exact ⟨by decide, ⟨⟨_, _, _, rfl, .inl rfl⟩, ⟨gs, rfl⟩, by decide⟩⟩
end QS.K14
end

section
set_option Elab.async false
set_option linter.all false
set_option maxRecDepth 100000
set_option maxHeartbeats 1000000
namespace QS.K14
open PySem PySem.Spec PyProof.Rows L2 QS QS.MA
theorem sub_mod_iff {h e a : Int} (he : 1 ≤ e) (h0 : 0 ≤ a) (h1 : a < e) : (h - a) % e = 0 ↔ h % e = a := by
  rw [emod_eq_iff he h0 h1]
  exact Int.dvd_iff_emod_eq_zero.symm
theorem sp_lrings {bs : List (Int × Int)} {h : Int} {s : Sto} (hb : OkL bs) : d__law_rings [.lst (bs.map pD), .int h] s = .ok (.lst (natD (ringL bs h))) s := by
  apply wp_eq
  apply seal_pure
  apply wp_run
  have hl := hb.2
  have hsz : 16777216 = sizeLine := by decide
  simp [b__law_rings, wipeD]
  refine ⟨by omega, ?_⟩
  rw [numD_eq, numE_enu]
  rw [lcL_pure (cv := fun x : Nat × (Int × Int) => D.tup [.int (x.1 : Nat), pD x.2]) (fun x => decide (h % x.2.1 = x.2.2)) (fun x => D.int (x.1 : Nat)) (enu 0 bs) (fun x hx => ?_)]
  · have e : (((enu 0 bs).filter fun x => decide (h % x.2.1 = x.2.2)).map fun x => D.int (x.1 : Nat)) = natD (ringL bs h) := by simp [natD, ringL, Function.comp_def]
    rw [e]
    simp
  · have hx2 := (enu_mem hx).2
    obtain ⟨h1, h2, h3, h4⟩ := hb.1 _ (List.mem_of_getElem? hx2)
    refine ⟨_, by simp; rfl, ?_, fun _ => ?_⟩
    · apply wp_eq
      have := sub_mod_iff (h := h) h1 h3 h4
      simp [pD, this]
      omega
    · apply wp_eq
      simp
theorem sp_lround {bs : List (Int × Int)} {s : Sto} (hb : ∀ p ∈ bs, Ok p) : d__law_round [.lst (bs.map pD)] s = .ok (.int (Wl bs 1)) s := by
  apply wp_eq
  apply seal_pure
  apply wp_run
  simp [b__law_round]
  obtain ⟨P, hP⟩ : ∃ P : List D → En → Sto → Prop, P = fun l ρ s1 => s1 = s ∧ ∃ r w a x y z, ρ = [a, some (.int w), x, y, z] ∧ l = r.map pD ∧ (∀ p ∈ r, Ok p) ∧ 1 ≤ w ∧ Wl r w = Wl bs 1 := ⟨_, rfl⟩
  refine wps_forL P ?_ ?_ _ _ _ (by rw [hP]; exact ⟨rfl, bs, 1, _, _, _, _, rfl, rfl, hb, by omega, rfl⟩)
  · intro d l ρ s1 hI
    rw [hP] at hI
    obtain ⟨rfl, r, w, a, x, y, z, rfl, hl, hr, hw, e⟩ := hI
    cases r with
    | nil => cases hl
    | cons p r =>
      cases hl
      obtain ⟨h1, h2, h3, h4⟩ := hr p (List.mem_cons_self ..)
      simp [pD]
      have hL := lcmI_pos hw h1
      have hd1 : w ∣ lcmI w p.1 := dvd_lcm_l (by omega) (by omega)
      have hd2 : p.1 ∣ lcmI w p.1 := dvd_lcm_r (by omega) (by omega)
      obtain ⟨P2, hP2⟩ : ∃ P2 : Nat → En → Sto → Prop, P2 = fun k ρ s2 => s2 = s1 ∧ ∃ (f j : Int), ρ = [a, some (.int f), some (.int p.1), some (.int p.2), some (.int w)] ∧ f = w * j ∧ 1 ≤ j ∧ (∀ i, 1 ≤ i → i < j → ¬ p.1 ∣ w * i) ∧ f ≤ lcmI w p.1 ∧ (lcmI w p.1 - f).toNat = k := ⟨_, rfl⟩
      have hle : w ≤ lcmI w p.1 := Int.le_of_dvd (by omega) hd1
      refine wps_while P2 ?_ _ _ _ (by rw [hP2]; exact ⟨rfl, w, 1, rfl, by omega, by omega, fun i hi hi2 => by omega, hle, rfl⟩)
      intro k ρ s2 hI
      rw [hP2] at hI
      obtain ⟨rfl, f, j, rfl, hf, hj, hn, hf2, hk⟩ := hI
      simp
      refine ⟨by omega, ?_⟩
      by_cases c : f % p.1 = 0
      · simp [c]
        have hdf : p.1 ∣ f := Int.dvd_of_emod_eq_zero c
        have e2 : f = lcmI w p.1 := by
          have h5 := lcm_dvd (a := w) (b := p.1) (x := f) (by omega) (by omega) ⟨j, hf⟩ hdf
          have hpos : 1 ≤ f := by
            have := Int.mul_le_mul_of_nonneg_left hj (show 0 ≤ w by omega)
            omega
          have := Int.le_of_dvd (by omega) h5
          omega
        rw [e2, hP]
        exact ⟨rfl, r, _, _, _, _, _, rfl, rfl, fun p hp => hr p (List.mem_cons_of_mem _ hp), hL, e⟩
      · simp [c]
        have hnd : ¬ p.1 ∣ f := fun z => c (Int.emod_eq_zero_of_dvd z)
        obtain ⟨t, ht⟩ := hd1
        have hjt : j < t := by
          by_cases c2 : j < t
          · exact c2
          · exfalso
            by_cases c3 : t = j
            · apply hnd; rw [hf, ← c3, ← ht]; exact hd2
            · have ht1 : 1 ≤ t := by
                by_cases c4 : 1 ≤ t
                · exact c4
                · have := Int.mul_le_mul_of_nonneg_left (show t ≤ 0 by omega) (show 0 ≤ w by omega)
                  omega
              exact hn t ht1 (by omega) (by rw [← ht]; exact hd2)
        have e3 : f + w = w * (j + 1) := by rw [hf, Int.mul_add, Int.mul_one]
        have e4 : w * (j + 1) ≤ w * t := Int.mul_le_mul_of_nonneg_left (by omega) (by omega)
        refine ⟨(lcmI w p.1 - (f + w)).toNat, by omega, ?_⟩
        rw [hP2]
        refine ⟨rfl, f + w, j + 1, rfl, e3, by omega, fun i hi hi2 => ?_, by omega, rfl⟩
        by_cases c5 : i < j
        · exact hn i hi c5
        · have : i = j := by omega
          rw [this, ← hf]; exact hnd
  · intro ρ s1 hI
    rw [hP] at hI
    obtain ⟨rfl, r, w, a, x, y, z, rfl, hl, hr, hw, e⟩ := hI
    cases r with
    | cons p r => cases hl
    | nil =>
      simp
      exact e
/-! splits -/
def news (p : Int × Int) (m : Nat) : List (Int × Int) := (List.range m).map fun j : Nat => (p.1 * (m : Int), p.2 + p.1 * (j : Int))
def splitL (bs : List (Int × Int)) (i m : Nat) : List (Int × Int) := bs.take i ++ (news (bAt bs i) m ++ bs.drop (i + 1))
theorem rc_app (a b : List (Int × Int)) (h : Int) : rc (a ++ b) h = rc a h + rc b h := by
  induction a with
  | nil => simp [rc]
  | cons p r ih => simp only [List.cons_append, rc, ih]; omega
theorem rc_map {α : Type} (f : α → Int × Int) (h : Int) : ∀ l : List α, rc (l.map f) h = (l.map fun x => if (f x).1 ∣ h - (f x).2 then 1 else 0).sum
  | [] => rfl
  | x :: r => by simp only [List.map_cons, rc, rc_map f h r, List.sum_cons]; omega
theorem rc_news {p : Int × Int} {m : Nat} (hp : 1 ≤ p.1) (hm : 1 ≤ m) (h : Int) : rc (news p m) h = if p.1 ∣ h - p.2 then 1 else 0 := by
  have key : ∀ n : Nat, (rc ((List.range n).map fun j : Nat => (p.1 * (m : Int), p.2 + p.1 * (j : Int))) h : Int) = sm n fun j => if p.1 * (m : Int) ∣ h - (p.2 + p.1 * (j : Int)) then 1 else 0 := fun n => by
    induction n with
    | zero => rfl
    | succ n ih =>
      rw [List.range_succ, List.map_append, rc_app]
      simp only [sm, List.map_cons, List.map_nil, rc]
      push_cast
      rw [ih]
      split <;> simp
  have k2 := key m
  by_cases c : p.1 ∣ h - p.2
  · rw [if_pos c]
    obtain ⟨t, ht⟩ := c
    have e : ∀ j : Nat, (if p.1 * (m : Int) ∣ h - (p.2 + p.1 * (j : Int)) then (1 : Int) else 0) = if (m : Int) ∣ (0 + (j : Int)) - t then 1 else 0 := fun j => by
      have e1 : h - (p.2 + p.1 * (j : Int)) = p.1 * (t - j) := by rw [Int.mul_sub, ← ht]; omega
      have e2 : p.1 * (m : Int) ∣ p.1 * (t - j) ↔ (m : Int) ∣ (0 + (j : Int)) - t := by
        rw [Int.mul_dvd_mul_iff_left (by omega : p.1 ≠ 0), show (0 + (j : Int)) - t = -(t - j) by omega, Int.dvd_neg]
      rw [e1]
      simp only [e2]
    have o := one_of (e := (m : Int)) (a := t) (c := 0) (by omega)
    rw [Int.toNat_natCast] at o
    unfold SH at o
    rw [sm_congr (fun j _ => e j), o] at k2
    exact_mod_cast k2
  · rw [if_neg c]
    have e : ∀ j : Nat, (if p.1 * (m : Int) ∣ h - (p.2 + p.1 * (j : Int)) then (1 : Int) else 0) = 0 := fun j => by
      rw [if_neg]
      intro z
      apply c
      have z1 : p.1 ∣ h - (p.2 + p.1 * (j : Int)) := Int.dvd_trans (Int.dvd_mul_right ..) z
      have := Int.dvd_add z1 (Int.dvd_mul_right p.1 (j : Int))
      rwa [show h - (p.2 + p.1 * (j : Int)) + p.1 * (j : Int) = h - p.2 by omega] at this
    rw [sm_congr (fun j _ => e j), sm_zero] at k2
    exact_mod_cast k2
theorem split_at {bs : List (Int × Int)} {i : Nat} (h : i < bs.length) : bs = bs.take i ++ (bAt bs i :: bs.drop (i + 1)) := by
  have e : bAt bs i = bs[i] := by
    have := sel_at h
    rw [List.getElem?_eq_getElem h] at this
    exact (Option.some.inj this).symm
  rw [e, ← List.drop_eq_getElem_cons h, List.take_append_drop]
theorem rc_split {bs : List (Int × Int)} {i m : Nat} (hb : ∀ p ∈ bs, 1 ≤ p.1) (hi : i < bs.length) (hm : 1 ≤ m) (h : Int) : rc (splitL bs i m) h = rc bs h := by
  have hp : 1 ≤ (bAt bs i).1 := hb _ (List.mem_of_getElem? (sel_at hi))
  have e : rc bs h = rc (bs.take i ++ (bAt bs i :: bs.drop (i + 1))) h := by rw [← split_at hi]
  rw [e]
  unfold splitL
  rw [rc_app, rc_app, rc_app, rc_news hp hm]
  simp only [rc]
  omega
theorem news_ok {p : Int × Int} {m : Nat} (hp : Ok p) (hm : 1 ≤ m) (h : p.1 * (m : Int) ≤ 1000000000) : ∀ q ∈ news p m, Ok q := by
  intro q hq
  obtain ⟨j, hj, rfl⟩ := List.mem_map.mp hq
  have hj := List.mem_range.mp hj
  obtain ⟨h1, h2, h3, h4⟩ := hp
  have a1 : p.1 * (j : Int) ≤ p.1 * ((m : Int) - 1) := Int.mul_le_mul_of_nonneg_left (by omega) (by omega)
  have a2 : p.1 * ((m : Int) - 1) = p.1 * m - p.1 := by rw [Int.mul_sub, Int.mul_one]
  have a3 : 0 ≤ p.1 * (j : Int) := Int.mul_nonneg (by omega) (by omega)
  have a4 := Int.mul_le_mul_of_nonneg_left (show (1 : Int) ≤ m by omega) (show 0 ≤ p.1 by omega)
  exact ⟨by show 1 ≤ p.1 * (m : Int); omega, h, by show 0 ≤ p.2 + p.1 * (j : Int); omega, by show p.2 + p.1 * (j : Int) < p.1 * (m : Int); omega⟩
theorem split_len {bs : List (Int × Int)} {i m : Nat} (hi : i < bs.length) : (splitL bs i m).length = bs.length - 1 + m := by
  simp [splitL, news]; omega
theorem split_mem {bs : List (Int × Int)} {i m : Nat} {q : Int × Int} (h : q ∈ splitL bs i m) : q ∈ bs ∨ q ∈ news (bAt bs i) m := by
  unfold splitL at h
  rcases List.mem_append.mp h with h | h
  · exact .inl (List.mem_of_mem_take h)
  · rcases List.mem_append.mp h with h | h
    · exact .inr h
    · exact .inl (List.mem_of_mem_drop h)
theorem sp_lsplit {bs : List (Int × Int)} {i m : Nat} {s : Sto} (hb : OkL bs) (hi : i < bs.length) (hm : m ≤ 14) (hm1 : 1 ≤ m) : d__law_split [.lst (bs.map pD), .int (i : Nat), .int (m : Nat)] s = .ok (.lst ((splitL bs i m).map pD)) s := by
  apply wp_eq
  apply seal_pure
  apply wp_run
  have hl := hb.2
  have hsz : 16777216 = sizeLine := by decide
  obtain ⟨h1, h2, h3, h4⟩ := hb.1 _ (List.mem_of_getElem? (sel_at hi))
  have hat : atI (bs.map pD) (i : Int) = some (.tup [.int (bAt bs i).1, .int (bAt bs i).2]) := by rw [atI_nat, List.getElem?_map, sel_at hi]; rfl
  generalize hM : (m : Int) = M
  simp [b__law_split, hat, wipeD]
  have hM2 : M.toNat = m := by omega
  refine ⟨rngOk_of (by omega) (by omega), by omega, ?_⟩
  rw [hM2, rngD0, lcL_map (cv := fun i : Nat => D.int (i : Int)) (fun j => pD ((bAt bs i).1 * (m : Int), (bAt bs i).2 + (bAt bs i).1 * (j : Int))) (List.range m) (fun j hj => ⟨_, by simp; rfl, rfl, wp_eq (by
    have hj := List.mem_range.mp hj
    simp [pD]
    exact ⟨mok (.inr ⟨by omega, by omega⟩), mok (.inr ⟨by omega, by omega⟩), by decide, by rw [hM]⟩)⟩)]
  have e1 : cut (bs.map pD) none (some (i : Int)) = (bs.take i).map pD := by rw [cut_to, List.map_take]
  have e2 : cut (bs.map pD) (some ((i : Int) + 1)) none = (bs.drop (i + 1)).map pD := by rw [cut_drop _ (k := i + 1) (by push_cast; rfl) (by simp; omega), List.map_drop]
  simp [e1, e2]
  refine ⟨by omega, by omega, ?_⟩
  simp [splitL, news, Function.comp_def]
  have en : ((List.range m).map fun j : Nat => pD ((bAt bs i).1 * (m : Int), (bAt bs i).2 + (bAt bs i).1 * (j : Int))) = (news (bAt bs i) m).map pD := by simp [news, Function.comp_def]
  rw [en, ← List.map_take, ← List.map_drop]
  exact ⟨closedL_pD, closedL_pD, closedL_pD⟩
/-- moved -/
def movL (bs : List (Int × Int)) (b : Int) : List (Int × Int) := bs.map fun p => (p.1, (p.2 + b) % p.1)
theorem mov_ok {bs : List (Int × Int)} {b : Int} (h : ∀ p ∈ bs, Ok p) : ∀ p ∈ movL bs b, Ok p := fun p hp => by
  obtain ⟨q, hq, rfl⟩ := List.mem_map.mp hp
  obtain ⟨h1, h2, h3, h4⟩ := h q hq
  exact ⟨h1, h2, Int.emod_nonneg _ (by omega), Int.emod_lt_of_pos _ (by omega)⟩
theorem dvd_mov {e a b h : Int} : e ∣ h - (a + b) % e ↔ e ∣ h - b - a := by
  have := Int.emod_add_mul_ediv (a + b) e
  rw [show h - (a + b) % e = h - b - a + e * ((a + b) / e) by omega]
  constructor
  · intro z
    have := Int.dvd_sub z (Int.dvd_mul_right e ((a + b) / e))
    rwa [show h - b - a + e * ((a + b) / e) - e * ((a + b) / e) = h - b - a by omega] at this
  · intro z
    exact Int.dvd_add z (Int.dvd_mul_right ..)
theorem rc_mov {b h : Int} : ∀ {bs : List (Int × Int)}, rc (movL bs b) h = rc bs (h - b)
  | [] => rfl
  | p :: r => by
    have ih := rc_mov (b := b) (h := h) (bs := r)
    unfold movL at ih ⊢
    simp only [List.map_cons, rc, ih, dvd_mov]
end QS.K14
end

section
set_option Elab.async false
set_option linter.all false
set_option maxRecDepth 100000
set_option maxHeartbeats 1000000
namespace QS.K14
open PySem PySem.Spec PyProof.Rows L2 QS QS.MA
/-- exact bells of small numbers -/
structure Gr (most : Nat) (wide : Int) (ys : List (Int × Int)) : Prop where
  ok : ∀ p ∈ ys, Ok p
  le : ∀ p ∈ ys, p.1 ≤ wide
  len : ys.length ≤ most
  one : 1 ≤ ys.length
  ex : ∀ h, rc ys h = 1
theorem wp_grown {n g : Nat} {s : Sto} {most : Nat} {wide : Int} (hb : BgAt n g s) (hm : 1 ≤ most) (hm2 : most ≤ 14) (hw : 1 ≤ wide) (hw2 : wide ≤ 1000000000) :
    wp (d__law_grown [.loc n, .int (most : Nat), .int wide] s) fun d s' => ∃ ys : List (Int × Int), d = .lst (ys.map pD) ∧ Gr most wide ys ∧ Bs n g s s' := by
  have hlt := hb.lt
  have hsz : 16777216 = sizeLine := by decide
  have h2 : 2 ≤ sizeLine := by decide
  have h10 : 1 ≤ sizeLine := by decide
  have hpw : PowOk 10 9 := by decide
  generalize hM : (most : Int) = M
  apply seal_bag hlt
  apply wp_run
  simp [b__law_grown, h2, h10]
  refine (sp_pick hb (by decide) (by decide)).mono ?_
  rintro d s1 ⟨r, rfl, r0, r1, H1⟩
  simp
  refine ⟨rngOk_of (by omega) (by omega), ?_⟩
  obtain ⟨P, hP⟩ : ∃ P : List D → En → Sto → Prop, P = fun l ρ s2 => Bs n g s s2 ∧ ∃ (fs : List (Int × Int)) (x4 x5 x6 x7 x8 x9 : Option D), ρ = [some (.loc n), some (.int M), some (.int wide), some (.lst (fs.map pD)), x4, x5, x6, x7, x8, x9] ∧ Gr most wide fs := ⟨_, rfl⟩
  refine wps_forL P ?_ ?_ _ _ _ (by
    rw [hP]
    refine ⟨H1, [(1, 0)], _, _, _, _, _, _, rfl, ⟨fun p hp => ?_, fun p hp => ?_, by simpa using hm, by simp, fun h => by simp [rc]⟩⟩
    · simp at hp; subst hp; exact ⟨by decide, by decide, by decide, by decide⟩
    · simp at hp; subst hp; exact hw)
  · intro d l ρ s2 hI
    rw [hP] at hI
    obtain ⟨hx, fs, x4, x5, x6, x7, x8, x9, rfl, G⟩ := hI
    have hl1 := G.one
    have hl2 := G.len
    simp
    refine (sp_pick hx.at_ (by omega) (by omega)).mono ?_
    rintro d1 s3 ⟨r, rfl, r0, r1, H2⟩
    obtain ⟨i, rfl⟩ := Int.eq_ofNat_of_zero_le r0
    have hi : i < fs.length := by omega
    simp
    refine (sp_pick H2.at_ (by decide) (by decide)).mono ?_
    rintro d1 s4 ⟨r, rfl, q0, q1, H3⟩
    obtain ⟨hp1, hp2, hp3, hp4⟩ := G.ok _ (List.mem_of_getElem? (sel_at hi))
    have hat : atI (fs.map pD) (i : Int) = some (.tup [.int (bAt fs i).1, .int (bAt fs i).2]) := by rw [atI_nat, List.getElem?_map, sel_at hi]; rfl
    obtain ⟨m, hm⟩ : ∃ m : Nat, 2 + r = m := ⟨(2 + r).toNat, by omega⟩
    have H4 : Bs n g s s4 := hx.trans (H2.trans H3)
    have hok : OkL fs := ⟨G.ok, by omega⟩
    simp [hat, hm]
    have stay : P l [some (.loc n), some (.int M), some (.int wide), some (.lst (fs.map pD)), some d, x5, some (.int i), some (.int m), x8, x9] s4 := by
      rw [hP]; exact ⟨H4, fs, _, _, _, _, _, _, rfl, G⟩
    by_cases c1 : (fs.length : Int) - 1 + m ≤ M
    · have mo : MulOk (bAt fs i).1 (m : Int) := mok (.inr ⟨by omega, by omega⟩)
      by_cases c2 : (bAt fs i).1 * (m : Int) ≤ wide
      · simp [c1, c2, mo]
        have sp := sp_lsplit (s := s4) hok hi (m := m) (by omega) (by omega)
        rw [sp, wp_ok, hP]
        refine ⟨H4, splitL fs i m, _, _, _, _, _, _, rfl, ⟨fun p hp => ?_, fun p hp => ?_, by rw [split_len hi]; omega, by rw [split_len hi]; omega, fun h => by rw [rc_split (fun p hp => (G.ok p hp).1) hi (by omega)]; exact G.ex h⟩⟩
        · rcases split_mem hp with hp | hp
          · exact G.ok p hp
          · exact news_ok ⟨hp1, hp2, hp3, hp4⟩ (by omega) (by omega) p hp
        · rcases split_mem hp with hp | hp
          · exact G.le p hp
          · obtain ⟨j, _, rfl⟩ := List.mem_map.mp hp
            exact c2
      · simp [c1, c2, mo]
        exact stay
    · simp [c1]
      exact stay
  · intro ρ s2 hI
    rw [hP] at hI
    obtain ⟨hx, fs, x4, x5, x6, x7, x8, x9, rfl, G⟩ := hI
    have hl2 := G.len
    simp [hpw]
    refine (sp_pick hx.at_ (by decide) (by decide)).mono ?_
    rintro d1 s3 ⟨r, rfl, r0, r1, H2⟩
    simp [wipeD]
    refine ⟨by omega, ?_⟩
    rw [lcL_map (cv := pD) (fun p => pD (p.1, (p.2 + r) % p.1)) fs (fun p hp => ⟨_, by simp [pD]; rfl, rfl, wp_eq (by
      obtain ⟨h1, h2, h3, h4⟩ := G.ok p hp
      simp [pD]
      exact ⟨by omega, by decide⟩)⟩)]
    have e : (fs.map fun p => pD (p.1, (p.2 + r) % p.1)) = (movL fs r).map pD := by simp [movL, Function.comp_def]
    simp only [wp_ok, wpv_new, Bool.false_eq_true, if_false]
    rw [e]
    refine ⟨(hx.trans H2).x, _, frz_closed (by simp), fun s2 h2 => ⟨movL fs r, rfl, ⟨mov_ok G.ok, fun p hp => ?_, by simpa [movL] using G.len, by simpa [movL] using G.one, fun h => by rw [rc_mov]; exact G.ex _⟩, h2⟩⟩
    obtain ⟨q, hq, rfl⟩ := List.mem_map.mp hp
    exact G.le q hq
/-- small bells -/
structure Sm (bs : List (Int × Int)) : Prop where
  ok : ∀ p ∈ bs, Ok p
  le : ∀ p ∈ bs, p.1 ≤ 12
  len : bs.length ≤ 6
  one : 1 ≤ bs.length
theorem wp_small {n g : Nat} {s : Sto} (hb : BgAt n g s) : wp (d__law_small [.loc n] s) fun d s' => ∃ bs : List (Int × Int), d = .lst (bs.map pD) ∧ Sm bs ∧ Bs n g s s' := by
  have hlt := hb.lt
  have hsz : 16777216 = sizeLine := by decide
  have h2 : 2 ≤ sizeLine := by decide
  have h1 : 1 ≤ sizeLine := by decide
  have h8 : 8 ≤ sizeLine := by decide
  have h5 : 5 ≤ sizeLine := by decide
  apply seal_bag hlt
  apply wp_run
  simp [b__law_small, h2, h8]
  refine (sp_pick hb (by decide) (by decide)).mono ?_
  rintro d s1 ⟨kd, rfl, k0, k1, H1⟩
  have L1 : s1.length = s.length := H1.len
  refine (sp_pick (H1.at_.app _) (by decide) (by decide)).mono ?_
  rintro d s2 ⟨r, rfl, r0, r1, H2⟩
  simp
  refine ⟨rngOk_of (by omega) (by omega), ?_⟩
  have X2 : Bx n g s s2 := (H1.x.trans (Bx.app H1.at_ _)).trans H2.x
  have A2 : s2[s.length]? = some (.lst []) := by
    rw [H2.same _ (by omega) (by omega), ← L1]; simp
  rw [L1]
  -- behind the first loop
  obtain ⟨P, hP⟩ : ∃ P : List D → En → Sto → Prop, P = fun l ρ s3 => Bx n g s s3 ∧ ∃ (bs : List (Int × Int)) (x3 x4 : Option D) (k j : Nat), s3[s.length]? = some (.lst (bs.map pD)) ∧ ρ = [some (.loc n), some (.int kd), some (.loc s.length), x3, x4, none] ∧ l = rngD k j ∧ ((k + j : Nat) : Int) = 1 + r ∧ bs.length = k ∧ (∀ p ∈ bs, Ok p) ∧ (∀ p ∈ bs, p.1 ≤ 12) := ⟨_, rfl⟩
  refine wps_forL P ?_ ?_ _ _ _ (by rw [hP]; exact ⟨X2, [], _, _, 0, (1 + r).toNat, A2, rfl, rfl, by omega, rfl, fun p hp => (nomatch hp), fun p hp => (nomatch hp)⟩)
  · intro d l ρ s3 hI
    rw [hP] at hI
    obtain ⟨hx, bs, x3, x4, k, j, hs, rfl, hl, hk, hbl, hok, hle⟩ := hI
    cases j with
    | zero => cases hl
    | succ j =>
      rw [rngD_succ] at hl
      cases hl
      simp [h8]
      refine (sp_some (rows := [.int 1, .int 2, .int 3, .int 4, .int 6, .int 8, .int 12, .int 5]) hx.at_ (by decide) (by decide) (by simp)).mono ?_
      rintro d s4 ⟨hd, H3⟩
      obtain ⟨e, rfl, e1, e2⟩ : ∃ e : Int, d = .int e ∧ 1 ≤ e ∧ e ≤ 12 := by
        simp at hd
        rcases hd with rfl | rfl | rfl | rfl | rfl | rfl | rfl | rfl <;> exact ⟨_, rfl, by decide, by decide⟩
      have A4 : s4[s.length]? = some (.lst (bs.map pD)) := by rw [H3.same _ (by omega) (by omega)]; exact hs
      simp [tyB_loc A4]
      refine (sp_pick H3.at_ (by omega) (by omega)).mono ?_
      rintro d s5 ⟨a, rfl, a0, a1, H4⟩
      have A5 : s5[s.length]? = some (.lst (bs.map pD)) := by rw [H4.same _ (by omega) (by omega)]; exact A4
      simp [A5, h2]
      refine ⟨by omega, ?_⟩
      have X5 : Bx n g s s5 := hx.trans (H3.trans H4).x
      rw [hP]
      refine ⟨X5.write hlt (Nat.le_refl _), bs ++ [(e, a)], _, _, k + 1, j, ?_, rfl, by push_cast; rfl, by omega, by simp [hbl], fun p hp => ?_, fun p hp => ?_⟩
      · rw [List.getElem?_set_self ((List.getElem?_eq_some_iff.mp A5).1)]; simp [pD]
      · rcases List.mem_append.mp hp with hp | hp
        · exact hok p hp
        · simp at hp; subst hp; exact ⟨e1, by show e ≤ _; omega, a0, a1⟩
      · rcases List.mem_append.mp hp with hp | hp
        · exact hle p hp
        · simp at hp; subst hp; exact e2
  · intro ρ s3 hI
    rw [hP] at hI
    obtain ⟨hx, bs, x3, x4, k, j, hs, rfl, hl, hk, hbl, hok, hle⟩ := hI
    cases j with
    | succ n => rw [rngD_succ] at hl; cases hl
    | zero =>
      have S0 : Sm bs := ⟨hok, hle, by omega, by omega⟩
      clear hP P hl hk hok hle hbl A2 X2 H2 H1
      -- from here on: pairs at x, a list of the store or not
      have tail : ∀ (x : D) (bs : List (Int × Int)) (t : Sto) (x3 x4 : Option D), Bx n g s t → lstOf t x = some (bs.map pD) → (x = .lst (bs.map pD) ∨ ∃ j, x = .loc j ∧ s.length ≤ j) → Sm bs →
          wps (r5__law_small [some (.loc n), some (.int kd), some x, x3, x4, none] t)
          (fun _ _ => False) (fun d s1 => Bx n g s s1 ∧ ∃ d', frz 4 s.length s1 d = some d' ∧ ∀ s2, Bs n g s s2 → ∃ bs : List (Int × Int), d' = .lst (bs.map pD) ∧ Sm bs ∧ Bs n g s s2) := by
        intro x bs t x3 x4 hx hl hxx S0
        have hlen1 := S0.one
        have hlen2 := S0.len
        have fin : ∀ (t' : Sto) (x : D) (bs : List (Int × Int)), Bx n g s t' → lstOf t' x = some (bs.map pD) → (x = .lst (bs.map pD) ∨ ∃ j, x = .loc j ∧ s.length ≤ j) → Sm bs → Bx n g s t' ∧ ∃ d', frz 4 s.length t' x = some d' ∧ ∀ s2, Bs n g s s2 → ∃ bs : List (Int × Int), d' = .lst (bs.map pD) ∧ Sm bs ∧ Bs n g s s2 := by
          intro t' x bs hx hl hxx S0
          refine ⟨hx, .lst (bs.map pD), ?_, fun s2 h2 => ⟨bs, rfl, S0, h2⟩⟩
          rcases hxx with rfl | ⟨j, rfl, hj⟩
          · exact frz_closed (by simp)
          · exact frz_lst (show t'[j]? = some (.lst (bs.map pD)) from locL hl) (by omega) (by simp)
        by_cases c : kd < 2
        · simp [r5__law_small, c]
          refine (sp_pick hx.at_ (by decide) (by decide)).mono ?_
          rintro d t1 ⟨r, rfl, r0, r1, H5⟩
          have hl1 : lstOf t1 x = some (bs.map pD) := by
            rcases hxx with rfl | ⟨j, rfl, hj⟩
            · exact hl
            · have : t[j]? = some (.lst (bs.map pD)) := locL hl
              exact lstOf_loc (by rw [H5.same _ (by omega) (by omega)]; exact this)
          by_cases c2 : r = 0
          · simp [c2, wpv_len_l hl1]
            refine (sp_pick H5.at_ (by omega) (by omega)).mono ?_
            rintro d t2 ⟨r, rfl, r0, r1, H6⟩
            obtain ⟨i, rfl⟩ := Int.eq_ofNat_of_zero_le r0
            have hi : i < bs.length := by omega
            have hl2 : lstOf t2 x = some (bs.map pD) := by
              rcases hxx with rfl | ⟨j, rfl, hj⟩
              · exact hl1
              · have : t1[j]? = some (.lst (bs.map pD)) := locL hl1
                exact lstOf_loc (by rw [H6.same _ (by omega) (by omega)]; exact this)
            have hat : atI (bs.map pD) (i : Int) = some (.tup [.int (bAt bs i).1, .int (bAt bs i).2]) := by rw [atI_nat, List.getElem?_map, sel_at hi]; rfl
            obtain ⟨p1, p2, p3, p4⟩ := S0.ok _ (List.mem_of_getElem? (sel_at hi))
            have p5 := S0.le _ (List.mem_of_getElem? (sel_at hi))
            simp [wpv_ix_l hl2, hat, gSl_l hl2]
            refine (sp_pick H6.at_ (by omega) (by omega)).mono ?_
            rintro d t3 ⟨a, rfl, a0, a1, H7⟩
            have hl3 : lstOf t3 x = some (bs.map pD) := by
              rcases hxx with rfl | ⟨j, rfl, hj⟩
              · exact hl2
              · have : t2[j]? = some (.lst (bs.map pD)) := locL hl2
                exact lstOf_loc (by rw [H7.same _ (by omega) (by omega)]; exact this)
            have e1 : cut (bs.map pD) none (some (i : Int)) = (bs.take i).map pD := by rw [cut_to, List.map_take]
            have e2 : cut (bs.map pD) (some ((i : Int) + 1)) none = (bs.drop (i + 1)).map pD := by rw [cut_drop _ (k := i + 1) (by push_cast; rfl) (by simp; omega), List.map_drop]
            simp [e1, e2, gSl_l hl3, h2, h1]
            refine ⟨by omega, by omega, ?_⟩
            have eL : (bs.map pD).take i ++ D.tup [.int (bAt bs i).1, .int a] :: (bs.map pD).drop (i + 1) = (bs.take i ++ (((bAt bs i).1, a) :: bs.drop (i + 1))).map pD := by simp [pD]
            rw [eL]
            have X3 : Bx n g s t3 := hx.trans (H5.trans (H6.trans H7)).x
            refine fin _ _ (bs.take i ++ (((bAt bs i).1, a) :: bs.drop (i + 1))) (X3.trans (Bx.app X3.at_ _)) (lstOf_loc (by simp)) (.inr ⟨_, rfl, X3.len⟩) ⟨fun p hp => ?_, fun p hp => ?_, by simp; omega, by simp; omega⟩
            · rcases List.mem_append.mp hp with hp | hp
              · exact S0.ok p (List.mem_of_mem_take hp)
              · rcases List.mem_cons.mp hp with rfl | hp
                · exact ⟨p1, p2, a0, a1⟩
                · exact S0.ok p (List.mem_of_mem_drop hp)
            · rcases List.mem_append.mp hp with hp | hp
              · exact S0.le p (List.mem_of_mem_take hp)
              · rcases List.mem_cons.mp hp with rfl | hp
                · exact p5
                · exact S0.le p (List.mem_of_mem_drop hp)
          · simp [c2]
            exact fin _ _ _ (hx.trans H5.x) hl1 hxx S0
        · simp [r5__law_small, c]
          exact fin _ _ _ hx hl hxx S0
      have known : Sm [(2, 0), (3, 0), (4, 1), (6, 5), (12, 7)] := ⟨by simp [Ok], by simp, by simp, by simp⟩
      have conv : ∀ (ρ : En) (t : Sto), wps (r5__law_small ρ t) (fun _ _ => False) (fun d s1 => Bx n g s s1 ∧ ∃ d', frz 4 s.length s1 d = some d' ∧ ∀ s2, Bs n g s s2 → ∃ bs : List (Int × Int), d' = .lst (bs.map pD) ∧ Sm bs ∧ Bs n g s s2) →
          wps (r5__law_small ρ t) (fun _ s' => Bx n g s s' ∧ ∃ d', frz 4 s.length s' .non = some d' ∧ ∀ s2, Bs n g s s2 → ∃ bs : List (Int × Int), d' = .lst (bs.map pD) ∧ Sm bs ∧ Bs n g s s2) (fun d s1 => Bx n g s s1 ∧ ∃ d', frz 4 s.length s1 d = some d' ∧ ∀ s2, Bs n g s s2 → ∃ bs : List (Int × Int), d' = .lst (bs.map pD) ∧ Sm bs ∧ Bs n g s s2) (fun x _ s1 => Bx n g s s1 ∧ (∀ p, x.arg = some p → closed s.length p.2 = true) ∧ ∀ s2, Bs n g s s2 → noX x s2) := fun ρ t h => (h.noX).mono (fun _ _ z => z.elim) fun _ _ z => z
      by_cases c0 : kd = 0
      · simp [r3__law_small, r4__law_small, c0, h5, h2]
        have X4 := hx.trans (Bx.app hx.at_ [O.lst [D.tup [.int 2, .int 0], .tup [.int 3, .int 0], .tup [.int 4, .int 1], .tup [.int 6, .int 5], .tup [.int 12, .int 7]]])
        have := conv _ _ (tail (.loc s3.length) [(2, 0), (3, 0), (4, 1), (6, 5), (12, 7)] _ x3 x4 X4 (lstOf_loc (by simp [pD])) (.inr ⟨_, rfl, hx.len⟩) known)
        rw [c0] at this
        simpa using this
      · by_cases c1 : kd = 1
        · simp [r3__law_small, r4__law_small, c0, c1]
          refine (wp_grown (most := 6) (wide := 12) hx.at_ (by decide) (by decide) (by decide) (by decide)).mono ?_
          rintro d t ⟨ys, rfl, G, H5⟩
          have := conv _ _ (tail (.lst (ys.map pD)) ys t x3 x4 (hx.trans H5.x) rfl (.inl rfl) ⟨G.ok, G.le, G.len, G.one⟩)
          rw [c1] at this
          simpa using this
        · simp [r3__law_small, r4__law_small, c0, c1]
          have := conv _ _ (tail (.loc s.length) bs s3 x3 x4 hx (lstOf_loc hs) (.inr ⟨_, rfl, Nat.le_refl _⟩) S0)
          simpa using this
end QS.K14
end

section
set_option Elab.async false
set_option linter.all false
set_option maxRecDepth 100000
set_option maxHeartbeats 1000000
namespace QS.K14
open PySem PySem.Spec PyProof.Rows L2 QS QS.MA
theorem enu_filter {α : Type} (p : α → Bool) : ∀ (l : List α) (j : Nat), ((enu j l).filter fun x => p x.2).length = (l.filter p).length
  | [], j => rfl
  | a :: r, j => by
    have ih := enu_filter p r (j + 1)
    simp only [enu, List.filter_cons]
    split <;> simp [ih]
theorem ringL_len {bs : List (Int × Int)} {h : Int} (hb : ∀ p ∈ bs, Ok p) : (ringL bs h).length = rc bs h := by
  unfold ringL
  rw [List.length_map, enu_filter (fun q : Int × Int => decide (h % q.1 = q.2))]
  induction bs with
  | nil => rfl
  | cons p r ih =>
    have := ih fun q hq => hb q (List.mem_cons_of_mem _ hq)
    obtain ⟨h1, h2, h3, h4⟩ := hb p (List.mem_cons_self ..)
    have e := emod_eq_iff (h := h) h1 h3 h4
    simp only [List.filter_cons, rc]
    by_cases c : p.1 ∣ h - p.2
    · simp [e.mpr c, c]; omega
    · have c2 : ¬ h % p.1 = p.2 := fun z => c (e.mp z)
      simp [c2, c]; omega
theorem rc_loud {bs : List (Int × Int)} {h : Int} (hb : ∀ p ∈ bs, Ok p) : loud bs h = true ↔ 1 ≤ rc bs h := by
  rw [loud_iff hb]
  clear hb
  induction bs with
  | nil => simp [rc]
  | cons p r ih =>
    simp only [rc, List.mem_cons, exists_eq_or_imp]
    rw [ih]
    by_cases c : p.1 ∣ h - p.2
    · simp [c]
    · simp [c]
/-- the counts of the first m hours -/
def hrs (bs : List (Int × Int)) (m : Nat) : List Int := (List.range (bs.length + 1)).map fun k => sm m fun i => if rc bs (0 + (i : Int)) = k then 1 else 0
theorem hrs_step (bs : List (Int × Int)) (m : Nat) (hr : rc bs (m : Int) < (hrs bs m).length) : (hrs bs m).set (rc bs m) ((hrs bs m)[rc bs m] + 1) = hrs bs (m + 1) := by
  apply List.ext_getElem
  · simp [hrs]
  · intro i h1 h2
    rw [List.getElem_set]
    have hi : i < bs.length + 1 := by simp [hrs] at h2; omega
    by_cases e : rc bs (m : Int) = i
    · subst e
      simp [hrs, sm]
    · simp [hrs, sm, e]
theorem sm_full {p : Nat → Prop} [∀ i, Decidable (p i)] : ∀ n : Nat, sm n (fun i => if p i then 1 else 0) ≤ n ∧ (sm n (fun i => if p i then 1 else 0) = n ↔ ∀ i, i < n → p i)
  | 0 => ⟨by simp [sm], by simp [sm]⟩
  | n + 1 => by
    obtain ⟨h1, h2⟩ := sm_full (p := p) n
    simp only [sm]
    by_cases c : p n
    · simp only [c, if_true]
      refine ⟨by omega, ⟨fun h i hi => ?_, fun h => ?_⟩⟩
      · by_cases e : i = n
        · subst e; exact c
        · exact h2.mp (by omega) i (by omega)
      · have := h2.mpr fun i hi => h i (by omega)
        omega
    · simp only [c, if_false]
      refine ⟨by omega, ⟨fun h => by omega, fun h => absurd (h n (by omega)) c⟩⟩
theorem rc_per {bs : List (Int × Int)} {W : Int} (h : ∀ p ∈ bs, p.1 ∣ W) (x k : Int) : rc bs (x + W * k) = rc bs x := by
  induction bs with
  | nil => rfl
  | cons p r ih =>
    have := ih fun q hq => h q (List.mem_cons_of_mem _ hq)
    have e : p.1 ∣ x + W * k - p.2 ↔ p.1 ∣ x - p.2 := by
      have hd : p.1 ∣ W * k := Int.dvd_mul_of_dvd_left (h p (List.mem_cons_self ..))
      constructor
      · intro z
        have := Int.dvd_sub z hd
        rwa [show x + W * k - p.2 - W * k = x - p.2 by omega] at this
      · intro z
        have := Int.dvd_add z hd
        rwa [show x - p.2 + W * k = x + W * k - p.2 by omega] at this
    simp only [rc, this, e]
theorem Nk_full {bs : List (Int × Int)} (hb : ∀ p ∈ bs, Ok p) (k : Nat) : Nk bs k = Wl bs 1 ↔ ∀ h, rc bs h = k := by
  obtain ⟨w1, _, w2⟩ := dvd_Wl (bs := bs) (w := 1) (fun p hp => (hb p hp).1) (by omega)
  have key := (sm_full (p := fun i : Nat => rc bs (0 + (i : Int)) = k) (Wl bs 1).toNat).2
  have e : (((Wl bs 1).toNat : Nat) : Int) = Wl bs 1 := by omega
  unfold Nk SH
  rw [e] at key
  rw [key]
  constructor
  · intro h x
    have e0 := Int.emod_nonneg x (show Wl bs 1 ≠ 0 by omega)
    have e1 := Int.emod_lt_of_pos x (show 0 < Wl bs 1 by omega)
    have e2 := Int.emod_add_mul_ediv x (Wl bs 1)
    have := h (x % Wl bs 1).toNat (by omega)
    rw [show (0 : Int) + ((x % Wl bs 1).toNat : Int) = x % Wl bs 1 by omega] at this
    rw [← this, ← rc_per w2 (x % Wl bs 1) (x / Wl bs 1), e2]
  · intro h i _
    exact h _
theorem bAt_mem {bs : List (Int × Int)} {p : Int × Int} : p ∈ bs ↔ ∃ i, i < bs.length ∧ bAt bs i = p := by
  constructor
  · intro h
    obtain ⟨i, hi, e⟩ := List.mem_iff_getElem.mp h
    refine ⟨i, hi, ?_⟩
    have := sel_at hi
    rw [List.getElem?_eq_getElem hi, e] at this
    exact (Option.some.inj this).symm
  · rintro ⟨i, hi, rfl⟩
    exact List.mem_of_getElem? (sel_at hi)
/-- at most one rings -/
theorem rc_one : ∀ {bs : List (Int × Int)}, (∀ h, rc bs h ≤ 1) ↔ bs.Pairwise fun p q => ¬ ∃ h, p.1 ∣ h - p.2 ∧ q.1 ∣ h - q.2
  | [] => by simp [rc]
  | p :: r => by
    rw [List.pairwise_cons, ← rc_one (bs := r)]
    have mem : ∀ {bs : List (Int × Int)} {h : Int}, 1 ≤ rc bs h ↔ ∃ q ∈ bs, q.1 ∣ h - q.2 := fun {bs h} => by
      induction bs with
      | nil => simp [rc]
      | cons q t ih =>
        simp only [rc, List.mem_cons, exists_eq_or_imp]
        rw [← ih]
        by_cases c : q.1 ∣ h - q.2
        · simp [c]
        · simp [c]
    constructor
    · intro h
      refine ⟨fun q hq ⟨x, h1, h2⟩ => ?_, fun x => ?_⟩
      · have a := h x
        simp only [rc, h1, if_true] at a
        have b := mem.mpr ⟨q, hq, h2⟩
        omega
      · have := h x
        simp only [rc] at this
        omega
    · rintro ⟨h1, h2⟩ x
      simp only [rc]
      by_cases c : p.1 ∣ x - p.2
      · by_cases z : 1 ≤ rc r x
        · obtain ⟨q, hq, d⟩ := mem.mp z
          exact absurd ⟨x, c, d⟩ (h1 q hq)
        · simp [c]; omega
      · simp [c]; exact h2 x
theorem pairwise_range {bs : List (Int × Int)} {R : Int × Int → Int × Int → Prop} : (List.range bs.length).Pairwise (fun a b => R (bAt bs a) (bAt bs b)) ↔ bs.Pairwise R := by
  have e : bs = (List.range bs.length).map (bAt bs) := by
    apply List.ext_getElem
    · simp
    · intro i h1 h2
      have := sel_at h1
      rw [List.getElem?_eq_getElem h1] at this
      simpa using Option.some.inj this
  have : bs.Pairwise R ↔ ((List.range bs.length).map (bAt bs)).Pairwise R := by rw [← e]
  rw [this, List.pairwise_map]
theorem exactB_iff {bs : List (Int × Int)} (hb : ∀ p ∈ bs, Ok p) : exactB bs = true ↔ ∀ h, rc bs h = 1 := by
  unfold exactB
  rw [Bool.and_eq_true, Option.isNone_iff_eq_none, Option.isNone_iff_eq_none, rawF_none, fq_none hb (.inl rfl)]
  have e : (List.range bs.length).Pairwise (fun a b => meets (bAt bs a) (bAt bs b) ≠ true) ↔ ∀ h, rc bs h ≤ 1 := by
    rw [rc_one, pairwise_range (R := fun p q => meets p q ≠ true)]
    constructor
    · intro h
      refine List.Pairwise.imp_of_mem (fun {p q} hp hq z => ?_) h
      rwa [Ne, meets_iff (hb q hq)] at z
    · intro h
      refine List.Pairwise.imp_of_mem (fun {p q} hp hq z => ?_) h
      rwa [Ne, meets_iff (hb q hq)]
  rw [e]
  constructor
  · rintro ⟨h1, h2⟩ h
    have := h1 h
    have := (rc_loud hb).mp (h2 h)
    omega
  · intro h
    exact ⟨fun x => by rw [h x]; exact Nat.le_refl _, fun x => (rc_loud hb).mpr (by rw [h x]; exact Nat.le_refl _)⟩
theorem Wl_dvd_of {N : Int} : ∀ {bs : List (Int × Int)} {w : Int} (hb : ∀ p ∈ bs, 1 ≤ p.1 ∧ p.1 ∣ N) (hw : 1 ≤ w) (h : w ∣ N), Wl bs w ∣ N
  | [], w, hb, hw, h => h
  | p :: r, w, hb, hw, h => by
    obtain ⟨h1, h2⟩ := hb p (List.mem_cons_self ..)
    exact Wl_dvd_of (bs := r) (fun q hq => hb q (List.mem_cons_of_mem _ hq)) (lcmI_pos hw h1) (lcm_dvd (by omega) (by omega) h h2)
theorem Sm.round {bs : List (Int × Int)} (h : Sm bs) : 1 ≤ Wl bs 1 ∧ Wl bs 1 ≤ 27720 := by
  refine ⟨(dvd_Wl (fun p hp => (h.ok p hp).1) (by omega)).1, Int.le_of_dvd (by decide) (Wl_dvd_of (fun p hp => ⟨(h.ok p hp).1, ?_⟩) (by omega) (by simp))⟩
  have h1 := (h.ok p hp).1
  have h2 := h.le p hp
  have : p.1 = 1 ∨ p.1 = 2 ∨ p.1 = 3 ∨ p.1 = 4 ∨ p.1 = 5 ∨ p.1 = 6 ∨ p.1 = 7 ∨ p.1 = 8 ∨ p.1 = 9 ∨ p.1 = 10 ∨ p.1 = 11 ∨ p.1 = 12 := by omega
  rcases this with e | e | e | e | e | e | e | e | e | e | e | e <;> rw [e] <;> decide
theorem Sm.okl {bs : List (Int × Int)} (h : Sm bs) : OkL bs := ⟨h.ok, by have := h.len; omega⟩
/-- the share in lowest terms -/
theorem share_facts {bs : List (Int × Int)} (hb : ∀ p ∈ bs, Ok p) : (shareF bs).1 * Wl bs 1 = (shareF bs).2 * Nk bs 0 ∧ 1 ≤ (shareF bs).2 ∧ (shareF bs).2 ≤ Wl bs 1 ∧ 0 ≤ (shareF bs).1 ∧ ∀ d : Int, d ∣ (shareF bs).1 → d ∣ (shareF bs).2 → d ∣ 1 := by
  have hW := (dvd_Wl (bs := bs) (w := 1) (fun p hp => (hb p hp).1) (by omega)).1
  obtain ⟨h0, h1⟩ := Nk_nonneg bs 0
  unfold shareF
  by_cases c : 0 < Nk bs 0
  · rw [if_pos c]
    have hg := gcd_le_r (a := Wl bs 1) (b := Nk bs 0) (by omega)
    have d1 : (Int.gcd (Wl bs 1) (Nk bs 0) : Int) ∣ Wl bs 1 := Int.gcd_dvd_left ..
    have d2 : (Int.gcd (Wl bs 1) (Nk bs 0) : Int) ∣ Nk bs 0 := Int.gcd_dvd_right ..
    have hco : Int.gcd (Wl bs 1 / (Int.gcd (Wl bs 1) (Nk bs 0) : Int)) (Nk bs 0 / (Int.gcd (Wl bs 1) (Nk bs 0) : Int)) = 1 := Int.gcd_ediv_gcd_ediv_gcd (by omega)
    generalize (Int.gcd (Wl bs 1) (Nk bs 0) : Int) = g at *
    obtain ⟨u, hu⟩ := d1
    obtain ⟨v, hv⟩ := d2
    have e1 : Wl bs 1 / g = u := by rw [hu]; exact Int.mul_ediv_cancel_left _ (by omega)
    have e2 : Nk bs 0 / g = v := by rw [hv]; exact Int.mul_ediv_cancel_left _ (by omega)
    rw [e1, e2] at hco
    rw [e1, e2]
    have hu1 : 1 ≤ u := by
      by_cases z : 1 ≤ u
      · exact z
      · have := Int.mul_le_mul_of_nonneg_left (show u ≤ 0 by omega) (show 0 ≤ g by omega); omega
    have hv1 : 0 ≤ v := by
      by_cases z : 0 ≤ v
      · exact z
      · have := Int.mul_le_mul_of_nonneg_left (show v ≤ -1 by omega) (show 0 ≤ g by omega); omega
    refine ⟨?_, hu1, ?_, hv1, fun d a b => ?_⟩
    · show v * Wl bs 1 = u * Nk bs 0
      rw [hu, hv, ← Int.mul_assoc, ← Int.mul_assoc, Int.mul_comm v g, Int.mul_comm u g, Int.mul_assoc, Int.mul_assoc, Int.mul_comm u v]
    · show u ≤ Wl bs 1
      have := Int.mul_le_mul_of_nonneg_right (show 1 ≤ g by omega) (show 0 ≤ u by omega)
      omega
    · have : d ∣ (Int.gcd u v : Int) := Int.dvd_coe_gcd b a
      rw [hco] at this
      exact this
  · rw [if_neg c]
    have e : Nk bs 0 = 0 := by omega
    exact ⟨by simp [e], by decide, hW, by decide, fun d _ b => b⟩
end QS.K14
end

section
set_option Elab.async false
set_option linter.all false
set_option maxRecDepth 100000
set_option maxHeartbeats 1000000
namespace QS.K14
open PySem PySem.Spec PyProof.Rows L2 QS QS.MA
theorem wpv_neLI {a b : List Int} {s : Sto} {Q : D → Sto → Prop} : wpv (gNe (.lst (a.map .int)) (.lst (b.map .int)) s) Q = Q (.bl (!decide (a = b))) s := by
  have := (famLst famInt).ne (s := s) (by decide) a b
  rw [show gNe (.lst (a.map .int)) (.lst (b.map .int)) s = _ from this, wpv_some]
theorem wpv_eqLI {a b : List Int} {s : Sto} {Q : D → Sto → Prop} : wpv (gEq (.lst (a.map .int)) (.lst (b.map .int)) s) Q = Q (.bl (decide (a = b))) s := by
  have := (famLst famInt).eq (s := s) (by decide) a b
  rw [show gEq (.lst (a.map .int)) (.lst (b.map .int)) s = _ from this, wpv_some]
def bS (b : Bool) : Str := if b then "True" else "False"
theorem shaped_bS {b : Bool} : SeqAt.shaped (.str (bS b)) = true := by cases b <;> decide +kernel
theorem wpv_reprB {b : Bool} {s : Sto} {Q : D → Sto → Prop} : wpv (gRepr [.bl b] s) Q = Q (.str (bS b)) s := by
  cases b <;> exact wpv_some
theorem wpv_eqbS {a b : Bool} {s : Sto} {Q : D → Sto → Prop} : wpv (gEq (.str (bS a)) (.str (bS b)) s) Q = Q (.bl (decide (a = b))) s := by
  have e : gEq (.str (bS a)) (.str (bS b)) s = some (.bl (decide (a = b)), s) := by
    simp only [gEq, gEqF, datOf, dat0, shaped_bS, and_self, if_true, id, PyData.eqv]
    cases a <;> cases b <;> rfl
  rw [e, wpv_some]
theorem wpv_nebS {a b : Bool} {s : Sto} {Q : D → Sto → Prop} : wpv (gNe (.str (bS a)) (.str (bS b)) s) Q = Q (.bl (!decide (a = b))) s := by
  have e : gNe (.str (bS a)) (.str (bS b)) s = some (.bl (!decide (a = b)), s) := by
    simp only [gNe, gEqF, datOf, dat0, shaped_bS, and_self, if_true, PyData.eqv]
    cases a <;> cases b <;> rfl
  rw [e, wpv_some]
theorem sp_lcounts {bs : List (Int × Int)} {s : Sto} {free : List D} (hS : Sm bs) (hf : (free.length : Int) = Nk bs 0) : d__law_counts_right [mk bs, .lst (bs.map pD), .int (Wl bs 1), .lst free] s = .ok (.bl true) s := by
  have h := hS.okl
  obtain ⟨hW0, hW⟩ := hS.round
  have hb := hS.len
  have hb1 := hS.one
  have hsz : 16777216 = sizeLine := by decide
  obtain ⟨w, hw⟩ : ∃ w, w = Wl bs 1 := ⟨_, rfl⟩
  apply wp_eq
  apply seal_new
  apply wp_run
  rw [← hw] at hW0 hW ⊢
  simp [b__law_counts_right]
  refine ⟨by decide, by omega, by omega, by omega, rngOk_of (by omega) (by omega), ?_⟩
  have hrep : List.replicate (bs.length + 1) (D.int 0) = (hrs bs 0).map D.int := by
    apply List.ext_getElem
    · simp [hrs]
    · intro i h1 h2
      simp [hrs, sm]
  rw [hrep]
  obtain ⟨P, hP⟩ : ∃ P : List D → En → Sto → Prop, P = fun l ρ s1 => ∃ (m n : Nat) (x5 : Option D), s1 = s ++ [.lst ((hrs bs m).map D.int)] ∧ ρ = [some (mk bs), some (.lst (bs.map pD)), some (.int w), some (.lst free), some (.loc s.length), x5, none, none, none] ∧ l = rngD m n ∧ m + n = w.toNat := ⟨_, rfl⟩
  refine wps_forL P ?_ ?_ _ _ _ (by rw [hP]; exact ⟨0, _, _, rfl, rfl, rfl, by omega⟩)
  · intro d l ρ s1 hI
    rw [hP] at hI
    obtain ⟨m, n, x5, rfl, rfl, hl, hm⟩ := hI
    cases n with
    | zero => cases hl
    | succ n =>
      rw [rngD_succ] at hl
      cases hl
      have hrl := ringL_len (h := (m : Int)) h.1
      have hrle := rc_le bs (m : Int)
      have hhl : (hrs bs m).length = bs.length + 1 := by simp [hrs]
      have hat : atI ((hrs bs m).map D.int) ((rc bs m : Nat) : Int) = some (D.int ((hrs bs m)[rc bs m]'(by omega))) := by
        rw [atI_nat, List.getElem?_map, List.getElem?_eq_getElem (by omega)]; rfl
      simp [sp_lrings h, hrl, hat, ixN_nat, hhl, show rc bs m < bs.length + 1 by omega]
      rw [hP]
      refine ⟨m + 1, n, _, ?_, rfl, by push_cast; rfl, by omega⟩
      rw [← hrs_step bs m (by omega), List.map_set]
  · intro ρ s1 hI
    rw [hP] at hI
    obtain ⟨m, n, x5, rfl, rfl, hl, hm⟩ := hI
    cases n with
    | succ n => rw [rngD_succ] at hl; cases hl
    | zero =>
      have : m = w.toNat := by omega
      subst this
      have e : hrs bs w.toNat = cntL bs := by unfold hrs cntL Nk SH; rw [hw]
      obtain ⟨f1, f2, f3, f4, f5⟩ := share_facts h.1
      rw [← hw] at f1 f3
      have c0 : (cntL bs)[0]? = some (Nk bs 0) := by simp [cntL]
      have c1 : (cntL bs)[1]? = some (Nk bs 1) := by simp [cntL, show 1 < bs.length + 1 by omega]
      simp [r2__law_counts_right, sp_counts h, e]
      rw [wpv_neTI]
      simp [c0, hf, r3__law_counts_right, sp_share h, pD, f1]
      refine ⟨mok (.inr ⟨by omega, by omega⟩), mok (.inl ⟨by omega, by omega⟩), ?_⟩
      have f2' : ¬ (shareF bs).2 < 1 := by omega
      simp [f2', r5__law_counts_right, wipeD]
      refine ⟨rngOk_of (by omega) (by omega), rngOk_of (by omega) (by omega), by omega, ?_⟩
      have er : rngD 2 ((shareF bs).2 + 1 - 2).toNat = (List.range ((shareF bs).2 + 1 - 2).toNat).map fun i : Nat => D.int (2 + (i : Nat)) := rfl
      rw [er, lcL_pure (cv := fun i : Nat => D.int (2 + (i : Nat))) (fun i => decide ((shareF bs).1 % (2 + (i : Int)) = 0)) (fun i => D.int (2 + (i : Nat))) (List.range ((shareF bs).2 + 1 - 2).toNat) (fun i hi => ⟨_, by simp; rfl, wp_eq (by simp; omega), fun _ => wp_eq (by simp)⟩)]
      simp only [wp_ok, wpv_new, Bool.false_eq_true, if_false]
      have hlen : ((List.range ((shareF bs).2 + 1 - 2).toNat).filter fun i : Nat => decide ((shareF bs).1 % (2 + (i : Int)) = 0)).length ≤ ((shareF bs).2 + 1 - 2).toNat := by
        have := List.length_filter_le (fun i : Nat => decide ((shareF bs).1 % (2 + (i : Int)) = 0)) (List.range ((shareF bs).2 + 1 - 2).toNat)
        simpa using this
      simp
      refine ⟨by omega, ?_⟩
      rw [lcL_map (cv := fun i : Nat => D.int (2 + (i : Nat))) (fun i => D.bl false) _ (fun i hi => ⟨_, by simp; rfl, rfl, wp_eq (by
        have hi2 := (List.mem_filter.mp hi).2
        have hd : (2 + (i : Int)) ∣ (shareF bs).1 := Int.dvd_of_emod_eq_zero (of_decide_eq_true hi2)
        have hn : ¬ (shareF bs).2 % (2 + (i : Int)) = 0 := fun z => by
          have := f5 _ hd (Int.dvd_of_emod_eq_zero z)
          have := Int.le_of_dvd (by decide) this
          omega
        simp [hn]; omega)⟩)]
      rw [boolL (fun _ => false)]
      simp only [wp_ok, wpv_new, Bool.false_eq_true, if_false, wpv_anyL]
      simp
      simp [sp_is_exact h, wpv_reprB, c1, wpv_eqbS]
      have e3 : exactB bs = decide (Nk bs 1 = w) := by
        rw [Bool.eq_iff_iff, exactB_iff h.1, decide_eq_true_iff, hw, Nk_full h.1 1]
      rw [frz_closed (by simp)]
      simp [e3]
end QS.K14
end

section
set_option Elab.async false
set_option linter.all false
set_option maxRecDepth 100000
set_option maxHeartbeats 1000000
namespace QS.K14
open PySem PySem.Spec PyProof.Rows L2 QS QS.MA
theorem bell_ring {p : Int × Int} (hp : Ok p) {h : Int} : h % p.1 = p.2 ↔ p.1 ∣ h - p.2 := emod_eq_iff hp.1 hp.2.2.1 hp.2.2.2
theorem enu_of {α : Type} : ∀ {l : List α} {j i : Nat} {a : α}, l[i]? = some a → (j + i, a) ∈ enu j l
  | x :: r, j, 0, a, h => by simp at h; subst h; exact List.mem_cons_self ..
  | x :: r, j, i + 1, a, h => by
    have := enu_of (j := j + 1) (i := i) (l := r) (by simpa using h)
    rw [show j + 1 + i = j + (i + 1) by omega] at this
    exact List.mem_cons_of_mem _ this
theorem mem_ringL {bs : List (Int × Int)} {h : Int} {i : Nat} (hb : ∀ p ∈ bs, Ok p) (hi : i < bs.length) : i ∈ ringL bs h ↔ (bAt bs i).1 ∣ h - (bAt bs i).2 := by
  have hp := hb _ (List.mem_of_getElem? (sel_at hi))
  unfold ringL
  rw [List.mem_map]
  constructor
  · rintro ⟨x, hx, rfl⟩
    obtain ⟨h1, h2⟩ := List.mem_filter.mp hx
    have e := (enu_mem h1).2
    rw [Nat.sub_zero, sel_at hi] at e
    have e := Option.some.inj e
    rw [← e] at h2
    exact (bell_ring hp).mp (of_decide_eq_true h2)
  · intro hd
    have := enu_of (j := 0) (sel_at hi)
    rw [Nat.zero_add] at this
    exact ⟨(i, bAt bs i), List.mem_filter.mpr ⟨this, decide_eq_true ((bell_ring hp).mpr hd)⟩, rfl⟩
theorem ring_sel {bs : List (Int × Int)} {l : List Nat} {h : Int} : Ring (sel bs l) h ↔ ∀ i ∈ l, (bAt bs i).1 ∣ h - (bAt bs i).2 := by
  constructor
  · intro z i hi
    exact z _ (List.mem_map.mpr ⟨i, hi, rfl⟩)
  · intro z p hp
    obtain ⟨i, hi, rfl⟩ := List.mem_map.mp hp
    exact z i hi
theorem sel_round {bs : List (Int × Int)} {l : List Nat} (hb : ∀ p ∈ bs, Ok p) (h : ∀ i ∈ l, i < bs.length) : Wl (sel bs l) 1 ∣ Wl bs 1 := by
  obtain ⟨w1, _, w2⟩ := dvd_Wl (bs := bs) (w := 1) (fun p hp => (hb p hp).1) (by omega)
  refine Wl_dvd_of (fun p hp => ?_) (by omega) (by simp)
  have hok := sel_ok hb h p hp
  obtain ⟨i, hi, rfl⟩ := List.mem_map.mp hp
  exact ⟨hok.1, w2 _ (List.mem_of_getElem? (sel_at (h i hi)))⟩
theorem sp_lfirst {bs : List (Int × Int)} {l : List Nat} {s : Sto} (hS : Sm bs) (h : ∀ i ∈ l, i < bs.length) (hl : l.length ≤ 100) : d__law_first [.lst (bs.map pD), .int (Wl bs 1), .tup (natD l)] s = .ok (optI (togF (sel bs l))) s := by
  have hb := hS.okl
  obtain ⟨hW0, hW⟩ := hS.round
  have hsz : 16777216 = sizeLine := by decide
  have hso := sel_ok hb.1 h
  have hL := Int.le_of_dvd (by omega) (sel_round hb.1 h)
  obtain ⟨L1, _, L2⟩ := dvd_Wl (bs := sel bs l) (w := 1) (fun p hp => (hso p hp).1) (by omega)
  apply wp_eq
  apply seal_pure
  apply wp_run
  obtain ⟨w, hw⟩ : ∃ w, w = Wl bs 1 := ⟨_, rfl⟩
  rw [← hw] at hW0 hW hL ⊢
  simp [b__law_first]
  refine ⟨rngOk_of (by omega) (by omega), ?_⟩
  obtain ⟨P, hP⟩ : ∃ P : List D → En → Sto → Prop, P = fun it ρ s1 => s1 = s ∧ ∃ (m n : Nat) (x y z : Option D), ρ = [some (.lst (bs.map pD)), some (.int w), some (.tup (natD l)), x, y, z] ∧ it = rngD m n ∧ m + n = w.toNat ∧ ∀ k : Nat, k < m → ¬ Ring (sel bs l) k := ⟨_, rfl⟩
  refine wps_forL P ?_ ?_ _ _ _ (by rw [hP]; exact ⟨rfl, 0, _, _, _, _, rfl, rfl, by omega, fun k hk => by omega⟩)
  · intro d it ρ s1 hI
    rw [hP] at hI
    obtain ⟨rfl, m, n, x, y, z, rfl, hl2, hm, hn⟩ := hI
    cases n with
    | zero => cases hl2
    | succ n =>
      rw [rngD_succ] at hl2
      cases hl2
      simp [sp_lrings hb, wipeD]
      refine ⟨by omega, ?_⟩
      rw [show natD l = l.map (fun i : Nat => D.int (i : Int)) from rfl, lcL_map (cv := fun i : Nat => D.int (i : Int)) (fun i => D.bl (decide (i ∈ ringL bs (m : Int)))) l (fun i hi => ⟨_, by simp; rfl, rfl, wp_eq (by
        simp)⟩)]
      rw [boolL]
      simp only [wp_ok, wpv_new, Bool.false_eq_true, if_false, wpv_allL]
      simp
      have key : (∀ i ∈ l, i ∈ ringL bs (m : Int)) ↔ Ring (sel bs l) m := by
        rw [ring_sel]
        exact ⟨fun z i hi => (mem_ringL hb.1 (h i hi)).mp (z i hi), fun z i hi => (mem_ringL hb.1 (h i hi)).mpr (z i hi)⟩
      by_cases c : ∀ i ∈ l, i ∈ ringL bs (m : Int)
      · rw [if_pos c]
        have hr := key.mp c
        have : togF (sel bs l) = some (m : Int) := (togF_some hso).mpr ⟨by omega, by
          by_cases c2 : (m : Int) < Wl (sel bs l) 1
          · exact c2
          · exfalso
            refine hn (m - (Wl (sel bs l) 1).toNat) (by omega) fun p hp => ?_
            have d1 := Int.dvd_sub (hr p hp) (L2 p hp)
            rwa [show (m : Int) - p.2 - Wl (sel bs l) 1 = ((m - (Wl (sel bs l) 1).toNat : Nat) : Int) - p.2 by omega] at d1, hr⟩
        rw [this]
        rfl
      · rw [if_neg c, hP]
        refine ⟨rfl, m + 1, n, _, _, _, rfl, by push_cast; rfl, by omega, fun k hk => ?_⟩
        by_cases e : k = m
        · subst e; exact fun z => c (key.mpr z)
        · exact hn k (by omega)
  · intro ρ s1 hI
    rw [hP] at hI
    obtain ⟨rfl, m, n, x, y, z, rfl, hl2, hm, hn⟩ := hI
    cases n with
    | succ n => rw [rngD_succ] at hl2; cases hl2
    | zero =>
      simp
      cases c : togF (sel bs l) with
      | none => rfl
      | some q =>
        exfalso
        obtain ⟨q0, q1, q2⟩ := (togF_some hso).mp c
        refine hn q.toNat (by omega) ?_
        rw [show ((q.toNat : Nat) : Int) = q by omega]
        exact q2
theorem two_none {p q : Int × Int} (hp : Ok p) (hq : Ok q) : togF [p, q] = none ↔ meets p q = false := by
  rw [togF_none (by intro x hx; simp at hx; rcases hx with rfl | rfl <;> assumption), ← Bool.not_eq_true, meets_iff hq]
  constructor
  · rintro h ⟨x, h1, h2⟩
    exact h x (by intro t ht; simp at ht; rcases ht with rfl | rfl <;> assumption)
  · intro h x hx
    exact h ⟨x, hx p (by simp), hx q (by simp)⟩
theorem raw_helly {bs : List (Int × Int)} {l : List Nat} (hb : ∀ p ∈ bs, Ok p) (h : LtOk bs.length l) : rawF bs false l = none ↔ ∃ x, Ring (sel bs l) x := by
  rw [rawF_none]
  constructor
  · intro hp
    refine helly (sel_ok hb h.2) fun p hp1 q hq1 => ?_
    obtain ⟨i, hi, rfl⟩ := List.mem_map.mp hp1
    obtain ⟨j, hj, rfl⟩ := List.mem_map.mp hq1
    have ok := fun k (hk : k ∈ l) => hb _ (List.mem_of_getElem? (sel_at (h.2 k hk)))
    have sym : ∀ i j, i ∈ l → j ∈ l → i < j → meets (bAt bs i) (bAt bs j) = true := fun i j hi hj hij => by
      obtain ⟨a, ha, rfl⟩ := List.mem_iff_getElem.mp hi
      obtain ⟨b, hb2, rfl⟩ := List.mem_iff_getElem.mp hj
      have hab : a < b := by
        by_cases c : a < b
        · exact c
        · exfalso
          by_cases c2 : a = b
          · subst c2; omega
          · have := List.pairwise_iff_getElem.mp h.1 b a hb2 ha (by omega)
            omega
      simpa using List.pairwise_iff_getElem.mp hp a b ha hb2 hab
    by_cases c : i < j
    · exact (two_meet (ok j hj).1 (ok j hj).2.1).mp ((meets_iff (ok j hj)).mp (sym i j hi hj c))
    · by_cases c2 : i = j
      · subst c2; simp
      · have := (two_meet (ok i hi).1 (ok i hi).2.1).mp ((meets_iff (ok i hi)).mp (sym j i hj hi (by omega)))
        rw [Int.gcd_comm]
        have := Int.dvd_neg.mpr this
        rwa [show -((bAt bs i).2 - (bAt bs j).2) = (bAt bs j).2 - (bAt bs i).2 by omega] at this
  · rintro ⟨x, hx⟩
    rw [ring_sel] at hx
    refine List.Pairwise.imp_of_mem (fun {a b} ha hb2 _ => ?_) (List.pairwise_of_forall (R := fun _ _ => True) (fun _ _ => trivial) (l := l))
    rw [Ne, Bool.not_eq_false]
    exact (meets_iff (hb _ (List.mem_of_getElem? (sel_at (h.2 b hb2))))).mpr ⟨x, hx a ha, hx b hb2⟩
end QS.K14
end

section
set_option Elab.async false
set_option linter.all false
set_option maxRecDepth 100000
set_option maxHeartbeats 1000000
namespace QS.K14
open PySem PySem.Spec PyProof.Rows L2 QS QS.MA
theorem ltOk_snoc {k : Nat} {l : List Nat} (h : LtOk k l) : LtOk (k + 1) (l ++ [k]) := by
  refine ⟨List.pairwise_append.mpr ⟨h.1, by simp, fun a ha b hb => ?_⟩, fun i hi => ?_⟩
  · simp at hb; subst hb; exact h.2 a ha
  · rcases List.mem_append.mp hi with hi | hi
    · have := h.2 i hi; omega
    · simp at hi; omega
theorem ltOk_more {k : Nat} {l : List Nat} (h : LtOk k l) : LtOk (k + 1) l := ⟨h.1, fun i hi => by have := h.2 i hi; omega⟩
theorem filt_gt {l done r : List Nat} {x : Nat} (h : l.Pairwise (· < ·)) (e : l = done ++ x :: r) : l.filter (fun b : Nat => decide ((x : Int) < (b : Int))) = r := by
  subst e
  rw [List.pairwise_append] at h
  obtain ⟨h1, h2, h3⟩ := h
  rw [List.pairwise_cons] at h2
  rw [List.filter_append, List.filter_cons]
  have e1 : done.filter (fun b : Nat => decide ((x : Int) < (b : Int))) = [] := by
    rw [List.filter_eq_nil_iff]
    intro a ha
    have := h3 a ha x (List.mem_cons_self ..)
    simp; omega
  have e2 : r.filter (fun b : Nat => decide ((x : Int) < (b : Int))) = r := by
    rw [List.filter_eq_self]
    intro a ha
    have := h2.1 a ha
    simp; omega
  rw [e1, e2]
  simp
theorem sp_llots {n g : Nat} {s : Sto} {bs : List (Int × Int)} (hb : BgAt n g s) (hS : Sm bs) : wp (d__law_lots_right [.loc n, mk bs, .lst (bs.map pD), .int (Wl bs 1)] s) fun d s' => d = .bl true ∧ Bs n g s s' := by
  have hlt := hb.lt
  have hok := hS.okl
  have hlen := hS.len
  obtain ⟨hW0, hW⟩ := hS.round
  have hsz : 16777216 = sizeLine := by decide
  have hx2 : 2 ≤ sizeLine := by decide
  apply seal_bag hlt
  apply wp_run
  obtain ⟨w, hw⟩ : ∃ w, w = Wl bs 1 := ⟨_, rfl⟩
  rw [← hw] at hW0 hW ⊢
  simp [b__law_lots_right]
  refine ⟨rngOk_of (by decide) (by decide), ?_⟩
  obtain ⟨P, hP⟩ : ∃ P : List D → En → Sto → Prop, P = fun l ρ s1 => Bs n g s s1 ∧ ∃ (x4 x5 x6 x7 x8 x9 : Option D), ρ = [some (.loc n), some (mk bs), some (.lst (bs.map pD)), some (.int w), x4, x5, x6, x7, x8, x9, none] := ⟨_, rfl⟩
  refine wps_forL P ?_ ?_ _ _ _ (by rw [hP]; exact ⟨Bs.refl hb, _, _, _, _, _, _, rfl⟩)
  · intro d l ρ s1 hI
    rw [hP] at hI
    obtain ⟨hx, x4, x5, x6, x7, x8, x9, rfl⟩ := hI
    simp [wipeD]
    refine ⟨rngOk_of (by omega) (by omega), by omega, ?_⟩
    refine (wp_lcL (fun l acc s2 => Bs n g s s2 ∧ ∃ (k j : Nat) (sub : List Nat), l = rngD k j ∧ k + j = bs.length ∧ acc = natD sub ∧ LtOk k sub) ?_ _ [] _ ⟨hx, 0, bs.length, [], rfl, by omega, rfl, List.Pairwise.nil, fun i hi => nomatch hi⟩).mono ?_
    · rintro d r acc s2 ⟨hx, k, j, sub, hl, hk, rfl, hs⟩
      cases j with
      | zero => cases hl
      | succ j =>
        rw [rngD_succ] at hl
        cases hl
        refine ⟨_, rfl, ?_⟩
        simp
        refine (sp_pick hx.at_ (by decide) (by decide)).mono ?_
        rintro d s3 ⟨r, rfl, r0, r1, H1⟩
        simp
        by_cases c : r = 0
        · rw [if_pos c]
          exact ⟨hx.trans H1, k + 1, j, by push_cast; rfl, by omega, sub ++ [k], by simp [natD], ltOk_snoc hs⟩
        · rw [if_neg c]
          exact ⟨hx.trans H1, k + 1, j, by push_cast; rfl, by omega, sub, rfl, ltOk_more hs⟩
    · rintro ys s2 ⟨hx, k, j, sub, hl, hk, e, hs⟩
      cases j with
      | succ j => rw [rngD_succ] at hl; cases hl
      | zero =>
        have hk : k = bs.length := by omega
        subst hk
        have e : ys = natD sub := by simpa using e
        subst e
        have hsl := ltOk_len hs
        have f1 := fun (s : Sto) (l : List Nat) (h1 : ∀ i ∈ l, i < bs.length) (h2 : l.length ≤ 100) => sp_lfirst (s := s) hS h1 h2
        rw [← hw] at f1
        simp [f1 _ sub hs.2 (by omega), sp_together hok hs]
        -- the least pair
        obtain ⟨P2, hP2⟩ : ∃ P2 : List D → En → Sto → Prop, P2 = fun l ρ s3 => s3 = s2 ∧ ∃ (done r : List Nat) (x6 x9 : Option D) (due : Option (Nat × Nat)), ρ = [some (.loc n), some (mk bs), some (.lst (bs.map pD)), some (.int w), some d, some (.tup (natD sub)), x6, some (optI (togF (sel bs sub))), some (optP due), x9, none] ∧ l = natD r ∧ sub = done ++ r ∧ (match due with
          | some p => rawF bs false sub = some p
          | none => rawF bs false r = rawF bs false sub) := ⟨_, rfl⟩
        refine wps_forL P2 ?_ ?_ _ _ _ (by rw [hP2]; exact ⟨rfl, [], sub, _, _, none, rfl, rfl, rfl, rfl⟩)
        · intro d2 l2 ρ s3 hI
          rw [hP2] at hI
          obtain ⟨rfl, done, r, x6, x9, due, rfl, hl2, hsp, hd⟩ := hI
          cases r with
          | nil => cases hl2
          | cons x r =>
            cases hl2
            have hxl := hs.2 x (by rw [hsp]; simp)
            simp [wipeD]
            refine ⟨by omega, ?_⟩
            rw [show natD sub = sub.map (fun i : Nat => D.int (i : Int)) from rfl, lcL_pure (cv := fun i : Nat => D.int (i : Int)) (fun b : Nat => decide ((x : Int) < (b : Int))) (fun i => D.int (i : Nat)) sub (fun i hi => ⟨_, by simp; rfl, wp_eq (by simp), fun _ => wp_eq (by simp)⟩), filt_gt hs.1 hsp]
            simp
            obtain ⟨P3, hP3⟩ : ∃ P3 : List D → En → Sto → Prop, P3 = fun l ρ s4 => s4 = s3 ∧ ∃ (r2 : List Nat) (x9 : Option D) (due : Option (Nat × Nat)), ρ = [some (.loc n), some (mk bs), some (.lst (bs.map pD)), some (.int w), some d, some (.tup (natD sub)), some (.int (x : Nat)), some (optI (togF (sel bs sub))), some (optP due), x9, none] ∧ l = natD r2 ∧ (∀ i ∈ r2, i ∈ sub) ∧ (match due with
              | some p => rawF bs false sub = some p
              | none => (match r2.find? (fun b => meets (bAt bs x) (bAt bs b) == false) with
                | some b => some (x, b)
                | none => rawF bs false r) = rawF bs false sub) := ⟨_, rfl⟩
            refine wps_forL P3 ?_ ?_ _ _ _ (by rw [hP3]; exact ⟨rfl, r, _, due, rfl, rfl, fun i hi => (by rw [hsp]; simp [hi]), by cases due with
              | some p => exact hd
              | none => exact hd⟩)
            · intro d4 l4 ρ s4 hI
              rw [hP3] at hI
              obtain ⟨rfl, r2, x9, due, rfl, hl4, hm, hd⟩ := hI
              cases r2 with
              | nil => cases hl4
              | cons y r2 =>
                cases hl4
                have hyl := hs.2 y (hm y (List.mem_cons_self ..))
                have okx := hS.ok _ (List.mem_of_getElem? (sel_at hxl))
                have oky := hS.ok _ (List.mem_of_getElem? (sel_at hyl))
                cases due with
                | some p =>
                  simp
                  rw [hP3]
                  exact ⟨rfl, r2, _, some p, rfl, rfl, fun i hi => hm i (List.mem_cons_of_mem _ hi), hd⟩
                | none =>
                  have f2 := f1 s4 [x, y] (by intro i hi; simp at hi; rcases hi with rfl | rfl <;> assumption) (by simp)
                  have f3 : natD [x, y] = [.int (x : Nat), .int (y : Nat)] := rfl
                  rw [f3] at f2
                  have hd : (match (y :: r2).find? (fun b => meets (bAt bs x) (bAt bs b) == false) with
                    | some b => some (x, b)
                    | none => rawF bs false r) = rawF bs false sub := hd
                  rw [List.find?_cons] at hd
                  simp [hx2, f2]
                  have e5 : sel bs [x, y] = [bAt bs x, bAt bs y] := rfl
                  rw [e5]
                  by_cases c : meets (bAt bs x) (bAt bs y) = false
                  · rw [if_pos ((two_none okx oky).mpr c), hP3]
                    refine ⟨rfl, r2, _, some (x, y), rfl, rfl, fun i hi => hm i (List.mem_cons_of_mem _ hi), ?_⟩
                    simp only [c] at hd
                    exact hd.symm
                  · rw [if_neg (fun z => c ((two_none okx oky).mp z)), hP3]
                    refine ⟨rfl, r2, _, none, rfl, rfl, fun i hi => hm i (List.mem_cons_of_mem _ hi), ?_⟩
                    have c' : (meets (bAt bs x) (bAt bs y) == false) = false := by simpa using c
                    simp only [c'] at hd
                    exact hd
            · intro ρ s4 hI
              rw [hP3] at hI
              obtain ⟨rfl, r2, x9, due, rfl, hl4, hm, hd⟩ := hI
              cases r2 with
              | cons y r2 => cases hl4
              | nil =>
                rw [hP2]
                refine ⟨rfl, done ++ [x], r, _, _, due, rfl, rfl, by rw [hsp]; simp, ?_⟩
                cases due with
                | some p => exact hd
                | none => exact hd
        · intro ρ s3 hI
          rw [hP2] at hI
          obtain ⟨rfl, done, r, x6, x9, due, rfl, hl2, hsp, hd⟩ := hI
          cases r with
          | cons y r => cases hl2
          | nil =>
            have hd2 : due = rawF bs false sub := by
              cases due with
              | some p => exact hd.symm
              | none => exact hd
            subst hd2
            have e6 : (rawF bs false sub).isNone = (togF (sel bs sub)).isSome := by
              rw [Bool.eq_iff_iff, Option.isNone_iff_eq_none, raw_helly hS.ok hs, ← Option.not_isNone, Bool.not_eq_true', ← Bool.not_eq_true, Option.isNone_iff_eq_none, togF_none (sel_ok hS.ok hs.2)]
              exact ⟨fun ⟨x, hx⟩ h => h x hx, fun h => Classical.byContradiction fun z => h fun x hx => z ⟨x, hx⟩⟩
            simp [sp_apart hok hs]
            rw [if_neg (by rw [e6]; cases togF (sel bs sub) <;> simp), hP]
            exact ⟨hx, _, _, _, _, _, _, rfl⟩
  · intro ρ s1 hI
    rw [hP] at hI
    obtain ⟨hx, x4, x5, x6, x7, x8, x9, rfl⟩ := hI
    exact ⟨hx.x, _, frz_closed (by simp), fun s2 h2 => ⟨rfl, h2⟩⟩
end QS.K14
end

section
set_option Elab.async false
set_option linter.all false
set_option maxRecDepth 100000
set_option maxHeartbeats 1000000
namespace QS.K14
open PySem PySem.Spec PyProof.Rows L2 QS QS.MA
theorem ringL_nil {bs : List (Int × Int)} {h : Int} (hb : ∀ p ∈ bs, Ok p) : ringL bs h = [] ↔ loud bs h = false := by
  have h1 := ringL_len (h := h) hb
  have h2 := rc_loud (h := h) hb
  rw [← List.length_eq_zero_iff, h1, ← Bool.not_eq_true, h2]
  omega
theorem loud_per {bs : List (Int × Int)} (hb : ∀ p ∈ bs, Ok p) (x k : Int) : loud bs (x + Wl bs 1 * k) = loud bs x := by
  obtain ⟨w1, _, w2⟩ := dvd_Wl (bs := bs) (w := 1) (fun p hp => (hb p hp).1) (by omega)
  rw [Bool.eq_iff_iff, rc_loud hb, rc_loud hb, rc_per w2]
/-- one round is enough -/
theorem near_round {bs : List (Int × Int)} (hb : ∀ p ∈ bs, Ok p) {W : Nat} (hW : (W : Int) = Wl bs 1) (h : Int) : ((List.range W).map fun k : Nat => h + 1 * (k : Int)).find? (fun x => !loud bs x) = fqF bs h 1 := by
  obtain ⟨w1, _, w2⟩ := dvd_Wl (bs := bs) (w := 1) (fun p hp => (hb p hp).1) (by omega)
  cases e : ((List.range W).map fun k : Nat => h + 1 * (k : Int)).find? (fun x => !loud bs x) with
  | none =>
    have q := find_none e
    symm
    rw [fq_none hb (.inl rfl)]
    intro x
    have e0 := Int.emod_nonneg (x - h) (show Wl bs 1 ≠ 0 by omega)
    have e1 := Int.emod_lt_of_pos (x - h) (show 0 < Wl bs 1 by omega)
    have e2 := Int.emod_add_mul_ediv (x - h) (Wl bs 1)
    have := q ((x - h) % Wl bs 1).toNat (by omega)
    rw [show h + 1 * ((((x - h) % Wl bs 1).toNat : Nat) : Int) = h + (x - h) % Wl bs 1 by omega] at this
    have e3 : x = h + (x - h) % Wl bs 1 + Wl bs 1 * ((x - h) / Wl bs 1) := by omega
    rw [e3, loud_per hb]
    simpa using this
  | some q =>
    obtain ⟨k, hk, rfl, h1, h2⟩ := find_range e
    symm
    rw [fq_next hb]
    refine ⟨by omega, by simpa using h1, fun x hx hx2 => ?_⟩
    have := h2 (x - h).toNat (by omega)
    rw [show h + 1 * ((x - h).toNat : Int) = x by omega] at this
    simpa using this
theorem last_round {bs : List (Int × Int)} (hb : ∀ p ∈ bs, Ok p) {W : Nat} (hW : (W : Int) = Wl bs 1) (h : Int) : ((List.range W).map fun k : Nat => h + -1 * (k : Int)).find? (fun x => !loud bs x) = fqF bs h (-1) := by
  obtain ⟨w1, _, w2⟩ := dvd_Wl (bs := bs) (w := 1) (fun p hp => (hb p hp).1) (by omega)
  cases e : ((List.range W).map fun k : Nat => h + -1 * (k : Int)).find? (fun x => !loud bs x) with
  | none =>
    have q := find_none e
    symm
    rw [fq_none hb (.inr rfl)]
    intro x
    have e0 := Int.emod_nonneg (h - x) (show Wl bs 1 ≠ 0 by omega)
    have e1 := Int.emod_lt_of_pos (h - x) (show 0 < Wl bs 1 by omega)
    have e2 := Int.emod_add_mul_ediv (h - x) (Wl bs 1)
    have := q ((h - x) % Wl bs 1).toNat (by omega)
    rw [show h + -1 * ((((h - x) % Wl bs 1).toNat : Nat) : Int) = h - (h - x) % Wl bs 1 by omega] at this
    have e3 : h - (h - x) % Wl bs 1 = x + Wl bs 1 * ((h - x) / Wl bs 1) := by omega
    rw [e3, loud_per hb] at this
    simpa using this
  | some q =>
    obtain ⟨k, hk, rfl, h1, h2⟩ := find_range e
    symm
    rw [fq_last hb]
    refine ⟨by omega, by simpa using h1, fun x hx hx2 => ?_⟩
    have := h2 (h - x).toNat (by omega)
    rw [show h + -1 * ((h - x).toNat : Int) = x by omega] at this
    simpa using this
/-- (l + [None])[0] -/
theorem head_none (l : List Int) : ∃ d, ((l.map D.int) ++ [D.non])[0]? = some d ∧ d = optI l.head? := by
  cases l with
  | nil => exact ⟨_, rfl, rfl⟩
  | cons x r => exact ⟨_, rfl, rfl⟩
theorem head_filter {p : Int → Bool} (f : Nat → Int) (l : List Nat) : ((l.filter fun k => p (f k)).map f).head? = (l.map f).find? p := by
  rw [List.head?_map, List.head?_filter, List.find?_map]
  rfl
/-! the quiet hours of the first n -/
theorem quiet_count {bs : List (Int × Int)} (hb : ∀ p ∈ bs, Ok p) (n : Nat) : (((List.range n).filter fun k : Nat => !loud bs (k : Int)).length : Int) = sm n fun i => if rc bs (0 + (i : Int)) = 0 then 1 else 0 := by
  induction n with
  | zero => rfl
  | succ n ih =>
    rw [List.range_succ, List.filter_append, List.length_append]
    simp only [sm]
    push_cast
    rw [ih]
    congr 1
    have h2 := rc_loud (h := (n : Int)) hb
    by_cases c : loud bs (n : Int) = true
    · have := h2.mp c
      simp [c, show ¬ rc bs (n : Int) = 0 by omega]
    · have : ¬ 1 ≤ rc bs (n : Int) := fun z => c (h2.mpr z)
      have c' : loud bs (n : Int) = false := by simpa using c
      simp [c', show rc bs (n : Int) = 0 by omega]
theorem sp_ltwo {k : Nat} {s : Sto} (hk : k ≤ 100) : d__law_two [.int k] s = .ok (.int (2 ^ k : Nat)) s := by
  generalize hN : (k : Int) = M
  apply wp_eq
  apply seal_pure
  apply wp_run
  simp [b__law_two]
  refine ⟨rngOk_of (by omega) (by omega), ?_⟩
  obtain ⟨P, hP⟩ : ∃ P : List D → En → Sto → Prop, P = fun l ρ s1 => s1 = s ∧ ∃ (j n : Nat) (b : Option D), ρ = [some (.int M), some (.int ((2 : Int) ^ j)), b] ∧ l = rngD j n ∧ j + n = k := ⟨_, rfl⟩
  refine wps_forL P ?_ ?_ _ _ _ (by rw [hP]; exact ⟨rfl, 0, k, _, by simp; rfl, by rw [← hN]; simp, by omega⟩)
  · intro d l ρ s1 hI
    rw [hP] at hI
    obtain ⟨rfl, j, n, b, rfl, hl, hj⟩ := hI
    cases n with
    | zero => cases hl
    | succ n =>
      rw [rngD_succ] at hl
      cases hl
      have e : (2 : Int) ^ j + 2 ^ j = 2 ^ (j + 1) := by rw [Int.pow_succ]; omega
      simp [e]
      rw [hP]
      exact ⟨rfl, j + 1, n, _, rfl, by push_cast; rfl, by omega⟩
  · intro ρ s1 hI
    rw [hP] at hI
    obtain ⟨rfl, j, n, b, rfl, hl, hj⟩ := hI
    cases n with
    | succ n => rw [rngD_succ] at hl; cases hl
    | zero =>
      simp
      have : j = k := by omega
      rw [this]
end QS.K14
end

section
set_option Elab.async false
set_option linter.all false
set_option maxRecDepth 100000
set_option maxHeartbeats 2000000
namespace QS.K14
open PySem PySem.Spec PyProof.Rows L2 QS QS.MA
theorem frz_mk {bs : List (Int × Int)} {s : Sto} : frz 4 s.length (s ++ [.ins "Bells" ["pairs"] [.tup (bs.map pD)]]) (.loc s.length) = some (mk bs) := frz_ins_new (by rw [closedL_cons, closed_tup, closedL_pD]; simp)
theorem wpv_eqNil {l : List Nat} {s : Sto} {Q : D → Sto → Prop} : wpv (gEq (.lst (natD l)) (.lst []) s) Q = Q (.bl (decide (l = []))) s := by
  have := wpv_eqLI (a := l.map fun i : Nat => (i : Int)) (b := []) (s := s) (Q := Q)
  rw [natD_ints, show (.lst [] : D) = .lst (([] : List Int).map D.int) from rfl, this]
  simp
theorem wpv_eqNilI {l : List Int} {s : Sto} {Q : D → Sto → Prop} : wpv (gEq (.lst (l.map D.int)) (.lst []) s) Q = Q (.bl (decide (l = []))) s := by
  have := wpv_eqLI (a := l) (b := []) (s := s) (Q := Q)
  rw [show (.lst [] : D) = .lst (([] : List Int).map D.int) from rfl, this]
/-- the quiet hours of a row -/
theorem lc_quiet {bs : List (Int × Int)} {s : Sto} {g : GM} {t : TM} {e : EM} {ρ : En} {gd : Option Nat} (f : Nat → Int) (c : Nat → Int) (l : List Nat)
    (h : ∀ k ∈ l, ∃ ρ1, g (.int (c k)) ρ = some ρ1 ∧ t ρ1 s = .ok (!loud bs (f k)) s ∧ e ρ1 s = .ok (.int (f k)) s) :
    lcL g t e gd s ρ (l.map fun k => D.int (c k)) s = .ok (((l.filter fun k => !loud bs (f k)).map f).map D.int) s := by
  rw [lcL_pure (cv := fun k => D.int (c k)) (fun k => !loud bs (f k)) (fun k => D.int (f k)) l fun k hk => let ⟨ρ1, h1, h2, h3⟩ := h k hk; ⟨ρ1, h1, h2, fun _ => h3⟩]
  simp [Function.comp_def]
theorem ring_nil_b {bs : List (Int × Int)} {h : Int} (hb : ∀ p ∈ bs, Ok p) : decide (ringL bs h = []) = !loud bs h := by
  have := ringL_nil (h := h) hb
  cases c : loud bs h <;> simp [this, c]
theorem wp_lsmall {n g : Nat} {s : Sto} (hb : BgAt n g s) : wp (d__law_small_right [.loc n] s) fun d s' => d = .bl true ∧ Bs n g s s' := by
  have hlt := hb.lt
  have hsz : 16777216 = sizeLine := by decide
  have h1 : 1 ≤ sizeLine := by decide
  have h7 : 7 ≤ sizeLine := by decide
  have p1 : PowOk 10 30 := by decide
  have p2 : PowOk 10 12 := by decide
  apply seal_bag hlt
  apply wp_run
  simp [b__law_small_right]
  refine (wp_small hb).mono ?_
  rintro d s1 ⟨bs, rfl, hS, H1⟩
  have hok := hS.okl
  obtain ⟨hW0, hW⟩ := hS.round
  have hlen := hS.len
  have hlen1 := hS.one
  obtain ⟨w, hw⟩ : ∃ w, w = Wl bs 1 := ⟨_, rfl⟩
  have r1 := fun s => sp_lround (s := s) hS.ok
  have r2 := fun s => sp_round (s := s) hS.ok
  have r3 := fun s => sp_llots (n := n) (g := g) (s := s) (bs := bs)
  have r4 := fun s free => sp_lcounts (s := s) (free := free) hS
  rw [← hw] at r1 r2 hW0 hW
  simp
  rw [sp_Bells_init hok, wp_ok]
  refine ⟨rfl, mk bs, frz_mk, OldOk.app _ _, ?_⟩
  rw [List.take_left]
  simp [r1, wipeD]
  obtain ⟨W, hWn⟩ : ∃ W : Nat, (W : Int) = w := ⟨w.toNat, by omega⟩
  have eW : w.toNat = W := by omega
  refine ⟨rngOk_of (by omega) (by omega), by omega, ?_⟩
  rw [eW, rngD0, lc_quiet (bs := bs) (fun k : Nat => (k : Int)) (fun k : Nat => (k : Int)) (List.range W) (fun k hk => ⟨_, rfl, wp_eq (by simp [sp_lrings hok, wpv_eqNil, ring_nil_b hok.1]), wp_eq (by simp)⟩)]
  have hfl : ((List.range W).filter fun k : Nat => !loud bs (k : Int)).length ≤ W := by
    have := List.length_filter_le (fun k : Nat => !loud bs (k : Int)) (List.range W)
    simpa using this
  have hcnt := quiet_count hok.1 W
  have hN : sm W (fun i => if rc bs (0 + (i : Int)) = 0 then 1 else 0) = Nk bs 0 := by unfold Nk SH; rw [← hw, eW]
  rw [hN] at hcnt
  have hz := near_round hok.1 (W := W) (by omega) 0
  have hz' : (((List.range W).filter fun k : Nat => !loud bs (k : Int)).map fun k : Nat => (k : Int)).head? = fqF bs 0 1 := by
    rw [head_filter (p := fun x => !loud bs x) (fun k : Nat => (k : Int)), ← hz]
    simp
  have hnil : decide ((((List.range W).filter fun k : Nat => !loud bs (k : Int)).map fun k : Nat => (k : Int)) = []) = (fqF bs 0 1).isNone := by
    rw [← hz', Bool.eq_iff_iff, decide_eq_true_iff, Option.isNone_iff_eq_none, List.head?_eq_none_iff]
  simp only [wp_ok, wpv_new, Bool.false_eq_true, if_false]
  generalize hfr : (((List.range W).filter fun k : Nat => !loud bs (k : Int)).map fun k : Nat => (k : Int)) = free at hz' hnil ⊢
  have hfrl : (free.length : Int) = Nk bs 0 := by rw [← hfr, List.length_map]; exact hcnt
  have hfrl2 : free.length ≤ W := by rw [← hfr, List.length_map]; exact hfl
  simp [r3__law_small_right, r2, sp_loud_for_ever hok, wpv_reprB, wpv_eqNilI, wpv_nebS, hnil, wipeD]
  have t2 := sp_ltwo (k := bs.length) (s := s1) (by omega)
  have hpow : 2 ^ bs.length ≤ 64 := Nat.le_trans (Nat.pow_le_pow_right (by omega) hlen) (by decide)
  generalize hK : 2 ^ bs.length = K at t2 hpow
  rw [t2, wp_ok, wpv_addI]
  simp
  refine ⟨rngOk_of (by omega) (by omega), rngOk_of (by omega) (by omega), by omega, ?_⟩
  have er : rngD 7 (7 + (K : Int) - 7).toNat = (List.range K).map fun k : Nat => D.int (7 + (k : Nat)) := by
    rw [show (7 + (K : Int) - 7).toNat = K by omega]; rfl
  rw [er, lc_quiet (bs := bs) (fun k : Nat => 7 + (k : Int)) (fun k : Nat => 7 + (k : Int)) (List.range K) (fun k hk => ⟨_, rfl, wp_eq (by simp [sp_lrings hok, wpv_eqNil, ring_nil_b hok.1]), wp_eq (by simp)⟩)]
  have hfew : ((((List.range K).filter fun k : Nat => !loud bs (7 + (k : Int))).map fun k : Nat => 7 + (k : Int)).head?.isNone) = (fqF bs 0 1).isNone := by
    rw [head_filter (p := fun x => !loud bs x) (fun k : Nat => 7 + (k : Int))]
    have e1 : ((List.range K).map fun k : Nat => 7 + (k : Int)).find? (fun x => !loud bs x) = fqF bs 7 1 := by unfold fqF; rw [hK]; simp
    rw [e1, Bool.eq_iff_iff, Option.isNone_iff_eq_none, Option.isNone_iff_eq_none, fq_none hok.1 (.inl rfl), fq_none hok.1 (.inl rfl)]
  simp only [wp_ok, wpv_new, Bool.false_eq_true, if_false]
  generalize (((List.range K).filter fun k : Nat => !loud bs (7 + (k : Int))).map fun k : Nat => 7 + (k : Int)) = few at hfew ⊢
  have q1 : ((free.length : Int) = 0) ↔ free = [] := by rw [← List.length_eq_zero_iff]; omega
  have q2 : ((few.length : Int) = 0) ↔ few = [] := by rw [← List.length_eq_zero_iff]; omega
  have q3 : (free = []) ↔ (few = []) := by
    rw [← List.head?_eq_none_iff, ← List.head?_eq_none_iff, ← Option.isNone_iff_eq_none, ← Option.isNone_iff_eq_none, hz', hfew]
  simp [q1, q2, q3, r6__law_small_right]
  rw [if_pos (by rw [← hfew]; cases few <;> simp)]
  refine ⟨rngOk_of (by decide) (by decide), ?_⟩
  obtain ⟨P, hP⟩ : ∃ P : List D → En → Sto → Prop, P = fun l ρ s2 => Bs n g s s2 ∧ ∃ (x4 x7 x8 x9 : Option D), ρ = [some (.loc n), some (.lst (bs.map pD)), some (.lst (free.map D.int)), some (.lst (few.map D.int)), x4, some (mk bs), some (.int w), x7, x8, x9, none] := ⟨_, rfl⟩
  refine wps_forL P ?_ ?_ _ _ _ (by rw [hP]; exact ⟨H1, _, _, _, _, rfl⟩)
  · intro d l ρ s2 hI
    rw [hP] at hI
    obtain ⟨hx, x4, x7, x8, x9, rfl⟩ := hI
    simp [p1, p2, h7]
    refine (sp_some (rows := [.int 0, .int 1, .int (-1), .int 1000000000000000000000000000000, .int (-1000000000000000000000000000000), .int 1000000000000, .int (-7)]) hx.at_ (by decide) (by decide) (by simp)).mono ?_
    rintro d2 s3 ⟨hd, H2⟩
    obtain ⟨h, rfl, hh⟩ : ∃ h : Int, d2 = .int h ∧ HourOk h := by
      simp at hd
      rcases hd with rfl | rfl | rfl | rfl | rfl | rfl | rfl <;> exact ⟨_, rfl, by decide, by decide⟩
    simp [wipeD]
    refine ⟨rngOk_of (by omega) (by omega), by omega, ?_⟩
    rw [eW, rngD0, lc_quiet (bs := bs) (fun k : Nat => h + (k : Int)) (fun k : Nat => (k : Int)) (List.range W) (fun k hk => ⟨_, rfl, wp_eq (by simp [sp_lrings hok, wpv_eqNil, ring_nil_b hok.1]), wp_eq (by simp)⟩)]
    have hn := near_round hok.1 (W := W) (by omega) h
    have hn' : (((List.range W).filter fun k : Nat => !loud bs (h + (k : Int))).map fun k : Nat => h + (k : Int)).head? = fqF bs h 1 := by
      rw [head_filter (p := fun x => !loud bs x) (fun k : Nat => h + (k : Int)), ← hn]
      simp
    have hnl : (((List.range W).filter fun k : Nat => !loud bs (h + (k : Int))).map fun k : Nat => h + (k : Int)).length ≤ W := by
      rw [List.length_map]
      have := List.length_filter_le (fun k : Nat => !loud bs (h + (k : Int))) (List.range W)
      simpa using this
    generalize (((List.range W).filter fun k : Nat => !loud bs (h + (k : Int))).map fun k : Nat => h + (k : Int)) = near at hn' hnl ⊢
    simp [wipeD]
    refine ⟨rngOk_of (by omega) (by omega), by omega, ?_⟩
    rw [lc_quiet (bs := bs) (fun k : Nat => h - (k : Int)) (fun k : Nat => (k : Int)) (List.range W) (fun k hk => ⟨_, rfl, wp_eq (by simp [sp_lrings hok, wpv_eqNil, ring_nil_b hok.1]), wp_eq (by simp)⟩)]
    have hm := last_round hok.1 (W := W) (by omega) h
    have hm' : (((List.range W).filter fun k : Nat => !loud bs (h - (k : Int))).map fun k : Nat => h - (k : Int)).head? = fqF bs h (-1) := by
      have ef : (fun k : Nat => h - (k : Int)) = fun k : Nat => h + -1 * (k : Int) := by funext k; omega
      rw [head_filter (p := fun x => !loud bs x) (fun k : Nat => h - (k : Int)), ← hm, ef]
    have hml : (((List.range W).filter fun k : Nat => !loud bs (h - (k : Int))).map fun k : Nat => h - (k : Int)).length ≤ W := by
      rw [List.length_map]
      have := List.length_filter_le (fun k : Nat => !loud bs (h - (k : Int))) (List.range W)
      simpa using this
    generalize (((List.range W).filter fun k : Nat => !loud bs (h - (k : Int))).map fun k : Nat => h - (k : Int)) = last at hm' hml ⊢
    have hd1 : ∀ l : List Int, (l.map D.int ++ [D.non])[0]'(by simp) = optI l.head? := fun l => by cases l <;> rfl
    simp [sp_quiet hok hh, sp_quiet_before hok hh, h1, hd1, hn', hm']
    refine ⟨by omega, by omega, ?_⟩
    simp [sp_ringing hok hh, sp_lrings hok]
    rw [natD_ints, wpv_neTI]
    simp
    rw [hP]
    exact ⟨hx.trans H2, _, _, _, _, rfl⟩
  · intro ρ s2 hI
    rw [hP] at hI
    obtain ⟨hx, x4, x7, x8, x9, rfl⟩ := hI
    have c1 := r4 s2 (free.map D.int) (by simpa using hfrl)
    rw [← hw] at c1
    simp [r7__law_small_right, c1]
    have c2 := r3 s2 hx.at_ hS
    rw [← hw] at c2
    refine c2.mono ?_
    rintro d s3 ⟨rfl, H2⟩
    exact ⟨(hx.trans H2).x, _, frz_closed (by simp), fun s2 h2 => ⟨rfl, h2⟩⟩
end QS.K14
end

section
set_option Elab.async false
set_option linter.all false
set_option maxRecDepth 100000
set_option maxHeartbeats 2000000
namespace QS.K14
open PySem PySem.Spec PyProof.Rows L2 QS QS.MA
@[simp] theorem wpv_isNotB {a b : Bool} {s : Sto} {Q : D → Sto → Prop} : wpv (gIsNot (.bl a) (.bl b) s) Q = Q (.bl (!decide (a = b))) s := wpv_some
@[simp] theorem wpv_isB {a b : Bool} {s : Sto} {Q : D → Sto → Prop} : wpv (gIs (.bl a) (.bl b) s) Q = Q (.bl (decide (a = b))) s := wpv_some
/-- one bell made longer -/
def lostL (ys : List (Int × Int)) (i : Nat) (t : Int) : List (Int × Int) := ys.take i ++ (((bAt ys i).1 * t, (bAt ys i).2) :: ys.drop (i + 1))
structure Lost (ys : List (Int × Int)) (i : Nat) (t : Int) : Prop where
  ok : ∀ p ∈ ys, Ok p
  ex : ∀ h, rc ys h = 1
  hi : i < ys.length
  len : ys.length ≤ 14
  t2 : 2 ≤ t
  le : (bAt ys i).1 * t ≤ 1000000000
section
variable {ys : List (Int × Int)} {i : Nat} {t : Int} (L : Lost ys i t)
include L
theorem Lost.p : Ok (bAt ys i) := L.ok _ (List.mem_of_getElem? (sel_at L.hi))
theorem Lost.okl : OkL (lostL ys i t) := by
  obtain ⟨h1, h2, h3, h4⟩ := L.p
  have h5 := L.t2
  refine ⟨fun q hq => ?_, ?_⟩
  · unfold lostL at hq
    rcases List.mem_append.mp hq with hq | hq
    · exact L.ok q (List.mem_of_mem_take hq)
    · rcases List.mem_cons.mp hq with rfl | hq
      · have a := Int.mul_le_mul_of_nonneg_left (show 1 ≤ t by omega) (show 0 ≤ (bAt ys i).1 by omega)
        exact ⟨by show 1 ≤ (bAt ys i).1 * t; omega, L.le, h3, by show (bAt ys i).2 < (bAt ys i).1 * t; omega⟩
      · exact L.ok q (List.mem_of_mem_drop hq)
  · have := L.hi
    have := L.len
    simp [lostL]; omega
theorem Lost.rc (x : Int) : (rc (lostL ys i t) x : Int) = 1 - (if (bAt ys i).1 ∣ x - (bAt ys i).2 then 1 else 0) + if (bAt ys i).1 * t ∣ x - (bAt ys i).2 then 1 else 0 := by
  have e := L.ex x
  rw [split_at L.hi, rc_app] at e
  unfold lostL
  rw [rc_app]
  simp only [QS.K14.rc] at e ⊢
  by_cases c : (bAt ys i).1 ∣ x - (bAt ys i).2
  · by_cases c2 : (bAt ys i).1 * t ∣ x - (bAt ys i).2
    · simp only [c, c2, if_true] at e ⊢; omega
    · simp only [c, c2, if_true, if_false] at e ⊢; omega
  · by_cases c2 : (bAt ys i).1 * t ∣ x - (bAt ys i).2
    · exact absurd (Int.dvd_trans (Int.dvd_mul_right ..) c2) c
    · simp only [c, c2, if_false] at e ⊢; omega
theorem Lost.quiet (x : Int) : loud (lostL ys i t) x = false ↔ (bAt ys i).1 ∣ x - (bAt ys i).2 ∧ ¬ (bAt ys i).1 * t ∣ x - (bAt ys i).2 := by
  have e := L.rc x
  rw [← Bool.not_eq_true, rc_loud L.okl.1]
  by_cases c : (bAt ys i).1 ∣ x - (bAt ys i).2
  · by_cases c2 : (bAt ys i).1 * t ∣ x - (bAt ys i).2
    · simp only [c, c2, if_true] at e ⊢; simp; omega
    · simp only [c, c2, if_true, if_false] at e ⊢; simp; omega
  · by_cases c2 : (bAt ys i).1 * t ∣ x - (bAt ys i).2
    · exact absurd (Int.dvd_trans (Int.dvd_mul_right ..) c2) c
    · simp only [c, c2, if_false] at e ⊢; simp; omega
theorem Lost.ne {u : Int} (h : (bAt ys i).1 * t ∣ u) : ¬ (bAt ys i).1 * t ∣ u + (bAt ys i).1 ∧ ¬ (bAt ys i).1 * t ∣ u - (bAt ys i).1 := by
  obtain ⟨h1, h2, h3, h4⟩ := L.p
  have h5 := L.t2
  have key : ¬ (bAt ys i).1 * t ∣ (bAt ys i).1 := fun z => by
    have := Int.le_of_dvd (by omega) z
    have := Int.mul_le_mul_of_nonneg_left h5 (show 0 ≤ (bAt ys i).1 by omega)
    omega
  refine ⟨fun z => key ?_, fun z => key ?_⟩
  · have := Int.dvd_sub z h
    rwa [show u + (bAt ys i).1 - u = (bAt ys i).1 by omega] at this
  · have := Int.dvd_sub h z
    rwa [show u - (u - (bAt ys i).1) = (bAt ys i).1 by omega] at this
theorem Lost.near (h : Int) : fqF (lostL ys i t) h 1 = some (if (h + ((bAt ys i).2 - h) % (bAt ys i).1 - (bAt ys i).2) % ((bAt ys i).1 * t) = 0 then h + ((bAt ys i).2 - h) % (bAt ys i).1 + (bAt ys i).1 else h + ((bAt ys i).2 - h) % (bAt ys i).1) := by
  obtain ⟨h1, h2, h3, h4⟩ := L.p
  rw [fq_next L.okl.1]
  have e0 := Int.emod_nonneg ((bAt ys i).2 - h) (show (bAt ys i).1 ≠ 0 by omega)
  have e1 := Int.emod_lt_of_pos ((bAt ys i).2 - h) (show 0 < (bAt ys i).1 by omega)
  have e2 := Int.emod_add_mul_ediv ((bAt ys i).2 - h) (bAt ys i).1
  have q := fun x => L.quiet x
  have ne := fun u => L.ne (u := u)
  generalize (bAt ys i).1 = e at *
  generalize (bAt ys i).2 = a at *
  generalize (a - h) % e = r at *
  generalize (a - h) / e = k at *
  have d0 : e ∣ h + r - a := ⟨-k, by rw [Int.mul_neg]; omega⟩
  have only : ∀ x, h ≤ x → x < h + r + e → e ∣ x - a → x = h + r := fun x hx hx2 d => by
    obtain ⟨m, hm⟩ := Int.dvd_sub d d0
    have : m = 0 := by
      by_cases c : 1 ≤ m
      · have := Int.mul_le_mul_of_nonneg_left c (show 0 ≤ e by omega); omega
      · by_cases c2 : m ≤ -1
        · have := Int.mul_le_mul_of_nonneg_left c2 (show 0 ≤ e by omega); omega
        · omega
    subst this
    omega
  have ld : ∀ x, ¬ e ∣ x - a → loud (lostL ys i t) x = true := fun x z => by
    rw [← Bool.not_eq_false, q]; exact fun w => z w.1
  by_cases c : (h + r - a) % (e * t) = 0
  · rw [if_pos c]
    have dt : e * t ∣ h + r - a := Int.dvd_of_emod_eq_zero c
    refine ⟨by omega, (q _).mpr ⟨?_, ?_⟩, fun x hx hx2 => ?_⟩
    · have := Int.dvd_add d0 (Int.dvd_refl e)
      rwa [show h + r - a + e = h + r + e - a by omega] at this
    · have := (ne _ dt).1
      rwa [show h + r - a + e = h + r + e - a by omega] at this
    · by_cases d : e ∣ x - a
      · have := only x hx hx2 d
        subst this
        rw [← Bool.not_eq_false, q]
        exact fun w => w.2 dt
      · exact ld x d
  · rw [if_neg c]
    refine ⟨by omega, (q _).mpr ⟨d0, fun z => c (Int.emod_eq_zero_of_dvd z)⟩, fun x hx hx2 => ld x fun d => ?_⟩
    have := only x hx (by omega) d
    omega
theorem Lost.last (h : Int) : fqF (lostL ys i t) h (-1) = some (if (h - (h - (bAt ys i).2) % (bAt ys i).1 - (bAt ys i).2) % ((bAt ys i).1 * t) = 0 then h - (h - (bAt ys i).2) % (bAt ys i).1 - (bAt ys i).1 else h - (h - (bAt ys i).2) % (bAt ys i).1) := by
  obtain ⟨h1, h2, h3, h4⟩ := L.p
  rw [fq_last L.okl.1]
  have e0 := Int.emod_nonneg (h - (bAt ys i).2) (show (bAt ys i).1 ≠ 0 by omega)
  have e1 := Int.emod_lt_of_pos (h - (bAt ys i).2) (show 0 < (bAt ys i).1 by omega)
  have e2 := Int.emod_add_mul_ediv (h - (bAt ys i).2) (bAt ys i).1
  have q := fun x => L.quiet x
  have ne := fun u => L.ne (u := u)
  generalize (bAt ys i).1 = e at *
  generalize (bAt ys i).2 = a at *
  generalize (h - a) % e = r at *
  generalize (h - a) / e = k at *
  have d0 : e ∣ h - r - a := ⟨k, by omega⟩
  have only : ∀ x, h - r - e < x → x ≤ h → e ∣ x - a → x = h - r := fun x hx hx2 d => by
    obtain ⟨m, hm⟩ := Int.dvd_sub d d0
    have : m = 0 := by
      by_cases c : 1 ≤ m
      · have := Int.mul_le_mul_of_nonneg_left c (show 0 ≤ e by omega); omega
      · by_cases c2 : m ≤ -1
        · have := Int.mul_le_mul_of_nonneg_left c2 (show 0 ≤ e by omega); omega
        · omega
    subst this
    omega
  have ld : ∀ x, ¬ e ∣ x - a → loud (lostL ys i t) x = true := fun x z => by
    rw [← Bool.not_eq_false, q]; exact fun w => z w.1
  by_cases c : (h - r - a) % (e * t) = 0
  · rw [if_pos c]
    have dt : e * t ∣ h - r - a := Int.dvd_of_emod_eq_zero c
    refine ⟨by omega, (q _).mpr ⟨?_, ?_⟩, fun x hx hx2 => ?_⟩
    · have := Int.dvd_sub d0 (Int.dvd_refl e)
      rwa [show h - r - a - e = h - r - e - a by omega] at this
    · have := (ne _ dt).2
      rwa [show h - r - a - e = h - r - e - a by omega] at this
    · by_cases d : e ∣ x - a
      · have := only x hx hx2 d
        subst this
        rw [← Bool.not_eq_false, q]
        exact fun w => w.2 dt
      · exact ld x d
  · rw [if_neg c]
    refine ⟨by omega, (q _).mpr ⟨d0, fun z => c (Int.emod_eq_zero_of_dvd z)⟩, fun x hx hx2 => ld x fun d => ?_⟩
    have := only x (by omega) hx2 d
    omega
theorem Lost.count : Nk (lostL ys i t) 0 = Wl (lostL ys i t) 1 / (bAt ys i).1 - Wl (lostL ys i t) 1 / ((bAt ys i).1 * t) ∧ (bAt ys i).1 * t ∣ Wl (lostL ys i t) 1 := by
  obtain ⟨h1, h2, h3, h4⟩ := L.p
  have hok := L.okl
  obtain ⟨w1, _, w2⟩ := dvd_Wl (bs := lostL ys i t) (w := 1) (fun p hp => (hok.1 p hp).1) (by omega)
  have hm : ((bAt ys i).1 * t, (bAt ys i).2) ∈ lostL ys i t := List.mem_append_right _ (List.mem_cons_self ..)
  have d1 : (bAt ys i).1 * t ∣ Wl (lostL ys i t) 1 := w2 _ hm
  have d2 : (bAt ys i).1 ∣ Wl (lostL ys i t) 1 := Int.dvd_trans (Int.dvd_mul_right ..) d1
  have p1 : 1 ≤ (bAt ys i).1 * t := (hok.1 _ hm).1
  refine ⟨?_, d1⟩
  have r1 := ring_W (a := (bAt ys i).2) w1 h1 d2 0
  have r2 := ring_W (a := (bAt ys i).2) w1 p1 d1 0
  have e : Nk (lostL ys i t) 0 + SH 0 (Wl (lostL ys i t) 1).toNat (fun x => if (bAt ys i).1 * t ∣ x - (bAt ys i).2 then 1 else 0) = SH 0 (Wl (lostL ys i t) 1).toNat (fun x => if (bAt ys i).1 ∣ x - (bAt ys i).2 then 1 else 0) := by
    unfold Nk
    rw [← SH_add]
    refine SH_congr fun x => ?_
    have e := L.rc x
    by_cases c : (bAt ys i).1 ∣ x - (bAt ys i).2
    · by_cases c2 : (bAt ys i).1 * t ∣ x - (bAt ys i).2
      · simp only [c, c2, if_true] at e ⊢; rw [if_neg (by omega)]; rfl
      · simp only [c, c2, if_true, if_false] at e ⊢; rw [if_pos (by omega)]; rfl
    · by_cases c2 : (bAt ys i).1 * t ∣ x - (bAt ys i).2
      · exact absurd (Int.dvd_trans (Int.dvd_mul_right ..) c2) c
      · simp only [c, c2, if_false] at e ⊢; rw [if_neg (by omega)]; rfl
  omega
theorem Lost.share : (shareF (lostL ys i t)).1 * (bAt ys i).1 * t = (shareF (lostL ys i t)).2 * (t - 1) := by
  obtain ⟨h1, h2, h3, h4⟩ := L.p
  have hok := L.okl
  obtain ⟨f1, f2, f3, f4, f5⟩ := share_facts hok.1
  obtain ⟨w1, _, w2⟩ := dvd_Wl (bs := lostL ys i t) (w := 1) (fun p hp => (hok.1 p hp).1) (by omega)
  obtain ⟨c1, c2⟩ := L.count
  generalize Wl (lostL ys i t) 1 = W at *
  generalize Nk (lostL ys i t) 0 = N at *
  generalize (shareF (lostL ys i t)).1 = u at *
  generalize (shareF (lostL ys i t)).2 = v at *
  generalize (bAt ys i).1 = e at *
  have ht := L.t2
  obtain ⟨m, hm⟩ := c2
  have e1 : W / (e * t) = m := by rw [hm]; exact Int.mul_ediv_cancel_left _ (by
    have := Int.mul_le_mul_of_nonneg_left (show 1 ≤ t by omega) (show 0 ≤ e by omega); omega)
  have e2 : W / e = t * m := by rw [hm, Int.mul_assoc]; exact Int.mul_ediv_cancel_left _ (by omega)
  rw [e1, e2] at c1
  have c3 : N = (t - 1) * m := by rw [Int.sub_mul]; omega
  have hm1 : m ≠ 0 := fun z => by rw [z] at hm; simp at hm; omega
  rw [hm, c3] at f1
  refine Int.eq_of_mul_eq_mul_right hm1 ?_
  rw [← Int.mul_assoc] at f1
  rw [show u * e * t * m = u * (e * t) * m by rw [Int.mul_assoc u e t], f1, Int.mul_assoc]
end
end QS.K14
end

section
set_option Elab.async false
set_option linter.all false
set_option maxRecDepth 100000
set_option maxHeartbeats 2000000
namespace QS.K14
open PySem PySem.Spec PyProof.Rows L2 QS QS.MA
theorem wp_lgreat {n g : Nat} {s : Sto} (hb : BgAt n g s) : wp (d__law_great_right [.loc n] s) fun d s' => d = .bl true ∧ Bs n g s s' := by
  have hlt := hb.lt
  have hsz : 16777216 = sizeLine := by decide
  have h1 : 1 ≤ sizeLine := by decide
  have h2 : 2 ≤ sizeLine := by decide
  have h3 : 3 ≤ sizeLine := by decide
  have p1 : PowOk 10 6 := by decide
  have p2 : PowOk 10 29 := by decide
  have p3 : PowOk 10 9 := by decide
  apply seal_bag hlt
  apply wp_run
  simp [b__law_great_right, p1, h3]
  refine (wp_grown (most := 13) (wide := 1000000) hb (by decide) (by decide) (by decide) (by decide)).mono ?_
  rintro d s1 ⟨ys, rfl, G, H1⟩
  have hl1 := G.one
  have hl2 := G.len
  simp
  refine (sp_pick H1.at_ (by omega) (by omega)).mono ?_
  rintro d s2 ⟨r, rfl, r0, r1, H2⟩
  obtain ⟨i, rfl⟩ := Int.eq_ofNat_of_zero_le r0
  have hi : i < ys.length := by omega
  refine (sp_some (rows := [.int 2, .int 3, .int 997]) H2.at_ (by decide) (by decide) (by simp)).mono ?_
  rintro d s3 ⟨hd, H3⟩
  obtain ⟨t, rfl, ht1, ht2⟩ : ∃ t : Int, d = .int t ∧ 2 ≤ t ∧ t ≤ 997 := by
    simp at hd
    rcases hd with rfl | rfl | rfl <;> exact ⟨_, rfl, by decide, by decide⟩
  have hp := G.ok _ (List.mem_of_getElem? (sel_at hi))
  have hpl := G.le _ (List.mem_of_getElem? (sel_at hi))
  obtain ⟨e1, e2, e3, e4⟩ := hp
  have hle : (bAt ys i).1 * t ≤ 1000000000 := by
    have a := Int.mul_le_mul hpl ht2 (by omega) (by decide)
    omega
  have L : Lost ys i t := ⟨G.ok, G.ex, hi, by omega, ht1, hle⟩
  have hok : OkL ys := ⟨G.ok, by omega⟩
  have hat : atI (ys.map pD) (i : Int) = some (.tup [.int (bAt ys i).1, .int (bAt ys i).2]) := by rw [atI_nat, List.getElem?_map, sel_at hi]; rfl
  have c1 : cut (ys.map pD) none (some (i : Int)) = (ys.take i).map pD := by rw [cut_to, List.map_take]
  have c2 : cut (ys.map pD) (some ((i : Int) + 1)) none = (ys.drop (i + 1)).map pD := by rw [cut_drop _ (k := i + 1) (by push_cast; rfl) (by simp; omega), List.map_drop]
  have mo : MulOk (bAt ys i).1 t := mok (.inr ⟨by omega, by omega⟩)
  simp [hat, c1, c2, mo, h1, h2]
  refine ⟨by omega, by omega, ?_⟩
  have eL : (ys.map pD).take i ++ D.tup [.int ((bAt ys i).1 * t), .int (bAt ys i).2] :: (ys.map pD).drop (i + 1) = (lostL ys i t).map pD := by simp [lostL, pD]
  rw [eL]
  simp [r4__law_great_right]
  rw [sp_Bells_init hok, wp_ok]
  refine ⟨rfl, mk ys, frz_mk, OldOk.app _ _, ?_⟩
  simp only [List.take_left, List.length_append, Nat.min_eq_left (Nat.le_add_right _ _)]
  rw [sp_Bells_init L.okl, wp_ok]
  refine ⟨rfl, mk (lostL ys i t), frz_mk, OldOk.app _ _, ?_⟩
  rw [List.take_left]
  have hex : exactB ys = true := (exactB_iff G.ok).mpr G.ex
  have hld : ∀ x, loud ys x = true := fun x => (rc_loud G.ok).mpr (by rw [G.ex x]; exact Nat.le_refl _)
  have hq : ∀ h, fqF ys h 1 = none := fun h => (fq_none G.ok (.inl rfl)).mpr hld
  have hql : ∀ h, (fqF (lostL ys i t) h 1).isNone = false := fun h => by rw [L.near]; rfl
  have hha : HourOk (bAt ys i).2 := ⟨by omega, by omega⟩
  simp [sp_loud_for_ever hok, sp_is_exact hok, hex, hq, r6__law_great_right, sp_loud_for_ever L.okl, hql, sp_quiet hok hha, r7__law_great_right, p2, p3, h2]
  have H4 := H1.trans (H2.trans H3)
  refine (sp_some (rows := [.int 1, .int (-1)]) H4.at_ (by decide) (by decide) (by simp)).mono ?_
  rintro d s4 ⟨hd, H5⟩
  obtain ⟨u, rfl, hu⟩ : ∃ u : Int, d = .int u ∧ (u = 1 ∨ u = -1) := by
    simp at hd
    rcases hd with rfl | rfl <;> exact ⟨_, rfl, by simp⟩
  refine (sp_pick H5.at_ (by decide) (by decide)).mono ?_
  rintro d s5 ⟨b, rfl, b0, b1, H6⟩
  have mu : ∀ x, MulOk u x := fun x => mok (.inl (by rcases hu with rfl | rfl <;> decide))
  simp [mu]
  have hhr : HourOk (u * (100000000000000000000000000000 + b)) := by
    rcases hu with rfl | rfl
    · exact ⟨by omega, by omega⟩
    · exact ⟨by omega, by omega⟩
  generalize u * (100000000000000000000000000000 + b) = h at hhr
  have hpos : 0 < (bAt ys i).1 * t := by
    have a := Int.mul_le_mul_of_nonneg_left (show 1 ≤ t by omega) (show 0 ≤ (bAt ys i).1 by omega)
    omega
  have hn := L.near h
  have hm := L.last h
  have tail : ∀ (x y : Int), fqF (lostL ys i t) h 1 = some x → fqF (lostL ys i t) h (-1) = some y → ∀ z : Int,
      (if (z - (bAt ys i).2) % ((bAt ys i).1 * t) = 0 then z - (bAt ys i).1 else z) = y → wps (r11__law_great_right [some (.loc n), some (.lst (ys.map pD)), some (.lst ((lostL ys i t).map pD)), some (.int h), some (.int x), some (.int z), none, some (.int (i : Nat)), some (.int t), some (.int (bAt ys i).1), some (.int (bAt ys i).2), some (mk ys), some (mk (lostL ys i t))] s5)
      (fun _ _ => False) (fun d s1 => Bx n g s s1 ∧ ∃ d', frz 4 s.length s1 d = some d' ∧ ∀ s2, Bs n g s s2 → d' = .bl true ∧ Bs n g s s2) := by
    intro x y hx hy z hz
    have share := sp_share (s := s5) L.okl
    have hsh := L.share
    have fin : ∀ v, v = y → wps (sSeq (sIf (QS.tOr (tV (eB gNe (eCall (fnN 2 d_quiet) (aCons (eVar 12) (aCons (eVar 3) (aNil)))) (eVar 4))) (tV (eB gNe (eCall (fnN 2 d_quiet_before) (aCons (eVar 12) (aCons (eVar 3) (aNil)))) (eVar 5))))
      (sRet (eC (.bl false))) (sNil)) (sSeq (sSet 6 (eCall (fnN 1 d_share) (aCons (eVar 12) (aNil))))
      (sRet (eB gEq (eB (gMul false) (eB (gMul false) (eB gIx (eVar 6) (eC (.int 0))) (eVar 9)) (eVar 8)) (eB (gMul false) (eB gIx (eVar 6) (eC (.int 1))) (eB gSub (eVar 8) (eC (.int 1)))))))
      [some (.loc n), some (.lst (ys.map pD)), some (.lst ((lostL ys i t).map pD)), some (.int h), some (.int x), some (.int v), none, some (.int (i : Nat)), some (.int t), some (.int (bAt ys i).1), some (.int (bAt ys i).2), some (mk ys), some (mk (lostL ys i t))] s5)
      (fun _ _ => False) (fun d s1 => Bx n g s s1 ∧ ∃ d', frz 4 s.length s1 d = some d' ∧ ∀ s2, Bs n g s s2 → d' = .bl true ∧ Bs n g s s2) := by
      rintro v rfl
      have ex : D.int x = optI (some x) := rfl
      have ey : D.int v = optI (some v) := rfl
      rw [ex, ey]
      simp [sp_quiet L.okl hhr, sp_quiet_before L.okl hhr, hx, hy, share, pD]
      refine ⟨mok (.inr ⟨by omega, by omega⟩), mok (.inr ⟨by omega, by omega⟩), mok (.inr ⟨by omega, by omega⟩), (H4.trans (H5.trans H6)).x, _, frz_closed (by simp), fun s2 h2 => ⟨?_, h2⟩⟩
      rw [hsh]
      simp
    by_cases c : (z - (bAt ys i).2) % ((bAt ys i).1 * t) = 0
    · rw [if_pos c] at hz
      have := fin _ hz
      simp [r11__law_great_right, mo, hpos, c] at this ⊢
      exact this
    · rw [if_neg c] at hz
      have := fin _ hz
      simp [r11__law_great_right, mo, hpos, c] at this ⊢
      exact this
  refine ⟨by omega, mo, hpos, ?_⟩
  by_cases c : (h + ((bAt ys i).2 - h) % (bAt ys i).1 - (bAt ys i).2) % ((bAt ys i).1 * t) = 0
  · rw [if_pos c] at hn
    simp [c]
    refine ⟨by omega, (tail _ _ hn hm _ rfl).noX.mono (fun _ _ z => z.elim) fun _ _ z => z⟩
  · rw [if_neg c] at hn
    simp [c]
    refine ⟨by omega, (tail _ _ hn hm _ rfl).noX.mono (fun _ _ z => z.elim) fun _ _ z => z⟩
theorem law_k14 (ns : List Int) (h : ns.length ≤ 63) : ∃ s, d_law [.scr (ns.map D.int)] [] = .ok (.bl true) s := by
  have hh : wp (d_law [.scr (ns.map D.int)] []) fun d s => d = .bl true := by
    refine wp_seal (?_ : wp (QS.run 2 b_law [.scr (ns.map D.int)] []) _ _)
    apply wp_run
    simp [b_law]
    refine (wp_bag h).mono ?_
    rintro d s ⟨rfl, hl, hb⟩
    refine (wp_lsmall hb).mono ?_
    rintro d s1 ⟨rfl, H1⟩
    simp
    refine (wp_lsmall H1.at_).mono ?_
    rintro d s2 ⟨rfl, H2⟩
    simp
    refine (wp_lgreat H2.at_).mono ?_
    rintro d s3 ⟨rfl, H3⟩
    exact ⟨frz_closed (by simp), Nat.zero_le _, fun i hi => (nomatch hi)⟩
  obtain ⟨d, s, e, rfl⟩ := wp_get hh
  exact ⟨s, e⟩
end QS.K14
end

section
set_option Elab.async false
set_option linter.all false
set_option maxRecDepth 100000
set_option maxHeartbeats 0
namespace QS.K14
open PySem PySem.Spec PyProof.Rows L2 QS
/-! ### the text -/
def top (i : Nat) : Stmt := PySem.Challenge.pw_quiethour_k14_whole_main_fact.main.body.getD i (.Pass ⟨0, 0, 0, 0⟩)
def meth (i : Nat) (m : Str) : Stmt := match top i with
  | .ClassDef _ _ _ body _ _ _ _ _ _ _ => (body.find? fun s => match s with
    | .FunctionDef n _ _ _ _ _ _ _ _ _ => n == m
    | _ => false).getD (.Pass ⟨0, 0, 0, 0⟩)
  | _ => .Pass ⟨0, 0, 0, 0⟩
def the (i : Nat) : Option Str → Stmt
  | none => top i
  | some m => meth i m
abbrev defScope2 (i : Nat) (m : Option Str) : Scope := defScope (the i m)
def dd__law_bag : He.DefD := ⟨("_law_bag", none), "_law_bag", "_law_bag", defArgs (the 48 none), defBody (the 48 none), defScope (the 48 none), [], []⟩
def dd_is_integer : He.DefD := ⟨("is_integer", none), "is_integer", "is_integer", defArgs (the 1 none), defBody (the 1 none), defScope (the 1 none), [], []⟩
def dd_is_below : He.DefD := ⟨("is_below", none), "is_below", "is_below", defArgs (the 2 none), defBody (the 2 none), defScope (the 2 none), [], []⟩
def dd_is_pair : He.DefD := ⟨("is_pair", none), "is_pair", "is_pair", defArgs (the 14 none), defBody (the 14 none), defScope (the 14 none), [], []⟩
def dd_first_bad : He.DefD := ⟨("first_bad", none), "first_bad", "first_bad", defArgs (the 15 none), defBody (the 15 none), defScope (the 15 none), [], []⟩
def dd_Bells_init : He.DefD := ⟨("Bells", some "__init__"), "__init__", "Bells.__init__", defArgs (the 16 (some "__init__")), defBody (the 16 (some "__init__")), defScope (the 16 (some "__init__")), [], []⟩
def dd__law_pick : He.DefD := ⟨("_law_pick", none), "_law_pick", "_law_pick", defArgs (the 49 none), defBody (the 49 none), defScope (the 49 none), [], []⟩
def dd__law_split : He.DefD := ⟨("_law_split", none), "_law_split", "_law_split", defArgs (the 53 none), defBody (the 53 none), defScope (the 53 none), [], []⟩
def dd__law_grown : He.DefD := ⟨("_law_grown", none), "_law_grown", "_law_grown", defArgs (the 54 none), defBody (the 54 none), defScope (the 54 none), [], []⟩
def dd__law_some : He.DefD := ⟨("_law_some", none), "_law_some", "_law_some", defArgs (the 50 none), defBody (the 50 none), defScope (the 50 none), [], []⟩
def dd_Bells_size : He.DefD := ⟨("Bells", some "size"), "size", "Bells.size", defArgs (the 16 (some "size")), defBody (the 16 (some "size")), defScope (the 16 (some "size")), [], []⟩
def dd_doubled : He.DefD := ⟨("doubled", none), "doubled", "doubled", defArgs (the 25 none), defBody (the 25 none), defScope (the 25 none), [], []⟩
def dd_rings : He.DefD := ⟨("rings", none), "rings", "rings", defArgs (the 17 none), defBody (the 17 none), defScope (the 17 none), [], []⟩
def dd_is_quiet : He.DefD := ⟨("is_quiet", none), "is_quiet", "is_quiet", defArgs (the 35 none), defBody (the 35 none), defScope (the 35 none), [], []⟩
def dd_first_quiet : He.DefD := ⟨("first_quiet", none), "first_quiet", "first_quiet", defArgs (the 36 none), defBody (the 36 none), defScope (the 36 none), [], []⟩
def dd_common : He.DefD := ⟨("common", none), "common", "common", defArgs (the 21 none), defBody (the 21 none), defScope (the 21 none), [], []⟩
def dd_ever_meet : He.DefD := ⟨("ever_meet", none), "ever_meet", "ever_meet", defArgs (the 31 none), defBody (the 31 none), defScope (the 31 none), [], []⟩
def dd_raw_pair : He.DefD := ⟨("raw_pair", none), "raw_pair", "raw_pair", defArgs (the 32 none), defBody (the 32 none), defScope (the 32 none), [], []⟩
def dd_why_not_exact : He.DefD := ⟨("why_not_exact", none), "why_not_exact", "why_not_exact", defArgs (the 45 none), defBody (the 45 none), defScope (the 45 none), [], []⟩
def dd_is_exact : He.DefD := ⟨("is_exact", none), "is_exact", "is_exact", defArgs (the 46 none), defBody (the 46 none), defScope (the 46 none), [], []⟩
def dd_is_loud_for_ever : He.DefD := ⟨("is_loud_for_ever", none), "is_loud_for_ever", "is_loud_for_ever", defArgs (the 39 none), defBody (the 39 none), defScope (the 39 none), [], []⟩
def dd_is_hour : He.DefD := ⟨("is_hour", none), "is_hour", "is_hour", defArgs (the 5 none), defBody (the 5 none), defScope (the 5 none), [], []⟩
def dd_check_hour : He.DefD := ⟨("check_hour", none), "check_hour", "check_hour", defArgs (the 19 none), defBody (the 19 none), defScope (the 19 none), [], []⟩
def dd_quiet : He.DefD := ⟨("quiet", none), "quiet", "quiet", defArgs (the 37 none), defBody (the 37 none), defScope (the 37 none), [], []⟩
def dd_quiet_before : He.DefD := ⟨("quiet_before", none), "quiet_before", "quiet_before", defArgs (the 38 none), defBody (the 38 none), defScope (the 38 none), [], []⟩
def dd_choices : He.DefD := ⟨("choices", none), "choices", "choices", defArgs (the 41 none), defBody (the 41 none), defScope (the 41 none), [], []⟩
def dd_inverse : He.DefD := ⟨("inverse", none), "inverse", "inverse", defArgs (the 27 none), defBody (the 27 none), defScope (the 27 none), [], []⟩
def dd_least_multiple : He.DefD := ⟨("least_multiple", none), "least_multiple", "least_multiple", defArgs (the 22 none), defBody (the 22 none), defScope (the 22 none), [], []⟩
def dd_common_hours : He.DefD := ⟨("common_hours", none), "common_hours", "common_hours", defArgs (the 28 none), defBody (the 28 none), defScope (the 28 none), [], []⟩
def dd_round_of : He.DefD := ⟨("round_of", none), "round_of", "round_of", defArgs (the 23 none), defBody (the 23 none), defScope (the 23 none), [], []⟩
def dd_meeting_sums : He.DefD := ⟨("meeting_sums", none), "meeting_sums", "meeting_sums", defArgs (the 40 none), defBody (the 40 none), defScope (the 40 none), [], []⟩
def dd_counts : He.DefD := ⟨("counts", none), "counts", "counts", defArgs (the 42 none), defBody (the 42 none), defScope (the 42 none), [], []⟩
def dd_share : He.DefD := ⟨("share", none), "share", "share", defArgs (the 43 none), defBody (the 43 none), defScope (the 43 none), [], []⟩
def dd__law_great_right : He.DefD := ⟨("_law_great_right", none), "_law_great_right", "_law_great_right", defArgs (the 61 none), defBody (the 61 none), defScope (the 61 none), [], []⟩
def dd__law_rings : He.DefD := ⟨("_law_rings", none), "_law_rings", "_law_rings", defArgs (the 51 none), defBody (the 51 none), defScope (the 51 none), [], []⟩
def dd__law_counts_right : He.DefD := ⟨("_law_counts_right", none), "_law_counts_right", "_law_counts_right", defArgs (the 56 none), defBody (the 56 none), defScope (the 56 none), [], []⟩
def dd__law_first : He.DefD := ⟨("_law_first", none), "_law_first", "_law_first", defArgs (the 57 none), defBody (the 57 none), defScope (the 57 none), [], []⟩
def dd_is_lot_below : He.DefD := ⟨("is_lot_below", none), "is_lot_below", "is_lot_below", defArgs (the 3 none), defBody (the 3 none), defScope (the 3 none), [], []⟩
def dd_check_lot : He.DefD := ⟨("check_lot", none), "check_lot", "check_lot", defArgs (the 24 none), defBody (the 24 none), defScope (the 24 none), [], []⟩
def dd_apart : He.DefD := ⟨("apart", none), "apart", "apart", defArgs (the 33 none), defBody (the 33 none), defScope (the 33 none), [], []⟩
def dd_all_of : He.DefD := ⟨("all_of", none), "all_of", "all_of", defArgs (the 29 none), defBody (the 29 none), defScope (the 29 none), [], []⟩
def dd_together : He.DefD := ⟨("together", none), "together", "together", defArgs (the 30 none), defBody (the 30 none), defScope (the 30 none), [], []⟩
def dd__law_lots_right : He.DefD := ⟨("_law_lots_right", none), "_law_lots_right", "_law_lots_right", defArgs (the 58 none), defBody (the 58 none), defScope (the 58 none), [], []⟩
def dd__law_round : He.DefD := ⟨("_law_round", none), "_law_round", "_law_round", defArgs (the 52 none), defBody (the 52 none), defScope (the 52 none), [], []⟩
def dd__law_small : He.DefD := ⟨("_law_small", none), "_law_small", "_law_small", defArgs (the 55 none), defBody (the 55 none), defScope (the 55 none), [], []⟩
def dd__law_two : He.DefD := ⟨("_law_two", none), "_law_two", "_law_two", defArgs (the 59 none), defBody (the 59 none), defScope (the 59 none), [], []⟩
def dd_raw_ringing : He.DefD := ⟨("raw_ringing", none), "raw_ringing", "raw_ringing", defArgs (the 18 none), defBody (the 18 none), defScope (the 18 none), [], []⟩
def dd_ringing : He.DefD := ⟨("ringing", none), "ringing", "ringing", defArgs (the 20 none), defBody (the 20 none), defScope (the 20 none), [], []⟩
def dd__law_small_right : He.DefD := ⟨("_law_small_right", none), "_law_small_right", "_law_small_right", defArgs (the 60 none), defBody (the 60 none), defScope (the 60 none), [], []⟩
def dd_law : He.DefD := ⟨("law", none), "law", "law", defArgs (the 62 none), defBody (the 62 none), defScope (the 62 none), [], []⟩
def fn : List He.DefD := [dd__law_bag, dd_is_integer, dd_is_below, dd_is_pair, dd_first_bad, dd_Bells_init, dd__law_pick, dd__law_split, dd__law_grown, dd__law_some, dd_Bells_size, dd_doubled, dd_rings, dd_is_quiet, dd_first_quiet, dd_common, dd_ever_meet, dd_raw_pair, dd_why_not_exact, dd_is_exact, dd_is_loud_for_ever, dd_is_hour, dd_check_hour, dd_quiet, dd_quiet_before, dd_choices, dd_inverse, dd_least_multiple, dd_common_hours, dd_round_of, dd_meeting_sums, dd_counts, dd_share, dd__law_great_right, dd__law_rings, dd__law_counts_right, dd__law_first, dd_is_lot_below, dd_check_lot, dd_apart, dd_all_of, dd_together, dd__law_lots_right, dd__law_round, dd__law_small, dd__law_two, dd_raw_ringing, dd_ringing, dd__law_small_right, dd_law]
def fa : List He.Fa := [.free "len", .free "int", .free "abs", .free "sum", .free "isinstance", .free "bool", .glo "is_integer", .free "tuple", .int "MOST_EVERY" 1000000000, .glo "is_below", .int "MOST" 14, .free "enumerate", .glo "is_pair", .glo "first_bad", .cls "Bells", .noat "Bells" "pairs", .free "range", .glo "_law_pick", .glo "_law_split", .glo "rings", .free "any", .meth "Bells" "size", .glo "doubled", .glo "is_quiet", .glo "common", .glo "ever_meet", .glo "raw_pair", .glo "first_quiet", .glo "why_not_exact", .int "MOST_HOUR" 1000000000000000000000000000000, .glo "is_hour", .glo "check_hour", .glo "inverse", .glo "least_multiple", .glo "round_of", .glo "common_hours", .glo "meeting_sums", .glo "choices", .glo "counts", .glo "_law_grown", .glo "_law_some", .mkr "Bells", .glo "Bells", .glo "is_loud_for_ever", .glo "is_exact", .glo "quiet", .glo "quiet_before", .glo "share", .glo "_law_rings", .free "repr", .free "all", .glo "is_lot_below", .glo "check_lot", .glo "all_of", .glo "_law_first", .glo "together", .glo "apart", .glo "raw_ringing", .glo "_law_small", .glo "_law_round", .glo "_law_two", .glo "ringing", .glo "_law_counts_right", .glo "_law_lots_right", .glo "_law_bag", .glo "_law_small_right", .glo "_law_great_right", .glo "law"]
def ex (K : PySem.W.Frag) : Bool := (cls.all (clsB K)) && ((["int", "bool", "str", "tuple", "list"] : List String).all fun T => isiB K T cls) && (cls.all fun x => isiO K x cls)
section
variable {P : Program} {w : World} {K : PySem.W.Frag} {mg : Str → Option Value} {h : Heap} (X : K.In h) (G : h.Ns mainGlobals mg) (c : He.SaysD fa fn K) (e : ex K = true) (bs : Heap)
include X G c in
theorem f0 : mg "len" = none := He.free_ok X G (c.fact 0 (f := .free "len") rfl)
include X G c in
theorem f1 : mg "int" = none := He.free_ok X G (c.fact 1 (f := .free "int") rfl)
include X G c in
theorem f2 : mg "abs" = none := He.free_ok X G (c.fact 2 (f := .free "abs") rfl)
include X G c in
theorem f3 : mg "sum" = none := He.free_ok X G (c.fact 3 (f := .free "sum") rfl)
include X G c in
theorem f4 : mg "isinstance" = none := He.free_ok X G (c.fact 4 (f := .free "isinstance") rfl)
include X G c in
theorem f5 : mg "bool" = none := He.free_ok X G (c.fact 5 (f := .free "bool") rfl)
include X G c in
theorem f6 : mg "is_integer" = some (.ref (He.ga K "is_integer")) := He.glo_ok X G (c.fact 6 (f := .glo "is_integer") rfl)
include X G c in
theorem f7 : mg "tuple" = none := He.free_ok X G (c.fact 7 (f := .free "tuple") rfl)
include X G c in
theorem f8 : ∃ t, mg "MOST_EVERY" = some (.int 1000000000 t) := He.int_ok X G (c.fact 8 (f := .int "MOST_EVERY" 1000000000) rfl)
include X G c in
theorem f9 : mg "is_below" = some (.ref (He.ga K "is_below")) := He.glo_ok X G (c.fact 9 (f := .glo "is_below") rfl)
include X G c in
theorem f10 : ∃ t, mg "MOST" = some (.int 14 t) := He.int_ok X G (c.fact 10 (f := .int "MOST" 14) rfl)
include X G c in
theorem f11 : mg "enumerate" = none := He.free_ok X G (c.fact 11 (f := .free "enumerate") rfl)
include X G c in
theorem f12 : mg "is_pair" = some (.ref (He.ga K "is_pair")) := He.glo_ok X G (c.fact 12 (f := .glo "is_pair") rfl)
include X G c in
theorem f13 : mg "first_bad" = some (.ref (He.ga K "first_bad")) := He.glo_ok X G (c.fact 13 (f := .glo "first_bad") rfl)
include c in
theorem f14 : Cls K (He.ga K "Bells") := He.cls_ok (c.fact 14 (f := .cls "Bells") rfl)
include c in
theorem f15 : NoAttr K (He.ga K "Bells") "pairs" := He.noat_ok (c.fact 15 (f := .noat "Bells" "pairs") rfl)
include X G c in
theorem f16 : mg "range" = none := He.free_ok X G (c.fact 16 (f := .free "range") rfl)
include X G c in
theorem f17 : mg "_law_pick" = some (.ref (He.ga K "_law_pick")) := He.glo_ok X G (c.fact 17 (f := .glo "_law_pick") rfl)
include X G c in
theorem f18 : mg "_law_split" = some (.ref (He.ga K "_law_split")) := He.glo_ok X G (c.fact 18 (f := .glo "_law_split") rfl)
include X G c in
theorem f19 : mg "rings" = some (.ref (He.ga K "rings")) := He.glo_ok X G (c.fact 19 (f := .glo "rings") rfl)
include X G c in
theorem f20 : mg "any" = none := He.free_ok X G (c.fact 20 (f := .free "any") rfl)
include c in
theorem f21 : Meth K (He.ga K "Bells") "size" (He.ma K (He.ga K "Bells") "size") := He.meth_ok (c.fact 21 (f := .meth "Bells" "size") rfl)
include X G c in
theorem f22 : mg "doubled" = some (.ref (He.ga K "doubled")) := He.glo_ok X G (c.fact 22 (f := .glo "doubled") rfl)
include X G c in
theorem f23 : mg "is_quiet" = some (.ref (He.ga K "is_quiet")) := He.glo_ok X G (c.fact 23 (f := .glo "is_quiet") rfl)
include X G c in
theorem f24 : mg "common" = some (.ref (He.ga K "common")) := He.glo_ok X G (c.fact 24 (f := .glo "common") rfl)
include X G c in
theorem f25 : mg "ever_meet" = some (.ref (He.ga K "ever_meet")) := He.glo_ok X G (c.fact 25 (f := .glo "ever_meet") rfl)
include X G c in
theorem f26 : mg "raw_pair" = some (.ref (He.ga K "raw_pair")) := He.glo_ok X G (c.fact 26 (f := .glo "raw_pair") rfl)
include X G c in
theorem f27 : mg "first_quiet" = some (.ref (He.ga K "first_quiet")) := He.glo_ok X G (c.fact 27 (f := .glo "first_quiet") rfl)
include X G c in
theorem f28 : mg "why_not_exact" = some (.ref (He.ga K "why_not_exact")) := He.glo_ok X G (c.fact 28 (f := .glo "why_not_exact") rfl)
include X G c in
theorem f29 : ∃ t, mg "MOST_HOUR" = some (.int 1000000000000000000000000000000 t) := He.int_ok X G (c.fact 29 (f := .int "MOST_HOUR" 1000000000000000000000000000000) rfl)
include X G c in
theorem f30 : mg "is_hour" = some (.ref (He.ga K "is_hour")) := He.glo_ok X G (c.fact 30 (f := .glo "is_hour") rfl)
include X G c in
theorem f31 : mg "check_hour" = some (.ref (He.ga K "check_hour")) := He.glo_ok X G (c.fact 31 (f := .glo "check_hour") rfl)
include X G c in
theorem f32 : mg "inverse" = some (.ref (He.ga K "inverse")) := He.glo_ok X G (c.fact 32 (f := .glo "inverse") rfl)
include X G c in
theorem f33 : mg "least_multiple" = some (.ref (He.ga K "least_multiple")) := He.glo_ok X G (c.fact 33 (f := .glo "least_multiple") rfl)
include X G c in
theorem f34 : mg "round_of" = some (.ref (He.ga K "round_of")) := He.glo_ok X G (c.fact 34 (f := .glo "round_of") rfl)
include X G c in
theorem f35 : mg "common_hours" = some (.ref (He.ga K "common_hours")) := He.glo_ok X G (c.fact 35 (f := .glo "common_hours") rfl)
include X G c in
theorem f36 : mg "meeting_sums" = some (.ref (He.ga K "meeting_sums")) := He.glo_ok X G (c.fact 36 (f := .glo "meeting_sums") rfl)
include X G c in
theorem f37 : mg "choices" = some (.ref (He.ga K "choices")) := He.glo_ok X G (c.fact 37 (f := .glo "choices") rfl)
include X G c in
theorem f38 : mg "counts" = some (.ref (He.ga K "counts")) := He.glo_ok X G (c.fact 38 (f := .glo "counts") rfl)
include X G c in
theorem f39 : mg "_law_grown" = some (.ref (He.ga K "_law_grown")) := He.glo_ok X G (c.fact 39 (f := .glo "_law_grown") rfl)
include X G c in
theorem f40 : mg "_law_some" = some (.ref (He.ga K "_law_some")) := He.glo_ok X G (c.fact 40 (f := .glo "_law_some") rfl)
include c in
theorem f41 : Mk K (He.ga K "Bells") (He.ma K (He.ga K "Bells") "__init__") := He.mkr_ok (c.fact 41 (f := .mkr "Bells") rfl)
include X G c in
theorem f42 : mg "Bells" = some (.ref (He.ga K "Bells")) := He.glo_ok X G (c.fact 42 (f := .glo "Bells") rfl)
include X G c in
theorem f43 : mg "is_loud_for_ever" = some (.ref (He.ga K "is_loud_for_ever")) := He.glo_ok X G (c.fact 43 (f := .glo "is_loud_for_ever") rfl)
include X G c in
theorem f44 : mg "is_exact" = some (.ref (He.ga K "is_exact")) := He.glo_ok X G (c.fact 44 (f := .glo "is_exact") rfl)
include X G c in
theorem f45 : mg "quiet" = some (.ref (He.ga K "quiet")) := He.glo_ok X G (c.fact 45 (f := .glo "quiet") rfl)
include X G c in
theorem f46 : mg "quiet_before" = some (.ref (He.ga K "quiet_before")) := He.glo_ok X G (c.fact 46 (f := .glo "quiet_before") rfl)
include X G c in
theorem f47 : mg "share" = some (.ref (He.ga K "share")) := He.glo_ok X G (c.fact 47 (f := .glo "share") rfl)
include X G c in
theorem f48 : mg "_law_rings" = some (.ref (He.ga K "_law_rings")) := He.glo_ok X G (c.fact 48 (f := .glo "_law_rings") rfl)
include X G c in
theorem f49 : mg "repr" = none := He.free_ok X G (c.fact 49 (f := .free "repr") rfl)
include X G c in
theorem f50 : mg "all" = none := He.free_ok X G (c.fact 50 (f := .free "all") rfl)
include X G c in
theorem f51 : mg "is_lot_below" = some (.ref (He.ga K "is_lot_below")) := He.glo_ok X G (c.fact 51 (f := .glo "is_lot_below") rfl)
include X G c in
theorem f52 : mg "check_lot" = some (.ref (He.ga K "check_lot")) := He.glo_ok X G (c.fact 52 (f := .glo "check_lot") rfl)
include X G c in
theorem f53 : mg "all_of" = some (.ref (He.ga K "all_of")) := He.glo_ok X G (c.fact 53 (f := .glo "all_of") rfl)
include X G c in
theorem f54 : mg "_law_first" = some (.ref (He.ga K "_law_first")) := He.glo_ok X G (c.fact 54 (f := .glo "_law_first") rfl)
include X G c in
theorem f55 : mg "together" = some (.ref (He.ga K "together")) := He.glo_ok X G (c.fact 55 (f := .glo "together") rfl)
include X G c in
theorem f56 : mg "apart" = some (.ref (He.ga K "apart")) := He.glo_ok X G (c.fact 56 (f := .glo "apart") rfl)
include X G c in
theorem f57 : mg "raw_ringing" = some (.ref (He.ga K "raw_ringing")) := He.glo_ok X G (c.fact 57 (f := .glo "raw_ringing") rfl)
include X G c in
theorem f58 : mg "_law_small" = some (.ref (He.ga K "_law_small")) := He.glo_ok X G (c.fact 58 (f := .glo "_law_small") rfl)
include X G c in
theorem f59 : mg "_law_round" = some (.ref (He.ga K "_law_round")) := He.glo_ok X G (c.fact 59 (f := .glo "_law_round") rfl)
include X G c in
theorem f60 : mg "_law_two" = some (.ref (He.ga K "_law_two")) := He.glo_ok X G (c.fact 60 (f := .glo "_law_two") rfl)
include X G c in
theorem f61 : mg "ringing" = some (.ref (He.ga K "ringing")) := He.glo_ok X G (c.fact 61 (f := .glo "ringing") rfl)
include X G c in
theorem f62 : mg "_law_counts_right" = some (.ref (He.ga K "_law_counts_right")) := He.glo_ok X G (c.fact 62 (f := .glo "_law_counts_right") rfl)
include X G c in
theorem f63 : mg "_law_lots_right" = some (.ref (He.ga K "_law_lots_right")) := He.glo_ok X G (c.fact 63 (f := .glo "_law_lots_right") rfl)
include X G c in
theorem f64 : mg "_law_bag" = some (.ref (He.ga K "_law_bag")) := He.glo_ok X G (c.fact 64 (f := .glo "_law_bag") rfl)
include X G c in
theorem f65 : mg "_law_small_right" = some (.ref (He.ga K "_law_small_right")) := He.glo_ok X G (c.fact 65 (f := .glo "_law_small_right") rfl)
include X G c in
theorem f66 : mg "_law_great_right" = some (.ref (He.ga K "_law_great_right")) := He.glo_ok X G (c.fact 66 (f := .glo "_law_great_right") rfl)
include X G c in
theorem f67 : mg "law" = some (.ref (He.ga K "law")) := He.glo_ok X G (c.fact 67 (f := .glo "law") rfl)
include c in
theorem clsAll : ∀ x ∈ cls, Cls K (He.ga K x) := by
  intro x hx
  simp only [cls, List.mem_cons, List.not_mem_nil, or_false] at hx
  subst hx
  exact f14 c
include c e in
theorem hcs : ∀ x ∈ cls, ClsI K x := fun x hx => by
  have e := e
  unfold ex at e
  simp only [Bool.and_eq_true, List.all_eq_true] at e
  exact clsI_of (e.1.1 x hx) (clsAll c x hx)
include c e in
theorem isB (T : String) (hT : T ∈ (["int", "bool", "str", "tuple", "list"] : List String) := by decide) (hk : ∀ n ∈ builtinTys, kitB n T = some (n == T || (n == "bool" && T == "int")) := by decide +kernel) : Ans K (.type T) (ansB T cls) := by
  have e2 := e
  unfold ex at e2
  simp only [Bool.and_eq_true, List.all_eq_true] at e2
  exact ans_b (e2.1.2 T hT) (hcs c e) hk
include c e in
theorem isO (x : Str) (hx : x ∈ cls := by decide) : Ans K (.ref (He.ga K x)) (ansO x cls) := by
  have e2 := e
  unfold ex at e2
  simp only [Bool.and_eq_true, List.all_eq_true] at e2
  exact ans_o (e2.2 x hx) (hcs c e)
theorem sc__law_bag : FnScope ["script", "seed", "cell", "great", "always"] ["script"] (defScope2 48 none) := ⟨rfl, rfl, rfl, by decide +kernel, rfl, by decide +kernel, by decide +kernel⟩

include X G c e in
theorem ok__law_bag : OkF P w K mg bs 1 (He.fAd K ("_law_bag", none)) 1 d__law_bag := by
  obtain ⟨fd, F⟩ := c.def_ 0 (d := dd__law_bag) rfl
  exact (okF_def (N := ["script", "seed", "cell", "great", "always"]) (ps := ["script"]) (n := 1) (b := b__law_bag) F sc__law_bag rfl (fun _ _ _ _ _ _ us hl => match us, hl with | [_], _ => rfl)
    (fun zz cdv A outer s H E hr tk po => have sc := sc__law_bag;
    ss_cons (s_set (i := 1) sc.nd (se_bin (o_add (mu := false)) (se_int) (se_callB c_len (f0 X G c) boot_len (sa_cons (se_var 0) (sa_nil)))))
    (ss_cons (s_for po (si_each (se_slice (l_seq (mu := false)) (se_var 0) (so_none) (so_some (se_int)))) (sg_name (i := 2) sc.nd)
    (ss_one (s_set (i := 1) sc.nd (se_bin o_mod (se_callTy c_int (f1 X G c) boot_int (sa_cons (se_bin (o_add (mu := false)) (se_bin (o_add (mu := false)) (se_bin (o_mul (mu := false)) (se_var 1) (se_int)) (se_callTy c_int (f1 X G c) boot_int (sa_cons (se_var 2) (sa_nil)))) (se_bin o_pow (se_int) (se_int))) (sa_nil))) (se_int)))))
    (ss_cons (s_setLc (i := 3) true [("cell", 2)] sc.nd (si_each (se_slice (l_seq (mu := false)) (se_var 0) (so_none) (so_some (se_int)))) (blkOk_by (by rfl)) (fun _ _ _ _ _ _ => gw_name (i := 2) sc.nd) (fun _ _ _ _ _ _ => sts_one (st_cmp o_ge (se_callB c_abs (f2 X G c) boot_abs (sa_cons (se_callTy c_int (f1 X G c) boot_int (sa_cons (se_var 2) (sa_nil))) (sa_nil))) (se_bin o_pow (se_int) (se_int)) rfl)) (fun _ _ _ _ _ _ => se_callB c_abs (f2 X G c) boot_abs (sa_cons (se_callTy c_int (f1 X G c) boot_int (sa_cons (se_var 2) (sa_nil))) (sa_nil))))
    (ss_cons (s_set (i := 4) sc.nd (se_non))
    (ss_cons (s_if ((sw_or (st_cmp (o_eq (room_u hr (by decide))) (se_callB c_len (f0 X G c) boot_len (sa_cons (se_var 0) (sa_nil))) (se_int) rfl) (sw_or1 ((sw_and (st_cmp (o_eq (room_u hr (by decide))) (se_callB c_len (f0 X G c) boot_len (sa_cons (se_var 0) (sa_nil))) (se_int) rfl) (sw_and1 (st_cmp o_ltI (se_callB c_abs (f2 X G c) boot_abs (sa_cons (se_callTy c_int (f1 X G c) boot_int (sa_cons (se_ix i_seq (se_var 0) (se_int)) (sa_nil))) (sa_nil))) (se_int) rfl))).pt))).pt)
    (ss_one (s_set (i := 4) sc.nd (se_callB c_abs (f2 X G c) boot_abs (sa_cons (se_callB c_sumA (f3 X G c) boot_sum (sa_cons (se_lc false [("cell", 2)] sc.nd (si_each (se_var 0)) (blkOk_by (by rfl)) (fun _ _ _ _ _ _ => gw_name (i := 2) sc.nd) (fun _ _ _ _ _ _ => sts_nil) (fun _ _ _ _ _ _ => se_callTy c_int (f1 X G c) boot_int (sa_cons (se_var 2) (sa_nil)))) (sa_nil))) (sa_nil)))))
    (ss_nil))
    (ss_one (s_ret (se_lst (mu := true) (sa_cons (se_var 1) (sa_cons (se_int) (sa_cons (se_var 3) (sa_cons (se_var 4) (sa_nil))))))))))))))

theorem sc_is_integer : FnScope ["thing"] ["thing"] (defScope2 1 none) := ⟨rfl, rfl, rfl, by decide +kernel, rfl, by decide +kernel, by decide +kernel⟩

include X G c e in
theorem ok_is_integer : OkF P w K mg bs 1 (He.fAd K ("is_integer", none)) 1 d_is_integer := by
  obtain ⟨fd, F⟩ := c.def_ 1 (d := dd_is_integer) rfl
  exact OkF.seal (okF_def (N := ["thing"]) (ps := ["thing"]) (n := 1) (b := b_is_integer) F sc_is_integer rfl (fun _ _ _ _ _ _ us hl => match us, hl with | [_], _ => rfl)
    (fun zz cdv A outer s H E hr tk po => have sc := sc_is_integer;
    ss_one (s_ret (se_and (se_isi (isB c e "int") (f4 X G c) (se_var 0) (pe_tyN (T := "int") (f1 X G c) boot_int) (.ty "int")) (se_one (se_not (se_isi (isB c e "bool") (f4 X G c) (se_var 0) (pe_tyN (T := "bool") (f5 X G c) (by decide +kernel)) (.ty "bool"))))))))

theorem sc_is_below : FnScope ["thing", "many"] ["thing", "many"] (defScope2 2 none) := ⟨rfl, rfl, rfl, by decide +kernel, rfl, by decide +kernel, by decide +kernel⟩

include X G c e in
theorem ok_is_below : OkF P w K mg bs 2 (He.fAd K ("is_below", none)) 2 d_is_below := by
  obtain ⟨fd, F⟩ := c.def_ 2 (d := dd_is_below) rfl
  exact OkF.seal (okF_def (N := ["thing", "many"]) (ps := ["thing", "many"]) (n := 2) (b := b_is_below) F sc_is_below rfl (fun _ _ _ _ _ _ us hl => match us, hl with | [_, _], _ => rfl)
    (fun zz cdv A outer s H E hr tk po => have sc := sc_is_below;
    ss_one (s_ret (se_and (se_callO (ok_is_integer X G c e bs) hr (by decide) (f6 X G c) tk (sa_cons (se_var 0) (sa_nil))) (se_one (se_chain o_le o_ltI (se_int) (se_var 0) (se_var 1)))))))

theorem sc_is_pair : FnScope ["thing"] ["thing"] (defScope2 14 none) := ⟨rfl, rfl, rfl, by decide +kernel, rfl, by decide +kernel, by decide +kernel⟩

include X G c e in
theorem ok_is_pair : OkF P w K mg bs 3 (He.fAd K ("is_pair", none)) 1 d_is_pair := by
  obtain ⟨fd, F⟩ := c.def_ 3 (d := dd_is_pair) rfl
  exact OkF.seal (okF_def (N := ["thing"]) (ps := ["thing"]) (n := 1) (b := b_is_pair) F sc_is_pair rfl (fun _ _ _ _ _ _ us hl => match us, hl with | [_], _ => rfl)
    (fun zz cdv A outer s H E hr tk po => have sc := sc_is_pair;
    ss_cons (s_if ((sw_or (st_not (st_val (se_isi (isB c e "tuple") (f4 X G c) (se_var 0) (pe_tyN (T := "tuple") (f7 X G c) boot_tuple) (.ty "tuple")))) (sw_or1 (st_cmp (o_ne (room_u hr (by decide))) (se_callB c_len (f0 X G c) boot_len (sa_cons (se_var 0) (sa_nil))) (se_int) rfl))).pt)
    (ss_one (s_ret (se_bl)))
    (ss_nil))
    (ss_one (s_ret (se_and (se_callO (ok_is_below X G c e bs) hr (by decide) (f9 X G c) tk (sa_cons (se_ix i_seq (se_var 0) (se_int)) (sa_cons (se_bin (o_add (mu := false)) (se_gint (by rfl) (f8 X G c)) (se_int)) (sa_nil)))) (se_one (se_callO (ok_is_below X G c e bs) hr (by decide) (f9 X G c) tk (sa_cons (se_ix i_seq (se_var 0) (se_int)) (sa_cons (se_ix i_seq (se_var 0) (se_int)) (sa_nil))))))))))

theorem sc_first_bad : FnScope ["pairs", "place", "one"] ["pairs"] (defScope2 15 none) := ⟨rfl, rfl, rfl, by decide +kernel, rfl, by decide +kernel, by decide +kernel⟩

include X G c e in
theorem ok_first_bad : OkF P w K mg bs 4 (He.fAd K ("first_bad", none)) 1 d_first_bad := by
  obtain ⟨fd, F⟩ := c.def_ 4 (d := dd_first_bad) rfl
  exact OkF.seal (okF_def (N := ["pairs", "place", "one"]) (ps := ["pairs"]) (n := 1) (b := b_first_bad) F sc_first_bad rfl (fun _ _ _ _ _ _ us hl => match us, hl with | [_], _ => rfl)
    (fun zz cdv A outer s H E hr tk po => have sc := sc_first_bad;
    ss_cons (s_if ((sw_or (st_not (st_val (se_isi (isB c e "tuple") (f4 X G c) (se_var 0) (pe_tyN (T := "tuple") (f7 X G c) boot_tuple) (.ty "tuple")))) (sw_or1 (st_cmp o_gt (se_callB c_len (f0 X G c) boot_len (sa_cons (se_var 0) (sa_nil))) (se_gint (by rfl) (f10 X G c)) rfl))).pt)
    (ss_one (s_ret (se_un o_neg (se_int))))
    (ss_nil))
    (ss_cons (s_for po (si_enum (f11 X G c) (sa_cons (se_var 0) (sa_nil))) (sg_tup (sgs_cons (sg_name (i := 1) sc.nd) (sgs_cons (sg_name (i := 2) sc.nd) (sgs_nil))))
    (ss_one (s_if (st_not (st_val (se_callO (ok_is_pair X G c e bs) hr (by decide) (f12 X G c) tk (sa_cons (se_var 2) (sa_nil)))))
    (ss_one (s_ret (se_var 1)))
    (ss_nil))))
    (ss_one (s_ret (se_non))))))

theorem sc_Bells_init : FnScope ["self", "pairs", "place"] ["self", "pairs"] (defScope2 16 (some "__init__")) := ⟨rfl, rfl, rfl, by decide +kernel, rfl, by decide +kernel, by decide +kernel⟩

include X G c e in
theorem ok_Bells_init : OkF P w K mg bs 5 (He.fAd K ("Bells", some "__init__")) 2 d_Bells_init := by
  obtain ⟨fd, F⟩ := c.def_ 5 (d := dd_Bells_init) rfl
  exact OkF.seal (okF_def (N := ["self", "pairs", "place"]) (ps := ["self", "pairs"]) (n := 2) (b := b_Bells_init) F sc_Bells_init rfl (fun _ _ _ _ _ _ us hl => match us, hl with | [_, _], _ => rfl)
    (fun zz cdv A outer s H E hr tk po => have sc := sc_Bells_init;
    ss_cons (s_set (i := 2) sc.nd (se_callO (ok_first_bad X G c e bs) hr (by decide) (f13 X G c) tk (sa_cons (se_var 1) (sa_nil))))
    (ss_cons (s_if (st_cmp o_isNot (se_var 2) (se_non) rfl)
    (ss_one (s_never))
    (ss_nil))
    (ss_one (s_fld (f14 c) (f15 c) (se_var 1) (se_var 0))))))

theorem sc__law_pick : FnScope ["bag", "many", "rest", "told"] ["bag", "many"] (defScope2 49 none) := ⟨rfl, rfl, rfl, by decide +kernel, rfl, by decide +kernel, by decide +kernel⟩

include X G c e in
theorem ok__law_pick : OkF P w K mg bs 1 (He.fAd K ("_law_pick", none)) 2 d__law_pick := by
  obtain ⟨fd, F⟩ := c.def_ 6 (d := dd__law_pick) rfl
  exact OkF.seal (okF_def (N := ["bag", "many", "rest", "told"]) (ps := ["bag", "many"]) (n := 2) (b := b__law_pick) F sc__law_pick rfl (fun _ _ _ _ _ _ us hl => match us, hl with | [_, _], _ => rfl)
    (fun zz cdv A outer s H E hr tk po => have sc := sc__law_pick;
    ss_cons (s_if (st_cmp o_isNot (se_ix i_seq (se_var 0) (se_int)) (se_non) rfl)
    (ss_one (s_ret (se_bin o_mod (se_callTy c_int (f1 X G c) boot_int (sa_cons (se_ix i_seq (se_var 0) (se_int)) (sa_nil))) (se_var 1))))
    (ss_nil))
    (ss_cons (s_if (st_cmp o_gt (se_callB c_len (f0 X G c) boot_len (sa_cons (se_ix i_seq (se_var 0) (se_int)) (sa_nil))) (se_int) rfl)
    (ss_cons (s_set (i := 2) sc.nd (se_ix i_seq (se_ix i_seq (se_var 0) (se_int)) (se_int)))
    (ss_cons (s_set (i := 3) sc.nd (se_bin o_mod (se_callTy c_int (f1 X G c) boot_int (sa_cons (se_var 2) (sa_nil))) (se_var 1)))
    (ss_cons (s_if (st_cmp o_ltI (se_var 2) (se_var 1) rfl)
    (ss_one (s_expr (se_mb PySem.F.plainAttrs_list PySem.F.slot_list_pop PySem.F.type_list_pop m_popAt (se_ix i_seq (se_var 0) (se_int)) (sa_cons (se_int) (sa_nil)))))
    (ss_one (s_sub t_list (se_bin o_div (se_var 2) (se_var 1)) (se_ix i_seq (se_var 0) (se_int)) (se_int))))
    (ss_one (s_ret (se_var 3))))))
    (ss_nil))
    (ss_cons (s_sub t_list (se_bin o_mod (se_callTy c_int (f1 X G c) boot_int (sa_cons (se_bin (o_add (mu := false)) (se_bin (o_mul (mu := false)) (se_callTy c_int (f1 X G c) boot_int (sa_cons (se_ix i_seq (se_var 0) (se_int)) (sa_nil))) (se_int)) (se_ix i_seq (se_var 0) (se_int))) (sa_nil))) (se_int)) (se_var 0) (se_int))
    (ss_cons (s_sub t_list (se_bin (o_add (mu := false)) (se_ix i_seq (se_var 0) (se_int)) (se_int)) (se_var 0) (se_int))
    (ss_one (s_ret (se_bin o_mod (se_callTy c_int (f1 X G c) boot_int (sa_cons (se_bin o_div (se_ix i_seq (se_var 0) (se_int)) (se_int)) (sa_nil))) (se_var 1)))))))))

theorem sc__law_split : FnScope ["pairs", "bell", "many", "fresh", "every", "at", "one"] ["pairs", "bell", "many"] (defScope2 53 none) := ⟨rfl, rfl, rfl, by decide +kernel, rfl, by decide +kernel, by decide +kernel⟩

include X G c e in
theorem ok__law_split : OkF P w K mg bs 1 (He.fAd K ("_law_split", none)) 3 d__law_split := by
  obtain ⟨fd, F⟩ := c.def_ 7 (d := dd__law_split) rfl
  exact OkF.seal (okF_def (N := ["pairs", "bell", "many", "fresh", "every", "at", "one"]) (ps := ["pairs", "bell", "many"]) (n := 3) (b := b__law_split) F sc__law_split rfl (fun _ _ _ _ _ _ us hl => match us, hl with | [_, _, _], _ => rfl)
    (fun zz cdv A outer s H E hr tk po => have sc := sc__law_split;
    ss_cons (s_asg (se_ix i_seq (se_var 0) (se_var 1)) (sg_tup (sgs_cons (sg_name (i := 4) sc.nd) (sgs_cons (sg_name (i := 5) sc.nd) (sgs_nil)))))
    (ss_cons (s_setLc (i := 3) false [("one", 6)] sc.nd (si_rng1 (f16 X G c) (sa_cons (se_var 2) (sa_nil))) (blkOk_by (by rfl)) (fun _ _ _ _ _ _ => gw_name (i := 6) sc.nd) (fun _ _ _ _ _ _ => sts_nil) (fun _ _ _ _ _ _ => se_tup (sa_cons (se_bin (o_mul (mu := false)) (se_var 4) (se_var 2)) (sa_cons (se_bin (o_add (mu := false)) (se_var 5) (se_bin (o_mul (mu := false)) (se_var 4) (se_var 6))) (sa_nil)))))
    (ss_one (s_ret (se_bin (o_add (mu := false)) (se_bin (o_add (mu := false)) (se_slice (l_seq (mu := false)) (se_var 0) (so_none) (so_some (se_var 1))) (se_var 3)) (se_slice (l_seq (mu := false)) (se_var 0) (so_some (se_bin (o_add (mu := false)) (se_var 1) (se_int))) (so_none))))))))

theorem sc__law_grown : FnScope ["bag", "most", "wide", "pairs", "lap", "moved", "bell", "many", "every", "at"] ["bag", "most", "wide"] (defScope2 54 none) := ⟨rfl, rfl, rfl, by decide +kernel, rfl, by decide +kernel, by decide +kernel⟩

include X G c e in
theorem ok__law_grown : OkF P w K mg bs 2 (He.fAd K ("_law_grown", none)) 3 d__law_grown := by
  obtain ⟨fd, F⟩ := c.def_ 8 (d := dd__law_grown) rfl
  exact OkF.seal (okF_def (N := ["bag", "most", "wide", "pairs", "lap", "moved", "bell", "many", "every", "at"]) (ps := ["bag", "most", "wide"]) (n := 3) (b := b__law_grown) F sc__law_grown rfl (fun _ _ _ _ _ _ us hl => match us, hl with | [_, _, _], _ => rfl)
    (fun zz cdv A outer s H E hr tk po => have sc := sc__law_grown;
    ss_cons (s_set (i := 3) sc.nd (se_lst (mu := false) (sa_cons (se_tup (sa_cons (se_int) (sa_cons (se_int) (sa_nil)))) (sa_nil))))
    (ss_cons (s_for po (si_rng1 (f16 X G c) (sa_cons (se_bin (o_add (mu := false)) (se_int) (se_callO (ok__law_pick X G c e bs) hr (by decide) (f17 X G c) tk (sa_cons (se_var 0) (sa_cons (se_int) (sa_nil))))) (sa_nil))) (sg_name (i := 4) sc.nd)
    (ss_cons (s_par (i := 6) (j := 7) sc.nd (sa_cons (se_callO (ok__law_pick X G c e bs) hr (by decide) (f17 X G c) tk (sa_cons (se_var 0) (sa_cons (se_callB c_len (f0 X G c) boot_len (sa_cons (se_var 3) (sa_nil))) (sa_nil)))) (sa_cons (se_bin (o_add (mu := false)) (se_int) (se_callO (ok__law_pick X G c e bs) hr (by decide) (f17 X G c) tk (sa_cons (se_var 0) (sa_cons (se_int) (sa_nil))))) (sa_nil))))
    (ss_one (s_if ((sw_and (st_cmp o_le (se_bin (o_add (mu := false)) (se_bin o_sub (se_callB c_len (f0 X G c) boot_len (sa_cons (se_var 3) (sa_nil))) (se_int)) (se_var 7)) (se_var 1) rfl) (sw_and1 (st_cmp o_le (se_bin (o_mul (mu := false)) (se_ix i_seq (se_ix i_seq (se_var 3) (se_var 6)) (se_int)) (se_var 7)) (se_var 2) rfl))).pt)
    (ss_one (s_set (i := 3) sc.nd (se_callO (ok__law_split X G c e bs) hr (by decide) (f18 X G c) tk (sa_cons (se_var 3) (sa_cons (se_var 6) (sa_cons (se_var 7) (sa_nil)))))))
    (ss_nil)))))
    (ss_cons (s_set (i := 5) sc.nd (se_callO (ok__law_pick X G c e bs) hr (by decide) (f17 X G c) tk (sa_cons (se_var 0) (sa_cons (se_bin o_pow (se_int) (se_int)) (sa_nil)))))
    (ss_one (s_ret (se_lc false [("every", 8), ("at", 9)] sc.nd (si_each (se_var 3)) (blkOk_by (by rfl)) (fun _ _ _ _ _ _ => gw_tup (gws_cons (gw_name (i := 8) sc.nd) (gws_cons (gw_name (i := 9) sc.nd) (gws_nil)))) (fun _ _ _ _ _ _ => sts_nil) (fun _ _ _ _ _ _ => se_tup (sa_cons (se_var 8) (sa_cons (se_bin o_mod (se_callTy c_int (f1 X G c) boot_int (sa_cons (se_bin (o_add (mu := false)) (se_var 9) (se_var 5)) (sa_nil))) (se_var 8)) (sa_nil)))))))))))

theorem sc__law_some : FnScope ["bag", "rows"] ["bag", "rows"] (defScope2 50 none) := ⟨rfl, rfl, rfl, by decide +kernel, rfl, by decide +kernel, by decide +kernel⟩

include X G c e in
theorem ok__law_some : OkF P w K mg bs 2 (He.fAd K ("_law_some", none)) 2 d__law_some := by
  obtain ⟨fd, F⟩ := c.def_ 9 (d := dd__law_some) rfl
  exact OkF.seal (okF_def (N := ["bag", "rows"]) (ps := ["bag", "rows"]) (n := 2) (b := b__law_some) F sc__law_some rfl (fun _ _ _ _ _ _ us hl => match us, hl with | [_, _], _ => rfl)
    (fun zz cdv A outer s H E hr tk po => have sc := sc__law_some;
    ss_one (s_ret (se_ix i_seq (se_var 1) (se_callO (ok__law_pick X G c e bs) hr (by decide) (f17 X G c) tk (sa_cons (se_var 0) (sa_cons (se_callB c_len (f0 X G c) boot_len (sa_cons (se_var 1) (sa_nil))) (sa_nil))))))))

theorem sc_Bells_size : FnScope ["self"] ["self"] (defScope2 16 (some "size")) := ⟨rfl, rfl, rfl, by decide +kernel, rfl, by decide +kernel, by decide +kernel⟩

include X G c e in
theorem ok_Bells_size : OkF P w K mg bs 1 (He.fAd K ("Bells", some "size")) 1 d_Bells_size := by
  obtain ⟨fd, F⟩ := c.def_ 10 (d := dd_Bells_size) rfl
  exact OkF.seal (okF_def (N := ["self"]) (ps := ["self"]) (n := 1) (b := b_Bells_size) F sc_Bells_size rfl (fun _ _ _ _ _ _ us hl => match us, hl with | [_], _ => rfl)
    (fun zz cdv A outer s H E hr tk po => have sc := sc_Bells_size;
    ss_one (s_ret (se_callB c_len (f0 X G c) boot_len (sa_cons (se_fld (f14 c) (f15 c) (se_var 0)) (sa_nil))))))

theorem sc_doubled : FnScope ["many", "found", "one"] ["many"] (defScope2 25 none) := ⟨rfl, rfl, rfl, by decide +kernel, rfl, by decide +kernel, by decide +kernel⟩

include X G c e in
theorem ok_doubled : OkF P w K mg bs 1 (He.fAd K ("doubled", none)) 1 d_doubled := by
  obtain ⟨fd, F⟩ := c.def_ 11 (d := dd_doubled) rfl
  exact OkF.seal (okF_def (N := ["many", "found", "one"]) (ps := ["many"]) (n := 1) (b := b_doubled) F sc_doubled rfl (fun _ _ _ _ _ _ us hl => match us, hl with | [_], _ => rfl)
    (fun zz cdv A outer s H E hr tk po => have sc := sc_doubled;
    ss_cons (s_set (i := 1) sc.nd (se_int))
    (ss_cons (s_for po (si_rng1 (f16 X G c) (sa_cons (se_var 0) (sa_nil))) (sg_name (i := 2) sc.nd)
    (ss_one (s_aug (i := 1) sc.nd o_addII (se_var 1))))
    (ss_one (s_ret (se_var 1))))))

theorem sc_rings : FnScope ["pair", "hour"] ["pair", "hour"] (defScope2 17 none) := ⟨rfl, rfl, rfl, by decide +kernel, rfl, by decide +kernel, by decide +kernel⟩

include X G c e in
theorem ok_rings : OkF P w K mg bs 1 (He.fAd K ("rings", none)) 2 d_rings := by
  obtain ⟨fd, F⟩ := c.def_ 12 (d := dd_rings) rfl
  exact OkF.seal (okF_def (N := ["pair", "hour"]) (ps := ["pair", "hour"]) (n := 2) (b := b_rings) F sc_rings rfl (fun _ _ _ _ _ _ us hl => match us, hl with | [_, _], _ => rfl)
    (fun zz cdv A outer s H E hr tk po => have sc := sc_rings;
    ss_one (s_ret (se_cmp (o_eq (room_u hr (by decide))) (se_bin o_mod (se_callTy c_int (f1 X G c) boot_int (sa_cons (se_var 1) (sa_nil))) (se_ix i_seq (se_var 0) (se_int))) (se_ix i_seq (se_var 0) (se_int)) rfl))))

theorem sc_is_quiet : FnScope ["bells", "hour", "pair"] ["bells", "hour"] (defScope2 35 none) := ⟨rfl, rfl, rfl, by decide +kernel, rfl, by decide +kernel, by decide +kernel⟩

include X G c e in
theorem ok_is_quiet : OkF P w K mg bs 2 (He.fAd K ("is_quiet", none)) 2 d_is_quiet := by
  obtain ⟨fd, F⟩ := c.def_ 13 (d := dd_is_quiet) rfl
  exact OkF.seal (okF_def (N := ["bells", "hour", "pair"]) (ps := ["bells", "hour"]) (n := 2) (b := b_is_quiet) F sc_is_quiet rfl (fun _ _ _ _ _ _ us hl => match us, hl with | [_, _], _ => rfl)
    (fun zz cdv A outer s H E hr tk po => have sc := sc_is_quiet;
    ss_one (s_ret (se_not (se_callB c_any (f20 X G c) boot_any (sa_cons (se_lc false [("pair", 2)] sc.nd (si_tup (se_fld (f14 c) (f15 c) (se_var 0))) (blkOk_by (by rfl)) (fun _ _ _ _ _ _ => gw_name (i := 2) sc.nd) (fun _ _ _ _ _ _ => sts_nil) (fun _ _ _ _ _ _ => se_callO (ok_rings X G c e bs) hr (by decide) (f19 X G c) (takes0 _) (sa_cons (se_var 2) (sa_cons (se_var 1) (sa_nil))))) (sa_nil)))))))

theorem sc_first_quiet : FnScope ["bells", "hour", "step", "many"] ["bells", "hour", "step"] (defScope2 36 none) := ⟨rfl, rfl, rfl, by decide +kernel, rfl, by decide +kernel, by decide +kernel⟩

include X G c e in
theorem ok_first_quiet : OkF P w K mg bs 3 (He.fAd K ("first_quiet", none)) 3 d_first_quiet := by
  obtain ⟨fd, F⟩ := c.def_ 14 (d := dd_first_quiet) rfl
  exact OkF.seal (okF_def (N := ["bells", "hour", "step", "many"]) (ps := ["bells", "hour", "step"]) (n := 3) (b := b_first_quiet) F sc_first_quiet rfl (fun _ _ _ _ _ _ us hl => match us, hl with | [_, _, _], _ => rfl)
    (fun zz cdv A outer s H E hr tk po => have sc := sc_first_quiet;
    ss_cons (s_for po (si_rng1 (f16 X G c) (sa_cons (se_callO (ok_doubled X G c e bs) hr (by decide) (f22 X G c) tk (sa_cons (se_methO0 (f14 c) (f21 c) (ok_Bells_size X G c e bs) hr (by decide) tk (se_var 0)) (sa_nil))) (sa_nil))) (sg_name (i := 3) sc.nd)
    (ss_one (s_if (st_val (se_callO (ok_is_quiet X G c e bs) hr (by decide) (f23 X G c) tk (sa_cons (se_var 0) (sa_cons (se_bin (o_add (mu := false)) (se_var 1) (se_bin (o_mul (mu := false)) (se_var 2) (se_var 3))) (sa_nil)))))
    (ss_one (s_ret (se_bin (o_add (mu := false)) (se_var 1) (se_bin (o_mul (mu := false)) (se_var 2) (se_var 3)))))
    (ss_nil))))
    (ss_one (s_ret (se_non)))))

theorem sc_common : FnScope ["one", "other"] ["one", "other"] (defScope2 21 none) := ⟨rfl, rfl, rfl, by decide +kernel, rfl, by decide +kernel, by decide +kernel⟩

include X G c e in
theorem ok_common : OkF P w K mg bs 1 (He.fAd K ("common", none)) 2 d_common := by
  obtain ⟨fd, F⟩ := c.def_ 15 (d := dd_common) rfl
  exact OkF.seal (okF_def (N := ["one", "other"]) (ps := ["one", "other"]) (n := 2) (b := b_common) F sc_common rfl (fun _ _ _ _ _ _ us hl => match us, hl with | [_, _], _ => rfl)
    (fun zz cdv A outer s H E hr tk po => have sc := sc_common;
    ss_cons (s_while po (st_cmp o_gt (se_var 1) (se_int) rfl)
    (ss_one (s_par (i := 0) (j := 1) sc.nd (sa_cons (se_var 1) (sa_cons (se_bin o_mod (se_callTy c_int (f1 X G c) boot_int (sa_cons (se_var 0) (sa_nil))) (se_var 1)) (sa_nil))))))
    (ss_one (s_ret (se_var 0)))))

theorem sc_ever_meet : FnScope ["one", "other"] ["one", "other"] (defScope2 31 none) := ⟨rfl, rfl, rfl, by decide +kernel, rfl, by decide +kernel, by decide +kernel⟩

include X G c e in
theorem ok_ever_meet : OkF P w K mg bs 2 (He.fAd K ("ever_meet", none)) 2 d_ever_meet := by
  obtain ⟨fd, F⟩ := c.def_ 16 (d := dd_ever_meet) rfl
  exact OkF.seal (okF_def (N := ["one", "other"]) (ps := ["one", "other"]) (n := 2) (b := b_ever_meet) F sc_ever_meet rfl (fun _ _ _ _ _ _ us hl => match us, hl with | [_, _], _ => rfl)
    (fun zz cdv A outer s H E hr tk po => have sc := sc_ever_meet;
    ss_one (s_ret (se_cmp (o_eq (room_u hr (by decide))) (se_bin o_mod (se_callTy c_int (f1 X G c) boot_int (sa_cons (se_bin o_sub (se_ix i_seq (se_var 1) (se_int)) (se_ix i_seq (se_var 0) (se_int))) (sa_nil))) (se_callO (ok_common X G c e bs) hr (by decide) (f24 X G c) tk (sa_cons (se_ix i_seq (se_var 0) (se_int)) (sa_cons (se_ix i_seq (se_var 1) (se_int)) (sa_nil))))) (se_int) rfl))))

theorem sc_raw_pair : FnScope ["bells", "lot", "is_meeting", "at", "bell", "other"] ["bells", "lot", "is_meeting"] (defScope2 32 none) := ⟨rfl, rfl, rfl, by decide +kernel, rfl, by decide +kernel, by decide +kernel⟩

include X G c e in
theorem ok_raw_pair : OkF P w K mg bs 3 (He.fAd K ("raw_pair", none)) 3 d_raw_pair := by
  obtain ⟨fd, F⟩ := c.def_ 17 (d := dd_raw_pair) rfl
  exact OkF.seal (okF_def (N := ["bells", "lot", "is_meeting", "at", "bell", "other"]) (ps := ["bells", "lot", "is_meeting"]) (n := 3) (b := b_raw_pair) F sc_raw_pair rfl (fun _ _ _ _ _ _ us hl => match us, hl with | [_, _, _], _ => rfl)
    (fun zz cdv A outer s H E hr tk po => have sc := sc_raw_pair;
    ss_cons (s_for po (si_enum (f11 X G c) (sa_cons (se_var 1) (sa_nil))) (sg_tup (sgs_cons (sg_name (i := 3) sc.nd) (sgs_cons (sg_name (i := 4) sc.nd) (sgs_nil))))
    (ss_one (s_for po (si_each (se_slice (l_seq (mu := false)) (se_var 1) (so_some (se_bin (o_add (mu := false)) (se_var 3) (se_int))) (so_none))) (sg_name (i := 5) sc.nd)
    (ss_one (s_if (st_cmp (o_eq (room_u hr (by decide))) (se_callO (ok_ever_meet X G c e bs) hr (by decide) (f25 X G c) tk (sa_cons (se_ix i_seq (se_fld (f14 c) (f15 c) (se_var 0)) (se_var 4)) (sa_cons (se_ix i_seq (se_fld (f14 c) (f15 c) (se_var 0)) (se_var 5)) (sa_nil)))) (se_var 2) rfl)
    (ss_one (s_ret (se_tup (sa_cons (se_var 4) (sa_cons (se_var 5) (sa_nil))))))
    (ss_nil))))))
    (ss_one (s_ret (se_non)))))

theorem sc_why_not_exact : FnScope ["bells", "pair", "hour"] ["bells"] (defScope2 45 none) := ⟨rfl, rfl, rfl, by decide +kernel, rfl, by decide +kernel, by decide +kernel⟩

include X G c e in
theorem ok_why_not_exact : OkF P w K mg bs 4 (He.fAd K ("why_not_exact", none)) 1 d_why_not_exact := by
  obtain ⟨fd, F⟩ := c.def_ 18 (d := dd_why_not_exact) rfl
  exact OkF.seal (okF_def (N := ["bells", "pair", "hour"]) (ps := ["bells"]) (n := 1) (b := b_why_not_exact) F sc_why_not_exact rfl (fun _ _ _ _ _ _ us hl => match us, hl with | [_], _ => rfl)
    (fun zz cdv A outer s H E hr tk po => have sc := sc_why_not_exact;
    ss_cons (s_set (i := 1) sc.nd (se_callO (ok_raw_pair X G c e bs) hr (by decide) (f26 X G c) tk (sa_cons (se_var 0) (sa_cons (se_tupRg (f7 X G c) (f16 X G c) (se_methO0 (f14 c) (f21 c) (ok_Bells_size X G c e bs) hr (by decide) tk (se_var 0))) (sa_cons (se_bl) (sa_nil))))))
    (ss_cons (s_if (st_cmp o_isNot (se_var 1) (se_non) rfl)
    (ss_one (s_ret (se_tup (sa_cons (se_str) (sa_cons (se_ix i_seq (se_var 1) (se_int)) (sa_cons (se_ix i_seq (se_var 1) (se_int)) (sa_nil)))))))
    (ss_nil))
    (ss_cons (s_set (i := 2) sc.nd (se_callO (ok_first_quiet X G c e bs) hr (by decide) (f27 X G c) tk (sa_cons (se_var 0) (sa_cons (se_int) (sa_cons (se_int) (sa_nil))))))
    (ss_one (s_ret (se_if (st_cmp o_is (se_var 2) (se_non) rfl) (se_non) (se_tup (sa_cons (se_str) (sa_cons (se_var 2) (sa_nil)))))))))))

theorem sc_is_exact : FnScope ["bells"] ["bells"] (defScope2 46 none) := ⟨rfl, rfl, rfl, by decide +kernel, rfl, by decide +kernel, by decide +kernel⟩

include X G c e in
theorem ok_is_exact : OkF P w K mg bs 5 (He.fAd K ("is_exact", none)) 1 d_is_exact := by
  obtain ⟨fd, F⟩ := c.def_ 19 (d := dd_is_exact) rfl
  exact OkF.seal (okF_def (N := ["bells"]) (ps := ["bells"]) (n := 1) (b := b_is_exact) F sc_is_exact rfl (fun _ _ _ _ _ _ us hl => match us, hl with | [_], _ => rfl)
    (fun zz cdv A outer s H E hr tk po => have sc := sc_is_exact;
    ss_one (s_ret (se_cmp o_is (se_callO (ok_why_not_exact X G c e bs) hr (by decide) (f28 X G c) tk (sa_cons (se_var 0) (sa_nil))) (se_non) rfl))))

theorem sc_is_loud_for_ever : FnScope ["bells"] ["bells"] (defScope2 39 none) := ⟨rfl, rfl, rfl, by decide +kernel, rfl, by decide +kernel, by decide +kernel⟩

include X G c e in
theorem ok_is_loud_for_ever : OkF P w K mg bs 4 (He.fAd K ("is_loud_for_ever", none)) 1 d_is_loud_for_ever := by
  obtain ⟨fd, F⟩ := c.def_ 20 (d := dd_is_loud_for_ever) rfl
  exact OkF.seal (okF_def (N := ["bells"]) (ps := ["bells"]) (n := 1) (b := b_is_loud_for_ever) F sc_is_loud_for_ever rfl (fun _ _ _ _ _ _ us hl => match us, hl with | [_], _ => rfl)
    (fun zz cdv A outer s H E hr tk po => have sc := sc_is_loud_for_ever;
    ss_one (s_ret (se_cmp o_is (se_callO (ok_first_quiet X G c e bs) hr (by decide) (f27 X G c) tk (sa_cons (se_var 0) (sa_cons (se_int) (sa_cons (se_int) (sa_nil))))) (se_non) rfl))))

theorem sc_is_hour : FnScope ["thing"] ["thing"] (defScope2 5 none) := ⟨rfl, rfl, rfl, by decide +kernel, rfl, by decide +kernel, by decide +kernel⟩

include X G c e in
theorem ok_is_hour : OkF P w K mg bs 2 (He.fAd K ("is_hour", none)) 1 d_is_hour := by
  obtain ⟨fd, F⟩ := c.def_ 21 (d := dd_is_hour) rfl
  exact OkF.seal (okF_def (N := ["thing"]) (ps := ["thing"]) (n := 1) (b := b_is_hour) F sc_is_hour rfl (fun _ _ _ _ _ _ us hl => match us, hl with | [_], _ => rfl)
    (fun zz cdv A outer s H E hr tk po => have sc := sc_is_hour;
    ss_one (s_ret (se_and (se_callO (ok_is_integer X G c e bs) hr (by decide) (f6 X G c) tk (sa_cons (se_var 0) (sa_nil))) (se_one (se_chain o_le o_le (se_un o_neg (se_gint (by rfl) (f29 X G c))) (se_var 0) (se_gint (by rfl) (f29 X G c))))))))

theorem sc_check_hour : FnScope ["hour"] ["hour"] (defScope2 19 none) := ⟨rfl, rfl, rfl, by decide +kernel, rfl, by decide +kernel, by decide +kernel⟩

include X G c e in
theorem ok_check_hour : OkF P w K mg bs 3 (He.fAd K ("check_hour", none)) 1 d_check_hour := by
  obtain ⟨fd, F⟩ := c.def_ 22 (d := dd_check_hour) rfl
  exact OkF.seal (okF_def (N := ["hour"]) (ps := ["hour"]) (n := 1) (b := b_check_hour) F sc_check_hour rfl (fun _ _ _ _ _ _ us hl => match us, hl with | [_], _ => rfl)
    (fun zz cdv A outer s H E hr tk po => have sc := sc_check_hour;
    ss_one (s_if (st_not (st_val (se_callO (ok_is_hour X G c e bs) hr (by decide) (f30 X G c) tk (sa_cons (se_var 0) (sa_nil)))))
    (ss_one (s_never))
    (ss_nil))))

theorem sc_quiet : FnScope ["bells", "hour"] ["bells", "hour"] (defScope2 37 none) := ⟨rfl, rfl, rfl, by decide +kernel, rfl, by decide +kernel, by decide +kernel⟩

include X G c e in
theorem ok_quiet : OkF P w K mg bs 4 (He.fAd K ("quiet", none)) 2 d_quiet := by
  obtain ⟨fd, F⟩ := c.def_ 23 (d := dd_quiet) rfl
  exact OkF.seal (okF_def (N := ["bells", "hour"]) (ps := ["bells", "hour"]) (n := 2) (b := b_quiet) F sc_quiet rfl (fun _ _ _ _ _ _ us hl => match us, hl with | [_, _], _ => rfl)
    (fun zz cdv A outer s H E hr tk po => have sc := sc_quiet;
    ss_cons (s_expr (se_callO (ok_check_hour X G c e bs) hr (by decide) (f31 X G c) tk (sa_cons (se_var 1) (sa_nil))))
    (ss_one (s_ret (se_callO (ok_first_quiet X G c e bs) hr (by decide) (f27 X G c) tk (sa_cons (se_var 0) (sa_cons (se_var 1) (sa_cons (se_int) (sa_nil)))))))))

theorem sc_quiet_before : FnScope ["bells", "hour"] ["bells", "hour"] (defScope2 38 none) := ⟨rfl, rfl, rfl, by decide +kernel, rfl, by decide +kernel, by decide +kernel⟩

include X G c e in
theorem ok_quiet_before : OkF P w K mg bs 4 (He.fAd K ("quiet_before", none)) 2 d_quiet_before := by
  obtain ⟨fd, F⟩ := c.def_ 24 (d := dd_quiet_before) rfl
  exact OkF.seal (okF_def (N := ["bells", "hour"]) (ps := ["bells", "hour"]) (n := 2) (b := b_quiet_before) F sc_quiet_before rfl (fun _ _ _ _ _ _ us hl => match us, hl with | [_, _], _ => rfl)
    (fun zz cdv A outer s H E hr tk po => have sc := sc_quiet_before;
    ss_cons (s_expr (se_callO (ok_check_hour X G c e bs) hr (by decide) (f31 X G c) tk (sa_cons (se_var 1) (sa_nil))))
    (ss_one (s_ret (se_callO (ok_first_quiet X G c e bs) hr (by decide) (f27 X G c) tk (sa_cons (se_var 0) (sa_cons (se_var 1) (sa_cons (se_un o_neg (se_int)) (sa_nil)))))))))

theorem sc_choices : FnScope ["many", "some", "found", "at"] ["many", "some"] (defScope2 41 none) := ⟨rfl, rfl, rfl, by decide +kernel, rfl, by decide +kernel, by decide +kernel⟩

include X G c e in
theorem ok_choices : OkF P w K mg bs 1 (He.fAd K ("choices", none)) 2 d_choices := by
  obtain ⟨fd, F⟩ := c.def_ 25 (d := dd_choices) rfl
  exact OkF.seal (okF_def (N := ["many", "some", "found", "at"]) (ps := ["many", "some"]) (n := 2) (b := b_choices) F sc_choices rfl (fun _ _ _ _ _ _ us hl => match us, hl with | [_, _], _ => rfl)
    (fun zz cdv A outer s H E hr tk po => have sc := sc_choices;
    ss_cons (s_set (i := 2) sc.nd (se_int))
    (ss_cons (s_for po (si_rng1 (f16 X G c) (sa_cons (se_var 1) (sa_nil))) (sg_name (i := 3) sc.nd)
    (ss_one (s_set (i := 2) sc.nd (se_bin o_div (se_bin (o_mul (mu := false)) (se_var 2) (se_bin o_sub (se_var 0) (se_var 3))) (se_bin (o_add (mu := false)) (se_var 3) (se_int))))))
    (ss_one (s_ret (se_var 2))))))

theorem sc_inverse : FnScope ["number", "every", "one", "other", "mine", "theirs", "times"] ["number", "every"] (defScope2 27 none) := ⟨rfl, rfl, rfl, by decide +kernel, rfl, by decide +kernel, by decide +kernel⟩

include X G c e in
theorem ok_inverse : OkF P w K mg bs 1 (He.fAd K ("inverse", none)) 2 d_inverse := by
  obtain ⟨fd, F⟩ := c.def_ 26 (d := dd_inverse) rfl
  exact OkF.seal (okF_def (N := ["number", "every", "one", "other", "mine", "theirs", "times"]) (ps := ["number", "every"]) (n := 2) (b := b_inverse) F sc_inverse rfl (fun _ _ _ _ _ _ us hl => match us, hl with | [_, _], _ => rfl)
    (fun zz cdv A outer s H E hr tk po => have sc := sc_inverse;
    ss_cons (s_asg (se_tup (sa_cons (se_bin o_mod (se_callTy c_int (f1 X G c) boot_int (sa_cons (se_var 0) (sa_nil))) (se_var 1)) (sa_cons (se_var 1) (sa_cons (se_int) (sa_cons (se_int) (sa_nil)))))) (sg_tup (sgs_cons (sg_name (i := 2) sc.nd) (sgs_cons (sg_name (i := 3) sc.nd) (sgs_cons (sg_name (i := 4) sc.nd) (sgs_cons (sg_name (i := 5) sc.nd) (sgs_nil)))))))
    (ss_cons (s_while po (st_cmp o_gt (se_var 3) (se_int) rfl)
    (ss_cons (s_set (i := 6) sc.nd (se_bin o_div (se_var 2) (se_var 3)))
    (ss_one (s_asg (se_tup (sa_cons (se_var 3) (sa_cons (se_bin o_sub (se_var 2) (se_bin (o_mul (mu := false)) (se_var 6) (se_var 3))) (sa_cons (se_var 5) (sa_cons (se_bin o_sub (se_var 4) (se_bin (o_mul (mu := false)) (se_var 6) (se_var 5))) (sa_nil)))))) (sg_tup (sgs_cons (sg_name (i := 2) sc.nd) (sgs_cons (sg_name (i := 3) sc.nd) (sgs_cons (sg_name (i := 4) sc.nd) (sgs_cons (sg_name (i := 5) sc.nd) (sgs_nil))))))))))
    (ss_one (s_ret (se_bin o_mod (se_callTy c_int (f1 X G c) boot_int (sa_cons (se_var 4) (sa_nil))) (se_var 1)))))))

theorem sc_least_multiple : FnScope ["one", "other"] ["one", "other"] (defScope2 22 none) := ⟨rfl, rfl, rfl, by decide +kernel, rfl, by decide +kernel, by decide +kernel⟩

include X G c e in
theorem ok_least_multiple : OkF P w K mg bs 2 (He.fAd K ("least_multiple", none)) 2 d_least_multiple := by
  obtain ⟨fd, F⟩ := c.def_ 27 (d := dd_least_multiple) rfl
  exact OkF.seal (okF_def (N := ["one", "other"]) (ps := ["one", "other"]) (n := 2) (b := b_least_multiple) F sc_least_multiple rfl (fun _ _ _ _ _ _ us hl => match us, hl with | [_, _], _ => rfl)
    (fun zz cdv A outer s H E hr tk po => have sc := sc_least_multiple;
    ss_one (s_ret (se_bin (o_mul (mu := false)) (se_bin o_div (se_var 0) (se_callO (ok_common X G c e bs) hr (by decide) (f24 X G c) tk (sa_cons (se_var 0) (sa_cons (se_var 1) (sa_nil))))) (se_var 1)))))

theorem sc_common_hours : FnScope ["one", "other", "same", "less", "steps", "every"] ["one", "other"] (defScope2 28 none) := ⟨rfl, rfl, rfl, by decide +kernel, rfl, by decide +kernel, by decide +kernel⟩

include X G c e in
theorem ok_common_hours : OkF P w K mg bs 3 (He.fAd K ("common_hours", none)) 2 d_common_hours := by
  obtain ⟨fd, F⟩ := c.def_ 28 (d := dd_common_hours) rfl
  exact OkF.seal (okF_def (N := ["one", "other", "same", "less", "steps", "every"]) (ps := ["one", "other"]) (n := 2) (b := b_common_hours) F sc_common_hours rfl (fun _ _ _ _ _ _ us hl => match us, hl with | [_, _], _ => rfl)
    (fun zz cdv A outer s H E hr tk po => have sc := sc_common_hours;
    ss_cons (s_set (i := 2) sc.nd (se_callO (ok_common X G c e bs) hr (by decide) (f24 X G c) tk (sa_cons (se_ix i_seq (se_var 0) (se_int)) (sa_cons (se_ix i_seq (se_var 1) (se_int)) (sa_nil)))))
    (ss_cons (s_if (st_cmp (o_ne (room_u hr (by decide))) (se_bin o_mod (se_callTy c_int (f1 X G c) boot_int (sa_cons (se_bin o_sub (se_ix i_seq (se_var 1) (se_int)) (se_ix i_seq (se_var 0) (se_int))) (sa_nil))) (se_var 2)) (se_int) rfl)
    (ss_one (s_ret (se_non)))
    (ss_nil))
    (ss_cons (s_set (i := 3) sc.nd (se_bin o_div (se_ix i_seq (se_var 1) (se_int)) (se_var 2)))
    (ss_cons (s_set (i := 4) sc.nd (se_bin o_mod (se_callTy c_int (f1 X G c) boot_int (sa_cons (se_bin (o_mul (mu := false)) (se_bin o_div (se_bin o_sub (se_ix i_seq (se_var 1) (se_int)) (se_ix i_seq (se_var 0) (se_int))) (se_var 2)) (se_callO (ok_inverse X G c e bs) hr (by decide) (f32 X G c) tk (sa_cons (se_bin o_div (se_ix i_seq (se_var 0) (se_int)) (se_var 2)) (sa_cons (se_var 3) (sa_nil))))) (sa_nil))) (se_var 3)))
    (ss_cons (s_set (i := 5) sc.nd (se_callO (ok_least_multiple X G c e bs) hr (by decide) (f33 X G c) tk (sa_cons (se_ix i_seq (se_var 0) (se_int)) (sa_cons (se_ix i_seq (se_var 1) (se_int)) (sa_nil)))))
    (ss_one (s_ret (se_tup (sa_cons (se_var 5) (sa_cons (se_bin o_mod (se_callTy c_int (f1 X G c) boot_int (sa_cons (se_bin (o_add (mu := false)) (se_ix i_seq (se_var 0) (se_int)) (se_bin (o_mul (mu := false)) (se_ix i_seq (se_var 0) (se_int)) (se_var 4))) (sa_nil))) (se_var 5)) (sa_nil))))))))))))

theorem sc_round_of : FnScope ["bells", "found", "every", "at"] ["bells"] (defScope2 23 none) := ⟨rfl, rfl, rfl, by decide +kernel, rfl, by decide +kernel, by decide +kernel⟩

include X G c e in
theorem ok_round_of : OkF P w K mg bs 3 (He.fAd K ("round_of", none)) 1 d_round_of := by
  obtain ⟨fd, F⟩ := c.def_ 29 (d := dd_round_of) rfl
  exact OkF.seal (okF_def (N := ["bells", "found", "every", "at"]) (ps := ["bells"]) (n := 1) (b := b_round_of) F sc_round_of rfl (fun _ _ _ _ _ _ us hl => match us, hl with | [_], _ => rfl)
    (fun zz cdv A outer s H E hr tk po => have sc := sc_round_of;
    ss_cons (s_set (i := 1) sc.nd (se_int))
    (ss_cons (s_for po (si_tup (se_fld (f14 c) (f15 c) (se_var 0))) (sg_tup (sgs_cons (sg_name (i := 2) sc.nd) (sgs_cons (sg_name (i := 3) sc.nd) (sgs_nil))))
    (ss_one (s_set (i := 1) sc.nd (se_callO (ok_least_multiple X G c e bs) hr (by decide) (f33 X G c) tk (sa_cons (se_var 1) (sa_cons (se_var 2) (sa_nil)))))))
    (ss_one (s_ret (se_var 1))))))

theorem sc_meeting_sums : FnScope ["bells", "whole", "rows", "pair", "found", "fresh", "told", "many", "row"] ["bells"] (defScope2 40 none) := ⟨rfl, rfl, rfl, by decide +kernel, rfl, by decide +kernel, by decide +kernel⟩

include X G c e in
theorem ok_meeting_sums : OkF P w K mg bs 4 (He.fAd K ("meeting_sums", none)) 1 d_meeting_sums := by
  obtain ⟨fd, F⟩ := c.def_ 30 (d := dd_meeting_sums) rfl
  exact OkF.seal (okF_def (N := ["bells", "whole", "rows", "pair", "found", "fresh", "told", "many", "row"]) (ps := ["bells"]) (n := 1) (b := b_meeting_sums) F sc_meeting_sums rfl (fun _ _ _ _ _ _ us hl => match us, hl with | [_], _ => rfl)
    (fun zz cdv A outer s H E hr tk po => have sc := sc_meeting_sums;
    ss_cons (s_set (i := 1) sc.nd (se_callO (ok_round_of X G c e bs) hr (by decide) (f34 X G c) tk (sa_cons (se_var 0) (sa_nil))))
    (ss_cons (s_set (i := 2) sc.nd (se_lst (mu := false) (sa_cons (se_tup (sa_cons (se_tup (sa_cons (se_int) (sa_cons (se_int) (sa_nil)))) (sa_cons (se_int) (sa_nil)))) (sa_nil))))
    (ss_cons (s_for po (si_tup (se_fld (f14 c) (f15 c) (se_var 0))) (sg_name (i := 3) sc.nd)
    (ss_cons (s_setLc (i := 5) false [("told", 6), ("many", 7)] sc.nd (si_each (se_var 2)) (blkOk_by (by rfl)) (fun _ _ _ _ _ _ => gw_tup (gws_cons (gw_name (i := 6) sc.nd) (gws_cons (gw_name (i := 7) sc.nd) (gws_nil)))) (fun _ _ _ _ _ _ => sts_nil) (fun _ _ _ _ _ _ => se_tup (sa_cons (se_callO (ok_common_hours X G c e bs) hr (by decide) (f35 X G c) (takes0 _) (sa_cons (se_var 6) (sa_cons (se_var 3) (sa_nil)))) (sa_cons (se_bin (o_add (mu := false)) (se_var 7) (se_int)) (sa_nil)))))
    (ss_one (s_set (i := 2) sc.nd (se_bin (o_add (mu := false)) (se_var 2) (se_lc false [("row", 8)] sc.nd (si_each (se_var 5)) (blkOk_by (by rfl)) (fun _ _ _ _ _ _ => gw_name (i := 8) sc.nd) (fun _ _ _ _ _ _ => sts_one (st_cmp o_isNot (se_ix i_seq (se_var 8) (se_int)) (se_non) rfl)) (fun _ _ _ _ _ _ => se_var 8)))))))
    (ss_cons (s_set (i := 4) sc.nd (se_bin (o_mul (mu := true)) (se_lst (mu := false) (sa_cons (se_int) (sa_nil))) (se_bin (o_add (mu := false)) (se_methO0 (f14 c) (f21 c) (ok_Bells_size X G c e bs) hr (by decide) tk (se_var 0)) (se_int))))
    (ss_cons (s_for po (si_each (se_var 2)) (sg_tup (sgs_cons (sg_name (i := 6) sc.nd) (sgs_cons (sg_name (i := 7) sc.nd) (sgs_nil))))
    (ss_one (s_augS get_list ip_addI t_list (se_var 4) (se_var 7) (se_bin o_div (se_var 1) (se_ix i_seq (se_var 6) (se_int))))))
    (ss_one (s_ret (se_var 4)))))))))

theorem sc_counts : FnScope ["bells", "many", "sums", "found", "parts", "other"] ["bells"] (defScope2 42 none) := ⟨rfl, rfl, rfl, by decide +kernel, rfl, by decide +kernel, by decide +kernel⟩

include X G c e in
theorem ok_counts : OkF P w K mg bs 5 (He.fAd K ("counts", none)) 1 d_counts := by
  obtain ⟨fd, F⟩ := c.def_ 31 (d := dd_counts) rfl
  exact OkF.seal (okF_def (N := ["bells", "many", "sums", "found", "parts", "other"]) (ps := ["bells"]) (n := 1) (b := b_counts) F sc_counts rfl (fun _ _ _ _ _ _ us hl => match us, hl with | [_], _ => rfl)
    (fun zz cdv A outer s H E hr tk po => have sc := sc_counts;
    ss_cons (s_asg (se_tup (sa_cons (se_callO (ok_meeting_sums X G c e bs) hr (by decide) (f36 X G c) tk (sa_cons (se_var 0) (sa_nil))) (sa_cons (se_lst (mu := true) (sa_nil)) (sa_nil)))) (sg_tup (sgs_cons (sg_name (i := 2) sc.nd) (sgs_cons (sg_name (i := 3) sc.nd) (sgs_nil)))))
    (ss_cons (s_for po (si_rng1 (f16 X G c) (sa_cons (se_callB c_len (f0 X G c) boot_len (sa_cons (se_var 2) (sa_nil))) (sa_nil))) (sg_name (i := 1) sc.nd)
    (ss_cons (s_setLc (i := 4) false [("other", 5)] sc.nd (si_rng1 (f16 X G c) (sa_cons (se_callB c_len (f0 X G c) boot_len (sa_cons (se_var 2) (sa_nil))) (sa_nil))) (blkOk_by (by rfl)) (fun _ _ _ _ _ _ => gw_name (i := 5) sc.nd) (fun _ _ _ _ _ _ => sts_nil) (fun _ _ _ _ _ _ => se_bin (o_mul (mu := false)) (se_bin (o_mul (mu := false)) (se_callO (ok_choices X G c e bs) hr (by decide) (f37 X G c) (takes0 _) (sa_cons (se_var 5) (sa_cons (se_var 1) (sa_nil)))) (se_ix i_seq (se_var 2) (se_var 5))) (se_bin o_sub (se_int) (se_bin (o_mul (mu := false)) (se_int) (se_bin o_mod (se_callTy c_int (f1 X G c) boot_int (sa_cons (se_bin o_sub (se_var 5) (se_var 1)) (sa_nil))) (se_int))))))
    (ss_one (s_expr (se_mb PySem.F.plainAttrs_list PySem.F.slot_list_append PySem.F.type_list_append m_append (se_var 3) (sa_cons (se_callB c_sumA (f3 X G c) boot_sum (sa_cons (se_slice (l_seq (mu := false)) (se_var 4) (so_some (se_var 1)) (so_none)) (sa_nil))) (sa_nil)))))))
    (ss_one (s_ret (se_callTy c_tuple (f7 X G c) boot_tuple (sa_cons (se_var 3) (sa_nil))))))))

theorem sc_share : FnScope ["bells", "same", "free", "whole"] ["bells"] (defScope2 43 none) := ⟨rfl, rfl, rfl, by decide +kernel, rfl, by decide +kernel, by decide +kernel⟩

include X G c e in
theorem ok_share : OkF P w K mg bs 6 (He.fAd K ("share", none)) 1 d_share := by
  obtain ⟨fd, F⟩ := c.def_ 32 (d := dd_share) rfl
  exact OkF.seal (okF_def (N := ["bells", "same", "free", "whole"]) (ps := ["bells"]) (n := 1) (b := b_share) F sc_share rfl (fun _ _ _ _ _ _ us hl => match us, hl with | [_], _ => rfl)
    (fun zz cdv A outer s H E hr tk po => have sc := sc_share;
    ss_cons (s_par (i := 2) (j := 3) sc.nd (sa_cons (se_ix i_seq (se_callO (ok_counts X G c e bs) hr (by decide) (f38 X G c) tk (sa_cons (se_var 0) (sa_nil))) (se_int)) (sa_cons (se_callO (ok_round_of X G c e bs) hr (by decide) (f34 X G c) tk (sa_cons (se_var 0) (sa_nil))) (sa_nil))))
    (ss_cons (s_set (i := 1) sc.nd (se_if (st_cmp o_gt (se_var 2) (se_int) rfl) (se_callO (ok_common X G c e bs) hr (by decide) (f24 X G c) tk (sa_cons (se_var 3) (sa_cons (se_var 2) (sa_nil)))) (se_var 3)))
    (ss_one (s_ret (se_tup (sa_cons (se_bin o_div (se_var 2) (se_var 1)) (sa_cons (se_bin o_div (se_var 3) (se_var 1)) (sa_nil)))))))))

theorem sc__law_great_right : FnScope ["bag", "pairs", "lost", "hour", "near", "last", "told", "bell", "times", "every", "at", "bells", "less"] ["bag"] (defScope2 61 none) := ⟨rfl, rfl, rfl, by decide +kernel, rfl, by decide +kernel, by decide +kernel⟩

include X G c e in
theorem ok__law_great_right : OkF P w K mg bs 7 (He.fAd K ("_law_great_right", none)) 1 d__law_great_right := by
  obtain ⟨fd, F⟩ := c.def_ 33 (d := dd__law_great_right) rfl
  exact OkF.seal (okF_def (N := ["bag", "pairs", "lost", "hour", "near", "last", "told", "bell", "times", "every", "at", "bells", "less"]) (ps := ["bag"]) (n := 1) (b := b__law_great_right) F sc__law_great_right rfl (fun _ _ _ _ _ _ us hl => match us, hl with | [_], _ => rfl)
    (fun zz cdv A outer s H E hr tk po => have sc := sc__law_great_right;
    ss_cons (s_set (i := 1) sc.nd (se_callO (ok__law_grown X G c e bs) hr (by decide) (f39 X G c) tk (sa_cons (se_var 0) (sa_cons (se_int) (sa_cons (se_bin o_pow (se_int) (se_int)) (sa_nil))))))
    (ss_cons (s_par (i := 7) (j := 8) sc.nd (sa_cons (se_callO (ok__law_pick X G c e bs) hr (by decide) (f17 X G c) tk (sa_cons (se_var 0) (sa_cons (se_callB c_len (f0 X G c) boot_len (sa_cons (se_var 1) (sa_nil))) (sa_nil)))) (sa_cons (se_callO (ok__law_some X G c e bs) hr (by decide) (f40 X G c) tk (sa_cons (se_var 0) (sa_cons (se_lst (mu := false) (sa_cons (se_int) (sa_cons (se_int) (sa_cons (se_int) (sa_nil))))) (sa_nil)))) (sa_nil))))
    (ss_cons (s_asg (se_ix i_seq (se_var 1) (se_var 7)) (sg_tup (sgs_cons (sg_name (i := 9) sc.nd) (sgs_cons (sg_name (i := 10) sc.nd) (sgs_nil)))))
    (ss_cons (s_set (i := 2) sc.nd (se_bin (o_add (mu := false)) (se_bin (o_add (mu := false)) (se_slice (l_seq (mu := false)) (se_var 1) (so_none) (so_some (se_var 7))) (se_lst (mu := false) (sa_cons (se_tup (sa_cons (se_bin (o_mul (mu := false)) (se_var 9) (se_var 8)) (sa_cons (se_var 10) (sa_nil)))) (sa_nil)))) (se_slice (l_seq (mu := false)) (se_var 1) (so_some (se_bin (o_add (mu := false)) (se_var 7) (se_int))) (so_none))))
    (ss_cons (s_par (i := 11) (j := 12) sc.nd (sa_cons (se_seal (se_makeO (f41 c) (ok_Bells_init X G c e bs) hr (by decide) (f42 X G c) tk (sa_cons (se_callTy c_tuple (f7 X G c) boot_tuple (sa_cons (se_var 1) (sa_nil))) (sa_nil)))) (sa_cons (se_seal (se_makeO (f41 c) (ok_Bells_init X G c e bs) hr (by decide) (f42 X G c) tk (sa_cons (se_callTy c_tuple (f7 X G c) boot_tuple (sa_cons (se_var 2) (sa_nil))) (sa_nil)))) (sa_nil))))
    (ss_cons (s_if ((sw_or (st_cmp o_isNot (se_callO (ok_is_loud_for_ever X G c e bs) hr (by decide) (f43 X G c) tk (sa_cons (se_var 11) (sa_nil))) (se_bl) rfl) (sw_or1 (st_cmp o_isNot (se_callO (ok_is_exact X G c e bs) hr (by decide) (f44 X G c) tk (sa_cons (se_var 11) (sa_nil))) (se_bl) rfl))).pt)
    (ss_one (s_ret (se_bl)))
    (ss_nil))
    (ss_cons (s_if ((sw_or (st_cmp o_isNot (se_callO (ok_is_loud_for_ever X G c e bs) hr (by decide) (f43 X G c) tk (sa_cons (se_var 12) (sa_nil))) (se_bl) rfl) (sw_or1 (st_cmp o_isNot (se_callO (ok_quiet X G c e bs) hr (by decide) (f45 X G c) tk (sa_cons (se_var 11) (sa_cons (se_var 10) (sa_nil)))) (se_non) rfl))).pt)
    (ss_one (s_ret (se_bl)))
    (ss_nil))
    (ss_cons (s_set (i := 3) sc.nd (se_bin (o_mul (mu := false)) (se_callO (ok__law_some X G c e bs) hr (by decide) (f40 X G c) tk (sa_cons (se_var 0) (sa_cons (se_lst (mu := false) (sa_cons (se_int) (sa_cons (se_un o_neg (se_int)) (sa_nil)))) (sa_nil)))) (se_bin (o_add (mu := false)) (se_bin o_pow (se_int) (se_int)) (se_callO (ok__law_pick X G c e bs) hr (by decide) (f17 X G c) tk (sa_cons (se_var 0) (sa_cons (se_bin o_pow (se_int) (se_int)) (sa_nil)))))))
    (ss_cons (s_set (i := 4) sc.nd (se_bin (o_add (mu := false)) (se_var 3) (se_bin o_mod (se_callTy c_int (f1 X G c) boot_int (sa_cons (se_bin o_sub (se_var 10) (se_var 3)) (sa_nil))) (se_var 9))))
    (ss_cons (s_set (i := 4) sc.nd (se_if (st_cmp (o_eq (room_u hr (by decide))) (se_bin o_mod (se_callTy c_int (f1 X G c) boot_int (sa_cons (se_bin o_sub (se_var 4) (se_var 10)) (sa_nil))) (se_bin (o_mul (mu := false)) (se_var 9) (se_var 8))) (se_int) rfl) (se_bin (o_add (mu := false)) (se_var 4) (se_var 9)) (se_var 4)))
    (ss_cons (s_set (i := 5) sc.nd (se_bin o_sub (se_var 3) (se_bin o_mod (se_callTy c_int (f1 X G c) boot_int (sa_cons (se_bin o_sub (se_var 3) (se_var 10)) (sa_nil))) (se_var 9))))
    (ss_cons (s_set (i := 5) sc.nd (se_if (st_cmp (o_eq (room_u hr (by decide))) (se_bin o_mod (se_callTy c_int (f1 X G c) boot_int (sa_cons (se_bin o_sub (se_var 5) (se_var 10)) (sa_nil))) (se_bin (o_mul (mu := false)) (se_var 9) (se_var 8))) (se_int) rfl) (se_bin o_sub (se_var 5) (se_var 9)) (se_var 5)))
    (ss_cons (s_if ((sw_or (st_cmp (o_ne (room_u hr (by decide))) (se_callO (ok_quiet X G c e bs) hr (by decide) (f45 X G c) tk (sa_cons (se_var 12) (sa_cons (se_var 3) (sa_nil)))) (se_var 4) rfl) (sw_or1 (st_cmp (o_ne (room_u hr (by decide))) (se_callO (ok_quiet_before X G c e bs) hr (by decide) (f46 X G c) tk (sa_cons (se_var 12) (sa_cons (se_var 3) (sa_nil)))) (se_var 5) rfl))).pt)
    (ss_one (s_ret (se_bl)))
    (ss_nil))
    (ss_cons (s_set (i := 6) sc.nd (se_callO (ok_share X G c e bs) hr (by decide) (f47 X G c) tk (sa_cons (se_var 12) (sa_nil))))
    (ss_one (s_ret (se_cmp (o_eq (room_u hr (by decide))) (se_bin (o_mul (mu := false)) (se_bin (o_mul (mu := false)) (se_ix i_seq (se_var 6) (se_int)) (se_var 9)) (se_var 8)) (se_bin (o_mul (mu := false)) (se_ix i_seq (se_var 6) (se_int)) (se_bin o_sub (se_var 8) (se_int))) rfl))))))))))))))))))

theorem sc__law_rings : FnScope ["pairs", "hour", "bell", "pair"] ["pairs", "hour"] (defScope2 51 none) := ⟨rfl, rfl, rfl, by decide +kernel, rfl, by decide +kernel, by decide +kernel⟩

include X G c e in
theorem ok__law_rings : OkF P w K mg bs 1 (He.fAd K ("_law_rings", none)) 2 d__law_rings := by
  obtain ⟨fd, F⟩ := c.def_ 34 (d := dd__law_rings) rfl
  exact OkF.seal (okF_def (N := ["pairs", "hour", "bell", "pair"]) (ps := ["pairs", "hour"]) (n := 2) (b := b__law_rings) F sc__law_rings rfl (fun _ _ _ _ _ _ us hl => match us, hl with | [_, _], _ => rfl)
    (fun zz cdv A outer s H E hr tk po => have sc := sc__law_rings;
    ss_one (s_ret (se_lc false [("bell", 2), ("pair", 3)] sc.nd (si_enum (f11 X G c) (sa_cons (se_var 0) (sa_nil))) (blkOk_by (by rfl)) (fun _ _ _ _ _ _ => gw_tup (gws_cons (gw_name (i := 2) sc.nd) (gws_cons (gw_name (i := 3) sc.nd) (gws_nil)))) (fun _ _ _ _ _ _ => sts_one (st_cmp (o_eq (room_u hr (by decide))) (se_bin o_mod (se_callTy c_int (f1 X G c) boot_int (sa_cons (se_bin o_sub (se_var 1) (se_ix i_seq (se_var 3) (se_int))) (sa_nil))) (se_ix i_seq (se_var 3) (se_int))) (se_int) rfl)) (fun _ _ _ _ _ _ => se_var 2)))))

theorem sc__law_counts_right : FnScope ["bells", "pairs", "whole", "free", "due", "hour", "told", "parts", "size"] ["bells", "pairs", "whole", "free"] (defScope2 56 none) := ⟨rfl, rfl, rfl, by decide +kernel, rfl, by decide +kernel, by decide +kernel⟩

include X G c e in
theorem ok__law_counts_right : OkF P w K mg bs 7 (He.fAd K ("_law_counts_right", none)) 4 d__law_counts_right := by
  obtain ⟨fd, F⟩ := c.def_ 35 (d := dd__law_counts_right) rfl
  exact OkF.seal (okF_def (N := ["bells", "pairs", "whole", "free", "due", "hour", "told", "parts", "size"]) (ps := ["bells", "pairs", "whole", "free"]) (n := 4) (b := b__law_counts_right) F sc__law_counts_right rfl (fun _ _ _ _ _ _ us hl => match us, hl with | [_, _, _, _], _ => rfl)
    (fun zz cdv A outer s H E hr tk po => have sc := sc__law_counts_right;
    ss_cons (s_set (i := 4) sc.nd (se_bin (o_mul (mu := true)) (se_lst (mu := false) (sa_cons (se_int) (sa_nil))) (se_bin (o_add (mu := false)) (se_callB c_len (f0 X G c) boot_len (sa_cons (se_var 1) (sa_nil))) (se_int))))
    (ss_cons (s_for po (si_rng1 (f16 X G c) (sa_cons (se_var 2) (sa_nil))) (sg_name (i := 5) sc.nd)
    (ss_one (s_augS get_list ip_addI t_list (se_var 4) (se_callB c_len (f0 X G c) boot_len (sa_cons (se_callO (ok__law_rings X G c e bs) hr (by decide) (f48 X G c) tk (sa_cons (se_var 1) (sa_cons (se_var 5) (sa_nil)))) (sa_nil))) (se_int))))
    (ss_cons (s_if ((sw_or (st_cmp (o_ne (room_u hr (by decide))) (se_callO (ok_counts X G c e bs) hr (by decide) (f38 X G c) tk (sa_cons (se_var 0) (sa_nil))) (se_callTy c_tuple (f7 X G c) boot_tuple (sa_cons (se_var 4) (sa_nil))) rfl) (sw_or1 (st_cmp (o_ne (room_u hr (by decide))) (se_callB c_len (f0 X G c) boot_len (sa_cons (se_var 3) (sa_nil))) (se_ix i_seq (se_var 4) (se_int)) rfl))).pt)
    (ss_one (s_ret (se_bl)))
    (ss_nil))
    (ss_cons (s_set (i := 6) sc.nd (se_callO (ok_share X G c e bs) hr (by decide) (f47 X G c) tk (sa_cons (se_var 0) (sa_nil))))
    (ss_cons (s_if ((sw_or (st_cmp (o_ne (room_u hr (by decide))) (se_bin (o_mul (mu := false)) (se_ix i_seq (se_var 6) (se_int)) (se_var 2)) (se_bin (o_mul (mu := false)) (se_ix i_seq (se_var 6) (se_int)) (se_callB c_len (f0 X G c) boot_len (sa_cons (se_var 3) (sa_nil)))) rfl) (sw_or1 (st_cmp o_ltI (se_ix i_seq (se_var 6) (se_int)) (se_int) rfl))).pt)
    (ss_one (s_ret (se_bl)))
    (ss_nil))
    (ss_cons (s_setLc (i := 7) false [("size", 8)] sc.nd (si_rng2 (f16 X G c) (sa_cons (se_int) (sa_cons (se_bin (o_add (mu := false)) (se_ix i_seq (se_var 6) (se_int)) (se_int)) (sa_nil)))) (blkOk_by (by rfl)) (fun _ _ _ _ _ _ => gw_name (i := 8) sc.nd) (fun _ _ _ _ _ _ => sts_one (st_cmp (o_eq (room_u hr (by decide))) (se_bin o_mod (se_callTy c_int (f1 X G c) boot_int (sa_cons (se_ix i_seq (se_var 6) (se_int)) (sa_nil))) (se_var 8)) (se_int) rfl)) (fun _ _ _ _ _ _ => se_var 8))
    (ss_cons (s_if (st_val (se_callB c_any (f20 X G c) boot_any (sa_cons (se_lc false [("size", 8)] sc.nd (si_each (se_var 7)) (blkOk_by (by rfl)) (fun _ _ _ _ _ _ => gw_name (i := 8) sc.nd) (fun _ _ _ _ _ _ => sts_nil) (fun _ _ _ _ _ _ => se_cmp (o_eq (room_u hr (by decide))) (se_bin o_mod (se_callTy c_int (f1 X G c) boot_int (sa_cons (se_ix i_seq (se_var 6) (se_int)) (sa_nil))) (se_var 8)) (se_int) rfl)) (sa_nil))))
    (ss_one (s_ret (se_bl)))
    (ss_nil))
    (ss_one (s_ret (se_cmp (o_eq (room_u hr (by decide))) (se_callB c_repr (f49 X G c) boot_repr (sa_cons (se_callO (ok_is_exact X G c e bs) hr (by decide) (f44 X G c) tk (sa_cons (se_var 0) (sa_nil))) (sa_nil))) (se_callB c_repr (f49 X G c) boot_repr (sa_cons (se_cmp (o_eq (room_u hr (by decide))) (se_ix i_seq (se_var 4) (se_int)) (se_var 2) rfl) (sa_nil))) rfl)))))))))))

theorem sc__law_first : FnScope ["pairs", "whole", "lot", "hour", "some", "bell"] ["pairs", "whole", "lot"] (defScope2 57 none) := ⟨rfl, rfl, rfl, by decide +kernel, rfl, by decide +kernel, by decide +kernel⟩

include X G c e in
theorem ok__law_first : OkF P w K mg bs 2 (He.fAd K ("_law_first", none)) 3 d__law_first := by
  obtain ⟨fd, F⟩ := c.def_ 36 (d := dd__law_first) rfl
  exact OkF.seal (okF_def (N := ["pairs", "whole", "lot", "hour", "some", "bell"]) (ps := ["pairs", "whole", "lot"]) (n := 3) (b := b__law_first) F sc__law_first rfl (fun _ _ _ _ _ _ us hl => match us, hl with | [_, _, _], _ => rfl)
    (fun zz cdv A outer s H E hr tk po => have sc := sc__law_first;
    ss_cons (s_for po (si_rng1 (f16 X G c) (sa_cons (se_var 1) (sa_nil))) (sg_name (i := 3) sc.nd)
    (ss_cons (s_set (i := 4) sc.nd (se_callO (ok__law_rings X G c e bs) hr (by decide) (f48 X G c) tk (sa_cons (se_var 0) (sa_cons (se_var 3) (sa_nil)))))
    (ss_one (s_if (st_val (se_callB c_all (f50 X G c) boot_all (sa_cons (se_lc false [("bell", 5)] sc.nd (si_each (se_var 2)) (blkOk_by (by rfl)) (fun _ _ _ _ _ _ => gw_name (i := 5) sc.nd) (fun _ _ _ _ _ _ => sts_nil) (fun _ _ _ _ _ _ => se_cmp o_in (se_var 5) (se_var 4) rfl)) (sa_nil))))
    (ss_one (s_ret (se_var 3)))
    (ss_nil)))))
    (ss_one (s_ret (se_non)))))

theorem sc_is_lot_below : FnScope ["thing", "many", "at", "one"] ["thing", "many"] (defScope2 3 none) := ⟨rfl, rfl, rfl, by decide +kernel, rfl, by decide +kernel, by decide +kernel⟩

include X G c e in
theorem ok_is_lot_below : OkF P w K mg bs 3 (He.fAd K ("is_lot_below", none)) 2 d_is_lot_below := by
  obtain ⟨fd, F⟩ := c.def_ 37 (d := dd_is_lot_below) rfl
  exact OkF.seal (okF_def (N := ["thing", "many", "at", "one"]) (ps := ["thing", "many"]) (n := 2) (b := b_is_lot_below) F sc_is_lot_below rfl (fun _ _ _ _ _ _ us hl => match us, hl with | [_, _], _ => rfl)
    (fun zz cdv A outer s H E hr tk po => have sc := sc_is_lot_below;
    ss_cons (s_if ((sw_or (st_not (st_val (se_isi (isB c e "tuple") (f4 X G c) (se_var 0) (pe_tyN (T := "tuple") (f7 X G c) boot_tuple) (.ty "tuple")))) (sw_or1 (st_not (st_val (se_callB c_all (f50 X G c) boot_all (sa_cons (se_lc false [("one", 3)] sc.nd (si_each (se_var 0)) (blkOk_by (by rfl)) (fun _ _ _ _ _ _ => gw_name (i := 3) sc.nd) (fun _ _ _ _ _ _ => sts_nil) (fun _ _ _ _ _ _ => se_callO (ok_is_below X G c e bs) hr (by decide) (f9 X G c) (takes0 _) (sa_cons (se_var 3) (sa_cons (se_var 1) (sa_nil))))) (sa_nil))))))).pt)
    (ss_one (s_ret (se_bl)))
    (ss_nil))
    (ss_one (s_ret (se_callB c_all (f50 X G c) boot_all (sa_cons (se_lc false [("at", 2)] sc.nd (si_rng1 (f16 X G c) (sa_cons (se_bin o_sub (se_callB c_len (f0 X G c) boot_len (sa_cons (se_var 0) (sa_nil))) (se_int)) (sa_nil))) (blkOk_by (by rfl)) (fun _ _ _ _ _ _ => gw_name (i := 2) sc.nd) (fun _ _ _ _ _ _ => sts_nil) (fun _ _ _ _ _ _ => se_cmp o_ltI (se_ix i_seq (se_var 0) (se_var 2)) (se_ix i_seq (se_var 0) (se_bin (o_add (mu := false)) (se_var 2) (se_int))) rfl)) (sa_nil)))))))

theorem sc_check_lot : FnScope ["bells", "lot"] ["bells", "lot"] (defScope2 24 none) := ⟨rfl, rfl, rfl, by decide +kernel, rfl, by decide +kernel, by decide +kernel⟩

include X G c e in
theorem ok_check_lot : OkF P w K mg bs 4 (He.fAd K ("check_lot", none)) 2 d_check_lot := by
  obtain ⟨fd, F⟩ := c.def_ 38 (d := dd_check_lot) rfl
  exact OkF.seal (okF_def (N := ["bells", "lot"]) (ps := ["bells", "lot"]) (n := 2) (b := b_check_lot) F sc_check_lot rfl (fun _ _ _ _ _ _ us hl => match us, hl with | [_, _], _ => rfl)
    (fun zz cdv A outer s H E hr tk po => have sc := sc_check_lot;
    ss_one (s_if (st_not (st_val (se_callO (ok_is_lot_below X G c e bs) hr (by decide) (f51 X G c) tk (sa_cons (se_var 1) (sa_cons (se_methO0 (f14 c) (f21 c) (ok_Bells_size X G c e bs) hr (by decide) tk (se_var 0)) (sa_nil))))))
    (ss_one (s_never))
    (ss_nil))))

theorem sc_apart : FnScope ["bells", "lot"] ["bells", "lot"] (defScope2 33 none) := ⟨rfl, rfl, rfl, by decide +kernel, rfl, by decide +kernel, by decide +kernel⟩

include X G c e in
theorem ok_apart : OkF P w K mg bs 5 (He.fAd K ("apart", none)) 2 d_apart := by
  obtain ⟨fd, F⟩ := c.def_ 39 (d := dd_apart) rfl
  exact OkF.seal (okF_def (N := ["bells", "lot"]) (ps := ["bells", "lot"]) (n := 2) (b := b_apart) F sc_apart rfl (fun _ _ _ _ _ _ us hl => match us, hl with | [_, _], _ => rfl)
    (fun zz cdv A outer s H E hr tk po => have sc := sc_apart;
    ss_cons (s_expr (se_callO (ok_check_lot X G c e bs) hr (by decide) (f52 X G c) tk (sa_cons (se_var 0) (sa_cons (se_var 1) (sa_nil)))))
    (ss_one (s_ret (se_callO (ok_raw_pair X G c e bs) hr (by decide) (f26 X G c) tk (sa_cons (se_var 0) (sa_cons (se_var 1) (sa_cons (se_bl) (sa_nil)))))))))

theorem sc_all_of : FnScope ["pairs", "found", "pair"] ["pairs"] (defScope2 29 none) := ⟨rfl, rfl, rfl, by decide +kernel, rfl, by decide +kernel, by decide +kernel⟩

include X G c e in
theorem ok_all_of : OkF P w K mg bs 4 (He.fAd K ("all_of", none)) 1 d_all_of := by
  obtain ⟨fd, F⟩ := c.def_ 40 (d := dd_all_of) rfl
  exact OkF.seal (okF_def (N := ["pairs", "found", "pair"]) (ps := ["pairs"]) (n := 1) (b := b_all_of) F sc_all_of rfl (fun _ _ _ _ _ _ us hl => match us, hl with | [_], _ => rfl)
    (fun zz cdv A outer s H E hr tk po => have sc := sc_all_of;
    ss_cons (s_set (i := 1) sc.nd (se_tup (sa_cons (se_int) (sa_cons (se_int) (sa_nil)))))
    (ss_cons (s_for po (si_each (se_var 0)) (sg_name (i := 2) sc.nd)
    (ss_one (s_set (i := 1) sc.nd (se_if (st_cmp o_is (se_var 1) (se_non) rfl) (se_non) (se_callO (ok_common_hours X G c e bs) hr (by decide) (f35 X G c) tk (sa_cons (se_var 1) (sa_cons (se_var 2) (sa_nil))))))))
    (ss_one (s_ret (se_var 1))))))

theorem sc_together : FnScope ["bells", "lot", "found", "bell"] ["bells", "lot"] (defScope2 30 none) := ⟨rfl, rfl, rfl, by decide +kernel, rfl, by decide +kernel, by decide +kernel⟩

include X G c e in
theorem ok_together : OkF P w K mg bs 5 (He.fAd K ("together", none)) 2 d_together := by
  obtain ⟨fd, F⟩ := c.def_ 41 (d := dd_together) rfl
  exact OkF.seal (okF_def (N := ["bells", "lot", "found", "bell"]) (ps := ["bells", "lot"]) (n := 2) (b := b_together) F sc_together rfl (fun _ _ _ _ _ _ us hl => match us, hl with | [_, _], _ => rfl)
    (fun zz cdv A outer s H E hr tk po => have sc := sc_together;
    ss_cons (s_expr (se_callO (ok_check_lot X G c e bs) hr (by decide) (f52 X G c) tk (sa_cons (se_var 0) (sa_cons (se_var 1) (sa_nil)))))
    (ss_cons (s_set (i := 2) sc.nd (se_callO (ok_all_of X G c e bs) hr (by decide) (f53 X G c) tk (sa_cons (se_lc false [("bell", 3)] sc.nd (si_each (se_var 1)) (blkOk_by (by rfl)) (fun _ _ _ _ _ _ => gw_name (i := 3) sc.nd) (fun _ _ _ _ _ _ => sts_nil) (fun _ _ _ _ _ _ => se_ix i_seq (se_fld (f14 c) (f15 c) (se_var 0)) (se_var 3))) (sa_nil))))
    (ss_one (s_ret (se_if (st_cmp o_is (se_var 2) (se_non) rfl) (se_non) (se_ix i_seq (se_var 2) (se_int))))))))

theorem sc__law_lots_right : FnScope ["bag", "bells", "pairs", "whole", "lap", "lot", "one", "here", "due", "other", "bell"] ["bag", "bells", "pairs", "whole"] (defScope2 58 none) := ⟨rfl, rfl, rfl, by decide +kernel, rfl, by decide +kernel, by decide +kernel⟩

include X G c e in
theorem ok__law_lots_right : OkF P w K mg bs 6 (He.fAd K ("_law_lots_right", none)) 4 d__law_lots_right := by
  obtain ⟨fd, F⟩ := c.def_ 42 (d := dd__law_lots_right) rfl
  exact OkF.seal (okF_def (N := ["bag", "bells", "pairs", "whole", "lap", "lot", "one", "here", "due", "other", "bell"]) (ps := ["bag", "bells", "pairs", "whole"]) (n := 4) (b := b__law_lots_right) F sc__law_lots_right rfl (fun _ _ _ _ _ _ us hl => match us, hl with | [_, _, _, _], _ => rfl)
    (fun zz cdv A outer s H E hr tk po => have sc := sc__law_lots_right;
    ss_cons (s_for po (si_rng1 (f16 X G c) (sa_cons (se_int) (sa_nil))) (sg_name (i := 4) sc.nd)
    (ss_cons (s_set (i := 5) sc.nd (se_callTy c_tuple (f7 X G c) boot_tuple (sa_cons (se_lc false [("bell", 10)] sc.nd (si_rng1 (f16 X G c) (sa_cons (se_callB c_len (f0 X G c) boot_len (sa_cons (se_var 2) (sa_nil))) (sa_nil))) (blkOk_by (by rfl)) (fun _ _ _ _ _ _ => gw_name (i := 10) sc.nd) (fun _ _ _ _ _ _ => sts_one (st_cmp (o_eq (room_u hr (by decide))) (se_callO (ok__law_pick X G c e bs) hr (by decide) (f17 X G c) (takes0 _) (sa_cons (se_var 0) (sa_cons (se_int) (sa_nil)))) (se_int) rfl)) (fun _ _ _ _ _ _ => se_var 10)) (sa_nil))))
    (ss_cons (s_par (i := 7) (j := 8) sc.nd (sa_cons (se_callO (ok__law_first X G c e bs) hr (by decide) (f54 X G c) tk (sa_cons (se_var 2) (sa_cons (se_var 3) (sa_cons (se_var 5) (sa_nil))))) (sa_cons (se_non) (sa_nil))))
    (ss_cons (s_if (st_cmp (o_ne (room_u hr (by decide))) (se_callO (ok_together X G c e bs) hr (by decide) (f55 X G c) tk (sa_cons (se_var 1) (sa_cons (se_var 5) (sa_nil)))) (se_var 7) rfl)
    (ss_one (s_ret (se_bl)))
    (ss_nil))
    (ss_cons (s_for po (si_each (se_var 5)) (sg_name (i := 6) sc.nd)
    (ss_one (s_for po (si_seq (se_lc false [("bell", 10)] sc.nd (si_each (se_var 5)) (blkOk_by (by rfl)) (fun _ _ _ _ _ _ => gw_name (i := 10) sc.nd) (fun _ _ _ _ _ _ => sts_one (st_cmp o_gt (se_var 10) (se_var 6) rfl)) (fun _ _ _ _ _ _ => se_var 10))) (sg_name (i := 9) sc.nd)
    (ss_one (s_if ((sw_and (st_cmp o_is (se_var 8) (se_non) rfl) (sw_and1 (st_cmp o_is (se_callO (ok__law_first X G c e bs) hr (by decide) (f54 X G c) tk (sa_cons (se_var 2) (sa_cons (se_var 3) (sa_cons (se_tup (sa_cons (se_var 6) (sa_cons (se_var 9) (sa_nil)))) (sa_nil))))) (se_non) rfl))).pt)
    (ss_one (s_set (i := 8) sc.nd (se_tup (sa_cons (se_var 6) (sa_cons (se_var 9) (sa_nil))))))
    (ss_nil))))))
    (ss_one (s_if ((sw_or (st_cmp (o_ne (room_u hr (by decide))) (se_callO (ok_apart X G c e bs) hr (by decide) (f56 X G c) tk (sa_cons (se_var 1) (sa_cons (se_var 5) (sa_nil)))) (se_var 8) rfl) (sw_or1 (st_cmp (o_ne (room_u hr (by decide))) (se_cmp o_is (se_var 8) (se_non) rfl) (se_cmp o_isNot (se_var 7) (se_non) rfl) rfl))).pt)
    (ss_one (s_ret (se_bl)))
    (ss_nil))))))))
    (ss_one (s_ret (se_bl)))))

theorem sc__law_round : FnScope ["pairs", "found", "every", "at", "step"] ["pairs"] (defScope2 52 none) := ⟨rfl, rfl, rfl, by decide +kernel, rfl, by decide +kernel, by decide +kernel⟩

include X G c e in
theorem ok__law_round : OkF P w K mg bs 1 (He.fAd K ("_law_round", none)) 1 d__law_round := by
  obtain ⟨fd, F⟩ := c.def_ 43 (d := dd__law_round) rfl
  exact OkF.seal (okF_def (N := ["pairs", "found", "every", "at", "step"]) (ps := ["pairs"]) (n := 1) (b := b__law_round) F sc__law_round rfl (fun _ _ _ _ _ _ us hl => match us, hl with | [_], _ => rfl)
    (fun zz cdv A outer s H E hr tk po => have sc := sc__law_round;
    ss_cons (s_set (i := 1) sc.nd (se_int))
    (ss_cons (s_for po (si_each (se_var 0)) (sg_tup (sgs_cons (sg_name (i := 2) sc.nd) (sgs_cons (sg_name (i := 3) sc.nd) (sgs_nil))))
    (ss_cons (s_set (i := 4) sc.nd (se_var 1))
    (ss_one (s_while po (st_cmp (o_ne (room_u hr (by decide))) (se_bin o_mod (se_callTy c_int (f1 X G c) boot_int (sa_cons (se_var 1) (sa_nil))) (se_var 2)) (se_int) rfl)
    (ss_one (s_set (i := 1) sc.nd (se_bin (o_add (mu := false)) (se_var 1) (se_var 4))))))))
    (ss_one (s_ret (se_var 1))))))

theorem sc__law_small : FnScope ["bag", "kind", "pairs", "lap", "every", "bell"] ["bag"] (defScope2 55 none) := ⟨rfl, rfl, rfl, by decide +kernel, rfl, by decide +kernel, by decide +kernel⟩

include X G c e in
theorem ok__law_small : OkF P w K mg bs 3 (He.fAd K ("_law_small", none)) 1 d__law_small := by
  obtain ⟨fd, F⟩ := c.def_ 44 (d := dd__law_small) rfl
  exact OkF.seal (okF_def (N := ["bag", "kind", "pairs", "lap", "every", "bell"]) (ps := ["bag"]) (n := 1) (b := b__law_small) F sc__law_small rfl (fun _ _ _ _ _ _ us hl => match us, hl with | [_], _ => rfl)
    (fun zz cdv A outer s H E hr tk po => have sc := sc__law_small;
    ss_cons (s_set (i := 1) sc.nd (se_callO (ok__law_pick X G c e bs) hr (by decide) (f17 X G c) tk (sa_cons (se_var 0) (sa_cons (se_int) (sa_nil)))))
    (ss_cons (s_set (i := 2) sc.nd (se_lst (mu := true) (sa_nil)))
    (ss_cons (s_for po (si_rng1 (f16 X G c) (sa_cons (se_bin (o_add (mu := false)) (se_int) (se_callO (ok__law_pick X G c e bs) hr (by decide) (f17 X G c) tk (sa_cons (se_var 0) (sa_cons (se_int) (sa_nil))))) (sa_nil))) (sg_name (i := 3) sc.nd)
    (ss_cons (s_set (i := 4) sc.nd (se_callO (ok__law_some X G c e bs) hr (by decide) (f40 X G c) tk (sa_cons (se_var 0) (sa_cons (se_lst (mu := false) (sa_cons (se_int) (sa_cons (se_int) (sa_cons (se_int) (sa_cons (se_int) (sa_cons (se_int) (sa_cons (se_int) (sa_cons (se_int) (sa_cons (se_int) (sa_nil)))))))))) (sa_nil)))))
    (ss_one (s_expr (se_mb PySem.F.plainAttrs_list PySem.F.slot_list_append PySem.F.type_list_append m_append (se_var 2) (sa_cons (se_tup (sa_cons (se_var 4) (sa_cons (se_callO (ok__law_pick X G c e bs) hr (by decide) (f17 X G c) tk (sa_cons (se_var 0) (sa_cons (se_var 4) (sa_nil)))) (sa_nil)))) (sa_nil)))))))
    (ss_cons (s_if (st_cmp (o_eq (room_u hr (by decide))) (se_var 1) (se_int) rfl)
    (ss_one (s_set (i := 2) sc.nd (se_lst (mu := true) (sa_cons (se_tup (sa_cons (se_int) (sa_cons (se_int) (sa_nil)))) (sa_cons (se_tup (sa_cons (se_int) (sa_cons (se_int) (sa_nil)))) (sa_cons (se_tup (sa_cons (se_int) (sa_cons (se_int) (sa_nil)))) (sa_cons (se_tup (sa_cons (se_int) (sa_cons (se_int) (sa_nil)))) (sa_cons (se_tup (sa_cons (se_int) (sa_cons (se_int) (sa_nil)))) (sa_nil)))))))))
    (ss_nil))
    (ss_cons (s_if (st_cmp (o_eq (room_u hr (by decide))) (se_var 1) (se_int) rfl)
    (ss_one (s_set (i := 2) sc.nd (se_callO (ok__law_grown X G c e bs) hr (by decide) (f39 X G c) tk (sa_cons (se_var 0) (sa_cons (se_int) (sa_cons (se_int) (sa_nil)))))))
    (ss_nil))
    (ss_cons (s_if ((sw_and (st_cmp o_ltI (se_var 1) (se_int) rfl) (sw_and1 (st_cmp (o_eq (room_u hr (by decide))) (se_callO (ok__law_pick X G c e bs) hr (by decide) (f17 X G c) tk (sa_cons (se_var 0) (sa_cons (se_int) (sa_nil)))) (se_int) rfl))).pt)
    (ss_cons (s_set (i := 5) sc.nd (se_callO (ok__law_pick X G c e bs) hr (by decide) (f17 X G c) tk (sa_cons (se_var 0) (sa_cons (se_callB c_len (f0 X G c) boot_len (sa_cons (se_var 2) (sa_nil))) (sa_nil)))))
    (ss_cons (s_set (i := 4) sc.nd (se_ix i_seq (se_ix i_seq (se_var 2) (se_var 5)) (se_int)))
    (ss_one (s_set (i := 2) sc.nd (se_bin (o_add (mu := true)) (se_bin (o_add (mu := false)) (se_slice (l_seq (mu := false)) (se_var 2) (so_none) (so_some (se_var 5))) (se_lst (mu := false) (sa_cons (se_tup (sa_cons (se_var 4) (sa_cons (se_callO (ok__law_pick X G c e bs) hr (by decide) (f17 X G c) tk (sa_cons (se_var 0) (sa_cons (se_var 4) (sa_nil)))) (sa_nil)))) (sa_nil)))) (se_slice (l_seq (mu := false)) (se_var 2) (so_some (se_bin (o_add (mu := false)) (se_var 5) (se_int))) (so_none)))))))
    (ss_nil))
    (ss_one (s_ret (se_var 2))))))))))

theorem sc__law_two : FnScope ["many", "found", "lap"] ["many"] (defScope2 59 none) := ⟨rfl, rfl, rfl, by decide +kernel, rfl, by decide +kernel, by decide +kernel⟩

include X G c e in
theorem ok__law_two : OkF P w K mg bs 1 (He.fAd K ("_law_two", none)) 1 d__law_two := by
  obtain ⟨fd, F⟩ := c.def_ 45 (d := dd__law_two) rfl
  exact OkF.seal (okF_def (N := ["many", "found", "lap"]) (ps := ["many"]) (n := 1) (b := b__law_two) F sc__law_two rfl (fun _ _ _ _ _ _ us hl => match us, hl with | [_], _ => rfl)
    (fun zz cdv A outer s H E hr tk po => have sc := sc__law_two;
    ss_cons (s_set (i := 1) sc.nd (se_int))
    (ss_cons (s_for po (si_rng1 (f16 X G c) (sa_cons (se_var 0) (sa_nil))) (sg_name (i := 2) sc.nd)
    (ss_one (s_set (i := 1) sc.nd (se_bin (o_add (mu := false)) (se_var 1) (se_var 1)))))
    (ss_one (s_ret (se_var 1))))))

theorem sc_raw_ringing : FnScope ["bells", "hour", "bell", "pair"] ["bells", "hour"] (defScope2 18 none) := ⟨rfl, rfl, rfl, by decide +kernel, rfl, by decide +kernel, by decide +kernel⟩

include X G c e in
theorem ok_raw_ringing : OkF P w K mg bs 2 (He.fAd K ("raw_ringing", none)) 2 d_raw_ringing := by
  obtain ⟨fd, F⟩ := c.def_ 46 (d := dd_raw_ringing) rfl
  exact OkF.seal (okF_def (N := ["bells", "hour", "bell", "pair"]) (ps := ["bells", "hour"]) (n := 2) (b := b_raw_ringing) F sc_raw_ringing rfl (fun _ _ _ _ _ _ us hl => match us, hl with | [_, _], _ => rfl)
    (fun zz cdv A outer s H E hr tk po => have sc := sc_raw_ringing;
    ss_one (s_ret (se_callTy c_tuple (f7 X G c) boot_tuple (sa_cons (se_lc false [("bell", 2), ("pair", 3)] sc.nd (si_enum (f11 X G c) (sa_cons (se_fld (f14 c) (f15 c) (se_var 0)) (sa_nil))) (blkOk_by (by rfl)) (fun _ _ _ _ _ _ => gw_tup (gws_cons (gw_name (i := 2) sc.nd) (gws_cons (gw_name (i := 3) sc.nd) (gws_nil)))) (fun _ _ _ _ _ _ => sts_one (st_val (se_callO (ok_rings X G c e bs) hr (by decide) (f19 X G c) (takes0 _) (sa_cons (se_var 3) (sa_cons (se_var 1) (sa_nil)))))) (fun _ _ _ _ _ _ => se_var 2)) (sa_nil))))))

theorem sc_ringing : FnScope ["bells", "hour"] ["bells", "hour"] (defScope2 20 none) := ⟨rfl, rfl, rfl, by decide +kernel, rfl, by decide +kernel, by decide +kernel⟩

include X G c e in
theorem ok_ringing : OkF P w K mg bs 4 (He.fAd K ("ringing", none)) 2 d_ringing := by
  obtain ⟨fd, F⟩ := c.def_ 47 (d := dd_ringing) rfl
  exact OkF.seal (okF_def (N := ["bells", "hour"]) (ps := ["bells", "hour"]) (n := 2) (b := b_ringing) F sc_ringing rfl (fun _ _ _ _ _ _ us hl => match us, hl with | [_, _], _ => rfl)
    (fun zz cdv A outer s H E hr tk po => have sc := sc_ringing;
    ss_cons (s_expr (se_callO (ok_check_hour X G c e bs) hr (by decide) (f31 X G c) tk (sa_cons (se_var 1) (sa_nil))))
    (ss_one (s_ret (se_callO (ok_raw_ringing X G c e bs) hr (by decide) (f57 X G c) tk (sa_cons (se_var 0) (sa_cons (se_var 1) (sa_nil))))))))

theorem sc__law_small_right : FnScope ["bag", "pairs", "free", "few", "lap", "bells", "whole", "hour", "near", "last", "step"] ["bag"] (defScope2 60 none) := ⟨rfl, rfl, rfl, by decide +kernel, rfl, by decide +kernel, by decide +kernel⟩

include X G c e in
theorem ok__law_small_right : OkF P w K mg bs 8 (He.fAd K ("_law_small_right", none)) 1 d__law_small_right := by
  obtain ⟨fd, F⟩ := c.def_ 48 (d := dd__law_small_right) rfl
  exact OkF.seal (okF_def (N := ["bag", "pairs", "free", "few", "lap", "bells", "whole", "hour", "near", "last", "step"]) (ps := ["bag"]) (n := 1) (b := b__law_small_right) F sc__law_small_right rfl (fun _ _ _ _ _ _ us hl => match us, hl with | [_], _ => rfl)
    (fun zz cdv A outer s H E hr tk po => have sc := sc__law_small_right;
    ss_cons (s_set (i := 1) sc.nd (se_callO (ok__law_small X G c e bs) hr (by decide) (f58 X G c) tk (sa_cons (se_var 0) (sa_nil))))
    (ss_cons (s_par (i := 5) (j := 6) sc.nd (sa_cons (se_seal (se_makeO (f41 c) (ok_Bells_init X G c e bs) hr (by decide) (f42 X G c) tk (sa_cons (se_callTy c_tuple (f7 X G c) boot_tuple (sa_cons (se_var 1) (sa_nil))) (sa_nil)))) (sa_cons (se_callO (ok__law_round X G c e bs) hr (by decide) (f59 X G c) tk (sa_cons (se_var 1) (sa_nil))) (sa_nil))))
    (ss_cons (s_setLc (i := 2) false [("hour", 7)] sc.nd (si_rng1 (f16 X G c) (sa_cons (se_var 6) (sa_nil))) (blkOk_by (by rfl)) (fun _ _ _ _ _ _ => gw_name (i := 7) sc.nd) (fun _ _ _ _ _ _ => sts_one (st_cmp (o_eq (room_u hr (by decide))) (se_callO (ok__law_rings X G c e bs) hr (by decide) (f48 X G c) (takes0 _) (sa_cons (se_var 1) (sa_cons (se_var 7) (sa_nil)))) (se_lst (mu := false) (sa_nil)) rfl)) (fun _ _ _ _ _ _ => se_var 7))
    (ss_cons (s_if ((sw_or (st_cmp (o_ne (room_u hr (by decide))) (se_callO (ok_round_of X G c e bs) hr (by decide) (f34 X G c) tk (sa_cons (se_var 5) (sa_nil))) (se_var 6) rfl) (sw_or1 (st_cmp (o_ne (room_u hr (by decide))) (se_callB c_repr (f49 X G c) boot_repr (sa_cons (se_callO (ok_is_loud_for_ever X G c e bs) hr (by decide) (f43 X G c) tk (sa_cons (se_var 5) (sa_nil))) (sa_nil))) (se_callB c_repr (f49 X G c) boot_repr (sa_cons (se_cmp (o_eq (room_u hr (by decide))) (se_var 2) (se_lst (mu := false) (sa_nil)) rfl) (sa_nil))) rfl))).pt)
    (ss_one (s_ret (se_bl)))
    (ss_nil))
    (ss_cons (s_setLc (i := 3) false [("hour", 7)] sc.nd (si_rng2 (f16 X G c) (sa_cons (se_int) (sa_cons (se_bin (o_add (mu := false)) (se_int) (se_callO (ok__law_two X G c e bs) hr (by decide) (f60 X G c) tk (sa_cons (se_callB c_len (f0 X G c) boot_len (sa_cons (se_var 1) (sa_nil))) (sa_nil)))) (sa_nil)))) (blkOk_by (by rfl)) (fun _ _ _ _ _ _ => gw_name (i := 7) sc.nd) (fun _ _ _ _ _ _ => sts_one (st_cmp (o_eq (room_u hr (by decide))) (se_callO (ok__law_rings X G c e bs) hr (by decide) (f48 X G c) (takes0 _) (sa_cons (se_var 1) (sa_cons (se_var 7) (sa_nil)))) (se_lst (mu := false) (sa_nil)) rfl)) (fun _ _ _ _ _ _ => se_var 7))
    (ss_cons (s_if (st_cmp (o_ne (room_u hr (by decide))) (se_cmp (o_eq (room_u hr (by decide))) (se_callB c_len (f0 X G c) boot_len (sa_cons (se_var 2) (sa_nil))) (se_int) rfl) (se_cmp (o_eq (room_u hr (by decide))) (se_callB c_len (f0 X G c) boot_len (sa_cons (se_var 3) (sa_nil))) (se_int) rfl) rfl)
    (ss_one (s_ret (se_bl)))
    (ss_nil))
    (ss_cons (s_for po (si_rng1 (f16 X G c) (sa_cons (se_int) (sa_nil))) (sg_name (i := 4) sc.nd)
    (ss_cons (s_set (i := 7) sc.nd (se_callO (ok__law_some X G c e bs) hr (by decide) (f40 X G c) tk (sa_cons (se_var 0) (sa_cons (se_lst (mu := false) (sa_cons (se_int) (sa_cons (se_int) (sa_cons (se_un o_neg (se_int)) (sa_cons (se_bin o_pow (se_int) (se_int)) (sa_cons (se_un o_neg (se_bin o_pow (se_int) (se_int))) (sa_cons (se_bin o_pow (se_int) (se_int)) (sa_cons (se_un o_neg (se_int)) (sa_nil))))))))) (sa_nil)))))
    (ss_cons (s_setLc (i := 8) false [("step", 10)] sc.nd (si_rng1 (f16 X G c) (sa_cons (se_var 6) (sa_nil))) (blkOk_by (by rfl)) (fun _ _ _ _ _ _ => gw_name (i := 10) sc.nd) (fun _ _ _ _ _ _ => sts_one (st_cmp (o_eq (room_u hr (by decide))) (se_callO (ok__law_rings X G c e bs) hr (by decide) (f48 X G c) (takes0 _) (sa_cons (se_var 1) (sa_cons (se_bin (o_add (mu := false)) (se_var 7) (se_var 10)) (sa_nil)))) (se_lst (mu := false) (sa_nil)) rfl)) (fun _ _ _ _ _ _ => se_bin (o_add (mu := false)) (se_var 7) (se_var 10)))
    (ss_cons (s_setLc (i := 9) false [("step", 10)] sc.nd (si_rng1 (f16 X G c) (sa_cons (se_var 6) (sa_nil))) (blkOk_by (by rfl)) (fun _ _ _ _ _ _ => gw_name (i := 10) sc.nd) (fun _ _ _ _ _ _ => sts_one (st_cmp (o_eq (room_u hr (by decide))) (se_callO (ok__law_rings X G c e bs) hr (by decide) (f48 X G c) (takes0 _) (sa_cons (se_var 1) (sa_cons (se_bin o_sub (se_var 7) (se_var 10)) (sa_nil)))) (se_lst (mu := false) (sa_nil)) rfl)) (fun _ _ _ _ _ _ => se_bin o_sub (se_var 7) (se_var 10)))
    (ss_cons (s_if ((sw_or (st_cmp (o_ne (room_u hr (by decide))) (se_callO (ok_quiet X G c e bs) hr (by decide) (f45 X G c) tk (sa_cons (se_var 5) (sa_cons (se_var 7) (sa_nil)))) (se_ix i_seq (se_bin (o_add (mu := false)) (se_var 8) (se_lst (mu := false) (sa_cons (se_non) (sa_nil)))) (se_int)) rfl) (sw_or1 (st_cmp (o_ne (room_u hr (by decide))) (se_callO (ok_quiet_before X G c e bs) hr (by decide) (f46 X G c) tk (sa_cons (se_var 5) (sa_cons (se_var 7) (sa_nil)))) (se_ix i_seq (se_bin (o_add (mu := false)) (se_var 9) (se_lst (mu := false) (sa_cons (se_non) (sa_nil)))) (se_int)) rfl))).pt)
    (ss_one (s_ret (se_bl)))
    (ss_nil))
    (ss_one (s_if (st_cmp (o_ne (room_u hr (by decide))) (se_callO (ok_ringing X G c e bs) hr (by decide) (f61 X G c) tk (sa_cons (se_var 5) (sa_cons (se_var 7) (sa_nil)))) (se_callTy c_tuple (f7 X G c) boot_tuple (sa_cons (se_callO (ok__law_rings X G c e bs) hr (by decide) (f48 X G c) tk (sa_cons (se_var 1) (sa_cons (se_var 7) (sa_nil)))) (sa_nil))) rfl)
    (ss_one (s_ret (se_bl)))
    (ss_nil))))))))
    (ss_one (s_ret (se_and (se_callO (ok__law_counts_right X G c e bs) hr (by decide) (f62 X G c) tk (sa_cons (se_var 5) (sa_cons (se_var 1) (sa_cons (se_var 6) (sa_cons (se_var 2) (sa_nil)))))) (se_one (se_callO (ok__law_lots_right X G c e bs) hr (by decide) (f63 X G c) tk (sa_cons (se_var 0) (sa_cons (se_var 5) (sa_cons (se_var 1) (sa_cons (se_var 6) (sa_nil))))))))))))))))))

theorem sc_law : FnScope ["script", "bag"] ["script"] (defScope2 62 none) := ⟨rfl, rfl, rfl, by decide +kernel, rfl, by decide +kernel, by decide +kernel⟩

include X G c e in
theorem fo_law {fd : FuncData} (F : FunD K dd_law.name dd_law.qual dd_law.params dd_law.body dd_law.scope [] [] (He.fAd K ("law", none)) fd) : FnOk P w K mg bs (L2.CX P w) 9 (He.fAd K ("law", none)) fd ["script"] (spF K 1 d_law) :=
  ok_seal (ok_def (N := ["script", "bag"]) (ps := ["script"]) (b := b_law) F sc_law
    (fun zz cdv A outer s H E hr tk po => have sc := sc_law;
    ss_cons (s_set (i := 1) sc.nd (se_callO (ok__law_bag X G c e bs) hr (by decide) (f64 X G c) tk (sa_cons (se_var 0) (sa_nil))))
    (ss_one (s_ret (se_and (se_callO (ok__law_small_right X G c e bs) hr (by decide) (f65 X G c) tk (sa_cons (se_var 1) (sa_nil))) (se_and (se_callO (ok__law_small_right X G c e bs) hr (by decide) (f65 X G c) tk (sa_cons (se_var 1) (sa_nil))) (se_one (se_callO (ok__law_great_right X G c e bs) hr (by decide) (f66 X G c) tk (sa_cons (se_var 1) (sa_nil))))))))))

end
abbrev R : PySem.W.OpenRow := PySem.W.OpenLaw.row PySem.Challenge.rw_quiethour_k14_whole_main_fact
abbrev hk : PySem.W.Hook := He.hookX 4 fa fn [] [] ex
def ob (s : PySem.W.SharedT) : He.AlX := He.obsX 4 fa fn [] [] ex (HandSHeadRun.getT s)
theorem ob_eq (s : PySem.W.SharedT) : ob s = hk.obs s.abs := He.obsX_eq (HandSHeadRun.getT_eq s)
abbrev loose : List Str := (["is_integer", "is_below", "is_lot_below", "MOST_HOUR", "is_hour", "BellError", "BadBells", "NoHour", "NoLot", "MOST", "MOST_EVERY", "is_pair"] : List Str) ++ (["first_bad", "Bells", "rings", "raw_ringing", "check_hour", "ringing", "common", "least_multiple", "round_of", "check_lot", "doubled", "inverse"] : List Str) ++ (["common_hours", "all_of", "together", "ever_meet", "raw_pair", "apart", "is_quiet", "first_quiet", "quiet", "quiet_before", "is_loud_for_ever", "meeting_sums"] : List Str) ++ (["choices", "counts", "share", "why_not_exact", "is_exact", "_law_bag", "_law_pick", "_law_some", "_law_rings", "_law_round", "_law_split", "_law_grown"] : List Str) ++ (["_law_small", "_law_counts_right", "_law_first", "_law_lots_right", "_law_two", "_law_small_right", "_law_great_right"] : List Str)
theorem run (w : World) : HandSHeadRun.RunEq R (PySem.W.view R.prog [62]) hk ob 4000 loose w := by
  intro os
  kernel_rfl
end QS.K14
open PySem PySem.W PySem.Calls PyProof.Rows
theorem QS.K14.holds (hlaw : ∀ ns : List Int, ns.length ≤ 63 → ∃ s, QS.K14.d_law [.scr (ns.map QS.D.int)] [] = .ok (.bl true) s) : PySem.Challenge.rw_quiethour_k14_whole_main_fact.Holds := by
  w_on; o_law
  refine HandSHeadRun.head_any (r := OpenLaw.row PySem.Challenge.rw_quiethour_k14_whole_main_fact) (q := view (OpenLaw.row PySem.Challenge.rw_quiethour_k14_whole_main_fact).prog [62]) (H := QS.K14.hk) (ob := QS.K14.ob) (M := 4000) (loose := QS.K14.loose) (d := HandSHeadRun.topDef (OpenLaw.row PySem.Challenge.rw_quiethour_k14_whole_main_fact).prog 62) (kwd := []) QS.K14.ob_eq
    (by kernel_rfl) (fun s => by kernel_rfl) QS.K14.run (by kernel_rfl) (by kernel_rfl) (by kernel_rfl) (by rfl) (by first | assumption | decide +kernel) (by decide +kernel) ⟨rfl, rfl, rfl, rfl, rfl, by decide +kernel⟩ ?hw ?hc
  case hw => w_witness2
  case hc =>
    refine QS.walk_end (l := PySem.Challenge.rw_quiethour_k14_whole_main_fact) (n := 63) (k := 9) (x := "script") (F := QS.K14.d_law) rfl (by decide) (by kernel_rfl) ⟨rfl, by decide, by decide⟩ ?F hlaw
    intro w mg fa h Y G hmg0
    obtain ⟨K, KX, c⟩ := Y
    have hmg : mg ("law" : PySem.Str) = some (.ref fa) := by
      have e : (HandSHeadRun.topDef (OpenLaw.row PySem.Challenge.rw_quiethour_k14_whole_main_fact).prog 62).name = ("law" : PySem.Str) := by kernel_rfl
      rw [← e]
      exact hmg0
    have e := c.more
    have c := c.t.d
    obtain ⟨fd, F⟩ := c.def_ 49 (d := QS.K14.dd_law) rfl
    have e2 := hmg.symm.trans (QS.K14.f67 KX G c)
    cases e2
    have b := L2.FunD.bindsA (ps := ["script"]) F fun _ _ _ _ _ _ us hl => match us, hl with | [_], _ => rfl
    exact ⟨K, fd, KX, fun s v => b s [v] rfl, fun base _ _ => QS.K14.fo_law (P := PySem.Challenge.rw_quiethour_k14_whole_main_fact.prog) (w := w) KX G c e base F⟩
end

section
set_option Elab.async false
set_option linter.all false
namespace QS.K14
open PySem PySem.Spec PyProof.Rows L2 QS
theorem k14_holds : PySem.Challenge.rw_quiethour_k14_whole_main_fact.Holds := holds fun ns h => law_k14 ns h
end QS.K14
end

theorem PySem.Challenge.cw_quiethour_k14_whole_main_fact_holds : PySem.Challenge.rw_quiethour_k14_whole_main_fact.Holds :=
  QS.K14.k14_holds
