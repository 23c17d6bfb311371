import PyProof.Rows.All
import Wide.All
import OpenK.AllK
import Wide.FinOn
import HandS.ForMost
import HandS.ForExc
import HandS.More
import HandS.Defaults
import HandS.HeadHook1
import HandS.HeadHook2
import HandS.Walk
import HandS.Wide
import HandS.Lambda
import HandS.EndTab
import HandS.TryOnly
import HandS.ExcIs
import HandS.ExcField
import HandS.HeadHook4
import HandS.NestedK
import KE.KExcSuper
import KE.KDictWalk
import HandS.TupAny
import HandS.TupMul
import HandS.TupLe
import PyProof.SumWalkG
import HandS.IsInst
import HandS.Zip
import KE.GoesMore
import HandS.Style
import HandS.HeadEnd
import HandS.Conv
import HandS.RaiseMore
import KE.KExcIs
import HandS.ExcOwn
import KE.KNestM
import PyProof.ReprRoads
import HandS.Dict
import KE.SortKeyHeap
import HandS.OwnEq
import HandS.WordsExc
import HandS.SetFor
import PyProof.InstNe
import HandS.SortKw
import HandS.Text
import KE.IntTextLaws
import HandS.DictComp
import KE.KDictList
import KE.GoesZip
import KE.GoesEnum
import PyProof.EnumMake
import HandS.HeadHook3
import KE.KDictDisplayH
import HandS.SetBool
import PyProof.FactsAll.NoneType_1
import KE.KStateDown
import HandS.Head0
import HandS.Head1
import HandS.Head2
import PySem.Challenge.RW_quiethour_k09_whole_settings

section
set_option Elab.async false
set_option linter.all false
set_option maxRecDepth 100000
set_option maxHeartbeats 4000000
/-! QS0: data trees D over a store, how they lie in the abstract heap (Rep), the judgements by plain denotations. -/
namespace QS
open PySem PySem.Spec PyProof.Rows L2
abbrev St := L2.St

/-- data: trees; loc n: the n-th thing of the store, which may change -/
inductive D where
  | non | bl (b : Bool) | int (i : Int) | str (x : Str)
  | tup (l : List D) | lst (l : List D)
  | dic (ks : List Key) (vs : List D)
  | ins (c : Str) (fs : List Str) (vs : List D)
  | loc (n : Nat)
  | scr (l : List D)
  | adr (a : Addr)
  | xo (a dd : Addr) (f : Str) (v : D)
  | th (f c : Addr) (q : Str) (ds : List D) (vs : List V)
  | odd (ks : List D)
/-- what may change -/
inductive O where
  | lst (l : List D)
  | dic (ks : List Key) (vs : List D)
  | ins (c : Str) (fs : List Str) (vs : List D)
abbrev Sto := List O
/-- an exception: its class, what it keeps under a name -/
structure Ex where
  cls : Str
  own : Bool := true
  ty : String := ""
  arg : Option (Str × D) := none
inductive Res (α : Type) where
  | ok (a : α) (s : Sto)
  | exn (x : Ex) (s : Sto)
  | stuck
abbrev M (α : Type) := Sto → Res α
def bnd {α β : Type} (m : M α) (f : α → M β) : M β := fun s => match m s with
  | .ok a s' => f a s'
  | .exn x s' => .exn x s'
  | .stuck => .stuck
def ret {α : Type} (a : α) : M α := fun s => .ok a s
abbrev V1 (α : Type) := Sto → Option (α × Sto)
def lift {α : Type} (v : V1 α) : M α := fun s => match v s with
  | some (a, s') => .ok a s'
  | none => .stuck
abbrev En := List (Option D)
abbrev EM := En → M D
abbrev TM := En → M Bool
abbrev AM := En → M (List D)

/-! ### how data lie in the heap -/
/-- the written part, and the places that no datum lies at (a list that a comprehension is about to make) -/
abbrev KZ := PySem.W.Frag × List Addr
def Nin (K : KZ) (m : List Addr) (a : Addr) : Prop := a ∉ m ∧ a ∉ K.2
/-- a list that nobody writes: the script -/
def SqF (K : PySem.W.Frag) (H : Hp) (a : Addr) (xs : List V) : Prop :=
  (∃ o, H a = some (.frz o (.lst xs))) ∨
    ∃ (o : Obj) (its : Array Value) (n : Nat), K.lookup a = some o ∧ o.cls = .type "list" ∧ o.dict = none ∧ o.data = .seq its n ∧ its.size ≤ sizeLine ∧ Vals xs its.toList
theorem SqF.l {K : PySem.W.Frag} {H : Hp} {a : Addr} {xs : List V} (h : SqF K H a xs) : SqL K H a xs := by
  rcases h with ⟨o, h⟩ | h
  · exact .inl (.inr ⟨o, h⟩)
  · exact .inr h
/-- a dict of any keys, which nobody writes: its keys -/
def OddO (a : Addr) (o : Obj) (us : List V) : HO := .ext fun h => (a == sysModules) = false ∧ us.length ≤ sizeLine ∧ h.get? a = some o ∧ o.ExactDict ∧ ∃ es ep, o.data = .dict es ep ∧ Vals us (es.toList.map fun e => e.key)
mutual
inductive Rep (K : KZ) (m : List Addr) (H : Hp) : D → V → Prop
  | non : Rep K m H .non .non
  | bl (b : Bool) : Rep K m H (.bl b) (.bl b)
  | int (i : Int) : Rep K m H (.int i) (.int i)
  | str (x : Str) : Rep K m H (.str x) (.str x)
  | tup {a : Addr} {ds : List D} {vs : List V} : SqT K.1 H a vs → RepL K m H ds vs → Rep K m H (.tup ds) (.ref a)
  | lst {a : Addr} {ds : List D} {vs : List V} : Nin K m a → H a = some (.lst vs) → RepL K m H ds vs → Rep K m H (.lst ds) (.ref a)
  | scr {a : Addr} {ds : List D} {vs : List V} : SqF K.1 H a vs → RepL K m H ds vs → Rep K m H (.scr ds) (.ref a)
  | dic {a : Addr} {ks : List Key} {ds : List D} {vs : List V} : Nin K m a → ks.length = vs.length → Rd H a (.dK (ks.zip vs)) → RepL K m H ds vs → Rep K m H (.dic ks ds) (.ref a)
  | ins {a dx : Addr} {c : Str} {fs : List Str} {ds : List D} {vs : List V} : Nin K m a → fs.length = vs.length → H a = some (.ins (He.ga K.1 c) dx (fs.zip vs)) → RepL K m H ds vs → Rep K m H (.ins c fs ds) (.ref a)
  | loc {n : Nat} {a : Addr} : m[n]? = some a → Rep K m H (.loc n) (.ref a)
  | adr (a : Addr) : Rep K m H (.adr a) (.ref a)
  | xo {a dd : Addr} {f : Str} {d : D} {v : V} : dd ∉ m → H dd = some (.xd [(f, v)]) → Rep K m H d v → Rep K m H (.xo a dd f d) (.ref a)
  | th {f c : Addr} {q : Str} {ds : List D} {vs : List V} : c ∉ m → H c = some (LamX.CodeO c q) → RepL K m H ds vs → Rep K m H (.th f c q ds vs) (.ref f)
  | odd {a : Addr} {o : Obj} {ks : List D} {us : List V} : a ∉ m → H a = some (OddO a o us) → RepL K m H ks us → Rep K m H (.odd ks) (.ref a)
inductive RepL (K : KZ) (m : List Addr) (H : Hp) : List D → List V → Prop
  | nil : RepL K m H [] []
  | cons {d : D} {v : V} {ds : List D} {vs : List V} : Rep K m H d v → RepL K m H ds vs → RepL K m H (d :: ds) (v :: vs)
end
/-- no table of code objects -/
def NT (o : HO) : Prop := ∀ ps, o ≠ .tbl ps
/-- the defs that hand a lambda without parameters to another def -/
def lamNames : List Str := ["lots_of", "_law_calls_right", "_law_hours_right", "law", "_law_is_refused", "_law_is_told", "_law_is_split", "_law_refused_right", "_law_deed", "_law_full_right", "_law_run_right", "_law_is_known_right"]
/-- their tables -/
def tbs (K : PySem.W.Frag) : List (Addr × Str) := lamNames.filterMap fun x => if PySem.W.codeHdIn K (He.cT K (x, none)).1 (He.cT K (x, none)).2 && (K.lookup (He.cT K (x, none)).2).isNone then some ((He.cT K (x, none)).2, x ++ ".<locals>." ++ "<lambda>") else none
/-- something lies there, and no table -/
def Nn (H : Hp) (a : Addr) : Prop := ∃ o, H a = some o ∧ NT o
theorem Nn.of {H : Hp} {a : Addr} {o : HO} (h : H a = some o) (t : NT o := by exact fun _ z => nomatch z) : Nn H a := ⟨o, h, t⟩
/-- it stands, a dict may be locked -/
def Lk (H : Hp) (a : Addr) (o : HO) : Prop := H a = some o ∨ ∃ ob kvs, o = .dK kvs ∧ H a = some (.frz ob o)
theorem Lk.eq {H : Hp} {a : Addr} {o : HO} (h : Lk H a o) (nd : ∀ k, o ≠ .dK k) : H a = some o := h.elim id fun ⟨_, k, e, _⟩ => absurd e (nd k)
theorem Lk.rd {H : Hp} {a : Addr} {o : HO} (h : Lk H a o) : Rd H a o := h.elim .inl fun ⟨ob, _, _, e⟩ => .inr ⟨ob, e⟩
/-- the world goes on: new places, what is not of the store stands -/
structure Ext (m : List Addr) (H : Hp) (m' : List Addr) (H' : Hp) : Prop where
  more : ∃ t, m' = m ++ t ∧ ∀ a ∈ t, ¬ Nn H a
  keep : ∀ a o, H a = some o → NT o → a ∉ m → Lk H' a o
  there : ∀ a, Nn H a → Nn H' a
section
variable {K : KZ} {m m' m'' : List Addr} {H H' H'' : Hp}
theorem Ext.refl : Ext m H m H := ⟨⟨[], by simp, fun _ h => nomatch h⟩, fun _ _ h _ _ => .inl h, fun _ h => h⟩
theorem Ext.keepE (e : Ext m H m' H') (a : Addr) (o : HO) (h : H a = some o) (t : NT o) (n : a ∉ m) (nd : ∀ k, o ≠ .dK k := by exact fun _ z => nomatch z) : H' a = some o := (e.keep a o h t n).eq nd
theorem Ext.notin (e : Ext m H m' H') {a : Addr} (h : Nn H a) (n : a ∉ m) : a ∉ m' := by
  obtain ⟨t, rfl, q⟩ := e.more
  intro z
  rcases List.mem_append.mp z with z | z
  · exact n z
  · exact q a z h
theorem Ext.trans (e : Ext m H m' H') (f : Ext m' H' m'' H'') : Ext m H m'' H'' := by
  refine ⟨?_, fun a o h t n => ?_, fun a h => f.there a (e.there a h)⟩
  rotate_left
  · rcases e.keep a o h t n with q | ⟨ob, k, q1, q2⟩
    · exact f.keep a o q t (e.notin ⟨o, h, t⟩ n)
    · exact .inr ⟨ob, k, q1, (f.keep a _ q2 (fun _ z => nomatch z) (e.notin ⟨o, h, t⟩ n)).eq fun _ z => nomatch z⟩
  obtain ⟨t, rfl, q⟩ := e.more
  obtain ⟨t', rfl, q'⟩ := f.more
  refine ⟨t ++ t', by simp, fun a z => ?_⟩
  rcases List.mem_append.mp z with z | z
  · exact q a z
  · exact fun h => q' a z (e.there a h)
theorem Ext.same (s : Same H H') : Ext m H m H' := ⟨⟨[], by simp, fun _ h => nomatch h⟩, fun a o h _ _ => .inl (s a o h), fun a ⟨o, h, t⟩ => ⟨o, s a o h, t⟩⟩
theorem Ext.loc (e : Ext m H m' H') {n : Nat} {a : Addr} (h : m[n]? = some a) : m'[n]? = some a := by
  obtain ⟨t, rfl, _⟩ := e.more
  rw [List.getElem?_append_left (List.getElem?_eq_some_iff.mp h).1]
  exact h
theorem Ext.rd (e : Ext m H m' H') {a : Addr} {u : HO} (t : NT u) (n : a ∉ m) (h : Rd H a u) : Rd H' a u := by
  rcases h with h | ⟨o, h⟩
  · exact (e.keep a _ h t n).rd
  · exact .inr ⟨o, e.keepE a _ h (fun _ z => nomatch z) n⟩
theorem Rd.ne {a : Addr} {u : HO} (h : Rd H a u) (t : NT u) : Nn H a := by
  rcases h with h | ⟨o, h⟩
  · exact ⟨_, h, t⟩
  · exact .of h
def Mu3 : HO → Prop
  | .lst _ => True
  | .dK _ => True
  | .ins _ _ _ => True
  | _ => False
/-- a tuple's place is none of the store's -/
def NoTup (m : List Addr) (H : Hp) : Prop := ∀ a ∈ m, ∃ o, H a = some o ∧ Mu3 o
theorem SqT.ext (t : NoTup m H) (e : Ext m H m' H') {a : Addr} {vs : List V} (h : SqT K.1 H a vs) : SqT K.1 H' a vs := by
  rcases h with h | h
  · refine .inl ?_
    rcases h with h | ⟨o, h⟩
    · refine .inl (e.keepE a _ h (fun _ z => nomatch z) fun z => ?_)
      obtain ⟨o, q, mu⟩ := t a z
      rw [h] at q; cases q; exact mu
    · refine .inr ⟨o, e.keepE a _ h (fun _ z => nomatch z) fun z => ?_⟩
      obtain ⟨o', q, mu⟩ := t a z
      rw [h] at q; cases q; exact mu
  · exact .inr h
theorem SqF.ext (t : NoTup m H) (e : Ext m H m' H') {a : Addr} {vs : List V} (h : SqF K.1 H a vs) : SqF K.1 H' a vs := by
  rcases h with ⟨o, h⟩ | h
  · refine .inl ⟨o, e.keepE a _ h (fun _ z => nomatch z) fun z => ?_⟩
    obtain ⟨o', q, mu⟩ := t a z
    rw [h] at q; cases q; exact mu
  · exact .inr h
theorem codeO_nd {c : Addr} {q : Str} : ∀ k, LamX.CodeO c q ≠ .dK k := fun k z => by unfold LamX.CodeO at z; cases z
theorem Ext.nin (e : Ext m H m' H') {a : Addr} (h : Nn H a) (n : Nin K m a) : Nin K m' a := ⟨e.notin h n.1, n.2⟩
theorem oddO_ne {a : Addr} {o : Obj} {us : List V} : NT (OddO a o us) := fun ps z => by unfold OddO at z; cases z
theorem oddO_nd {a : Addr} {o : Obj} {us : List V} : ∀ k, OddO a o us ≠ .dK k := fun k z => by unfold OddO at z; cases z
mutual
theorem Rep.ext (t : NoTup m H) (e : Ext m H m' H') : ∀ {d : D} {v : V}, Rep K m H d v → Rep K m' H' d v
  | _, _, .non => .non
  | _, _, .bl b => .bl b
  | _, _, .int i => .int i
  | _, _, .str x => .str x
  | _, _, .tup h r => .tup (SqT.ext t e h) (RepL.ext t e r)
  | _, _, .lst n h r => .lst (e.nin (.of h) n) (e.keepE _ _ h (fun _ z => nomatch z) n.1) (RepL.ext t e r)
  | _, _, .scr h r => .scr (SqF.ext t e h) (RepL.ext t e r)
  | _, _, .dic n l h r => .dic (e.nin (QS.Rd.ne h (fun _ z => nomatch z)) n) l (e.rd (fun _ z => nomatch z) n.1 h) (RepL.ext t e r)
  | _, _, .ins n l h r => .ins (e.nin (.of h) n) l (e.keepE _ _ h (fun _ z => nomatch z) n.1) (RepL.ext t e r)
  | _, _, .loc h => .loc (e.loc h)
  | _, _, .adr a => .adr a
  | _, _, .xo n h r => .xo (e.notin (.of h) n) (e.keepE _ _ h (fun _ z => nomatch z) n) (Rep.ext t e r)
  | _, _, .th n h r => .th (e.notin (.of h LamX.codeO_ne) n) (e.keepE _ _ h LamX.codeO_ne n codeO_nd) (RepL.ext t e r)
  | _, _, .odd n h r => .odd (e.notin (.of h oddO_ne) n) (e.keepE _ _ h oddO_ne n oddO_nd) (RepL.ext t e r)
theorem RepL.ext (t : NoTup m H) (e : Ext m H m' H') : ∀ {ds : List D} {vs : List V}, RepL K m H ds vs → RepL K m' H' ds vs
  | _, _, .nil => .nil
  | _, _, .cons h r => .cons (Rep.ext t e h) (RepL.ext t e r)
end
theorem RepL.length : ∀ {ds : List D} {vs : List V}, RepL K m H ds vs → ds.length = vs.length
  | _, _, .nil => rfl
  | _, _, .cons _ r => by simp [RepL.length r]
theorem RepL.get : ∀ {ds : List D} {vs : List V} {i : Nat} {d : D}, RepL K m H ds vs → ds[i]? = some d → ∃ v, vs[i]? = some v ∧ Rep K m H d v
  | _, _, _, _, .nil, h => by simp at h
  | _, _, 0, _, .cons h _, e => by simp at e; subst e; exact ⟨_, rfl, h⟩
  | _, _, i + 1, _, .cons _ r, e => by
    obtain ⟨v, h1, h2⟩ := RepL.get (i := i) r (by simpa using e)
    exact ⟨v, by simpa using h1, h2⟩
theorem RepL.append : ∀ {ds es : List D} {vs us : List V}, RepL K m H ds vs → RepL K m H es us → RepL K m H (ds ++ es) (vs ++ us)
  | _, _, _, _, .nil, s => s
  | _, _, _, _, .cons h r, s => .cons h (RepL.append r s)
theorem RepL.take : ∀ {ds : List D} {vs : List V} (n : Nat), RepL K m H ds vs → RepL K m H (ds.take n) (vs.take n)
  | _, _, 0, _ => by simp; exact .nil
  | _, _, _ + 1, .nil => by simp; exact .nil
  | _, _, n + 1, .cons h r => by simp; exact .cons h (RepL.take n r)
theorem RepL.drop : ∀ {ds : List D} {vs : List V} (n : Nat), RepL K m H ds vs → RepL K m H (ds.drop n) (vs.drop n)
  | _, _, 0, r => by simpa using r
  | _, _, _ + 1, .nil => by simp; exact .nil
  | _, _, n + 1, .cons _ r => by simpa using RepL.drop n r
theorem RepL.set {d : D} {v : V} (h : Rep K m H d v) : ∀ {ds : List D} {vs : List V} (i : Nat), RepL K m H ds vs → RepL K m H (ds.set i d) (vs.set i v)
  | _, _, _, .nil => .nil
  | _, _, 0, .cons _ r => .cons h r
  | _, _, i + 1, .cons g r => .cons g (RepL.set h i r)
theorem RepL.eraseIdx : ∀ {ds : List D} {vs : List V} (i : Nat), RepL K m H ds vs → RepL K m H (ds.eraseIdx i) (vs.eraseIdx i)
  | _, _, _, .nil => .nil
  | _, _, 0, .cons _ r => r
  | _, _, i + 1, .cons g r => .cons g (RepL.eraseIdx i r)
theorem RepL.dropLast {ds : List D} {vs : List V} (r : RepL K m H ds vs) : RepL K m H ds.dropLast vs.dropLast := by
  rw [List.dropLast_eq_take, List.dropLast_eq_take, ← r.length]
  exact r.take _
theorem RepL.replicate {d : D} {v : V} (h : Rep K m H d v) : ∀ n : Nat, RepL K m H (List.replicate n d) (List.replicate n v)
  | 0 => .nil
  | n + 1 => .cons h (RepL.replicate h n)
theorem RepL.flatten_rep {ds : List D} {vs : List V} (r : RepL K m H ds vs) : ∀ n : Nat, RepL K m H (List.replicate n ds).flatten (List.replicate n vs).flatten
  | 0 => .nil
  | n + 1 => by
    rw [List.replicate_succ, List.replicate_succ, List.flatten_cons, List.flatten_cons]
    exact r.append (RepL.flatten_rep r n)
theorem RepL.nil_iff {ds : List D} {vs : List V} (r : RepL K m H ds vs) : ds = [] ↔ vs = [] := by cases r <;> simp
/-- one thing of the store -/
def OR (K : KZ) (m : List Addr) (H : Hp) (a : Addr) : O → Prop
  | .lst ds => ∃ vs, H a = some (.lst vs) ∧ RepL K m H ds vs
  | .dic ks ds => ∃ vs, ks.length = vs.length ∧ H a = some (.dK (ks.zip vs)) ∧ RepL K m H ds vs
  | .ins c fs ds => ∃ dx vs, fs.length = vs.length ∧ H a = some (.ins (He.ga K.1 c) dx (fs.zip vs)) ∧ RepL K m H ds vs
structure StR (K : KZ) (m : List Addr) (H : Hp) (s : Sto) : Prop where
  len : m.length = s.length
  nd : m.Nodup
  hid : ∀ d ∈ K.2, Nn H d ∧ d ∉ m
  obj : ∀ (n : Nat) a o, m[n]? = some a → s[n]? = some o → OR K m H a o
  tab : LamX.Tabs (tbs K.1) H
theorem OR.mut {a : Addr} {o : O} (h : OR K m H a o) : ∃ u, H a = some u ∧ Mu3 u := by
  cases o with
  | lst ds => obtain ⟨vs, e, _⟩ := h; exact ⟨_, e, True.intro⟩
  | dic ks ds => obtain ⟨vs, _, e, _⟩ := h; exact ⟨_, e, True.intro⟩
  | ins c fs ds => obtain ⟨dx, vs, _, e, _⟩ := h; exact ⟨_, e, True.intro⟩
theorem StR.noTup {s : Sto} (S : StR K m H s) : NoTup m H := fun a h => by
  obtain ⟨n, hn, e⟩ := List.mem_iff_getElem.mp h
  have e1 : m[n]? = some a := by rw [List.getElem?_eq_getElem hn, e]
  have hs : n < s.length := by rw [← S.len]; exact hn
  exact (S.obj n a s[n] e1 (List.getElem?_eq_getElem hs)).mut
theorem StR.at {s : Sto} (S : StR K m H s) {n : Nat} {o : O} (h : s[n]? = some o) : ∃ a, m[n]? = some a ∧ a ∈ m ∧ OR K m H a o := by
  have hn : n < m.length := by rw [S.len]; exact (List.getElem?_eq_some_iff.mp h).1
  exact ⟨m[n], List.getElem?_eq_getElem hn, List.getElem_mem hn, S.obj n _ o (List.getElem?_eq_getElem hn) h⟩
theorem OR.ext {a : Addr} {o : O} (t : NoTup m H) (e : Ext m H m' H') (k : ∀ u, H a = some u → H' a = some u) (h : OR K m H a o) : OR K m' H' a o := by
  cases o with
  | lst ds => obtain ⟨vs, q, r⟩ := h; exact ⟨vs, k _ q, RepL.ext t e r⟩
  | dic ks ds => obtain ⟨vs, l, q, r⟩ := h; exact ⟨vs, l, k _ q, RepL.ext t e r⟩
  | ins c fs ds => obtain ⟨dx, vs, l, q, r⟩ := h; exact ⟨dx, vs, l, k _ q, RepL.ext t e r⟩
/-- all stands -/
theorem StR.same {s : Sto} (S : StR K m H s) (k : Same H H') : StR K m H' s :=
  ⟨S.len, S.nd, fun d h => ⟨(Ext.same (m := m) k).there d (S.hid d h).1, (S.hid d h).2⟩, fun n a o h1 h2 => (S.obj n a o h1 h2).ext S.noTup (Ext.same k) fun u q => k a u q, S.tab.ext k⟩
theorem same_upd {p : Addr} {o : HO} (h : H p = none) : Same H (upd H p o) := fun b u e => by
  rw [upd_ne (ne_of_none e h)]
  exact e
/-- a new thing of the store -/
theorem Ext.new {p : Addr} {o : HO} (hp : H p = none) : Ext m H (m ++ [p]) (upd H p o) :=
  ⟨⟨[p], rfl, fun a h ⟨u, e, _⟩ => by simp at h; subst h; rw [hp] at e; cases e⟩, fun a u h _ _ => .inl (same_upd hp a u h), fun a ⟨u, e, t⟩ => ⟨u, same_upd hp a u e, t⟩⟩
theorem StR.new {s : Sto} (S : StR K m H s) {p : Addr} {ho : HO} {o : O} (hp : H p = none) (h : OR K (m ++ [p]) (upd H p ho) p o) : StR K (m ++ [p]) (upd H p ho) (s ++ [o]) := by
  have np : p ∉ m := fun z => by
    obtain ⟨u, q, _⟩ := S.noTup p z
    rw [hp] at q; cases q
  refine ⟨by simp [S.len], List.nodup_append.mpr ⟨S.nd, by simp, fun a ha b hb => by simp at hb; subst hb; exact fun z => np (z ▸ ha)⟩, fun d dz => ⟨(Ext.new (m := m) hp).there d (S.hid d dz).1, fun z => ?_⟩, fun n a u h1 h2 => ?_, ?_⟩
  · rcases List.mem_append.mp z with z | z
    · exact (S.hid d dz).2 z
    · simp at z
      subst z
      obtain ⟨u, e, _⟩ := (S.hid _ dz).1
      rw [hp] at e
      cases e
  rotate_left
  · exact S.tab.ext (same_upd hp)
  by_cases hn : n < m.length
  · rw [List.getElem?_append_left hn] at h1
    rw [List.getElem?_append_left (by rw [← S.len]; exact hn)] at h2
    exact (S.obj n a u h1 h2).ext S.noTup (Ext.new hp) fun v q => same_upd hp a v q
  · have e1 : n = m.length := by
      have := (List.getElem?_eq_some_iff.mp h1).1
      simp at this; omega
    subst e1
    rw [List.getElem?_append_right (Nat.le_refl _)] at h1
    rw [List.getElem?_append_right (by rw [S.len]; exact Nat.le_refl _)] at h2
    simp at h1
    rw [S.len] at h2
    simp at h2
    subst h1; subst h2
    exact h
/-- the tables stand where something else is written -/
theorem tabs_upd {T : List (Addr × Str)} {p : Addr} {o u : HO} (t : LamX.Tabs T H) (h : H p = some u) (n : NT u) (c : ∀ q, u ≠ LamX.CodeO p q) : LamX.Tabs T (upd H p o) := fun x hx => by
  obtain ⟨ps, a1, a2, a3⟩ := t x hx
  refine ⟨ps, ?_, a2, fun pos cv hc => ?_⟩
  · rw [upd_ne (fun z => by rw [z, h] at a1; cases a1; exact n ps rfl)]
    exact a1
  · obtain ⟨c0, e1, e2⟩ := a3 pos cv hc
    refine ⟨c0, e1, ?_⟩
    have ne : c0 ≠ p := fun z => by
      subst z
      rw [h] at e2
      exact c _ (Option.some.inj e2)
    rw [upd_ne ne]
    exact e2
theorem mut_nt {u : HO} (h : Mu3 u) : NT u := fun ps z => by rw [z] at h; exact h
theorem mut_code {u : HO} (h : Mu3 u) {p : Addr} (q : Str) : u ≠ LamX.CodeO p q := fun z => by
  rw [z] at h
  unfold LamX.CodeO at h
  exact h
/-- a thing of the store is written -/
theorem Ext.write {n : Nat} {a : Addr} {o : HO} (h : m[n]? = some a) (t : NoTup m H) (nt : NT o := by exact fun _ z => nomatch z) : Ext m H m (upd H a o) := by
  refine ⟨⟨[], by simp, fun _ h => nomatch h⟩, fun b u q _ nb => ?_, fun b q => ?_⟩
  · refine .inl ?_
    rw [upd_ne (fun z => nb (by rw [z]; exact List.mem_of_getElem? h))]
    exact q
  · by_cases z : b = a
    · subst z; exact ⟨o, upd_same, nt⟩
    · obtain ⟨u, e, t'⟩ := q
      exact ⟨u, by rw [upd_ne z]; exact e, t'⟩
theorem StR.write {s : Sto} (S : StR K m H s) {n : Nat} {a : Addr} {ho : HO} {o : O} (h : m[n]? = some a) (q : OR K m (upd H a ho) a o) : StR K m (upd H a ho) (s.set n o) := by
  have nt : NT ho := by
    obtain ⟨u, e, mu⟩ := q.mut
    rw [upd_same] at e
    cases e
    exact mut_nt mu
  refine ⟨by rw [List.length_set]; exact S.len, S.nd, fun d hd => ⟨(Ext.write (o := ho) h S.noTup nt).there d (S.hid d hd).1, (S.hid d hd).2⟩, fun j b u h1 h2 => ?_, ?_⟩
  rotate_left
  · obtain ⟨u, e1, e2⟩ := S.noTup a (List.mem_of_getElem? h)
    exact tabs_upd S.tab e1 (mut_nt e2) (mut_code e2)
  by_cases z : n = j
  · subst z
    rw [h] at h1; cases h1
    have hs : n < s.length := by rw [← S.len]; exact (List.getElem?_eq_some_iff.mp h).1
    rw [List.getElem?_set_self hs] at h2
    cases h2
    exact q
  · rw [List.getElem?_set_ne z] at h2
    have ne : b ≠ a := fun e => by
      subst e
      obtain ⟨h3, e3⟩ := List.getElem?_eq_some_iff.mp h
      obtain ⟨h4, e4⟩ := List.getElem?_eq_some_iff.mp h1
      exact z ((List.getElem_inj S.nd).mp (e3.trans e4.symm))
    exact (S.obj j b u h1 h2).ext S.noTup (Ext.write h S.noTup nt) fun v e => by rw [upd_ne ne]; exact e
end
end QS
end

section
set_option Elab.async false
set_option linter.all false
set_option maxRecDepth 100000
set_option maxHeartbeats 4000000
/-! QS1: the judgements by denotations: expressions, tests, argument lists. -/
namespace QS
open PySem PySem.Spec PyProof.Rows L2

/-- the slots -/
structure EnR (K : KZ) (m : List Addr) (H : Hp) (ρ : En) (σ : St) : Prop where
  len : ρ.length = σ.length
  at_ : ∀ (i : Nat) d, ρ[i]? = some (some d) → ∃ v, σ[i]? = some (some v) ∧ Rep K m H d v
/-- an exception's class and dict -/
def ERep (K : KZ) (m : List Addr) (H : Hp) (x : Ex) (c : Value) (d : Option Addr) : Prop :=
  (if x.own = true then c = .ref (He.ga K.1 x.cls) else c = .type x.ty) ∧
  match x.arg with
  | none => d = none
  | some (f, a) => ∃ dd v, d = some dd ∧ dd ∉ m ∧ H dd = some (.xd [(f, v)]) ∧ Rep K m H a v
section
variable {K : KZ} {m m' m'' : List Addr} {H H' H'' : Hp} {s s' : Sto} {ρ : En} {σ : St}
theorem EnR.ext (t : NoTup m H) (e : Ext m H m' H') (r : EnR K m H ρ σ) : EnR K m' H' ρ σ :=
  ⟨r.len, fun i d h => let ⟨v, h1, h2⟩ := r.at_ i d h; ⟨v, h1, h2.ext t e⟩⟩
theorem EnR.set {d : D} {v : V} (r : EnR K m H ρ σ) (h : Rep K m H d v) (i : Nat) : EnR K m H (ρ.set i (some d)) (σ.set i (some v)) := by
  refine ⟨by simp [r.len], fun j e he => ?_⟩
  by_cases z : i = j
  · subst z
    have hi : i < ρ.length := by
      have := (List.getElem?_eq_some_iff.mp he).1
      simpa using this
    rw [List.getElem?_set_self hi] at he
    cases he
    exact ⟨v, List.getElem?_set_self (by rw [← r.len]; exact hi), h⟩
  · rw [List.getElem?_set_ne z] at he
    rw [List.getElem?_set_ne z]
    exact r.at_ j e he
theorem EnR.forget (r : EnR K m H ρ σ) (i : Nat) : EnR K m H (ρ.set i none) (σ.set i none) := by
  refine ⟨by simp [r.len], fun j e he => ?_⟩
  by_cases z : i = j
  · subst z
    have hi : i < ρ.length := by
      have := (List.getElem?_eq_some_iff.mp he).1
      simpa using this
    rw [List.getElem?_set_self hi] at he
    cases he
  · rw [List.getElem?_set_ne z] at he
    rw [List.getElem?_set_ne z]
    exact r.at_ j e he
/-- what is wanted of a result -/
def Good {α β : Type} (K : KZ) (W : WX) (σ : St) (rel : List Addr → Hp → α → β → Prop) (m : List Addr) (H : Hp) (Q : β → Hp → Prop) : Res α → Prop
  | .ok a s' => ∀ m' H' v, Ext m H m' H' → StR K m' H' s' → rel m' H' a v → Q v H'
  | .exn x s' => ∀ m' H' c d, Ext m H m' H' → StR K m' H' s' → ERep K m' H' x c d → W c d σ H'
  | .stuck => False
variable {α β γ δ : Type} {W : WX} {rel : List Addr → Hp → α → β → Prop} {rel2 : List Addr → Hp → γ → δ → Prop} {Q Q' : β → Hp → Prop} {Q2 : δ → Hp → Prop}
theorem Good.trans (e : Ext m H m' H') {r : Res α} (h : Good K W σ rel m H Q r) : Good K W σ rel m' H' Q r := by
  cases r with
  | ok a s => exact fun m'' H'' v f S q => h m'' H'' v (e.trans f) S q
  | exn x s => exact fun m'' H'' c d f S q => h m'' H'' c d (e.trans f) S q
  | stuck => exact h
theorem Good.mono {r : Res α} (h : Good K W σ rel m H Q r) (hq : ∀ v H', Q v H' → Q' v H') : Good K W σ rel m H Q' r := by
  cases r with
  | ok a s => exact fun m'' H'' v f S q => hq _ _ (h m'' H'' v f S q)
  | exn x s => exact h
  | stuck => exact h
theorem Good.bind {ma : M α} {f : α → M γ} (h : Good K W σ rel2 m H Q2 (bnd ma f s)) :
    Good K W σ rel m H (fun v H1 => ∃ m1 a s1, Ext m H m1 H1 ∧ StR K m1 H1 s1 ∧ rel m1 H1 a v ∧ Good K W σ rel2 m1 H1 Q2 (f a s1)) (ma s) := by
  unfold bnd at h
  cases e : ma s with
  | ok a s1 =>
    rw [e] at h
    exact fun m1 H1 v e1 S1 r1 => ⟨m1, a, s1, e1, S1, r1, Good.trans e1 h⟩
  | exn x s1 =>
    rw [e] at h
    exact h
  | stuck =>
    rw [e] at h
    exact h
/-- as a reading -/
def tG (K : KZ) (rel : List Addr → Hp → α → β → Prop) (W : WX) (e : En → M α) : St → Hp → (β → Hp → Prop) → Prop := fun σ H Q =>
  ∃ m ρ s, EnR K m H ρ σ ∧ StR K m H s ∧ Good K W σ rel m H Q (e ρ s)
abbrev tE (K : KZ) (W : WX) (e : EM) : TE := tG K (Rep K) W e
abbrev tT (K : KZ) (W : WX) (e : TM) : TT := tG K (fun _ _ (a b : Bool) => a = b) W e
abbrev tA (K : KZ) (W : WX) (e : AM) : TA := tG K (RepL K) W e
theorem tG.mono {e : En → M α} (hq : ∀ v H', Q v H' → Q' v H') (h : tG K rel W e σ H Q) : tG K rel W e σ H Q' := by
  obtain ⟨m, ρ, s, h1, h2, h3⟩ := h
  exact ⟨m, ρ, s, h1, h2, h3.mono hq⟩
/-- values by an operation that raises nothing -/
def GoodV (K : KZ) (m : List Addr) (H : Hp) (Q : VK) : Option (D × Sto) → Prop
  | some (d, s') => ∀ m' H' v, Ext m H m' H' → StR K m' H' s' → Rep K m' H' d v → Q v H'
  | none => False
theorem Good.lift {v : V1 D} {Q : VK} (h : Good K W σ (Rep K) m H Q (lift v s)) : GoodV K m H Q (v s) := by
  unfold QS.lift at h
  cases e : v s with
  | none => rw [e] at h; exact h
  | some p => rw [e] at h; exact h
end
end QS

namespace QS
open PySem PySem.Spec PyProof.Rows L2
/-! ### rules for rules -/
theorem PE.imp {X : Cx} {e : Expr} {t t' : TE} (h : PE X e t) (i : ∀ σ H Q, t' σ H Q → t σ H Q) : PE X e t' := ⟨fun pins s σ H Q I q => h.run pins s σ H Q I (i σ H Q q)⟩
theorem PT.imp {X : Cx} {e : Expr} {t t' : TT} (h : PT X e t) (i : ∀ σ H Q, t' σ H Q → t σ H Q) : PT X e t' := ⟨fun pins s σ H Q I q => h.run pins s σ H Q I (i σ H Q q)⟩
theorem PW.imp {X : Cx} {e : Expr} {t t' : TT} (h : PW X e t) (i : ∀ σ H Q, t' σ H Q → t σ H Q) : PW X e t' := ⟨fun wh pins s σ H Q I q => h.run wh pins s σ H Q I (i σ H Q q)⟩
theorem PA.imp {X : Cx} {e : List Expr} {t t' : TA} (h : PA X e t) (i : ∀ σ H Q, t' σ H Q → t σ H Q) : PA X e t' := ⟨fun pos pins s σ H Q I q => h.run pos pins s σ H Q I (i σ H Q q)⟩
theorem PS.imp {X : Cx} {e : Stmt} {t t' : TS} (h : PS X e t) (i : ∀ D σ H, t' D σ H → t D σ H) : PS X e t' := ⟨fun pins s σ H D I q => h.run pins s σ H D I (i D σ H q)⟩
theorem PSs.imp {X : Cx} {e : List Stmt} {t t' : TS} (h : PSs X e t) (i : ∀ D σ H, t' D σ H → t D σ H) : PSs X e t' := ⟨fun pins s σ H D I q => h.run pins s σ H D I (i D σ H q)⟩

/-! ### denotations of expressions -/
def eVar (i : Nat) : EM := fun ρ s => match ρ[i]? with
  | some (some d) => .ok d s
  | _ => .stuck
def eC (d : D) : EM := fun _ s => .ok d s
def eU (g : D → V1 D) (a : EM) : EM := fun ρ => bnd (a ρ) fun x => lift (g x)
def eB (g : D → D → V1 D) (a b : EM) : EM := fun ρ => bnd (a ρ) fun x => bnd (b ρ) fun y => lift (g x y)
def aNil : AM := fun _ => ret []
def aCons (e : EM) (r : AM) : AM := fun ρ => bnd (e ρ) fun x => bnd (r ρ) fun xs => ret (x :: xs)
/-- a call by values -/
def eF (g : List D → V1 D) (a : AM) : EM := fun ρ => bnd (a ρ) fun xs => lift (g xs)
/-- a method by values -/
def eMt (g : D → List D → V1 D) (o : EM) (a : AM) : EM := fun ρ => bnd (o ρ) fun x => bnd (a ρ) fun xs => lift (g x xs)
/-- a call of a def -/
def eCall (F : List D → M D) (a : AM) : EM := fun ρ => bnd (a ρ) F
def asB : D → M Bool := fun d s => match d with
  | .bl b => .ok b s
  | _ => .stuck
def tV (e : EM) : TM := fun ρ => bnd (e ρ) asB
def tNot (t : TM) : TM := fun ρ => bnd (t ρ) fun b => ret (!b)
def tAnd (t u : TM) : TM := fun ρ => bnd (t ρ) fun b => if b = true then u ρ else ret false
def tOr (t u : TM) : TM := fun ρ => bnd (t ρ) fun b => if b = true then ret true else u ρ
def eAnd (a b : EM) : EM := fun ρ => bnd (a ρ) fun x => bnd (asB x) fun c => if c = true then b ρ else ret (.bl false)
def eOr (a b : EM) : EM := fun ρ => bnd (a ρ) fun x => bnd (asB x) fun c => if c = true then ret (.bl true) else b ρ
def eNot (a : EM) : EM := fun ρ => bnd (a ρ) fun x => bnd (asB x) fun c => ret (.bl (!c))
def eIf (t : TM) (a b : EM) : EM := fun ρ => bnd (t ρ) fun c => if c = true then a ρ else b ρ
/-- a op b op' c -/
def eChain (g g' : D → D → V1 D) (a b c : EM) : EM := fun ρ => bnd (a ρ) fun x => bnd (b ρ) fun y => bnd (lift (g x y)) fun z => bnd (asB z) fun k =>
  if k = true then bnd (c ρ) fun w => lift (g' y w) else ret (.bl false)

section
variable {zz : List Addr} {X : Cx} {W : WX} {a b c e : Expr} {es : List Expr} {da db dc : EM} {ds : AM} {ta tb : TM} {pos : Pos}
/-! by values -/
def r1 (K : KZ) (g : D → V1 D) : V → Hp → VK → Prop := fun x H Q => ∃ m d s, StR K m H s ∧ Rep K m H d x ∧ GoodV K m H Q (g d s)
def r2 (K : KZ) (g : D → D → V1 D) : R2 := fun x y H Q => ∃ m d e s, StR K m H s ∧ Rep K m H d x ∧ Rep K m H e y ∧ GoodV K m H Q (g d e s)
def rL (K : KZ) (g : List D → V1 D) : List V → Hp → VK → Prop := fun vs H Q => ∃ m ds s, StR K m H s ∧ RepL K m H ds vs ∧ GoodV K m H Q (g ds s)
def rM (K : KZ) (g : D → List D → V1 D) : V → List V → Hp → VK → Prop := fun x vs H Q => ∃ m d ds s, StR K m H s ∧ Rep K m H d x ∧ RepL K m H ds vs ∧ GoodV K m H Q (g d ds s)
theorem into1 {K : KZ} {g : D → V1 D} {σ : St} {H : Hp} {Q : VK} (h : tE K W (eU g da) σ H Q) : tE K W da σ H fun x H1 => r1 K g x H1 Q := by
  obtain ⟨m, ρ, s, hE, hS, hG⟩ := h
  exact ⟨m, ρ, s, hE, hS, (Good.bind hG).mono fun v H1 ⟨m1, x, s1, e1, S1, q1, hG1⟩ => ⟨m1, x, s1, S1, q1, hG1.lift⟩⟩
theorem into2 {K : KZ} {g : D → D → V1 D} {σ : St} {H : Hp} {Q : VK} (h : tE K W (eB g da db) σ H Q) : tE K W da σ H fun x H1 => tE K W db σ H1 fun y H2 => r2 K g x y H2 Q := by
  obtain ⟨m, ρ, s, hE, hS, hG⟩ := h
  refine ⟨m, ρ, s, hE, hS, (Good.bind hG).mono fun v H1 ⟨m1, x, s1, e1, S1, q1, hG1⟩ => ?_⟩
  refine ⟨m1, ρ, s1, hE.ext hS.noTup e1, S1, (Good.bind hG1).mono fun u H2 ⟨m2, y, s2, e2, S2, q2, hG2⟩ => ?_⟩
  exact ⟨m2, x, y, s2, S2, q1.ext S1.noTup e2, q2, hG2.lift⟩
theorem intoL {K : KZ} {g : List D → V1 D} {σ : St} {H : Hp} {Q : VK} (h : tE K W (eF g ds) σ H Q) : tA K W ds σ H fun x H1 => rL K g x H1 Q := by
  obtain ⟨m, ρ, s, hE, hS, hG⟩ := h
  exact ⟨m, ρ, s, hE, hS, (Good.bind hG).mono fun v H1 ⟨m1, x, s1, e1, S1, q1, hG1⟩ => ⟨m1, x, s1, S1, q1, hG1.lift⟩⟩

theorem se_var (i : Nat) {x : Str} (hN : X.N[i]? = some x := by rfl) (hv : Vis X.env.scope x := by first | exact Or.inl rfl | exact Or.inr (Or.inl rfl) | exact Or.inr (Or.inr rfl)) (hd : (x == ("__debug__" : Str)) = false := by decide)
    (hcd : (x == ("__classdict__" : Str)) = false := by decide) : PE X (.Name x pos) (tE (X.K, zz) W (eVar i)) := by
  refine PE.imp (pe_var hN hv hd hcd) fun σ H Q ⟨m, ρ, s, hE, hS, hG⟩ => ?_
  unfold eVar at hG
  split at hG
  · rename_i d q0
    obtain ⟨v, h1, h2⟩ := hE.at_ i d q0
    exact ⟨v, h1, hG m H v Ext.refl hS h2⟩
  · exact hG.elim
theorem se_const {v : V} {d : D} (h : PE X e (tC v)) (r : ∀ m H, Rep (X.K, zz) m H d v) : PE X e (tE (X.K, zz) W (eC d)) :=
  PE.imp h fun σ H Q ⟨m, ρ, s, hE, hS, hG⟩ => hG m H v Ext.refl hS (r m H)
theorem se_int {i : Int} {j} : PE X (.Constant (.int i) j pos) (tE (X.K, zz) W (eC (.int i))) := se_const pe_int fun _ _ => .int i
theorem se_bl {b : Bool} {j} : PE X (.Constant (.bool b) j pos) (tE (X.K, zz) W (eC (.bl b))) := se_const pe_bl fun _ _ => .bl b
theorem se_non {j} : PE X (.Constant .none j pos) (tE (X.K, zz) W (eC .non)) := se_const pe_non fun _ _ => .non
theorem se_str {x : Str} {j} : PE X (.Constant (.str x) j pos) (tE (X.K, zz) W (eC (.str x))) := se_const pe_str fun _ _ => .str x
theorem se_gint {x : Str} {i : Int} (hg : Gl X x) (hm : ∃ t, X.mg x = some (.int i t)) (hd : (x == ("__debug__" : Str)) = false := by decide) : PE X (.Name x pos) (tE (X.K, zz) W (eC (.int i))) := by
  obtain ⟨t, hm⟩ := hm
  exact se_const (pe_glob (v := .int i) hg hm ⟨t, rfl⟩ hd) fun _ _ => .int i
theorem se_gstr {x z : Str} (hg : Gl X x) (hm : ∃ t, X.mg x = some (.str z t)) (hd : (x == ("__debug__" : Str)) = false := by decide) : PE X (.Name x pos) (tE (X.K, zz) W (eC (.str z))) := by
  obtain ⟨t, hm⟩ := hm
  exact se_const (pe_glob (v := .str z) hg hm ⟨t, rfl⟩ hd) fun _ _ => .str z
theorem se_bin {op : Operator} {g : D → D → V1 D} (ho : OpR X (binaryOp op) (r2 (X.K, zz) g)) (ha : PE X a (tE (X.K, zz) W da)) (hb : PE X b (tE (X.K, zz) W db)) : PE X (.BinOp a op b pos) (tE (X.K, zz) W (eB g da db)) :=
  PE.imp (pe_op ho ha hb) fun _ _ _ h => into2 h
theorem se_un {op : UnaryOp} {g : D → V1 D} (ho : UnR X (unaryOp op) (r1 (X.K, zz) g)) (ha : PE X a (tE (X.K, zz) W da)) : PE X (.UnaryOp op a pos) (tE (X.K, zz) W (eU g da)) :=
  PE.imp (pe_un ho ha) fun _ _ _ h => into1 h
theorem se_cmp {op : CmpOp} {g : D → D → V1 D} (ho : OpR X (compareOp op) (r2 (X.K, zz) g)) (ha : PE X a (tE (X.K, zz) W da)) (hb : PE X b (tE (X.K, zz) W db)) (hm : behindInMarks op b = false) : PE X (.Compare a [op] [b] pos) (tE (X.K, zz) W (eB g da db)) :=
  PE.imp (pe_cmpR ho ha hb hm) fun _ _ _ h => into2 h
/-- a value as a test -/
theorem intoT {K : KZ} {σ : St} {H : Hp} {Q : Bool → Hp → Prop} (h : tT K W (tV da) σ H Q) : tE K W da σ H fun x H' => ∃ k, x = .bl k ∧ Q k H' := by
  obtain ⟨m, ρ, s, hE, hS, hG⟩ := h
  refine ⟨m, ρ, s, hE, hS, (Good.bind hG).mono fun v H1 ⟨m1, x, s1, e1, S1, q1, hG1⟩ => ?_⟩
  cases q1 with
  | bl b => exact ⟨b, rfl, hG1 m1 H1 b Ext.refl S1 rfl⟩
  | _ => exact hG1.elim
theorem st_cmp {op : CmpOp} {g : D → D → V1 D} (ho : OpR X (compareOp op) (r2 (X.K, zz) g)) (ha : PE X a (tE (X.K, zz) W da)) (hb : PE X b (tE (X.K, zz) W db)) (hm : behindInMarks op b = false) : PT X (.Compare a [op] [b] pos) (tT (X.K, zz) W (tV (eB g da db))) :=
  PT.imp (pt_cmpR ho ha hb hm) fun _ _ _ h => into2 (intoT h)

theorem st_val (h : PE X e (tE (X.K, zz) W da)) (he : ∀ whole, isTrue e X.env whole = (do let v ← whole; standAt e.pos; holding [v] (truthy v)) := by intro _; rfl) : PT X e (tT (X.K, zz) W (tV da)) :=
  PT.imp (pt_val h he) fun _ _ _ h => intoT h
theorem st_not (h : PT X a (tT (X.K, zz) W ta)) : PT X (.UnaryOp .Not a pos) (tT (X.K, zz) W (QS.tNot ta)) :=
  PT.imp (pt_not h) fun σ H Q ⟨m, ρ, s, hE, hS, hG⟩ => ⟨m, ρ, s, hE, hS, (Good.bind hG).mono fun v H1 ⟨m1, x, s1, e1, S1, q1, hG1⟩ => by
    subst q1
    exact hG1 m1 H1 _ Ext.refl S1 rfl⟩
theorem sw_and1 (h : PT X a (tT (X.K, zz) W ta)) : PW X (.BoolOp .And [a] pos) (tT (X.K, zz) W ta) := pw_and1 h
theorem sw_or1 (h : PT X a (tT (X.K, zz) W ta)) : PW X (.BoolOp .Or [a] pos) (tT (X.K, zz) W ta) := pw_or1 h
theorem sw_and (h : PT X a (tT (X.K, zz) W ta)) (h2 : PW X (.BoolOp .And (b :: es) pos) (tT (X.K, zz) W tb)) : PW X (.BoolOp .And (a :: b :: es) pos) (tT (X.K, zz) W (QS.tAnd ta tb)) :=
  PW.imp (pw_and h h2) fun σ H Q ⟨m, ρ, s, hE, hS, hG⟩ => ⟨m, ρ, s, hE, hS, (Good.bind hG).mono fun v H1 ⟨m1, x, s1, e1, S1, q1, hG1⟩ => by
    subst q1
    cases x with
    | true =>
      simp only [if_true] at hG1 ⊢
      exact ⟨m1, ρ, s1, hE.ext hS.noTup e1, S1, hG1⟩
    | false =>
      simp only [Bool.false_eq_true, if_false] at hG1 ⊢
      exact hG1 m1 H1 _ Ext.refl S1 rfl⟩
theorem sw_or (h : PT X a (tT (X.K, zz) W ta)) (h2 : PW X (.BoolOp .Or (b :: es) pos) (tT (X.K, zz) W tb)) : PW X (.BoolOp .Or (a :: b :: es) pos) (tT (X.K, zz) W (QS.tOr ta tb)) :=
  PW.imp (pw_or h h2) fun σ H Q ⟨m, ρ, s, hE, hS, hG⟩ => ⟨m, ρ, s, hE, hS, (Good.bind hG).mono fun v H1 ⟨m1, x, s1, e1, S1, q1, hG1⟩ => by
    subst q1
    cases x with
    | true =>
      simp only [if_true] at hG1 ⊢
      exact hG1 m1 H1 _ Ext.refl S1 rfl
    | false =>
      simp only [Bool.false_eq_true, if_false] at hG1 ⊢
      exact ⟨m1, ρ, s1, hE.ext hS.noTup e1, S1, hG1⟩⟩
theorem se_one {op} (h : PE X a (tE (X.K, zz) W da)) : PE X (.BoolOp op [a] pos) (tE (X.K, zz) W da) := pe_one h
theorem asB_bl {K : KZ} {m : List Addr} {H : Hp} {x : D} {v : V} {s : Sto} {α β : Type} {rel : List Addr → Hp → α → β → Prop} {σ : St} {Q : β → Hp → Prop} {f : Bool → M α} (q : Rep K m H x v) (h : Good K W σ rel m H Q (bnd (asB x) f s)) : ∃ c, v = .bl c ∧ x = .bl c ∧ Good K W σ rel m H Q (f c s) := by
  cases q with
  | bl c => exact ⟨c, rfl, rfl, h⟩
  | _ => exact h.elim
theorem se_and (ha : PE X a (tE (X.K, zz) W da)) (hb : PE X (.BoolOp .And (b :: es) pos) (tE (X.K, zz) W db)) : PE X (.BoolOp .And (a :: b :: es) pos) (tE (X.K, zz) W (eAnd da db)) :=
  PE.imp (pe_and ha hb) fun σ H Q ⟨m, ρ, s, hE, hS, hG⟩ => ⟨m, ρ, s, hE, hS, (Good.bind hG).mono fun v H1 ⟨m1, x, s1, e1, S1, q1, hG1⟩ => by
    obtain ⟨c, ev, _, hG2⟩ := asB_bl q1 hG1
    refine ⟨c, ev, ?_⟩
    cases c with
    | true =>
      simp only [if_true] at hG2 ⊢
      exact ⟨m1, ρ, s1, hE.ext hS.noTup e1, S1, hG2⟩
    | false =>
      simp only [Bool.false_eq_true, if_false] at hG2 ⊢
      exact hG2 m1 H1 _ Ext.refl S1 (.bl false)⟩
theorem se_or (ha : PE X a (tE (X.K, zz) W da)) (hb : PE X (.BoolOp .Or (b :: es) pos) (tE (X.K, zz) W db)) : PE X (.BoolOp .Or (a :: b :: es) pos) (tE (X.K, zz) W (eOr da db)) :=
  PE.imp (pe_or ha hb) fun σ H Q ⟨m, ρ, s, hE, hS, hG⟩ => ⟨m, ρ, s, hE, hS, (Good.bind hG).mono fun v H1 ⟨m1, x, s1, e1, S1, q1, hG1⟩ => by
    obtain ⟨c, ev, _, hG2⟩ := asB_bl q1 hG1
    refine ⟨c, ev, ?_⟩
    cases c with
    | true =>
      simp only [if_true] at hG2 ⊢
      exact hG2 m1 H1 _ Ext.refl S1 (.bl true)
    | false =>
      simp only [Bool.false_eq_true, if_false] at hG2 ⊢
      exact ⟨m1, ρ, s1, hE.ext hS.noTup e1, S1, hG2⟩⟩
theorem se_not (ha : PE X a (tE (X.K, zz) W da)) : PE X (.UnaryOp .Not a pos) (tE (X.K, zz) W (eNot da)) :=
  PE.imp (pe_not ha) fun σ H Q ⟨m, ρ, s, hE, hS, hG⟩ => ⟨m, ρ, s, hE, hS, (Good.bind hG).mono fun v H1 ⟨m1, x, s1, e1, S1, q1, hG1⟩ => by
    obtain ⟨c, ev, _, hG2⟩ := asB_bl q1 hG1
    exact ⟨c, ev, hG2 m1 H1 _ Ext.refl S1 (.bl _)⟩⟩
theorem se_if (hc : PT X c (tT (X.K, zz) W ta)) (ha : PE X a (tE (X.K, zz) W da)) (hb : PE X b (tE (X.K, zz) W db)) : PE X (.IfExp c a b pos) (tE (X.K, zz) W (eIf ta da db)) :=
  PE.imp (pe_ifExp hc ha hb) fun σ H Q ⟨m, ρ, s, hE, hS, hG⟩ => ⟨m, ρ, s, hE, hS, (Good.bind hG).mono fun v H1 ⟨m1, x, s1, e1, S1, q1, hG1⟩ => by
    subst q1
    cases x with
    | true =>
      simp only [if_true] at hG1 ⊢
      exact ⟨m1, ρ, s1, hE.ext hS.noTup e1, S1, hG1⟩
    | false =>
      simp only [Bool.false_eq_true, if_false] at hG1 ⊢
      exact ⟨m1, ρ, s1, hE.ext hS.noTup e1, S1, hG1⟩⟩
theorem GoodV.mono {K : KZ} {m : List Addr} {H : Hp} {Q Q' : VK} {r : Option (D × Sto)} (h : GoodV K m H Q r) (hq : ∀ v H', Q v H' → Q' v H') : GoodV K m H Q' r := by
  cases r with
  | none => exact h
  | some p => exact fun m' H' v f S q => hq _ _ (h m' H' v f S q)
theorem intoChain {K : KZ} {g g' : D → D → V1 D} {σ : St} {H : Hp} {Q : VK} (h : tE K W (eChain g g' da db dc) σ H Q) : tChain (r2 K g) (r2 K g') (tE K W da) (tE K W db) (tE K W dc) σ H Q := by
  obtain ⟨m, ρ, s, hE, hS, hG⟩ := h
  refine ⟨m, ρ, s, hE, hS, (Good.bind hG).mono fun v H1 ⟨m1, x, s1, e1, S1, q1, hG1⟩ => ?_⟩
  refine ⟨m1, ρ, s1, hE.ext hS.noTup e1, S1, (Good.bind hG1).mono fun u H2 ⟨m2, y, s2, e2, S2, q2, hG2⟩ => ?_⟩
  refine ⟨m2, x, y, s2, S2, q1.ext S1.noTup e2, q2, (Good.bind hG2).lift.mono fun z H3 ⟨m3, zd, s3, e3, S3, q3, hG3⟩ => ?_⟩
  obtain ⟨k, ev, _, hG4⟩ := asB_bl q3 hG3
  refine ⟨k, ev, ?_⟩
  cases k with
  | true =>
    simp only [if_true] at hG4 ⊢
    refine ⟨m3, ρ, s3, (hE.ext hS.noTup e1).ext S1.noTup (e2.trans e3), S3, (Good.bind hG4).mono fun w' H4 ⟨m4, wd, s4, e4, S4, q4, hG5⟩ => ?_⟩
    exact ⟨m4, y, wd, s4, S4, q2.ext S2.noTup (e3.trans e4), q4, hG5.lift⟩
  | false =>
    simp only [Bool.false_eq_true, if_false] at hG4 ⊢
    exact hG4 m3 H3 _ Ext.refl S3 (.bl false)
theorem se_chain {op op' : CmpOp} {g g' : D → D → V1 D} (ho : OpR X (compareOp op) (r2 (X.K, zz) g)) (ho' : OpR X (compareOp op') (r2 (X.K, zz) g')) (ha : PE X a (tE (X.K, zz) W da)) (hb : PE X b (tE (X.K, zz) W db)) (hc : PE X c (tE (X.K, zz) W dc))
    (hm : lastMarks [op, op'] [b, c] = false := by with_unfolding_all rfl) : PE X (.Compare a [op, op'] [b, c] pos) (tE (X.K, zz) W (eChain g g' da db dc)) :=
  PE.imp (pe_chain ho ho' ha hb hc hm) fun _ _ _ h => intoChain h
theorem st_chain {op op' : CmpOp} {g g' : D → D → V1 D} (ho : OpR X (compareOp op) (r2 (X.K, zz) g)) (ho' : OpR X (compareOp op') (r2 (X.K, zz) g')) (ha : PE X a (tE (X.K, zz) W da)) (hb : PE X b (tE (X.K, zz) W db)) (hc : PE X c (tE (X.K, zz) W dc))
    (hm : lastMarks [op, op'] [b, c] = false := by with_unfolding_all rfl) : PT X (.Compare a [op, op'] [b, c] pos) (tT (X.K, zz) W (tV (eChain g g' da db dc))) :=
  PT.imp (pt_chain ho ho' ha hb hc hm) fun _ _ _ h => intoChain (intoT h)
/-! argument lists -/
theorem sa_nil : PA X [] (tA (X.K, zz) W aNil) := PA.imp pa_nil fun σ H Q ⟨m, ρ, s, hE, hS, hG⟩ => hG m H [] Ext.refl hS .nil
theorem sa_cons (ha : PE X e (tE (X.K, zz) W da)) (hr : PA X es (tA (X.K, zz) W ds)) (hs : starEach (e :: es) X.env = (false, eval e X.env) :: starEach es X.env := by rfl) : PA X (e :: es) (tA (X.K, zz) W (aCons da ds)) :=
  PA.imp (pa_cons ha hr hs) fun σ H Q ⟨m, ρ, s, hE, hS, hG⟩ => ⟨m, ρ, s, hE, hS, (Good.bind hG).mono fun v H1 ⟨m1, x, s1, e1, S1, q1, hG1⟩ =>
    ⟨m1, ρ, s1, hE.ext hS.noTup e1, S1, (Good.bind hG1).mono fun vs H2 ⟨m2, xs, s2, e2, S2, q2, hG2⟩ => hG2 m2 H2 _ Ext.refl S2 (.cons (q1.ext S1.noTup e2) q2)⟩⟩
/-! built-ins by name -/
theorem se_callB {x : Str} {id : String} {p : Pos} {g : List D → V1 D} (hc : CallR X (.builtin id) (rL (X.K, zz) g)) (hm : X.mg x = none) (hv : bootBuiltins x = some (.builtin id)) (ha : PA X (e :: es) (tA (X.K, zz) W ds)) (hg : Gl X x := by rfl) (hn : x ≠ "__name__" := by decide) (hdb : (x == ("__debug__" : Str)) = false := by decide)
    (he : starEach (e :: es) X.env = (false, eval e X.env) :: starEach es X.env := by rfl) (hpl : (backTo pos (starEach es X.env)).any (·.1) = false := by rfl) : PE X (.Call (.Name x p) (e :: es) [] pos) (tE (X.K, zz) W (eF g ds)) :=
  PE.imp (pe_callB hc hg hm hv ha hn hdb he hpl) fun _ _ _ h => intoL h
theorem se_callTy {x : Str} {T : String} {p : Pos} {g : List D → V1 D} (hc : CallR X (.type T) (rL (X.K, zz) g)) (hm : X.mg x = none) (hv : bootBuiltins x = some (.type T)) (ha : PA X (e :: es) (tA (X.K, zz) W ds)) (hg : Gl X x := by rfl) (hn : x ≠ "__name__" := by decide) (hdb : (x == ("__debug__" : Str)) = false := by decide)
    (he : starEach (e :: es) X.env = (false, eval e X.env) :: starEach es X.env := by rfl) (hpl : (backTo pos (starEach es X.env)).any (·.1) = false := by rfl) : PE X (.Call (.Name x p) (e :: es) [] pos) (tE (X.K, zz) W (eF g ds)) :=
  PE.imp (pe_callTy hc hg hm hv ha hn hdb he hpl) fun _ _ _ h => intoL h
/-! subscripts -/
theorem se_ix {g : D → D → V1 D} (hr : IxR X (r2 (X.K, zz) g)) (ha : PE X a (tE (X.K, zz) W da)) (hb : PE X b (tE (X.K, zz) W db)) (hs : PlainIx b := by exact fun _ _ => rfl) : PE X (.Subscript a b pos) (tE (X.K, zz) W (eB g da db)) :=
  PE.imp (pe_ix hr ha hb hs) fun _ _ _ h => into2 h
/-! ### room for calls, and no repr under way -/
structure RoomG (k : Nat) (A : Around) : Prop where
  r : L2.Room k A
  gd : A.guards = some []
theorem RoomG.mono {j k : Nat} {A : Around} (r : RoomG k A) (h : j ≤ k) : RoomG j A := ⟨r.r.mono h, r.gd⟩
theorem RoomG.deeper {k : Nat} {A : Around} (r : RoomG (k + 1) A) (env : Env) : RoomG k (A.deeper env) := ⟨r.r.deeper env, r.gd⟩
theorem RoomG.make {k : Nat} {A : Around} (r : RoomG (k + 1) A) (C : Addr) (us : List Value) (kw : List (Str × Value)) : RoomG k (A.under (.builtin "type.__call__" ⟨.ref C :: us, kw⟩)) := by
  refine ⟨r.r.make C us kw, ?_⟩
  have e : (Code.builtin "type.__call__" ⟨.ref C :: us, kw⟩).guards = [] := by
    simp [Code.guards, Code.isGuard, guardIds]
  simp [Around.under, e, r.gd, pushGuards]
theorem RoomG.hd {k : Nat} {A : Around} (r : RoomG k A) : A.handled = none := r.r.hd
theorem RoomG.dp {k : Nat} {A : Around} (r : RoomG k A) : A.depth + 3 * k + 5 < recursionLimit := r.r.dp
theorem RoomG.un {k : Nat} {A : Around} (r : RoomG k A) : A.units + 16 * k + 200 < cLine := r.r.un
theorem RoomG.depth {k : Nat} {A : Around} (r : RoomG k A) : A.depth < recursionLimit := r.r.depth
/-- a def's promise -/
structure FnG (P : Program) (w : World) (K : PySem.W.Frag) (mg : Str → Option Value) (base : Heap) (CX : CXT) (k : Nat) (f : Addr) (fd : FuncData) (ps : List Str) (sp : Sp) : Prop where
  len : ∀ vs H Q E, sp vs H Q E → vs.length = ps.length
  go : ∀ (A : Around) (outer : List Env) (s : Shared) (H : Hp) (args : Args) (us : List Value) (vs : List V) (Q : VK) (E : XK), RoomG k A → Env0 P w K mg base A outer s H → BindsTo s fd args (ps.zip us) → Vals vs us → sp vs H Q E → codeAny (model P w) A (.call (.ref f) args) (CR CX outer P w H s Q E) s
section
variable {P : Program} {w : World} {K : PySem.W.Frag} {mg : Str → Option Value} {base : Heap} {CX : CXT} {j k : Nat} {f : Addr} {fd : FuncData} {ps : List Str} {sp sp' : Sp}
theorem FnG.mono (F : FnG P w K mg base CX j f fd ps sp) (h : j ≤ k) : FnG P w K mg base CX k f fd ps sp := ⟨F.len, fun A outer s H args us vs Q E hr => F.go A outer s H args us vs Q E (hr.mono h)⟩
theorem FnG.imp (F : FnG P w K mg base CX k f fd ps sp) (h : ∀ vs H Q E, sp' vs H Q E → sp vs H Q E) : FnG P w K mg base CX k f fd ps sp' :=
  ⟨fun vs H Q E q => F.len vs H Q E (h _ _ _ _ q), fun A outer s H args us vs Q E r e b v q => F.go A outer s H args us vs Q E r e b v (h _ _ _ _ q)⟩
end
section
variable {X : Cx} {CX : CXT} {k : Nat} {f : Addr} {fd : FuncData} {ps : List Str} {sp : Sp} {E : St → XK} {x : Str} {p pos : Pos} {e : Expr} {es : List Expr} {t : TA}
theorem run_fnG {pins : List (Addr × Obj)} {σ : St} {H : Hp} {s : Shared} {Q : VK} {us : List Value} {vs : List V} (F : FnG X.prog X.w X.K X.mg X.base CX k f fd ps sp) (hr : RoomG k X.A) (hb : Binds X.K fd ps [])
    (hx : PassesAt CX X σ (E σ)) (I : Inv X pins σ H s) (r : Vals vs us) (h : sp vs H Q (E σ)) : wpAny (model X.prog X.w) X.A (call (.ref f) us) (EP X pins σ Q) X.xe s := by
  have n1 : vs.length = ps.length := F.len _ _ _ _ h
  have bb := hb s us I.kIn (by rw [List.append_nil, ← r.length]; exact n1)
  rw [List.append_nil] at bb
  refine wpAny_call (codeAny_mono (F.go X.A X.stack s H ⟨us, []⟩ us vs Q (E σ) hr I.env0 bb r h) fun res s2 z => ?_)
  cases res with
  | error e => exact hx pins H s e s2 I z
  | ok fl => cases fl with
    | ret u => exact I.after z
    | next => exact z.elim
    | brk => exact z.elim
    | cont => exact z.elim
theorem pe_callG (F : FnG X.prog X.w X.K X.mg X.base CX k f fd ps sp) (hr : RoomG k X.A) (hg : Gl X x) (hm : X.mg x = some (.ref f)) (hk : PySem.W.keepIn X.K (.ref f) = true) (hb : Binds X.K fd ps [])
    (hx : ∀ σ, PassesAt CX X σ (E σ)) (ha : PA X (e :: es) t) (hdb : (x == ("__debug__" : Str)) = false) (he : starEach (e :: es) X.env = (false, eval e X.env) :: starEach es X.env) (hpl : (backTo pos (starEach es X.env)).any (·.1) = false) :
    PE X (.Call (.Name x p) (e :: es) [] pos) (tCallS sp E t) := ⟨fun pins s σ H Q I h => wpAny_Call_Name_kw (ld_glob I hg hm (PySem.W.callWith_K (h₀ := X.base) I.ok.mod.kin hk (thn (ha.run pos pins s σ H _ I h) fun us s1 ⟨vs, H1, I1, r, q⟩ => ⟨I1.kIn, run_fnG F hr hb (hx σ) I1 r q⟩) he hpl) hdb)⟩
end
/-! a def called -/
/-- a def's promise -/
def spF (K : PySem.W.Frag) (n : Nat) (F : List D → M D) : Sp := fun vs H Q E => vs.length = n ∧ ∃ zz m ds s, RepL (K, zz) m H ds vs ∧ StR (K, zz) m H s ∧
  match F ds s with
  | .ok d s' => ∀ m' H' v, Ext m H m' H' → StR (K, zz) m' H' s' → Rep (K, zz) m' H' d v → Q v H'
  | .exn x s' => ∀ m' H' c d, Ext m H m' H' → StR (K, zz) m' H' s' → ERep (K, zz) m' H' x c d → E c d H'
  | .stuck => False
theorem spF_of {K : KZ} {n : Nat} {F : List D → M D} {m : List Addr} {H : Hp} {xs : List D} {vs : List V} {s : Sto} {σ : St} {Q : VK} {W : WX} (hl : xs.length = n) (r : RepL K m H xs vs) (S : StR K m H s) (h : Good K W σ (Rep K) m H Q (F xs s)) : spF K.1 n F vs H Q (WE W σ) := by
  obtain ⟨K, zz⟩ := K
  refine ⟨by rw [← r.length]; exact hl, zz, m, xs, s, r, S, ?_⟩
  cases e : F xs s with
  | ok d s' => rw [e] at h; exact h
  | exn x s' => rw [e] at h; exact h
  | stuck => rw [e] at h; exact h
/-- a def that takes n arguments -/
def fnN (n : Nat) (F : List D → M D) : List D → M D := fun xs s => if xs.length = n then F xs s else .stuck
theorem fnN_at {n : Nat} {F : List D → M D} {xs : List D} (h : xs.length = n) : fnN n F xs = F xs := by
  funext s
  unfold fnN
  rw [if_pos h]
theorem intoCall {K : KZ} {n : Nat} {F : List D → M D} {σ : St} {H : Hp} {Q : VK} (h : tE K W (eCall (fnN n F) ds) σ H Q) : tCallS (spF K.1 n F) (WE W) (tA K W ds) σ H Q := by
  obtain ⟨m, ρ, s, hE, hS, hG⟩ := h
  refine ⟨m, ρ, s, hE, hS, (Good.bind hG).mono fun vs H1 ⟨m1, xs, s1, e1, S1, q1, hG1⟩ => ?_⟩
  unfold fnN at hG1
  by_cases hl : xs.length = n
  · rw [if_pos hl] at hG1
    exact spF_of hl q1 S1 hG1
  · rw [if_neg hl] at hG1
    exact hG1.elim
theorem se_call {k f : Nat} {fd : FuncData} {ps : List Str} {n : Nat} {F : List D → M D} {x : Str} {p : Pos} (G : FnG X.prog X.w X.K X.mg X.base (L2.CX X.prog X.w) k f fd ps (spF X.K n F)) (hr : RoomG k X.A) (hm : X.mg x = some (.ref f)) (hk : PySem.W.keepIn X.K (.ref f) = true) (hb : Binds X.K fd ps []) (tk : Takes X W)
    (ha : PA X (e :: es) (tA (X.K, zz) W ds)) (hg : Gl X x := by rfl) (hdb : (x == ("__debug__" : Str)) = false := by decide) (he : starEach (e :: es) X.env = (false, eval e X.env) :: starEach es X.env := by rfl) (hpl : (backTo pos (starEach es X.env)).any (·.1) = false := by rfl) :
    PE X (.Call (.Name x p) (e :: es) [] pos) (tE (X.K, zz) W (eCall (fnN n F) ds)) :=
  PE.imp (pe_callG G hr hg hm hk hb (fun σ => passAt tk σ) ha hdb he hpl) fun _ _ _ h => intoCall h
theorem se_call0 {k f : Nat} {fd : FuncData} {F : List D → M D} {x : Str} {p : Pos} (G : FnG X.prog X.w X.K X.mg X.base (L2.CX X.prog X.w) k f fd [] (spF X.K 0 F)) (hr : RoomG k X.A) (hm : X.mg x = some (.ref f)) (hk : PySem.W.keepIn X.K (.ref f) = true) (hb : Binds X.K fd [] []) (tk : Takes X W)
    (hg : Gl X x := by rfl) (hdb : (x == ("__debug__" : Str)) = false := by decide) :
    PE X (.Call (.Name x p) [] [] pos) (tE (X.K, zz) W (eCall (fnN 0 F) aNil)) := by
  refine ⟨fun pins s σ H Q I h => ?_⟩
  refine wpAny_Call_Name_kw (ld_glob I hg hm ?_ hdb)
  refine PySem.W.callWith_K0 I.kIn hk (run_fnG (us := []) (vs := []) (E := WE W) G hr hb (passAt tk σ) I .nil ?_)
  obtain ⟨m, ρ, st, hE, hS, hG⟩ := h
  exact spF_of rfl .nil hS hG
end
end QS
end

section
set_option Elab.async false
set_option linter.all false
set_option maxRecDepth 100000
set_option maxHeartbeats 4000000
/-! QS2: operations by values. -/
namespace QS
open PySem PySem.Spec PyProof.Rows L2
def orV2 (g h : D → D → V1 D) : D → D → V1 D := fun x y s => match g x y s with
  | some r => some r
  | none => h x y s
def orVL (g h : List D → V1 D) : List D → V1 D := fun xs s => match g xs s with
  | some r => some r
  | none => h xs s
theorem r2_or {K : KZ} {g h : D → D → V1 D} {x y : V} {H : Hp} {Q : VK} (q : r2 K (orV2 g h) x y H Q) : r2 K g x y H Q ∨ r2 K h x y H Q := by
  obtain ⟨m, d, e, s, S, hd, he, hG⟩ := q
  unfold orV2 at hG
  cases hg : g d e s with
  | some r =>
    rw [hg] at hG
    exact .inl ⟨m, d, e, s, S, hd, he, by rw [hg]; exact hG⟩
  | none =>
    rw [hg] at hG
    exact .inr ⟨m, d, e, s, S, hd, he, hG⟩
theorem OpR.orV {zz : List Addr} {X : Cx} {f : Value → Value → Sem Value} {g h : D → D → V1 D} (a : OpR X f (r2 (X.K, zz) g)) (b : OpR X f (r2 (X.K, zz) h)) : OpR X f (r2 (X.K, zz) (orV2 g h)) := fun pins s σ H x y v u Q I rx ry q =>
  (r2_or q).elim (a pins s σ H x y v u Q I rx ry) (b pins s σ H x y v u Q I rx ry)
theorem IxR.orV {zz : List Addr} {X : Cx} {g h : D → D → V1 D} (a : IxR X (r2 (X.K, zz) g)) (b : IxR X (r2 (X.K, zz) h)) : IxR X (r2 (X.K, zz) (orV2 g h)) := by
  intro value slice pins s σ H x y v u Q I rx ry q hs
  exact (r2_or q).elim (fun z => a value slice pins s σ H x y v u Q I rx ry z hs) (fun z => b value slice pins s σ H x y v u Q I rx ry z hs)
theorem CallR.orV {zz : List Addr} {X : Cx} {f : Value} {g h : List D → V1 D} (a : CallR X f (rL (X.K, zz) g)) (b : CallR X f (rL (X.K, zz) h)) : CallR X f (rL (X.K, zz) (orVL g h)) := by
  intro pins s σ H xs us Q I r ⟨m, ds, st, S, hd, hG⟩
  unfold orVL at hG
  cases hg : g ds st with
  | some z =>
    rw [hg] at hG
    exact a pins s σ H xs us Q I r ⟨m, ds, st, S, hd, by rw [hg]; exact hG⟩
  | none =>
    rw [hg] at hG
    exact b pins s σ H xs us Q I r ⟨m, ds, st, S, hd, hG⟩

/-! ### lists and tuples in the heap -/
/-- a list, wherever it lies -/
def lstOf (s : Sto) : D → Option (List D)
  | .lst l => some l
  | .scr l => some l
  | .loc n => match s[n]? with
    | some (.lst l) => some l
    | _ => none
  | _ => none
/-- .. but the script -/
def lst2 (s : Sto) : D → Option (List D)
  | .lst l => some l
  | .loc n => match s[n]? with
    | some (.lst l) => some l
    | _ => none
  | _ => none
/-- a list or a tuple -/
def seqOf (s : Sto) : D → Option (List D)
  | .tup l => some l
  | .lst l => some l
  | .scr l => some l
  | .loc n => match s[n]? with
    | some (.lst l) => some l
    | _ => none
  | _ => none
section
variable {K : KZ} {m : List Addr} {H : Hp} {s : Sto} {d : D} {v : V} {ds : List D} {vs : List V} {Q : VK}
theorem locL {n : Nat} (h : (match s[n]? with
    | some (.lst l) => some l
    | _ => none) = some ds) : s[n]? = some (.lst ds) := by
  cases e : s[n]? with
  | none => rw [e] at h; cases h
  | some o =>
    rw [e] at h
    cases o with
    | lst l => cases h; rfl
    | _ => cases h
theorem lst2_at (S : StR K m H s) (r : Rep K m H d v) (h : lst2 s d = some ds) : ∃ a vs, v = .ref a ∧ H a = some (.lst vs) ∧ RepL K m H ds vs := by
  cases r with
  | lst n e q => cases h; exact ⟨_, _, rfl, e, q⟩
  | @loc n a e =>
    have hl : s[n]? = some (.lst ds) := locL h
    · obtain ⟨vs, e1, q⟩ := S.obj n a _ e hl
      exact ⟨a, vs, rfl, e1, q⟩
  | _ => cases h
theorem lstOf_at (S : StR K m H s) (r : Rep K m H d v) (h : lstOf s d = some ds) : ∃ a vs, v = .ref a ∧ SqL K.1 H a vs ∧ RepL K m H ds vs := by
  cases r with
  | lst n e q => cases h; exact ⟨_, _, rfl, .inl (.inl e), q⟩
  | scr e q => cases h; exact ⟨_, _, rfl, e.l, q⟩
  | @loc n a e =>
    have hl : s[n]? = some (.lst ds) := locL h
    · obtain ⟨vs, e1, q⟩ := S.obj n a _ e hl
      exact ⟨a, vs, rfl, .inl (.inl e1), q⟩
  | _ => cases h
theorem seqOf_at (S : StR K m H s) (r : Rep K m H d v) (h : seqOf s d = some ds) : ∃ a vs, v = .ref a ∧ (SqL K.1 H a vs ∨ SqT K.1 H a vs) ∧ RepL K m H ds vs := by
  cases r with
  | tup e q => cases h; exact ⟨_, _, rfl, .inr e, q⟩
  | lst n e q => cases h; exact ⟨_, _, rfl, .inl (.inl (.inl e)), q⟩
  | scr e q => cases h; exact ⟨_, _, rfl, .inl e.l, q⟩
  | @loc n a e =>
    have hl : s[n]? = some (.lst ds) := locL h
    · obtain ⟨vs, e1, q⟩ := S.obj n a _ e hl
      exact ⟨a, vs, rfl, .inl (.inl (.inl e1)), q⟩
  | _ => cases h
theorem tup_at (r : Rep K m H (.tup ds) v) : ∃ a vs, v = .ref a ∧ SqT K.1 H a vs ∧ RepL K m H ds vs := by
  cases r with
  | tup e q => exact ⟨_, _, rfl, e, q⟩
/-- a new list: of the store (mu), or that stays -/
def new (mu : Bool) (l : List D) : V1 D := fun s => if mu = true then some (.loc s.length, s ++ [.lst l]) else some (.lst l, s)
theorem fresh_notin (S : StR K m H s) {p : Addr} (hp : H p = none) : Nin K m p := by
  refine ⟨fun z => ?_, fun z => by obtain ⟨u, q, _⟩ := (S.hid p z).1; rw [hp] at q; cases q⟩
  obtain ⟨u, q, _⟩ := S.noTup p z
  rw [hp] at q; cases q
theorem RepL.upd (S : StR K m H s) (r : RepL K m H ds vs) {p : Addr} {o : HO} (hp : H p = none) : RepL K m (upd H p o) ds vs := RepL.ext S.noTup (Ext.same (same_upd hp)) r
theorem new_ok {mu : Bool} (S : StR K m H s) (r : RepL K m H ds vs) (h : GoodV K m H Q (new mu ds s)) (p : Addr) (hp : H p = none) : Q (.ref p) (L2.upd H p (.lst vs)) := by
  cases mu with
  | false =>
    have h : GoodV K m H Q (some (.lst ds, s)) := h
    exact h m _ _ (Ext.same (same_upd hp)) (S.same (same_upd hp)) (.lst (fresh_notin S hp) upd_same (RepL.upd S r hp))
  | true =>
    have h : GoodV K m H Q (some (.loc s.length, s ++ [.lst ds])) := h
    refine h (m ++ [p]) _ _ (Ext.new hp) (S.new hp ⟨vs, upd_same, RepL.ext S.noTup (Ext.new hp) r⟩) (.loc ?_)
    rw [← S.len]
    simp
theorem newT_ok (S : StR K m H s) (r : RepL K m H ds vs) (h : GoodV K m H Q (some (.tup ds, s))) (p : Addr) (hp : H p = none) : Q (.ref p) (L2.upd H p (.tup vs)) :=
  h m _ _ (Ext.same (same_upd hp)) (S.same (same_upd hp)) (.tup (.inl (.inl upd_same)) (RepL.upd S r hp))
theorem GoodV.here {d : D} (S : StR K m H s) (h : GoodV K m H Q (some (d, s))) (r : Rep K m H d v) : Q v H := h m H v Ext.refl S r
end

/-! ### numbers -/
def gI2 (C : Int → Int → Prop) [∀ i j, Decidable (C i j)] (f : Int → Int → D) : D → D → V1 D := fun x y s => match x, y with
  | .int i, .int j => if C i j then some (f i j, s) else none
  | _, _ => none
theorem gI2_at {C : Int → Int → Prop} [∀ i j, Decidable (C i j)] {f : Int → Int → D} {K : KZ} {x y : V} {H : Hp} {Q : VK} (h : r2 K (gI2 C f) x y H Q) :
    ∃ i j, x = .int i ∧ y = .int j ∧ C i j ∧ ∀ v, (∀ m, Rep K m H (f i j) v) → Q v H := by
  obtain ⟨m, d, e, s, S, hd, he, hG⟩ := h
  cases hd with
  | int i =>
    cases he with
    | int j =>
      have hG : GoodV K m H Q (if C i j then some (f i j, s) else none) := hG
      by_cases c : C i j
      · rw [if_pos c] at hG
        exact ⟨i, j, rfl, rfl, c, fun v r => hG.here S (r m)⟩
      · rw [if_neg c] at hG
        exact hG.elim
    | _ => exact hG.elim
  | _ => exact hG.elim
def gAddI : D → D → V1 D := gI2 (fun _ _ => True) fun i j => .int (i + j)
def gSub : D → D → V1 D := gI2 (fun _ _ => True) fun i j => .int (i - j)
/-- below a million bits together -/
def MulOk (i j : Int) : Prop := CMul i j ∨ CMulW i j
instance (i j : Int) : Decidable (MulOk i j) := by unfold MulOk CMul CMulW; infer_instance
def gMulI : D → D → V1 D := gI2 MulOk fun i j => .int (i * j)
def DivOk (i j : Int) : Prop := 0 < j ∧ j.natAbs.log2 < 9000
instance (i j : Int) : Decidable (DivOk i j) := by unfold DivOk; infer_instance
def gDiv : D → D → V1 D := gI2 DivOk fun i j => .int (i / j)
def gMod : D → D → V1 D := gI2 (fun _ j => 0 < j) fun i j => .int (i % j)
def PowOk (i j : Int) : Prop := CPow i j
instance (i j : Int) : Decidable (PowOk i j) := by unfold PowOk CPow; infer_instance
def gPow : D → D → V1 D := gI2 PowOk fun i j => .int (i ^ j.toNat)
def gLt : D → D → V1 D := gI2 (fun _ _ => True) fun i j => .bl (decide (i < j))
def gLe : D → D → V1 D := gI2 (fun _ _ => True) fun i j => .bl (decide (i ≤ j))
def gGt : D → D → V1 D := gI2 (fun _ _ => True) fun i j => .bl (decide (j < i))
def gGe : D → D → V1 D := gI2 (fun _ _ => True) fun i j => .bl (decide (j ≤ i))
def gNeg : D → V1 D := fun x s => match x with
  | .int i => some (.int (-i), s)
  | _ => none
section
variable {zz : List Addr} {X : Cx}
theorem o_addI : OpR X (binaryOp .Add) (r2 (X.K, zz) gAddI) := fun pins s σ H x y v u Q I rx ry h => by
  obtain ⟨i, j, ex, ey, _, q⟩ := gI2_at h
  exact op_add pins s σ H x y v u Q I rx ry ⟨i, j, ex, ey, q _ fun _ => .int _⟩
theorem o_addII : OpR X (inplaceOp .Add) (r2 (X.K, zz) gAddI) := fun pins s σ H x y v u Q I rx ry h => by
  obtain ⟨i, j, ex, ey, _, q⟩ := gI2_at h
  exact iop_add pins s σ H x y v u Q I rx ry ⟨i, j, ex, ey, q _ fun _ => .int _⟩
theorem o_sub : OpR X (binaryOp .Sub) (r2 (X.K, zz) gSub) := fun pins s σ H x y v u Q I rx ry h => by
  obtain ⟨i, j, ex, ey, _, q⟩ := gI2_at h
  exact op_sub pins s σ H x y v u Q I rx ry ⟨i, j, ex, ey, q _ fun _ => .int _⟩
theorem o_mulI : OpR X (binaryOp .Mult) (r2 (X.K, zz) gMulI) := fun pins s σ H x y v u Q I rx ry h => by
  obtain ⟨i, j, ex, ey, c, q⟩ := gI2_at h
  rcases c with c | c
  · exact op_mul pins s σ H x y v u Q I rx ry ⟨i, j, ex, ey, c, q _ fun _ => .int _⟩
  · exact op_mulW pins s σ H x y v u Q I rx ry ⟨i, j, ex, ey, c, q _ fun _ => .int _⟩
theorem o_div : OpR X (binaryOp .FloorDiv) (r2 (X.K, zz) gDiv) := fun pins s σ H x y v u Q I rx ry h => by
  obtain ⟨i, j, ex, ey, c, q⟩ := gI2_at h
  exact op_fdivW pins s σ H x y v u Q I rx ry ⟨i, j, ex, ey, c, q _ fun _ => .int _⟩
theorem o_mod : OpR X (binaryOp .Mod) (r2 (X.K, zz) gMod) := fun pins s σ H x y v u Q I rx ry h => by
  obtain ⟨i, j, ex, ey, c, q⟩ := gI2_at h
  exact op_mod pins s σ H x y v u Q I rx ry ⟨i, j, ex, ey, c, q _ fun _ => .int _⟩
theorem o_pow : OpR X (binaryOp .Pow) (r2 (X.K, zz) gPow) := fun pins s σ H x y v u Q I rx ry h => by
  obtain ⟨i, j, ex, ey, c, q⟩ := gI2_at h
  exact op_pow pins s σ H x y v u Q I rx ry ⟨i, j, ex, ey, c, q _ fun _ => .int _⟩
theorem o_ltI : OpR X (compareOp .Lt) (r2 (X.K, zz) gLt) := fun pins s σ H x y v u Q I rx ry h => by
  obtain ⟨i, j, ex, ey, _, q⟩ := gI2_at h
  exact op_lt pins s σ H x y v u Q I rx ry ⟨i, j, ex, ey, q _ fun _ => .bl _⟩
theorem o_le : OpR X (compareOp .LtE) (r2 (X.K, zz) gLe) := fun pins s σ H x y v u Q I rx ry h => by
  obtain ⟨i, j, ex, ey, _, q⟩ := gI2_at h
  exact op_le pins s σ H x y v u Q I rx ry ⟨i, j, ex, ey, q _ fun _ => .bl _⟩
theorem o_gt : OpR X (compareOp .Gt) (r2 (X.K, zz) gGt) := fun pins s σ H x y v u Q I rx ry h => by
  obtain ⟨i, j, ex, ey, _, q⟩ := gI2_at h
  exact op_gt pins s σ H x y v u Q I rx ry ⟨i, j, ex, ey, q _ fun _ => .bl _⟩
theorem o_ge : OpR X (compareOp .GtE) (r2 (X.K, zz) gGe) := fun pins s σ H x y v u Q I rx ry h => by
  obtain ⟨i, j, ex, ey, _, q⟩ := gI2_at h
  exact op_ge pins s σ H x y v u Q I rx ry ⟨i, j, ex, ey, q _ fun _ => .bl _⟩
theorem o_neg : UnR X (unaryOp .USub) (r1 (X.K, zz) gNeg) := fun pins s σ H x v Q I rx h => by
  obtain ⟨m, d, st, S, hd, hG⟩ := h
  cases hd with
  | int i => exact un_neg pins s σ H _ v Q I rx ⟨i, rfl, GoodV.here S hG (.int _)⟩
  | _ => exact hG.elim

/-! ### +, * of texts, lists, tuples -/
def gAddS : D → D → V1 D := fun x y s => match x, y with
  | .str a, .str b => if a.length + b.length ≤ sizeLine then some (.str (a ++ b), s) else none
  | _, _ => none
def gAddT : D → D → V1 D := fun x y s => match x, y with
  | .tup a, .tup b => if a.length + b.length ≤ sizeLine then some (.tup (a ++ b), s) else none
  | _, _ => none
def gAddL (mu : Bool) : D → D → V1 D := fun x y s => match lst2 s x, lst2 s y with
  | some a, some b => if a.length + b.length ≤ sizeLine then new mu (a ++ b) s else none
  | _, _ => none
def gAdd (mu : Bool) : D → D → V1 D := orV2 gAddI (orV2 gAddS (orV2 gAddT (gAddL mu)))
theorem o_addS : OpR X (binaryOp .Add) (r2 (X.K, zz) gAddS) := fun pins s σ H x y v u Q I rx ry h => by
  obtain ⟨m, d, e, st, S, hd, he, hG⟩ := h
  cases hd with
  | str a =>
    cases he with
    | str b =>
      have hG : GoodV (X.K, zz) m H Q (if a.length + b.length ≤ sizeLine then some (.str (a ++ b), st) else none) := hG
      by_cases c : a.length + b.length ≤ sizeLine
      · rw [if_pos c] at hG
        exact op_add_str pins s σ H _ _ v u Q I rx ry ⟨a, b, rfl, rfl, c, hG.here S (.str _)⟩
      · rw [if_neg c] at hG
        exact hG.elim
    | _ => exact hG.elim
  | _ => exact hG.elim
theorem o_addT : OpR X (binaryOp .Add) (r2 (X.K, zz) gAddT) := fun pins s σ H x y v u Q I rx ry h => by
  obtain ⟨m, d, e, st, S, hd, he, hG⟩ := h
  cases hd with
  | @tup a as vs h1 q1 =>
    cases he with
    | @tup b bs us h2 q2 =>
      have hG : GoodV (X.K, zz) m H Q (if as.length + bs.length ≤ sizeLine then some (.tup (as ++ bs), st) else none) := hG
      by_cases c : as.length + bs.length ≤ sizeLine
      · rw [if_pos c] at hG
        refine op_catA pins s σ H _ _ v u Q I rx ry ⟨a, b, vs, us, rfl, rfl, h1, h2, by rw [← q1.length, ← q2.length]; exact c, fun z => ?_, fun _ z => ?_, fun _ _ => newT_ok S (q1.append q2) hG⟩
        · rw [q1.nil_iff.mpr z, List.nil_append] at hG
          exact hG.here S (.tup h2 q2)
        · rw [q2.nil_iff.mpr z, List.append_nil] at hG
          exact hG.here S (.tup h1 q1)
      · rw [if_neg c] at hG
        exact hG.elim
    | _ => exact hG.elim
  | _ => exact hG.elim
theorem o_addL {mu : Bool} : OpR X (binaryOp .Add) (r2 (X.K, zz) (gAddL mu)) := fun pins s σ H x y v u Q I rx ry h => by
  obtain ⟨m, d, e, st, S, hd, he, hG⟩ := h
  unfold gAddL at hG
  cases h1 : lst2 st d with
  | none => rw [h1] at hG; exact hG.elim
  | some a =>
    cases h2 : lst2 st e with
    | none => rw [h1, h2] at hG; exact hG.elim
    | some b =>
      rw [h1, h2] at hG
      have hG : GoodV (X.K, zz) m H Q (if a.length + b.length ≤ sizeLine then new mu (a ++ b) st else none) := hG
      by_cases c : a.length + b.length ≤ sizeLine
      · rw [if_pos c] at hG
        obtain ⟨l, vs, rfl, e1, q1⟩ := lst2_at S hd h1
        obtain ⟨l', us, rfl, e2, q2⟩ := lst2_at S he h2
        exact op_cat pins s σ H _ _ v u Q I rx ry ⟨l, l', vs, us, rfl, rfl, e1, e2, by rw [← q1.length, ← q2.length]; exact c, fun p hp => new_ok S (q1.append q2) hG p hp⟩
      · rw [if_neg c] at hG
        exact hG.elim
theorem o_add {mu : Bool} : OpR X (binaryOp .Add) (r2 (X.K, zz) (gAdd mu)) := OpR.orV o_addI (OpR.orV o_addS (OpR.orV o_addT o_addL))
/-- list * int -/
def gRepL (mu : Bool) : D → D → V1 D := fun x y s => match lst2 s x, y with
  | some a, .int k => if k < 2 ^ 30 ∧ -(2 ^ 30) < k ∧ a.length * k.toNat ≤ sizeLine then new mu (List.replicate k.toNat a).flatten s else none
  | _, _ => none
theorem o_repL {mu : Bool} : OpR X (binaryOp .Mult) (r2 (X.K, zz) (gRepL mu)) := fun pins s σ H x y v u Q I rx ry h => by
  obtain ⟨m, d, e, st, S, hd, he, hG⟩ := h
  unfold gRepL at hG
  cases h1 : lst2 st d with
  | none => rw [h1] at hG; exact hG.elim
  | some a =>
    rw [h1] at hG
    cases he with
    | int k =>
      have hG : GoodV (X.K, zz) m H Q (if k < 2 ^ 30 ∧ -(2 ^ 30) < k ∧ a.length * k.toNat ≤ sizeLine then new mu (List.replicate k.toNat a).flatten st else none) := hG
      by_cases c : k < 2 ^ 30 ∧ -(2 ^ 30) < k ∧ a.length * k.toNat ≤ sizeLine
      · rw [if_pos c] at hG
        obtain ⟨l, vs, rfl, e1, q1⟩ := lst2_at S hd h1
        exact op_rep pins s σ H _ _ v u Q I rx ry ⟨l, k, vs, rfl, rfl, e1, by omega, by omega, by rw [← q1.length]; exact c.2.2, fun p hp => new_ok S (q1.flatten_rep _) hG p hp⟩
      · rw [if_neg c] at hG
        exact hG.elim
    | _ => exact hG.elim
/-- tuple * int -/
def gRepT : D → D → V1 D := fun x y s => match x, y with
  | .tup a, .int k => if a ≠ [] ∧ 2 ≤ k ∧ k ≤ 1000 ∧ a.length ≤ 1000 then some (.tup (List.replicate k.toNat a).flatten, s) else none
  | _, _ => none
theorem o_repT : OpR X (binaryOp .Mult) (r2 (X.K, zz) gRepT) := fun pins s σ H x y v u Q I rx ry h => by
  obtain ⟨m, d, e, st, S, hd, he, hG⟩ := h
  cases hd with
  | @tup a as vs h1 q1 =>
    cases he with
    | int k =>
      have hG : GoodV (X.K, zz) m H Q (if as ≠ [] ∧ 2 ≤ k ∧ k ≤ 1000 ∧ as.length ≤ 1000 then some (.tup (List.replicate k.toNat as).flatten, st) else none) := hG
      by_cases c : as ≠ [] ∧ 2 ≤ k ∧ k ≤ 1000 ∧ as.length ≤ 1000
      · rw [if_pos c] at hG
        exact op_repT pins s σ H _ _ v u Q I rx ry ⟨a, k, vs, rfl, rfl, h1, fun z => c.1 (q1.nil_iff.mpr z), c.2.1, c.2.2.1, by rw [← q1.length]; exact c.2.2.2, fun p hp => newT_ok S (q1.flatten_rep _) hG p hp⟩
      · rw [if_neg c] at hG
        exact hG.elim
    | _ => exact hG.elim
  | _ => exact hG.elim
def gMul (mu : Bool) : D → D → V1 D := orV2 gMulI (orV2 (gRepL mu) gRepT)
theorem o_mul {mu : Bool} : OpR X (binaryOp .Mult) (r2 (X.K, zz) (gMul mu)) := OpR.orV o_mulI (OpR.orV o_repL o_repT)
/-! ### subscripts -/
def gIxL : D → D → V1 D := fun x y s => match lstOf s x, y with
  | some a, .int i => (atI a i).map fun d => (d, s)
  | _, _ => none
def gIxT : D → D → V1 D := fun x y s => match x, y with
  | .tup a, .int i => (atI a i).map fun d => (d, s)
  | _, _ => none
def gIxS : D → D → V1 D := fun x y s => match x, y with
  | .str z, .int i => if z.length ≤ sizeLine then (atI z.cps.toList i).map fun c => (.str ⟨#[c]⟩, s) else none
  | _, _ => none
def gIx : D → D → V1 D := orV2 gIxL (orV2 gIxT gIxS)
theorem atI_rep {K : KZ} {m : List Addr} {H : Hp} {ds : List D} {vs : List V} {i : Int} {d : D} (r : RepL K m H ds vs) (h : atI ds i = some d) : ∃ v, atI vs i = some v ∧ Rep K m H d v := by
  unfold atI at h ⊢
  rw [← r.length]
  cases e : ixN ds.length i with
  | none => rw [e] at h; cases h
  | some j =>
    rw [e] at h
    exact r.get h
theorem i_list : IxR X (r2 (X.K, zz) gIxL) := fun value slice pins s σ H x y v u Q I rx ry h hs => by
  obtain ⟨m, d, e, st, S, hd, he, hG⟩ := h
  unfold gIxL at hG
  cases h1 : lstOf st d with
  | none => rw [h1] at hG; exact hG.elim
  | some a =>
    rw [h1] at hG
    cases he with
    | int i =>
      have hG : GoodV (X.K, zz) m H Q ((atI a i).map fun d => (d, st)) := hG
      cases h2 : atI a i with
      | none => rw [h2] at hG; exact hG.elim
      | some d' =>
        rw [h2] at hG
        obtain ⟨l, vs, rfl, e1, q1⟩ := lstOf_at S hd h1
        obtain ⟨w, hw, rw'⟩ := atI_rep q1 h2
        exact ix_list value slice pins s σ H _ _ v u Q I rx ry ⟨l, vs, i, w, rfl, rfl, e1, hw, GoodV.here S hG rw'⟩ hs
    | _ => exact hG.elim
theorem i_tup : IxR X (r2 (X.K, zz) gIxT) := fun value slice pins s σ H x y v u Q I rx ry h hs => by
  obtain ⟨m, d, e, st, S, hd, he, hG⟩ := h
  cases hd with
  | @tup a as vs h1 q1 =>
    cases he with
    | int i =>
      have hG : GoodV (X.K, zz) m H Q ((atI as i).map fun d => (d, st)) := hG
      cases h2 : atI as i with
      | none => rw [h2] at hG; exact hG.elim
      | some d' =>
        rw [h2] at hG
        obtain ⟨w, hw, rw'⟩ := atI_rep q1 h2
        exact ix_tup value slice pins s σ H _ _ v u Q I rx ry ⟨a, vs, i, w, rfl, rfl, h1, hw, GoodV.here S hG rw'⟩ hs
    | _ => exact hG.elim
  | _ => exact hG.elim
theorem i_str : IxR X (r2 (X.K, zz) gIxS) := fun value slice pins s σ H x y v u Q I rx ry h hs => by
  obtain ⟨m, d, e, st, S, hd, he, hG⟩ := h
  cases hd with
  | str z =>
    cases he with
    | int i =>
      have hG : GoodV (X.K, zz) m H Q (if z.length ≤ sizeLine then (atI z.cps.toList i).map fun c => (.str ⟨#[c]⟩, st) else none) := hG
      by_cases hz : z.length ≤ sizeLine
      · rw [if_pos hz] at hG
        cases h2 : atI z.cps.toList i with
        | none => rw [h2] at hG; exact hG.elim
        | some c =>
          rw [h2] at hG
          exact ix_str value slice pins s σ H _ _ v u Q I rx ry ⟨z, i, c, rfl, rfl, hz, h2, GoodV.here S hG (.str _)⟩ hs
      · rw [if_neg hz] at hG
        exact hG.elim
    | _ => exact hG.elim
  | _ => exact hG.elim
theorem i_seq : IxR X (r2 (X.K, zz) gIx) := IxR.orV i_list (IxR.orV i_tup i_str)
end
end QS
end

section
set_option Elab.async false
set_option linter.all false
set_option maxRecDepth 100000
set_option maxHeartbeats 4000000
/-! QS3: built-ins by values; equality. -/
namespace QS
open PySem PySem.Spec PyProof.Rows L2
def intsOf : List D → Option (List Int)
  | [] => some []
  | .int i :: r => (intsOf r).map (i :: ·)
  | _ :: _ => none
def blsOf : List D → Option (List Bool)
  | [] => some []
  | .bl i :: r => (blsOf r).map (i :: ·)
  | _ :: _ => none
def strsOf : List D → Option (List Str)
  | [] => some []
  | .str i :: r => (strsOf r).map (i :: ·)
  | _ :: _ => none
@[simp] theorem intsOf_map : ∀ ns : List Int, intsOf (ns.map D.int) = some ns
  | [] => rfl
  | i :: r => by rw [List.map_cons, intsOf, intsOf_map r]; rfl
@[simp] theorem blsOf_map : ∀ ns : List Bool, blsOf (ns.map D.bl) = some ns
  | [] => rfl
  | i :: r => by rw [List.map_cons, blsOf, blsOf_map r]; rfl
@[simp] theorem strsOf_map : ∀ ns : List Str, strsOf (ns.map D.str) = some ns
  | [] => rfl
  | i :: r => by rw [List.map_cons, strsOf, strsOf_map r]; rfl
section
variable {K : KZ} {m : List Addr} {H : Hp}
theorem ints_rep : ∀ {ds : List D} {vs : List V} {ns : List Int}, RepL K m H ds vs → intsOf ds = some ns → vs = ns.map V.int
  | _, _, _, .nil, h => by cases h; rfl
  | d :: _, _, ns, .cons hd r, h => by
    cases hd with
    | int i =>
      rw [intsOf] at h
      obtain ⟨t, h1, h2⟩ := Option.map_eq_some_iff.mp h
      rw [← h2, List.map_cons, ints_rep r h1]
    | _ => cases h
theorem bls_rep : ∀ {ds : List D} {vs : List V} {ns : List Bool}, RepL K m H ds vs → blsOf ds = some ns → vs = ns.map V.bl
  | _, _, _, .nil, h => by cases h; rfl
  | d :: _, _, ns, .cons hd r, h => by
    cases hd with
    | bl i =>
      rw [blsOf] at h
      obtain ⟨t, h1, h2⟩ := Option.map_eq_some_iff.mp h
      rw [← h2, List.map_cons, bls_rep r h1]
    | _ => cases h
theorem strs_rep : ∀ {ds : List D} {vs : List V} {ns : List Str}, RepL K m H ds vs → strsOf ds = some ns → vs = ns.map V.str
  | _, _, _, .nil, h => by cases h; rfl
  | d :: _, _, ns, .cons hd r, h => by
    cases hd with
    | str i =>
      rw [strsOf] at h
      obtain ⟨t, h1, h2⟩ := Option.map_eq_some_iff.mp h
      rw [← h2, List.map_cons, strs_rep r h1]
    | _ => cases h
theorem rep_ints (ns : List Int) : RepL K m H (ns.map D.int) (ns.map V.int) := by
  induction ns with
  | nil => exact .nil
  | cons i r ih => exact .cons (.int i) ih
theorem rep_strs (ns : List Str) : RepL K m H (ns.map D.str) (ns.map V.str) := by
  induction ns with
  | nil => exact .nil
  | cons i r ih => exact .cons (.str i) ih
theorem seqOf_len {s : Sto} {d : D} {v : V} {ds : List D} (S : StR K m H s) (r : Rep K m H d v) (h : seqOf s d = some ds) : LenV K.1 v H ds.length := by
  obtain ⟨a, vs, rfl, e, q⟩ := seqOf_at S r h
  rcases e with e | e
  · exact .inl ⟨vs, e, q.length⟩
  · exact .inr ⟨vs, e, q.length⟩
end
/-! len, abs, int, bool, str, min, max, sum, any, all -/
def g1 (f : Sto → D → Option D) : List D → V1 D := fun xs s => match xs with
  | [x] => (f s x).map fun d => (d, s)
  | _ => none
def gLenS : List D → V1 D := g1 fun s x => match x with
  | .str z => if z.length ≤ sizeLine then some (.int z.length) else none
  | x => (seqOf s x).map fun l => .int l.length
def dicOf (s : Sto) : D → Option (List Key × List D)
  | .dic ks vs => some (ks, vs)
  | .loc n => match s[n]? with
    | some (.dic ks vs) => some (ks, vs)
    | _ => none
  | _ => none
def gLenD : List D → V1 D := g1 fun s x => (dicOf s x).map fun l => .int l.1.length
def gLen : List D → V1 D := orVL gLenS gLenD
section
variable {zz : List Addr} {X : Cx}
theorem g1_at {f : Sto → D → Option D} {vs : List V} {H : Hp} {Q : VK} (h : rL (X.K, zz) (g1 f) vs H Q) : ∃ m d e s v, vs = [v] ∧ StR (X.K, zz) m H s ∧ Rep (X.K, zz) m H d v ∧ f s d = some e ∧ ∀ w, Rep (X.K, zz) m H e w → Q w H := by
  obtain ⟨m, ds, s, S, r, hG⟩ := h
  unfold g1 at hG
  cases r with
  | nil => exact hG.elim
  | cons hd r =>
    cases r with
    | nil =>
      rename_i d v
      have hG : GoodV (X.K, zz) m H Q ((f s d).map fun d => (d, s)) := hG
      cases e : f s d with
      | none => rw [e] at hG; exact hG.elim
      | some e' =>
        rw [e] at hG
        exact ⟨m, d, e', s, v, rfl, S, hd, e, fun w rw' => GoodV.here S hG rw'⟩
    | cons _ _ => exact hG.elim
theorem c_lenS : CallR X (.builtin "len") (rL (X.K, zz) gLenS) := by
  intro pins s σ H xs us Q I r h
  obtain ⟨m, d, e, st, v, rfl, S, hd, he, q⟩ := g1_at h
  have seq : ∀ l, seqOf st d = some l → e = .int l.length → wpAny (model X.prog X.w) X.A (call (.builtin "len") us) (EP X pins σ Q) X.xe s := fun l hl z => by
    subst z
    exact call_len pins s σ H _ us Q I r ⟨v, l.length, rfl, seqOf_len S hd hl, q _ (.int _)⟩
  have gen : (∀ z, d ≠ .str z) → wpAny (model X.prog X.w) X.A (call (.builtin "len") us) (EP X pins σ Q) X.xe s := fun hn => by
    have he' : ((seqOf st d).map fun l => D.int l.length) = some e := by
      cases d with
      | str z => exact absurd rfl (hn z)
      | _ => exact he
    obtain ⟨l, h1, h2⟩ := Option.map_eq_some_iff.mp he'
    exact seq l h1 h2.symm
  cases d with
  | str z =>
    cases hd
    have he : (if z.length ≤ sizeLine then some (D.int z.length) else none) = some e := he
    by_cases c : z.length ≤ sizeLine
    · rw [if_pos c] at he
      cases he
      exact call_len pins s σ H _ us Q I r ⟨.str z, z.length, rfl, ⟨c, rfl⟩, q _ (.int _)⟩
    · rw [if_neg c] at he; cases he
  | _ => exact gen fun z h => nomatch h
theorem dicOf_at {K : KZ} {m : List Addr} {H : Hp} {s : Sto} {d : D} {v : V} {ks : List Key} {ds : List D} (S : StR K m H s) (r : Rep K m H d v) (h : dicOf s d = some (ks, ds)) : ∃ a vs, v = .ref a ∧ ks.length = vs.length ∧ Rd H a (.dK (ks.zip vs)) ∧ RepL K m H ds vs := by
  cases r with
  | dic n l e q => cases h; exact ⟨_, _, rfl, l, e, q⟩
  | @loc n a e =>
    have h : (match s[n]? with
      | some (.dic ks vs) => some (ks, vs)
      | _ => none) = some (ks, ds) := h
    cases z : s[n]? with
    | none => rw [z] at h; cases h
    | some o =>
      rw [z] at h
      cases o with
      | dic ks' ds' =>
        cases h
        obtain ⟨vs, l, e1, q⟩ := S.obj n a _ e z
        exact ⟨a, vs, rfl, l, .inl e1, q⟩
      | _ => cases h
  | _ => cases h
theorem c_lenD : CallR X (.builtin "len") (rL (X.K, zz) gLenD) := by
  intro pins s σ H xs us Q I r h
  obtain ⟨m, d, e, st, v, rfl, S, hd, he, q⟩ := g1_at h
  obtain ⟨⟨ks, ds⟩, h1, h2⟩ := Option.map_eq_some_iff.mp he
  obtain ⟨a, vs, rfl, l, e1, q1⟩ := dicOf_at S hd h1
  subst h2
  obtain ⟨u, rfl, ru⟩ := vals1 r
  cases ru
  refine d_len I e1 fun t s' I' => ⟨.int (ks.zip vs).length, H, I', ⟨t, rfl⟩, ?_⟩
  rw [List.length_zip, ← l, Nat.min_self]
  exact q _ (.int _)
theorem c_len : CallR X (.builtin "len") (rL (X.K, zz) gLen) := CallR.orV c_lenS c_lenD
def gAbs : List D → V1 D := g1 fun _ x => match x with
  | .int i => some (.int (if i < 0 then -i else i))
  | _ => none
theorem c_abs : CallR X (.builtin "abs") (rL (X.K, zz) gAbs) := by
  intro pins s σ H xs us Q I r h
  obtain ⟨m, d, e, st, v, rfl, S, hd, he, q⟩ := g1_at h
  cases hd with
  | int i => cases he; exact call_abs pins s σ H _ us Q I r ⟨i, rfl, q _ (.int _)⟩
  | _ => cases he
def gInt : List D → V1 D := g1 fun _ x => match x with
  | .int i => some (.int i)
  | _ => none
theorem c_int : CallR X (.type "int") (rL (X.K, zz) gInt) := by
  intro pins s σ H xs us Q I r h
  obtain ⟨m, d, e, st, v, rfl, S, hd, he, q⟩ := g1_at h
  cases hd with
  | int i => cases he; exact call_int1 pins s σ H _ us Q I r (.inl ⟨i, rfl, q _ (.int _)⟩)
  | _ => cases he
def gStr : List D → V1 D := g1 fun _ x => match x with
  | .int i => if i.natAbs.log2 < 1920 then some (.str (toString i)) else none
  | _ => none
theorem c_str : CallR X (.type "str") (rL (X.K, zz) gStr) := by
  intro pins s σ H xs us Q I r h
  obtain ⟨m, d, e, st, v, rfl, S, hd, he, q⟩ := g1_at h
  cases hd with
  | int i =>
    have he : (if i.natAbs.log2 < 1920 then some (D.str (toString i)) else none) = some e := he
    by_cases c : i.natAbs.log2 < 1920
    · rw [if_pos c] at he
      cases he
      exact call_str_int pins s σ H _ us Q I r ⟨i, rfl, c, q _ (.str _)⟩
    · rw [if_neg c] at he; cases he
  | _ => cases he
def gSum : List D → V1 D := g1 fun s x => ((lstOf s x).bind intsOf).map fun ns => .int ns.sum
theorem c_sum (hc : X.calm = true := by rfl) : CallR X (.builtin "sum") (rL (X.K, zz) gSum) := by
  intro pins s σ H xs us Q I r h
  obtain ⟨m, d, e, st, v, rfl, S, hd, he, q⟩ := g1_at h
  obtain ⟨ns, h1, h2⟩ := Option.map_eq_some_iff.mp he
  obtain ⟨ds, h3, h4⟩ := Option.bind_eq_some_iff.mp h1
  obtain ⟨a, vs, rfl, e1, q1⟩ := lstOf_at S hd h3
  have ev := ints_rep q1 h4
  subst ev; subst h2
  exact cr_sum hc pins s σ H _ us Q I r ⟨a, ns, rfl, e1, q _ (.int _)⟩
def gAny : List D → V1 D := g1 fun s x => ((lstOf s x).bind blsOf).map fun ns => .bl (ns.any id)
theorem c_any (hc : X.calm = true := by rfl) : CallR X (.builtin "any") (rL (X.K, zz) gAny) := by
  intro pins s σ H xs us Q I r h
  obtain ⟨m, d, e, st, v, rfl, S, hd, he, q⟩ := g1_at h
  obtain ⟨ns, h1, h2⟩ := Option.map_eq_some_iff.mp he
  obtain ⟨ds, h3, h4⟩ := Option.bind_eq_some_iff.mp h1
  obtain ⟨a, vs, rfl, e1, q1⟩ := lstOf_at S hd h3
  have ev := bls_rep q1 h4
  subst ev; subst h2
  exact cr_any hc pins s σ H _ us Q I r ⟨a, ns, rfl, e1, q _ (.bl _)⟩
def gAll : List D → V1 D := g1 fun s x => ((lstOf s x).bind blsOf).map fun ns => .bl (ns.all id)
theorem c_all (hc : X.calm = true := by rfl) : CallR X (.builtin "all") (rL (X.K, zz) gAll) := by
  intro pins s σ H xs us Q I r h
  obtain ⟨m, d, e, st, v, rfl, S, hd, he, q⟩ := g1_at h
  obtain ⟨ns, h1, h2⟩ := Option.map_eq_some_iff.mp he
  obtain ⟨ds, h3, h4⟩ := Option.bind_eq_some_iff.mp h1
  obtain ⟨a, vs, rfl, e1, q1⟩ := lstOf_at S hd h3
  have ev := bls_rep q1 h4
  subst ev; subst h2
  exact cr_all hc pins s σ H _ us Q I r ⟨a, ns, rfl, e1, q _ (.bl _)⟩
/-- min, max of two ints, or of a list of ints -/
def gMin : List D → V1 D := fun xs s => match xs with
  | [.int i, .int j] => some (.int (if j < i then j else i), s)
  | [x] => ((lstOf s x).bind intsOf).bind fun ns => match ns with
    | [] => none
    | n :: r => some (.int (r.foldl min n), s)
  | _ => none
def gMax : List D → V1 D := fun xs s => match xs with
  | [.int i, .int j] => some (.int (if j > i then j else i), s)
  | [x] => ((lstOf s x).bind intsOf).bind fun ns => match ns with
    | [] => none
    | n :: r => some (.int (r.foldl max n), s)
  | _ => none
theorem foldl_min_le : ∀ (r : List Int) (n : Int), r.foldl min n ≤ n ∧ (∀ y ∈ r, r.foldl min n ≤ y) ∧ (r.foldl min n = n ∨ r.foldl min n ∈ r)
  | [], n => ⟨Int.le_refl n, (fun _ h => by cases h), .inl rfl⟩
  | a :: r, n => by
    obtain ⟨h1, h2, h3⟩ := foldl_min_le r (min n a)
    rw [List.foldl_cons]
    refine ⟨by omega, fun y hy => ?_, ?_⟩
    · rcases List.mem_cons.mp hy with rfl | hy
      · omega
      · exact h2 y hy
    · rcases h3 with h3 | h3
      · by_cases c : n ≤ a
        · left; rw [h3]; omega
        · right; rw [h3]; simp; left; omega
      · right; exact List.mem_cons_of_mem _ h3
theorem foldl_max_le : ∀ (r : List Int) (n : Int), n ≤ r.foldl max n ∧ (∀ y ∈ r, y ≤ r.foldl max n) ∧ (r.foldl max n = n ∨ r.foldl max n ∈ r)
  | [], n => ⟨Int.le_refl n, (fun _ h => by cases h), .inl rfl⟩
  | a :: r, n => by
    obtain ⟨h1, h2, h3⟩ := foldl_max_le r (max n a)
    rw [List.foldl_cons]
    refine ⟨by omega, fun y hy => ?_, ?_⟩
    · rcases List.mem_cons.mp hy with rfl | hy
      · omega
      · exact h2 y hy
    · rcases h3 with h3 | h3
      · by_cases c : a ≤ n
        · left; rw [h3]; omega
        · right; rw [h3]; simp; left; omega
      · right; exact List.mem_cons_of_mem _ h3
theorem two_or {K : KZ} {m : List Addr} {H : Hp} {ds : List D} {vs : List V} (r : RepL K m H ds vs) : ds = [] ∨ (∃ d v, ds = [d] ∧ vs = [v] ∧ Rep K m H d v) ∨ (∃ d e v u, ds = [d, e] ∧ vs = [v, u] ∧ Rep K m H d v ∧ Rep K m H e u) ∨ ∃ a b c l, ds = a :: b :: c :: l := by
  cases r with
  | nil => exact .inl rfl
  | cons h r =>
    cases r with
    | nil => exact .inr (.inl ⟨_, _, rfl, rfl, h⟩)
    | cons h2 r =>
      cases r with
      | nil => exact .inr (.inr (.inl ⟨_, _, _, _, rfl, rfl, h, h2⟩))
      | cons _ _ => exact .inr (.inr (.inr ⟨_, _, _, _, rfl⟩))
theorem c_min (hc : X.calm = true := by rfl) : CallR X (.builtin "min") (rL (X.K, zz) gMin) := by
  intro pins s σ H xs us Q I r h
  obtain ⟨m, ds, st, S, rr, hG⟩ := h
  rcases two_or rr with rfl | ⟨d, v, rfl, rfl, hd⟩ | ⟨d, e, v, u, rfl, rfl, hd, he⟩ | ⟨a, b, c, l, rfl⟩
  · exact hG.elim
  · have hG : GoodV (X.K, zz) m H Q (((lstOf st d).bind intsOf).bind fun ns => match ns with
      | [] => none
      | n :: r => some (.int (r.foldl min n), st)) := by
      cases d <;> exact hG
    cases h1 : (lstOf st d).bind intsOf with
    | none => rw [h1] at hG; exact hG.elim
    | some ns =>
      rw [h1] at hG
      cases ns with
      | nil => exact hG.elim
      | cons n r' =>
        obtain ⟨ds', h3, h4⟩ := Option.bind_eq_some_iff.mp h1
        obtain ⟨a, vs, rfl, e1, q1⟩ := lstOf_at S hd h3
        have ev := ints_rep q1 h4
        subst ev
        refine cr_min hc pins s σ H _ us Q I r ⟨a, n :: r', rfl, e1, by simp, fun k hk hle => ?_⟩
        obtain ⟨h5, h6, h7⟩ := foldl_min_le r' n
        have : k = r'.foldl min n := by
          apply Int.le_antisymm
          · refine hle _ ?_
            rcases h7 with h7 | h7
            · rw [h7]; exact List.mem_cons_self
            · exact List.mem_cons_of_mem _ h7
          · rcases List.mem_cons.mp hk with rfl | hk
            · exact h5
            · exact h6 k hk
        subst this
        exact GoodV.here S hG (.int _)
  · cases hd with
    | int i =>
      cases he with
      | int j => exact call_min2 hc pins s σ H _ us Q I r ⟨i, j, rfl, GoodV.here S hG (.int _)⟩
      | _ => exact hG.elim
    | _ => cases he <;> exact hG.elim
  · cases a <;> cases b <;> exact hG.elim
theorem c_max (hc : X.calm = true := by rfl) : CallR X (.builtin "max") (rL (X.K, zz) gMax) := by
  intro pins s σ H xs us Q I r h
  obtain ⟨m, ds, st, S, rr, hG⟩ := h
  rcases two_or rr with rfl | ⟨d, v, rfl, rfl, hd⟩ | ⟨d, e, v, u, rfl, rfl, hd, he⟩ | ⟨a, b, c, l, rfl⟩
  · exact hG.elim
  · have hG : GoodV (X.K, zz) m H Q (((lstOf st d).bind intsOf).bind fun ns => match ns with
      | [] => none
      | n :: r => some (.int (r.foldl max n), st)) := by
      cases d <;> exact hG
    cases h1 : (lstOf st d).bind intsOf with
    | none => rw [h1] at hG; exact hG.elim
    | some ns =>
      rw [h1] at hG
      cases ns with
      | nil => exact hG.elim
      | cons n r' =>
        obtain ⟨ds', h3, h4⟩ := Option.bind_eq_some_iff.mp h1
        obtain ⟨a, vs, rfl, e1, q1⟩ := lstOf_at S hd h3
        have ev := ints_rep q1 h4
        subst ev
        refine cr_max hc pins s σ H _ us Q I r ⟨a, n :: r', rfl, e1, by simp, fun k hk hle => ?_⟩
        obtain ⟨h5, h6, h7⟩ := foldl_max_le r' n
        have : k = r'.foldl max n := by
          apply Int.le_antisymm
          · rcases List.mem_cons.mp hk with rfl | hk
            · exact h5
            · exact h6 k hk
          · refine hle _ ?_
            rcases h7 with h7 | h7
            · rw [h7]; exact List.mem_cons_self
            · exact List.mem_cons_of_mem _ h7
        subst this
        exact GoodV.here S hG (.int _)
  · cases hd with
    | int i =>
      cases he with
      | int j => exact call_max2 hc pins s σ H _ us Q I r ⟨i, j, rfl, GoodV.here S hG (.int _)⟩
      | _ => exact hG.elim
    | _ => cases he <;> exact hG.elim
  · cases a <;> cases b <;> exact hG.elim
/-- tuple(xs), list(xs) -/
def gTuple : List D → V1 D := fun xs s => match xs with
  | [x] => (seqOf s x).bind fun l => some (.tup l, s)
  | _ => none
def gList (mu : Bool) : List D → V1 D := fun xs s => match xs with
  | [x] => (seqOf s x).bind fun l => new mu l s
  | _ => none
theorem c_tuple : CallR X (.type "tuple") (rL (X.K, zz) gTuple) := by
  intro pins s σ H xs us Q I r h
  obtain ⟨m, ds, st, S, rr, hG⟩ := h
  rcases two_or rr with rfl | ⟨d, v, rfl, rfl, hd⟩ | ⟨d, e, v, u, rfl, rfl, hd, he⟩ | ⟨a, b, c, l, rfl⟩
  · exact hG.elim
  · have hG : GoodV (X.K, zz) m H Q ((seqOf st d).bind fun l => some (.tup l, st)) := hG
    cases h1 : seqOf st d with
    | none => rw [h1] at hG; exact hG.elim
    | some l =>
      rw [h1] at hG
      obtain ⟨a, vs, rfl, e1, q1⟩ := seqOf_at S hd h1
      rcases e1 with e1 | e1
      · exact call_tuple_of pins s σ H _ us Q I r ⟨a, vs, rfl, .inl ⟨e1, fun p hp => newT_ok S q1 hG p hp⟩⟩
      · exact call_tuple_of pins s σ H _ us Q I r ⟨a, vs, rfl, .inr ⟨e1, GoodV.here S hG (.tup e1 q1)⟩⟩
  · exact hG.elim
  · exact hG.elim
theorem c_list {mu : Bool} : CallR X (.type "list") (rL (X.K, zz) (gList mu)) := by
  intro pins s σ H xs us Q I r h
  obtain ⟨m, ds, st, S, rr, hG⟩ := h
  rcases two_or rr with rfl | ⟨d, v, rfl, rfl, hd⟩ | ⟨d, e, v, u, rfl, rfl, hd, he⟩ | ⟨a, b, c, l, rfl⟩
  · exact hG.elim
  · have hG : GoodV (X.K, zz) m H Q ((seqOf st d).bind fun l => new mu l st) := hG
    cases h1 : seqOf st d with
    | none => rw [h1] at hG; exact hG.elim
    | some l =>
      rw [h1] at hG
      obtain ⟨a, vs, rfl, e1, q1⟩ := seqOf_at S hd h1
      exact call_list_of pins s σ H _ us Q I r ⟨a, vs, rfl, e1, fun p hp => new_ok S q1 hG p hp⟩
  · exact hG.elim
  · exact hG.elim

/-! ### equality -/
mutual
def dat0 : D → Option PyData
  | .non => some .none
  | .bl b => some (.bool b)
  | .int i => some (.int i)
  | .str x => some (.str x)
  | .tup l => (dat0L l).map .tuple
  | .lst l => (dat0L l).map .list
  | .scr l => (dat0L l).map .list
  | .dic _ _ => none
  | .ins _ _ _ => none
  | .loc _ => none
  | .adr _ => none
  | .xo _ _ _ _ => none
  | .th _ _ _ _ _ => none
  | .odd _ => none
def dat0L : List D → Option (List PyData)
  | [] => some []
  | d :: r => (dat0 d).bind fun x => (dat0L r).map (x :: ·)
end
def datOf (s : Sto) : D → Option PyData
  | .loc n => match s[n]? with
    | some (.lst l) => (dat0L l).map .list
    | _ => none
  | d => dat0 d
section
variable {K : KZ} {m : List Addr} {H : Hp}
mutual
theorem dat0_at : ∀ {d : D} {v : V} {x : PyData}, Rep K m H d v → dat0 d = some x → Dp K.1 H v x
  | _, _, _, .non, h => by cases h; exact .non
  | _, _, _, .bl b, h => by cases h; exact .bl b
  | _, _, _, .int i, h => by cases h; exact .int i
  | _, _, _, .str x, h => by cases h; exact .str x
  | _, _, _, .tup e r, h => by
    obtain ⟨xs, h1, h2⟩ := Option.map_eq_some_iff.mp (show (dat0L _).map PyData.tuple = some _ from by simpa only [dat0] using h)
    subst h2
    exact .tup e (dat0L_at r h1)
  | _, _, _, .lst _ e r, h => by
    obtain ⟨xs, h1, h2⟩ := Option.map_eq_some_iff.mp (show (dat0L _).map PyData.list = some _ from by simpa only [dat0] using h)
    subst h2
    exact .lst (.inl (.inl e)) (dat0L_at r h1)
  | _, _, _, .scr e r, h => by
    obtain ⟨xs, h1, h2⟩ := Option.map_eq_some_iff.mp (show (dat0L _).map PyData.list = some _ from by simpa only [dat0] using h)
    subst h2
    exact .lst e.l (dat0L_at r h1)
  | _, _, _, .dic _ _ _ _, h => by simp [dat0] at h
  | _, _, _, .ins _ _ _ _, h => by simp [dat0] at h
  | _, _, _, .loc _, h => by simp [dat0] at h
  | _, _, _, .adr _, h => by simp [dat0] at h
  | _, _, _, .xo _ _ _, h => by simp [dat0] at h
  | _, _, _, .th _ _ _, h => by simp [dat0] at h
  | _, _, _, .odd _ _ _, h => by simp [dat0] at h
theorem dat0L_at : ∀ {ds : List D} {vs : List V} {xs : List PyData}, RepL K m H ds vs → dat0L ds = some xs → DpAll K.1 H vs xs
  | _, _, _, .nil, h => by simp only [dat0L] at h; cases h; exact .nil
  | _, _, _, .cons hd r, h => by
    simp only [dat0L] at h
    obtain ⟨x, h1, h2⟩ := Option.bind_eq_some_iff.mp h
    obtain ⟨ys, h3, h4⟩ := Option.map_eq_some_iff.mp h2
    subst h4
    exact .cons (dat0_at hd h1) (dat0L_at r h3)
end
theorem datOf_at {s : Sto} {d : D} {v : V} {x : PyData} (S : StR K m H s) (r : Rep K m H d v) (h : datOf s d = some x) : Dp K.1 H v x := by
  cases r with
  | @loc n a e =>
    have h : (match s[n]? with
      | some (.lst l) => (dat0L l).map PyData.list
      | _ => none) = some x := h
    cases z : s[n]? with
    | none => rw [z] at h; cases h
    | some o =>
      rw [z] at h
      cases o with
      | lst l =>
        obtain ⟨xs, h1, h2⟩ := Option.map_eq_some_iff.mp (show (dat0L l).map PyData.list = some x from h)
        subst h2
        obtain ⟨vs, e1, q⟩ := S.obj n a _ e z
        exact .lst (.inl (.inl e1)) (dat0L_at q h1)
      | _ => cases h
  | non => exact dat0_at (m := m) .non h
  | bl b => exact dat0_at (m := m) (.bl b) h
  | int b => exact dat0_at (m := m) (.int b) h
  | str b => exact dat0_at (m := m) (.str b) h
  | tup e q => exact dat0_at (m := m) (.tup e q) h
  | lst n e q => exact dat0_at (m := m) (.lst n e q) h
  | scr e q => exact dat0_at (m := m) (.scr e q) h
  | dic a b c d => exact dat0_at (m := m) (.dic a b c d) h
  | ins a b c d => exact dat0_at (m := m) (.ins a b c d) h
  | adr a => exact dat0_at (m := m) (.adr a) h
  | xo a b c => exact dat0_at (m := m) (.xo a b c) h
  | th a b c => exact dat0_at (m := m) (.th a b c) h
  | odd a b c => exact dat0_at (m := m) (.odd a b c) h
end
/-- == and != of data -/
def gEqF (f : Bool → Bool) : D → D → V1 D := fun x y s => match datOf s x, datOf s y with
  | some a, some b => if SeqAt.shaped a = true ∧ SeqAt.shaped b = true then some (.bl (f (PyData.eqv a b)), s) else none
  | _, _ => none
def gEq : D → D → V1 D := gEqF id
def gNe : D → D → V1 D := gEqF not
theorem gEqF_at {f : Bool → Bool} {x y : V} {H : Hp} {Q : VK} (h : r2 (X.K, zz) (gEqF f) x y H Q) : ∃ a b, Dp X.K H x a ∧ Dp X.K H y b ∧ SeqAt.shaped a = true ∧ SeqAt.shaped b = true ∧ Q (.bl (f (PyData.eqv a b))) H := by
  obtain ⟨m, d, e, st, S, hd, he, hG⟩ := h
  unfold gEqF at hG
  cases h1 : datOf st d with
  | none => rw [h1] at hG; exact hG.elim
  | some a =>
    cases h2 : datOf st e with
    | none => rw [h1, h2] at hG; exact hG.elim
    | some b =>
      rw [h1, h2] at hG
      have hG : GoodV (X.K, zz) m H Q (if SeqAt.shaped a = true ∧ SeqAt.shaped b = true then some (.bl (f (PyData.eqv a b)), st) else none) := hG
      by_cases c : SeqAt.shaped a = true ∧ SeqAt.shaped b = true
      · rw [if_pos c] at hG
        exact ⟨a, b, datOf_at S hd h1, datOf_at S he h2, c.1, c.2, GoodV.here S hG (.bl _)⟩
      · rw [if_neg c] at hG
        exact hG.elim
theorem o_eq (hu : X.A.units + 64 < cLine) : OpR X (compareOp .Eq) (r2 (X.K, zz) gEq) := fun pins s σ H x y v u Q I rx ry h => by
  obtain ⟨a, b, ha, hb, sa, sb, q⟩ := gEqF_at h
  exact op_eqD hu pins s σ H x y v u Q I rx ry ⟨a, b, ha, hb, sa, sb, q⟩
theorem o_ne (hu : X.A.units + 64 < cLine) : OpR X (compareOp .NotEq) (r2 (X.K, zz) gNe) := fun pins s σ H x y v u Q I rx ry h => by
  obtain ⟨a, b, ha, hb, sa, sb, q⟩ := gEqF_at h
  exact op_neD hu pins s σ H x y v u Q I rx ry ⟨a, b, ha, hb, sa, sb, q⟩
/-- is None, is not None; is True -/
def isNon : D → Bool
  | .non => true
  | _ => false
def gIs : D → D → V1 D := fun x y s => match y with
  | .non => some (.bl (isNon x), s)
  | .bl b => match x with
    | .bl a => some (.bl (decide (a = b)), s)
    | _ => none
  | _ => none
def gIsNot : D → D → V1 D := fun x y s => match y with
  | .non => some (.bl (!isNon x), s)
  | .bl b => match x with
    | .bl a => some (.bl (!decide (a = b)), s)
    | _ => none
  | _ => none
theorem isNon_rep {K : KZ} {m : List Addr} {H : Hp} {d : D} {v : V} (r : Rep K m H d v) : decide (v = .non) = isNon d := by
  cases r <;> first | rfl | exact decide_eq_false (fun z => nomatch z)
theorem o_is : OpR X (compareOp .Is) (r2 (X.K, zz) gIs) := fun pins s σ H x y v u Q I rx ry h => by
  obtain ⟨m, d, e, st, S, hd, he, hG⟩ := h
  cases he with
  | non =>
    refine op_isN pins s σ H x _ v u Q I rx ry ⟨rfl, ?_⟩
    rw [isNon_rep hd]
    exact GoodV.here S hG (.bl _)
  | bl b =>
    cases hd with
    | bl a => exact op_is_bl pins s σ H _ _ v u Q I rx ry ⟨a, b, rfl, rfl, GoodV.here S hG (.bl _)⟩
    | _ => exact hG.elim
  | _ => exact hG.elim
theorem o_isNot : OpR X (compareOp .IsNot) (r2 (X.K, zz) gIsNot) := fun pins s σ H x y v u Q I rx ry h => by
  obtain ⟨m, d, e, st, S, hd, he, hG⟩ := h
  cases he with
  | non =>
    refine op_notN pins s σ H x _ v u Q I rx ry ⟨rfl, ?_⟩
    rw [isNon_rep hd]
    exact GoodV.here S hG (.bl _)
  | bl b =>
    cases hd with
    | bl a => exact op_isnot_bl pins s σ H _ _ v u Q I rx ry ⟨a, b, rfl, rfl, GoodV.here S hG (.bl _)⟩
    | _ => exact hG.elim
  | _ => exact hG.elim
end
end QS
end

section
set_option Elab.async false
set_option linter.all false
set_option maxRecDepth 100000
set_option maxHeartbeats 4000000
/-! QS4: statements, targets, loops, defs. -/
namespace QS
open PySem PySem.Spec PyProof.Rows L2
inductive SRes where
  | nx (ρ : En) (s : Sto)
  | rt (d : D) (s : Sto)
  | bk (ρ : En) (s : Sto)
  | ct (ρ : En) (s : Sto)
  | exn (x : Ex) (ρ : En) (s : Sto)
  | stuck
abbrev SM := En → Sto → SRes
def GoodS (K : KZ) (W : WX) (D : Ends) (m : List Addr) (H : Hp) : SRes → Prop
  | .nx ρ' s' => ∀ m' H' σ', Ext m H m' H' → StR K m' H' s' → EnR K m' H' ρ' σ' → D.nx σ' H'
  | .rt d s' => ∀ m' H' v, Ext m H m' H' → StR K m' H' s' → Rep K m' H' d v → D.rt v H'
  | .bk ρ' s' => ∀ m' H' σ', Ext m H m' H' → StR K m' H' s' → EnR K m' H' ρ' σ' → D.bk σ' H'
  | .ct ρ' s' => ∀ m' H' σ', Ext m H m' H' → StR K m' H' s' → EnR K m' H' ρ' σ' → D.ct σ' H'
  | .exn x ρ' s' => ∀ m' H' σ' c d, Ext m H m' H' → StR K m' H' s' → EnR K m' H' ρ' σ' → ERep K m' H' x c d → W c d σ' H'
  | .stuck => False
def tS (K : KZ) (W : WX) (e : SM) : TS := fun D σ H => ∃ m ρ s, EnR K m H ρ σ ∧ StR K m H s ∧ GoodS K W D m H (e ρ s)
/-- from an expression's result -/
def ofE {α : Type} (r : Res α) (ρ : En) (k : α → Sto → SRes) : SRes := match r with
  | .ok a s => k a s
  | .exn x s => .exn x ρ s
  | .stuck => .stuck
section
variable {K : KZ} {W : WX} {D D' : Ends} {m m' : List Addr} {H H' : Hp} {s : Sto} {ρ : En} {σ : St}
theorem GoodS.trans (e : Ext m H m' H') {r : SRes} (h : GoodS K W D m H r) : GoodS K W D m' H' r := by
  cases r with
  | nx ρ s => exact fun m'' H'' v f S q => h m'' H'' v (e.trans f) S q
  | rt ρ s => exact fun m'' H'' v f S q => h m'' H'' v (e.trans f) S q
  | bk ρ s => exact fun m'' H'' v f S q => h m'' H'' v (e.trans f) S q
  | ct ρ s => exact fun m'' H'' v f S q => h m'' H'' v (e.trans f) S q
  | exn x ρ s => exact fun m'' H'' v c d f S q => h m'' H'' v c d (e.trans f) S q
  | stuck => exact h
theorem GoodS.ofE {α β : Type} {rel : List Addr → Hp → α → β → Prop} {r : Res α} {k : α → Sto → SRes} (hS : StR K m H s) (hE : EnR K m H ρ σ) (h : GoodS K W D m H (QS.ofE r ρ k)) :
    Good K W σ rel m H (fun v H1 => ∃ m1 a s1, Ext m H m1 H1 ∧ StR K m1 H1 s1 ∧ rel m1 H1 a v ∧ EnR K m1 H1 ρ σ ∧ GoodS K W D m1 H1 (k a s1)) r := by
  cases r with
  | ok a s1 => exact fun m1 H1 v e1 S1 r1 => ⟨m1, a, s1, e1, S1, r1, hE.ext hS.noTup e1, GoodS.trans e1 h⟩
  | exn x s1 => exact fun m1 H1 c d e1 S1 r1 => h m1 H1 σ c d e1 S1 (hE.ext hS.noTup e1) r1
  | stuck => exact h
end

/-! ### plain statements -/
def sNil : SM := fun ρ s => .nx ρ s
def sSeq (a b : SM) : SM := fun ρ s => match a ρ s with
  | .nx ρ' s' => b ρ' s'
  | r => r
def sE (e : EM) : SM := fun ρ s => ofE (e ρ s) ρ fun _ s' => .nx ρ s'
def sSet (i : Nat) (e : EM) : SM := fun ρ s => ofE (e ρ s) ρ fun d s' => .nx (ρ.set i (some d)) s'
def sRet (e : EM) : SM := fun ρ s => ofE (e ρ s) ρ fun d s' => .rt d s'
def sIf (t : TM) (a b : SM) : SM := fun ρ s => ofE (t ρ s) ρ fun c s' => if c = true then a ρ s' else b ρ s'
def sNever : SM := fun _ _ => .stuck
def sBrk : SM := fun ρ s => .bk ρ s
def sCont : SM := fun ρ s => .ct ρ s
/-- targets -/
abbrev GM := D → En → Option En
def gSet (i : Nat) : GM := fun d ρ => some (ρ.set i (some d))
abbrev GMs := List D → En → Option En
def gNil : GMs := fun ds ρ => match ds with
  | [] => some ρ
  | _ => none
def gCons (g : GM) (r : GMs) : GMs := fun ds ρ => match ds with
  | d :: t => (g d ρ).bind fun ρ' => r t ρ'
  | _ => none
def gTup (n : Nat) (r : GMs) : GM := fun d ρ => match d with
  | .tup l => if l.length = n then r l ρ else none
  | _ => none
def sAsg (g : GM) (e : EM) : SM := fun ρ s => ofE (e ρ s) ρ fun d s' => match g d ρ with
  | some ρ' => .nx ρ' s'
  | none => .stuck
def sPar (i j : Nat) (a : AM) : SM := fun ρ s => ofE (a ρ s) ρ fun ds s' => match ds with
  | [x, y] => .nx ((ρ.set i (some x)).set j (some y)) s'
  | _ => .stuck
def gS (K : KZ) (g : GM) : TG := fun v σ H Q => ∃ m ρ d ρ', EnR K m H ρ σ ∧ Rep K m H d v ∧ g d ρ = some ρ' ∧ ∀ σ', EnR K m H ρ' σ' → Q σ' H
def gsS (K : KZ) (g : GMs) : TGs := fun vs σ H Q => ∃ m ρ ds ρ', EnR K m H ρ σ ∧ RepL K m H ds vs ∧ g ds ρ = some ρ' ∧ ∀ σ', EnR K m H ρ' σ' → Q σ' H
section
variable {zz : List Addr} {X : Cx} {W : WX} {st : Stmt} {sts : List Stmt} {e c : Expr} {es : List Expr} {de : EM} {dt : TM} {ds du : SM} {pos : Pos} {da : AM}
theorem ss_nil : PSs X [] (tS (X.K, zz) W sNil) := PSs.imp pss_nil fun D σ H ⟨m, ρ, s, hE, hS, hG⟩ => hG m H σ Ext.refl hS hE
theorem seq_in {K : KZ} {D : Ends} {σ : St} {H : Hp} (h : tS K W (sSeq ds du) D σ H) : tS K W ds { D with nx := tS K W du D } σ H := by
  obtain ⟨m, ρ, s, hE, hS, hG⟩ := h
  refine ⟨m, ρ, s, hE, hS, ?_⟩
  unfold sSeq at hG
  cases e : ds ρ s with
  | nx ρ' s' =>
    rw [e] at hG
    exact fun m' H' σ' f S q => ⟨m', ρ', s', q, S, GoodS.trans f hG⟩
  | rt d s' => rw [e] at hG; exact hG
  | bk ρ' s' => rw [e] at hG; exact hG
  | ct ρ' s' => rw [e] at hG; exact hG
  | exn x ρ' s' => rw [e] at hG; exact hG
  | stuck => rw [e] at hG; exact hG
theorem ss_cons (h1 : PS X st (tS (X.K, zz) W ds)) (h2 : PSs X sts (tS (X.K, zz) W du)) : PSs X (st :: sts) (tS (X.K, zz) W (sSeq ds du)) :=
  PSs.imp (pss_cons h1 h2) fun _ _ _ h => seq_in h
theorem ss_one (h1 : PS X st (tS (X.K, zz) W ds)) : PSs X [st] (tS (X.K, zz) W ds) := pss_one h1
theorem s_expr (he : PE X e (tE (X.K, zz) W de)) (hs : swapsWith e none pos.line X.env = pure false := by rfl) : PS X (.Expr e pos) (tS (X.K, zz) W (sE de)) :=
  PS.imp (ps_expr he hs) fun D σ H ⟨m, ρ, s, hE, hS, hG⟩ => ⟨m, ρ, s, hE, hS, (GoodS.ofE hS hE hG).mono fun v H1 ⟨m1, a, s1, e1, S1, q1, E1, g1⟩ => g1 m1 H1 σ Ext.refl S1 E1⟩
theorem s_doc {x : Str} {j} {pos' : Pos} : PS X (.Expr (.Constant (.str x) j pos) pos') (tS (X.K, zz) W sNil) := PS.imp ps_doc fun D σ H ⟨m, ρ, s, hE, hS, hG⟩ => hG m H σ Ext.refl hS hE
theorem s_pass : PS X (.Pass pos) (tS (X.K, zz) W sNil) := PS.imp ps_pass fun D σ H ⟨m, ρ, s, hE, hS, hG⟩ => hG m H σ Ext.refl hS hE
theorem s_break : PS X (.Break pos) (tS (X.K, zz) W sBrk) := PS.imp ps_break fun D σ H ⟨m, ρ, s, hE, hS, hG⟩ => hG m H σ Ext.refl hS hE
theorem s_continue : PS X (.Continue pos) (tS (X.K, zz) W sCont) := PS.imp ps_continue fun D σ H ⟨m, ρ, s, hE, hS, hG⟩ => hG m H σ Ext.refl hS hE
theorem s_never : PS X st (tS (X.K, zz) W sNever) := PS.imp ps_never fun D σ H ⟨m, ρ, s, hE, hS, hG⟩ => hG
theorem ss_never : PSs X sts (tS (X.K, zz) W sNever) := PSs.imp pss_never fun D σ H ⟨m, ρ, s, hE, hS, hG⟩ => hG
theorem s_set {i : Nat} {x : Str} {pos' : Pos} (hN : X.N.Nodup) (he : PE X e (tE (X.K, zz) W de)) (hi : X.N[i]? = some x := by rfl) (hx : Loc X.env.scope x := by first | exact Or.inl rfl | exact Or.inr rfl) (hs : swapsWith e (some (.Name x pos')) pos.line X.env = pure false := by rfl)
    (hf : X.fn x = true ∨ X.env.scope.names.lookup x = some .local := by first | exact .inl rfl | exact .inr rfl | assumption) : PS X (.Assign [.Name x pos'] e pos) (tS (X.K, zz) W (sSet i de)) :=
  PS.imp (ps_set hN hi hx he hs hf) fun D σ H ⟨m, ρ, s, hE, hS, hG⟩ => ⟨m, ρ, s, hE, hS, (GoodS.ofE hS hE hG).mono fun v H1 ⟨m1, a, s1, e1, S1, q1, E1, g1⟩ => g1 m1 H1 _ Ext.refl S1 (E1.set q1 i)⟩
theorem s_ret (he : PE X e (tE (X.K, zz) W de)) : PS X (.Return (some e) pos) (tS (X.K, zz) W (sRet de)) :=
  PS.imp (ps_ret he) fun D σ H ⟨m, ρ, s, hE, hS, hG⟩ => ⟨m, ρ, s, hE, hS, (GoodS.ofE hS hE hG).mono fun v H1 ⟨m1, a, s1, e1, S1, q1, E1, g1⟩ => g1 m1 H1 _ Ext.refl S1 q1⟩
theorem s_if {a b : List Stmt} (hc : PT X c (tT (X.K, zz) W dt)) (ha : PSs X a (tS (X.K, zz) W ds)) (hb : PSs X b (tS (X.K, zz) W du)) : PS X (.If c a b pos) (tS (X.K, zz) W (sIf dt ds du)) :=
  PS.imp (ps_if hc ha hb) fun D σ H ⟨m, ρ, s, hE, hS, hG⟩ => ⟨m, ρ, s, hE, hS, (GoodS.ofE hS hE hG).mono fun v H1 ⟨m1, a, s1, e1, S1, q1, E1, g1⟩ => by
    subst q1
    cases a with
    | true =>
      simp only [if_true] at g1 ⊢
      exact ⟨m1, ρ, s1, E1, S1, g1⟩
    | false =>
      simp only [Bool.false_eq_true, if_false] at g1 ⊢
      exact ⟨m1, ρ, s1, E1, S1, g1⟩⟩
/-! targets -/
theorem sg_name {i : Nat} {x : Str} (hN : X.N.Nodup) (hi : X.N[i]? = some x := by rfl) (hx : Loc X.env.scope x := by first | exact Or.inl rfl | exact Or.inr rfl) (hf : X.fn x = true ∨ X.env.scope.names.lookup x = some .local := by first | exact .inl rfl | exact .inr rfl | assumption) : PG X (.Name x pos) (gS (X.K, zz) (gSet i)) := by
  refine ⟨fun pins s σ H v u Q I r ⟨m, ρ, d, ρ', hE, hd, hg, hQ⟩ => (pg_name hN hi hx hf).run pins s σ H v u Q I r ?_⟩
  cases hg
  exact hQ _ (hE.set hd i)
theorem sgs_nil : PGs X [] (gsS (X.K, zz) QS.gNil) := by
  refine ⟨fun pins s σ H vs us Q I r ⟨m, ρ, ds, ρ', hE, hd, hg, hQ⟩ => pgs_nil.run pins s σ H vs us Q I r ?_⟩
  cases hd with
  | nil => cases hg; exact ⟨rfl, hQ _ hE⟩
  | cons _ _ => cases hg
theorem sgs_cons {g : GM} {gs : GMs} (h1 : PG X e (gS (X.K, zz) g)) (h2 : PGs X es (gsS (X.K, zz) gs)) (hs : (assignEach (e :: es) X.env).map (·.2) = assign e X.env :: (assignEach es X.env).map (·.2) := by rfl) : PGs X (e :: es) (gsS (X.K, zz) (QS.gCons g gs)) := by
  refine ⟨fun pins s σ H vs us Q I r ⟨m, ρ, ds, ρ', hE, hd, hg, hQ⟩ => (pgs_cons h1 h2 hs).run pins s σ H vs us Q I r ?_⟩
  cases hd with
  | nil => cases hg
  | @cons d v ds' vs' hd hr =>
    have hg : ((g d ρ).bind fun ρ' => gs ds' ρ') = some ρ' := hg
    obtain ⟨ρ1, q1, q2⟩ := Option.bind_eq_some_iff.mp hg
    exact ⟨v, vs', rfl, m, ρ, d, ρ1, hE, hd, q1, fun σ1 E1 => ⟨m, ρ1, ds', ρ', E1, hr, q2, hQ⟩⟩
theorem sg_tup {k : Nat} {gs : GMs} {n : Nat} (h : PGs X es (gsS (X.K, zz) gs)) (hc : X.calm = true := by rfl) (hn : (assignEach es X.env).length = n := by rfl) (hst : (assignEach es X.env).findIdx? (·.1) = none := by rfl) : PG X (.Tuple es k pos) (gS (X.K, zz) (QS.gTup n gs)) := by
  refine ⟨fun pins s σ H v u Q I r ⟨m, ρ, d, ρ', hE, hd, hg, hQ⟩ => (pg_tup hc h hn hst).run pins s σ H v u Q I r ?_⟩
  cases hd with
  | @tup a l vs h1 q1 =>
    have hg : (if l.length = n then gs l ρ else none) = some ρ' := hg
    by_cases z : l.length = n
    · rw [if_pos z] at hg
      exact ⟨a, vs, rfl, h1, by rw [← q1.length]; exact z, m, ρ, l, ρ', hE, q1, hg, hQ⟩
    · rw [if_neg z] at hg; cases hg
  | _ => cases hg
theorem s_asg {tg : Expr} {g : GM} (he : PE X e (tE (X.K, zz) W de)) (hg : PG X tg (gS (X.K, zz) g)) (hs : swapsWithSole [tg] e pos.line X.env = pure false := by rfl) (hw : swappedStores [tg] e X.env = pure none := by rfl)
    (h1 : (assignEach [tg] X.env).map (·.2) = [assign tg X.env] := by rfl) : PS X (.Assign [tg] e pos) (tS (X.K, zz) W (sAsg g de)) :=
  PS.imp (ps_asg he hg hs hw h1) fun D σ H ⟨m, ρ, s, hE, hS, hG⟩ => ⟨m, ρ, s, hE, hS, (GoodS.ofE hS hE hG).mono fun v H1 ⟨m1, a, s1, e1, S1, q1, E1, g1⟩ => by
    cases z : g a ρ with
    | none => rw [z] at g1; exact g1.elim
    | some ρ' =>
      rw [z] at g1
      exact ⟨m1, ρ, a, ρ', E1, q1, z, fun σ' E' => g1 m1 H1 σ' Ext.refl S1 E'⟩⟩
theorem s_par {i j : Nat} {x y : Str} {a b : Expr} {px py pt : Pos} {kt k2 pt2} (hN : X.N.Nodup) (ha : PA X [a, b] (tA (X.K, zz) W da)) (hi : X.N[i]? = some x := by rfl) (hj : X.N[j]? = some y := by rfl) (hij : i ≠ j := by decide)
    (hx : X.env.scope.names.lookup x = some .local := by rfl) (hy : X.env.scope.names.lookup y = some .local := by rfl) (hc : X.calm = true := by rfl)
    (hw : swappedStores [.Tuple [.Name x px, .Name y py] kt pt] (.Tuple [a, b] k2 pt2) X.env = pure (some [x, y]) := by rfl)
    (hs : swapsWithSole [.Tuple [.Name x px, .Name y py] kt pt] (.Tuple [a, b] k2 pt2) pos.line X.env = pure false := by rfl) :
    PS X (.Assign [.Tuple [.Name x px, .Name y py] kt pt] (.Tuple [a, b] k2 pt2) pos) (tS (X.K, zz) W (sPar i j da)) :=
  PS.imp (ps_par hc hN hi hj hij hx hy ha hw hs) fun D σ H ⟨m, ρ, s, hE, hS, hG⟩ => ⟨m, ρ, s, hE, hS, (GoodS.ofE hS hE hG).mono fun v H1 ⟨m1, a, s1, e1, S1, q1, E1, g1⟩ => by
    rcases two_or q1 with rfl | ⟨d, v', rfl, rfl, hd⟩ | ⟨d, e', v', u, rfl, rfl, hd, he⟩ | ⟨a', b', c', l, rfl⟩
    · exact g1.elim
    · exact g1.elim
    · exact ⟨v', u, rfl, g1 m1 H1 _ Ext.refl S1 ((E1.set hd i).set he j)⟩
    · exact g1.elim⟩
/-- x op= e -/
def sAug (i : Nat) (g : D → D → V1 D) (e : EM) : SM := fun ρ s => match ρ[i]? with
  | some (some x) => ofE (bnd (e ρ) (fun y => lift (g x y)) s) ρ fun d s' => .nx (ρ.set i (some d)) s'
  | _ => .stuck
theorem s_aug {i : Nat} {x : Str} {op : Operator} {g : D → D → V1 D} {pos' : Pos} (hN : X.N.Nodup) (ho : OpR X (inplaceOp op) (r2 (X.K, zz) g)) (he : PE X e (tE (X.K, zz) W de)) (hi : X.N[i]? = some x := by rfl) (hx : Loc X.env.scope x := by first | exact Or.inl rfl | exact Or.inr rfl)
    (hf : X.fn x = true ∨ X.env.scope.names.lookup x = some .local := by first | exact .inl rfl | exact .inr rfl | assumption) : PS X (.AugAssign (.Name x pos') op e pos) (tS (X.K, zz) W (sAug i g de)) :=
  PS.imp (ps_aug hN hi hx he ho hf) fun D σ H ⟨m, ρ, s, hE, hS, hG⟩ => by
    unfold sAug at hG
    split at hG
    · rename_i d hd
      obtain ⟨v, h1, h2⟩ := hE.at_ i d hd
      refine ⟨v, h1, m, ρ, s, hE, hS, (Good.bind (GoodS.ofE (rel := Rep (X.K, zz)) hS hE hG)).mono fun u H1 ⟨m1, y, s1, e1, S1, q1, hG1⟩ => ?_⟩
      refine ⟨m1, d, y, s1, S1, h2.ext hS.noTup e1, q1, hG1.lift.mono fun z H2 ⟨m2, a, s2, e2, S2, q2, E2, g2⟩ => ?_⟩
      exact g2 m2 H2 _ Ext.refl S2 (E2.set q2 i)
    · exact hG.elim
end

/-! ### while -/
def wS (t : TM) (b : SM) (k : SM) : SM := fun ρ s => ofE (t ρ s) ρ fun c s1 => if c = true then (match b ρ s1 with
    | .nx ρ' s' => k ρ' s'
    | .ct ρ' s' => k ρ' s'
    | .bk ρ' s' => .nx ρ' s'
    | r => r) else .nx ρ s1
def wN (t : TM) (b : SM) : Nat → SM
  | 0 => fun _ _ => .stuck
  | n + 1 => wS t b (wN t b n)
open Classical in
noncomputable def sWhile (t : TM) (b : SM) : SM := fun ρ s => if h : ∃ n, wN t b n ρ s ≠ .stuck then wN t b (Classical.choose h) ρ s else .stuck
theorem wN_more (t : TM) (b : SM) : ∀ (n : Nat) (ρ : En) (s : Sto), wN t b n ρ s ≠ .stuck → wN t b (n + 1) ρ s = wN t b n ρ s
  | 0, _, _, h => absurd rfl h
  | n + 1, ρ, s, h => by
    have ih := fun ρ s => wN_more t b n ρ s
    show wS t b (wN t b (n + 1)) ρ s = wS t b (wN t b n) ρ s
    have h : wS t b (wN t b n) ρ s ≠ .stuck := h
    unfold wS at h ⊢
    cases e : t ρ s with
    | exn x s1 => rfl
    | stuck => rfl
    | ok c s1 =>
      rw [e] at h
      cases c with
      | false => rfl
      | true =>
        simp only [ofE, if_true] at h ⊢
        cases e2 : b ρ s1 with
        | nx ρ' s' => rw [e2] at h; exact ih ρ' s' h
        | ct ρ' s' => rw [e2] at h; exact ih ρ' s' h
        | bk ρ' s' => rfl
        | rt d s' => rfl
        | exn x ρ' s' => rfl
        | stuck => rfl
theorem wN_add (t : TM) (b : SM) (n : Nat) (ρ : En) (s : Sto) (h : wN t b n ρ s ≠ .stuck) : ∀ k, wN t b (n + k) ρ s = wN t b n ρ s
  | 0 => rfl
  | k + 1 => by
    have e := wN_add t b n ρ s h k
    rw [← Nat.add_assoc, wN_more t b (n + k) ρ s (by rw [e]; exact h), e]
theorem sWhile_of {t : TM} {b : SM} {n : Nat} {ρ : En} {s : Sto} {r : SRes} (h : wN t b n ρ s = r) (hr : r ≠ .stuck) : sWhile t b ρ s = r := by
  have ex : ∃ n, wN t b n ρ s ≠ .stuck := ⟨n, by rw [h]; exact hr⟩
  unfold sWhile
  rw [dif_pos ex]
  have hc := Classical.choose_spec ex
  have h1 := wN_add t b n ρ s (by rw [h]; exact hr) (Classical.choose ex)
  have h2 := wN_add t b (Classical.choose ex) ρ s hc n
  rw [Nat.add_comm] at h2
  rw [← h2, h1, h]
/-- one turn -/
theorem sWhile_step {t : TM} {b : SM} {ρ ρ' : En} {s s1 s' : Sto} (ht : t ρ s = .ok true s1) (hb : b ρ s1 = .nx ρ' s') : sWhile t b ρ s = sWhile t b ρ' s' := by
  have key : ∀ n, wN t b (n + 1) ρ s = wN t b n ρ' s' := fun n => by
    show wS t b (wN t b n) ρ s = _
    unfold wS
    rw [ht]
    simp only [ofE, if_true, hb]
  by_cases ex : ∃ n, wN t b n ρ' s' ≠ .stuck
  · obtain ⟨n, hn⟩ := ex
    rw [sWhile_of (n := n) rfl hn]
    exact sWhile_of (key n) hn
  · have ex' : ¬ ∃ n, wN t b n ρ s ≠ .stuck := fun ⟨n, hn⟩ => by
      cases n with
      | zero => exact hn rfl
      | succ n => exact ex ⟨n, by rw [← key n]; exact hn⟩
    unfold sWhile
    rw [dif_neg ex, dif_neg ex']
theorem sWhile_end {t : TM} {b : SM} {ρ : En} {s s1 : Sto} (ht : t ρ s = .ok false s1) : sWhile t b ρ s = .nx ρ s1 :=
  sWhile_of (n := 1) (by show wS t b _ ρ s = _; unfold wS; rw [ht]; rfl) (fun z => nomatch z)
theorem sWhile_ret {t : TM} {b : SM} {ρ : En} {s s1 s' : Sto} {d : D} (ht : t ρ s = .ok true s1) (hb : b ρ s1 = .rt d s') : sWhile t b ρ s = .rt d s' :=
  sWhile_of (n := 1) (by show wS t b _ ρ s = _; unfold wS; rw [ht]; simp only [ofE, if_true, hb]) (fun z => nomatch z)
section
variable {zz : List Addr} {X : Cx} {W : WX} {c : Expr} {body : List Stmt} {dt : TM} {db : SM} {pos : Pos}
theorem s_while (hp : PassesOwn (model X.prog X.w) X.A X.env X.xe) (hc : PT X c (tT (X.K, zz) W dt)) (hb : PSs X body (tS (X.K, zz) W db)) : PS X (.While c body [] pos) (tS (X.K, zz) W (sWhile dt db)) := by
  refine PS.imp (ps_while hp hc hb) fun D σ H ⟨m, ρ, s, hE, hS, hG⟩ => ?_
  refine ⟨fun n σ H => ∃ m ρ s, EnR (X.K, zz) m H ρ σ ∧ StR (X.K, zz) m H s ∧ GoodS (X.K, zz) W D m H (wN dt db n ρ s), ?_, ?_⟩
  · unfold sWhile at hG
    by_cases ex : ∃ n, wN dt db n ρ s ≠ .stuck
    · rw [dif_pos ex] at hG
      exact ⟨_, m, ρ, s, hE, hS, hG⟩
    · rw [dif_neg ex] at hG
      exact hG.elim
  · rintro n σ H ⟨m, ρ, s, hE, hS, hG⟩
    cases n with
    | zero => exact hG.elim
    | succ n =>
      have hG : GoodS (X.K, zz) W D m H (wS dt db (wN dt db n) ρ s) := hG
      unfold wS at hG
      refine ⟨m, ρ, s, hE, hS, (GoodS.ofE hS hE hG).mono fun b H1 ⟨m1, a, s1, e1, S1, q1, E1, g1⟩ => ?_⟩
      subst q1
      cases a with
      | false =>
        simp only [Bool.false_eq_true, if_false] at g1 ⊢
        exact g1 m1 H1 σ Ext.refl S1 E1
      | true =>
        simp only [if_true] at g1 ⊢
        refine ⟨fun σ' H' => ∃ m ρ s, EnR (X.K, zz) m H' ρ σ' ∧ StR (X.K, zz) m H' s ∧ GoodS (X.K, zz) W D m H' (wN dt db n ρ s), fun σ' H' h => ⟨n, Nat.lt_succ_self n, h⟩, m1, ρ, s1, E1, S1, ?_⟩
        cases e2 : db ρ s1 with
        | nx ρ' s' => rw [e2] at g1; exact fun m2 H2 σ2 f S q => ⟨m2, ρ', s', q, S, GoodS.trans f g1⟩
        | ct ρ' s' => rw [e2] at g1; exact fun m2 H2 σ2 f S q => ⟨m2, ρ', s', q, S, GoodS.trans f g1⟩
        | bk ρ' s' => rw [e2] at g1; exact g1
        | rt d s' => rw [e2] at g1; exact g1
        | exn x ρ' s' => rw [e2] at g1; exact g1
        | stuck => rw [e2] at g1; exact g1
end

/-! ### what is walked -/
structure Items where
  l : List D
  gd : Option Nat := none
abbrev IM := En → M Items
/-- the walk J gives the items -/
def ItW (K : KZ) (m : List Addr) (s : Sto) (it : Items) (J : It) (H : Hp) : Prop := ∀ zz m1 H1 s1, (∀ p ∈ zz, p ∈ K.2 ∨ H p = none) → Ext m H m1 H1 → StR (K.1, zz) m1 H1 s1 → (∀ n, it.gd = some n → s1[n]? = s[n]?) →
  (∀ i, i < it.l.length → J.go i H1) ∧ J.stop it.l.length H1 ∧ ∀ (i : Nat) d x H1', it.l[i]? = some d → J.yld i H1 x H1' → Same H1 H1' ∧ Rep (K.1, zz) m1 H1' d x
section
variable {k : PySem.W.Frag} {z z' : List Addr} {m m' : List Addr} {H H' : Hp} {s : Sto} {ρ : En} {σ : St}
/-- an exception's dict, a code object -/
def Kd : HO → Prop
  | .xd _ => True
  | .ext _ => True
  | _ => False
theorem kd_code (c : Addr) (q : Str) : Kd (LamX.CodeO c q) := by unfold LamX.CodeO; exact True.intro
theorem kd_odd (a : Addr) (o : Obj) (us : List V) : Kd (OddO a o us) := by unfold OddO; exact True.intro
theorem kd_nd {u : HO} (h : Kd u) : ∀ k, u ≠ .dK k := fun k z => by rw [z] at h; exact h
theorem kd_nt {u : HO} (h : Kd u) : NT u := fun ps z => by rw [z] at h; exact h
/-- a change of the world that data outlive -/
structure Chg (k : PySem.W.Frag) (z : List Addr) (m : List Addr) (H : Hp) (z' : List Addr) (m' : List Addr) (H' : Hp) : Prop where
  tup : ∀ a vs, SqT k H a vs → SqT k H' a vs
  scr : ∀ a vs, SqF k H a vs → SqF k H' a vs
  obj : ∀ a o, Nin (k, z) m a → H a = some o → NT o → Nin (k, z') m' a ∧ Lk H' a o
  xd : ∀ a u, Kd u → a ∉ m → H a = some u → a ∉ m' ∧ H' a = some u
  loc : ∀ (n : Nat) a, m[n]? = some a → m'[n]? = some a
theorem Chg.objE (c : Chg k z m H z' m' H') (a : Addr) (o : HO) (n : Nin (k, z) m a) (h : H a = some o) (t : NT o) (nd : ∀ k, o ≠ .dK k := by exact fun _ z => nomatch z) : Nin (k, z') m' a ∧ H' a = some o := ⟨(c.obj a o n h t).1, (c.obj a o n h t).2.eq nd⟩
mutual
theorem Rep.chg (c : Chg k z m H z' m' H') : ∀ {d : D} {v : V}, Rep (k, z) m H d v → Rep (k, z') m' H' d v
  | _, _, .non => .non
  | _, _, .bl b => .bl b
  | _, _, .int i => .int i
  | _, _, .str x => .str x
  | _, _, .tup h r => .tup (c.tup _ _ h) (RepL.chg c r)
  | _, _, .lst n h r => .lst (c.objE _ _ n h (fun _ z => nomatch z)).1 (c.objE _ _ n h (fun _ z => nomatch z)).2 (RepL.chg c r)
  | _, _, .scr h r => .scr (c.scr _ _ h) (RepL.chg c r)
  | _, _, .dic n l h r => by
    rcases h with h | ⟨o, h⟩
    · exact .dic (c.obj _ _ n h (fun _ z => nomatch z)).1 l (c.obj _ _ n h (fun _ z => nomatch z)).2.rd (RepL.chg c r)
    · exact .dic (c.obj _ _ n h (fun _ z => nomatch z)).1 l (.inr ⟨o, (c.objE _ _ n h (fun _ z => nomatch z)).2⟩) (RepL.chg c r)
  | _, _, .ins n l h r => .ins (c.objE _ _ n h (fun _ z => nomatch z)).1 l (c.objE _ _ n h (fun _ z => nomatch z)).2 (RepL.chg c r)
  | _, _, .loc h => .loc (c.loc _ _ h)
  | _, _, .adr a => .adr a
  | _, _, .xo n h r => .xo (c.xd _ (.xd _) True.intro n h).1 (c.xd _ (.xd _) True.intro n h).2 (Rep.chg c r)
  | _, _, .th n h r => .th (c.xd _ _ (kd_code _ _) n h).1 (c.xd _ _ (kd_code _ _) n h).2 (RepL.chg c r)
  | _, _, .odd n h r => .odd (c.xd _ _ (kd_odd _ _ _) n h).1 (c.xd _ _ (kd_odd _ _ _) n h).2 (RepL.chg c r)
theorem RepL.chg (c : Chg k z m H z' m' H') : ∀ {ds : List D} {vs : List V}, RepL (k, z) m H ds vs → RepL (k, z') m' H' ds vs
  | _, _, .nil => .nil
  | _, _, .cons h r => .cons (Rep.chg c h) (RepL.chg c r)
end
/-- the world goes on, new places may be hidden -/
theorem chg_ext (t : NoTup m H) (hz : ∀ p ∈ z', p ∈ z ∨ H p = none) (e : Ext m H m' H') : Chg k z m H z' m' H' where
  tup := fun a vs h => SqT.ext (K := (k, z)) t e h
  scr := fun a vs h => SqF.ext (K := (k, z)) t e h
  xd := fun a u k n h => ⟨e.notin ⟨_, h, kd_nt k⟩ n, e.keepE a _ h (kd_nt k) n (kd_nd k)⟩
  obj := fun a o n h t => ⟨⟨e.notin ⟨_, h, t⟩ n.1, fun q => by
    rcases hz a q with q | q
    · exact n.2 q
    · rw [h] at q; cases q⟩, e.keep a o h t n.1⟩
  loc := fun n a h => e.loc h
end
def GoodI (K : KZ) (W : WX) (σ : St) (m : List Addr) (H : Hp) (R : It → Hp → Prop) : Res Items → Prop
  | .ok it s' => ∀ m' H' J, Ext m H m' H' → StR K m' H' s' → ItW K m' s' it J H' → R J H'
  | .exn x s' => ∀ m' H' c d, Ext m H m' H' → StR K m' H' s' → ERep K m' H' x c d → W c d σ H'
  | .stuck => False
def iS (K : KZ) (W : WX) (e : IM) : TI := fun σ H R => ∃ m ρ s, EnR K m H ρ σ ∧ StR K m H s ∧ GoodI K W σ m H R (e ρ s)
theorem PI.imp {X : Cx} {tg e : Expr} {t t' : TI} (h : PI X tg e t) (i : ∀ σ H R, t' σ H R → t σ H R) : PI X tg e t' := ⟨fun pins s σ H R I q => h.run pins s σ H R I (i σ H R q)⟩
/-- the items of a value -/
def iOf {α : Type} (f : α → V1 Items) (e : En → M α) : IM := fun ρ => bnd (e ρ) fun a => lift (f a)
theorem iOf_in {α β : Type} {K : KZ} {W : WX} {rel : List Addr → Hp → α → β → Prop} {ma : En → M α} {f : α → V1 Items} {σ : St} {H : Hp} {R : It → Hp → Prop} (h : iS K W (iOf f ma) σ H R) :
    tG K rel W ma σ H fun v H1 => ∃ m1 a s1 it s2, StR K m1 H1 s1 ∧ rel m1 H1 a v ∧ f a s1 = some (it, s2) ∧ ∀ m' H' J, Ext m1 H1 m' H' → StR K m' H' s2 → ItW K m' s2 it J H' → R J H' := by
  obtain ⟨m, ρ, s, hE, hS, hG⟩ := h
  refine ⟨m, ρ, s, hE, hS, ?_⟩
  unfold iOf at hG
  have hG : GoodI K W σ m H R (bnd (ma ρ) (fun a => lift (f a)) s) := hG
  unfold bnd at hG
  cases e : ma ρ s with
  | stuck => rw [e] at hG; exact hG.elim
  | exn x s1 => rw [e] at hG; exact hG
  | ok a s1 =>
    rw [e] at hG
    intro m1 H1 v e1 S1 r1
    have hG : GoodI K W σ m H R (lift (f a) s1) := hG
    unfold lift at hG
    cases e2 : f a s1 with
    | none => rw [e2] at hG; exact hG.elim
    | some p =>
      rw [e2] at hG
      exact ⟨m1, a, s1, p.1, p.2, S1, r1, e2, fun m' H' J f' => hG m' H' J (e1.trans f')⟩
/-- a list, a tuple: guarded where it is of the store -/
def itSeq (x : D) : V1 Items := fun s => match x with
  | .loc n => match s[n]? with
    | some (.lst l) => some (⟨l, some n⟩, s)
    | _ => none
  | .lst l => some (⟨l, none⟩, s)
  | .scr l => some (⟨l, none⟩, s)
  | _ => none
def itTup (x : D) : V1 Items := fun s => match x with
  | .tup l => some (⟨l, none⟩, s)
  | _ => none
def signs (z : Str) : List D := z.cps.toList.map fun c => .str ⟨#[c]⟩
def itStr (x : D) : V1 Items := fun s => match x with
  | .str z => some (⟨signs z, none⟩, s)
  | _ => none
def rngD (lo : Int) (n : Nat) : List D := (List.range n).map fun i => .int (lo + (i : Nat))
def itRng1 (xs : List D) : V1 Items := fun s => match xs with
  | [.int j] => if -(2 ^ 62) ≤ j ∧ j < 2 ^ 62 then some (⟨rngD 0 j.toNat, none⟩, s) else none
  | _ => none
def itRng2 (xs : List D) : V1 Items := fun s => match xs with
  | [.int i, .int j] => if -(2 ^ 62) ≤ i ∧ i < 2 ^ 62 ∧ -(2 ^ 62) ≤ j ∧ j < 2 ^ 62 then some (⟨rngD i (j - i).toNat, none⟩, s) else none
  | _ => none
theorem rngD_at {lo : Int} {n i : Nat} {d : D} (h : (rngD lo n)[i]? = some d) : i < n ∧ d = .int (lo + (i : Nat)) := by
  unfold rngD at h
  rw [List.getElem?_map] at h
  obtain ⟨j, h1, h2⟩ := Option.map_eq_some_iff.mp h
  obtain ⟨h3, h4⟩ := List.getElem?_eq_some_iff.mp h1
  rw [List.getElem_range] at h4
  rw [List.length_range] at h3
  exact ⟨h3, by rw [← h2, h4]⟩
section
variable {K : KZ} {m : List Addr} {s : Sto} {H : Hp} {a : Addr} {l : List D} {vs : List V}
theorem itw_of_list {it : Items} (st : ∀ zz m1 H1 s1, (∀ p ∈ zz, p ∈ K.2 ∨ H p = none) → Ext m H m1 H1 → StR (K.1, zz) m1 H1 s1 → (∀ n, it.gd = some n → s1[n]? = s[n]?) → ∃ vs, SqL K.1 H1 a vs ∧ RepL (K.1, zz) m1 H1 it.l vs) : ItW K m s it (Itl K.1 a) H := by
  intro zz m1 H1 s1 hz e S g
  obtain ⟨vs, h1, h2⟩ := st zz m1 H1 s1 hz e S g
  refine ⟨fun i hi => ?_, ⟨vs, h1, by rw [h2.length]; exact Nat.le_refl _⟩, fun i d x H' hd hy => ?_⟩
  · have hi' : i < vs.length := by rw [← h2.length]; exact hi
    exact ⟨vs, vs[i], h1, List.getElem?_eq_getElem hi'⟩
  · obtain ⟨e1, e2⟩ := hy
    subst e1
    obtain ⟨v, h3, h4⟩ := h2.get hd
    have := e2 vs h1
    rw [h3] at this
    cases this
    exact ⟨Same.refl _, h4⟩
theorem itw_of_tup (S0 : StR K m H s) (h1 : SqT K.1 H a vs) (h2 : RepL K m H l vs) : ItW K m s ⟨l, none⟩ (Itt K.1 a) H := by
  intro zz m1 H1 s1 hz e S _
  have q1 : SqT K.1 H1 a vs := SqT.ext S0.noTup e h1
  have q2 : RepL (K.1, zz) m1 H1 l vs := RepL.chg (chg_ext S0.noTup hz e) h2
  refine ⟨fun i hi => ?_, ⟨vs, q1, by show vs.length ≤ l.length; rw [h2.length]; exact Nat.le_refl _⟩, fun i d x H' hd hy => ?_⟩
  · have hi' : i < vs.length := by rw [← h2.length]; exact hi
    exact ⟨vs, vs[i], q1, List.getElem?_eq_getElem hi'⟩
  · obtain ⟨e1, e2⟩ := hy
    subst e1
    obtain ⟨v, h3, h4⟩ := q2.get hd
    have := e2 vs q1
    rw [h3] at this
    cases this
    exact ⟨Same.refl _, h4⟩
theorem itw_rng {lo : Int} {n : Nat} : ItW K m s ⟨rngD lo n, none⟩ (Itr lo n) H := by
  intro zz m1 H1 s1 hz e S _
  have hl : (rngD lo n).length = n := by simp [rngD]
  refine ⟨fun i hi => ?_, ?_, fun i d x H' hd hy => ?_⟩
  · show i < n
    rw [← hl]; exact hi
  · show n ≤ (rngD lo n).length
    rw [hl]; exact Nat.le_refl _
  · obtain ⟨e1, e2⟩ := hy
    subst e1
    obtain ⟨_, rfl⟩ := rngD_at hd
    subst e2
    exact ⟨Same.refl _, .int _⟩
theorem itw_str {z : Str} : ItW K m s ⟨signs z, none⟩ (Its z) H := by
  intro zz m1 H1 s1 hz e S _
  have hl : (signs z).length = z.cps.size := by simp [signs]
  refine ⟨fun i hi => ?_, ?_, fun i d x H' hd hy => ?_⟩
  · show i < z.cps.size
    rw [← hl]; exact hi
  · show z.cps.size ≤ (signs z).length
    rw [hl]; exact Nat.le_refl _
  · obtain ⟨e1, c, e2, e3⟩ := hy
    subst e1
    unfold signs at hd
    have hd : ((z.cps.toList)[i]?).map (fun c => D.str ⟨#[c]⟩) = some d := by rw [← List.getElem?_map]; exact hd
    rw [Array.getElem?_toList, e2] at hd
    cases hd
    subst e3
    exact ⟨Same.refl _, .str _⟩
end
section
variable {zz : List Addr} {X : Cx} {W : WX} {tg e : Expr} {es : List Expr} {de : EM} {da : AM}
theorem si_seq (he : PE X e (tE (X.K, zz) W de)) : PI X tg e (iS (X.K, zz) W (iOf itSeq de)) :=
  PI.imp (pi_list he) fun σ H R h => tG.mono (fun v H1 ⟨m1, d, s1, it, s2, S1, q1, e1, hR⟩ => by
    have fin : ∀ a vs, SqL X.K H1 a vs → s1 = s2 → (∀ zz1 m2 H2 s3, (∀ p ∈ zz1, p ∈ zz ∨ H1 p = none) → Ext m1 H1 m2 H2 → StR (X.K, zz1) m2 H2 s3 → (∀ n, it.gd = some n → s3[n]? = s2[n]?) → ∃ vs, SqL X.K H2 a vs ∧ RepL (X.K, zz1) m2 H2 it.l vs) →
        (∃ xs, SqL X.K H1 a xs) ∧ R (Itl X.K a) H1 := fun a vs h1 es h3 => by
      subst es
      exact ⟨⟨vs, h1⟩, hR m1 H1 _ Ext.refl S1 (itw_of_list h3)⟩
    cases q1 with
    | @lst a ds vs n e q =>
      cases e1
      exact ⟨a, rfl, fin a vs (.inl (.inl e)) rfl fun zz1 m2 H2 s3 hz f S3 _ => ⟨vs, .inl (.inl (f.keepE a _ e (fun _ z => nomatch z) n.1)), q.chg (chg_ext S1.noTup hz f)⟩⟩
    | @scr a ds vs e q =>
      cases e1
      exact ⟨a, rfl, fin a vs e.l rfl fun zz1 m2 H2 s3 hz f S3 _ => ⟨vs, (SqF.ext (K := (X.K, zz)) S1.noTup f e).l, q.chg (chg_ext S1.noTup hz f)⟩⟩
    | @loc n a e =>
      have e1 : (match s1[n]? with
        | some (.lst l) => some ((⟨l, some n⟩ : Items), s1)
        | _ => none) = some (it, s2) := e1
      cases z : s1[n]? with
      | none => rw [z] at e1; cases e1
      | some o =>
        rw [z] at e1
        cases o with
        | lst l =>
          cases e1
          obtain ⟨vs, h1, h2⟩ := S1.obj n a _ e z
          refine ⟨a, rfl, fin a vs (.inl (.inl h1)) rfl fun zz1 m2 H2 s3 hz f S3 g => ?_⟩
          obtain ⟨us, h3, h4⟩ := S3.obj n a (.lst l) (f.loc e) (by rw [g n rfl]; exact z)
          exact ⟨us, .inl (.inl h3), h4⟩
        | _ => cases e1
    | _ => cases e1) (iOf_in h)
theorem si_tup (he : PE X e (tE (X.K, zz) W de)) : PI X tg e (iS (X.K, zz) W (iOf itTup de)) :=
  PI.imp (pi_tup he) fun σ H R h => tG.mono (fun v H1 ⟨m1, d, s1, it, s2, S1, q1, e1, hR⟩ => by
    cases q1 with
    | @tup a ds vs e q =>
      cases e1
      exact ⟨a, rfl, ⟨vs, e⟩, hR m1 H1 _ Ext.refl S1 (itw_of_tup S1 e q)⟩
    | _ => cases e1) (iOf_in h)
theorem si_str (he : PE X e (tE (X.K, zz) W de)) : PI X tg e (iS (X.K, zz) W (iOf itStr de)) :=
  PI.imp (pi_str he) fun σ H R h => tG.mono (fun v H1 ⟨m1, d, s1, it, s2, S1, q1, e1, hR⟩ => by
    cases q1 with
    | str z =>
      cases e1
      exact ⟨z, rfl, hR m1 H1 _ Ext.refl S1 itw_str⟩
    | _ => cases e1) (iOf_in h)
theorem si_rng1 {p pos : Pos} (hm : X.mg "range" = none) (ha : PA X [e] (tA (X.K, zz) W da)) (hg : Gl X "range" := by rfl) (hs : starEach [e] X.env = [(false, eval e X.env)] := by rfl) : PI X tg (.Call (.Name "range" p) [e] [] pos) (iS (X.K, zz) W (iOf itRng1 da)) :=
  PI.imp (pi_range1 hg hm ha hs) fun σ H R h => tG.mono (fun vs H1 ⟨m1, ds, s1, it, s2, S1, q1, e1, hR⟩ => by
    rcases two_or q1 with rfl | ⟨d, v, rfl, rfl, hd⟩ | ⟨d, e', v, u, rfl, rfl, hd, he⟩ | ⟨a, b, c, l, rfl⟩
    · cases e1
    · cases hd with
      | int j =>
        have e1 : (if -(2 ^ 62) ≤ j ∧ j < 2 ^ 62 then some ((⟨rngD 0 j.toNat, none⟩ : Items), s1) else none) = some (it, s2) := e1
        by_cases z : -(2 ^ 62) ≤ j ∧ j < 2 ^ 62
        · rw [if_pos z] at e1
          cases e1
          exact ⟨j, rfl, z.1, z.2, hR m1 H1 _ Ext.refl S1 itw_rng⟩
        · rw [if_neg z] at e1; cases e1
      | _ => cases e1
    · cases hd <;> cases e1
    · cases a <;> cases e1) (iOf_in h)
theorem si_rng2 {b : Expr} {p pos : Pos} (hm : X.mg "range" = none) (ha : PA X [e, b] (tA (X.K, zz) W da)) (hg : Gl X "range" := by rfl) (hs : starEach [e, b] X.env = [(false, eval e X.env), (false, eval b X.env)] := by rfl) (hs2 : starEach [b] X.env = [(false, eval b X.env)] := by rfl) :
    PI X tg (.Call (.Name "range" p) [e, b] [] pos) (iS (X.K, zz) W (iOf itRng2 da)) :=
  PI.imp (pi_range2 hg hm ha hs hs2) fun σ H R h => tG.mono (fun vs H1 ⟨m1, ds, s1, it, s2, S1, q1, e1, hR⟩ => by
    rcases two_or q1 with rfl | ⟨d, v, rfl, rfl, hd⟩ | ⟨d, e', v, u, rfl, rfl, hd, he⟩ | ⟨a, b', c, l, rfl⟩
    · cases e1
    · cases hd <;> cases e1
    · cases hd with
      | int i =>
        cases he with
        | int j =>
          have e1 : (if -(2 ^ 62) ≤ i ∧ i < 2 ^ 62 ∧ -(2 ^ 62) ≤ j ∧ j < 2 ^ 62 then some ((⟨rngD i (j - i).toNat, none⟩ : Items), s1) else none) = some (it, s2) := e1
          by_cases z : -(2 ^ 62) ≤ i ∧ i < 2 ^ 62 ∧ -(2 ^ 62) ≤ j ∧ j < 2 ^ 62
          · rw [if_pos z] at e1
            cases e1
            exact ⟨i, j, rfl, z, hR m1 H1 _ Ext.refl S1 itw_rng⟩
          · rw [if_neg z] at e1; cases e1
        | _ => cases e1
      | _ => cases e1
    · cases a <;> cases b' <;> cases e1) (iOf_in h)
end

/-! ### for -/
open Classical in
noncomputable def forL (g : GM) (b : SM) (gd : Option Nat) (s0 : Sto) : List D → SM
  | [] => fun ρ s => .nx ρ s
  | d :: r => fun ρ s => match g d ρ with
    | none => .stuck
    | some ρ1 => match b ρ1 s with
      | .nx ρ' s' => if ∀ n, gd = some n → s'[n]? = s0[n]? then forL g b gd s0 r ρ' s' else .stuck
      | .ct ρ' s' => if ∀ n, gd = some n → s'[n]? = s0[n]? then forL g b gd s0 r ρ' s' else .stuck
      | .bk ρ' s' => .nx ρ' s'
      | r => r
noncomputable def sFor (i : IM) (g : GM) (b : SM) : SM := fun ρ s => ofE (i ρ s) ρ fun it s' => forL g b it.gd s' it.l ρ s'
theorem GoodS.ofI {K : KZ} {W : WX} {D : Ends} {m : List Addr} {H : Hp} {s : Sto} {ρ : En} {σ : St} {r : Res Items} {k : Items → Sto → SRes} (hS : StR K m H s) (hE : EnR K m H ρ σ) (h : GoodS K W D m H (QS.ofE r ρ k)) :
    GoodI K W σ m H (fun J H1 => ∃ m1 it s1, StR K m1 H1 s1 ∧ ItW K m1 s1 it J H1 ∧ EnR K m1 H1 ρ σ ∧ GoodS K W D m1 H1 (k it s1)) r := by
  cases r with
  | ok it s1 => exact fun m1 H1 J e1 S1 w => ⟨m1, it, s1, S1, w, hE.ext hS.noTup e1, GoodS.trans e1 h⟩
  | exn x s1 => exact fun m1 H1 c d e1 S1 r1 => h m1 H1 σ c d e1 S1 (hE.ext hS.noTup e1) r1
  | stuck => exact h
theorem s_for {zz : List Addr} {X : Cx} {W : WX} {tg iter : Expr} {body : List Stmt} {di : IM} {g : GM} {db : SM} {pos : Pos} (hp : PassesOwn (model X.prog X.w) X.A X.env X.xe) (hi : PI X tg iter (iS (X.K, zz) W di)) (hg : PG X tg (gS (X.K, zz) g)) (hb : PSs X body (tS (X.K, zz) W db)) (hc : X.calm = true := by rfl)
    (hs : ∀ x, foldedSetIterable iter X.env x = pure x := by intro _; rfl) : PS X (.For tg iter body [] pos) (tS (X.K, zz) W (sFor di g db)) := by
  refine PS.imp (ps_for hp hc hi hg hb hs) fun D σ H ⟨m, ρ, s, hE, hS, hG⟩ => ⟨m, ρ, s, hE, hS, ?_⟩
  have h := GoodS.ofI hS hE hG
  cases e : di ρ s with
  | stuck => rw [e] at h; exact h
  | exn x s1 => rw [e] at h; exact h
  | ok it s1 =>
    rw [e] at h
    intro m1 H1 J e1 S1 w
    obtain ⟨m1', it', s1', S1', w', E1, g1⟩ := h m1 H1 J e1 S1 w
    clear h w S1 e1 e hG hE hS
    refine ⟨fun i n σ H => n = it'.l.length - i ∧ i ≤ it'.l.length ∧ ∃ m2 ρ2 s2, Ext m1' H1 m2 H ∧ EnR (X.K, zz) m2 H ρ2 σ ∧ StR (X.K, zz) m2 H s2 ∧ (∀ k, it'.gd = some k → s2[k]? = s1'[k]?) ∧ GoodS (X.K, zz) W D m2 H (forL g db it'.gd s1' (it'.l.drop i) ρ2 s2),
      ⟨_, rfl, Nat.zero_le _, m1', ρ, s1', Ext.refl, E1, S1', fun _ _ => rfl, by simpa using g1⟩, ?_⟩
    rintro i n σ2 H2 ⟨rfl, hi, m2, ρ2, s2, f2, E2, S2, gd2, G2⟩
    obtain ⟨go, stop, yld⟩ := w' zz m2 H2 s2 (fun p hp => .inl hp) f2 S2 gd2
    by_cases hlt : i < it'.l.length
    · refine .inr ⟨go i hlt, fun σ' H' => i + 1 ≤ it'.l.length ∧ ∃ m3 ρ3 s3, Ext m1' H1 m3 H' ∧ EnR (X.K, zz) m3 H' ρ3 σ' ∧ StR (X.K, zz) m3 H' s3 ∧ (∀ k, it'.gd = some k → s3[k]? = s1'[k]?) ∧ GoodS (X.K, zz) W D m3 H' (forL g db it'.gd s1' (it'.l.drop (i + 1)) ρ3 s3),
        fun σ' H' ⟨hl, hN⟩ => ⟨it'.l.length - (i + 1), by omega, rfl, hl, hN⟩, fun x H' hy => ?_⟩
      obtain ⟨sm, rx⟩ := yld i it'.l[i] x H' (List.getElem?_eq_getElem hlt) hy
      have f3 : Ext m2 H2 m2 H' := Ext.same sm
      rw [List.drop_eq_getElem_cons hlt] at G2
      unfold forL at G2
      have E3 := E2.ext S2.noTup f3
      cases eg : g it'.l[i] ρ2 with
      | none => simp only [eg] at G2; exact G2.elim
      | some ρ3 =>
        simp only [eg] at G2
        refine ⟨m2, ρ2, it'.l[i], ρ3, E3, rx, eg, fun σ3 E4 => ⟨m2, ρ3, s2, E4, S2.same sm, ?_⟩⟩
        have G3 := GoodS.trans f3 G2
        cases eb : db ρ3 s2 with
        | nx ρ' s' =>
          simp only [eb] at G3
          intro m4 H4 σ4 f4 S4 E5
          by_cases z : ∀ n, it'.gd = some n → s'[n]? = s1'[n]?
          · rw [if_pos z] at G3
            exact ⟨hlt, m4, ρ', s', f2.trans (f3.trans f4), E5, S4, z, GoodS.trans f4 G3⟩
          · rw [if_neg z] at G3; exact G3.elim
        | ct ρ' s' =>
          simp only [eb] at G3
          intro m4 H4 σ4 f4 S4 E5
          by_cases z : ∀ n, it'.gd = some n → s'[n]? = s1'[n]?
          · rw [if_pos z] at G3
            exact ⟨hlt, m4, ρ', s', f2.trans (f3.trans f4), E5, S4, z, GoodS.trans f4 G3⟩
          · rw [if_neg z] at G3; exact G3.elim
        | bk ρ' s' => simp only [eb] at G3; exact G3
        | rt d s' => simp only [eb] at G3; exact G3
        | exn x ρ' s' => simp only [eb] at G3; exact G3
        | stuck => simp only [eb] at G3; exact G3
    · have ei : i = it'.l.length := by omega
      subst ei
      refine .inl ⟨stop, ?_⟩
      rw [List.drop_length] at G2
      exact G2 m2 H2 σ2 Ext.refl S2 E2

/-! ### defs -/
/-- a def's body at arguments; N slots -/
def run (N : Nat) (b : SM) (args : List D) : M D := fun s => match b (args.map some ++ List.replicate (N - args.length) none) s with
  | .nx _ s' => .ok .non s'
  | .rt d s' => .ok d s'
  | .exn x _ s' => .exn x s'
  | _ => .stuck
theorem EnR.start {K : KZ} {m : List Addr} {H : Hp} {ds : List D} {vs : List V} (r : RepL K m H ds vs) (N : List Str) : EnR K m H (ds.map some ++ List.replicate (N.length - ds.length) none) (L2.start N vs) := by
  unfold L2.start
  refine ⟨by simp [r.length], fun i d h => ?_⟩
  by_cases hi : i < ds.length
  · rw [List.getElem?_append_left (by simpa using hi), List.getElem?_map] at h
    obtain ⟨d', h1, h2⟩ := Option.map_eq_some_iff.mp h
    cases h2
    obtain ⟨v, h3, h4⟩ := r.get h1
    refine ⟨v, ?_, h4⟩
    rw [List.getElem?_append_left (by rw [List.length_map, ← r.length]; exact hi), List.getElem?_map, h3]
    rfl
  · rw [List.getElem?_append_right (by simpa using hi), List.getElem?_replicate] at h
    split at h <;> cases h
/-- the wish of a def's body -/
abbrev WF (E : XK) : WX := fun c d _ H => E c d H
/-- the code object of the def at f -/
def CodeAt (K : PySem.W.Frag) (f : Addr) (cdv : Value) : Prop := ∃ (c : Addr) (oc : Value) (od : Option Addr) (osl : Array (Option Value)) (fd : FuncData), cdv = .ref c ∧ K.lookup f = some ⟨oc, od, .func fd, osl⟩ ∧ fd.code = .ref c
theorem ok_def {P : Program} {w : World} {K : PySem.W.Frag} {mg : Str → Option Value} {base : Heap} {x qual : Str} {params : Arguments} {body : List Stmt} {scope : Scope} {f : Addr} {fd : FuncData} {N ps : List Str} {k : Nat} {b : SM}
    (F : FunD K x qual params body scope [] [] f fd) (S : FnScope N ps scope)
    (h : ∀ (zz : List Addr) (cdv : Value) (A : Around) (outer : List Env) (s : Shared) (H : Hp) (E : XK), CodeAt K f cdv → RoomG k (A.deeper (envOfC qual scope s.heap.objs.size f cdv)) →
      Takes (cxOf (L2.CX P w) P w K mg base N qual scope f cdv A outer s H E) (WF E) → PassesOwn (model P w) (A.deeper (envOfC qual scope s.heap.objs.size f cdv)) (envOfC qual scope s.heap.objs.size f cdv) (cxOf (L2.CX P w) P w K mg base N qual scope f cdv A outer s H E).xe →
      PSs (cxOf (L2.CX P w) P w K mg base N qual scope f cdv A outer s H E) body (tS (K, zz) (WF E) b)) :
    FnG P w K mg base (L2.CX P w) (k + 1) f fd ps (spF K ps.length (run N.length b)) := by
  obtain ⟨oc, od, dV, kV, doc, pm, an, cdv, ct, osl, rfl, lk, hcd, _, _⟩ := F.ex
  obtain ⟨cc, ecc⟩ := He.codeIn_ref hcd
  subst ecc
  refine ⟨fun vs H Q E q => q.1, fun A outer s H args us vs Q E hr e0 bb rv ⟨hl, zz, m, ds, st, r, S', hG⟩ => ?_⟩
  refine LamX.run_ofS (N := N) (ps := ps) lk hcd S hr.r e0 bb rv hl fun _ => ?_
  refine ⟨_, h zz (.ref cc) A outer s H E ⟨cc, _, _, _, _, rfl, lk, rfl⟩ (hr.deeper _) (takes_of rfl rfl rfl rfl) (passes_of rfl), ?_⟩
  refine ⟨m, _, st, EnR.start r N, S', ?_⟩
  unfold run at hG
  cases e : b (ds.map some ++ List.replicate (N.length - ds.length) none) st with
  | nx ρ s' => simp only [e] at hG; exact fun m' H' σ' f S q => hG m' H' _ f S .non
  | rt d s' => simp only [e] at hG; exact fun m' H' v f S q => hG m' H' v f S q
  | bk ρ s' => simp only [e] at hG
  | ct ρ s' => simp only [e] at hG
  | exn x ρ s' => simp only [e] at hG; exact fun m' H' σ' c d f S _ q => hG m' H' c d f S q
  | stuck => simp only [e] at hG
end QS
end

section
set_option Elab.async false
set_option linter.all false
set_option maxRecDepth 100000
set_option maxHeartbeats 4000000
/-! QS5: sealing, displays, slices, comprehensions, objects, methods. -/
namespace QS
open PySem PySem.Spec PyProof.Rows L2
/-! ### sealing: what a def has laid of the store is left behind -/
mutual
def closed (n : Nat) : D → Bool
  | .tup l => closedL n l
  | .lst l => closedL n l
  | .scr l => closedL n l
  | .dic _ l => closedL n l
  | .ins _ _ l => closedL n l
  | .loc j => decide (j < n)
  | .non => true
  | .adr _ => true
  | .xo _ _ _ d => closed n d
  | .th _ _ _ ds _ => closedL n ds
  | .odd ds => closedL n ds
  | .bl _ => true
  | .int _ => true
  | .str _ => true
def closedL (n : Nat) : List D → Bool
  | [] => true
  | d :: r => closed n d && closedL n r
end
def O.closed (n : Nat) : O → Bool
  | .lst l => closedL n l
  | .dic _ l => closedL n l
  | .ins _ _ l => closedL n l
def frz : Nat → Nat → Sto → D → Option D
  | 0, n, _, d => if closed n d = true then some d else none
  | k + 1, n, s, d => if closed n d = true then some d else match d with
    | .loc j => (match s[j]? with
      | some (.lst l) => (l.mapM (frz k n s)).map .lst
      | some (.dic ks l) => (l.mapM (frz k n s)).map (.dic ks)
      | some (.ins c fs l) => (l.mapM (frz k n s)).map (.ins c fs)
      | none => none)
    | .tup l => (l.mapM (frz k n s)).map .tup
    | .lst l => (l.mapM (frz k n s)).map .lst
    | .dic ks l => (l.mapM (frz k n s)).map (.dic ks)
    | .ins c fs l => (l.mapM (frz k n s)).map (.ins c fs)
    | _ => none
def OldOk (s s' : Sto) : Prop := s.length ≤ s'.length ∧ ∀ i, i < s.length → s'[i]? = s[i]? ∨ ∃ o, s'[i]? = some o ∧ o.closed s.length = true
open Classical in
noncomputable def sealR (s : Sto) : Res D → Res D
  | .ok d s' => match frz 4 s.length s' d with
    | some d' => if OldOk s s' then .ok d' (s'.take s.length) else .stuck
    | none => .stuck
  | .exn x s' => match x.arg with
    | none => if OldOk s s' then .exn x (s'.take s.length) else .stuck
    | some (f, a) => if closed s.length a = true ∧ OldOk s s' then .exn x (s'.take s.length) else .stuck
  | .stuck => .stuck
noncomputable def sealF (F : List D → M D) : List D → M D := fun xs s => sealR s (F xs s)
noncomputable def eSeal (e : EM) : EM := fun ρ s => sealR s (e ρ s)
section
variable {K : KZ} {m m0 m' : List Addr} {H H0 H' : Hp} {s s0 s' : Sto}
theorem notin_take {a : Addr} {n : Nat} (h : a ∉ m) : a ∉ m.take n := fun z => h (List.mem_of_mem_take z)
theorem nin_take {a : Addr} {n : Nat} (h : Nin K m a) : Nin K (m.take n) a := ⟨notin_take h.1, h.2⟩
mutual
theorem closed_take {n : Nat} : ∀ {d : D} {v : V}, Rep K m H d v → closed n d = true → Rep K (m.take n) H d v
  | _, _, .non, _ => .non
  | _, _, .bl b, _ => .bl b
  | _, _, .int i, _ => .int i
  | _, _, .str x, _ => .str x
  | _, _, .adr x, _ => .adr x
  | _, _, .xo a h r, c => .xo (notin_take a) h (closed_take r (by simpa only [closed] using c))
  | _, _, .th a h r, c => .th (notin_take a) h (closedL_take r (by simpa only [closed] using c))
  | _, _, .odd a h r, c => .odd (notin_take a) h (closedL_take r (by simpa only [closed] using c))
  | _, _, .tup h r, c => .tup h (closedL_take r (by simpa only [closed] using c))
  | _, _, .lst a h r, c => .lst (nin_take a) h (closedL_take r (by simpa only [closed] using c))
  | _, _, .scr h r, c => .scr h (closedL_take r (by simpa only [closed] using c))
  | _, _, .dic a l h r, c => .dic (nin_take a) l h (closedL_take r (by simpa only [closed] using c))
  | _, _, .ins a l h r, c => .ins (nin_take a) l h (closedL_take r (by simpa only [closed] using c))
  | _, _, .loc (n := j) h, c => .loc (by
    have z : j < n := by simpa only [closed, decide_eq_true_eq] using c
    rw [List.getElem?_take_of_lt z]
    exact h)
theorem closedL_take {n : Nat} : ∀ {ds : List D} {vs : List V}, RepL K m H ds vs → closedL n ds = true → RepL K (m.take n) H ds vs
  | _, _, .nil, _ => .nil
  | d :: ds, _, .cons h r, c => by
    have c' : closed n d = true ∧ closedL n ds = true := by simpa only [closedL, Bool.and_eq_true] using c
    exact .cons (closed_take h c'.1) (closedL_take r c'.2)
end
mutual
theorem closed_of : ∀ {d : D} {v : V}, Rep K m H d v → closed m.length d = true
  | _, _, .non => by simp only [closed]
  | _, _, .bl b => by simp only [closed]
  | _, _, .int i => by simp only [closed]
  | _, _, .str x => by simp only [closed]
  | _, _, .adr x => by simp only [closed]
  | _, _, .xo a h r => by simp only [closed]; exact closed_of r
  | _, _, .th a h r => by simp only [closed]; exact closedL_of r
  | _, _, .odd a h r => by simp only [closed]; exact closedL_of r
  | _, _, .tup h r => by simp only [closed]; exact closedL_of r
  | _, _, .lst a h r => by simp only [closed]; exact closedL_of r
  | _, _, .scr h r => by simp only [closed]; exact closedL_of r
  | _, _, .dic a l h r => by simp only [closed]; exact closedL_of r
  | _, _, .ins a l h r => by simp only [closed]; exact closedL_of r
  | _, _, .loc h => by simp only [closed, decide_eq_true_eq]; exact (List.getElem?_eq_some_iff.mp h).1
theorem closedL_of : ∀ {ds : List D} {vs : List V}, RepL K m H ds vs → closedL m.length ds = true
  | _, _, .nil => by simp only [closedL]
  | _, _, .cons h r => by simp only [closedL, closed_of h, closedL_of r, Bool.and_self]
end
theorem mapM_rep {f : D → Option D} {n : Nat} (hf : ∀ d v d', Rep K m H d v → f d = some d' → Rep K (m.take n) H d' v) : ∀ {ds : List D} {vs : List V} {ds' : List D}, RepL K m H ds vs → ds.mapM f = some ds' → RepL K (m.take n) H ds' vs
  | _, _, _, .nil, h => by simp at h; subst h; exact .nil
  | d :: r, _, _, .cons hd hr, h => by
    rw [List.mapM_cons] at h
    cases e1 : f d with
    | none => rw [e1] at h; cases h
    | some d' =>
      rw [e1] at h
      cases e2 : r.mapM f with
      | none => rw [e2] at h; cases h
      | some r' =>
        rw [e2] at h
        cases h
        exact .cons (hf _ _ _ hd e1) (mapM_rep hf hr e2)
theorem frz_rep (S : StR K m H s) : ∀ (k n : Nat) (d : D) (v : V) (d' : D), Rep K m H d v → frz k n s d = some d' → Rep K (m.take n) H d' v
  | 0, n, d, v, d', r, h => by
    unfold frz at h
    by_cases c : closed n d = true
    · rw [if_pos c] at h; cases h; exact closed_take r c
    · rw [if_neg c] at h; cases h
  | k + 1, n, d, v, d', r, h => by
    unfold frz at h
    by_cases c : closed n d = true
    · rw [if_pos c] at h; cases h; exact closed_take r c
    · rw [if_neg c] at h
      have ih := frz_rep S k n
      cases r with
      | @loc j a e =>
        have nj : ¬ j < n := fun z => c (by simp only [closed, decide_eq_true_eq]; exact z)
        have na : Nin K (m.take n) a := by
          refine ⟨fun z => ?_, fun z => (S.hid a z).2 (List.mem_of_getElem? e)⟩
          obtain ⟨i, hi, e2⟩ := List.mem_iff_getElem.mp z
          rw [List.length_take] at hi
          rw [List.getElem_take] at e2
          obtain ⟨h1, h2⟩ := List.getElem?_eq_some_iff.mp e
          have := (List.getElem_inj S.nd).mp (e2.trans h2.symm)
          omega
        cases z : s[j]? with
        | none => simp only [z] at h; cases h
        | some o =>
          simp only [z] at h
          have q := S.obj j a o e z
          cases o with
          | lst l =>
            obtain ⟨l', h1, h2⟩ := Option.map_eq_some_iff.mp h
            subst h2
            obtain ⟨vs, e1, q1⟩ := q
            exact .lst na e1 (mapM_rep (fun d v d' => ih d v d') q1 h1)
          | dic ks l =>
            obtain ⟨l', h1, h2⟩ := Option.map_eq_some_iff.mp h
            subst h2
            obtain ⟨vs, l1, e1, q1⟩ := q
            exact .dic na l1 (.inl e1) (mapM_rep (fun d v d' => ih d v d') q1 h1)
          | ins c fs l =>
            obtain ⟨l', h1, h2⟩ := Option.map_eq_some_iff.mp h
            subst h2
            obtain ⟨dx, vs, l1, e1, q1⟩ := q
            exact .ins na l1 e1 (mapM_rep (fun d v d' => ih d v d') q1 h1)
      | tup h0 q1 =>
        obtain ⟨l', h1, h2⟩ := Option.map_eq_some_iff.mp h
        subst h2
        exact .tup h0 (mapM_rep (fun d v d' => ih d v d') q1 h1)
      | lst n0 h0 q1 =>
        obtain ⟨l', h1, h2⟩ := Option.map_eq_some_iff.mp h
        subst h2
        exact .lst (nin_take n0) h0 (mapM_rep (fun d v d' => ih d v d') q1 h1)
      | dic n0 l0 h0 q1 =>
        obtain ⟨l', h1, h2⟩ := Option.map_eq_some_iff.mp h
        subst h2
        exact .dic (nin_take n0) l0 h0 (mapM_rep (fun d v d' => ih d v d') q1 h1)
      | ins n0 l0 h0 q1 =>
        obtain ⟨l', h1, h2⟩ := Option.map_eq_some_iff.mp h
        subst h2
        exact .ins (nin_take n0) l0 h0 (mapM_rep (fun d v d' => ih d v d') q1 h1)
      | _ => cases h
theorem seal_ext (e : Ext m0 H0 m' H') : Ext m0 H0 m0 H' := ⟨⟨[], by simp, fun _ h => by cases h⟩, e.keep, e.there⟩
theorem seal_take (S0 : StR K m0 H0 s0) (e : Ext m0 H0 m' H') : m'.take s0.length = m0 := by
  obtain ⟨t, rfl, _⟩ := e.more
  rw [← S0.len]
  simp
theorem seal_str (S0 : StR K m0 H0 s0) (e : Ext m0 H0 m' H') (S : StR K m' H' s') (h : OldOk s0 s') : StR K m0 H' (s'.take s0.length) := by
  have et := seal_take S0 e
  refine ⟨by rw [List.length_take, S0.len]; have := h.1; omega, S0.nd, fun d hd => ⟨(S.hid d hd).1, (S0.hid d hd).2⟩, fun i a o h1 h2 => ?_, S.tab⟩
  have hi : i < s0.length := by rw [← S0.len]; exact (List.getElem?_eq_some_iff.mp h1).1
  rw [List.getElem?_take_of_lt hi] at h2
  have q := S.obj i a o (e.loc h1) h2
  have go : o.closed s0.length = true := by
    rcases h.2 i hi with z | ⟨o', z, c⟩
    · rw [h2] at z
      have q0 := S0.obj i a o h1 z.symm
      cases o with
      | lst l => obtain ⟨vs, _, r⟩ := q0; rw [← S0.len]; exact closedL_of r
      | dic ks l => obtain ⟨vs, _, _, r⟩ := q0; rw [← S0.len]; exact closedL_of r
      | ins c fs l => obtain ⟨dx, vs, _, _, r⟩ := q0; rw [← S0.len]; exact closedL_of r
    · rw [h2] at z; cases z; exact c
  cases o with
  | lst l => obtain ⟨vs, e1, r⟩ := q; exact ⟨vs, e1, by rw [← et]; exact closedL_take r go⟩
  | dic ks l => obtain ⟨vs, e0, e1, r⟩ := q; exact ⟨vs, e0, e1, by rw [← et]; exact closedL_take r go⟩
  | ins c fs l => obtain ⟨dx, vs, e0, e1, r⟩ := q; exact ⟨dx, vs, e0, e1, by rw [← et]; exact closedL_take r go⟩
theorem ERep.seal {x : Ex} {c : Value} {d : Option Addr} (S0 : StR K m0 H0 s0) (e : Ext m0 H0 m' H') (r : ERep K m' H' x c d) (h : ∀ f a, x.arg = some (f, a) → closed s0.length a = true) : ERep K m0 H' x c d := by
  refine ⟨r.1, ?_⟩
  have q := r.2
  cases z : x.arg with
  | none => rw [z] at q; exact q
  | some p =>
    obtain ⟨f, a⟩ := p
    rw [z] at q
    obtain ⟨dd, v, h1, h2, h3, h4⟩ := q
    refine ⟨dd, v, h1, ?_, h3, ?_⟩
    · obtain ⟨t, rfl, _⟩ := e.more
      exact fun z => h2 (List.mem_append_left _ z)
    · rw [← seal_take S0 e]
      exact closed_take h4 (h f a z)
/-- what is wanted of the sealed result is had of the result -/
theorem Good.sealed {W : WX} {σ : St} {Q : VK} {r : Res D} (S0 : StR K m0 H0 s0) (h : Good K W σ (Rep K) m0 H0 Q (sealR s0 r)) : Good K W σ (Rep K) m0 H0 Q r := by
  cases r with
  | stuck => exact h
  | ok d s' =>
    intro m' H' v e S q
    unfold sealR at h
    cases z : frz 4 s0.length s' d with
    | none => simp only [z] at h; exact h.elim
    | some d' =>
      simp only [z] at h
      by_cases c : OldOk s0 s'
      · rw [if_pos c] at h
        refine h m0 H' v (seal_ext e) (seal_str S0 e S c) ?_
        have := frz_rep S 4 s0.length d v d' q z
        rw [seal_take S0 e] at this
        exact this
      · rw [if_neg c] at h; exact h.elim
  | exn x s' =>
    intro m' H' c d e S q
    unfold sealR at h
    cases z : x.arg with
    | none =>
      simp only [z] at h
      by_cases c0 : OldOk s0 s'
      · rw [if_pos c0] at h
        exact h m0 H' c d (seal_ext e) (seal_str S0 e S c0) (q.seal S0 e (fun f a z' => by rw [z] at z'; cases z'))
      · rw [if_neg c0] at h; exact h.elim
    | some p =>
      simp only [z] at h
      by_cases c0 : closed s0.length p.2 = true ∧ OldOk s0 s'
      · rw [if_pos c0] at h
        exact h m0 H' c d (seal_ext e) (seal_str S0 e S c0.2) (q.seal S0 e (fun f a z' => by rw [z] at z'; cases z'; exact c0.1))
      · rw [if_neg c0] at h; exact h.elim
end
theorem se_seal {zz : List Addr} {X : Cx} {W : WX} {e : Expr} {de : EM} (h : PE X e (tE (X.K, zz) W de)) : PE X e (tE (X.K, zz) W (eSeal de)) :=
  PE.imp h fun σ H Q ⟨m, ρ, s, hE, hS, hG⟩ => ⟨m, ρ, s, hE, hS, Good.sealed hS hG⟩
theorem spF_seal {K : PySem.W.Frag} {n : Nat} {F : List D → M D} {vs : List V} {H : Hp} {Q : VK} {E : XK} (h : spF K n (sealF F) vs H Q E) : spF K n F vs H Q E := by
  obtain ⟨hl, zz, m, ds, s, r, S, hG⟩ := h
  refine ⟨hl, zz, m, ds, s, r, S, ?_⟩
  have g : Good (K, zz) (WF E) [] (Rep (K, zz)) m H Q (sealR s (F ds s)) := by
    unfold sealF at hG
    cases e : sealR s (F ds s) with
    | ok d s' => rw [e] at hG; exact hG
    | exn x s' => rw [e] at hG; exact hG
    | stuck => rw [e] at hG; exact hG
  have g2 := Good.sealed S g
  cases e : F ds s with
  | ok d s' => rw [e] at g2; exact g2
  | exn x s' => rw [e] at g2; exact g2
  | stuck => rw [e] at g2; exact g2
theorem ok_seal {P : Program} {w : World} {K : PySem.W.Frag} {mg : Str → Option Value} {base : Heap} {f : Addr} {fd : FuncData} {ps : List Str} {k n : Nat} {F : List D → M D} {CX : CXT} (h : FnG P w K mg base CX k f fd ps (spF K n F)) : FnG P w K mg base CX k f fd ps (spF K n (sealF F)) :=
  h.imp fun _ _ _ _ => spF_seal

/-! ### displays -/
def eTup (a : AM) : EM := fun ρ => bnd (a ρ) fun xs => lift fun s => if xs.length ≤ sizeLine then some (.tup xs, s) else none
def eLst (mu : Bool) (a : AM) : EM := fun ρ => bnd (a ρ) fun xs => lift fun s => if xs.length ≤ sizeLine then new mu xs s else none
section
variable {zz : List Addr} {X : Cx} {W : WX} {e a b : Expr} {es : List Expr} {de db : EM} {da : AM} {pos : Pos}
theorem se_tup {x1} (h : PA X es (tA (X.K, zz) W da)) : PE X (.Tuple es x1 pos) (tE (X.K, zz) W (eTup da)) :=
  PE.imp (pe_tup h) fun σ H Q ⟨m, ρ, s, hE, hS, hG⟩ => ⟨m, ρ, s, hE, hS, (Good.bind hG).mono fun vs H1 ⟨m1, xs, s1, e1, S1, q1, hG1⟩ => by
    have g := hG1.lift
    by_cases c : xs.length ≤ sizeLine
    · rw [if_pos c] at g
      exact ⟨by rw [← q1.length]; exact c, fun p hp => newT_ok S1 q1 g p hp⟩
    · rw [if_neg c] at g; exact g.elim⟩
theorem se_lst {mu : Bool} (h : PA X es (tA (X.K, zz) W da)) : PE X (.List es pos) (tE (X.K, zz) W (eLst mu da)) :=
  PE.imp (pe_lst h) fun σ H Q ⟨m, ρ, s, hE, hS, hG⟩ => ⟨m, ρ, s, hE, hS, (Good.bind hG).mono fun vs H1 ⟨m1, xs, s1, e1, S1, q1, hG1⟩ => by
    have g := hG1.lift
    by_cases c : xs.length ≤ sizeLine
    · rw [if_pos c] at g
      exact ⟨by rw [← q1.length]; exact c, fun p hp => new_ok S1 q1 g p hp⟩
    · rw [if_neg c] at g; exact g.elim⟩
/-! ### slices -/
abbrev OM := En → M (Option Int)
def oNone : OM := fun _ => ret none
def asI : D → M (Option Int) := fun d s => match d with
  | .int i => .ok (some i) s
  | _ => .stuck
def oSome (e : EM) : OM := fun ρ => bnd (e ρ) asI
def eSl (g : D → Option Int → Option Int → V1 D) (e : EM) (lo hi : OM) : EM := fun ρ => bnd (e ρ) fun x => bnd (lo ρ) fun l => bnd (hi ρ) fun h => lift (g x l h)
abbrev tO (K : KZ) (W : WX) (e : OM) : TO := tG K (fun _ _ (a b : Option Int) => a = b) W e
theorem PO.imp {e : Option Expr} {t t' : TO} (h : PO X e t) (i : ∀ σ H Q, t' σ H Q → t σ H Q) : PO X e t' := ⟨fun pins s σ H Q I q => h.run pins s σ H Q I (i σ H Q q)⟩
theorem so_none : PO X none (tO (X.K, zz) W oNone) := PO.imp po_none fun σ H Q ⟨m, ρ, s, hE, hS, hG⟩ => hG m H none Ext.refl hS rfl
theorem so_some (h : PE X e (tE (X.K, zz) W de)) : PO X (some e) (tO (X.K, zz) W (oSome de)) :=
  PO.imp (po_some h) fun σ H Q ⟨m, ρ, s, hE, hS, hG⟩ => ⟨m, ρ, s, hE, hS, (Good.bind hG).mono fun v H1 ⟨m1, x, s1, e1, S1, q1, hG1⟩ => by
    cases q1 with
    | int i => exact ⟨i, rfl, hG1 m1 H1 _ Ext.refl S1 rfl⟩
    | _ => exact hG1.elim⟩
def rS (K : KZ) (g : D → Option Int → Option Int → V1 D) : V → Option Int → Option Int → Hp → VK → Prop := fun x l h H Q => ∃ m d s, StR K m H s ∧ Rep K m H d x ∧ GoodV K m H Q (g d l h s)
theorem se_slice {g : D → Option Int → Option Int → V1 D} {lo hi : Option Expr} {ol oh : OM} {p2 : Pos} (hr : SlR X (rS (X.K, zz) g)) (he : PE X e (tE (X.K, zz) W de)) (hl : PO X lo (tO (X.K, zz) W ol)) (hu : PO X hi (tO (X.K, zz) W oh)) : PE X (.Subscript e (.Slice lo hi none p2) pos) (tE (X.K, zz) W (eSl g de ol oh)) :=
  PE.imp (pe_slice hr he hl hu) fun σ H Q ⟨m, ρ, s, hE, hS, hG⟩ => ⟨m, ρ, s, hE, hS, (Good.bind hG).mono fun v H1 ⟨m1, x, s1, e1, S1, q1, hG1⟩ =>
    ⟨m1, ρ, s1, hE.ext hS.noTup e1, S1, (Good.bind hG1).mono fun l H2 ⟨m2, l', s2, e2, S2, q2, hG2⟩ => by
      subst q2
      exact ⟨m2, ρ, s2, (hE.ext hS.noTup e1).ext S1.noTup e2, S2, (Good.bind hG2).mono fun u H3 ⟨m3, u', s3, e3, S3, q3, hG3⟩ => by
        subst q3
        exact ⟨m3, x, s3, S3, q1.ext S1.noTup (e2.trans e3), hG3.lift⟩⟩⟩⟩
def cut {α : Type} (xs : List α) (lo hi : Option Int) : List α := (xs.drop (HT.sIx xs.length 0 lo)).take (HT.sIx xs.length xs.length hi - HT.sIx xs.length 0 lo)
theorem cut_rep {K : KZ} {m : List Addr} {H : Hp} {ds : List D} {vs : List V} (r : RepL K m H ds vs) (lo hi : Option Int) : RepL K m H (cut ds lo hi) (cutV vs lo hi) := by
  unfold cut cutV
  rw [← r.length]
  exact (r.drop _).take _
def gSlL (mu : Bool) : D → Option Int → Option Int → V1 D := fun x lo hi s => (lstOf s x).bind fun l => new mu (cut l lo hi) s
def gSlT : D → Option Int → Option Int → V1 D := fun x lo hi s => match x with
  | .tup l => some (.tup (cut l lo hi), s)
  | _ => none
def gSlS : D → Option Int → Option Int → V1 D := fun x lo hi s => match x with
  | .str z => if z.length ≤ sizeLine then some (.str (cutS z lo hi), s) else none
  | _ => none
def orVS (g h : D → Option Int → Option Int → V1 D) : D → Option Int → Option Int → V1 D := fun x lo hi s => match g x lo hi s with
  | some r => some r
  | none => h x lo hi s
def gSl (mu : Bool) : D → Option Int → Option Int → V1 D := orVS (gSlL mu) (orVS gSlT gSlS)
theorem SlR.orV {g h : D → Option Int → Option Int → V1 D} (a : SlR X (rS (X.K, zz) g)) (b : SlR X (rS (X.K, zz) h)) : SlR X (rS (X.K, zz) (orVS g h)) := by
  intro pins s σ H x v vl vu lo hi sl Q I rx hs pl pu ⟨m, d, st, S, hd, hG⟩
  unfold orVS at hG
  cases hg : g d lo hi st with
  | some r =>
    rw [hg] at hG
    exact a pins s σ H x v vl vu lo hi sl Q I rx hs pl pu ⟨m, d, st, S, hd, by rw [hg]; exact hG⟩
  | none =>
    rw [hg] at hG
    exact b pins s σ H x v vl vu lo hi sl Q I rx hs pl pu ⟨m, d, st, S, hd, hG⟩
theorem l_list {mu : Bool} : SlR X (rS (X.K, zz) (gSlL mu)) := by
  intro pins s σ H x v vl vu lo hi sl Q I rx hs pl pu ⟨m, d, st, S, hd, hG⟩
  unfold gSlL at hG
  cases h1 : lstOf st d with
  | none => rw [h1] at hG; exact hG.elim
  | some l =>
    rw [h1] at hG
    obtain ⟨a, vs, rfl, e1, q1⟩ := lstOf_at S hd h1
    exact sl_list pins s σ H _ v vl vu lo hi sl Q I rx hs pl pu ⟨a, vs, rfl, e1, fun p hp => new_ok S (cut_rep q1 lo hi) hG p hp⟩
theorem cut_whole {α : Type} {xs : List α} {lo hi : Option Int} (h : HT.sIx xs.length 0 lo = 0 ∧ HT.sIx xs.length xs.length hi = xs.length) : cut xs lo hi = xs := by
  unfold cut
  rw [h.1, h.2]
  simp
theorem l_tup : SlR X (rS (X.K, zz) gSlT) := by
  intro pins s σ H x v vl vu lo hi sl Q I rx hs pl pu ⟨m, d, st, S, hd, hG⟩
  cases hd with
  | @tup a l vs e q =>
    have hG : GoodV (X.K, zz) m H Q (some (.tup (cut l lo hi), st)) := hG
    refine sl_tupA pins s σ H _ v vl vu lo hi sl Q I rx hs pl pu ⟨a, vs, rfl, e, fun w => ?_, fun _ p hp => newT_ok S (cut_rep q lo hi) hG p hp⟩
    rw [← q.length] at w
    rw [cut_whole w] at hG
    exact GoodV.here S hG (.tup e q)
  | _ => exact hG.elim
theorem l_str : SlR X (rS (X.K, zz) gSlS) := by
  intro pins s σ H x v vl vu lo hi sl Q I rx hs pl pu ⟨m, d, st, S, hd, hG⟩
  cases hd with
  | str z =>
    have hG : GoodV (X.K, zz) m H Q (if z.length ≤ sizeLine then some (.str (cutS z lo hi), st) else none) := hG
    by_cases c : z.length ≤ sizeLine
    · rw [if_pos c] at hG
      exact sl_str pins s σ H _ v vl vu lo hi sl Q I rx hs pl pu ⟨z, rfl, c, GoodV.here S hG (.str _)⟩
    · rw [if_neg c] at hG; exact hG.elim
  | _ => exact hG.elim
theorem l_seq {mu : Bool} : SlR X (rS (X.K, zz) (gSl mu)) := SlR.orV l_list (SlR.orV l_tup l_str)
/-! ### a list's item stored -/
def gStL : D → D → D → Sto → Option Sto := fun o i v s => match o, i with
  | .loc n, .int k => (match s[n]? with
    | some (.lst l) => (ixN l.length k).map fun j => s.set n (.lst (l.set j v))
    | _ => none)
  | _, _ => none
/-- o[i] = v -/
def sSub (g : D → D → D → Sto → Option Sto) (v o i : EM) : SM := fun ρ s => ofE (bnd (v ρ) (fun d => bnd (o ρ) fun x => bnd (i ρ) fun y => lift fun s => (g x y d s).map fun s' => (D.non, s')) s) ρ fun _ s' => .nx ρ s'
def rSt (K : KZ) (g : D → D → D → Sto → Option Sto) : TSet := fun o i v H Q => ∃ m x y d s s', StR K m H s ∧ Rep K m H x o ∧ Rep K m H y i ∧ Rep K m H d v ∧ g x y d s = some s' ∧ ∀ m' H', Ext m H m' H' → StR K m' H' s' → Q H'
theorem t_list : PSet X (rSt (X.K, zz) gStL) := by
  intro pins s σ H o i v ov iv u Q I ro ri rv ⟨m, x, y, d, st, st', S, hx, hy, hd, hg, hQ⟩
  cases hx with
  | @loc n a e =>
    cases hy with
    | int k =>
      have hg : (match st[n]? with
        | some (.lst l) => (ixN l.length k).map fun j => st.set n (.lst (l.set j d))
        | _ => none) = some st' := hg
      cases z : st[n]? with
      | none => rw [z] at hg; cases hg
      | some oo =>
        rw [z] at hg
        cases oo with
        | lst l =>
          obtain ⟨j, h1, h2⟩ := Option.map_eq_some_iff.mp (show (ixN l.length k).map (fun j => st.set n (.lst (l.set j d))) = some st' from hg)
          subst h2
          obtain ⟨vs, e1, q⟩ := S.obj n a _ e z
          refine set_list pins s σ H _ _ v ov iv u Q I ro ri rv ⟨a, vs, k, j, rfl, rfl, e1, by rw [← q.length]; exact h1, hQ m _ (Ext.write e S.noTup) (S.write e ⟨_, upd_same, ?_⟩)⟩
          exact RepL.ext S.noTup (Ext.write e S.noTup) (RepL.set hd j q)
        | _ => cases hg
    | _ => cases hg
  | _ => cases hg
theorem s_sub {g : D → D → D → Sto → Option Sto} {value : Expr} {dv : EM} {tpos : Pos} (ht : PSet X (rSt (X.K, zz) g)) (hv : PE X value (tE (X.K, zz) W dv)) (ho : PE X a (tE (X.K, zz) W de)) (hi : PE X b (tE (X.K, zz) W db))
    (ha : ∀ v, assign (.Subscript a b tpos) X.env v = (do
      let ov ← holding [v] (eval a X.env)
      let iv ← holding [v, ov] (eval b X.env)
      standAt tpos
      holding [v, ov, iv] (setItem ov iv v)
      release [v, ov, iv] []) := by intro _; rfl)
    (hs : swapsWithSole [.Subscript a b tpos] value pos.line X.env = pure false := by rfl) (hw : swappedStores [.Subscript a b tpos] value X.env = pure none := by rfl)
    (h1 : (assignEach [.Subscript a b tpos] X.env).map (·.2) = [assign (.Subscript a b tpos) X.env] := by rfl) : PS X (.Assign [.Subscript a b tpos] value pos) (tS (X.K, zz) W (sSub g dv de db)) := by
  refine PS.imp (ps_asg hv (pg_sub ho hi ht ha) hs hw h1) fun D σ H ⟨m, ρ, s, hE, hS, hG⟩ => ?_
  refine ⟨m, ρ, s, hE, hS, (Good.bind (GoodS.ofE (rel := Rep (X.K, zz)) hS hE hG)).mono fun v H1 ⟨m1, d, s1, e1, S1, q1, hG1⟩ => ?_⟩
  refine ⟨m1, ρ, s1, hE.ext hS.noTup e1, S1, (Good.bind hG1).mono fun o H2 ⟨m2, x, s2, e2, S2, q2, hG2⟩ => ?_⟩
  refine ⟨m2, ρ, s2, (hE.ext hS.noTup e1).ext S1.noTup e2, S2, (Good.bind hG2).mono fun i H3 ⟨m3, y, s3, e3, S3, q3, hG3⟩ => ?_⟩
  have g3 := hG3.lift
  cases z : g x y d s3 with
  | none => simp only [z, Option.map_none] at g3; exact g3.elim
  | some s4 =>
    simp only [z, Option.map_some] at g3
    refine ⟨m3, x, y, d, s3, s4, S3, q2.ext S2.noTup e3, q3, q1.ext S1.noTup (e2.trans e3), z, fun m' H' f S' => ?_⟩
    obtain ⟨m5, _, s5, e5, S5, q5, E5, g5⟩ := g3 m' H' .non f S' .non
    exact g5 m5 H' σ Ext.refl S5 E5
end
end QS
end

section
set_option Elab.async false
set_option linter.all false
set_option maxRecDepth 100000
set_option maxHeartbeats 4000000
/-! QS6: comprehensions. -/
namespace QS
open PySem PySem.Spec PyProof.Rows L2
section
variable {k : PySem.W.Frag} {z z' : List Addr} {m m' : List Addr} {H H' : Hp} {s : Sto} {ρ : En} {σ : St}
theorem EnR.chg (c : Chg k z m H z' m' H') (e : EnR (k, z) m H ρ σ) : EnR (k, z') m' H' ρ σ := ⟨e.len, fun i d h => let ⟨v, h1, h2⟩ := e.at_ i d h; ⟨v, h1, h2.chg c⟩⟩
theorem OR.chg (c : Chg k z m H z' m' H') {a : Addr} {o : O} (h : ∀ u, H a = some u → H' a = some u) (q : OR (k, z) m H a o) : OR (k, z') m' H' a o := by
  cases o with
  | lst ds => obtain ⟨vs, e, r⟩ := q; exact ⟨vs, h _ e, r.chg c⟩
  | dic ks ds => obtain ⟨vs, l, e, r⟩ := q; exact ⟨vs, l, h _ e, r.chg c⟩
  | ins c' fs ds => obtain ⟨dx, vs, l, e, r⟩ := q; exact ⟨dx, vs, l, h _ e, r.chg c⟩
theorem SqT.of_keep {p : Addr} {o : HO} (h : ∀ vs, H p = some (.tup vs) → False) (h2 : ∀ o' vs, H p = some (.frz o' (.tup vs)) → False) (a : Addr) (vs : List V) (q : SqT k H a vs) : SqT k (upd H p o) a vs := by
  rcases q with (q | ⟨o', q⟩) | q
  · refine .inl (.inl ?_)
    rw [upd_ne (fun e => by subst e; exact h _ q)]
    exact q
  · refine .inl (.inr ⟨o', ?_⟩)
    rw [upd_ne (fun e => by subst e; exact h2 _ _ q)]
    exact q
  · exact .inr q
theorem SqF.of_keep {p : Addr} {o : HO} (h2 : ∀ o' vs, H p = some (.frz o' (.lst vs)) → False) (a : Addr) (vs : List V) (q : SqF k H a vs) : SqF k (upd H p o) a vs := by
  rcases q with ⟨o', q⟩ | q
  · refine .inl ⟨o', ?_⟩
    rw [upd_ne (fun e => by subst e; exact h2 _ _ q)]
    exact q
  · exact .inr q
/-- a place is hidden -/
theorem chg_hide {p : Addr} {o : HO} (hp : H p = none) : Chg k z m H (p :: z) m (upd H p o) where
  tup := SqT.of_keep (fun vs e => by rw [hp] at e; cases e) (fun o' vs e => by rw [hp] at e; cases e)
  scr := SqF.of_keep (fun o' vs e => by rw [hp] at e; cases e)
  xd := fun a u k n e => ⟨n, by rw [upd_ne (fun q => by subst q; rw [hp] at e; cases e)]; exact e⟩
  obj := fun a u n e _ => by
    have ne : a ≠ p := fun q => by subst q; rw [hp] at e; cases e
    exact ⟨⟨n.1, fun q => by
      rcases List.mem_cons.mp q with q | q
      · exact ne q
      · exact n.2 q⟩, .inl (by rw [upd_ne ne]; exact e)⟩
  loc := fun n a h => h
theorem str_hide {p : Addr} {o : HO} (S : StR (k, z) m H s) (hp : H p = none) (nt : NT o := by exact fun _ z => nomatch z) : StR (k, p :: z) m (upd H p o) s := by
  have np : ∀ a ∈ m, a ≠ p := fun a ha e => by
    obtain ⟨u, q, _⟩ := S.noTup a ha
    rw [e, hp] at q; cases q
  refine ⟨S.len, S.nd, fun d hd => ?_, fun n a u h1 h2 => (S.obj n a u h1 h2).chg (chg_hide hp) fun u q => by rw [upd_ne (np a (List.mem_of_getElem? h1))]; exact q, S.tab.ext (same_upd hp)⟩
  rcases List.mem_cons.mp hd with hd | hd
  · subst hd
    exact ⟨⟨o, upd_same, nt⟩, fun q => np _ q rfl⟩
  · exact ⟨(Ext.new (m := m) hp).there d (S.hid d hd).1, (S.hid d hd).2⟩
/-- the hidden list is written -/
theorem chg_hupd {p : Addr} {acc : List V} {o : HO} (hp : H p = some (.lst acc)) (hz : p ∈ z) : Chg k z m H z m (upd H p o) where
  tup := SqT.of_keep (fun vs e => by rw [hp] at e; cases e) (fun o' vs e => by rw [hp] at e; cases e)
  scr := SqF.of_keep (fun o' vs e => by rw [hp] at e; cases e)
  xd := fun a u k n e => ⟨n, by rw [upd_ne (fun q => by subst q; rw [hp] at e; cases e; exact k)]; exact e⟩
  obj := fun a u n e _ => ⟨n, .inl (by rw [upd_ne (fun q => by subst q; exact n.2 hz)]; exact e)⟩
  loc := fun n a h => h
theorem str_hupd {p : Addr} {acc : List V} {o : HO} (S : StR (k, z) m H s) (hp : H p = some (.lst acc)) (hz : p ∈ z) (nt : NT o := by exact fun _ z => nomatch z) : StR (k, z) m (upd H p o) s := by
  refine ⟨S.len, S.nd, fun d hd => ⟨?_, (S.hid d hd).2⟩, fun n a u h1 h2 => (S.obj n a u h1 h2).chg (chg_hupd hp hz) fun u q => by
    rw [upd_ne (fun e => by subst e; exact (S.hid _ hz).2 (List.mem_of_getElem? h1))]; exact q, tabs_upd S.tab hp (fun _ z => nomatch z) (fun _ z => nomatch z)⟩
  by_cases e : d = p
  · subst e; exact ⟨o, upd_same, nt⟩
  · obtain ⟨u, e1, e2⟩ := (S.hid d hd).1
    exact ⟨u, by rw [upd_ne e]; exact e1, e2⟩
/-- no more hidden -/
theorem chg_show {p : Addr} : Chg k (p :: z) m H z m H := ⟨fun _ _ h => h, fun _ _ h => h, fun a u n e _ => ⟨⟨n.1, fun q => n.2 (List.mem_cons_of_mem _ q)⟩, .inl e⟩, fun _ _ _ h e => ⟨h, e⟩, fun _ _ h => h⟩
theorem str_show {p : Addr} (S : StR (k, p :: z) m H s) : StR (k, z) m H s :=
  ⟨S.len, S.nd, fun d hd => S.hid d (List.mem_cons_of_mem _ hd), fun n a u h1 h2 => (S.obj n a u h1 h2).chg chg_show fun u q => q, S.tab⟩
/-- .. it comes into the store -/
theorem chg_in {p : Addr} (nx : ∀ u, Kd u → H p ≠ some u) : Chg k (p :: z) m H z (m ++ [p]) H := ⟨fun _ _ h => h, fun _ _ h => h, fun a u n e _ => ⟨⟨fun q => by
    rcases List.mem_append.mp q with q | q
    · exact n.1 q
    · simp at q
      exact n.2 (by rw [q]; exact List.mem_cons_self), fun q => n.2 (List.mem_cons_of_mem _ q)⟩, .inl e⟩, fun a u k n e => ⟨fun q => by
      rcases List.mem_append.mp q with q | q
      · exact n q
      · simp at q
        subst q
        exact nx u k e, e⟩, fun n a h => by
      rw [List.getElem?_append_left (List.getElem?_eq_some_iff.mp h).1]; exact h⟩
theorem str_in {p : Addr} {o : O} (hz : p ∉ z) (S : StR (k, p :: z) m H s) (q : OR (k, z) (m ++ [p]) H p o) : StR (k, z) (m ++ [p]) H (s ++ [o]) := by
  have np : p ∉ m := (S.hid p List.mem_cons_self).2
  refine ⟨by simp [S.len], List.nodup_append.mpr ⟨S.nd, by simp, fun a ha b hb => by simp at hb; subst hb; exact fun e => np (e ▸ ha)⟩, fun d hd => ⟨(S.hid d (List.mem_cons_of_mem _ hd)).1, fun e => ?_⟩, fun n a u h1 h2 => ?_, S.tab⟩
  · rcases List.mem_append.mp e with e | e
    · exact (S.hid d (List.mem_cons_of_mem _ hd)).2 e
    · simp at e
      exact hz (e ▸ hd)
  · by_cases hn : n < m.length
    · rw [List.getElem?_append_left hn] at h1
      rw [List.getElem?_append_left (by rw [← S.len]; exact hn)] at h2
      refine (S.obj n a u h1 h2).chg (chg_in fun fs kk z => ?_) fun v q => q
      obtain ⟨u', z1, z2⟩ := q.mut
      rw [z] at z1
      cases z1
      cases fs <;> first | exact z2 | exact kk
    · have e1 : n = m.length := by
        have := (List.getElem?_eq_some_iff.mp h1).1
        simp at this; omega
      subst e1
      rw [List.getElem?_append_right (Nat.le_refl _)] at h1
      rw [List.getElem?_append_right (by rw [S.len]; exact Nat.le_refl _)] at h2
      simp at h1
      rw [S.len] at h2
      simp at h2
      subst h1; subst h2
      exact q
end
/-! ### the denotation -/
abbrev W0 : WX := fun _ _ _ _ => False
open Classical in
noncomputable def lcL (g : GM) (t : TM) (e : EM) (gd : Option Nat) (s0 : Sto) (ρ : En) : List D → M (List D)
  | [] => ret []
  | d :: r => fun s => match g d ρ with
    | none => .stuck
    | some ρ1 => match t ρ1 s with
      | .ok true s1 => (match e ρ1 s1 with
        | .ok y s2 => if ∀ n, gd = some n → s2[n]? = s0[n]? then bnd (lcL g t e gd s0 ρ r) (fun ys => ret (y :: ys)) s2 else .stuck
        | _ => .stuck)
      | .ok false s1 => if ∀ n, gd = some n → s1[n]? = s0[n]? then lcL g t e gd s0 ρ r s1 else .stuck
      | _ => .stuck
def wipeD (ρ : En) : List Nat → En
  | [] => ρ
  | v :: vs => (wipeD ρ vs).set v none
noncomputable def eLc (mu : Bool) (vs : List Nat) (i : IM) (g : GM) (t : TM) (e : EM) : EM := fun ρ => bnd (i ρ) fun it => bnd (fun s => if it.l.length ≤ sizeLine then lcL g t e it.gd s (wipeD ρ vs) it.l s else .stuck) fun l => lift (new mu l)
theorem EnR.wipe {K : KZ} {m : List Addr} {H : Hp} {ρ : En} {σ : St} (h : EnR K m H ρ σ) : ∀ vs : List Nat, EnR K m H (wipeD ρ vs) (wipe σ vs)
  | [] => h
  | v :: vs => (EnR.wipe h vs).forget v
theorem lcL_noexn {g : GM} {t : TM} {e : EM} {gd : Option Nat} {s0 : Sto} {ρ : En} : ∀ (l : List D) (s : Sto) x s', lcL g t e gd s0 ρ l s ≠ .exn x s'
  | [], s, x, s', h => by cases h
  | d :: r, s, x, s', h => by
    unfold lcL at h
    cases e1 : g d ρ with
    | none => simp only [e1] at h; cases h
    | some ρ1 =>
      simp only [e1] at h
      cases e2 : t ρ1 s with
      | stuck => simp only [e2] at h; cases h
      | exn x s1 => simp only [e2] at h; cases h
      | ok b s1 =>
        simp only [e2] at h
        cases b with
        | false =>
          simp only at h
          by_cases c : ∀ n, gd = some n → s1[n]? = s0[n]?
          · rw [if_pos c] at h; exact lcL_noexn r s1 x s' h
          · rw [if_neg c] at h; cases h
        | true =>
          simp only at h
          cases e3 : e ρ1 s1 with
          | stuck => simp only [e3] at h; cases h
          | exn x s1 => simp only [e3] at h; cases h
          | ok y s2 =>
            simp only [e3] at h
            by_cases c : ∀ n, gd = some n → s2[n]? = s0[n]?
            · rw [if_pos c] at h
              unfold bnd at h
              cases e4 : lcL g t e gd s0 ρ r s2 with
              | ok ys s3 => rw [e4] at h; cases h
              | stuck => rw [e4] at h; cases h
              | exn x' s3 => exact lcL_noexn r s2 x' s3 e4
            · rw [if_neg c] at h; cases h
/-- PTs of one test, or of none -/
def tT0 : TM := fun _ => ret true
theorem PTs.imp {X : Cx} {e : List Expr} {t t' : TT} (h : PTs X e t) (i : ∀ σ H Q, t' σ H Q → t σ H Q) : PTs X e t' := ⟨fun pins s σ H Q I q => h.run pins s σ H Q I (i σ H Q q)⟩
theorem sts_nil {zz : List Addr} {X : Cx} {W : WX} : PTs X [] (tT (X.K, zz) W tT0) := PTs.imp pts_nil fun σ H Q ⟨m, ρ, s, hE, hS, hG⟩ => hG m H true Ext.refl hS rfl
theorem sts_one {zz : List Addr} {X : Cx} {W : WX} {c : Expr} {t : TM} (h : PT X c (tT (X.K, zz) W t)) : PTs X [c] (tT (X.K, zz) W t) := pts_one h

def tEz (k : PySem.W.Frag) (e : EM) : TE := fun σ H Q => ∃ zz, tE (k, zz) W0 e σ H Q
def tTz (k : PySem.W.Frag) (e : TM) : TT := fun σ H Q => ∃ zz, tT (k, zz) W0 e σ H Q
/-- a target of a block: its slots are of the block -/
def gSw (vs : List Nat) (K : KZ) (g : GM) : TG := fun v σ H Q => ∃ m ρ d ρ', EnR K m H ρ σ ∧ Rep K m H d v ∧ g d ρ = some ρ' ∧ ∀ σ', EnR K m H ρ' σ' → wipe σ' vs = wipe σ vs → Q σ' H
def gsSw (vs : List Nat) (K : KZ) (g : GMs) : TGs := fun xs σ H Q => ∃ m ρ ds ρ', EnR K m H ρ σ ∧ RepL K m H ds xs ∧ g ds ρ = some ρ' ∧ ∀ σ', EnR K m H ρ' σ' → wipe σ' vs = wipe σ vs → Q σ' H
def gSz (vs : List Nat) (k : PySem.W.Frag) (g : GM) : TG := fun v σ H Q => ∃ zz, gSw vs (k, zz) g v σ H Q
theorem wipe_get (σ : St) (j : Nat) : ∀ vs : List Nat, (wipe σ vs)[j]? = if j ∈ vs then (σ[j]?).map (fun _ => none) else σ[j]?
  | [] => by simp [wipe]
  | v :: vs => by
    unfold wipe
    rw [List.getElem?_set]
    by_cases e : v = j
    · subst e
      by_cases hl : v < (wipe σ vs).length
      · rw [wipe_length] at hl
        simp [wipe_length, hl]
      · rw [wipe_length] at hl
        simp [wipe_length, hl]
    · rw [if_neg e, wipe_get σ j vs]
      have e' : ¬ j = v := fun q => e q.symm
      simp [e']
theorem wipe_eq {σ σ' : St} {vs : List Nat} (h : ∀ j, j ∉ vs → σ'[j]? = σ[j]?) (hl : σ'.length = σ.length) : wipe σ' vs = wipe σ vs := by
  apply List.ext_getElem?
  intro j
  rw [wipe_get, wipe_get]
  by_cases e : j ∈ vs
  · rw [if_pos e, if_pos e]
    by_cases c : j < σ.length
    · rw [List.getElem?_eq_getElem c, List.getElem?_eq_getElem (hl ▸ c)]; rfl
    · rw [List.getElem?_eq_none (by omega), List.getElem?_eq_none (by omega)]
  · rw [if_neg e, if_neg e]; exact h j e
theorem wipe_set {σ : St} {vs : List Nat} {i : Nat} {v : Option V} (h : i ∈ vs) : wipe (σ.set i v) vs = wipe σ vs :=
  wipe_eq (fun j hj => by rw [List.getElem?_set_ne (show i ≠ j from fun e => hj (by subst e; exact h))]) (by simp)
theorem wipe_wipe {σ : St} {vs : List Nat} : wipe (wipe σ vs) vs = wipe σ vs :=
  wipe_eq (fun j hj => by rw [wipe_get, if_neg hj]) (wipe_length _ _)
theorem PE.anyz {X : Cx} {e : Expr} {de : EM} (h : ∀ zz, PE X e (tE (X.K, zz) W0 de)) : PE X e (tEz X.K de) := ⟨fun pins s σ H Q I ⟨zz, q⟩ => (h zz).run pins s σ H Q I q⟩
theorem PTs.anyz {X : Cx} {e : List Expr} {de : TM} (h : ∀ zz, PTs X e (tT (X.K, zz) W0 de)) : PTs X e (tTz X.K de) := ⟨fun pins s σ H Q I ⟨zz, q⟩ => (h zz).run pins s σ H Q I q⟩
theorem PG.anyz {X : Cx} {e : Expr} {g : GM} {vs : List Nat} (h : ∀ zz, PG X e (gSw vs (X.K, zz) g)) : PG X e (gSz vs X.K g) := ⟨fun pins s σ H v u Q I r ⟨zz, q⟩ => (h zz).run pins s σ H v u Q I r q⟩
section
variable {zz : List Addr} {X : Cx} {W : WX} {e : Expr} {es : List Expr} {pos : Pos} {bs : List Nat}
theorem gw_name {i : Nat} {x : Str} (hN : X.N.Nodup) (hi : X.N[i]? = some x := by rfl) (hb : i ∈ bs := by decide) (hx : Loc X.env.scope x := by first | exact Or.inl rfl | exact Or.inr rfl) (hf : X.fn x = true ∨ X.env.scope.names.lookup x = some .local := by first | exact .inl rfl | exact .inr rfl | assumption) : PG X (.Name x pos) (gSw bs (X.K, zz) (gSet i)) := by
  refine ⟨fun pins s σ H v u Q I r ⟨m, ρ, d, ρ', hE, hd, hg, hQ⟩ => (pg_name hN hi hx hf).run pins s σ H v u Q I r ?_⟩
  cases hg
  exact hQ _ (hE.set hd i) (wipe_set hb)
theorem gws_nil : PGs X [] (gsSw bs (X.K, zz) QS.gNil) := by
  refine ⟨fun pins s σ H vs us Q I r ⟨m, ρ, ds, ρ', hE, hd, hg, hQ⟩ => pgs_nil.run pins s σ H vs us Q I r ?_⟩
  cases hd with
  | nil => cases hg; exact ⟨rfl, hQ _ hE rfl⟩
  | cons _ _ => cases hg
theorem gws_cons {g : GM} {gs : GMs} (h1 : PG X e (gSw bs (X.K, zz) g)) (h2 : PGs X es (gsSw bs (X.K, zz) gs)) (hs : (assignEach (e :: es) X.env).map (·.2) = assign e X.env :: (assignEach es X.env).map (·.2) := by rfl) : PGs X (e :: es) (gsSw bs (X.K, zz) (QS.gCons g gs)) := by
  refine ⟨fun pins s σ H vs us Q I r ⟨m, ρ, ds, ρ', hE, hd, hg, hQ⟩ => (pgs_cons h1 h2 hs).run pins s σ H vs us Q I r ?_⟩
  cases hd with
  | nil => cases hg
  | @cons d v ds' vs' hd hr =>
    have hg : ((g d ρ).bind fun ρ' => gs ds' ρ') = some ρ' := hg
    obtain ⟨ρ1, q1, q2⟩ := Option.bind_eq_some_iff.mp hg
    exact ⟨v, vs', rfl, m, ρ, d, ρ1, hE, hd, q1, fun σ1 E1 w1 => ⟨m, ρ1, ds', ρ', E1, hr, q2, fun σ2 E2 w2 => hQ σ2 E2 (w2.trans w1)⟩⟩
theorem gw_tup {k : Nat} {gs : GMs} {n : Nat} (h : PGs X es (gsSw bs (X.K, zz) gs)) (hc : X.calm = true := by rfl) (hn : (assignEach es X.env).length = n := by rfl) (hst : (assignEach es X.env).findIdx? (·.1) = none := by rfl) : PG X (.Tuple es k pos) (gSw bs (X.K, zz) (QS.gTup n gs)) := by
  refine ⟨fun pins s σ H v u Q I r ⟨m, ρ, d, ρ', hE, hd, hg, hQ⟩ => (pg_tup hc h hn hst).run pins s σ H v u Q I r ?_⟩
  cases hd with
  | @tup a l vs h1 q1 =>
    have hg : (if l.length = n then gs l ρ else none) = some ρ' := hg
    by_cases z : l.length = n
    · rw [if_pos z] at hg
      exact ⟨a, vs, rfl, h1, by rw [← q1.length]; exact z, m, ρ, l, ρ', hE, q1, hg, hQ⟩
    · rw [if_neg z] at hg; cases hg
  | _ => cases hg
end
/-- the reading of a comprehension -/
theorem lc_read {k : PySem.W.Frag} {zz : List Addr} {W : WX} {di : IM} {g : GM} {dt : TM} {de : EM} {mu : Bool} {vs : List Nat} {σ : St} {H : Hp} {Q : VK}
    (h : tE (k, zz) W (eLc mu vs di g dt de) σ H Q) : tLc (iS (k, zz) W di) (gSz vs k g) (tTz k dt) (tEz k de) vs σ H Q := by
  obtain ⟨m, ρ, s, hE, hS, hG⟩ := h
  refine ⟨m, ρ, s, hE, hS, ?_⟩
  unfold eLc at hG
  have hb := Good.bind (rel := fun _ _ (a b : Items) => True) (β := Items) hG
  cases e0 : di ρ s with
  | stuck => rw [e0] at hb; exact hb
  | exn x s1 => rw [e0] at hb; exact hb
  | ok it s1 =>
    rw [e0] at hb
    intro m1 H1 J e1 S1 w D hD
    clear hb
    unfold bnd at hG
    rw [e0] at hG
    simp only at hG
    by_cases hsz : it.l.length ≤ sizeLine
    · rw [if_pos hsz] at hG
      -- the hidden list
      have C0 : Chg k zz m1 H1 (D :: zz) m1 (upd H1 D (.lst [])) := chg_hide hD
      have E1 : EnR (k, zz) m1 H1 ρ σ := hE.ext hS.noTup e1
      have nD : D ∉ m1 ∧ D ∉ zz := fresh_notin S1 hD
      refine ⟨fun i n Hi => n = it.l.length - i ∧ i ≤ it.l.length ∧ ∃ m2 s2 acc ds, Ext m1 H1 m2 Hi ∧ Hi D = some (.lst acc) ∧ acc.length = ds.length ∧ ds.length ≤ i ∧ RepL (k, D :: zz) m2 Hi ds acc ∧ StR (k, D :: zz) m2 Hi s2 ∧ (∀ n, it.gd = some n → s2[n]? = s1[n]?) ∧
          ∃ rest s3, lcL g dt de it.gd s1 (wipeD ρ vs) (it.l.drop i) s2 = .ok rest s3 ∧ GoodV (k, zz) m H Q (new mu (ds ++ rest) s3), ?_, ?_⟩
      · cases e2 : lcL g dt de it.gd s1 (wipeD ρ vs) it.l s1 with
        | stuck => rw [e2] at hG; exact hG.elim
        | exn x s3 => exact absurd e2 (lcL_noexn _ _ _ _)
        | ok rest s3 =>
          rw [e2] at hG
          exact ⟨_, rfl, Nat.zero_le _, m1, s1, [], [], Ext.same (same_upd hD), upd_same, rfl, Nat.zero_le _, .nil, str_hide S1 hD, fun _ _ => rfl, rest, s3, by simpa using e2, by simpa using hG.lift⟩
      · rintro i n H2 ⟨rfl, hi, m2, s2, acc, ds, f2, hDl, hal, hdl, rds, S2, gd2, rest, s3, er, G⟩
        obtain ⟨go, stop, yld⟩ := w (D :: zz) m2 H2 s2 (fun p hp => by
          rcases List.mem_cons.mp hp with hp | hp
          · exact .inr (by rw [hp]; exact hD)
          · exact .inl hp) f2 S2 gd2
        have hz0 : D ∈ D :: zz := List.mem_cons_self
        by_cases hlt : i < it.l.length
        · refine .inr ⟨go i hlt, fun H' => i + 1 ≤ it.l.length ∧ ∃ m2 s2 acc ds, Ext m1 H1 m2 H' ∧ H' D = some (.lst acc) ∧ acc.length = ds.length ∧ ds.length ≤ i + 1 ∧ RepL (k, D :: zz) m2 H' ds acc ∧ StR (k, D :: zz) m2 H' s2 ∧ (∀ n, it.gd = some n → s2[n]? = s1[n]?) ∧
              ∃ rest s3, lcL g dt de it.gd s1 (wipeD ρ vs) (it.l.drop (i + 1)) s2 = .ok rest s3 ∧ GoodV (k, zz) m H Q (new mu (ds ++ rest) s3),
            fun H' ⟨hl, q⟩ => ⟨it.l.length - (i + 1), by omega, rfl, hl, q⟩, fun x H3 hy => ?_⟩
          obtain ⟨sm, rx⟩ := yld i it.l[i] x H3 (List.getElem?_eq_getElem hlt) hy
          have f3 : Ext m2 H2 m2 H3 := Ext.same sm
          have hD3 : H3 D = some (.lst acc) := sm _ _ hDl
          have S3 := S2.same sm
          rw [List.drop_eq_getElem_cons hlt] at er
          unfold lcL at er
          have EW : EnR (k, D :: zz) m2 H3 (wipeD ρ vs) (wipe σ vs) := ((E1.chg (chg_ext S1.noTup (fun p hp => by
            rcases List.mem_cons.mp hp with hp | hp
            · exact .inr (by rw [hp]; exact hD)
            · exact .inl hp) (f2.trans f3))).wipe vs)
          cases eg : g it.l[i] (wipeD ρ vs) with
          | none => simp only [eg] at er; cases er
          | some ρ1 =>
            simp only [eg] at er
            refine ⟨D :: zz, m2, wipeD ρ vs, it.l[i], ρ1, EW, rx, eg, fun σ1 E3 hwp => ⟨hwp.trans wipe_wipe, D :: zz, m2, ρ1, s2, E3, S3, ?_⟩⟩
            cases et : dt ρ1 s2 with
            | stuck => simp only [et] at er; cases er
            | exn x s' => simp only [et] at er; cases er
            | ok b s4 =>
              simp only [et] at er
              intro m4 H4 b' f4 S4 eb
              subst eb
              have hD4 : H4 D = some (.lst acc) := f4.keepE D _ hD3 (fun _ z => nomatch z) (S3.hid D hz0).2
              have rds4 : RepL (k, D :: zz) m4 H4 ds acc := RepL.ext S3.noTup f4 (RepL.ext S2.noTup f3 rds)
              cases b with
              | false =>
                simp only [Bool.false_eq_true, if_false] at er ⊢
                by_cases c : ∀ n, it.gd = some n → s4[n]? = s1[n]?
                · rw [if_pos c] at er
                  exact ⟨hlt, m4, s4, acc, ds, f2.trans (f3.trans f4), hD4, hal, by omega, rds4, S4, c, rest, s3, er, G⟩
                · rw [if_neg c] at er; cases er
              | true =>
                simp only [if_true] at er ⊢
                refine ⟨D :: zz, m4, ρ1, s4, E3.ext S3.noTup f4, S4, ?_⟩
                cases ee : de ρ1 s4 with
                | stuck => simp only [ee] at er; cases er
                | exn x s' => simp only [ee] at er; cases er
                | ok y s5 =>
                  simp only [ee] at er
                  intro m5 H5 u f5 S5 ry
                  have hD5 : H5 D = some (.lst acc) := f5.keepE D _ hD4 (fun _ z => nomatch z) (S4.hid D hz0).2
                  have rds5 : RepL (k, D :: zz) m5 H5 ds acc := RepL.ext S4.noTup f5 rds4
                  refine ⟨acc, hD5, by rw [hal]; omega, ?_⟩
                  have CU : Chg k (D :: zz) m5 H5 (D :: zz) m5 (upd H5 D (.lst (acc ++ [u]))) := chg_hupd hD5 hz0
                  have FU : Ext m1 H1 m5 (upd H5 D (.lst (acc ++ [u]))) := by
                    have f := f2.trans (f3.trans (f4.trans f5))
                    refine ⟨f.more, fun a o h tt na => ?_, fun a h => ?_⟩
                    · unfold Lk
                      rw [upd_ne (fun e => by subst e; rw [hD] at h; cases h)]
                      exact f.keep a o h tt na
                    · by_cases e : a = D
                      · subst e; exact ⟨_, upd_same, fun _ z => nomatch z⟩
                      · obtain ⟨u', e1, e2⟩ := f.there a h
                        exact ⟨u', by rw [upd_ne e]; exact e1, e2⟩
                  by_cases c : ∀ n, it.gd = some n → s5[n]? = s1[n]?
                  · rw [if_pos c] at er
                    unfold bnd at er
                    cases el : lcL g dt de it.gd s1 (wipeD ρ vs) (it.l.drop (i + 1)) s5 with
                    | stuck => rw [el] at er; cases er
                    | exn x s' => rw [el] at er; cases er
                    | ok ys s6 =>
                      rw [el] at er
                      cases er
                      refine ⟨hlt, m5, s5, acc ++ [u], ds ++ [y], FU, upd_same, by simp [hal], by simp; omega, ?_, str_hupd S5 hD5 hz0, c, ys, s3, el, by simpa using G⟩
                      exact (RepL.chg CU rds5).append (.cons (ry.chg CU) .nil)
                  · rw [if_neg c] at er; cases er
        · have ei : i = it.l.length := by omega
          subst ei
          refine .inl ⟨stop, ?_⟩
          rw [List.drop_length] at er
          unfold lcL at er
          cases er
          rw [List.append_nil] at G
          have FE : Ext m H m2 H2 := e1.trans f2
          cases mu with
          | false =>
            exact G m2 H2 _ FE (str_show S2) (.lst ⟨(S2.hid D hz0).2, nD.2⟩ hDl (RepL.chg chg_show rds))
          | true =>
            have G : GoodV (k, zz) m H Q (some (.loc s2.length, s2 ++ [.lst ds])) := G
            have FI : Ext m1 H1 (m2 ++ [D]) H2 := by
              obtain ⟨t, ht, hn⟩ := f2.more
              refine ⟨⟨t ++ [D], by rw [ht]; simp, fun a ha => ?_⟩, f2.keep, f2.there⟩
              rcases List.mem_append.mp ha with ha | ha
              · exact hn a ha
              · simp at ha; subst ha; exact fun ⟨u', e1, _⟩ => by rw [hD] at e1; cases e1
            refine G (m2 ++ [D]) H2 _ (e1.trans FI) (str_in nD.2 S2 ⟨acc, hDl, RepL.chg (chg_in fun u k z => by rw [hDl] at z; cases z; exact k) rds⟩) (.loc ?_)
            rw [← S2.len]
            simp
    · rw [if_neg hsz] at hG; exact hG.elim
section
variable {zz : List Addr} {X : Cx} {W : WX} {elt tg iter : Expr} {ifs : List Expr} {scope : Scope} {pos spos : Pos} {di : IM} {g : GM} {dt : TM} {de : EM}
/-- a block's context -/
abbrev Blk (X : Cx) (scope : Scope) (f : Cx → Prop) : Prop := ∀ (s : Shared) (H : Hp) (C : Addr) (cl : List (Str × Addr)) (fp : List Addr), f (X.blk s H scope (compEnvC scope cl C X.env) fp)
theorem takes0 (X : Cx) : Takes X W0 := fun u s' ⟨a, B, sI, pins, σ, H, cls, d, e, I, nb, up, sky, na, os, ag, w⟩ => w.elim
theorem se_lc (mu : Bool) (own : List (Str × Nat)) (hN : X.N.Nodup) (hi : PI X tg iter (iS (X.K, zz) W di)) (ok : BlkOk X.N X.env.scope scope own)
    (hg : Blk X scope fun Y => ∀ zz, PG Y tg (gSw (own.map (·.2)) (Y.K, zz) g)) (ht : Blk X scope fun Y => ∀ zz, PTs Y ifs (tT (Y.K, zz) W0 dt)) (he : Blk X scope fun Y => ∀ zz, PE Y elt (tE (Y.K, zz) W0 de)) (hc : X.calm = true := by rfl) (hs : ∀ x, foldedSetIterable iter X.env x = pure x := by intro _; rfl) :
    PE X (.ListComp elt [⟨tg, iter, ifs, 0⟩] scope pos) (tE (X.K, zz) W (eLc mu (own.map (·.2)) di g dt de)) :=
  PE.imp (pe_lc hc hN hi ok (fun s H C cl fp => PG.anyz (hg s H C cl fp)) (fun s H C cl fp => PTs.anyz (ht s H C cl fp)) (fun s H C cl fp => PE.anyz (he s H C cl fp)) hs) fun _ _ _ h => lc_read h
theorem s_setLc (mu : Bool) (own : List (Str × Nat)) {i : Nat} {y : Str} {py : Pos} (hN : X.N.Nodup) (hi : PI X tg iter (iS (X.K, zz) W di)) (ok : BlkOk X.N X.env.scope scope own)
    (hg : Blk X scope fun Y => ∀ zz, PG Y tg (gSw (own.map (·.2)) (Y.K, zz) g)) (ht : Blk X scope fun Y => ∀ zz, PTs Y ifs (tT (Y.K, zz) W0 dt)) (he : Blk X scope fun Y => ∀ zz, PE Y elt (tE (Y.K, zz) W0 de))
    (hy : X.N[i]? = some y := by rfl) (hyl : X.env.scope.names.lookup y = some .local := by rfl) (hsw : swapsWith (.ListComp elt [⟨tg, iter, ifs, 0⟩] scope pos) (some (.Name y py)) spos.line X.env = pure true := by rfl) (hc : X.calm = true := by rfl) (hs : ∀ x, foldedSetIterable iter X.env x = pure x := by intro _; rfl) :
    PS X (.Assign [.Name y py] (.ListComp elt [⟨tg, iter, ifs, 0⟩] scope pos) spos) (tS (X.K, zz) W (sSet i (eLc mu (own.map (·.2)) di g dt de))) :=
  PS.imp (ps_setLc hc hN hy hyl hsw hi ok (fun s H C cl fp => PG.anyz (hg s H C cl fp)) (fun s H C cl fp => PTs.anyz (ht s H C cl fp)) (fun s H C cl fp => PE.anyz (he s H C cl fp)) hs) fun D σ H ⟨m, ρ, s, hE, hS, hG⟩ =>
    lc_read ⟨m, ρ, s, hE, hS, (GoodS.ofE hS hE hG).mono fun v H1 ⟨m1, a, s1, e1, S1, q1, E1, g1⟩ => g1 m1 H1 _ Ext.refl S1 (E1.set q1 i)⟩
end
end QS
end

section
set_option Elab.async false
set_option linter.all false
set_option maxRecDepth 100000
set_option maxHeartbeats 4000000
/-! QS7: enumerate, zip, isinstance, fields, instances, methods. -/
namespace QS
open PySem PySem.Spec PyProof.Rows L2
open Sem (wp)
/-! ### enumerate(tuple) -/
def Itet (K : PySem.W.Frag) (a : Addr) : It :=
  ⟨fun i H => ∃ (xs : List V) (x : V), SqT K H a xs ∧ xs[i]? = some x, fun i H v H' => ∃ T x, v = .ref T ∧ H T = none ∧ H' = upd H T (.tup [.int (i : Nat), x]) ∧ ∀ xs, SqT K H a xs → xs[i]? = some x, fun i H => ∃ xs : List V, SqT K H a xs ∧ xs.length ≤ i⟩
theorem turn_enumT {P : Program} {w : World} {K : PySem.W.Frag} {elts : List Expr} {kk : Nat} {tpos : Pos} (a e it : Addr) :
    Turn P w K (.Tuple elts kk tpos) (Itet K a) [e, it] e (fun i h => (∃ old, IsEnum h e it ((i : Nat) : Int) old) ∧ h.IsTupleIter it a i ∧ e ≠ it) where
  mem := by simp
  obj := fun i h st b hb => by
    obtain ⟨⟨old, he⟩, ⟨o, ho, hc, hd⟩, _⟩ := st
    have e' : b = e ∨ b = it := by simpa using hb
    rcases e' with z | z
    · rw [z]; exact ⟨_, he, fun v q => nomatch q⟩
    · rw [z]; exact ⟨o, ho, fun v q => by rw [hd] at q; cases q⟩
  keep := fun i h h' st k => let ⟨⟨old, he⟩, hi, hne⟩ := st; ⟨⟨old, k e (by simp) _ he⟩, hi.at fun o q => k it (by simp) o q, hne⟩
  item := by
    intro X hP hw hK hc i pins s σ H E I hf st hg
    subst hP hw hK
    obtain ⟨⟨old, he⟩, hit, hne⟩ := st
    obtain ⟨xs, x, hq, hx⟩ := hg
    obtain ⟨its, rv, p, hz⟩ := I.tuple hq
    obtain ⟨u, hu, ru⟩ := rv.get hx
    have hel : e < s.heap.objs.size := Heap.lt_size he
    have hil : it < s.heap.objs.size := by obtain ⟨_, q, _⟩ := hit; exact Heap.lt_size q
    have hT : s.heap.IsTuple a its.toArray := p
    have hae : e ≠ a := fun z => by
      obtain ⟨o, ho, hc', _⟩ := hT
      rw [← z, he] at ho
      cases ho
      exact absurd hc' (by simp)
    have hai : a ≠ it := fun z => by
      obtain ⟨o, ho, hc', _⟩ := hT
      obtain ⟨o2, ho2, hc2, _⟩ := hit
      rw [z, ho2] at ho
      cases ho
      rw [hc2] at hc'
      exact absurd hc' (by simp)
    have hi2 : i < its.toArray.size := by
      have := (List.getElem?_eq_some_iff.mp hu).1
      simpa using this
    refine wpAny_pyNext_enum_itemD (Draws.tuple (A := X.A.in1) (I.ok.hd hc) it a hai its.toArray) he ⟨hit, hT⟩ hi2 hne (by simp only [List.mem_cons, List.not_mem_nil, or_false, not_or]; exact ⟨hne, hae⟩) fun x' h' tk hP ho hst hT1 hsz hk => ?_
    obtain rfl : x' = u := by
      rw [show its.toArray[i]? = some u by simpa using hu] at hP
      cases hP
      rfl
    refine ⟨_, rfl, wpAny_letOwnedTupleGo_enum (s := { s with heap := h', toks := tk + 1 }) ho fun h'' he' sb => ?_⟩
    have hT2 : h''.get? s.heap.objs.size = some { cls := .type "tuple", data := .seq #[.int i tk, x'] } := (sb.2 _ (Nat.ne_of_gt hel)).trans hT1
    have new : ObjOk X.prog X.w (upd H s.heap.objs.size (.tup [.int (i : Nat), x])) h'' s.heap.objs.size (.tup [.int (i : Nat), x]) :=
      ⟨by show 2 ≤ sizeLine; decide, [.int i tk, x'], .cons ⟨_, rfl⟩ (.cons ru .nil), ⟨_, hT2, rfl, _, rfl⟩⟩
    have I1 : Inv X pins σ (upd H s.heap.objs.size (.tup [.int (i : Nat), x])) { s with heap := h'', toks := tk + 1 } :=
      I.turnedNew (ch := [e, it]) (fun b ob hb q => (sb.2 b (fun z => hb (by simp [z]))).trans (hk b ob (fun z => hb (by simp [z])) (fun z => hb (by simp [z])) q)) hf (Nat.le_refl _) new
    refine ⟨.ref s.heap.objs.size, _, I1, rfl, ⟨_, x, rfl, I.hok.fresh (Nat.le_refl _), rfl, fun ys hy => by rw [I.tuple_inj hy hq]; exact hx⟩, ⟨⟨x', ?_⟩, hst.1.at fun o q => (sb.2 it (Ne.symm hne)).trans q, hne⟩, fun b hb => ?_⟩
    · have e1 : ((i + 1 : Nat) : Int) = (i : Int) + 1 := by omega
      rw [e1]; exact he'
    · have hb' : b < s.heap.objs.size := by
        have e' : b = e ∨ b = it := by simpa using hb
        rcases e' with z | z
        · rw [z]; exact hel
        · rw [z]; exact hil
      rw [upd_ne (Nat.ne_of_lt hb')]
      exact (hf b hb).1
  done := by
    intro X hP hw hK hc i pins s σ H E I hf st hg
    subst hP hw hK
    obtain ⟨⟨old, he⟩, hit, hne⟩ := st
    obtain ⟨xs, hq, hx⟩ := hg
    obtain ⟨its, rv, p, hz⟩ := I.tuple hq
    obtain ⟨f0, f1, f2, f3, f4, f5⟩ := hf it (by simp)
    have hl := rv.length
    have hT : s.heap.IsTuple a its.toArray := p
    have hT0 : s.TypeIs (.ref e) "enumerate" := ⟨_, he, rfl⟩
    unfold pyNext
    refine wpAny_bind (wpAny_attempt (wpAny_callSpecial?_slot (name := Str.ofString "__next__") hT0 F.slot_enumerate_next
      (wpAny_call_entry F.slot_enumerate_next hT0 F.entry_enumerate_next ?_ (F.args_enumerate_next_1 _))))
    show wpAny _ _ (field (.ref e) 2 >>= _) _ _ _
    refine wpAny_bind (wpAny_field he rfl (x := .ref it) rfl ?_)
    refine wpAny_bind (wpAny_nextOf_tuple_end (I.ok.hd hc) hit hT (by simp; omega) fun h' x he' hx' => ?_)
    obtain ⟨o, ho, hc⟩ := hx'
    refine wpAny_bind (wpAny_isInstance (T := "StopIteration") (b := true) ⟨o, ho, hc⟩ isSubtype_stop ?_)
    exact wpAny_pure ⟨rfl, I.turned (t' := s.toks) (fun b o hb q => he' b o hb q) f0 f1 f3 f4 f5⟩
  self := fun A i s Q E st h => let ⟨⟨_, he⟩, _⟩ := st; wpAny_pyIter_enum he h
set_option maxHeartbeats 1000000 in
theorem meets_enum_new1 {v : Value} {o : Obj} {H : Heap → Prop} (B : Begins v o H) :
    Meets (Builtin.«enumerate.__new__» ⟨[.type "enumerate", v], []⟩) (fun _ R s => H s.heap ∧
      R (.ok (.ret (.ref (s.heap.push o).objs.size))) { s with heap := (s.heap.push o).push { cls := .type "enumerate", data := .fields #[.none, .bool false, .ref s.heap.objs.size, rawInt 0, .none, .none] } }) :=
  .of_wp fun prog w A R s h => by
    obtain ⟨hp, g, d, tk, os⟩ := s; obtain ⟨h1, h⟩ := h
    have hsub := sub_enumerate
    have q1 : ∀ {A' : Around} {E : Value → Shared → Prop} {Q : Value → Shared → Prop}, Q (.ref hp.objs.size) ⟨hp.push o, g, d, tk, os⟩ → wpAny (model prog w) A' (pyIter v) Q E ⟨hp, g, d, tk, os⟩ :=
      fun q => B.iter prog w _ _ ⟨hp, g, d, tk, os⟩ _ h1 q
    wp_walk using q1
    refine wpAny_stack_any fun st => wpAny_pure ?_
    split
    · rename_i c _ _ _ _ _
      cases (c == Value.type "enumerate")
      · wp_walk using q1
        exact ⟨_, rfl, h⟩
      · wp_walk using q1
        exact ⟨_, rfl, h⟩
    · wp_walk using q1
      exact ⟨_, rfl, h⟩
theorem call_enumT {prog : Program} {w : World} {A : Around} {E : Value → Shared → Prop} {s : Shared} {a : Addr} {items : Array Value} {Q : Value → Shared → Prop} (hT : s.heap.IsTuple a items)
    (h : ∀ h', IsEnum h' (s.heap.objs.size + 1) s.heap.objs.size 0 .none → h'.IsTupleIter s.heap.objs.size a 0 → h'.objs.size = s.heap.objs.size + 2 →
      (∀ b o, s.heap.get? b = some o → h'.get? b = some o) → Q (.ref (s.heap.objs.size + 1)) { s with heap := h' }) :
    wpAny (model prog w) A (call (.type "enumerate") [.ref a]) Q E s := by
  refine callType_new F.called_enumerate (by decide) (F.typeCall_enumerate_1 _) (F.newCall_enumerate_1 _) (fun obj => F.args_object_init_2 obj _) F.entry_enumerate_new
    (meets_enum_new1 (begins_tuple a items)) ⟨hT, ?_⟩
  have hz : (s.heap.push { cls := .type "tuple_iterator", data := .fields #[.ref a, .int 0 0] }).objs.size = s.heap.objs.size + 1 := Heap.size_push ..
  show _ ∧ _
  rw [hz]
  have he : IsEnum ((s.heap.push { cls := .type "tuple_iterator", data := .fields #[.ref a, .int 0 0] }).push
      { cls := .type "enumerate", data := .fields #[.none, .bool false, .ref s.heap.objs.size, rawInt 0, .none, .none] }) (s.heap.objs.size + 1) s.heap.objs.size 0 .none := by
    have := Heap.get?_push_size (s.heap.push { cls := .type "tuple_iterator", data := .fields #[.ref a, .int 0 0] })
      (o := { cls := .type "enumerate", data := .fields #[.none, .bool false, .ref s.heap.objs.size, rawInt 0, .none, .none] }) rfl
    rw [hz] at this; exact this
  refine ⟨⟨_, he, rfl⟩, h _ he ⟨_, Heap.get?_push_of_some _ (Heap.get?_push_size _ rfl), rfl, rfl⟩ (by rw [Heap.size_push, hz]) fun b o x => Heap.get?_push_of_some _ (Heap.get?_push_of_some _ x)⟩
def iEnumA (K : PySem.W.Frag) (ta : TA) : TI := fun σ H R => ta σ H fun vs H1 => ∃ a, vs = [.ref a] ∧ ((∃ xs, SqL K H1 a xs ∧ R (Ite K a) H1) ∨ (∃ xs, SqT K H1 a xs ∧ R (Itet K a) H1))
theorem pi_enumA {X : Cx} {e : Expr} {ta : TA} {p pos tpos : Pos} {elts : List Expr} {kk : Nat} (hg : Gl X "enumerate") (hm : X.mg "enumerate" = none) (ha : PA X [e] ta) (hs : starEach [e] X.env = [(false, eval e X.env)] := by rfl) :
    PI X (.Tuple elts kk tpos) (.Call (.Name "enumerate" p) [e] [] pos) (iEnumA X.K ta) := by
  refine ⟨fun pins s σ H R I h => ?_⟩
  refine Call_ (ld_blt I hg hm boot_enumerate (PyProof.Rows.callWith_type1 (thn (ha.run pos pins s σ H _ I h) fun us s1 ⟨vs, H1, I1, r1, q1⟩ => ?_) hs rfl))
  obtain ⟨a, ex, q⟩ := q1
  subst ex
  cases r1 with
  | cons r rr =>
    cases rr
    cases r
    have fin : ∀ b ∈ [s1.heap.objs.size + 1, s1.heap.objs.size], FpOk X pins H1 b := fun b hb => by
      have e' : b = s1.heap.objs.size + 1 ∨ b = s1.heap.objs.size := by simpa using hb
      have hle : s1.heap.objs.size ≤ b := by
        rcases e' with z | z
        · rw [z]; exact Nat.le_add_right _ _
        · rw [z]; exact Nat.le_refl _
      exact I1.fpOk hle (I1.hok.fresh hle)
    rcases q with ⟨xs, hq, q⟩ | ⟨xs, hq, q⟩
    · obtain ⟨its, rv, p', hz⟩ := I1.list hq
      refine call_enumerate_list p'.isList fun h' he hit hsz hk => wpAny_pyIter_enum he ?_
      have I2 : Inv X pins σ H1 { s1 with heap := h' } := I1.kept (t' := s1.toks) hk
      exact ⟨s1.heap.objs.size + 1, [s1.heap.objs.size + 1, s1.heap.objs.size], _, _, H1, rfl, I2, turn_enum a (s1.heap.objs.size + 1) s1.heap.objs.size, ⟨⟨.none, he⟩, hit, Nat.succ_ne_self _⟩, fin, q⟩
    · obtain ⟨its, rv, p', hz⟩ := I1.tuple hq
      refine call_enumT (show s1.heap.IsTuple a its.toArray from p') fun h' he hit hsz hk => wpAny_pyIter_enum he ?_
      have I2 : Inv X pins σ H1 { s1 with heap := h' } := I1.kept (t' := s1.toks) hk
      exact ⟨s1.heap.objs.size + 1, [s1.heap.objs.size + 1, s1.heap.objs.size], _, _, H1, rfl, I2, turn_enumT a (s1.heap.objs.size + 1) s1.heap.objs.size, ⟨⟨.none, he⟩, hit, Nat.succ_ne_self _⟩, fin, q⟩
def numD (l : List D) : List D := l.mapIdx fun i d => .tup [.int (i : Nat), d]
def itAny (x : D) : V1 Items := fun s => match itSeq x s with
  | some r => some r
  | none => itTup x s
def itEnum (xs : List D) : V1 Items := fun s => match xs with
  | [x] => (itAny x s).map fun p => (⟨numD p.1.l, p.1.gd⟩, p.2)
  | _ => none
/-- a sequence that walks stand over: its items as long as the guard stands -/
inductive SeqW (K : KZ) (m : List Addr) (s : Sto) (it : Items) (H : Hp) (a : Addr) : Prop
  | l (xs : List V) (h0 : SqL K.1 H a xs) (h : ∀ zz m1 H1 s1, (∀ p ∈ zz, p ∈ K.2 ∨ H p = none) → Ext m H m1 H1 → StR (K.1, zz) m1 H1 s1 → (∀ n, it.gd = some n → s1[n]? = s[n]?) → ∃ vs, SqL K.1 H1 a vs ∧ RepL (K.1, zz) m1 H1 it.l vs)
  | t (xs : List V) (h0 : SqT K.1 H a xs) (h : ∀ zz m1 H1 s1, (∀ p ∈ zz, p ∈ K.2 ∨ H p = none) → Ext m H m1 H1 → StR (K.1, zz) m1 H1 s1 → (∀ n, it.gd = some n → s1[n]? = s[n]?) → ∃ vs, SqT K.1 H1 a vs ∧ RepL (K.1, zz) m1 H1 it.l vs)
theorem itAny_at {K : KZ} {m : List Addr} {H : Hp} {d : D} {v : V} {s s' : Sto} {it : Items} (S : StR K m H s) (r : Rep K m H d v) (h : itAny d s = some (it, s')) : s' = s ∧ ∃ a, v = .ref a ∧ SeqW K m s it H a := by
  obtain ⟨K, z⟩ := K
  cases r with
  | @lst a ds vs n e q =>
    cases h
    exact ⟨rfl, a, rfl, .l vs (.inl (.inl e)) fun zz1 m2 H2 s3 hz f S3 _ => ⟨vs, .inl (.inl (f.keepE a _ e (fun _ z => nomatch z) n.1)), q.chg (chg_ext S.noTup hz f)⟩⟩
  | @scr a ds vs e q =>
    cases h
    exact ⟨rfl, a, rfl, .l vs e.l fun zz1 m2 H2 s3 hz f S3 _ => ⟨vs, (SqF.ext (K := (K, z)) S.noTup f e).l, q.chg (chg_ext S.noTup hz f)⟩⟩
  | @tup a ds vs e q =>
    cases h
    exact ⟨rfl, a, rfl, .t vs e fun zz1 m2 H2 s3 hz f S3 _ => ⟨vs, SqT.ext (K := (K, z)) S.noTup f e, q.chg (chg_ext S.noTup hz f)⟩⟩
  | @loc n a e =>
    have h : (match (match s[n]? with
        | some (.lst l) => some ((⟨l, some n⟩ : Items), s)
        | _ => none) with
      | some r => some r
      | none => none) = some (it, s') := h
    cases zq : s[n]? with
    | none => rw [zq] at h; cases h
    | some o =>
      rw [zq] at h
      cases o with
      | lst l =>
        cases h
        obtain ⟨vs, h1, h2⟩ := S.obj n a _ e zq
        refine ⟨rfl, a, rfl, .l vs (.inl (.inl h1)) fun zz1 m2 H2 s3 hz f S3 g => ?_⟩
        obtain ⟨us, h3, h4⟩ := S3.obj n a (.lst l) (f.loc e) (by rw [g n rfl]; exact zq)
        exact ⟨us, .inl (.inl h3), h4⟩
      | _ => cases h
  | _ => cases h
theorem numD_get {l : List D} {i : Nat} {d : D} (h : (numD l)[i]? = some d) : ∃ x, l[i]? = some x ∧ d = .tup [.int (i : Nat), x] := by
  unfold numD at h
  rw [List.getElem?_mapIdx] at h
  obtain ⟨x, h1, h2⟩ := Option.map_eq_some_iff.mp h
  exact ⟨x, h1, h2.symm⟩
theorem pair_rep {K : KZ} {m : List Addr} {H : Hp} {T : Addr} {x y : D} {v u : V} {s : Sto} (S : StR K m H s) (hT : H T = none) (hx : Rep K m H x v) (hy : Rep K m H y u) : Rep K m (upd H T (.tup [v, u])) (.tup [x, y]) (.ref T) :=
  .tup (.inl (.inl upd_same)) (.cons (hx.ext S.noTup (Ext.same (same_upd hT))) (.cons (hy.ext S.noTup (Ext.same (same_upd hT))) .nil))
theorem itw_enumL {K : KZ} {m : List Addr} {s : Sto} {H : Hp} {a : Addr} {it : Items} (st : ∀ zz m1 H1 s1, (∀ p ∈ zz, p ∈ K.2 ∨ H p = none) → Ext m H m1 H1 → StR (K.1, zz) m1 H1 s1 → (∀ n, it.gd = some n → s1[n]? = s[n]?) → ∃ vs, SqL K.1 H1 a vs ∧ RepL (K.1, zz) m1 H1 it.l vs) : ItW K m s ⟨numD it.l, it.gd⟩ (Ite K.1 a) H := by
  intro zz m1 H1 s1 hz e S g
  obtain ⟨vs, h1, h2⟩ := st zz m1 H1 s1 hz e S g
  have hl : (numD it.l).length = vs.length := by simp [numD, h2.length]
  refine ⟨fun i hi => ?_, ⟨vs, h1, by show vs.length ≤ (numD it.l).length; omega⟩, fun i d x H' hd hy => ?_⟩
  · have hi' : i < vs.length := by rw [← hl]; exact hi
    exact ⟨vs, vs[i], h1, List.getElem?_eq_getElem hi'⟩
  · obtain ⟨T, x', ev, hT, e1, e2⟩ := hy
    subst e1 ev
    obtain ⟨y, hy1, rfl⟩ := numD_get hd
    obtain ⟨v, h3, h4⟩ := h2.get hy1
    have := e2 vs h1
    rw [h3] at this
    cases this
    exact ⟨same_upd hT, pair_rep S hT (.int _) h4⟩
theorem itw_enumT {K : KZ} {m : List Addr} {s : Sto} {H : Hp} {a : Addr} {it : Items} (st : ∀ zz m1 H1 s1, (∀ p ∈ zz, p ∈ K.2 ∨ H p = none) → Ext m H m1 H1 → StR (K.1, zz) m1 H1 s1 → (∀ n, it.gd = some n → s1[n]? = s[n]?) → ∃ vs, SqT K.1 H1 a vs ∧ RepL (K.1, zz) m1 H1 it.l vs) : ItW K m s ⟨numD it.l, it.gd⟩ (Itet K.1 a) H := by
  intro zz m1 H1 s1 hz e S g
  obtain ⟨vs, h1, h2⟩ := st zz m1 H1 s1 hz e S g
  have hl : (numD it.l).length = vs.length := by simp [numD, h2.length]
  refine ⟨fun i hi => ?_, ⟨vs, h1, by show vs.length ≤ (numD it.l).length; omega⟩, fun i d x H' hd hy => ?_⟩
  · have hi' : i < vs.length := by rw [← hl]; exact hi
    exact ⟨vs, vs[i], h1, List.getElem?_eq_getElem hi'⟩
  · obtain ⟨T, x', ev, hT, e1, e2⟩ := hy
    subst e1 ev
    obtain ⟨y, hy1, rfl⟩ := numD_get hd
    obtain ⟨v, h3, h4⟩ := h2.get hy1
    have := e2 vs h1
    rw [h3] at this
    cases this
    exact ⟨same_upd hT, pair_rep S hT (.int _) h4⟩
section
variable {zz : List Addr} {X : Cx} {W : WX} {e : Expr} {es : List Expr} {de : EM} {da : AM}
theorem si_enum {elts : List Expr} {kk : Nat} {p pos tpos : Pos} (hm : X.mg "enumerate" = none) (ha : PA X [e] (tA (X.K, zz) W da)) (hg : Gl X "enumerate" := by rfl) (hs : starEach [e] X.env = [(false, eval e X.env)] := by rfl) :
    PI X (.Tuple elts kk tpos) (.Call (.Name "enumerate" p) [e] [] pos) (iS (X.K, zz) W (iOf itEnum da)) :=
  PI.imp (pi_enumA hg hm ha hs) fun σ H R h => tG.mono (fun vs H1 ⟨m1, ds, s1, it, s2, S1, q1, e1, hR⟩ => by
    rcases two_or q1 with rfl | ⟨d, v, rfl, rfl, hd⟩ | ⟨d, e', v, u, rfl, rfl, hd, he⟩ | ⟨a, b, c, l, rfl⟩
    · cases e1
    · have e1 : (itAny d s1).map (fun p => ((⟨numD p.1.l, p.1.gd⟩ : Items), p.2)) = some (it, s2) := e1
      obtain ⟨⟨it', s'⟩, h1, h2⟩ := Option.map_eq_some_iff.mp e1
      cases h2
      obtain ⟨rfl, a, rfl, q⟩ := itAny_at S1 hd h1
      cases q with
      | l xs h0 h => exact ⟨a, rfl, .inl ⟨xs, h0, hR m1 H1 _ Ext.refl S1 (itw_enumL h)⟩⟩
      | t xs h0 h => exact ⟨a, rfl, .inr ⟨xs, h0, hR m1 H1 _ Ext.refl S1 (itw_enumT h)⟩⟩
    · cases e1
    · cases e1) (iOf_in h)
end
/-! ### zip -/
def itZip (xs : List D) : V1 Items := fun s => match xs with
  | [x, y] => (itSeq x s).bind (fun p => (itSeq y s).bind fun q => match p.1.gd, q.1.gd with
      | some n, some k => if n = k then some (⟨(p.1.l.zip q.1.l).map fun z => .tup [z.1, z.2], some n⟩, s) else none
      | some n, none => some (⟨(p.1.l.zip q.1.l).map fun z => .tup [z.1, z.2], some n⟩, s)
      | none, g => some (⟨(p.1.l.zip q.1.l).map fun z => .tup [z.1, z.2], g⟩, s)) <|>
    (itTup x s).bind (fun p => (itTup y s).bind fun q => some (⟨(p.1.l.zip q.1.l).map fun z => .tup [z.1, z.2], none⟩, s))
  | _ => none
theorem zipD_get {l r : List D} {i : Nat} {d : D} (h : ((l.zip r).map fun z => D.tup [z.1, z.2])[i]? = some d) : ∃ x y, l[i]? = some x ∧ r[i]? = some y ∧ d = .tup [x, y] := by
  rw [List.getElem?_map] at h
  obtain ⟨z, h1, h2⟩ := Option.map_eq_some_iff.mp h
  rw [List.getElem?_zip_eq_some] at h1
  exact ⟨z.1, z.2, h1.1, h1.2, h2.symm⟩
theorem seqL_at {K : KZ} {m : List Addr} {H : Hp} {d : D} {v : V} {s s' : Sto} {it : Items} (S : StR K m H s) (r : Rep K m H d v) (h : itSeq d s = some (it, s')) : s' = s ∧ ∃ a xs, v = .ref a ∧ SqL K.1 H a xs ∧
    ∀ zz m1 H1 s1, (∀ p ∈ zz, p ∈ K.2 ∨ H p = none) → Ext m H m1 H1 → StR (K.1, zz) m1 H1 s1 → (∀ n, it.gd = some n → s1[n]? = s[n]?) → ∃ vs, SqL K.1 H1 a vs ∧ RepL (K.1, zz) m1 H1 it.l vs := by
  obtain ⟨K, z⟩ := K
  cases r with
  | @lst a ds vs n e q =>
    cases h
    exact ⟨rfl, a, vs, rfl, .inl (.inl e), fun zz1 m2 H2 s3 hz f S3 _ => ⟨vs, .inl (.inl (f.keepE a _ e (fun _ z => nomatch z) n.1)), q.chg (chg_ext S.noTup hz f)⟩⟩
  | @scr a ds vs e q =>
    cases h
    exact ⟨rfl, a, vs, rfl, e.l, fun zz1 m2 H2 s3 hz f S3 _ => ⟨vs, (SqF.ext (K := (K, z)) S.noTup f e).l, q.chg (chg_ext S.noTup hz f)⟩⟩
  | @loc n a e =>
    have h : (match s[n]? with
        | some (.lst l) => some ((⟨l, some n⟩ : Items), s)
        | _ => none) = some (it, s') := h
    cases zq : s[n]? with
    | none => rw [zq] at h; cases h
    | some o =>
      rw [zq] at h
      cases o with
      | lst l =>
        cases h
        obtain ⟨vs, h1, h2⟩ := S.obj n a _ e zq
        refine ⟨rfl, a, vs, rfl, .inl (.inl h1), fun zz1 m2 H2 s3 hz f S3 g => ?_⟩
        obtain ⟨us, h3, h4⟩ := S3.obj n a (.lst l) (f.loc e) (by rw [g n rfl]; exact zq)
        exact ⟨us, .inl (.inl h3), h4⟩
      | _ => cases h
  | _ => cases h
theorem itw_zip {K : KZ} {m : List Addr} {s : Sto} {H : Hp} {J : It} {l r : List D} {g : Option Nat} (P : Hp → List V → Prop) (Q : Hp → List V → Prop)
    (hgo : ∀ i H xs ys x y, P H xs → Q H ys → xs[i]? = some x → ys[i]? = some y → J.go i H) (hst : ∀ i H xs ys, P H xs → Q H ys → xs.length ≤ i ∨ ys.length ≤ i → J.stop i H)
    (hy : ∀ i H v H' xs ys, P H xs → Q H ys → J.yld i H v H' → ∃ T x y, v = .ref T ∧ H T = none ∧ H' = upd H T (.tup [x, y]) ∧ xs[i]? = some x ∧ ys[i]? = some y)
    (st1 : ∀ zz m1 H1 s1, (∀ p ∈ zz, p ∈ K.2 ∨ H p = none) → Ext m H m1 H1 → StR (K.1, zz) m1 H1 s1 → (∀ n, g = some n → s1[n]? = s[n]?) → ∃ vs, P H1 vs ∧ RepL (K.1, zz) m1 H1 l vs)
    (st2 : ∀ zz m1 H1 s1, (∀ p ∈ zz, p ∈ K.2 ∨ H p = none) → Ext m H m1 H1 → StR (K.1, zz) m1 H1 s1 → (∀ n, g = some n → s1[n]? = s[n]?) → ∃ vs, Q H1 vs ∧ RepL (K.1, zz) m1 H1 r vs) :
    ItW K m s ⟨(l.zip r).map fun z => .tup [z.1, z.2], g⟩ J H := by
  intro zz m1 H1 s1 hz e S gd
  obtain ⟨vs, h1, h2⟩ := st1 zz m1 H1 s1 hz e S gd
  obtain ⟨us, h3, h4⟩ := st2 zz m1 H1 s1 hz e S gd
  have l1 := h2.length
  have l2 := h4.length
  have hl : ((l.zip r).map fun z => D.tup [z.1, z.2]).length = min vs.length us.length := by simp [l1, l2]
  refine ⟨fun i hi => ?_, hst _ H1 vs us h1 h3 (by
    show vs.length ≤ ((l.zip r).map fun z => D.tup [z.1, z.2]).length ∨ us.length ≤ ((l.zip r).map fun z => D.tup [z.1, z.2]).length
    omega), fun i d x H' hd hyl => ?_⟩
  · have hi' : i < min vs.length us.length := by rw [← hl]; exact hi
    exact hgo i H1 vs us vs[i] us[i] h1 h3 (List.getElem?_eq_getElem (by omega)) (List.getElem?_eq_getElem (by omega))
  · obtain ⟨T, a, b, rfl, hT, rfl, e1, e2⟩ := hy i H1 x H' vs us h1 h3 hyl
    obtain ⟨dx, dy, d1, d2, rfl⟩ := zipD_get hd
    obtain ⟨v1, h5, h6⟩ := h2.get d1
    obtain ⟨v2, h7, h8⟩ := h4.get d2
    rw [e1] at h5
    rw [e2] at h7
    cases h5; cases h7
    exact ⟨same_upd hT, pair_rep S hT h6 h8⟩
section
variable {zz : List Addr} {X : Cx} {W : WX} {e e2 : Expr} {da : AM}
theorem tupT_at {K : KZ} {m : List Addr} {H : Hp} {d : D} {v : V} {s s' : Sto} {it : Items} (S : StR K m H s) (r : Rep K m H d v) (h : itTup d s = some (it, s')) : s' = s ∧ it.gd = none ∧ ∃ a xs, v = .ref a ∧ SqT K.1 H a xs ∧
    ∀ zz m1 H1 s1, (∀ p ∈ zz, p ∈ K.2 ∨ H p = none) → Ext m H m1 H1 → StR (K.1, zz) m1 H1 s1 → ∃ vs, SqT K.1 H1 a vs ∧ RepL (K.1, zz) m1 H1 it.l vs := by
  obtain ⟨K, z⟩ := K
  cases r with
  | @tup a ds vs e q =>
    cases h
    exact ⟨rfl, rfl, a, vs, rfl, e, fun zz1 m2 H2 s3 hz f S3 => ⟨vs, SqT.ext (K := (K, z)) S.noTup f e, q.chg (chg_ext S.noTup hz f)⟩⟩
  | _ => cases h
theorem si_zip {elts : List Expr} {kk : Nat} {p pos tpos : Pos} (hm : X.mg "zip" = none) (ha : PA X [e, e2] (tA (X.K, zz) W da)) (hg : Gl X "zip" := by rfl) (hs : starEach [e, e2] X.env = (false, eval e X.env) :: starEach [e2] X.env := by rfl) (hpl : (backTo pos (starEach [e2] X.env)).any (·.1) = false := by rfl) :
    PI X (.Tuple elts kk tpos) (.Call (.Name "zip" p) [e, e2] [] pos) (iS (X.K, zz) W (iOf itZip da)) :=
  PI.imp (RZ.pi_zipA hg hm ha hs hpl) fun σ H R h => tG.mono (fun vs H1 ⟨m1, ds, s1, it, s2, S1, q1, e1, hR⟩ => by
    rcases two_or q1 with rfl | ⟨d, v, rfl, rfl, hd⟩ | ⟨d, e', v, u, rfl, rfl, hd, he⟩ | ⟨a, b, c, l, rfl⟩
    · cases e1
    · cases e1
    · unfold itZip at e1
      simp only at e1
      cases z1 : itSeq d s1 with
      | some p =>
        obtain ⟨i1, t1⟩ := p
        obtain ⟨rfl, a, xs, rfl, hx, w1⟩ := seqL_at S1 hd z1
        cases z2 : itSeq e' t1 with
        | some q =>
          obtain ⟨i2, t2⟩ := q
          obtain ⟨rfl, b, ys, rfl, hy, w2⟩ := seqL_at S1 he z2
          have key : ∀ g, (∀ n, i1.gd = some n → g = some n) → (∀ n, i2.gd = some n → g = some n) → ItW (X.K, zz) m1 t2 ⟨(i1.l.zip i2.l).map fun z => .tup [z.1, z.2], g⟩ (Itz X.K a b) H1 := fun g g1 g2 =>
            itw_zip (fun H xs => SqL X.K H a xs) (fun H xs => SqL X.K H b xs) (fun i H xs ys x y p q h1 h2 => ⟨xs, ys, x, y, p, q, h1, h2⟩) (fun i H xs ys p q h => ⟨xs, ys, p, q, h⟩)
              (fun i H v H' xs ys p q ⟨T, x, y, h1, h2, h3, h4, h5⟩ => ⟨T, x, y, h1, h2, h3, h4 xs p, h5 ys q⟩)
              (fun zz1 m2 H2 s3 hz f S3 gd => w1 zz1 m2 H2 s3 hz f S3 fun n hn => gd n (g1 n hn)) (fun zz1 m2 H2 s3 hz f S3 gd => w2 zz1 m2 H2 s3 hz f S3 fun n hn => gd n (g2 n hn))
          refine ⟨a, b, xs, ys, rfl, .inl ⟨hx, hy, ?_⟩⟩
          rw [z1] at e1
          simp only [Option.bind_some, z2] at e1
          have fin : ∀ g, (∀ n, i1.gd = some n → g = some n) → (∀ n, i2.gd = some n → g = some n) → some ((⟨(i1.l.zip i2.l).map fun z => .tup [z.1, z.2], g⟩ : Items), t2) = some (it, s2) → R (Itz X.K a b) H1 := fun g g1 g2 e => by
            cases e
            exact hR m1 H1 _ Ext.refl S1 (key g g1 g2)
          cases g1 : i1.gd with
          | none =>
            simp only [g1] at e1
            exact fin i2.gd (fun n h => by rw [g1] at h; cases h) (fun n h => h) e1
          | some n =>
            cases g2 : i2.gd with
            | none =>
              simp only [g1, g2] at e1
              exact fin (some n) (fun n h => by rw [g1] at h; exact h) (fun n h => by rw [g2] at h; cases h) e1
            | some k =>
              simp only [g1, g2] at e1
              by_cases c : n = k
              · subst c
                simp only [if_true] at e1
                exact fin (some n) (fun n h => by rw [g1] at h; exact h) (fun n h => by rw [g2] at h; exact h) e1
              · simp only [c, if_false] at e1
                cases hd <;> first | (cases e1; done) | cases z1
        | none =>
          rw [z1] at e1
          simp only [Option.bind_some, z2, Option.bind_none] at e1
          cases hd <;> first | (cases e1; done) | cases z1
      | none =>
        simp only [z1, Option.bind_none] at e1
        cases z3 : itTup d s1 with
        | none => rw [z3] at e1; cases e1
        | some p =>
          obtain ⟨i1, t1⟩ := p
          obtain ⟨rfl, g1, a, xs, rfl, hx, w1⟩ := tupT_at S1 hd z3
          cases z4 : itTup e' t1 with
          | none => rw [z3] at e1; simp only [Option.bind_some, z4] at e1; cases e1
          | some q =>
            obtain ⟨i2, t2⟩ := q
            obtain ⟨rfl, g2, b, ys, rfl, hy, w2⟩ := tupT_at S1 he z4
            rw [z3] at e1
            simp only [Option.bind_some, z4] at e1
            cases e1
            refine ⟨a, b, xs, ys, rfl, .inr ⟨hx, hy, hR m1 H1 _ Ext.refl S1 ?_⟩⟩
            exact itw_zip (fun H xs => SqT X.K H a xs) (fun H xs => SqT X.K H b xs) (fun i H xs ys x y p q h1 h2 => ⟨xs, ys, x, y, p, q, h1, h2⟩) (fun i H xs ys p q h => ⟨xs, ys, p, q, h⟩)
              (fun i H v H' xs ys p q ⟨T, x, y, h1, h2, h3, h4, h5⟩ => ⟨T, x, y, h1, h2, h3, h4 xs p, h5 ys q⟩)
              (fun zz1 m2 H2 s3 hz f S3 gd => w1 zz1 m2 H2 s3 hz f S3) (fun zz1 m2 H2 s3 hz f S3 gd => w2 zz1 m2 H2 s3 hz f S3)
    · cases e1) (iOf_in h)
end
end QS
end

section
set_option Elab.async false
set_option linter.all false
set_option maxRecDepth 100000
set_option maxHeartbeats 4000000
/-! QS8: isinstance, fields, instances, methods, a list's methods, three at once. -/
namespace QS
open PySem PySem.Spec PyProof.Rows L2
/-! ### isinstance -/
inductive TyV where
  | b (n : String)
  | o (c : Str)
  deriving DecidableEq
def TyV.val (K : PySem.W.Frag) : TyV → Value
  | .b n => .type n
  | .o c => .ref (He.ga K c)
def tyV (s : Sto) : D → Option TyV
  | .non => some (.b "NoneType")
  | .bl _ => some (.b "bool")
  | .int _ => some (.b "int")
  | .str _ => some (.b "str")
  | .tup _ => some (.b "tuple")
  | .lst _ => some (.b "list")
  | .scr _ => some (.b "list")
  | .dic _ _ => some (.b "dict")
  | .ins c _ _ => some (.o c)
  | .adr _ => none
  | .xo _ _ _ _ => none
  | .th _ _ _ _ _ => none
  | .odd _ => some (.b "dict")
  | .loc n => match s[n]? with
    | some (.lst _) => some (.b "list")
    | some (.dic _ _) => some (.b "dict")
    | some (.ins c _ _) => some (.o c)
    | none => none
/-- a value's class, a dict of any keys among them -/
inductive TyY (K : PySem.W.Frag) (H : Hp) : V → Value → Prop where
  | x {v : V} {t : Value} (h : TyX K H v t) : TyY K H v t
  | odd {a : Addr} {o : Obj} {us : List V} (h : H a = some (OddO a o us)) : TyY K H (.ref a) (.type "dict")
theorem kit_y {X : Cx} {pins : List (Addr × Obj)} {σ : St} {H : Hp} {s : Shared} {x : V} {u t : Value} (I : Inv X pins σ H s) (rx : RelV x u) (ty : TyY X.K H x t) : ∃ P : Heap → Prop, PySem.W.KitX X.K u t P ∧ P s.heap ∧ u ≠ .builtin "__main__.__loader__#opaque" := by
  cases ty with
  | x h => exact kit_of I rx h
  | @odd a o us h =>
    have hr : u = Value.ref a := rx
    subst hr
    obtain ⟨⟨_, _, e1, e2, _⟩, _⟩ := (show ObjOk X.prog X.w H s.heap a (OddO a o us) from I.hok a _ h)
    exact ⟨_, PySem.W.kitx_dict, ⟨o, e1, e2.1⟩, fun z => nomatch z⟩
def rIsiY (K : PySem.W.Frag) : List V → Hp → VK → Prop := fun vs H Q => ∃ v c t u b, vs = [v, c] ∧ ClsV c u ∧ TyY K H v t ∧ PySem.W.kitOne K t u = some b ∧ Q (.bl b) H
def rIsiTY (K : PySem.W.Frag) : List V → Hp → VK → Prop := fun vs H Q => ∃ v p cs t us b, vs = [v, .ref p] ∧ H p = some (.tup cs) ∧ Paired ClsV cs us ∧ TyY K H v t ∧ PySem.W.kitAny K t us = some b ∧ Q (.bl b) H
theorem call_isiY {X : Cx} : CallR X (.builtin "isinstance") (rIsiY X.K) := fun pins s σ H vs ws Q I r ⟨v, c, t, u, b, ev, k, ty, e, q⟩ => by
  subst ev
  obtain ⟨w1, w2, rfl, r1, r2⟩ := vals2 r
  obtain rfl := k.eq r2
  obtain ⟨P, Z, hp, hx⟩ := kit_y I r1 ty
  exact PySem.W.kia_one Z I.kIn hp e hx fun _ => ⟨.bl b, H, I.tok _, rfl, q⟩
theorem call_isiTY {X : Cx} : CallR X (.builtin "isinstance") (rIsiTY X.K) := fun pins s σ H vs ws Q I r ⟨v, p, cs, t, us, b, ev, hT, k, ty, e, q⟩ => by
  subst ev
  obtain ⟨w1, w2, rfl, r1, r2⟩ := vals2 r
  have hw : w2 = Value.ref p := r2
  subst hw
  obtain ⟨P, Z, hp, hx⟩ := kit_y I r1 ty
  obtain ⟨_, its, rv, ob, g1, g2, n, g3⟩ := (show ObjOk X.prog X.w H s.heap p (.tup cs) from I.hok p _ hT)
  obtain rfl := ClsV.all k rv
  obtain ⟨oc, od, dt, sl⟩ := ob
  simp only at g2 g3
  subst g2 g3
  exact PySem.W.kia_tup Z I.kIn hp g1 e hx fun _ => ⟨.bl b, H, I.tok _, rfl, q⟩
/-- what isinstance wants of a written class -/
structure ClsI (K : PySem.W.Frag) (c : Str) : Prop where
  cl : Cls K (He.ga K c)
  ha : PySem.W.findIn K (.ref (He.ga K c)) "__class__" = some (some (.builtin "object.__class__"))
  hn : PySem.W.specialIn K (.builtin "object.__class__") "__get__" = some (some (.builtin "getset_descriptor.__get__"))
  htk : PySem.W.takesIn K (.builtin "object.__class__") = some true
  hm : PySem.W.mroIn K (He.ga K c) (.type "object") = some true
/-- the answers of isinstance(.., u) -/
def Ans (K : PySem.W.Frag) (u : Value) (ans : TyV → Option Bool) : Prop := ∀ t b, ans t = some b → PySem.W.kitOne K (t.val K) u = some b ∧ ∀ c, t = .o c → ClsI K c
section
variable {K : KZ} {m : List Addr} {H : Hp} {s : Sto} {d : D} {v : V} {t : TyV}
theorem sqT_ty {a : Addr} {vs : List V} (h : SqT K.1 H a vs) : TyX K.1 H (.ref a) (.type "tuple") := by
  rcases h with (h | ⟨o, h⟩) | ⟨o, its, n, h1, h2, _⟩
  · exact .base (.tup h)
  · exact .fTuple h
  · exact .kTuple h1 h2
theorem tyV_ok (S : StR K m H s) (r : Rep K m H d v) (h : tyV s d = some t) (hc : ∀ c, t = .o c → ClsI K.1 c) : TyY K.1 H v (t.val K.1) := by
  cases r with
  | non => cases h; exact .x (.base .non)
  | bl b => cases h; exact .x (.base (.bl b))
  | int i => cases h; exact .x (.base (.int i))
  | str x => cases h; exact .x (.base (.str x))
  | tup e q => cases h; exact .x (sqT_ty e)
  | lst n e q => cases h; exact .x (.base (.lst e))
  | scr e q =>
    cases h
    rcases e with ⟨o, e⟩ | ⟨o, its, n, h1, h2, _⟩
    · exact .x (.base (.frz e))
    · exact .x (.kList h1 h2)
  | adr a => cases h
  | xo a b c => cases h
  | th a b c => cases h
  | odd a b c => cases h; exact .odd b
  | dic n l e q =>
    cases h
    rcases e with e | ⟨o, e⟩
    · exact .x (.base (.dK e))
    · exact .x (.fDict e)
  | @ins a dx c fs ds vs n l e q =>
    cases h
    have z := hc c rfl
    exact .x (.base (.ins e z.cl z.ha z.hn z.htk z.hm))
  | @loc n a e =>
    have h : (match s[n]? with
      | some (.lst _) => some (TyV.b "list")
      | some (.dic _ _) => some (.b "dict")
      | some (.ins c _ _) => some (.o c)
      | none => none) = some t := h
    cases z : s[n]? with
    | none => rw [z] at h; cases h
    | some o =>
      rw [z] at h
      have q := S.obj n a o e z
      cases o with
      | lst l =>
        cases h
        obtain ⟨vs, e1, _⟩ := q
        exact .x (.base (.lst e1))
      | dic ks l =>
        cases h
        obtain ⟨vs, _, e1, _⟩ := q
        exact .x (.base (.dK e1))
      | ins c fs l =>
        cases h
        obtain ⟨dx, vs, _, e1, _⟩ := q
        have z := hc c rfl
        exact .x (.base (.ins e1 z.cl z.ha z.hn z.htk z.hm))
theorem tyY_same {u : Value} {H' : Hp} (sm : Same H H') (tx : ∀ {v : V}, TyX K.1 H v u → TyX K.1 H' v u) (h : TyY K.1 H v u) : TyY K.1 H' v u := by
  cases h with
  | x h => exact .x (tx h)
  | odd h => exact .odd (sm _ _ h)
theorem tyX_same {u : Value} {H' : Hp} (sm : Same H H') (h : TyX K.1 H v u) : TyX K.1 H' v u := by
  cases h with
  | base b =>
    cases b with
    | non => exact .base .non
    | bl b => exact .base (.bl b)
    | int i => exact .base (.int i)
    | str x => exact .base (.str x)
    | flt x => exact .base (.flt x)
    | lst e => exact .base (.lst (sm _ _ e))
    | frz e => exact .base (.frz (sm _ _ e))
    | tup e => exact .base (.tup (sm _ _ e))
    | dK e => exact .base (.dK (sm _ _ e))
    | dT e => exact .base (.dT (sm _ _ e))
    | ins e a b c d' f => exact .base (.ins (sm _ _ e) a b c d' f)
  | byt b => exact .byt b
  | set e => exact .set (sm _ _ e)
  | kList e c => exact .kList e c
  | kTuple e c => exact .kTuple e c
  | kDict e c => exact .kDict e c
  | fTuple e => exact .fTuple (sm _ _ e)
  | fDict e => exact .fDict (sm _ _ e)
end
def gIsi (ans : TyV → Option Bool) : D → V1 D := fun d s => ((tyV s d).bind ans).map fun b => (.bl b, s)
/-- the answers for (c1, c2) -/
def ansOr (f g : TyV → Option Bool) : TyV → Option Bool := fun t => match f t with
  | some true => some true
  | some false => g t
  | none => none
section
variable {zz : List Addr} {X : Cx} {W : WX} {e o c c1 c2 : Expr} {es : List Expr} {de dv : EM} {da : AM} {pos p : Pos}
theorem isi_in {d : D} {v : V} {u : Value} {ans : TyV → Option Bool} {m : List Addr} {H : Hp} {s : Sto} {Q : VK} (hA : Ans X.K u ans) (S : StR (X.K, zz) m H s) (r : Rep (X.K, zz) m H d v) (h : GoodV (X.K, zz) m H Q (gIsi ans d s)) :
    ∃ t b, TyY X.K H v (TyV.val X.K t) ∧ PySem.W.kitOne X.K (TyV.val X.K t) u = some b ∧ Q (.bl b) H := by
  unfold gIsi at h
  cases z : tyV s d with
  | none => rw [z] at h; exact h.elim
  | some t =>
    rw [z] at h
    simp only [Option.bind_some] at h
    cases za : ans t with
    | none => rw [za] at h; exact h.elim
    | some b =>
      rw [za] at h
      obtain ⟨h1, h2⟩ := hA t b za
      exact ⟨t, b, tyV_ok S r z h2, h1, GoodV.here S h (.bl b)⟩
theorem se_isi {cv : V} {u : Value} {ans : TyV → Option Bool} (hA : Ans X.K u ans) (hm : X.mg "isinstance" = none) (he : PE X e (tE (X.K, zz) W de)) (hcv : PE X c (tC cv)) (ck : ClsV cv u) (hg : Gl X "isinstance" := by rfl)
    (hs1 : starEach [e, c] X.env = (false, eval e X.env) :: starEach [c] X.env := by rfl) (hs2 : starEach [c] X.env = (false, eval c X.env) :: starEach [] X.env := by rfl) (hpl : (backTo pos (starEach [c] X.env)).any (·.1) = false := by rfl) :
    PE X (.Call (.Name "isinstance" p) [e, c] [] pos) (tE (X.K, zz) W (eU (gIsi ans) de)) :=
  PE.imp (pe_callB (call_isiY (X := X)) hg hm PyProof.Rows.boot_isinstance (pa_cons he (pa_cons hcv pa_nil hs2) hs1) (by decide) (by decide) hs1 hpl) fun σ H Q h => by
    refine tG.mono (fun v H1 q => ?_) (into1 h)
    obtain ⟨m1, x, s1, S1, q1, hG1⟩ := q
    obtain ⟨t, b, h1, h2, h3⟩ := isi_in hA S1 q1 hG1
    exact ⟨v, cv, _, u, b, rfl, ck, h1, h2, h3⟩
theorem se_isi2 {v1 v2 : V} {u1 u2 : Value} {f g : TyV → Option Bool} {k : Nat} {tpos : Pos} (hA1 : Ans X.K u1 f) (hA2 : Ans X.K u2 g) (hm : X.mg "isinstance" = none) (he : PE X e (tE (X.K, zz) W de)) (hc1 : PE X c1 (tC v1)) (hc2 : PE X c2 (tC v2)) (ck1 : ClsV v1 u1) (ck2 : ClsV v2 u2) (hg : Gl X "isinstance" := by rfl)
    (hs1 : starEach [e, .Tuple [c1, c2] k tpos] X.env = (false, eval e X.env) :: starEach [.Tuple [c1, c2] k tpos] X.env := by rfl) (hs2 : starEach [.Tuple [c1, c2] k tpos] X.env = (false, eval (.Tuple [c1, c2] k tpos) X.env) :: starEach [] X.env := by rfl) (hpl : (backTo pos (starEach [.Tuple [c1, c2] k tpos] X.env)).any (·.1) = false := by rfl)
    (ht1 : starEach [c1, c2] X.env = (false, eval c1 X.env) :: starEach [c2] X.env := by rfl) (ht2 : starEach [c2] X.env = (false, eval c2 X.env) :: starEach [] X.env := by rfl) :
    PE X (.Call (.Name "isinstance" p) [e, .Tuple [c1, c2] k tpos] [] pos) (tE (X.K, zz) W (eU (gIsi (ansOr f g)) de)) :=
  PE.imp (pe_callB (call_isiTY (X := X)) hg hm PyProof.Rows.boot_isinstance (pa_cons he (pa_cons (pe_tup (pa_cons hc1 (pa_cons hc2 pa_nil ht2) ht1)) pa_nil hs2) hs1) (by decide) (by decide) hs1 hpl) fun σ H Q h => by
    refine tG.mono (fun v H1 q => ?_) (into1 h)
    obtain ⟨m1, x, s1, S1, q1, hG1⟩ := q
    refine ⟨by show 2 ≤ sizeLine; decide, fun T hT => ?_⟩
    unfold gIsi at hG1
    cases z : tyV s1 x with
    | none => rw [z] at hG1; exact hG1.elim
    | some t =>
      rw [z] at hG1
      simp only [Option.bind_some] at hG1
      have hfin : ∀ b, ansOr f g t = some b → Q (.bl b) (upd H1 T (.tup [v1, v2])) := fun b hb => by
        rw [hb] at hG1
        exact hG1 m1 _ _ (Ext.same (same_upd hT)) (S1.same (same_upd hT)) (.bl b)
      cases zf : f t with
      | none =>
        unfold ansOr at hG1
        rw [zf] at hG1; exact hG1.elim
      | some b1 =>
        obtain ⟨h1, h2⟩ := hA1 t b1 zf
        have ty := tyY_same (K := (X.K, zz)) (same_upd (o := .tup [v1, v2]) hT) (tyX_same (K := (X.K, zz)) (same_upd (o := .tup [v1, v2]) hT)) (tyV_ok S1 q1 z h2)
        cases b1 with
        | true =>
          refine ⟨v, T, [v1, v2], t.val X.K, [u1, u2], true, rfl, upd_same, .cons ck1 (.cons ck2 .nil), ty, kitAny_cons h1 (fun z => by cases z) (fun _ => rfl), hfin true ?_⟩
          unfold ansOr
          rw [zf]
        | false =>
          cases zg : g t with
          | none =>
            unfold ansOr at hG1
            rw [zf, ] at hG1
            simp only [zg] at hG1
            exact hG1.elim
          | some b2 =>
            obtain ⟨h3, _⟩ := hA2 t b2 zg
            refine ⟨v, T, [v1, v2], t.val X.K, [u1, u2], b2, rfl, upd_same, .cons ck1 (.cons ck2 .nil), ty, kitAny_cons h1 (fun _ => kitAny_cons h3 (fun e => by rw [e]; exact kitAny_nil) (fun e => e)) (fun z => by cases z), hfin b2 ?_⟩
            unfold ansOr
            rw [zf]
            exact zg
/-! ### fields -/
def fldD (f : Str) : List Str → List D → Option D
  | g :: fs, d :: ds => if f == g then some d else fldD f fs ds
  | _, _ => none
def insOf (c : Str) (s : Sto) : D → Option (List Str × List D)
  | .ins c' fs ds => if c' = c then some (fs, ds) else none
  | .loc n => match s[n]? with
    | some (.ins c' fs ds) => if c' = c then some (fs, ds) else none
    | _ => none
  | _ => none
def gFld (c f : Str) : D → V1 D := fun x s => (insOf c s x).bind fun p => (fldD f p.1 p.2).map fun d => (d, s)
theorem insOf_at {K : KZ} {m : List Addr} {H : Hp} {s : Sto} {d : D} {v : V} {c : Str} {fs : List Str} {ds : List D} (S : StR K m H s) (r : Rep K m H d v) (h : insOf c s d = some (fs, ds)) :
    ∃ a dx vs, v = .ref a ∧ fs.length = vs.length ∧ H a = some (.ins (He.ga K.1 c) dx (fs.zip vs)) ∧ RepL K m H ds vs := by
  cases r with
  | @ins a dx c' fs' ds' vs n l e q =>
    have h : (if c' = c then some (fs', ds') else none) = some (fs, ds) := h
    by_cases z : c' = c
    · rw [if_pos z] at h
      cases h
      subst z
      exact ⟨a, dx, vs, rfl, l, e, q⟩
    · rw [if_neg z] at h; cases h
  | @loc n a e =>
    have h : (match s[n]? with
      | some (.ins c' fs ds) => if c' = c then some (fs, ds) else none
      | _ => none) = some (fs, ds) := h
    cases z : s[n]? with
    | none => rw [z] at h; cases h
    | some o =>
      rw [z] at h
      cases o with
      | ins c' fs' ds' =>
        simp only at h
        by_cases zc : c' = c
        · rw [if_pos zc] at h
          cases h
          subst zc
          obtain ⟨dx, vs, l, e1, q⟩ := S.obj n a _ e z
          exact ⟨a, dx, vs, rfl, l, e1, q⟩
        · rw [if_neg zc] at h; cases h
      | _ => cases h
  | _ => cases h
theorem fldD_at {K : KZ} {m : List Addr} {H : Hp} {f : Str} {d : D} : ∀ {fs : List Str} {ds : List D} {vs : List V}, RepL K m H ds vs → fldD f fs ds = some d → ∃ v, (fs.zip vs).lookup f = some v ∧ Rep K m H d v
  | [], _, _, _, h => by cases h
  | g :: fs, _, _, .nil, h => by cases h
  | g :: fs, _, _, .cons (d := d') (v := v') hd r, h => by
    unfold fldD at h
    cases c : f == g with
    | true =>
      rw [if_pos c] at h
      cases h
      exact ⟨v', by rw [List.zip_cons_cons, List.lookup_cons, c], hd⟩
    | false =>
      rw [c] at h
      simp only [Bool.false_eq_true, if_false] at h
      obtain ⟨v, h1, h2⟩ := fldD_at r h
      exact ⟨v, by rw [List.zip_cons_cons, List.lookup_cons, c]; exact h1, h2⟩
theorem se_fld {cn f : Str} (c : Cls X.K (He.ga X.K cn)) (n : NoAttr X.K (He.ga X.K cn) f) (he : PE X e (tE (X.K, zz) W de)) (hb : attributeBase e f X.env (eval e X.env) = eval e X.env := by rfl) : PE X (.Attribute e f pos) (tE (X.K, zz) W (eU (gFld cn f) de)) :=
  PE.imp (pe_fld he hb) fun σ H Q h => by
    refine tG.mono (fun v H1 q => ?_) (into1 h)
    obtain ⟨m1, x, s1, S1, q1, hG1⟩ := q
    unfold gFld at hG1
    cases z : insOf cn s1 x with
    | none => rw [z] at hG1; exact hG1.elim
    | some pr =>
      obtain ⟨fs, ds⟩ := pr
      rw [z] at hG1
      simp only [Option.bind_some] at hG1
      cases zf : fldD f fs ds with
      | none => rw [zf] at hG1; exact hG1.elim
      | some d =>
        rw [zf] at hG1
        obtain ⟨a, dx, vs, rfl, l, e1, q2⟩ := insOf_at S1 q1 z
        obtain ⟨w, h1, h2⟩ := fldD_at q2 zf
        exact ⟨a, _, dx, _, w, rfl, e1, c, n, h1, GoodV.here S1 hG1 h2⟩
/-- a field is put -/
def putD (f : Str) (d : D) : List Str → List D → List Str × List D
  | g :: fs, x :: ds => if g = f then (g :: fs, d :: ds) else ((g :: (putD f d fs ds).1), (x :: (putD f d fs ds).2))
  | _, _ => ([f], [d])
theorem putD_at {K : KZ} {m : List Addr} {H : Hp} {f : Str} {d : D} {v : V} (hd : Rep K m H d v) : ∀ {fs : List Str} {ds : List D} {vs : List V}, RepL K m H ds vs → fs.length = vs.length →
    ∃ us, (putD f d fs ds).1.length = us.length ∧ putF f v (fs.zip vs) = (putD f d fs ds).1.zip us ∧ RepL K m H (putD f d fs ds).2 us
  | [], ds, vs, r, l => by
    refine ⟨[v], rfl, ?_, .cons hd .nil⟩
    rw [List.zip_nil_left]; rfl
  | g :: fs, _, _, .nil, l => by simp at l
  | g :: fs, x :: ds, u :: vs, .cons hx r, l => by
    by_cases c : g = f
    · refine ⟨v :: vs, ?_, ?_, ?_⟩
      · simp only [putD, if_pos c]; simpa using l
      · simp only [putD, if_pos c, putF, List.zip_cons_cons]
      · simp only [putD, if_pos c]; exact .cons hd r
    · obtain ⟨us, h1, h2, h3⟩ := putD_at hd r (fs := fs) (by simpa using l)
      refine ⟨u :: us, ?_, ?_, ?_⟩
      · simp only [putD, if_neg c]; simpa using h1
      · simp only [putD, if_neg c, putF, List.zip_cons_cons, h2]
      · simp only [putD, if_neg c]; exact .cons hx h3
def gPutF (c f : Str) (o v : D) : Sto → Option Sto := fun s => match o with
  | .loc n => match s[n]? with
    | some (.ins c' fs ds) => if c' = c ∧ fs.length < 1000 then some (s.set n (.ins c (putD f v fs ds).1 (putD f v fs ds).2)) else none
    | _ => none
  | _ => none
/-- o.f = v -/
def sFld (c f : Str) (v o : EM) : SM := fun ρ s => ofE (bnd (v ρ) (fun d => bnd (o ρ) fun x => lift fun s => (gPutF c f x d s).map fun s' => (D.non, s')) s) ρ fun _ s' => .nx ρ s'
theorem s_fld {cn f : Str} {value : Expr} {pos' : Pos} (c : Cls X.K (He.ga X.K cn)) (n : NoAttr X.K (He.ga X.K cn) f) (hv : PE X value (tE (X.K, zz) W dv)) (ho : PE X o (tE (X.K, zz) W de)) (hs : swapsWith value (some (.Attribute o f pos')) pos.line X.env = pure false := by rfl) :
    PS X (.Assign [.Attribute o f pos'] value pos) (tS (X.K, zz) W (QS.sFld cn f dv de)) := by
  refine PS.imp (ps_fld ho hv hs) fun D σ H ⟨m, ρ, s, hE, hS, hG⟩ => ?_
  refine ⟨m, ρ, s, hE, hS, (Good.bind (GoodS.ofE (rel := Rep (X.K, zz)) hS hE hG)).mono fun v H1 ⟨m1, d, s1, e1, S1, q1, hG1⟩ => ?_⟩
  refine ⟨m1, ρ, s1, hE.ext hS.noTup e1, S1, (Good.bind hG1).mono fun ov H2 ⟨m2, x, s2, e2, S2, q2, hG2⟩ => ?_⟩
  have g3 := hG2.lift
  cases z : gPutF cn f x d s2 with
  | none => simp only [z, Option.map_none] at g3; exact g3.elim
  | some s4 =>
    simp only [z, Option.map_some] at g3
    cases q2 with
    | @loc k a e =>
      have z : (match s2[k]? with
        | some (.ins c' fs ds) => if c' = cn ∧ fs.length < 1000 then some (s2.set k (.ins cn (putD f d fs ds).1 (putD f d fs ds).2)) else none
        | _ => none) = some s4 := z
      cases zo : s2[k]? with
      | none => rw [zo] at z; cases z
      | some ob =>
        rw [zo] at z
        cases ob with
        | ins c' fs ds =>
          simp only at z
          by_cases zc : c' = cn ∧ fs.length < 1000
          · rw [if_pos zc] at z
            cases z
            obtain ⟨rfl, zl⟩ := zc
            obtain ⟨dx, vs, l, ea, q⟩ := S2.obj k a _ e zo
            have rd := q1.ext S1.noTup e2
            obtain ⟨us, h1, h2, h3⟩ := putD_at (f := f) rd q l
            refine ⟨a, _, dx, _, rfl, ea, c, n, ?_, ?_⟩
            · rw [List.length_zip, ← l]; simpa using zl
            · have we : Ext m2 H2 m2 (upd H2 a (.ins (He.ga X.K c') dx (putF f v (fs.zip vs)))) := Ext.write e S2.noTup
              obtain ⟨m5, _, s5, e5, S5, q5, E5, g5⟩ := g3 m2 (upd H2 a (.ins (He.ga X.K c') dx (putF f v (fs.zip vs)))) .non we
                (S2.write e ⟨dx, us, h1, by rw [upd_same, h2], RepL.ext S2.noTup we h3⟩) .non
              exact g5 m5 _ σ Ext.refl S5 E5
          · rw [if_neg zc] at z; cases z
        | _ => cases z
    | _ => cases z
/-! ### methods of written classes -/
/-- o.m(..) -/
def eMeth (c m : Str) (F : List D → M D) (o : EM) (a : AM) : EM := fun ρ => bnd (o ρ) fun x => bnd (lift fun s => match insOf c s x with
  | some p => if p.1.contains m then none else some (x, s)
  | none => none) fun x => bnd (a ρ) fun xs => F (x :: xs)
def tMethS (C : Addr) (m : Str) (sp : Sp) (E : St → XK) (ta : TE) (t : TA) : TE := fun σ H Q => ta σ H fun x H1 => ∃ a dx fs, x = .ref a ∧ H1 a = some (.ins C dx fs) ∧ fs.lookup m = none ∧
  t σ H1 fun vs H2 => sp (x :: vs) H2 Q (E σ)
theorem pe_methS {CX : CXT} {k : Nat} {C f : Addr} {fd : FuncData} {ps : List Str} {sp : Sp} {E : St → XK} {m : Str} {apos : Pos} {ta : TE} {t : TA} {pl : Sem Bool} (he : PE X o ta) (c : Cls X.K C) (hm : Meth X.K C m f) (F : FnG X.prog X.w X.K X.mg X.base CX k f fd ps sp) (hr : RoomG k X.A) (hb : Binds X.K fd ps []) (hx : ∀ σ, PassesAt CX X σ (E σ)) (ha : PA X (e :: es) t)
    (hst : starEach (e :: es) X.env = (false, eval e X.env) :: starEach es X.env := by rfl) (hpl : (backTo pos (starEach es X.env)).any (·.1) = false := by rfl)
    (ht : eval (.Call (.Attribute o m apos) (e :: es) [] pos) X.env = (do
      let ov ← eval o X.env
      standAt apos.atName
      let (f, first) ← holding [ov] (getMethod ov m pl)
      callWith pos f first (backTo pos (starEach (e :: es) X.env)) (backToKw pos (keywordEach [] X.env))) := by rfl) :
    PE X (.Call (.Attribute o m apos) (e :: es) [] pos) (tMethS C m sp E ta t) := by
  refine ⟨fun pins s σ H Q I h => ?_⟩
  refine PySem.W.methodCall_KW (pl := pl) (thn (he.run pins s σ H _ I h) fun u s1 ⟨x, H1, I1, rx, a, dx, fs, ex, ea, l, q⟩ => ?_) ht
  subst ex
  obtain rfl : u = Value.ref a := rx
  refine getmeth_ok I1 ea c hm l ?_
  refine PySem.W.callWith_K (first := [.ref a]) (h₀ := X.base) I.ok.mod.kin hm.kp (thn (ha.run pos pins s1 σ H1 _ I1 q) fun us s2 ⟨vs, H2, I2, r, q2⟩ => ⟨I2.kIn, ?_⟩) hst hpl
  exact run_fnG (us := .ref a :: us) (vs := .ref a :: vs) F hr hb (hx σ) I2 (.cons rfl r) q2
theorem pe_meth0S {CX : CXT} {k : Nat} {C f : Addr} {fd : FuncData} {ps : List Str} {sp : Sp} {E : St → XK} {m : Str} {apos : Pos} {ta : TE} {pl : Sem Bool} (he : PE X o ta) (c : Cls X.K C) (hm : Meth X.K C m f) (F : FnG X.prog X.w X.K X.mg X.base CX k f fd ps sp) (hr : RoomG k X.A) (hb : Binds X.K fd ps []) (hx : ∀ σ, PassesAt CX X σ (E σ))
    (ht : eval (.Call (.Attribute o m apos) [] [] pos) X.env = (do
      let ov ← eval o X.env
      standAt apos.atName
      let (f, first) ← holding [ov] (getMethod ov m pl)
      callWith pos f first (backTo pos (starEach [] X.env)) (backToKw pos (keywordEach [] X.env))) := by rfl) :
    PE X (.Call (.Attribute o m apos) [] [] pos) (tMethS C m sp E ta tNil) := by
  refine ⟨fun pins s σ H Q I h => ?_⟩
  refine PySem.W.methodCall_KW (pl := pl) (thn (he.run pins s σ H _ I h) fun u s1 ⟨x, H1, I1, rx, a, dx, fs, ex, ea, l, q⟩ => ?_) ht
  subst ex
  obtain rfl : u = Value.ref a := rx
  refine getmeth_ok I1 ea c hm l ?_
  exact PySem.W.callWith_K0 (first := [.ref a]) I1.kIn hm.kp (run_fnG (us := [.ref a]) (vs := [.ref a]) F hr hb (hx σ) I1 (.cons rfl .nil) q)
theorem lookup_none {f : Str} : ∀ {fs : List Str} {vs : List V}, fs.contains f = false → (fs.zip vs).lookup f = none
  | [], vs, h => by rw [List.zip_nil_left]; rfl
  | g :: fs, [], h => by rw [List.zip_nil_right]; rfl
  | g :: fs, v :: vs, h => by
    rw [List.contains_cons, Bool.or_eq_false_iff] at h
    rw [List.zip_cons_cons, List.lookup_cons, h.1]
    exact lookup_none h.2
theorem intoMeth {cn mn : Str} {n : Nat} {F : List D → M D} {ds : AM} {σ : St} {H : Hp} {Q : VK} (h : tE (X.K, zz) W (eMeth cn mn (fnN (n + 1) F) de ds) σ H Q) : tMethS (He.ga X.K cn) mn (spF X.K (n + 1) F) (WE W) (tE (X.K, zz) W de) (tA (X.K, zz) W ds) σ H Q := by
  obtain ⟨m, ρ, s, hE, hS, hG⟩ := h
  refine ⟨m, ρ, s, hE, hS, (Good.bind hG).mono fun v H1 ⟨m1, x, s1, e1, S1, q1, hG1⟩ => ?_⟩
  unfold bnd lift at hG1
  cases z : insOf cn s1 x with
  | none => simp only [z] at hG1; exact hG1.elim
  | some pr =>
    obtain ⟨fs, xs⟩ := pr
    simp only [z] at hG1
    cases zc : fs.contains mn with
    | true => simp only [zc, if_true] at hG1; exact hG1.elim
    | false =>
      simp only [zc, Bool.false_eq_true, if_false] at hG1
      obtain ⟨a, dx, vs, rfl, l, ea, q2⟩ := insOf_at S1 q1 z
      refine ⟨a, dx, _, rfl, ea, lookup_none zc, m1, ρ, s1, hE.ext hS.noTup e1, S1, (Good.bind (f := fun xs => fnN (n + 1) F (x :: xs)) hG1).mono fun us H2 ⟨m2, ys, s2, e2, S2, q3, hG2⟩ => ?_⟩
      unfold fnN at hG2
      by_cases hl : (x :: ys).length = n + 1
      · rw [if_pos hl] at hG2
        exact spF_of hl (.cons (q1.ext S1.noTup e2) q3) S2 hG2
      · rw [if_neg hl] at hG2
        exact hG2.elim
theorem se_meth {k : Nat} {f : Addr} {fd : FuncData} {ps : List Str} {n : Nat} {F : List D → M D} {cn mn : Str} {apos : Pos} {pl : Sem Bool} (c : Cls X.K (He.ga X.K cn)) (hm : Meth X.K (He.ga X.K cn) mn f) (G : FnG X.prog X.w X.K X.mg X.base (L2.CX X.prog X.w) k f fd ps (spF X.K (n + 1) F)) (hr : RoomG k X.A) (hb : Binds X.K fd ps []) (tk : Takes X W)
    (he : PE X o (tE (X.K, zz) W de)) (ha : PA X (e :: es) (tA (X.K, zz) W da)) (hst : starEach (e :: es) X.env = (false, eval e X.env) :: starEach es X.env := by rfl) (hpl : (backTo pos (starEach es X.env)).any (·.1) = false := by rfl)
    (ht : eval (.Call (.Attribute o mn apos) (e :: es) [] pos) X.env = (do
      let ov ← eval o X.env
      standAt apos.atName
      let (f, first) ← holding [ov] (getMethod ov mn pl)
      callWith pos f first (backTo pos (starEach (e :: es) X.env)) (backToKw pos (keywordEach [] X.env))) := by rfl) :
    PE X (.Call (.Attribute o mn apos) (e :: es) [] pos) (tE (X.K, zz) W (eMeth cn mn (fnN (n + 1) F) de da)) :=
  PE.imp (pe_methS he c hm G hr hb (fun σ => passAt tk σ) ha hst hpl ht) fun _ _ _ h => intoMeth h
theorem se_meth0 {k : Nat} {f : Addr} {fd : FuncData} {ps : List Str} {F : List D → M D} {cn mn : Str} {apos : Pos} {pl : Sem Bool} (c : Cls X.K (He.ga X.K cn)) (hm : Meth X.K (He.ga X.K cn) mn f) (G : FnG X.prog X.w X.K X.mg X.base (L2.CX X.prog X.w) k f fd ps (spF X.K 1 F)) (hr : RoomG k X.A) (hb : Binds X.K fd ps []) (tk : Takes X W)
    (he : PE X o (tE (X.K, zz) W de))
    (ht : eval (.Call (.Attribute o mn apos) [] [] pos) X.env = (do
      let ov ← eval o X.env
      standAt apos.atName
      let (f, first) ← holding [ov] (getMethod ov mn pl)
      callWith pos f first (backTo pos (starEach [] X.env)) (backToKw pos (keywordEach [] X.env))) := by rfl) :
    PE X (.Call (.Attribute o mn apos) [] [] pos) (tE (X.K, zz) W (eMeth cn mn (fnN 1 F) de aNil)) :=
  PE.imp (pe_meth0S he c hm G hr hb (fun σ => passAt tk σ) ht) fun σ H Q h => tG.mono (fun v H1 ⟨a, dx, fs, e1, e2, l, q⟩ => by
    refine ⟨a, dx, fs, e1, e2, l, ?_⟩
    obtain ⟨m, ρ, s, hE, hS, hG⟩ := q
    exact hG m H1 [] Ext.refl hS .nil) (intoMeth h)
/-! ### instances -/
/-- C(..) -/
def eMake (c : Str) (F : List D → M D) (a : AM) : EM := fun ρ => bnd (a ρ) fun xs s => match F (.loc s.length :: xs) (s ++ [.ins c [] []]) with
  | .ok .non s' => .ok (.loc s.length) s'
  | .ok _ _ => .stuck
  | .exn x s' => .exn x s'
  | .stuck => .stuck
def tMakeS (C : Addr) (sp : Sp) (E : St → XK) (t : TA) : TE := fun σ H Q => t σ H fun vs H1 => ∀ x dx, H1 x = none → H1 dx = none → dx ≠ x →
  sp (.ref x :: vs) (upd (upd H1 dx (.own x)) x (.ins C dx [])) (fun v H2 => v = .non ∧ Q (.ref x) H2) (E σ)
theorem run_makeS {CX : CXT} {k : Nat} {C f : Addr} {fd : FuncData} {ps : List Str} {sp : Sp} {E : XK} {pins : List (Addr × Obj)} {σ : St} {H : Hp} {s : Shared} {Q : VK} {us : List Value} {vs : List V} (M : Mk X.K C f) (F : FnG X.prog X.w X.K X.mg X.base CX k f fd ps sp) (hr : RoomG (k + 1) X.A) (hb : Binds X.K fd ps [])
    (hx : PassesAt CX X σ E) (I : Inv X pins σ H s) (r : Vals vs us)
    (h : ∀ x dx, H x = none → H dx = none → dx ≠ x → sp (.ref x :: vs) (upd (upd H dx (.own x)) x (.ins C dx [])) (fun v H2 => v = .non ∧ Q (.ref x) H2) E) :
    wpAny (model X.prog X.w) X.A (call (.ref C) us) (EP X pins σ Q) X.xe s := by
  have hq := h (s.heap.objs.size + 1) s.heap.objs.size (I.hok.fresh (Nat.le_succ _)) (I.hok.fresh (Nat.le_refl _)) (Nat.ne_of_lt (Nat.lt_succ_self _))
  have I2 := Inv.made (C := C) I
  have r2 : Vals (V.ref (s.heap.objs.size + 1) :: vs) (Value.ref (s.heap.objs.size + 1) :: us) := .cons rfl r
  have hl : (Value.ref (s.heap.objs.size + 1) :: us ++ []).length = ps.length := by
    have e := r2.length
    rw [F.len _ _ _ _ hq] at e
    rw [List.append_nil]
    exact e.symm
  have b := hb { s with heap := (s.heap.push PySem.W.emptyDict).push (PySem.W.instObj C s.heap.objs.size) } (Value.ref (s.heap.objs.size + 1) :: us) I2.kIn hl
  rw [List.append_nil] at b
  refine wpAny_call (make_map (f := f) I.kIn M.makes M.init (beq_iff_eq.mp M.fn) (codeAny_mono (F.go _ X.stack _ _ ⟨Value.ref (s.heap.objs.size + 1) :: us, []⟩ (Value.ref (s.heap.objs.size + 1) :: us) _ _ E (hr.make C us [])
    (I2.env0.make C us []) b r2 hq) fun r s' hq' => ?_))
  cases r with
  | error e => exact hx pins _ _ e s' I2 hq'
  | ok fl =>
    cases fl with
    | ret u =>
      obtain ⟨v, H', I3, rv, ev, q3⟩ := I2.after hq'
      subst ev
      exact ⟨rv, ⟨V.ref (s.heap.objs.size + 1), H', I3, rfl, q3⟩⟩
    | next => exact False.elim hq'
    | brk => exact False.elim hq'
    | cont => exact False.elim hq'
theorem pe_makeS {CX : CXT} {k : Nat} {C f : Addr} {fd : FuncData} {ps : List Str} {sp : Sp} {E : St → XK} {x : Str} {t : TA} (M : Mk X.K C f) (F : FnG X.prog X.w X.K X.mg X.base CX k f fd ps sp) (hr : RoomG (k + 1) X.A) (hg : Gl X x) (hm : X.mg x = some (.ref C)) (hb : Binds X.K fd ps []) (hx : ∀ σ, PassesAt CX X σ (E σ))
    (ha : PA X (e :: es) t) (hdb : (x == ("__debug__" : Str)) = false := by decide) (he : starEach (e :: es) X.env = (false, eval e X.env) :: starEach es X.env := by rfl) (hpl : (backTo pos (starEach es X.env)).any (·.1) = false := by rfl) :
    PE X (.Call (.Name x p) (e :: es) [] pos) (tMakeS C sp E t) := by
  refine ⟨fun pins s σ H Q I h => ?_⟩
  refine wpAny_Call_Name_kw (ld_glob I hg hm ?_ hdb)
  refine PySem.W.callWith_K (h₀ := X.base) I.ok.mod.kin M.kp (thn (ha.run pos pins s σ H _ I h) fun us s1 ⟨vs, H1, I1, r, q⟩ => ⟨I1.kIn, ?_⟩) he hpl
  exact run_makeS M F hr hb (hx σ) I1 r q
theorem make_in {cn : Str} {n : Nat} {F : List D → M D} {σ : St} {m : List Addr} {H : Hp} {xs : List D} {vs : List V} {s : Sto} {Q : VK} (S : StR (X.K, zz) m H s) (r : RepL (X.K, zz) m H xs vs)
    (h : Good (X.K, zz) W σ (Rep (X.K, zz)) m H Q (match fnN (n + 1) F (.loc s.length :: xs) (s ++ [.ins cn [] []]) with
      | .ok .non s' => .ok (.loc s.length) s'
      | .ok _ _ => .stuck
      | .exn x s' => .exn x s'
      | .stuck => .stuck)) (x dx : Addr) (hx : H x = none) (hd : H dx = none) (hne : dx ≠ x) :
    spF X.K (n + 1) F (.ref x :: vs) (upd (upd H dx (.own x)) x (.ins (He.ga X.K cn) dx [])) (fun v H2 => v = .non ∧ Q (.ref x) H2) (WE W σ) := by
  have f1 : Ext m H m (upd H dx (.own x)) := Ext.same (same_upd hd)
  have S1 : StR (X.K, zz) m (upd H dx (.own x)) s := S.same (same_upd hd)
  have hx1 : upd H dx (HO.own x) x = none := by rw [upd_ne (fun e => hne e.symm)]; exact hx
  have f2 : Ext m (upd H dx (.own x)) (m ++ [x]) (upd (upd H dx (.own x)) x (.ins (He.ga X.K cn) dx [])) := Ext.new hx1
  have S2 : StR (X.K, zz) (m ++ [x]) (upd (upd H dx (.own x)) x (.ins (He.ga X.K cn) dx [])) (s ++ [.ins cn [] []]) := S1.new hx1 ⟨dx, [], rfl, by rw [upd_same]; rfl, .nil⟩
  have hm : (m ++ [x])[s.length]? = some x := by rw [← S.len]; simp
  have r2 : RepL (X.K, zz) (m ++ [x]) (upd (upd H dx (.own x)) x (.ins (He.ga X.K cn) dx [])) (.loc s.length :: xs) (.ref x :: vs) := .cons (.loc hm) (RepL.ext S1.noTup f2 (RepL.ext S.noTup f1 r))
  have f12 := f1.trans f2
  unfold fnN at h
  by_cases hl : (D.loc s.length :: xs).length = n + 1
  · rw [if_pos hl] at h
    refine spF_of (K := (X.K, zz)) (W := W) (σ := σ) hl r2 S2 ?_
    cases e : F (.loc s.length :: xs) (s ++ [.ins cn [] []]) with
    | stuck => rw [e] at h; exact h.elim
    | exn y s' => rw [e] at h; exact fun m' H' c d f S q => h m' H' c d (f12.trans f) S q
    | ok d s' =>
      rw [e] at h
      intro m' H' v f S q
      cases d with
      | non =>
        cases q
        exact ⟨rfl, h m' H' _ (f12.trans f) S (.loc (f.loc hm))⟩
      | _ => exact h.elim
  · rw [if_neg hl] at h; exact h.elim
theorem se_make {k : Nat} {f : Addr} {fd : FuncData} {ps : List Str} {n : Nat} {F : List D → M D} {cn : Str} (Mm : Mk X.K (He.ga X.K cn) f) (G : FnG X.prog X.w X.K X.mg X.base (L2.CX X.prog X.w) k f fd ps (spF X.K (n + 1) F)) (hr : RoomG (k + 1) X.A) (hm : X.mg cn = some (.ref (He.ga X.K cn))) (hb : Binds X.K fd ps []) (tk : Takes X W)
    (ha : PA X (e :: es) (tA (X.K, zz) W da)) (hg : Gl X cn := by rfl) (hdb : (cn == ("__debug__" : Str)) = false := by decide) (he : starEach (e :: es) X.env = (false, eval e X.env) :: starEach es X.env := by rfl) (hpl : (backTo pos (starEach es X.env)).any (·.1) = false := by rfl) :
    PE X (.Call (.Name cn p) (e :: es) [] pos) (tE (X.K, zz) W (eMake cn (fnN (n + 1) F) da)) :=
  PE.imp (pe_makeS Mm G hr hg hm hb (fun σ => passAt tk σ) ha hdb he hpl) fun σ H Q ⟨m, ρ, s, hE, hS, hG⟩ =>
    ⟨m, ρ, s, hE, hS, (Good.bind hG).mono fun vs H1 ⟨m1, xs, s1, e1, S1, q1, hG1⟩ => fun x dx hx hd hne => make_in S1 q1 hG1 x dx hx hd hne⟩
end
end QS
end

section
set_option Elab.async false
set_option linter.all false
set_option maxRecDepth 100000
set_option maxHeartbeats 4000000
/-! QS9: built-in methods, a list's methods, an item op=, three at once. -/
namespace QS
open PySem PySem.Spec PyProof.Rows L2
/-- the built-in type of a receiver -/
def tyB (T : String) (s : Sto) : D → Bool
  | .str _ => T == "str"
  | .lst _ => T == "list"
  | .scr _ => T == "list"
  | .loc n => match s[n]? with
    | some (.lst _) => T == "list"
    | some (.dic _ _) => T == "dict"
    | _ => false
  | _ => false
theorem tyB_at {K : KZ} {m : List Addr} {H : Hp} {s : Sto} {d : D} {v : V} {T : String} (S : StR K m H s) (r : Rep K m H d v) (h : tyB T s d = true) : L2.tyV K.1 T v H := by
  cases r with
  | str x => exact beq_iff_eq.mp h
  | lst n e q => exact .inl ⟨beq_iff_eq.mp h, _, .inl (.inl e)⟩
  | scr e q => exact .inl ⟨beq_iff_eq.mp h, _, e.l⟩
  | @loc n a e =>
    have h : (match s[n]? with
      | some (.lst _) => T == "list"
      | some (.dic _ _) => T == "dict"
      | _ => false) = true := h
    cases z : s[n]? with
    | none => rw [z] at h; cases h
    | some o =>
      rw [z] at h
      have q := S.obj n a o e z
      cases o with
      | lst l =>
        obtain ⟨vs, e1, _⟩ := q
        exact .inl ⟨beq_iff_eq.mp h, _, .inl (.inl e1)⟩
      | dic ks l =>
        obtain ⟨vs, _, e1, _⟩ := q
        exact .inr (.inr (.inl ⟨beq_iff_eq.mp h, .inl ⟨_, e1⟩⟩))
      | ins c fs l => cases h
  | _ => cases h
/-- o.m(..), a built-in's -/
def eMb (T : String) (g : D → List D → V1 D) (o : EM) (a : AM) : EM := fun ρ => bnd (o ρ) fun x => bnd (lift fun s => if tyB T s x = true then some (x, s) else none) fun x => bnd (a ρ) fun xs => lift (g x xs)
section
variable {zz : List Addr} {X : Cx} {W : WX} {e o i : Expr} {es : List Expr} {de dv di : EM} {da : AM} {pos p : Pos} {T id : String} {g : D → List D → V1 D} {name : Str} {apos cpos : Pos}
theorem mb_in {σ : St} {H : Hp} {Q : VK} (h : tE (X.K, zz) W (eMb T g de da) σ H Q) : tBM X.K T (rM (X.K, zz) g) (tE (X.K, zz) W de) (tA (X.K, zz) W da) σ H Q := by
  obtain ⟨m, ρ, s, hE, hS, hG⟩ := h
  refine ⟨m, ρ, s, hE, hS, (Good.bind hG).mono fun v H1 ⟨m1, x, s1, e1, S1, q1, hG1⟩ => ?_⟩
  unfold bnd lift at hG1
  by_cases c : tyB T s1 x = true
  · simp only [c, if_true] at hG1
    refine ⟨tyB_at S1 q1 c, m1, ρ, s1, hE.ext hS.noTup e1, S1, (Good.bind (f := fun xs => lift (g x xs)) hG1).mono fun us H2 ⟨m2, ys, s2, e2, S2, q3, hG2⟩ => ?_⟩
    exact ⟨m2, x, ys, s2, S2, q1.ext S1.noTup e2, q3, hG2.lift⟩
  · simp only [c, if_false] at hG1
    exact hG1.elim
theorem se_mb (pa : PlainAttrs T) (slot : Slot T name id) (hty : typeOf (.builtin id) = pure (.type "method_descriptor")) (hm : MtR X id (rM (X.K, zz) g)) (ho : PE X o (tE (X.K, zz) W de)) (ha : PA X (e :: es) (tA (X.K, zz) W da))
    (hbase : attributeBase o name X.env (eval o X.env) = eval o X.env := by rfl)
    (hfew : ((backTo cpos (starEach (e :: es) X.env)).all (fun x => !x.1) && (backToKw cpos (keywordEach [] X.env)).all (fun x => x.1.isSome)
      && decide ((e :: es).length + ([] : List Keyword).length + (if ([] : List Keyword).isEmpty then 0 else 1) < 30)) = true := by rfl)
    (hline : (apos.endLine == cpos.line) = true := by rfl) (hs : starEach (e :: es) X.env = (false, eval e X.env) :: starEach es X.env := by rfl) (hplain : (backTo cpos (starEach es X.env)).any (·.1) = false := by rfl) :
    PE X (.Call (.Attribute o name apos) (e :: es) [] cpos) (tE (X.K, zz) W (eMb T g de da)) :=
  PE.imp (pe_bm pa slot hty hm ho ha hbase hfew hline hs hplain) fun _ _ _ h => mb_in h
theorem se_mb0 (pa : PlainAttrs T) (slot : Slot T name id) (hty : typeOf (.builtin id) = pure (.type "method_descriptor")) (hm : MtR X id (rM (X.K, zz) g)) (ho : PE X o (tE (X.K, zz) W de))
    (hbase : attributeBase o name X.env (eval o X.env) = eval o X.env := by rfl) (hline : (apos.endLine == cpos.line) = true := by rfl) :
    PE X (.Call (.Attribute o name apos) [] [] cpos) (tE (X.K, zz) W (eMb T g de aNil)) :=
  PE.imp (pe_bm0 pa slot hty hm ho hbase hline) fun σ H Q h => tG.mono (fun v H1 ⟨ty, q⟩ => ⟨ty, by
    obtain ⟨m, ρ, s, hE, hS, hG⟩ := q
    exact hG m H1 [] Ext.refl hS .nil⟩) (mb_in h)
/-! the list's methods -/
def gAppend : D → List D → V1 D := fun x xs s => match x, xs with
  | .loc n, [d] => match s[n]? with
    | some (.lst l) => if l.length < sizeLine then some (.non, s.set n (.lst (l ++ [d]))) else none
    | _ => none
  | _, _ => none
def gPopAt : D → List D → V1 D := fun x xs s => match x, xs with
  | .loc n, [.int i] => match s[n]? with
    | some (.lst l) => if -(2 ^ 63) ≤ i ∧ i < 2 ^ 63 then (seqIndex? i l.length).bind fun k => (l[k]?).map fun d => (d, s.set n (.lst (l.eraseIdx k))) else none
    | _ => none
  | _, _ => none
def gPop : D → List D → V1 D := fun x xs s => match x, xs with
  | .loc n, [] => match s[n]? with
    | some (.lst l) => (l[l.length - 1]?).map fun d => (d, s.set n (.lst l.dropLast))
    | _ => none
  | _, _ => none
def gExtend : D → List D → V1 D := fun x xs s => match x, xs with
  | .loc n, [y] => match s[n]? with
    | some (.lst l) => (lst2 s y).bind fun r => if l.length + r.length ≤ sizeLine then some (.non, s.set n (.lst (l ++ r))) else none
    | _ => none
  | _, _ => none
theorem write_list {m : List Addr} {H : Hp} {s : Sto} {n : Nat} {a : Addr} {ds : List D} {vs : List V} {d : D} {v : V} {Q : VK} (S : StR (X.K, zz) m H s) (e : m[n]? = some a) (r : RepL (X.K, zz) m H ds vs) (rd : Rep (X.K, zz) m H d v)
    (h : GoodV (X.K, zz) m H Q (some (d, s.set n (.lst ds)))) : Q v (upd H a (.lst vs)) := by
  have we : Ext m H m (upd H a (.lst vs)) := Ext.write e S.noTup
  exact h m _ v we (S.write e ⟨vs, upd_same, RepL.ext S.noTup we r⟩) (rd.ext S.noTup we)
theorem m_append : MtR X "list.append" (rM (X.K, zz) gAppend) := by
  intro pins s σ H x xs v us Q I rx rs ⟨m, d, ds, st, S, hd, hds, hG⟩
  unfold gAppend at hG
  split at hG
  · rename_i n y
    cases hd with
    | @loc n a e =>
      cases hds with
      | @cons _ w _ _ hy hr =>
        cases hr
        cases z : st[n]? with
        | none => rw [z] at hG; exact hG.elim
        | some ob =>
          rw [z] at hG
          cases ob with
          | lst l =>
            simp only at hG
            by_cases c : l.length < sizeLine
            · rw [if_pos c] at hG
              obtain ⟨vs, e1, q⟩ := S.obj n a _ e z
              exact mt_append pins s σ H _ _ v us Q I rx rs ⟨a, vs, w, rfl, rfl, e1, by rw [← q.length]; exact c, write_list S e (q.append (.cons hy .nil)) .non hG⟩
            · rw [if_neg c] at hG; exact hG.elim
          | _ => exact hG.elim
  · exact hG.elim
theorem m_popAt : MtR X "list.pop" (rM (X.K, zz) gPopAt) := by
  intro pins s σ H x xs v us Q I rx rs ⟨m, d, ds, st, S, hd, hds, hG⟩
  unfold gPopAt at hG
  split at hG
  · rename_i n i
    cases hd with
    | @loc n a e =>
      cases hds with
      | @cons _ w _ _ hy hr =>
        cases hr
        cases hy
        cases z : st[n]? with
        | none => rw [z] at hG; exact hG.elim
        | some ob =>
          rw [z] at hG
          cases ob with
          | lst l =>
            simp only at hG
            by_cases c : -(2 ^ 63) ≤ i ∧ i < 2 ^ 63
            · rw [if_pos c] at hG
              cases zk : seqIndex? i l.length with
              | none => rw [zk] at hG; exact hG.elim
              | some k =>
                rw [zk] at hG
                simp only [Option.bind_some] at hG
                cases zd : l[k]? with
                | none => rw [zd] at hG; exact hG.elim
                | some y =>
                  rw [zd] at hG
                  obtain ⟨vs, e1, q⟩ := S.obj n a _ e z
                  obtain ⟨w, h1, h2⟩ := q.get zd
                  exact mt_popAt pins s σ H _ _ v us Q I rx rs ⟨a, vs, i, k, w, rfl, rfl, e1, c.1, c.2, by rw [← q.length]; exact zk, h1, write_list S e (q.eraseIdx k) h2 hG⟩
            · rw [if_neg c] at hG; exact hG.elim
          | _ => exact hG.elim
  · exact hG.elim
theorem m_pop : MtR X "list.pop" (rM (X.K, zz) gPop) := by
  intro pins s σ H x xs v us Q I rx rs ⟨m, d, ds, st, S, hd, hds, hG⟩
  unfold gPop at hG
  split at hG
  · rename_i n
    cases hd with
    | @loc n a e =>
      cases hds
      cases z : st[n]? with
      | none => rw [z] at hG; exact hG.elim
      | some ob =>
        rw [z] at hG
        cases ob with
        | lst l =>
          simp only at hG
          cases zd : l[l.length - 1]? with
          | none => rw [zd] at hG; exact hG.elim
          | some y =>
            rw [zd] at hG
            obtain ⟨vs, e1, q⟩ := S.obj n a _ e z
            obtain ⟨w, h1, h2⟩ := q.get zd
            exact mt_pop pins s σ H _ _ v us Q I rx rs ⟨a, vs, w, rfl, rfl, e1, by rw [← q.length]; exact h1, write_list S e q.dropLast h2 hG⟩
        | _ => exact hG.elim
  · exact hG.elim
theorem m_extend : MtR X "list.extend" (rM (X.K, zz) gExtend) := by
  intro pins s σ H x xs v us Q I rx rs ⟨m, d, ds, st, S, hd, hds, hG⟩
  unfold gExtend at hG
  split at hG
  · rename_i n y
    cases hd with
    | @loc n a e =>
      cases hds with
      | @cons _ w _ _ hy hr =>
        cases hr
        cases z : st[n]? with
        | none => rw [z] at hG; exact hG.elim
        | some ob =>
          rw [z] at hG
          cases ob with
          | lst l =>
            simp only at hG
            cases z2 : lst2 st y with
            | none => rw [z2] at hG; exact hG.elim
            | some r =>
              rw [z2] at hG
              simp only [Option.bind_some] at hG
              by_cases c : l.length + r.length ≤ sizeLine
              · rw [if_pos c] at hG
                obtain ⟨vs, e1, q⟩ := S.obj n a _ e z
                obtain ⟨b, ws, rfl, e2, q2⟩ := lst2_at S hy z2
                exact mt_extend pins s σ H _ _ v us Q I rx rs ⟨a, b, vs, ws, rfl, rfl, e1, e2, by rw [← q.length, ← q2.length]; exact c, write_list S e (q.append q2) .non hG⟩
              · rw [if_neg c] at hG; exact hG.elim
          | _ => exact hG.elim
  · exact hG.elim
/-! an item op= -/
def rG (K : KZ) (g : D → D → V1 D) : V → V → Hp → VK → Prop := r2 K g
theorem get_list : PGet X (r2 (X.K, zz) gIxL) := by
  intro pins s σ H x y v u Q I rx ry ⟨m, d, e, st, S, hd, he, hG⟩
  unfold gIxL at hG
  cases h1 : lstOf st d with
  | none => rw [h1] at hG; exact hG.elim
  | some a =>
    rw [h1] at hG
    cases he with
    | int i =>
      have hG : GoodV (X.K, zz) m H Q ((atI a i).map fun d => (d, st)) := hG
      cases h2 : atI a i with
      | none => rw [h2] at hG; exact hG.elim
      | some d' =>
        rw [h2] at hG
        obtain ⟨l, vs, rfl, e1, q1⟩ := lstOf_at S hd h1
        obtain ⟨z, hz, rz⟩ := atI_rep q1 h2
        have q := GoodV.here S hG rz
        cases rx
        obtain ⟨t, rfl⟩ := ry
        obtain ⟨its, r, pl, hzl⟩ := I.list e1
        obtain ⟨j, h1, h2, h3, h4, h5⟩ := atI_get hz
        obtain ⟨w, ew, rw'⟩ := r.get h2
        have hl := r.length
        have hn := line63
        have fin : EP X pins σ Q w s := ⟨z, H, I, rw', q⟩
        by_cases h0 : 0 ≤ i
        · have hj : i.toNat = j := by
            rw [seqIndex_of h0 h5] at h1
            exact Option.some.inj h1
          exact wpAny_getItem_list pl.isList h0 (by omega) (by rw [hj]; simpa using ew) fin
        · have hj : (i + (its.toArray.size : Int)).toNat = j := by
            rw [seqIndex_neg (by omega) h4] at h1
            rw [List.size_toArray, ← hl]
            exact Option.some.inj h1
          exact wpAny_getItem_list_neg pl.isList (by omega) (by rw [List.size_toArray] <;> omega) (by omega) (by rw [hj]; simpa using ew) fin
    | _ => exact hG.elim
/-- o[i] op= e -/
def sAugS (gi : D → D → V1 D) (g : D → D → V1 D) (st : D → D → D → Sto → Option Sto) (o i e : EM) : SM := fun ρ s => ofE (bnd (o ρ) (fun x => bnd (i ρ) fun y => bnd (lift (gi x y)) fun old => bnd (e ρ) fun v => bnd (lift (g old v)) fun nw => lift fun s => (st x y nw s).map fun s' => (D.non, s')) s) ρ fun _ s' => .nx ρ s'
theorem s_augS {gi g : D → D → V1 D} {st : D → D → D → Sto → Option Sto} {op : Operator} {tpos : Pos} (hgi : PGet X (r2 (X.K, zz) gi)) (hop : PIp X op (r2 (X.K, zz) g)) (hst : PSet X (rSt (X.K, zz) st)) (ho : PE X o (tE (X.K, zz) W de)) (hi : PE X i (tE (X.K, zz) W di)) (he : PE X e (tE (X.K, zz) W dv))
    (ha : ∀ ov iv new, augStore i ov iv new = (do holding [new, ov, iv] (setItem ov iv new); release [new, ov, iv] []; pure .next) := by intros; rfl) :
    PS X (.AugAssign (.Subscript o i tpos) op e pos) (tS (X.K, zz) W (sAugS gi g st de di dv)) := by
  refine PS.imp (ps_augS ho hi hgi he hop hst ha) fun D σ H ⟨m, ρ, s, hE, hS, hG⟩ => ?_
  refine ⟨m, ρ, s, hE, hS, (Good.bind (GoodS.ofE (rel := Rep (X.K, zz)) hS hE hG)).mono fun v1 H1 ⟨m1, x, s1, e1, S1, q1, hG1⟩ => ?_⟩
  have E1 := hE.ext hS.noTup e1
  refine ⟨m1, ρ, s1, E1, S1, (Good.bind hG1).mono fun v2 H2 ⟨m2, y, s2, e2, S2, q2, hG2⟩ => ?_⟩
  have E2 := E1.ext S1.noTup e2
  refine ⟨m2, x, y, s2, S2, q1.ext S1.noTup e2, q2, (Good.bind hG2).lift.mono fun v3 H3 ⟨m3, old, s3, e3, S3, q3, hG3⟩ => ?_⟩
  have E3 := E2.ext S2.noTup e3
  refine ⟨m3, ρ, s3, E3, S3, (Good.bind hG3).mono fun v4 H4 ⟨m4, vd, s4, e4, S4, q4, hG4⟩ => ?_⟩
  have E4 := E3.ext S3.noTup e4
  refine ⟨m4, old, vd, s4, S4, q3.ext S3.noTup e4, q4, (Good.bind hG4).lift.mono fun v5 H5 ⟨m5, nw, s5, e5, S5, q5, hG5⟩ => ?_⟩
  have g5 := hG5.lift
  cases z : st x y nw s5 with
  | none => simp only [z, Option.map_none] at g5; exact g5.elim
  | some s6 =>
    simp only [z, Option.map_some] at g5
    refine ⟨m5, x, y, nw, s5, s6, S5, q1.ext S1.noTup (e2.trans (e3.trans (e4.trans e5))), q2.ext S2.noTup (e3.trans (e4.trans e5)), q5, z, fun m' H' f S' => ?_⟩
    obtain ⟨m7, _, s7, e7, S7, q7, E7, g7⟩ := g5 m' H' .non f S' .non
    exact g7 m7 H' σ Ext.refl S7 E7
theorem ip_addI : PIp X .Add (r2 (X.K, zz) gAddI) := fun pins s σ H x y v u Q I rx ry h => by
  obtain ⟨m, d, e, st, S, hd, he, hG⟩ := h
  cases hd with
  | int i =>
    cases he with
    | int j => exact ip_add pins s σ H _ _ v u Q I rx ry ⟨i, j, rfl, rfl, GoodV.here S hG (.int _)⟩
    | _ => exact hG.elim
  | _ => exact hG.elim
/-! a, b, c = x, y, z -/
def sPar3 (i j l : Nat) (a : AM) : SM := fun ρ s => ofE (a ρ s) ρ fun ds s' => match ds with
  | [x, y, z] => .nx (((ρ.set i (some x)).set j (some y)).set l (some z)) s'
  | _ => .stuck
theorem s_par3 {i j l : Nat} {x y z : Str} {a b c : Expr} {px py pz pt : Pos} {kt k2 pt2} (hN : X.N.Nodup) (ha : PA X [a, b, c] (tA (X.K, zz) W da)) (hi : X.N[i]? = some x := by rfl) (hj : X.N[j]? = some y := by rfl) (hl : X.N[l]? = some z := by rfl) (hij : i ≠ j := by decide) (hil : i ≠ l := by decide) (hjl : j ≠ l := by decide)
    (hx : X.env.scope.names.lookup x = some .local := by rfl) (hy : X.env.scope.names.lookup y = some .local := by rfl) (hz : X.env.scope.names.lookup z = some .local := by rfl) (hc : X.calm = true := by rfl)
    (hw : swappedStores [.Tuple [.Name x px, .Name y py, .Name z pz] kt pt] (.Tuple [a, b, c] k2 pt2) X.env = pure (some [x, y, z]) := by rfl)
    (hs : swapsWithSole [.Tuple [.Name x px, .Name y py, .Name z pz] kt pt] (.Tuple [a, b, c] k2 pt2) pos.line X.env = pure false := by rfl) :
    PS X (.Assign [.Tuple [.Name x px, .Name y py, .Name z pz] kt pt] (.Tuple [a, b, c] k2 pt2) pos) (tS (X.K, zz) W (sPar3 i j l da)) :=
  PS.imp (ps_par3 hc hN hi hj hl hij hil hjl hx hy hz ha hw hs) fun D σ H ⟨m, ρ, s, hE, hS, hG⟩ => ⟨m, ρ, s, hE, hS, (GoodS.ofE hS hE hG).mono fun v H1 ⟨m1, a, s1, e1, S1, q1, E1, g1⟩ => by
    cases q1 with
    | nil => exact g1.elim
    | cons h1 r1 =>
      cases r1 with
      | nil => exact g1.elim
      | cons h2 r2 =>
        cases r2 with
        | nil => exact g1.elim
        | cons h3 r3 =>
          cases r3 with
          | cons _ _ => exact g1.elim
          | nil => exact ⟨_, _, _, rfl, g1 m1 H1 _ Ext.refl S1 (((E1.set h1 i).set h2 j).set h3 l)⟩⟩
end
end QS
end

section
set_option Elab.async false
set_option linter.all false
set_option maxRecDepth 100000
set_option maxHeartbeats 4000000
/-! QS10: defs with their binding, calls of them. -/
namespace QS
open PySem PySem.Spec PyProof.Rows L2
/-- a def that keeps its promise, may be called -/
def OkF (P : Program) (w : World) (K : PySem.W.Frag) (mg : Str → Option Value) (base : Heap) (k : Nat) (f : Addr) (n : Nat) (F : List D → M D) : Prop :=
  ∃ (fd : FuncData) (ps : List Str), FnG P w K mg base (L2.CX P w) k f fd ps (spF K n F) ∧ Binds K fd ps [] ∧ PySem.W.keepIn K (.ref f) = true
section
variable {P : Program} {w : World} {K : PySem.W.Frag} {mg : Str → Option Value} {base : Heap} {x qual : Str} {params : Arguments} {body : List Stmt} {scope : Scope} {f : Addr} {fd : FuncData} {N ps : List Str} {k n : Nat} {b : SM} {F : List D → M D}
theorem okF_def (Fd : FunD K x qual params body scope [] [] f fd) (S : FnScope N ps scope) (hn : ps.length = n)
    (hb : ∀ (kV doc pm : Value) (an : Option Addr) (cdv ct : Value) (us : List Value), us.length = ps.length → bindArgs (PySem.W.fnOf x qual params body scope .none kV doc pm an cdv ct) ⟨us, []⟩ = pure (ps.zip us))
    (h : ∀ (zz : List Addr) (cdv : Value) (A : Around) (outer : List Env) (s : Shared) (H : Hp) (E : XK), CodeAt K f cdv → RoomG k (A.deeper (envOfC qual scope s.heap.objs.size f cdv)) →
      Takes (cxOf (L2.CX P w) P w K mg base N qual scope f cdv A outer s H E) (WF E) → PassesOwn (model P w) (A.deeper (envOfC qual scope s.heap.objs.size f cdv)) (envOfC qual scope s.heap.objs.size f cdv) (cxOf (L2.CX P w) P w K mg base N qual scope f cdv A outer s H E).xe →
      PSs (cxOf (L2.CX P w) P w K mg base N qual scope f cdv A outer s H E) body (tS (K, zz) (WF E) b)) :
    OkF P w K mg base (k + 1) f n (run N.length b) := by
  subst hn
  exact ⟨fd, ps, ok_def Fd S h, Fd.bindsN hb, Fd.kp⟩
theorem OkF.seal (h : OkF P w K mg base k f n F) : OkF P w K mg base k f n (sealF F) :=
  let ⟨fd, ps, a, b, c⟩ := h
  ⟨fd, ps, ok_seal a, b, c⟩
theorem OkF.mono {j : Nat} (h : OkF P w K mg base j f n F) (l : j ≤ k) : OkF P w K mg base k f n F :=
  let ⟨fd, ps, a, b, c⟩ := h
  ⟨fd, ps, a.mono l, b, c⟩
/-- nothing is promised -/
theorem okF_none (Fd : FunD K x qual params body scope [] [] f fd) (hn : ps.length = n)
    (hb : ∀ (kV doc pm : Value) (an : Option Addr) (cdv ct : Value) (us : List Value), us.length = ps.length → bindArgs (PySem.W.fnOf x qual params body scope .none kV doc pm an cdv ct) ⟨us, []⟩ = pure (ps.zip us)) :
    OkF P w K mg base k f n (fun _ _ => .stuck) :=
  ⟨fd, ps, ⟨fun vs H Q E q => q.1.trans hn.symm, fun A outer s H args us vs Q E _ _ _ _ q => by
    obtain ⟨_, zz, m, ds, st, r, S, hG⟩ := q
    exact hG.elim⟩, Fd.bindsN hb, Fd.kp⟩
end
section
variable {zz : List Addr} {X : Cx} {W : WX} {e o : Expr} {es : List Expr} {de : EM} {da : AM} {pos p : Pos} {x : Str} {k kk f n : Nat} {F : List D → M D}
theorem se_callO (G : OkF X.prog X.w X.K X.mg X.base k f n F) (hr : RoomG kk X.A) (hk : k ≤ kk) (hm : X.mg x = some (.ref f)) (tk : Takes X W)
    (ha : PA X (e :: es) (tA (X.K, zz) W da)) (hg : Gl X x := by rfl) (hdb : (x == ("__debug__" : Str)) = false := by decide) (he : starEach (e :: es) X.env = (false, eval e X.env) :: starEach es X.env := by rfl) (hpl : (backTo pos (starEach es X.env)).any (·.1) = false := by rfl) :
    PE X (.Call (.Name x p) (e :: es) [] pos) (tE (X.K, zz) W (eCall (fnN n F) da)) :=
  let ⟨_, _, a, b, c⟩ := G
  se_call a (hr.mono hk) hm c b tk ha hg hdb he hpl
theorem se_callO0 (G : OkF X.prog X.w X.K X.mg X.base k f 0 F) (hr : RoomG kk X.A) (hk : k ≤ kk) (hm : X.mg x = some (.ref f)) (tk : Takes X W)
    (hg : Gl X x := by rfl) (hdb : (x == ("__debug__" : Str)) = false := by decide) :
    PE X (.Call (.Name x p) [] [] pos) (tE (X.K, zz) W (eCall (fnN 0 F) aNil)) := by
  obtain ⟨fd, ps, a, b, c⟩ := G
  refine ⟨fun pins s σ H Q I h => ?_⟩
  refine wpAny_Call_Name_kw (ld_glob I hg hm ?_ hdb)
  obtain ⟨m, ρ, st, hE, hS, hG⟩ := h
  exact PySem.W.callWith_K0 I.kIn c (run_fnG (us := []) (vs := []) (E := WE W) a (hr.mono hk) b (passAt tk σ) I .nil (spF_of rfl .nil hS hG))
theorem se_makeO {cn : Str} (Mm : Mk X.K (He.ga X.K cn) f) (G : OkF X.prog X.w X.K X.mg X.base k f (n + 1) F) (hr : RoomG kk X.A) (hk : k + 1 ≤ kk) (hm : X.mg cn = some (.ref (He.ga X.K cn))) (tk : Takes X W)
    (ha : PA X (e :: es) (tA (X.K, zz) W da)) (hg : Gl X cn := by rfl) (hdb : (cn == ("__debug__" : Str)) = false := by decide) (he : starEach (e :: es) X.env = (false, eval e X.env) :: starEach es X.env := by rfl) (hpl : (backTo pos (starEach es X.env)).any (·.1) = false := by rfl) :
    PE X (.Call (.Name cn p) (e :: es) [] pos) (tE (X.K, zz) W (eMake cn (fnN (n + 1) F) da)) :=
  let ⟨_, _, a, b, c⟩ := G
  se_make Mm a (hr.mono hk) hm b tk ha hg hdb he hpl
theorem se_methO {cn mn : Str} {apos : Pos} {pl : Sem Bool} (c : Cls X.K (He.ga X.K cn)) (hm : Meth X.K (He.ga X.K cn) mn f) (G : OkF X.prog X.w X.K X.mg X.base k f (n + 1) F) (hr : RoomG kk X.A) (hk : k ≤ kk) (tk : Takes X W)
    (he : PE X o (tE (X.K, zz) W de)) (ha : PA X (e :: es) (tA (X.K, zz) W da)) (hst : starEach (e :: es) X.env = (false, eval e X.env) :: starEach es X.env := by rfl) (hpl : (backTo pos (starEach es X.env)).any (·.1) = false := by rfl)
    (ht : eval (.Call (.Attribute o mn apos) (e :: es) [] pos) X.env = (do
      let ov ← eval o X.env
      standAt apos.atName
      let (f, first) ← holding [ov] (getMethod ov mn pl)
      callWith pos f first (backTo pos (starEach (e :: es) X.env)) (backToKw pos (keywordEach [] X.env))) := by rfl) :
    PE X (.Call (.Attribute o mn apos) (e :: es) [] pos) (tE (X.K, zz) W (eMeth cn mn (fnN (n + 1) F) de da)) :=
  let ⟨_, _, a, b, _⟩ := G
  se_meth (pl := pl) c hm a (hr.mono hk) b tk he ha hst hpl ht
theorem se_methO0 {cn mn : Str} {apos : Pos} {pl : Sem Bool} (c : Cls X.K (He.ga X.K cn)) (hm : Meth X.K (He.ga X.K cn) mn f) (G : OkF X.prog X.w X.K X.mg X.base k f 1 F) (hr : RoomG kk X.A) (hk : k ≤ kk) (tk : Takes X W)
    (he : PE X o (tE (X.K, zz) W de))
    (ht : eval (.Call (.Attribute o mn apos) [] [] pos) X.env = (do
      let ov ← eval o X.env
      standAt apos.atName
      let (f, first) ← holding [ov] (getMethod ov mn pl)
      callWith pos f first (backTo pos (starEach [] X.env)) (backToKw pos (keywordEach [] X.env))) := by rfl) :
    PE X (.Call (.Attribute o mn apos) [] [] pos) (tE (X.K, zz) W (eMeth cn mn (fnN 1 F) de aNil)) :=
  let ⟨_, _, a, b, _⟩ := G
  se_meth0 (pl := pl) c hm a (hr.mono hk) b tk he ht
theorem room_u {kk c : Nat} {A : Around} (hr : RoomG kk A) (h : c ≤ 200) : A.units + c < cLine := by
  have := hr.un
  omega
/-- built-in types as values -/
theorem pe_tyN {T : String} (hm : X.mg (Str.ofString T) = none) (hv : bootBuiltins (Str.ofString T) = some (.type T)) (hg : Gl X (Str.ofString T) := by rfl) (hn : (Str.ofString T) ≠ "__name__" := by decide) (hd : ((Str.ofString T) == ("__debug__" : Str)) = false := by decide) : PE X (.Name (Str.ofString T) pos) (tC (.ty T)) :=
  pe_bltn hg hm hv rfl hn hd
/-- a written class as a value -/
theorem pe_clsN {cn : Str} (hm : X.mg cn = some (.ref (He.ga X.K cn))) (hg : Gl X cn := by rfl) (hd : (cn == ("__debug__" : Str)) = false := by decide) : PE X (.Name cn pos) (tC (.ref (He.ga X.K cn))) :=
  pe_glob hg hm rfl hd
end
/-! answers of isinstance -/
def builtinTys : List String := ["NoneType", "bool", "int", "str", "tuple", "list", "dict"]
/-- is it the built-in type T; of the written classes in cs it is not -/
def ansB (T : String) (cs : List Str) : TyV → Option Bool
  | .b n => if n ∈ builtinTys then some (n == T || (n == "bool" && T == "int")) else none
  | .o c => if c ∈ cs then some false else none
def isiB (K : PySem.W.Frag) (T : String) (cs : List Str) : Bool := cs.all fun c => decide (PySem.W.kitOne K (.ref (He.ga K c)) (.type T) = some false)
def clsB (K : PySem.W.Frag) (c : Str) : Bool := decide (PySem.W.findIn K (.ref (He.ga K c)) "__class__" = some (some (.builtin "object.__class__"))) && (decide (PySem.W.specialIn K (.builtin "object.__class__") "__get__" = some (some (.builtin "getset_descriptor.__get__"))) &&
  (decide (PySem.W.takesIn K (.builtin "object.__class__") = some true) && decide (PySem.W.mroIn K (He.ga K c) (.type "object") = some true)))
theorem clsI_of {K : PySem.W.Frag} {c : Str} (h : clsB K c = true) (hc : Cls K (He.ga K c)) : ClsI K c := by
  unfold clsB at h
  simp only [Bool.and_eq_true, decide_eq_true_eq] at h
  exact ⟨hc, h.1, h.2.1, h.2.2.1, h.2.2.2⟩
theorem ans_b {K : PySem.W.Frag} {T : String} {cs : List Str} (h : isiB K T cs = true) (hc : ∀ c ∈ cs, ClsI K c) (hk : ∀ n ∈ builtinTys, kitB n T = some (n == T || (n == "bool" && T == "int")) := by decide +kernel) : Ans K (.type T) (ansB T cs) := by
  intro t b ht
  cases t with
  | b n =>
    simp only [ansB] at ht
    by_cases m : n ∈ builtinTys
    · rw [if_pos m] at ht
      cases ht
      exact ⟨kit_ty (hk n m), fun c z => by cases z⟩
    · rw [if_neg m] at ht; cases ht
  | o c =>
    simp only [ansB] at ht
    by_cases m : c ∈ cs
    · rw [if_pos m] at ht
      cases ht
      unfold isiB at h
      rw [List.all_eq_true] at h
      exact ⟨of_decide_eq_true (h c m), fun c' z => by cases z; exact hc c m⟩
    · rw [if_neg m] at ht; cases ht
/-- is it of the written class cn; cs: the written classes it may be of -/
def ansO (cn : Str) (cs : List Str) : TyV → Option Bool
  | .b n => if n ∈ builtinTys then some false else none
  | .o c => if c ∈ cs then some (c == cn) else none
def isiO (K : PySem.W.Frag) (cn : Str) (cs : List Str) : Bool := (builtinTys.all fun n => decide (PySem.W.kitOne K (.type n) (.ref (He.ga K cn)) = some false)) && cs.all fun c => decide (PySem.W.kitOne K (.ref (He.ga K c)) (.ref (He.ga K cn)) = some (c == cn))
theorem ans_o {K : PySem.W.Frag} {cn : Str} {cs : List Str} (h : isiO K cn cs = true) (hc : ∀ c ∈ cs, ClsI K c) : Ans K (.ref (He.ga K cn)) (ansO cn cs) := by
  intro t b ht
  unfold isiO at h
  rw [Bool.and_eq_true, List.all_eq_true, List.all_eq_true] at h
  cases t with
  | b n =>
    simp only [ansO] at ht
    by_cases m : n ∈ builtinTys
    · rw [if_pos m] at ht
      cases ht
      exact ⟨of_decide_eq_true (h.1 n m), fun c z => by cases z⟩
    · rw [if_neg m] at ht; cases ht
  | o c =>
    simp only [ansO] at ht
    by_cases m : c ∈ cs
    · rw [if_pos m] at ht
      cases ht
      exact ⟨of_decide_eq_true (h.2 c m), fun c' z => by cases z; exact hc c m⟩
    · rw [if_neg m] at ht; cases ht
end QS
end

section
set_option Elab.async false
set_option linter.all false
set_option maxRecDepth 100000
set_option maxHeartbeats 4000000
/-! QS11: the end of a law. -/
namespace QS
open PySem PySem.Spec PyProof.Rows L2
/-- a table as it stands at first -/
abbrev tab0 : Obj := { cls := .none, data := .fields #[] }
/-- the script's object -/
abbrev scrO (vs : List Value) : Obj := { cls := .type "list", data := .seq vs.toArray }
open Classical in
/-- what is told of the heap at first: the tables T, the script at a -/
noncomputable def H₁ (K : PySem.W.Frag) (T : List Addr) (a : Addr) (vs : List Value) (ns : List Int) : Hp := fun b =>
  if b ∈ T then some (.tbl #[]) else if b = a ∧ K.lookup a = none then some (.frz (scrO vs) (.lst (ns.map V.int))) else none
section
variable {K : PySem.W.Frag} {T : List Addr} {a b : Addr} {vs : List Value} {ns : List Int} {u : HO} {h : Heap} {o : Obj}
theorem H₁_tab (hb : b ∈ T) : H₁ K T a vs ns b = some (.tbl #[]) := if_pos hb
theorem H₁_cases (e : H₁ K T a vs ns b = some u) : (b ∈ T ∧ u = .tbl #[]) ∨ (b ∉ T ∧ b = a ∧ K.lookup a = none ∧ u = .frz (scrO vs) (.lst (ns.map V.int))) := by
  unfold H₁ at e
  by_cases c : b ∈ T
  · rw [if_pos c] at e; cases e; exact .inl ⟨c, rfl⟩
  · rw [if_neg c] at e
    by_cases c2 : b = a ∧ K.lookup a = none
    · rw [if_pos c2] at e; cases e; exact .inr ⟨c, c2.1, c2.2, rfl⟩
    · rw [if_neg c2] at e; cases e
/-- what is neither a table nor a list, is not told -/
theorem H₁_other (hT : ∀ b ∈ T, h.get? b = some tab0) (ha : h.get? a = some (scrO vs)) (e : h.get? b = some o) (n1 : o.data ≠ .fields #[]) (n2 : ∀ xs n, o.data ≠ .seq xs n) : H₁ K T a vs ns b = none := by
  cases q : H₁ K T a vs ns b with
  | none => rfl
  | some u =>
    rcases H₁_cases q with ⟨c, _⟩ | ⟨_, c, _, _⟩
    · rw [hT b c] at e; cases e; exact absurd rfl n1
    · rw [c, ha] at e; cases e; exact absurd rfl (n2 _ _)
end
theorem law_go {P : Program} {w : World} {K : PySem.W.Frag} {mg mb : Str → Option Value} {k : Nat} {fa a : Addr} {cs : List (Addr × Addr)} {fd : FuncData} {x : Str} {F : List D → M D} {s₁ : Shared} {vs : List Value} {ns : List Int}
    (KX : K.In s₁.heap) (hmg : s₁.heap.Ns mainGlobals mg) (hmb : s₁.heap.Ns builtinsNs mb) (hbb : ∀ x : Str, x ≠ "__name__" → mb x = bootBuiltins x) (hlim : s₁.heap.NoLimit) (hgen : s₁.gens = #[])
    (hT : ∀ p ∈ cs, s₁.heap.get? p.2 = some tab0) (nT : ∀ p ∈ cs, K.lookup p.2 = none) (hC : ∀ p ∈ cs, PySem.W.CodeHd s₁.heap p.1 p.2)
    (hbm : ∃ (bm : Addr) (ob : Obj), mg "__builtins__" = some (.ref bm) ∧ bm ≠ builtinsNs ∧ s₁.heap.get? bm = some ob ∧ ob.cls = .type "module" ∧ ob.dict = some builtinsNs ∧ ob.data = .plain)
    (ha : s₁.heap.get? a = some (scrO vs)) (hi : IntsAre vs ns) (hl : ns.length ≤ sizeLine) (hr : RoomG k callerA)
    (hF : ∀ base : Heap, K.In base → base.Ns mainGlobals mg → (∀ p ∈ cs, LamX.TabB base mg p.1 p.2) → FnG P w K mg base (L2.CX P w) k fa fd [x] (spF K 1 F)) (hbind : ∀ (s : Shared) (u : Value), BindsTo s fd ⟨[u], []⟩ [(x, u)])
    (htb : ∀ p ∈ tbs K, ∃ c ∈ cs, c.2 = p.1) (hlaw : ∃ s, F [.scr (ns.map D.int)] [] = .ok (.bl true) s) :
    codeAny (model P w) callerA (.call (.ref fa) ⟨[.ref a], []⟩) (fun r s' => r = .ok (.ret (.bool true)) ∧ OldK s₁.heap s'.heap ∧ s'.os = s₁.os ∧ AllBare s'.gens) s₁ := by
  obtain ⟨T, eT⟩ : ∃ T, T = cs.map (·.2) := ⟨_, rfl⟩
  have inT : ∀ p ∈ cs, p.2 ∈ T := fun p hp => by rw [eT]; exact List.mem_map.mpr ⟨p, hp, rfl⟩
  have ofT : ∀ b ∈ T, ∃ p ∈ cs, p.2 = b := fun b hb => by rw [eT] at hb; exact List.mem_map.mp hb
  have tT : ∀ b ∈ T, s₁.heap.get? b = some tab0 := fun b hb => by obtain ⟨p, h1, h2⟩ := ofT b hb; rw [← h2]; exact hT p h1
  have aT : a ∉ T := fun z => by
    have q := tT a z
    rw [ha] at q
    exact nomatch (show Data.seq vs.toArray _ = Data.fields #[] from congrArg Obj.data (Option.some.inj q))
  obtain ⟨H, eH⟩ : ∃ H, H = H₁ K T a vs ns := ⟨_, rfl⟩
  have free : ∀ {b : Addr} {o : Obj}, s₁.heap.get? b = some o → o.data ≠ .fields #[] → (∀ xs n, o.data ≠ .seq xs n) → H b = none := fun e n1 n2 => by rw [eH]; exact H₁_other tT ha e n1 n2
  have nsB : ∀ {b : Addr} {m : Str → Option Value}, s₁.heap.Ns b m → (hidT s₁.heap H).Ns b m := fun {b m} ⟨o, es, ep, e, d, r⟩ =>
    ⟨o, es, ep, hidT_get e (free e (by rw [d]; exact fun z => nomatch z) fun xs n => by rw [d]; exact fun z => nomatch z), d, r⟩
  have kB : K.In (hidT s₁.heap H) := fun b o e => hidT_get (KX b o e) (by
    cases q : H b with
    | none => rfl
    | some u =>
      rw [eH] at q
      rcases H₁_cases q with ⟨c, _⟩ | ⟨_, c, n, _⟩
      · obtain ⟨p, h1, h2⟩ := ofT b c
        rw [← h2, nT p h1] at e
        cases e
      · rw [c, n] at e
        cases e)
  have rv := vals_ints hi
  have hok : HOk P w H s₁.heap := fun b u q => by
    rw [eH] at q
    rcases H₁_cases q with ⟨c, rfl⟩ | ⟨_, rfl, _, rfl⟩
    · exact tT b c
    · exact ⟨ha, by rw [List.length_map]; exact hl, vs, _, rv, ha⟩
  have tB : ∀ p ∈ cs, LamX.TabB (hidT s₁.heap H) mg p.1 p.2 := fun p hp => by
    refine ⟨?_, ?_, fun z => ?_⟩
    · obtain ⟨o, us, file, tf, flags, tg, inF, text, tt, e1, r1, r2, r3, r⟩ := hC p hp
      refine ⟨o, us, file, tf, flags, tg, inF, text, tt, hidT_get e1 (free e1 (fun z => ?_) fun xs n => by rw [r2]; exact fun z => nomatch z), r1, r2, r3, r⟩
      rw [r2] at z
      cases z
      simp at r3
    · obtain ⟨bm, ob, b1, b2, b3, b4, b5, b6⟩ := hbm
      refine ⟨bm, ob, b1, b2, fun q => ?_, fun q => ?_, hidT_get b3 (free b3 (by rw [b6]; exact fun z => nomatch z) fun xs n => by rw [b6]; exact fun z => nomatch z), b4, b5, b6⟩
      · obtain ⟨o, es, ep, e, d, _⟩ := hmg
        rw [q, e] at b3
        cases b3
        rw [d] at b6
        cases b6
      · rw [q, hT p hp] at b3
        cases b3
        cases b6
    · obtain ⟨o, es, ep, e, d, _⟩ := hmg
      rw [z, hT p hp] at e
      cases e
      cases d
  have e0 : Env0 P w K mg (hidT s₁.heap H) callerA [] s₁ H := ⟨rfl, ⟨kB, nsB hmg, ⟨mb, nsB hmb, hbb⟩, let ⟨mc, y1, y2⟩ := hlim; ⟨mc, nsB y1, y2⟩⟩, fun b o e => of_hidT e, Nat.le_of_eq (hidT_size _ _), trivial, fun b hb => (nomatch hb), hok, .of_eq hgen⟩
  have hS : SqF K H a (ns.map V.int) := by
    cases e : K.lookup a with
    | none => exact .inl ⟨_, by rw [eH]; unfold H₁; rw [if_neg aT, if_pos ⟨rfl, e⟩]⟩
    | some o =>
      have q := KX a o e
      rw [ha] at q
      cases q
      exact .inr ⟨_, vs.toArray, _, e, rfl, rfl, rfl, by rw [List.size_toArray, hi.length]; exact hl, by simpa using rv⟩
  have hsp : spF K 1 F [.ref a] H (fun v _ => v = .bl true) (fun _ _ _ => False) := by
    obtain ⟨s, hs⟩ := hlaw
    refine ⟨rfl, [], [], [.scr (ns.map D.int)], [], .cons (.scr hS (rep_ints ns)) .nil, ⟨rfl, List.nodup_nil, fun d hd => (nomatch hd), fun i a o h1 _ => by simp at h1, fun p hp => ?_⟩, ?_⟩
    · obtain ⟨c, h1, h2⟩ := htb p hp
      exact LamX.TabS.nil (by rw [← h2, eH]; exact H₁_tab (inT c h1))
    · rw [hs]
      intro m' H' v f S q
      cases q
      rfl
  refine codeAny_mono ((hF _ kB (nsB hmg) tB).go callerA [] s₁ H ⟨[.ref a], []⟩ [.ref a] [.ref a] _ _ hr e0 (hbind s₁ (.ref a)) (.cons rfl .nil) hsp) fun r s' z => ?_
  cases r with
  | error e =>
    obtain ⟨_, _, _, _, _, _, _, _, _, _, _, _, y⟩ := z
    exact y.elim
  | ok fl => cases fl with
    | next => exact z.elim
    | brk => exact z.elim
    | cont => exact z.elim
    | ret u =>
      obtain ⟨v, H', os, bare, un, hok', ru, ev⟩ := z
      have ev : v = .bl true := ev
      subst ev
      obtain rfl : u = Value.bool true := ru
      have stay : ∀ b o, b ∉ T → s₁.heap.get? b = some o → s'.heap.get? b = some o := fun b o nb e => by
        cases q : H b with
        | none => exact un.keep b o e q (fun y => nomatch y) (fun y => nomatch y)
        | some u =>
          have q' := q
          rw [eH] at q'
          rcases H₁_cases q' with ⟨c, _⟩ | ⟨_, _, _, eu⟩
          · exact absurd c nb
          · rw [eu] at q
            obtain ⟨y1, _⟩ := hok b _ q
            obtain ⟨y2, _⟩ := hok' b _ (un.frzs b _ _ q)
            rw [e] at y1
            cases y1
            exact y2
      have grow : ∀ b ∈ T, ∃ more : Array Value, s'.heap.get? b = some { cls := .none, data := .fields more } := fun b hb => by
        obtain ⟨more, y⟩ := un.tbls b #[] (by rw [eH]; exact H₁_tab hb)
        exact ⟨_, hok' b _ y⟩
      refine ⟨rfl, ⟨fun b o e => ?_, fun b o e => ?_⟩, os, bare⟩
      · by_cases hb : b ∈ T
        · obtain ⟨more, hm⟩ := grow b hb
          obtain ⟨p, h1, h2⟩ := ofT b hb
          rw [tT b hb] at e
          cases e
          have y := ((hC p h1).tab (hT p h1)).isCodeTable
          rw [h2] at y
          exact .inr (.inl ⟨y, rfl, #[], more, rfl, by rw [Array.empty_append]; exact hm⟩)
        · exact .inl (stay b o hb e)
      · by_cases hb : b ∈ T
        · obtain ⟨more, hm⟩ := grow b hb
          exact ⟨_, hm⟩
        · exact ⟨o, stay b o hb e⟩
theorem walk_end {l : PySem.W.OpenLaw} {n k : Nat} {q : Program} {loose : List Str} {XP : (Str → Option Value) → Heap → Prop} {YP : World → Heap → Prop} {d : DefRec} {x : Str} {F : List D → M D}
    (hn : l.most = some n) (hn2 : n ≤ sizeLine) (hdf : d.params.defaults = []) (hr : RoomG k callerA)
    (hF : ∀ (w : World) (mg : Str → Option Value) (fa : Addr) (h : Heap), YP w h → h.Ns mainGlobals mg → mg d.name = some (.ref fa) →
      ∃ (K : PySem.W.Frag) (fd : FuncData) (cs : List (Addr × Addr)), K.In h ∧ (∀ (s : Shared) (u : Value), BindsTo s fd ⟨[u], []⟩ [(x, u)]) ∧
        (∀ p ∈ cs, h.get? p.2 = some tab0) ∧ (∀ p ∈ cs, K.lookup p.2 = none) ∧ (∀ p ∈ cs, PySem.W.CodeHd h p.1 p.2) ∧ (∀ p ∈ tbs K, ∃ c ∈ cs, c.2 = p.1) ∧
        ∀ base : Heap, K.In base → base.Ns mainGlobals mg → (∀ p ∈ cs, LamX.TabB base mg p.1 p.2) → FnG l.prog w K mg base (L2.CX l.prog w) k fa fd [x] (spF K 1 F))
    (hlaw : ∀ ns : List Int, ns.length ≤ n → ∃ s, F [.scr (ns.map D.int)] [] = .ok (.bl true) s) :
    PySem.W.WalkO q loose XP YP l.row.toRowW d [] (fun f vs => PySem.call f vs) := by
  refine Att.attach_call hn hdf fun w s₀ s₁ mg mb fa o pm cd doc a vs ns G Y ho hd hcd hmg hobj hints hlen hg => ?_
  obtain ⟨K, fd, cs, KX, hb, hT, nT, hC, hcs, hF⟩ := hF w mg fa _ Y G.T.g hmg
  exact law_go KX G.T.g G.T.b G.T.builtins G.T.nolimit hg hT nT hC G.T.bmain hobj hints (Nat.le_trans hlen hn2) hr hF hb hcs (hlaw ns hlen)
end QS
end

section
set_option Elab.async false
set_option linter.all false
set_option maxRecDepth 100000
set_option maxHeartbeats 4000000
/-! QS12: what is lost behind a suite; weakest preconditions of denotations. -/
namespace QS
open PySem PySem.Spec PyProof.Rows L2
/-! ### what a suite has laid is left behind -/
def cln (n : Nat) (ρ : En) : En := ρ.map fun o => o.bind fun d => if closed n d = true then some d else none
open Classical in
noncomputable def sClean (b : SM) : SM := fun ρ s => match b ρ s with
  | .nx ρ' s' => if OldOk s s' then .nx (cln s.length ρ') (s'.take s.length) else .stuck
  | .rt d s' => .rt d s'
  | .bk ρ' s' => .bk ρ' s'
  | .ct ρ' s' => .ct ρ' s'
  | .exn x ρ' s' => .exn x ρ' s'
  | .stuck => .stuck
theorem cln_rep {K : KZ} {m0 m' : List Addr} {H0 H' : Hp} {s0 : Sto} {ρ : En} {σ : St} (S0 : StR K m0 H0 s0) (e : Ext m0 H0 m' H') (E : EnR K m' H' ρ σ) : EnR K m0 H' (cln s0.length ρ) σ := by
  refine ⟨by simp [cln, E.len], fun i d h => ?_⟩
  unfold cln at h
  rw [List.getElem?_map] at h
  obtain ⟨o, h1, h2⟩ := Option.map_eq_some_iff.mp h
  obtain ⟨d', h3, h4⟩ := Option.bind_eq_some_iff.mp h2
  subst h3
  by_cases c : closed s0.length d' = true
  · rw [if_pos c] at h4
    cases h4
    obtain ⟨v, h5, h6⟩ := E.at_ i d h1
    refine ⟨v, h5, ?_⟩
    rw [← seal_take S0 e]
    exact closed_take h6 c
  · rw [if_neg c] at h4; cases h4
theorem clean_in {K : KZ} {W : WX} {D : Ends} {b : SM} {σ : St} {H : Hp} (h : tS K W (sClean b) D σ H) : tS K W b D σ H := by
  obtain ⟨m, ρ, s, hE, hS, hG⟩ := h
  refine ⟨m, ρ, s, hE, hS, ?_⟩
  unfold sClean at hG
  cases e : b ρ s with
  | nx ρ' s' =>
    simp only [e] at hG
    by_cases c : OldOk s s'
    · rw [if_pos c] at hG
      exact fun m' H' σ' f S q => hG m H' σ' (seal_ext f) (seal_str hS f S c) (cln_rep hS f q)
    · rw [if_neg c] at hG; exact hG.elim
  | rt d s' => simp only [e] at hG; exact hG
  | bk ρ' s' => simp only [e] at hG; exact hG
  | ct ρ' s' => simp only [e] at hG; exact hG
  | exn x ρ' s' => simp only [e] at hG; exact hG
  | stuck => simp only [e] at hG; exact hG
theorem ss_clean {zz : List Addr} {X : Cx} {W : WX} {l : List Stmt} {b : SM} (h : PSs X l (tS (X.K, zz) W b)) : PSs X l (tS (X.K, zz) W (sClean b)) := PSs.imp h fun _ _ _ h => clean_in h
theorem s_clean {zz : List Addr} {X : Cx} {W : WX} {l : Stmt} {b : SM} (h : PS X l (tS (X.K, zz) W b)) : PS X l (tS (X.K, zz) W (sClean b)) := PS.imp h fun _ _ _ h => clean_in h

/-! ### weakest preconditions -/
abbrev noX : Ex → Sto → Prop := fun _ _ => False
abbrev noXS : Ex → En → Sto → Prop := fun _ _ _ => False
section
variable {α β : Type}
def wp0 (r : Res α) (Q : α → Sto → Prop) (E : Ex → Sto → Prop) : Prop := match r with
  | .ok a s => Q a s
  | .exn x s => E x s
  | .stuck => False
/-- r ends well with Q, or with an exception and E -/
structure wp (r : Res α) (Q : α → Sto → Prop) (E : Ex → Sto → Prop := noX) : Prop where
  run : wp0 r Q E
def wpv0 (r : Option (α × Sto)) (Q : α → Sto → Prop) : Prop := match r with
  | some (a, s) => Q a s
  | none => False
structure wpv (r : Option (α × Sto)) (Q : α → Sto → Prop) : Prop where
  run : wpv0 r Q
def wps0 (r : SRes) (N : En → Sto → Prop) (R : D → Sto → Prop) (E : Ex → En → Sto → Prop) : Prop := match r with
  | .nx ρ s => N ρ s
  | .rt d s => R d s
  | .exn x ρ s => E x ρ s
  | _ => False
structure wps (r : SRes) (N : En → Sto → Prop) (R : D → Sto → Prop) (E : Ex → En → Sto → Prop := noXS) : Prop where
  run : wps0 r N R E
variable {s s' : Sto} {ρ : En} {Q Q' : α → Sto → Prop} {N N' : En → Sto → Prop} {R R' : D → Sto → Prop} {E E' : Ex → Sto → Prop} {X X' : Ex → En → Sto → Prop}
@[simp] theorem wp_ok {a : α} : wp (.ok a s) Q E = Q a s := propext ⟨fun h => h.run, fun h => ⟨h⟩⟩
@[simp] theorem wp_stuck : wp (.stuck : Res α) Q E = False := propext ⟨fun h => h.run, fun h => h.elim⟩
@[simp] theorem wp_exn {x : Ex} : wp (.exn x s : Res α) Q E = E x s := propext ⟨fun h => h.run, fun h => ⟨h⟩⟩
@[simp] theorem wpv_some {a : α} : wpv (some (a, s)) Q = Q a s := propext ⟨fun h => h.run, fun h => ⟨h⟩⟩
@[simp] theorem wpv_none : wpv (none : Option (α × Sto)) Q = False := propext ⟨fun h => h.run, fun h => h.elim⟩
@[simp] theorem wps_nx : wps (.nx ρ s) N R X = N ρ s := propext ⟨fun h => h.run, fun h => ⟨h⟩⟩
@[simp] theorem wps_rt {d : D} : wps (.rt d s) N R X = R d s := propext ⟨fun h => h.run, fun h => ⟨h⟩⟩
@[simp] theorem wps_stuck : wps .stuck N R X = False := propext ⟨fun h => h.run, fun h => h.elim⟩
@[simp] theorem wps_bk : wps (.bk ρ s) N R X = False := propext ⟨fun h => h.run, fun h => h.elim⟩
@[simp] theorem wps_ct : wps (.ct ρ s) N R X = False := propext ⟨fun h => h.run, fun h => h.elim⟩
@[simp] theorem wps_exn {x : Ex} : wps (.exn x ρ s) N R X = X x ρ s := propext ⟨fun h => h.run, fun h => ⟨h⟩⟩
/-- what raises nothing, before any wish -/
theorem wp.noX {r : Res α} (h : wp r Q) : wp r Q E := by
  cases r with
  | ok a s => rw [wp_ok] at h ⊢; exact h
  | exn x s => rw [wp_exn] at h; exact h.elim
  | stuck => rw [wp_stuck] at h; exact h.elim
theorem wp.mono {r : Res α} (h : wp r Q) (q : ∀ a s, Q a s → Q' a s) : wp r Q' E := by
  cases r with
  | ok a s => rw [wp_ok] at h ⊢; exact q _ _ h
  | exn x s => rw [wp_exn] at h; exact h.elim
  | stuck => rw [wp_stuck] at h; exact h.elim
theorem wp.monoX {r : Res α} (h : wp r Q E) (q : ∀ a s, Q a s → Q' a s) (q2 : ∀ x s, E x s → E' x s) : wp r Q' E' := by
  cases r with
  | ok a s => rw [wp_ok] at h ⊢; exact q _ _ h
  | exn x s => rw [wp_exn] at h ⊢; exact q2 _ _ h
  | stuck => rw [wp_stuck] at h; exact h.elim
theorem wps.mono {r : SRes} (h : wps r N R X) (q : ∀ a s, N a s → N' a s) (q2 : ∀ a s, R a s → R' a s) : wps r N' R' X := by
  cases r with
  | nx ρ s => rw [wps_nx] at h ⊢; exact q _ _ h
  | rt ρ s => rw [wps_rt] at h ⊢; exact q2 _ _ h
  | exn x ρ s => rw [wps_exn] at h ⊢; exact h
  | _ => exact h.run.elim
theorem wps.noX {r : SRes} (h : wps r N R) : wps r N R X := by
  cases r with
  | nx ρ s => rw [wps_nx] at h ⊢; exact h
  | rt ρ s => rw [wps_rt] at h ⊢; exact h
  | _ => exact h.run.elim
theorem wp_eq {r : Res α} {a : α} (h : wp r fun b s2 => b = a ∧ s2 = s) : r = .ok a s := by
  cases r with
  | ok b s2 => rw [wp_ok] at h; obtain ⟨rfl, rfl⟩ := h; rfl
  | _ => exact h.run.elim
/-- just this exception -/
theorem wp_eqX {r : Res α} {x : Ex} (h : wp r (fun _ _ => False) (fun y s2 => y = x ∧ s2 = s)) : r = .exn x s := by
  cases r with
  | exn b s2 => rw [wp_exn] at h; obtain ⟨rfl, rfl⟩ := h; rfl
  | _ => exact h.run.elim
theorem wps_eq {r : SRes} (h : wps r (fun ρ1 s1 => ρ1 = ρ ∧ s1 = s) (fun _ _ => False)) : r = .nx ρ s := by
  cases r with
  | nx b s2 => rw [wps_nx] at h; obtain ⟨rfl, rfl⟩ := h; rfl
  | _ => exact h.run.elim
theorem wps_eqR {r : SRes} {d : D} (h : wps r (fun _ _ => False) (fun e s1 => e = d ∧ s1 = s)) : r = .rt d s := by
  cases r with
  | rt b s2 => rw [wps_rt] at h; obtain ⟨rfl, rfl⟩ := h; rfl
  | _ => exact h.run.elim
theorem wp_get {r : Res α} (h : wp r Q) : ∃ a s, r = .ok a s ∧ Q a s := by
  cases r with
  | ok b s2 => rw [wp_ok] at h; exact ⟨b, s2, rfl, h⟩
  | _ => exact h.run.elim
@[simp] theorem wp_ret {a : α} : wp (ret a s) Q E = Q a s := wp_ok
@[simp] theorem wp_bnd {m : M α} {f : α → M β} {Q : β → Sto → Prop} : wp (bnd m f s) Q E = wp (m s) (fun a s' => wp (f a s') Q E) E := by
  unfold bnd
  cases m s <;> simp
@[simp] theorem wp_lift {v : V1 α} : wp (lift v s) Q E = wpv (v s) Q := by
  unfold lift
  rcases v s with _ | ⟨a, s'⟩ <;> simp
@[simp] theorem wps_ofE {r : Res α} {k : α → Sto → SRes} : wps (ofE r ρ k) N R X = wp r (fun a s' => wps (k a s') N R X) (fun x s' => X x ρ s') := by
  cases r <;> simp [ofE]
@[simp] theorem wpv_ite {c : Prop} [Decidable c] {a b : Option (α × Sto)} : wpv (if c then a else b) Q = if c then wpv a Q else wpv b Q := by
  by_cases h : c <;> simp [h]
theorem wpv_if {c : Prop} [Decidable c] {a : Option (α × Sto)} : wpv (if c then a else none) Q = (c ∧ wpv a Q) := by
  by_cases h : c <;> simp [h]
/-! expressions -/
variable {a b c : EM} {ds : AM} {ta tb : TM} {Q : D → Sto → Prop} {QB : Bool → Sto → Prop} {QL : List D → Sto → Prop}
def at0 (o : Option (Option D)) (P : D → Prop) : Prop := match o with
  | some (some d) => P d
  | _ => False
@[simp] theorem at0_some {d : D} {P : D → Prop} : at0 (some (some d)) P = P d := rfl
@[simp] theorem at0_none {P : D → Prop} : at0 (some none) P = False := rfl
@[simp] theorem wp_eVar {i : Nat} : wp (eVar i ρ s) Q E = at0 ρ[i]? fun d => Q d s := by
  unfold eVar at0
  rcases ρ[i]? with _ | _ | d <;> simp
@[simp] theorem wp_eC {d : D} : wp (eC d ρ s) Q E = Q d s := wp_ok
@[simp] theorem wp_eU {g : D → V1 D} : wp (eU g a ρ s) Q E = wp (a ρ s) (fun x s1 => wpv (g x s1) Q) E := by simp [eU]
@[simp] theorem wp_eB {g : D → D → V1 D} : wp (eB g a b ρ s) Q E = wp (a ρ s) (fun x s1 => wp (b ρ s1) (fun y s2 => wpv (g x y s2) Q) E) E := by simp [eB]
@[simp] theorem wp_aNil : wp (aNil ρ s) QL E = QL [] s := wp_ok
@[simp] theorem wp_aCons : wp (aCons a ds ρ s) QL E = wp (a ρ s) (fun x s1 => wp (ds ρ s1) (fun xs s2 => QL (x :: xs) s2) E) E := by simp [aCons]
@[simp] theorem wp_eF {g : List D → V1 D} : wp (eF g ds ρ s) Q E = wp (ds ρ s) (fun xs s1 => wpv (g xs s1) Q) E := by simp [eF]
@[simp] theorem wp_eCall {F : List D → M D} : wp (eCall F ds ρ s) Q E = wp (ds ρ s) (fun xs s1 => wp (F xs s1) Q E) E := by simp [eCall]
@[simp] theorem fnN0 {F : List D → M D} : fnN 0 F [] = F [] := fnN_at rfl
@[simp] theorem fnN1 {F : List D → M D} {x : D} : fnN 1 F [x] = F [x] := fnN_at rfl
@[simp] theorem fnN2 {F : List D → M D} {x y : D} : fnN 2 F [x, y] = F [x, y] := fnN_at rfl
@[simp] theorem fnN3 {F : List D → M D} {x y z : D} : fnN 3 F [x, y, z] = F [x, y, z] := fnN_at rfl
@[simp] theorem fnN4 {F : List D → M D} {x y z u : D} : fnN 4 F [x, y, z, u] = F [x, y, z, u] := fnN_at rfl
@[simp] theorem fnN5 {F : List D → M D} {x y z u v : D} : fnN 5 F [x, y, z, u, v] = F [x, y, z, u, v] := fnN_at rfl
@[simp] theorem wp_asB {b : Bool} : wp (asB (.bl b) s) QB E = QB b s := wp_ok
@[simp] theorem wp_tV : wp (tV a ρ s) QB E = wp (a ρ s) (fun x s1 => wp (asB x s1) QB E) E := by simp [tV]
@[simp] theorem wp_tNot : wp (QS.tNot ta ρ s) QB E = wp (ta ρ s) (fun b s1 => QB (!b) s1) E := by simp [QS.tNot]
@[simp] theorem wp_tAnd : wp (QS.tAnd ta tb ρ s) QB E = wp (ta ρ s) (fun b s1 => if b = true then wp (tb ρ s1) QB E else QB false s1) E := by
  simp only [QS.tAnd, wp_bnd]
  congr 1
  funext x s1
  cases x <;> simp
@[simp] theorem wp_tOr : wp (QS.tOr ta tb ρ s) QB E = wp (ta ρ s) (fun b s1 => if b = true then QB true s1 else wp (tb ρ s1) QB E) E := by
  simp only [QS.tOr, wp_bnd]
  congr 1
  funext x s1
  cases x <;> simp
@[simp] theorem wp_eAnd : wp (eAnd a b ρ s) Q E = wp (a ρ s) (fun x s1 => wp (asB x s1) (fun c s2 => if c = true then wp (b ρ s2) Q E else Q (.bl false) s2) E) E := by
  simp only [eAnd, wp_bnd]
  congr 1
  funext x s1
  congr 1
  funext c s2
  cases c <;> simp
@[simp] theorem wp_eOr : wp (eOr a b ρ s) Q E = wp (a ρ s) (fun x s1 => wp (asB x s1) (fun c s2 => if c = true then Q (.bl true) s2 else wp (b ρ s2) Q E) E) E := by
  simp only [eOr, wp_bnd]
  congr 1
  funext x s1
  congr 1
  funext c s2
  cases c <;> simp
@[simp] theorem wp_eNot : wp (QS.eNot a ρ s) Q E = wp (a ρ s) (fun x s1 => wp (asB x s1) (fun c s2 => Q (.bl (!c)) s2) E) E := by simp [QS.eNot]
@[simp] theorem wp_eIf : wp (eIf ta a b ρ s) Q E = wp (ta ρ s) (fun c s1 => if c = true then wp (a ρ s1) Q E else wp (b ρ s1) Q E) E := by
  simp only [eIf, wp_bnd]
  congr 1
  funext c s1
  cases c <;> simp
@[simp] theorem wp_eChain {g g' : D → D → V1 D} : wp (eChain g g' a b c ρ s) Q E = wp (a ρ s) (fun x s1 => wp (b ρ s1) (fun y s2 => wpv (g x y s2) fun z s3 => wp (asB z s3) (fun k s4 => if k = true then wp (c ρ s4) (fun w s5 => wpv (g' y w s5) Q) E else Q (.bl false) s4) E) E) E := by
  simp only [eChain, wp_bnd, wp_lift]
  congr 1
  funext x s1
  congr 1
  funext y s2
  congr 1
  funext z s3
  congr 1
  funext k s4
  cases k <;> simp
@[simp] theorem wp_eTup : wp (eTup ds ρ s) Q E = wp (ds ρ s) (fun xs s1 => xs.length ≤ sizeLine ∧ Q (.tup xs) s1) E := by
  simp only [eTup, wp_bnd, wp_lift, wpv_if, wpv_some]
@[simp] theorem wpv_new {mu : Bool} {l : List D} : wpv (new mu l s) Q = if mu = true then Q (.loc s.length) (s ++ [.lst l]) else Q (.lst l) s := by
  unfold new
  cases mu <;> simp
@[simp] theorem wp_eLst {mu : Bool} : wp (eLst mu ds ρ s) Q E = wp (ds ρ s) (fun xs s1 => xs.length ≤ sizeLine ∧ wpv (new mu xs s1) Q) E := by
  simp only [eLst, wp_bnd, wp_lift, wpv_if]
@[simp] theorem wp_oNone {QO : Option Int → Sto → Prop} : wp (oNone ρ s) QO E = QO none s := wp_ok
@[simp] theorem wp_asI {i : Int} {QO : Option Int → Sto → Prop} : wp (asI (.int i) s) QO E = QO (some i) s := wp_ok
@[simp] theorem wp_oSome {QO : Option Int → Sto → Prop} : wp (oSome a ρ s) QO E = wp (a ρ s) (fun x s1 => wp (asI x s1) QO E) E := by simp [oSome]
@[simp] theorem wp_eSl {g : D → Option Int → Option Int → V1 D} {lo hi : OM} : wp (eSl g a lo hi ρ s) Q E = wp (a ρ s) (fun x s1 => wp (lo ρ s1) (fun l s2 => wp (hi ρ s2) (fun h s3 => wpv (g x l h s3) Q) E) E) E := by simp [eSl]
@[simp] theorem wp_eMb {T : String} {g : D → List D → V1 D} : wp (eMb T g a ds ρ s) Q E = wp (a ρ s) (fun x s1 => tyB T s1 x = true ∧ wp (ds ρ s1) (fun xs s2 => wpv (g x xs s2) Q) E) E := by
  simp only [eMb, wp_bnd, wp_lift, wpv_if, wpv_some]
@[simp] theorem wp_eMeth {cn mn : Str} {F : List D → M D} : wp (eMeth cn mn F a ds ρ s) Q E = wp (a ρ s) (fun x s1 => (∃ p, insOf cn s1 x = some p ∧ p.1.contains mn = false) ∧ wp (ds ρ s1) (fun xs s2 => wp (F (x :: xs) s2) Q E) E) E := by
  simp only [eMeth, wp_bnd, wp_lift]
  congr 1
  funext x s1
  cases e : insOf cn s1 x with
  | none => simp
  | some p =>
    cases e2 : p.1.contains mn with
    | true => simp [e2]
    | false =>
      simp only [e2, Bool.false_eq_true, if_false, wpv_some, eq_iff_iff]
      exact ⟨fun h => ⟨⟨p, rfl, e2⟩, h⟩, fun h => h.2⟩
@[simp] theorem wp_eMake {cn : Str} {F : List D → M D} : wp (eMake cn F ds ρ s) Q E = wp (ds ρ s) (fun xs s1 => wp (F (.loc s1.length :: xs) (s1 ++ [.ins cn [] []])) (fun d s2 => d = .non ∧ Q (.loc s1.length) s2) E) E := by
  simp only [eMake, wp_bnd]
  congr 1
  funext xs s1
  cases e : F (.loc s1.length :: xs) (s1 ++ [.ins cn [] []]) with
  | ok d s2 => cases d <;> simp
  | exn x s2 => simp
  | stuck => simp
/-! statements -/
variable {sa sb : SM}
@[simp] theorem wps_sNil : wps (sNil ρ s) N R X = N ρ s := wps_nx
@[simp] theorem wps_sNever : wps (sNever ρ s) N R X = False := wps_stuck
@[simp] theorem wps_sSeq : wps (sSeq sa sb ρ s) N R X = wps (sa ρ s) (fun ρ' s' => wps (sb ρ' s') N R X) R X := by
  unfold sSeq
  cases sa ρ s <;> simp
@[simp] theorem wps_sE : wps (sE a ρ s) N R X = wp (a ρ s) (fun _ s' => N ρ s') (fun x s' => X x ρ s') := by simp [sE]
@[simp] theorem wps_sSet {i : Nat} : wps (sSet i a ρ s) N R X = wp (a ρ s) (fun d s' => N (ρ.set i (some d)) s') (fun x s' => X x ρ s') := by simp [sSet]
@[simp] theorem wps_sRet : wps (sRet a ρ s) N R X = wp (a ρ s) R (fun x s' => X x ρ s') := by simp [sRet]
@[simp] theorem wps_sIf : wps (sIf ta sa sb ρ s) N R X = wp (ta ρ s) (fun c s1 => if c = true then wps (sa ρ s1) N R X else wps (sb ρ s1) N R X) (fun x s' => X x ρ s') := by
  simp only [sIf, wps_ofE]
  congr 1
  funext c s1
  cases c <;> simp
@[simp] theorem wps_sAsg {g : GM} : wps (sAsg g a ρ s) N R X = wp (a ρ s) (fun d s' => ∃ ρ', g d ρ = some ρ' ∧ N ρ' s') (fun x s' => X x ρ s') := by
  simp only [sAsg, wps_ofE]
  congr 1
  funext d s1
  cases g d ρ with
  | none => simp
  | some ρ' => simp
def at2 (xs : List D) (P : D → D → Prop) : Prop := match xs with
  | [x, y] => P x y
  | _ => False
@[simp] theorem at2_two {x y : D} {P : D → D → Prop} : at2 [x, y] P = P x y := rfl
def at3 (xs : List D) (P : D → D → D → Prop) : Prop := match xs with
  | [x, y, z] => P x y z
  | _ => False
@[simp] theorem at3_three {x y z : D} {P : D → D → D → Prop} : at3 [x, y, z] P = P x y z := rfl
@[simp] theorem wps_sPar {i j : Nat} : wps (sPar i j ds ρ s) N R X = wp (ds ρ s) (fun xs s' => at2 xs fun x y => N ((ρ.set i (some x)).set j (some y)) s') (fun x s' => X x ρ s') := by
  simp only [sPar, wps_ofE]
  congr 1
  funext xs s1
  match xs with
  | [] => simp [at2]
  | [_] => simp [at2]
  | [x, y] => simp
  | _ :: _ :: _ :: _ => simp [at2]
@[simp] theorem wps_sPar3 {i j l : Nat} : wps (sPar3 i j l ds ρ s) N R X = wp (ds ρ s) (fun xs s' => at3 xs fun x y z => N (((ρ.set i (some x)).set j (some y)).set l (some z)) s') (fun x s' => X x ρ s') := by
  simp only [sPar3, wps_ofE]
  congr 1
  funext xs s1
  match xs with
  | [] => simp [at3]
  | [_] => simp [at3]
  | [_, _] => simp [at3]
  | [x, y, z] => simp
  | _ :: _ :: _ :: _ :: _ => simp [at3]
@[simp] theorem wps_sAug {i : Nat} {g : D → D → V1 D} : wps (sAug i g a ρ s) N R X = at0 ρ[i]? fun x => wp (a ρ s) (fun y s1 => wpv (g x y s1) fun d s2 => N (ρ.set i (some d)) s2) (fun x s' => X x ρ s') := by
  unfold sAug at0
  rcases ρ[i]? with _ | _ | d <;> simp
@[simp] theorem wps_sFld {cn f : Str} {v o : EM} : wps (QS.sFld cn f v o ρ s) N R X = wp (v ρ s) (fun d s1 => wp (o ρ s1) (fun x s2 => ∃ s3, gPutF cn f x d s2 = some s3 ∧ N ρ s3) (fun x s' => X x ρ s')) (fun x s' => X x ρ s') := by
  simp only [QS.sFld, wps_ofE, wp_bnd, wp_lift]
  congr 1
  funext d s1
  congr 1
  funext x s2
  cases gPutF cn f x d s2 <;> simp
@[simp] theorem wps_sSub {g : D → D → D → Sto → Option Sto} {v o i : EM} : wps (sSub g v o i ρ s) N R X = wp (v ρ s) (fun d s1 => wp (o ρ s1) (fun x s2 => wp (i ρ s2) (fun y s3 => ∃ s4, g x y d s3 = some s4 ∧ N ρ s4) (fun x s' => X x ρ s')) (fun x s' => X x ρ s')) (fun x s' => X x ρ s') := by
  simp only [sSub, wps_ofE, wp_bnd, wp_lift]
  congr 1
  funext d s1
  congr 1
  funext x s2
  congr 1
  funext y s3
  cases g x y d s3 <;> simp
@[simp] theorem wps_sAugS {gi g : D → D → V1 D} {st : D → D → D → Sto → Option Sto} {o i e : EM} : wps (sAugS gi g st o i e ρ s) N R X = wp (o ρ s) (fun x s1 => wp (i ρ s1) (fun y s2 => wpv (gi x y s2) fun old s3 => wp (e ρ s3) (fun v s4 => wpv (g old v s4) fun nw s5 => ∃ s6, st x y nw s5 = some s6 ∧ N ρ s6) (fun x s' => X x ρ s')) (fun x s' => X x ρ s')) (fun x s' => X x ρ s') := by
  simp only [sAugS, wps_ofE, wp_bnd, wp_lift]
  congr 1
  funext x s1
  congr 1
  funext y s2
  congr 1
  funext old s3
  congr 1
  funext v s4
  congr 1
  funext nw s5
  cases st x y nw s5 <;> simp
@[simp] theorem wps_sFor {i : IM} {g : GM} {b : SM} : wps (sFor i g b ρ s) N R X = wp (i ρ s) (fun it s' => wps (forL g b it.gd s' it.l ρ s') N R X) (fun x s' => X x ρ s') := by simp [sFor]
@[simp] theorem wp_iOf {f : α → V1 Items} {e : En → M α} {QI : Items → Sto → Prop} : wp (iOf f e ρ s) QI E = wp (e ρ s) (fun a s1 => wpv (f a s1) QI) E := by simp [iOf]
open Classical in
@[simp] theorem wps_sClean {b : SM} : wps (sClean b ρ s) N R X = wps (b ρ s) (fun ρ' s' => OldOk s s' ∧ N (cln s.length ρ') (s'.take s.length)) R X := by
  unfold sClean
  cases b ρ s with
  | nx ρ' s' =>
    simp only [wps_nx]
    by_cases c : OldOk s s' <;> simp [c]
  | _ => simp
/-- a loop by an invariant of what is left -/
theorem wps_forL {g : GM} {b : SM} {gd : Option Nat} {s0 : Sto} (P : List D → En → Sto → Prop) (hs : ∀ d r ρ s, P (d :: r) ρ s → ∃ ρ1, g d ρ = some ρ1 ∧ wps (b ρ1 s) (fun ρ' s' => (∀ n, gd = some n → s'[n]? = s0[n]?) ∧ P r ρ' s') R X)
    (he : ∀ ρ s, P [] ρ s → N ρ s) : ∀ (l : List D) (ρ : En) (s : Sto), P l ρ s → wps (forL g b gd s0 l ρ s) N R X
  | [], ρ, s, h => by unfold forL; rw [wps_nx]; exact he ρ s h
  | d :: r, ρ, s, h => by
    obtain ⟨ρ1, h1, h2⟩ := hs d r ρ s h
    unfold forL
    simp only [h1]
    cases e : b ρ1 s with
    | nx ρ' s' =>
      rw [e, wps_nx] at h2
      obtain ⟨h3, h4⟩ := h2
      simp only [if_pos h3]
      exact wps_forL P hs he r ρ' s' h4
    | rt d s' => rw [e, wps_rt] at h2; simp only [wps_rt]; exact h2
    | exn x ρ' s' => rw [e, wps_exn] at h2; simp only [wps_exn]; exact h2
    | _ => rw [e] at h2; exact h2.run.elim
/-- .. with break: it goes to the end -/
theorem wps_forB {g : GM} {b : SM} {gd : Option Nat} {s0 : Sto} (P : List D → En → Sto → Prop) (hs : ∀ d r ρ s, P (d :: r) ρ s → ∃ ρ1, g d ρ = some ρ1 ∧ match b ρ1 s with
      | .nx ρ' s' => (∀ n, gd = some n → s'[n]? = s0[n]?) ∧ P r ρ' s'
      | .ct ρ' s' => (∀ n, gd = some n → s'[n]? = s0[n]?) ∧ P r ρ' s'
      | .bk ρ' s' => N ρ' s'
      | .rt d s' => R d s'
      | .exn x ρ' s' => X x ρ' s'
      | .stuck => False)
    (he : ∀ ρ s, P [] ρ s → N ρ s) : ∀ (l : List D) (ρ : En) (s : Sto), P l ρ s → wps (forL g b gd s0 l ρ s) N R X
  | [], ρ, s, h => by unfold forL; rw [wps_nx]; exact he ρ s h
  | d :: r, ρ, s, h => by
    obtain ⟨ρ1, h1, h2⟩ := hs d r ρ s h
    unfold forL
    simp only [h1]
    cases e : b ρ1 s with
    | nx ρ' s' =>
      simp only [e] at h2
      simp only [if_pos h2.1]
      exact wps_forB P hs he r ρ' s' h2.2
    | ct ρ' s' =>
      simp only [e] at h2
      simp only [if_pos h2.1]
      exact wps_forB P hs he r ρ' s' h2.2
    | bk ρ' s' => simp only [e] at h2; simp only [wps_nx]; exact h2
    | rt d s' => simp only [e] at h2; simp only [wps_rt]; exact h2
    | exn x ρ' s' => simp only [e] at h2; simp only [wps_exn]; exact h2
    | stuck => simp only [e] at h2
/-- a while by an invariant with a measure -/
theorem wps_while {t : TM} {b : SM} (P : Nat → En → Sto → Prop) (hs : ∀ k ρ s, P k ρ s → wp (t ρ s) fun c s1 => if c = true then wps (b ρ s1) (fun ρ' s' => ∃ j, j < k ∧ P j ρ' s') R X else N ρ s1) :
    ∀ (k : Nat) (ρ : En) (s : Sto), P k ρ s → wps (sWhile t b ρ s) N R X := by
  intro k
  induction k using Nat.strongRecOn with
  | ind k ih =>
    intro ρ s h
    have h1 := hs k ρ s h
    cases e : t ρ s with
    | ok c s1 =>
      rw [e] at h1
      cases c with
      | false =>
        rw [sWhile_end e]
        simpa using h1
      | true =>
        have h1 : wps (b ρ s1) (fun ρ' s' => ∃ j, j < k ∧ P j ρ' s') R X := by simpa using h1
        cases e2 : b ρ s1 with
        | nx ρ' s' =>
          rw [e2] at h1
          rw [wps_nx] at h1
          obtain ⟨j, hj, hP⟩ := h1
          rw [sWhile_step e e2]
          exact ih j hj ρ' s' hP
        | rt d s' =>
          rw [e2, wps_rt] at h1
          rw [sWhile_ret e e2, wps_rt]
          exact h1
        | exn x ρ' s' =>
          rw [e2, wps_exn] at h1
          rw [sWhile_of (n := 1) (r := .exn x ρ' s') (by show wS t b _ ρ s = _; unfold wS; rw [e]; simp only [ofE, if_true, e2]) (fun z => nomatch z), wps_exn]
          exact h1
        | _ => rw [e2] at h1; exact h1.run.elim
    | _ => rw [e] at h1; exact h1.run.elim
/-- defs -/
theorem wp_run {N : Nat} {b : SM} {args : List D} (h : wps (b (args.map some ++ List.replicate (N - args.length) none) s) (fun _ s' => Q .non s') Q (fun x _ s' => E x s')) : wp (run N b args s) Q E := by
  unfold run
  cases e : b (args.map some ++ List.replicate (N - args.length) none) s with
  | nx ρ s' => simp only [e, wps_nx, wp_ok] at h ⊢; exact h
  | rt d s' => simp only [e, wps_rt, wp_ok] at h ⊢; exact h
  | exn x ρ s' => simp only [e, wps_exn, wp_exn] at h ⊢; exact h
  | _ => rw [e] at h; exact h.run.elim
/-- an exception that a sealed thing lets out -/
def exOut (s : Sto) (E : Ex → Sto → Prop) : Ex → Sto → Prop := fun x s1 => (∀ p, x.arg = some p → closed s.length p.2 = true) ∧ OldOk s s1 ∧ E x (s1.take s.length)
theorem wp_sealR {r : Res D} : wp (sealR s r) Q E = wp r (fun d s1 => ∃ d', frz 4 s.length s1 d = some d' ∧ OldOk s s1 ∧ Q d' (s1.take s.length)) (exOut s E) := by
  unfold sealR
  cases r with
  | ok d s1 =>
    simp only [wp_ok]
    cases e1 : frz 4 s.length s1 d with
    | none => simp
    | some d' =>
      by_cases c : OldOk s s1
      · simp [c]
      · simp [c]
  | exn x s1 =>
    simp only [wp_exn, exOut]
    cases e : x.arg with
    | none => by_cases c : OldOk s s1 <;> simp [c]
    | some p =>
      by_cases c : closed s.length p.2 = true
      · by_cases c2 : OldOk s s1 <;> simp [c, c2]
      · simp [c]
  | stuck => simp
theorem wp_seal {F : List D → M D} {args : List D} (h : wp (F args s) (fun d s1 => ∃ d', frz 4 s.length s1 d = some d' ∧ OldOk s s1 ∧ Q d' (s1.take s.length)) (exOut s E)) : wp (sealF F args s) Q E := by
  unfold sealF
  rw [wp_sealR]
  exact h
@[simp] theorem wp_eSeal : wp (eSeal a ρ s) Q E = wp (a ρ s) (fun d s1 => ∃ d', frz 4 s.length s1 d = some d' ∧ OldOk s s1 ∧ Q d' (s1.take s.length)) (exOut s E) := wp_sealR
@[simp] theorem wp_eLc {mu : Bool} {vs : List Nat} {i : IM} {g : GM} {t : TM} {e : EM} : wp (eLc mu vs i g t e ρ s) Q E = wp (i ρ s) (fun it s1 => it.l.length ≤ sizeLine ∧ wp (lcL g t e it.gd s1 (wipeD ρ vs) it.l s1) (fun l s2 => wpv (new mu l s2) Q) E) E := by
  simp only [eLc, wp_bnd, wp_lift]
  congr 1
  funext it s1
  by_cases c : it.l.length ≤ sizeLine
  · rw [if_pos c]; simp [c]
  · rw [if_neg c]; simp [c]
/-- a comprehension by an invariant: what is left, what came -/
theorem wp_lcL {g : GM} {t : TM} {e : EM} {gd : Option Nat} {s0 : Sto} {ρ : En} (P : List D → List D → Sto → Prop)
    (hs : ∀ d r acc s, P (d :: r) acc s → ∃ ρ1, g d ρ = some ρ1 ∧ wp (t ρ1 s) fun b s1 => if b = true then wp (e ρ1 s1) (fun y s2 => (∀ n, gd = some n → s2[n]? = s0[n]?) ∧ P r (acc ++ [y]) s2) else (∀ n, gd = some n → s1[n]? = s0[n]?) ∧ P r acc s1) :
    ∀ (l acc : List D) (s : Sto), P l acc s → wp (lcL g t e gd s0 ρ l s) (fun ys s' => P [] (acc ++ ys) s')
  | [], acc, s, h => by
    unfold lcL
    simpa using h
  | d :: r, acc, s, h => by
    obtain ⟨ρ1, h1, h2⟩ := hs d r acc s h
    unfold lcL
    simp only [h1]
    cases et : t ρ1 s with
    | ok b s1 =>
      rw [et] at h2
      cases b with
      | false =>
        have h2 : (∀ n, gd = some n → s1[n]? = s0[n]?) ∧ P r acc s1 := by simpa using h2
        simp only [if_pos h2.1]
        exact wp_lcL P hs r acc s1 h2.2
      | true =>
        have h2 : wp (e ρ1 s1) (fun y s2 => (∀ n, gd = some n → s2[n]? = s0[n]?) ∧ P r (acc ++ [y]) s2) := by simpa using h2
        cases ee : e ρ1 s1 with
        | ok y s2 =>
          rw [ee, wp_ok] at h2
          simp only [ee, if_true, if_pos h2.1]
          rw [wp_bnd]
          refine (wp_lcL P hs r (acc ++ [y]) s2 h2.2).mono fun ys s' q => ?_
          simpa using q
        | _ => rw [ee] at h2; exact h2.run.elim
    | _ => rw [et] at h2; exact h2.run.elim
/-- .. where nothing is laid or written -/
theorem lcL_pure {γ : Type} {g : GM} {t : TM} {e : EM} {gd : Option Nat} {ρ : En} {cv : γ → D} (p : γ → Bool) (f : γ → D) : ∀ (xs : List γ) (h : ∀ x ∈ xs, ∃ ρ1, g (cv x) ρ = some ρ1 ∧ t ρ1 s = .ok (p x) s ∧ (p x = true → e ρ1 s = .ok (f x) s)),
    lcL g t e gd s ρ (xs.map cv) s = .ok ((xs.filter p).map f) s
  | [], _ => rfl
  | x :: xs, h => by
    obtain ⟨ρ1, h1, h2, h3⟩ := h x (List.mem_cons_self ..)
    have ih := lcL_pure (gd := gd) p f xs fun y hy => h y (List.mem_cons_of_mem _ hy)
    rw [List.map_cons]
    unfold lcL
    simp only [h1, h2]
    cases e1 : p x with
    | false =>
      simp only [e1, List.filter_cons, Bool.false_eq_true, if_false]
      rw [if_pos (fun _ _ => True.intro)]
      exact ih
    | true =>
      simp only [e1, h3 e1, List.filter_cons, if_true, List.map_cons]
      rw [if_pos (fun _ _ => True.intro)]
      unfold bnd
      rw [ih]
      rfl
end
end QS
end

section
set_option Elab.async false
set_option linter.all false
set_option maxRecDepth 100000
set_option maxHeartbeats 4000000
/-! QS13: the operations in weakest preconditions. -/
namespace QS
open PySem PySem.Spec PyProof.Rows L2
def atO (o : Option O) (PL : List D → Prop) (PD : List Key → List D → Prop) (PI : Str → List Str → List D → Prop) : Prop := match o with
  | some (.lst l) => PL l
  | some (.dic ks vs) => PD ks vs
  | some (.ins c fs vs) => PI c fs vs
  | none => False
section
variable {PL : List D → Prop} {PD : List Key → List D → Prop} {PI : Str → List Str → List D → Prop}
@[simp] theorem atO_lst {l : List D} : atO (some (.lst l)) PL PD PI = PL l := rfl
@[simp] theorem atO_dic {ks : List Key} {l : List D} : atO (some (.dic ks l)) PL PD PI = PD ks l := rfl
@[simp] theorem atO_ins {c : Str} {fs : List Str} {l : List D} : atO (some (.ins c fs l)) PL PD PI = PI c fs l := rfl
@[simp] theorem atO_none : atO none PL PD PI = False := rfl
end
section
variable {s : Sto} {Q : D → Sto → Prop} {i j : Int} {n : Nat} {mu : Bool} {l r : List D} {x y : D}
@[simp] theorem wpv_addI : wpv (gAdd mu (.int i) (.int j) s) Q = Q (.int (i + j)) s := wpv_some
@[simp] theorem wpv_gAddI : wpv (gAddI (.int i) (.int j) s) Q = Q (.int (i + j)) s := wpv_some
@[simp] theorem wpv_sub : wpv (gSub (.int i) (.int j) s) Q = Q (.int (i - j)) s := wpv_some
@[simp] theorem wpv_mul : wpv (gMul mu (.int i) (.int j) s) Q = (MulOk i j ∧ Q (.int (i * j)) s) := by
  have e : gMul mu (.int i) (.int j) s = if MulOk i j then some (.int (i * j), s) else none := by
    by_cases c : MulOk i j
    · simp [gMul, orV2, gMulI, gI2, c]
    · simp [gMul, orV2, gMulI, gI2, c, gRepL, gRepT, lst2]
  rw [e, wpv_if, wpv_some]
@[simp] theorem wpv_div : wpv (gDiv (.int i) (.int j) s) Q = (DivOk i j ∧ Q (.int (i / j)) s) := (wpv_if (a := some (D.int (i / j), s))).trans (by rw [wpv_some])
@[simp] theorem wpv_mod : wpv (gMod (.int i) (.int j) s) Q = (0 < j ∧ Q (.int (i % j)) s) := (wpv_if (a := some (D.int (i % j), s))).trans (by rw [wpv_some])
@[simp] theorem wpv_pow : wpv (gPow (.int i) (.int j) s) Q = (PowOk i j ∧ Q (.int (i ^ j.toNat)) s) := (wpv_if (a := some (D.int (i ^ j.toNat), s))).trans (by rw [wpv_some])
@[simp] theorem wpv_lt : wpv (gLt (.int i) (.int j) s) Q = Q (.bl (decide (i < j))) s := wpv_some
@[simp] theorem wpv_le : wpv (gLe (.int i) (.int j) s) Q = Q (.bl (decide (i ≤ j))) s := wpv_some
@[simp] theorem wpv_gt : wpv (gGt (.int i) (.int j) s) Q = Q (.bl (decide (j < i))) s := wpv_some
@[simp] theorem wpv_ge : wpv (gGe (.int i) (.int j) s) Q = Q (.bl (decide (j ≤ i))) s := wpv_some
@[simp] theorem wpv_neg : wpv (gNeg (.int i) s) Q = Q (.int (-i)) s := wpv_some
@[simp] theorem lst2_lst : lst2 s (.lst l) = some l := rfl
@[simp] theorem wpv_addT : wpv (gAdd mu (.tup l) (.tup r) s) Q = (l.length + r.length ≤ sizeLine ∧ Q (.tup (l ++ r)) s) := by
  have e : gAdd mu (.tup l) (.tup r) s = if l.length + r.length ≤ sizeLine then some (.tup (l ++ r), s) else none := by
    by_cases c : l.length + r.length ≤ sizeLine
    · simp [gAdd, orV2, gAddI, gI2, gAddS, gAddT, c]
    · simp [gAdd, orV2, gAddI, gI2, gAddS, gAddT, c, gAddL, lst2]
  rw [e, wpv_if, wpv_some]
theorem gAddL_wp : wpv (gAddL mu x y s) Q = ∃ a b, lst2 s x = some a ∧ lst2 s y = some b ∧ a.length + b.length ≤ sizeLine ∧ wpv (new mu (a ++ b) s) Q := by
  unfold gAddL
  cases h1 : lst2 s x with
  | none => simp
  | some a =>
    cases h2 : lst2 s y with
    | none => simp
    | some b => simp [wpv_if]
@[simp] theorem wpv_addL : wpv (gAdd mu (.lst l) y s) Q = ∃ b, lst2 s y = some b ∧ l.length + b.length ≤ sizeLine ∧ wpv (new mu (l ++ b) s) Q := by
  have e : gAdd mu (.lst l) y s = gAddL mu (.lst l) y s := by simp [gAdd, orV2, gAddI, gI2, gAddS, gAddT]
  rw [e, gAddL_wp]
  simp
@[simp] theorem wpv_addLoc : wpv (gAdd mu (.loc n) y s) Q = ∃ a b, lst2 s (.loc n) = some a ∧ lst2 s y = some b ∧ a.length + b.length ≤ sizeLine ∧ wpv (new mu (a ++ b) s) Q := by
  have e : gAdd mu (.loc n) y s = gAddL mu (.loc n) y s := by simp [gAdd, orV2, gAddI, gI2, gAddS, gAddT]
  rw [e, gAddL_wp]
theorem lst2_loc (h : s[n]? = some (.lst l)) : lst2 s (.loc n) = some l := by simp [lst2, h]
@[simp] theorem wpv_addS {a b : Str} : wpv (gAdd mu (.str a) (.str b) s) Q = (a.length + b.length ≤ sizeLine ∧ Q (.str (a ++ b)) s) := by
  have e : gAdd mu (.str a) (.str b) s = if a.length + b.length ≤ sizeLine then some (.str (a ++ b), s) else none := by
    by_cases c : a.length + b.length ≤ sizeLine
    · simp [gAdd, orV2, gAddI, gI2, gAddS, c]
    · simp [gAdd, orV2, gAddI, gI2, gAddS, gAddT, c, gAddL, lst2]
  rw [e, wpv_if, wpv_some]
@[simp] theorem wpv_rep : wpv (gMul mu (.lst l) (.int i) s) Q = (i < 2 ^ 30 ∧ -(2 ^ 30) < i ∧ l.length * i.toNat ≤ sizeLine ∧ wpv (new mu (List.replicate i.toNat l).flatten s) Q) := by
  have e : gMul mu (.lst l) (.int i) s = if i < 2 ^ 30 ∧ -(2 ^ 30) < i ∧ l.length * i.toNat ≤ sizeLine then new mu (List.replicate i.toNat l).flatten s else none := by
    by_cases c : i < 2 ^ 30 ∧ -(2 ^ 30) < i ∧ l.length * i.toNat ≤ sizeLine
    · have : ∃ p, new mu (List.replicate i.toNat l).flatten s = some p := by unfold new; cases mu <;> exact ⟨_, rfl⟩
      obtain ⟨p, hp⟩ := this
      simp only [gMul, orV2, gMulI, gI2, gRepL, lst2, if_pos c, hp]
    · simp only [gMul, orV2, gMulI, gI2, gRepL, lst2, if_neg c, gRepT]
  rw [e, wpv_if]
  simp [and_assoc]
/-! subscripts -/
theorem ixN_nat {k : Nat} : ixN n (k : Int) = if k < n then some k else none := by
  unfold ixN
  rw [if_pos (Int.natCast_nonneg k)]
  by_cases c : k < n
  · rw [if_pos c, if_pos (by omega)]; simp
  · rw [if_neg c, if_neg (by omega)]
theorem atI_nat {α : Type} {l : List α} {k : Nat} : atI l (k : Int) = l[k]? := by
  unfold atI
  rw [ixN_nat]
  by_cases c : k < l.length
  · rw [if_pos c]; rfl
  · rw [if_neg c, List.getElem?_eq_none (by omega)]; rfl
@[simp] theorem atI0 {α : Type} {l : List α} : atI l 0 = l[0]? := atI_nat (k := 0)
@[simp] theorem atI1 {α : Type} {l : List α} : atI l 1 = l[1]? := atI_nat (k := 1)
@[simp] theorem atI2 {α : Type} {l : List α} : atI l 2 = l[2]? := atI_nat (k := 2)
@[simp] theorem atI3 {α : Type} {l : List α} : atI l 3 = l[3]? := atI_nat (k := 3)
@[simp] theorem atI4 {α : Type} {l : List α} : atI l 4 = l[4]? := atI_nat (k := 4)
@[simp] theorem ixN0 : ixN n 0 = if 0 < n then some 0 else none := ixN_nat (k := 0)
@[simp] theorem ixN1 : ixN n 1 = if 1 < n then some 1 else none := ixN_nat (k := 1)
@[simp] theorem ixN2 : ixN n 2 = if 2 < n then some 2 else none := ixN_nat (k := 2)
@[simp] theorem ixN3 : ixN n 3 = if 3 < n then some 3 else none := ixN_nat (k := 3)
@[simp] theorem ixN4 : ixN n 4 = if 4 < n then some 4 else none := ixN_nat (k := 4)
theorem wpv_map_bind {α : Type} {o : Option α} {f : α → D} : wpv (o.map fun d => (f d, s)) Q = ∃ d, o = some d ∧ Q (f d) s := by
  cases o <;> simp
@[simp] theorem wpv_ixT : wpv (gIx (.tup l) (.int i) s) Q = ∃ d, atI l i = some d ∧ Q d s := by
  have e : gIx (.tup l) (.int i) s = (atI l i).map fun d => (d, s) := by
    cases h : atI l i with
    | none => simp [gIx, orV2, gIxL, lstOf, gIxT, gIxS, h]
    | some d => simp [gIx, orV2, gIxL, lstOf, gIxT, h]
  rw [e]
  exact wpv_map_bind
theorem gIx_l {x : D} (h : lstOf s x = some l) (hx : ∀ l, x ≠ .tup l) (hs : ∀ l, x ≠ .str l) : gIx x (.int i) s = (atI l i).map fun d => (d, s) := by
  cases h2 : atI l i with
  | some d => simp [gIx, orV2, gIxL, h, h2]
  | none =>
    cases x with
    | tup l => exact absurd rfl (hx l)
    | str l => exact absurd rfl (hs l)
    | _ => simp [gIx, orV2, gIxL, h, h2, gIxT, gIxS]
@[simp] theorem wpv_ixL : wpv (gIx (.lst l) (.int i) s) Q = ∃ d, atI l i = some d ∧ Q d s := by
  rw [gIx_l (l := l) rfl (fun _ z => by cases z) (fun _ z => by cases z)]
  exact wpv_map_bind
@[simp] theorem wpv_ixScr : wpv (gIx (.scr l) (.int i) s) Q = ∃ d, atI l i = some d ∧ Q d s := by
  rw [gIx_l (l := l) rfl (fun _ z => by cases z) (fun _ z => by cases z)]
  exact wpv_map_bind
@[simp] theorem wpv_ixLoc : wpv (gIx (.loc n) (.int i) s) Q = atO s[n]? (fun l => ∃ d, atI l i = some d ∧ Q d s) (fun _ _ => False) (fun _ _ _ => False) := by
  cases h : s[n]? with
  | none => simp [gIx, orV2, gIxL, lstOf, h, gIxT, gIxS]
  | some o =>
    cases o with
    | lst l =>
      rw [gIx_l (l := l) (by simp [lstOf, h]) (fun _ z => by cases z) (fun _ z => by cases z)]
      exact wpv_map_bind
    | _ => simp [gIx, orV2, gIxL, lstOf, h, gIxT, gIxS]
@[simp] theorem wpv_gIxL_loc : wpv (gIxL (.loc n) (.int i) s) Q = atO s[n]? (fun l => ∃ d, atI l i = some d ∧ Q d s) (fun _ _ => False) (fun _ _ _ => False) := by
  cases h : s[n]? with
  | none => simp [gIxL, lstOf, h]
  | some o =>
    cases o with
    | lst l =>
      simp only [gIxL, lstOf, h, atO_lst]
      exact wpv_map_bind
    | _ => simp [gIxL, lstOf, h]
@[simp] theorem stL_loc {v : D} {s4 : Sto} : (gStL (.loc n) (.int i) v s = some s4) = atO s[n]? (fun l => ∃ k, ixN l.length i = some k ∧ s4 = s.set n (.lst (l.set k v))) (fun _ _ => False) (fun _ _ _ => False) := by
  cases h : s[n]? with
  | none => simp [gStL, h]
  | some o =>
    cases o with
    | lst l =>
      simp only [gStL, h, atO_lst, Option.map_eq_some_iff, eq_iff_iff]
      exact ⟨fun ⟨k, a, b⟩ => ⟨k, a, b.symm⟩, fun ⟨k, a, b⟩ => ⟨k, a, b.symm⟩⟩
    | _ => simp [gStL, h]
/-! slices -/
theorem orVS_some {g h : D → Option Int → Option Int → V1 D} {lo hi : Option Int} {p : D × Sto} (e : g x lo hi s = some p) : orVS g h x lo hi s = some p := by simp [orVS, e]
@[simp] theorem wpv_slT {lo hi : Option Int} : wpv (gSl mu (.tup l) lo hi s) Q = Q (.tup (cut l lo hi)) s := by
  simp [gSl, orVS, gSlL, lstOf, gSlT]
theorem gSl_l {x : D} {lo hi : Option Int} (h : lstOf s x = some l) : wpv (gSl mu x lo hi s) Q = wpv (new mu (cut l lo hi) s) Q := by
  have : ∃ p, new mu (cut l lo hi) s = some p := by unfold new; cases mu <;> exact ⟨_, rfl⟩
  obtain ⟨p, hp⟩ := this
  simp [gSl, orVS, gSlL, h, hp]
@[simp] theorem wpv_slL {lo hi : Option Int} : wpv (gSl mu (.lst l) lo hi s) Q = wpv (new mu (cut l lo hi) s) Q := gSl_l rfl
@[simp] theorem wpv_slScr {lo hi : Option Int} : wpv (gSl mu (.scr l) lo hi s) Q = wpv (new mu (cut l lo hi) s) Q := gSl_l rfl
@[simp] theorem wpv_slLoc {lo hi : Option Int} : wpv (gSl mu (.loc n) lo hi s) Q = atO s[n]? (fun l => wpv (new mu (cut l lo hi) s) Q) (fun _ _ => False) (fun _ _ _ => False) := by
  cases h : s[n]? with
  | none => simp [gSl, orVS, gSlL, lstOf, h, gSlT, gSlS]
  | some o =>
    cases o with
    | lst l => rw [atO_lst]; exact gSl_l (by simp [lstOf, h])
    | _ => simp [gSl, orVS, gSlL, lstOf, h, gSlT, gSlS]
/-! built-ins -/
@[simp] theorem wpv_lenT : wpv (gLen [.tup l] s) Q = Q (.int l.length) s := wpv_some
@[simp] theorem wpv_lenL : wpv (gLen [.lst l] s) Q = Q (.int l.length) s := wpv_some
@[simp] theorem wpv_lenScr : wpv (gLen [.scr l] s) Q = Q (.int l.length) s := wpv_some
@[simp] theorem wpv_lenLoc : wpv (gLen [.loc n] s) Q = atO s[n]? (fun l => Q (.int l.length) s) (fun ks _ => Q (.int ks.length) s) (fun _ _ _ => False) := by
  cases h : s[n]? with
  | none => simp [gLen, orVL, gLenS, gLenD, g1, seqOf, dicOf, h]
  | some o => cases o <;> simp [gLen, orVL, gLenS, gLenD, g1, seqOf, dicOf, h]
@[simp] theorem wpv_abs : wpv (gAbs [.int i] s) Q = Q (.int (if i < 0 then -i else i)) s := wpv_some
@[simp] theorem wpv_int : wpv (gInt [.int i] s) Q = Q (.int i) s := wpv_some
@[simp] theorem wpv_sumL {ns : List Int} : wpv (gSum [.lst (ns.map D.int)] s) Q = Q (.int ns.sum) s := by simp [gSum, g1, lstOf]
@[simp] theorem wpv_anyL {ns : List Bool} : wpv (gAny [.lst (ns.map D.bl)] s) Q = Q (.bl (ns.any id)) s := by simp [gAny, g1, lstOf]
@[simp] theorem wpv_allL {ns : List Bool} : wpv (gAll [.lst (ns.map D.bl)] s) Q = Q (.bl (ns.all id)) s := by simp [gAll, g1, lstOf]
@[simp] theorem wpv_tupleT : wpv (gTuple [.tup l] s) Q = Q (.tup l) s := wpv_some
@[simp] theorem wpv_tupleL : wpv (gTuple [.lst l] s) Q = Q (.tup l) s := wpv_some
@[simp] theorem wpv_tupleLoc : wpv (gTuple [.loc n] s) Q = atO s[n]? (fun l => Q (.tup l) s) (fun _ _ => False) (fun _ _ _ => False) := by
  cases h : s[n]? with
  | none => simp [gTuple, seqOf, h]
  | some o => cases o <;> simp [gTuple, seqOf, h]
@[simp] theorem wpv_listT : wpv (gList mu [.tup l] s) Q = wpv (new mu l s) Q := rfl
@[simp] theorem wpv_listL : wpv (gList mu [.lst l] s) Q = wpv (new mu l s) Q := rfl
@[simp] theorem wpv_listLoc : wpv (gList mu [.loc n] s) Q = atO s[n]? (fun l => wpv (new mu l s) Q) (fun _ _ => False) (fun _ _ _ => False) := by
  cases h : s[n]? with
  | none => simp [gList, seqOf, h]
  | some o => cases o <;> simp [gList, seqOf, h]
@[simp] theorem wpv_isNone : wpv (gIs x .non s) Q = Q (.bl (isNon x)) s := wpv_some
@[simp] theorem wpv_isNotNone : wpv (gIsNot x .non s) Q = Q (.bl (!isNon x)) s := wpv_some
@[simp] theorem isNon_non : isNon .non = true := rfl
@[simp] theorem isNon_int : isNon (.int i) = false := rfl
@[simp] theorem isNon_tup : isNon (.tup l) = false := rfl
@[simp] theorem isNon_lst : isNon (.lst l) = false := rfl
@[simp] theorem isNon_bl {b : Bool} : isNon (.bl b) = false := rfl
@[simp] theorem isNon_str {b : Str} : isNon (.str b) = false := rfl
@[simp] theorem isNon_loc : isNon (.loc n) = false := rfl
/-! isinstance -/
@[simp] theorem wpv_isi {ans : TyV → Option Bool} : wpv (gIsi ans x s) Q = ∃ t b, tyV s x = some t ∧ ans t = some b ∧ Q (.bl b) s := by
  unfold gIsi
  cases h : tyV s x with
  | none => simp
  | some t =>
    cases h2 : ans t with
    | none => simp [h2]
    | some b => simp only [Option.bind_some, h2, Option.map_some, wpv_some, eq_iff_iff]; exact ⟨fun q => ⟨t, b, rfl, h2, q⟩, fun ⟨t', b', e, e2, q⟩ => by cases e; rw [h2] at e2; cases e2; exact q⟩
@[simp] theorem tyV_int : tyV s (.int i) = some (.b "int") := rfl
@[simp] theorem tyV_non : tyV s .non = some (.b "NoneType") := rfl
@[simp] theorem tyV_bl {b : Bool} : tyV s (.bl b) = some (.b "bool") := rfl
@[simp] theorem tyV_str {b : Str} : tyV s (.str b) = some (.b "str") := rfl
@[simp] theorem tyV_tup : tyV s (.tup l) = some (.b "tuple") := rfl
@[simp] theorem tyV_lst : tyV s (.lst l) = some (.b "list") := rfl
@[simp] theorem tyV_ins {c : Str} {fs : List Str} : tyV s (.ins c fs l) = some (.o c) := rfl
/-! fields -/
theorem wpv_fld {c f : Str} : wpv (gFld c f x s) Q = ∃ p d, insOf c s x = some p ∧ fldD f p.1 p.2 = some d ∧ Q d s := by
  unfold gFld
  cases h : insOf c s x with
  | none => simp
  | some p =>
    cases h2 : fldD f p.1 p.2 with
    | none => simp [h2]
    | some d => simp [h2]
/-! walks -/
@[simp] theorem wpv_itTup {QI : Items → Sto → Prop} : wpv (itTup (.tup l) s) QI = QI ⟨l, none⟩ s := wpv_some
@[simp] theorem wpv_itSeqL {QI : Items → Sto → Prop} : wpv (itSeq (.lst l) s) QI = QI ⟨l, none⟩ s := wpv_some
@[simp] theorem wpv_itSeqScr {QI : Items → Sto → Prop} : wpv (itSeq (.scr l) s) QI = QI ⟨l, none⟩ s := wpv_some
@[simp] theorem wpv_itSeqLoc {QI : Items → Sto → Prop} : wpv (itSeq (.loc n) s) QI = atO s[n]? (fun l => QI ⟨l, some n⟩ s) (fun _ _ => False) (fun _ _ _ => False) := by
  cases h : s[n]? with
  | none => simp [itSeq, h]
  | some o => cases o <;> simp [itSeq, h]
def RngOk (j : Int) : Prop := -(2 ^ 62) ≤ j ∧ j < 2 ^ 62
theorem rngOk_of {j : Int} (h : -4611686018427387904 ≤ j) (h2 : j < 4611686018427387904) : RngOk j := ⟨by omega, by omega⟩
@[simp] theorem wpv_itRng1 {QI : Items → Sto → Prop} : wpv (itRng1 [.int j] s) QI = (RngOk j ∧ QI ⟨rngD 0 j.toNat, none⟩ s) := by
  simp only [itRng1, wpv_if, wpv_some, RngOk]
@[simp] theorem wpv_itRng2 {QI : Items → Sto → Prop} : wpv (itRng2 [.int i, .int j] s) QI = (RngOk i ∧ RngOk j ∧ QI ⟨rngD i (j - i).toNat, none⟩ s) := by
  simp only [itRng2, wpv_if, wpv_some, and_assoc, RngOk]
@[simp] theorem wpv_itEnumT {QI : Items → Sto → Prop} : wpv (itEnum [.tup l] s) QI = QI ⟨numD l, none⟩ s := wpv_some
@[simp] theorem wpv_itEnumL {QI : Items → Sto → Prop} : wpv (itEnum [.lst l] s) QI = QI ⟨numD l, none⟩ s := wpv_some
@[simp] theorem wpv_itZipT {QI : Items → Sto → Prop} : wpv (itZip [.tup l, .tup r] s) QI = QI ⟨(l.zip r).map fun z => .tup [z.1, z.2], none⟩ s := wpv_some
@[simp] theorem wpv_itZipL {QI : Items → Sto → Prop} : wpv (itZip [.lst l, .lst r] s) QI = QI ⟨(l.zip r).map fun z => .tup [z.1, z.2], none⟩ s := wpv_some
/-! targets -/
@[simp] theorem gSet_at {ρ : En} {k : Nat} : QS.gSet k x ρ = some (ρ.set k (some x)) := rfl
@[simp] theorem gTup_at {ρ : En} {k : Nat} {g : GMs} : QS.gTup k g (.tup l) ρ = if l.length = k then g l ρ else none := rfl
@[simp] theorem gCons_at {ρ : En} {g : GM} {gs : GMs} : QS.gCons g gs (x :: l) ρ = (g x ρ).bind fun ρ' => gs l ρ' := rfl
@[simp] theorem gNil_at {ρ : En} : QS.gNil [] ρ = some ρ := rfl
/-! a list's methods -/
@[simp] theorem wpv_append : wpv (gAppend (.loc n) [x] s) Q = atO s[n]? (fun l => l.length < sizeLine ∧ Q .non (s.set n (.lst (l ++ [x])))) (fun _ _ => False) (fun _ _ _ => False) := by
  cases h : s[n]? with
  | none => simp [gAppend, h]
  | some o => cases o <;> simp [gAppend, h, wpv_if]
@[simp] theorem wpv_popAt : wpv (gPopAt (.loc n) [.int i] s) Q = atO s[n]? (fun l => (-(2 ^ 63) ≤ i ∧ i < 2 ^ 63) ∧ ∃ k d, seqIndex? i l.length = some k ∧ l[k]? = some d ∧ Q d (s.set n (.lst (l.eraseIdx k)))) (fun _ _ => False) (fun _ _ _ => False) := by
  cases h : s[n]? with
  | none => simp [gPopAt, h]
  | some o =>
    cases o with
    | lst l =>
      simp only [gPopAt, h, wpv_if, atO_lst, eq_iff_iff]
      refine and_congr_right fun _ => ?_
      cases h1 : seqIndex? i l.length with
      | none => simp
      | some k =>
        cases h2 : l[k]? with
        | none => simp [h2]
        | some d => simp [h2]
    | _ => simp [gPopAt, h]
@[simp] theorem wpv_pop : wpv (gPop (.loc n) [] s) Q = atO s[n]? (fun l => ∃ d, l[l.length - 1]? = some d ∧ Q d (s.set n (.lst l.dropLast))) (fun _ _ => False) (fun _ _ _ => False) := by
  cases h : s[n]? with
  | none => simp [gPop, h]
  | some o =>
    cases o with
    | lst l =>
      cases h2 : l[l.length - 1]? with
      | none => simp [gPop, h, h2]
      | some d => simp [gPop, h, h2]
    | _ => simp [gPop, h]
theorem tyB_loc (h : s[n]? = some (.lst l)) : tyB "list" s (.loc n) = true := by simp [tyB, h]
/-! sealing -/
@[simp] theorem closed_int {k : Nat} : closed k (.int i) = true := by simp only [closed]
@[simp] theorem closed_non {k : Nat} : closed k .non = true := by simp only [closed]
@[simp] theorem closed_bl {k : Nat} {b : Bool} : closed k (.bl b) = true := by simp only [closed]
@[simp] theorem closed_str {k : Nat} {b : Str} : closed k (.str b) = true := by simp only [closed]
@[simp] theorem closed_adr {k : Nat} {a : Addr} : closed k (.adr a) = true := by simp only [closed]
@[simp] theorem closed_tup {k : Nat} : closed k (.tup l) = closedL k l := by simp only [closed]
@[simp] theorem closed_lst {k : Nat} : closed k (.lst l) = closedL k l := by simp only [closed]
@[simp] theorem closed_scr {k : Nat} : closed k (.scr l) = closedL k l := by simp only [closed]
@[simp] theorem closed_ins {k : Nat} {c : Str} {fs : List Str} : closed k (.ins c fs l) = closedL k l := by simp only [closed]
@[simp] theorem closed_dic {k : Nat} {ks : List Key} : closed k (.dic ks l) = closedL k l := by simp only [closed]
@[simp] theorem closed_loc {k : Nat} : closed k (.loc n) = decide (n < k) := by simp only [closed]
@[simp] theorem closedL_nil {k : Nat} : closedL k [] = true := by simp only [closedL]
@[simp] theorem closedL_cons {k : Nat} : closedL k (x :: l) = (closed k x && closedL k l) := by simp only [closedL]
theorem closedL_all {k : Nat} : ∀ {l : List D}, closedL k l = true ↔ ∀ d ∈ l, closed k d = true
  | [] => by simp
  | d :: r => by simp [closedL_all (l := r)]
@[simp] theorem closedL_app {k : Nat} : closedL k (l ++ r) = (closedL k l && closedL k r) := by
  induction l with
  | nil => simp
  | cons d t ih => simp [ih, Bool.and_assoc]
@[simp] theorem closedL_ints {k : Nat} {ns : List Int} : closedL k (ns.map D.int) = true := closedL_all.mpr fun d hd => by
  obtain ⟨i, _, rfl⟩ := List.mem_map.mp hd
  simp
theorem frz_closed {j k : Nat} {d : D} (h : closed k d = true) : frz j k s d = some d := by
  cases j with
  | zero => unfold frz; rw [if_pos h]
  | succ j => unfold frz; rw [if_pos h]
theorem OldOk.refl (s : Sto) : OldOk s s := ⟨Nat.le_refl _, fun i hi => .inl rfl⟩
theorem OldOk.app (s g : Sto) : OldOk s (s ++ g) := ⟨by simp, fun i hi => .inl (by rw [List.getElem?_append_left hi])⟩
/-- a def that lays nothing -/
theorem seal_pure {E : Ex → Sto → Prop} {F : List D → M D} {args : List D} (h : wp (F args s) (fun d s1 => s1 = s ∧ closed s.length d = true ∧ Q d s) (fun x s1 => s1 = s ∧ (∀ p, x.arg = some p → closed s.length p.2 = true) ∧ E x s)) : wp (sealF F args s) Q E :=
  wp_seal (h.monoX (fun d s1 ⟨e, c, q⟩ => by
    subst e
    exact ⟨d, frz_closed c, OldOk.refl _, by rw [List.take_of_length_le (Nat.le_refl _)]; exact q⟩) fun x s1 ⟨e, c, q⟩ => by
    subst e
    exact ⟨c, OldOk.refl _, by rw [List.take_of_length_le (Nat.le_refl _)]; exact q⟩)
/-- .. that lays -/
theorem seal_new {E : Ex → Sto → Prop} {F : List D → M D} {args : List D} (h : wp (F args s) (fun d s1 => ∃ g d', s1 = s ++ g ∧ frz 4 s.length s1 d = some d' ∧ Q d' s) (fun x s1 => ∃ g, s1 = s ++ g ∧ (∀ p, x.arg = some p → closed s.length p.2 = true) ∧ E x s)) : wp (sealF F args s) Q E :=
  wp_seal (h.monoX (fun d s1 ⟨g, d', e, c, q⟩ => by
    subst e
    exact ⟨d', c, OldOk.app _ _, by rw [List.take_left]; exact q⟩) fun x s1 ⟨g, e, c, q⟩ => by
    subst e
    exact ⟨c, OldOk.app _ _, by rw [List.take_left]; exact q⟩)
theorem frz_lst {k j : Nat} (h : s[n]? = some (.lst l)) (hn : ¬ n < k) (hc : closedL k l = true) : frz (j + 1) k s (.loc n) = some (.lst l) := by
  unfold frz
  have hn' : ¬ closed k (.loc n) = true := by simpa using hn
  rw [if_neg hn']
  simp only [h]
  have : l.mapM (frz j k s) = some l := by
    clear h
    induction l with
    | nil => rfl
    | cons d r ih =>
      simp only [closedL_cons, Bool.and_eq_true] at hc
      rw [List.mapM_cons, frz_closed hc.1, ih hc.2]
      rfl
  rw [this]
  rfl
end
end QS
end

section
set_option Elab.async false
set_option linter.all false
set_option maxRecDepth 100000
set_option maxHeartbeats 4000000
/-! QS14: equality of data, the hand of cells. -/
namespace QS
open PySem PySem.Spec PyProof.Rows L2
theorem divOk_small {i j : Int} (h : 0 < j) (h2 : j < 2 ^ 64) : DivOk i j := by
  refine ⟨h, ?_⟩
  have h3 : j.natAbs < 2 ^ 64 := by omega
  by_cases z : j.natAbs = 0
  · rw [z]; decide
  · have := (Nat.log2_lt z).mpr h3
    omega
theorem divOk_of {i j : Int} (h : 0 < j) (h2 : j < 2 ^ 8000) : DivOk i j := by
  refine ⟨h, ?_⟩
  have h3 : j.natAbs < 2 ^ 8000 := by omega
  by_cases z : j.natAbs = 0
  · rw [z]; decide
  · have := (Nat.log2_lt z).mpr h3
    omega
theorem mulOk_l {i j : Int} (h : -(2 ^ 64) < i) (h2 : i < 2 ^ 64) : MulOk i j := .inl (.inl ⟨h, h2⟩)
theorem mulOk_r {i j : Int} (h : -(2 ^ 64) < j) (h2 : j < 2 ^ 64) : MulOk i j := .inl (.inr ⟨h, h2⟩)
theorem mulOk_of {i j : Int} {a b : Nat} (h : i.natAbs < 2 ^ a) (h2 : j.natAbs < 2 ^ b) (h3 : a + b < 900000) : MulOk i j := by
  refine .inr ?_
  have key : ∀ (x : Int) (a : Nat), x.natAbs < 2 ^ a → x.natAbs.log2 ≤ a := fun x a hx => by
    by_cases z : x.natAbs = 0
    · rw [z]; simp [Nat.log2_zero]
    · exact Nat.le_of_lt ((Nat.log2_lt z).mpr hx)
  have h4 := key i a h
  have h5 := key j b h2
  show i.natAbs.log2 + j.natAbs.log2 < 1000000
  omega
theorem powOk {i j : Int} (h : 0 ≤ j) (h2 : j ≤ 1000000) (h3 : i.natAbs < 2 ^ 64) : PowOk i j := ⟨h, h2, h3⟩
/-! ### equality -/
section
variable {s : Sto} {Q : D → Sto → Prop} {i j : Int} {a b : Str} {x y : D}
theorem shaped_int : SeqAt.shaped (.int i) = true := by simp [SeqAt.shaped, PyData.canLay0, PyData.depth]
@[simp] theorem wpv_eqI : wpv (gEq (.int i) (.int j) s) Q = Q (.bl (decide (i = j))) s := by
  have e : gEq (.int i) (.int j) s = some (.bl (decide (i = j)), s) := by
    simp only [gEq, gEqF, datOf, dat0, shaped_int, and_self, if_true, id, PyData.eqv]
    rfl
  rw [e, wpv_some]
@[simp] theorem wpv_neI : wpv (gNe (.int i) (.int j) s) Q = Q (.bl (!decide (i = j))) s := by
  have e : gNe (.int i) (.int j) s = some (.bl (!decide (i = j)), s) := by
    simp only [gNe, gEqF, datOf, dat0, shaped_int, and_self, if_true, PyData.eqv]
    rfl
  rw [e, wpv_some]
/-- a family of data that are equal just when they are the same -/
structure Fam (α : Type) [DecidableEq α] where
  c : α → D
  p : α → PyData
  k : Nat
  hd : ∀ x, dat0 (c x) = some (p x)
  he : ∀ x y, PyData.eqv (p x) (p y) = decide (x = y)
  hc : ∀ x, PyData.canLay0 (p x) = true
  hk : ∀ x, PyData.depth (p x) ≤ k
  cl : ∀ n x, closed n (c x) = true
theorem dat0_ne {d : D} {x : PyData} (h : dat0 d = some x) (s : Sto) : datOf s d = some x := by
  cases d with
  | loc n => simp [dat0] at h
  | _ => exact h
theorem Fam.eq {α : Type} [DecidableEq α] (F : Fam α) (hk : F.k ≤ 64) (x y : α) : gEq (F.c x) (F.c y) s = some (.bl (decide (x = y)), s) := by
  have sh : ∀ z, SeqAt.shaped (F.p z) = true := fun z => by
    have := F.hk z
    simp only [SeqAt.shaped, F.hc z, Bool.true_and, decide_eq_true_eq]
    omega
  simp only [gEq, gEqF, dat0_ne (F.hd x) s, dat0_ne (F.hd y) s, sh, and_self, if_true, id, F.he]
theorem Fam.ne {α : Type} [DecidableEq α] (F : Fam α) (hk : F.k ≤ 64) (x y : α) : gNe (F.c x) (F.c y) s = some (.bl (!decide (x = y)), s) := by
  have sh : ∀ z, SeqAt.shaped (F.p z) = true := fun z => by
    have := F.hk z
    simp only [SeqAt.shaped, F.hc z, Bool.true_and, decide_eq_true_eq]
    omega
  simp only [gNe, gEqF, dat0_ne (F.hd x) s, dat0_ne (F.hd y) s, sh, and_self, if_true, F.he]
end
theorem dat0L_map {α : Type} {c : α → D} {p : α → PyData} (h : ∀ x, dat0 (c x) = some (p x)) : ∀ l : List α, dat0L (l.map c) = some (l.map p)
  | [] => by simp [dat0L]
  | x :: r => by simp [dat0L, h x, dat0L_map h r]
theorem eqvAll_map {α : Type} [DecidableEq α] {p : α → PyData} (h : ∀ x y, PyData.eqv (p x) (p y) = decide (x = y)) : ∀ l r : List α, PyData.eqvAll (l.map p) (r.map p) = decide (l = r)
  | [], [] => by simp [PyData.eqvAll]
  | [], _ :: _ => by simp [PyData.eqvAll]
  | _ :: _, [] => by simp [PyData.eqvAll]
  | x :: l, y :: r => by simp [PyData.eqvAll, h x y, eqvAll_map h l r, Bool.decide_and]
theorem canLayAll_map {α : Type} {p : α → PyData} (h : ∀ x, PyData.canLay0 (p x) = true) : ∀ l : List α, PyData.canLayAll0 (l.map p) = true
  | [] => by simp [PyData.canLayAll0]
  | x :: r => by simp [PyData.canLayAll0, h x, canLayAll_map h r]
theorem depthAll_map {α : Type} {p : α → PyData} {k : Nat} (h : ∀ x, PyData.depth (p x) ≤ k) : ∀ l : List α, PyData.depthAll (l.map p) ≤ k
  | [] => by simp [PyData.depthAll]
  | x :: r => by
    have h1 := h x
    have h2 := depthAll_map h r
    simp only [List.map_cons, PyData.depthAll]
    omega
def famInt : Fam Int := ⟨D.int, PyData.int, 1, fun _ => rfl, fun x y => by simp only [PyData.eqv]; rfl, fun _ => rfl, fun _ => by simp [PyData.depth], fun _ _ => by simp⟩
def famTup {α : Type} [DecidableEq α] (F : Fam α) : Fam (List α) := ⟨fun l => .tup (l.map F.c), fun l => .tuple (l.map F.p), F.k + 1, fun l => by simp [dat0, dat0L_map F.hd l], fun x y => by simp only [PyData.eqv]; exact eqvAll_map F.he x y, fun l => by simp only [PyData.canLay0]; exact canLayAll_map F.hc l,
  fun l => by have := depthAll_map F.hk l; simp only [PyData.depth]; omega, fun n l => by simp only [closed_tup]; exact closedL_all.mpr fun d hd => by obtain ⟨x, _, rfl⟩ := List.mem_map.mp hd; exact F.cl n x⟩
def famLst {α : Type} [DecidableEq α] (F : Fam α) : Fam (List α) := ⟨fun l => .lst (l.map F.c), fun l => .list (l.map F.p), F.k + 1, fun l => by simp [dat0, dat0L_map F.hd l], fun x y => by simp only [PyData.eqv]; exact eqvAll_map F.he x y, fun l => by simp only [PyData.canLay0]; exact canLayAll_map F.hc l,
  fun l => by have := depthAll_map F.hk l; simp only [PyData.depth]; omega, fun n l => by simp only [closed_lst]; exact closedL_all.mpr fun d hd => by obtain ⟨x, _, rfl⟩ := List.mem_map.mp hd; exact F.cl n x⟩
def famPair {α β : Type} [DecidableEq α] [DecidableEq β] (F : Fam α) (G : Fam β) : Fam (α × β) := ⟨fun x => .tup [F.c x.1, G.c x.2], fun x => .tuple [F.p x.1, G.p x.2], max F.k G.k + 1, fun x => by simp [dat0, dat0L, F.hd, G.hd],
  fun x y => by simp only [PyData.eqv, PyData.eqvAll, F.he, G.he, Bool.and_true]; rw [← Bool.decide_and]; simp [Prod.ext_iff], fun x => by simp [PyData.canLay0, PyData.canLayAll0, F.hc, G.hc],
  fun x => by have h1 := F.hk x.1; have h2 := G.hk x.2; simp only [PyData.depth, PyData.depthAll]; omega, fun n x => by simp [F.cl, G.cl]⟩
/-- a pair of numbers -/
def pD (p : Int × Int) : D := .tup [.int p.1, .int p.2]
def famP : Fam (Int × Int) := famPair famInt famInt
@[simp] theorem famP_c : famP.c = pD := rfl
@[simp] theorem closed_pD {n : Nat} {p : Int × Int} : closed n (pD p) = true := famP.cl n p
@[simp] theorem closedL_pD {n : Nat} {l : List (Int × Int)} : closedL n (l.map pD) = true := by
  have := (famTup famP).cl n l
  simpa [famTup] using this
section
variable {s : Sto} {Q : D → Sto → Prop}
theorem wpv_eqTI {a b : List Int} : wpv (gEq (.tup (a.map .int)) (.tup (b.map .int)) s) Q = Q (.bl (decide (a = b))) s := by
  have := (famTup famInt).eq (s := s) (by decide) a b
  rw [show gEq (.tup (a.map .int)) (.tup (b.map .int)) s = _ from this, wpv_some]
theorem wpv_neTI {a b : List Int} : wpv (gNe (.tup (a.map .int)) (.tup (b.map .int)) s) Q = Q (.bl (!decide (a = b))) s := by
  have := (famTup famInt).ne (s := s) (by decide) a b
  rw [show gNe (.tup (a.map .int)) (.tup (b.map .int)) s = _ from this, wpv_some]
end
/-! ### the hand -/
def WH (o : O) : Prop := ∃ (cells : List Int) (p b m c : Int), o = .lst [.lst (cells.map D.int), .int p, .int b, .int m, .int c] ∧ 0 ≤ p
def HandAt (n : Nat) (s : Sto) : Prop := ∃ o, s[n]? = some o ∧ WH o
structure Hs (n : Nat) (s s' : Sto) : Prop where
  len : s'.length = s.length
  same : ∀ j, j ≠ n → s'[j]? = s[j]?
  hand : HandAt n s'
theorem HandAt.lt {n : Nat} {s : Sto} (h : HandAt n s) : n < s.length := by
  obtain ⟨o, h, _⟩ := h
  exact (List.getElem?_eq_some_iff.mp h).1
theorem Hs.refl {n : Nat} {s : Sto} (h : HandAt n s) : Hs n s s := ⟨rfl, fun _ _ => rfl, h⟩
theorem Hs.trans {n : Nat} {s s1 s2 : Sto} (h : Hs n s s1) (g : Hs n s1 s2) : Hs n s s2 := ⟨g.len.trans h.len, fun j hj => (g.same j hj).trans (h.same j hj), g.hand⟩
theorem WH.closed {o : O} (h : WH o) (k : Nat) : o.closed k = true := by
  obtain ⟨cells, p, b, m, c, rfl, _⟩ := h
  simp [O.closed]
/-- with more behind it -/
structure Hx (n : Nat) (s s' : Sto) : Prop where
  len : s.length ≤ s'.length
  same : ∀ j, j < s.length → j ≠ n → s'[j]? = s[j]?
  hand : HandAt n s'
theorem Hs.x {n : Nat} {s s' : Sto} (h : Hs n s s') : Hx n s s' := ⟨Nat.le_of_eq h.len.symm, fun j _ hj => h.same j hj, h.hand⟩
theorem Hx.trans {n : Nat} {s s1 s2 : Sto} (h : Hx n s s1) (g : Hx n s1 s2) : Hx n s s2 := ⟨Nat.le_trans h.len g.len, fun j hj hn => (g.same j (Nat.lt_of_lt_of_le hj h.len) hn).trans (h.same j hj hn), g.hand⟩
theorem Hx.app {n : Nat} {s : Sto} (h : HandAt n s) (g : Sto) : Hx n s (s ++ g) := ⟨by simp, fun j hj _ => List.getElem?_append_left hj, by
  obtain ⟨o, h1, h2⟩ := h
  exact ⟨o, by rw [List.getElem?_append_left (HandAt.lt ⟨o, h1, h2⟩)]; exact h1, h2⟩⟩
/-- a place behind s is written -/
theorem Hx.write {n : Nat} {s s1 : Sto} (h : Hx n s s1) (hn : n < s.length) {j : Nat} {o : O} (hj : s.length ≤ j) : Hx n s (s1.set j o) := ⟨by simpa using h.len, fun i hi hin => by
  rw [List.getElem?_set_ne (by omega)]
  exact h.same i hi hin, by
  obtain ⟨o', h1, h2⟩ := h.hand
  exact ⟨o', by rw [List.getElem?_set_ne (by omega)]; exact h1, h2⟩⟩
theorem Hx.old {n : Nat} {s s' : Sto} (h : Hx n s s') : OldOk s s' := ⟨h.len, fun i hi => by
  by_cases e : i = n
  · obtain ⟨o, h1, h2⟩ := h.hand
    exact .inr ⟨o, by rw [e]; exact h1, h2.closed _⟩
  · exact .inl (h.same i hi e)⟩
theorem Hx.take {n : Nat} {s s' : Sto} (h : Hx n s s') (hn : n < s.length) : Hs n s (s'.take s.length) := ⟨by rw [List.length_take]; have := h.len; omega, fun j hj => by
  by_cases c : j < s.length
  · rw [List.getElem?_take_of_lt c]; exact h.same j c hj
  · rw [List.getElem?_eq_none (by rw [List.length_take]; omega), List.getElem?_eq_none (by omega)], by
  obtain ⟨o, h1, h2⟩ := h.hand
  exact ⟨o, by rw [List.getElem?_take_of_lt hn]; exact h1, h2⟩⟩
/-- a def that draws, sealed -/
theorem seal_hand {n : Nat} {s : Sto} {E : Ex → Sto → Prop} {F : List D → M D} {args : List D} {Q : D → Sto → Prop} (hn : n < s.length) (h : wp (F args s) (fun d s1 => Hx n s s1 ∧ ∃ d', frz 4 s.length s1 d = some d' ∧ ∀ s2, Hs n s s2 → Q d' s2) (fun x s1 => Hx n s s1 ∧ (∀ p, x.arg = some p → closed s.length p.2 = true) ∧ ∀ s2, Hs n s s2 → E x s2)) : wp (sealF F args s) Q E :=
  wp_seal (h.monoX (fun d s1 ⟨x, d', e, q⟩ => ⟨d', e, x.old, q _ (x.take hn)⟩) fun x s1 ⟨h, c, q⟩ => ⟨c, h.old, q _ (h.take hn)⟩)
end QS
end

section
set_option Elab.async false
set_option linter.all false
set_option maxRecDepth 100000
set_option maxHeartbeats 4000000
/-! QS15: sum of a tuple. -/
namespace QS
open PySem PySem.Spec PyProof.Rows L2
section
variable {prog : Program} {w : World} {A : Around} {E : Value → Shared → Prop} {s : Shared}
theorem sum_tupG {l : Addr} {vs : List Value} {ns : List Int} {Q : Value → Shared → Prop} (hh : A.handled = none) (hl : s.heap.IsTuple l vs.toArray) (hi : IntsAre vs ns)
    (h : ∀ h' tk t', (∀ b o, s.heap.get? b = some o → h'.get? b = some o) → Q (.int ns.sum t') { s with heap := h', toks := tk }) :
    wpAny (model prog w) A (call (.builtin "sum") [.ref l]) Q E s := by
  obtain ⟨xs, e⟩ := hi.allInts.items
  have hs : preSum (numAt xs) xs.size = ns.sum := by
    have h1 := hi.numsOf
    have h2 : numsOf (intItems xs).toList = ns := by rw [← e]; exact h1
    rw [nums_intItems] at h2
    rw [preSum_eq, List.take_of_length_le (by simp), h2]
  have hlt : l < s.heap.objs.size := by obtain ⟨_, q, _⟩ := hl; exact Heap.lt_size q
  rw [e] at hl
  refine call_sum_walkG (wpAny_pyIter_tuple hl ?_)
  refine ⟨_, _, _, _, _, _, numAt xs, rfl, Walks.tuple (A := A.in1) hh s.heap.objs.size l (Nat.ne_of_lt hlt) (intItems xs), ⟨⟨_, Heap.get?_push_size _ rfl, rfl, rfl⟩, hl.push _⟩, fun b hb => ?_, (fun _ _ => intItems_at), fun h' tk t' hk => ?_⟩
  · show b < (s.heap.push _).objs.size
    rw [Heap.size_push]
    rcases List.mem_cons.mp hb with rfl | hb
    · exact Nat.lt_succ_self _
    · rcases List.mem_cons.mp hb with rfl | hb
      · exact Nat.lt_succ_of_lt hlt
      · cases hb
  · have := h h' tk t' (fun b o e => by
      refine hk b o (fun hm => ?_) (Heap.get?_push_of_some _ e)
      rcases List.mem_cons.mp hm with e1 | hm
      · exact absurd (e1 ▸ Heap.lt_size e) (Nat.lt_irrefl _)
      · cases hm)
    have sz : (intItems xs).size = xs.size := by simp [intItems]
    rw [sz, hs]
    exact this
end
section
variable {zz : List Addr} {X : Cx}
def gSumT : List D → V1 D := g1 fun s x => match x with
  | .tup l => (intsOf l).map fun ns => .int ns.sum
  | _ => none
theorem c_sumT (hc : X.calm = true := by rfl) : CallR X (.builtin "sum") (rL (X.K, zz) gSumT) := by
  intro pins s σ H xs us Q I r h
  obtain ⟨m, d, e, st, v, rfl, S, hd, he, q⟩ := g1_at h
  cases hd with
  | @tup a ds vs h1 q1 =>
    obtain ⟨ns, h2, h3⟩ := Option.map_eq_some_iff.mp he
    have ev := ints_rep q1 h2
    subst ev; subst h3
    obtain ⟨its, rv, hl, _⟩ := I.tuple h1
    rw [Vals.ref1 r]
    exact sum_tupG (I.ok.hd hc) (show s.heap.IsTuple a its.toArray from hl) rv.ints fun h' tk t' hk => ⟨.int _, H, I.kept hk, ⟨_, rfl⟩, q _ (.int _)⟩
  | _ => cases he
def gSumA : List D → V1 D := orVL gSum gSumT
theorem c_sumA (hc : X.calm = true := by rfl) : CallR X (.builtin "sum") (rL (X.K, zz) gSumA) := CallR.orV (c_sum hc) (c_sumT hc)
end
@[simp] theorem wpv_sumAL {ns : List Int} {s : Sto} {Q : D → Sto → Prop} : wpv (gSumA [.lst (ns.map D.int)] s) Q = Q (.int ns.sum) s := by
  have e : gSumA [.lst (ns.map D.int)] s = some (.int ns.sum, s) := by simp [gSumA, orVL, gSum, g1, lstOf]
  rw [e, wpv_some]
@[simp] theorem wpv_sumAT {ns : List Int} {s : Sto} {Q : D → Sto → Prop} : wpv (gSumA [.tup (ns.map D.int)] s) Q = Q (.int ns.sum) s := by
  have e : gSumA [.tup (ns.map D.int)] s = some (.int ns.sum, s) := by simp [gSumA, orVL, gSum, g1, lstOf, gSumT]
  rw [e, wpv_some]
end QS
end

section
set_option Elab.async false
set_option linter.all false
set_option maxRecDepth 100000
set_option maxHeartbeats 4000000
/-! QS16: what a loop goes over: a list, a tuple or a string. -/
namespace QS
open PySem PySem.Spec PyProof.Rows L2
def orI {α : Type} (f g : α → V1 Items) : α → V1 Items := fun x s => match f x s with
  | some p => some p
  | none => g x s
theorem iS_or {K : KZ} {W : WX} {α : Type} {f g : α → V1 Items} {de : En → M α} {σ : St} {H : Hp} {R : It → Hp → Prop} (h : iS K W (iOf (orI f g) de) σ H R) : iS K W (iOf f de) σ H R ∨ iS K W (iOf g de) σ H R := by
  obtain ⟨m, ρ, s, hE, hS, hG⟩ := h
  have key : (iOf (orI f g) de) ρ s = (iOf f de) ρ s ∨ (iOf (orI f g) de) ρ s = (iOf g de) ρ s := by
    unfold iOf
    show bnd (de ρ) _ s = bnd (de ρ) _ s ∨ bnd (de ρ) _ s = bnd (de ρ) _ s
    unfold bnd
    cases e : de ρ s with
    | stuck => exact .inl rfl
    | exn x s1 => exact .inl rfl
    | ok a s1 =>
      show lift _ s1 = lift _ s1 ∨ lift _ s1 = lift _ s1
      unfold lift orI
      cases e2 : f a s1 with
      | some p => exact .inl rfl
      | none => exact .inr rfl
  rcases key with k | k
  · rw [k] at hG; exact .inl ⟨m, ρ, s, hE, hS, hG⟩
  · rw [k] at hG; exact .inr ⟨m, ρ, s, hE, hS, hG⟩
theorem PI.or {X : Cx} {tg e : Expr} {t1 t2 t : TI} (h1 : PI X tg e t1) (h2 : PI X tg e t2) (i : ∀ σ H R, t σ H R → t1 σ H R ∨ t2 σ H R) : PI X tg e t := ⟨fun pins s σ H R I q => (i σ H R q).elim (fun q => h1.run pins s σ H R I q) (fun q => h2.run pins s σ H R I q)⟩
def itEach : D → V1 Items := orI itSeq (orI itTup itStr)
section
variable {X : Cx} {tg e : Expr} {zz : List Addr} {W : WX} {de : EM}
theorem si_each (he : PE X e (tE (X.K, zz) W de)) : PI X tg e (iS (X.K, zz) W (iOf itEach de)) := by
  unfold itEach
  exact
  PI.or (si_seq he) (PI.or (si_tup he) (si_str he) fun σ H R h => iS_or h) fun σ H R h => iS_or h
end
section
variable {l : List D} {s : Sto} {QI : Items → Sto → Prop}
@[simp] theorem wpv_itEachT : wpv (itEach (.tup l) s) QI = QI ⟨l, none⟩ s := wpv_some
@[simp] theorem wpv_itEachL : wpv (itEach (.lst l) s) QI = QI ⟨l, none⟩ s := wpv_some
@[simp] theorem wpv_itEachS : wpv (itEach (.scr l) s) QI = QI ⟨l, none⟩ s := wpv_some
@[simp] theorem wpv_itEachStr {z : Str} : wpv (itEach (.str z) s) QI = QI ⟨signs z, none⟩ s := by
  have e : itEach (.str z) s = some (⟨signs z, none⟩, s) := rfl
  rw [e, wpv_some]
@[simp] theorem wpv_itEachLoc {n : Nat} : wpv (itEach (.loc n) s) QI = atO s[n]? (fun l => QI ⟨l, some n⟩ s) (fun _ _ => False) (fun _ _ _ => False) := by
  cases h : s[n]? with
  | none => simp [itEach, orI, itSeq, itTup, itStr, h]
  | some o => cases o <;> simp [itEach, orI, itSeq, itTup, itStr, h]
end
end QS
end

section
set_option Elab.async false
set_option linter.all false
set_option maxRecDepth 100000
set_option maxHeartbeats 4000000
/-! QS17: tuple(range(n)), list(range(n)). -/
namespace QS
open PySem PySem.Spec PyProof.Rows L2
def gTupRg : D → V1 D := fun x s => match x with
  | .int j => if -(2 ^ 62) ≤ j ∧ j < 2 ^ 62 ∧ j.toNat ≤ 2 ^ 24 then some (.tup (rngD 0 j.toNat), s) else none
  | _ => none
def gLstRg (mu : Bool) : D → V1 D := fun x s => match x with
  | .int j => if -(2 ^ 62) ≤ j ∧ j < 2 ^ 62 ∧ j.toNat ≤ 2 ^ 24 then new mu (rngD 0 j.toNat) s else none
  | _ => none
theorem rep_rng {K : KZ} {m : List Addr} {H : Hp} (j : Int) : RepL K m H (rngD 0 j.toNat) (rgV 0 j) := by
  have h := rep_ints (K := K) (m := m) (H := H) ((List.range j.toNat).map fun i : Nat => (0 : Int) + (i : Nat))
  have e1 : ((List.range j.toNat).map fun i : Nat => (0 : Int) + (i : Nat)).map D.int = rngD 0 j.toNat := by simp [rngD]
  have e2 : ((List.range j.toNat).map fun i : Nat => (0 : Int) + (i : Nat)).map V.int = rgV 0 j := by simp [rgV]
  rwa [e1, e2] at h
section
variable {X : Cx} {e : Expr} {zz : List Addr} {W : WX} {de : EM} {p p2 pos pos2 : Pos}
theorem se_tupRg (hm : X.mg "tuple" = none) (hm2 : X.mg "range" = none) (he : PE X e (tE (X.K, zz) W de)) (hc : X.calm = true := by rfl) (hg : Gl X "tuple" := by rfl) (hg2 : Gl X "range" := by rfl) (na : starEach [e] X.env = (false, eval e X.env) :: starEach [] X.env := by rfl) (na2 : starEach [.Call (.Name "range" p2) [e] [] pos2] X.env = (false, eval (.Call (.Name "range" p2) [e] [] pos2) X.env) :: starEach [] X.env := by rfl) :
    PE X (.Call (.Name "tuple" p) [.Call (.Name "range" p2) [e] [] pos2] [] pos) (tE (X.K, zz) W (eU gTupRg de)) :=
  PE.imp (pe_tupRg hc hg hm (prg_1 hg2 hm2 he na) na2) fun σ H Q h => (into1 h).mono fun x H1 ⟨m1, d, s1, S1, q1, hG⟩ => by
    cases q1 with
    | int j =>
      have hG : GoodV (X.K, zz) m1 H1 Q (if -(2 ^ 62) ≤ j ∧ j < 2 ^ 62 ∧ j.toNat ≤ 2 ^ 24 then some (.tup (rngD 0 j.toNat), s1) else none) := hG
      by_cases c : -(2 ^ 62) ≤ j ∧ j < 2 ^ 62 ∧ j.toNat ≤ 2 ^ 24
      · rw [if_pos c] at hG
        exact ⟨j, rfl, ⟨by decide, by decide, c.1, c.2.1, by simpa using c.2.2⟩, fun q hq => newT_ok S1 (rep_rng j) hG q hq⟩
      · rw [if_neg c] at hG; exact hG.elim
    | _ => exact hG.elim
theorem se_lstRg {mu : Bool} (hm : X.mg "list" = none) (hm2 : X.mg "range" = none) (he : PE X e (tE (X.K, zz) W de)) (hc : X.calm = true := by rfl) (hg : Gl X "list" := by rfl) (hg2 : Gl X "range" := by rfl) (na : starEach [e] X.env = (false, eval e X.env) :: starEach [] X.env := by rfl) (na2 : starEach [.Call (.Name "range" p2) [e] [] pos2] X.env = (false, eval (.Call (.Name "range" p2) [e] [] pos2) X.env) :: starEach [] X.env := by rfl) :
    PE X (.Call (.Name "list" p) [.Call (.Name "range" p2) [e] [] pos2] [] pos) (tE (X.K, zz) W (eU (gLstRg mu) de)) :=
  PE.imp (pe_listRg hc hg hm (prg_1 hg2 hm2 he na) na2) fun σ H Q h => (into1 h).mono fun x H1 ⟨m1, d, s1, S1, q1, hG⟩ => by
    cases q1 with
    | int j =>
      have hG : GoodV (X.K, zz) m1 H1 Q (if -(2 ^ 62) ≤ j ∧ j < 2 ^ 62 ∧ j.toNat ≤ 2 ^ 24 then new mu (rngD 0 j.toNat) s1 else none) := hG
      by_cases c : -(2 ^ 62) ≤ j ∧ j < 2 ^ 62 ∧ j.toNat ≤ 2 ^ 24
      · rw [if_pos c] at hG
        exact ⟨j, rfl, ⟨by decide, by decide, c.1, c.2.1, by simpa using c.2.2⟩, fun q hq => new_ok S1 (rep_rng j) hG q hq⟩
      · rw [if_neg c] at hG; exact hG.elim
    | _ => exact hG.elim
end
section
variable {i : Int} {s : Sto} {Q : D → Sto → Prop}
@[simp] theorem wpv_tupRg : wpv (gTupRg (.int i) s) Q = ((-(2 ^ 62) ≤ i ∧ i < 2 ^ 62 ∧ i.toNat ≤ 2 ^ 24) ∧ Q (.tup (rngD 0 i.toNat)) s) := by simp only [gTupRg, wpv_if, wpv_some]
@[simp] theorem wpv_lstRg {mu : Bool} : wpv (gLstRg mu (.int i) s) Q = ((-(2 ^ 62) ≤ i ∧ i < 2 ^ 62 ∧ i.toNat ≤ 2 ^ 24) ∧ wpv (new mu (rngD 0 i.toNat) s) Q) := by simp only [gLstRg, wpv_if]
end
end QS
end

section
set_option Elab.async false
set_option linter.all false
set_option maxRecDepth 100000
set_option maxHeartbeats 4000000
/-! QS18: repr of None, of a flag and of a whole number. -/
namespace QS
open PySem PySem.Spec PyProof.Rows L2
def gRepr : List D → V1 D := g1 fun s x => match x with
  | .non => some (.str "None")
  | .bl b => some (.str (if b then "True" else "False"))
  | .int i => if i.natAbs.log2 < 1920 then some (.str (toString i)) else none
  | _ => none
section
variable {X : Cx} {zz : List Addr}
theorem c_repr : CallR X (.builtin "repr") (rL (X.K, zz) gRepr) := by
  intro pins s σ H xs us Q I r h
  obtain ⟨m, d, e, st, v, rfl, S, hd, he, q⟩ := g1_at h
  obtain ⟨u, rfl, ru⟩ := vals1 r
  cases hd with
  | non =>
    cases he
    obtain rfl : u = .none := ru
    exact PySem.P.repr_of_none ⟨.str _, H, I.tok _, ⟨_, rfl⟩, q _ (.str _)⟩
  | bl b =>
    cases he
    obtain rfl : u = .bool b := ru
    exact PySem.P.repr_of_bool ⟨.str _, H, I.tok _, ⟨_, rfl⟩, q _ (.str _)⟩
  | int i =>
    have he : (if i.natAbs.log2 < 1920 then some (D.str (toString i)) else none) = some e := he
    by_cases c : i.natAbs.log2 < 1920
    · rw [if_pos c] at he
      cases he
      obtain ⟨t, rfl⟩ := ru
      exact PySem.P.repr_of_int c ⟨.str _, H, I.tok _, ⟨_, rfl⟩, q _ (.str _)⟩
    · rw [if_neg c] at he; cases he
  | _ => cases he
end
end QS
end

section
set_option Elab.async false
set_option linter.all false
set_option maxRecDepth 100000
set_option maxHeartbeats 4000000
/-! QS19: in, not in over whole numbers. -/
namespace QS
open PySem PySem.Spec PyProof.Rows L2
def gInB (neg : Bool) : D → D → V1 D := fun x y s => match x with
  | .int i => (seqOf s y).bind fun l => (intsOf l).bind fun ns => some (.bl (if neg then !decide (i ∈ ns) else decide (i ∈ ns)), s)
  | _ => none
theorem inV_ints (i : Int) (ns : List Int) : inV (.int i) (ns.map V.int) = decide (i ∈ ns) := by
  unfold inV
  induction ns with
  | nil => rfl
  | cons n ns ih =>
    rw [List.map_cons, List.any_cons, ih]
    by_cases c : n = i
    · simp [eqV, c]
    · have c' : ¬i = n := fun e => c e.symm
      simp [eqV, c, c']
theorem flat_ints (ns : List Int) : (ns.map V.int).all flatV = true := by simp [flatV]
section
variable {X : Cx} {zz : List Addr}
theorem o_in : OpR X (compareOp .In) (r2 (X.K, zz) (gInB false)) := fun pins s σ H x y v u Q I rx ry h => by
  obtain ⟨m, d, e, st, S, hd, he, hG⟩ := h
  cases hd with
  | int i =>
    have hG : GoodV (X.K, zz) m H Q ((seqOf st e).bind fun l => (intsOf l).bind fun ns => some (.bl (if false then !decide (i ∈ ns) else decide (i ∈ ns)), st)) := hG
    cases h1 : seqOf st e with
    | none => rw [h1] at hG; exact hG.elim
    | some l =>
      rw [h1] at hG
      cases h2 : intsOf l with
      | none =>
        have hG : GoodV (X.K, zz) m H Q ((intsOf l).bind fun ns => some (.bl (if false then !decide (i ∈ ns) else decide (i ∈ ns)), st)) := hG
        rw [h2] at hG; exact hG.elim
      | some ns =>
        have hG : GoodV (X.K, zz) m H Q ((intsOf l).bind fun ns => some (.bl (if false then !decide (i ∈ ns) else decide (i ∈ ns)), st)) := hG
        rw [h2] at hG
        obtain ⟨a, vs, rfl, e1, q1⟩ := seqOf_at S he h1
        have ev := ints_rep q1 h2
        subst ev
        exact op_in_seq pins s σ H _ _ v u Q I rx ry ⟨a, _, rfl, e1, rfl, flat_ints ns, by rw [inV_ints]; exact GoodV.here S hG (.bl _)⟩
  | _ => exact hG.elim
theorem o_notin : OpR X (compareOp .NotIn) (r2 (X.K, zz) (gInB true)) := fun pins s σ H x y v u Q I rx ry h => by
  obtain ⟨m, d, e, st, S, hd, he, hG⟩ := h
  cases hd with
  | int i =>
    have hG : GoodV (X.K, zz) m H Q ((seqOf st e).bind fun l => (intsOf l).bind fun ns => some (.bl (if true then !decide (i ∈ ns) else decide (i ∈ ns)), st)) := hG
    cases h1 : seqOf st e with
    | none => rw [h1] at hG; exact hG.elim
    | some l =>
      rw [h1] at hG
      cases h2 : intsOf l with
      | none =>
        have hG : GoodV (X.K, zz) m H Q ((intsOf l).bind fun ns => some (.bl (if true then !decide (i ∈ ns) else decide (i ∈ ns)), st)) := hG
        rw [h2] at hG; exact hG.elim
      | some ns =>
        have hG : GoodV (X.K, zz) m H Q ((intsOf l).bind fun ns => some (.bl (if true then !decide (i ∈ ns) else decide (i ∈ ns)), st)) := hG
        rw [h2] at hG
        obtain ⟨a, vs, rfl, e1, q1⟩ := seqOf_at S he h1
        have ev := ints_rep q1 h2
        subst ev
        exact op_notIn_seq pins s σ H _ _ v u Q I rx ry ⟨a, _, rfl, e1, rfl, flat_ints ns, by rw [inV_ints]; exact GoodV.here S hG (.bl _)⟩
  | _ => exact hG.elim
end
section
variable {l : List D} {s : Sto} {Q : D → Sto → Prop} {neg : Bool} {i : Int} {ns : List Int}
@[simp] theorem wpv_inL : wpv (gInB neg (.int i) (.lst (ns.map D.int)) s) Q = Q (.bl (if neg then !decide (i ∈ ns) else decide (i ∈ ns))) s := by
  simp [gInB, seqOf]
@[simp] theorem wpv_inT : wpv (gInB neg (.int i) (.tup (ns.map D.int)) s) Q = Q (.bl (if neg then !decide (i ∈ ns) else decide (i ∈ ns))) s := by
  simp [gInB, seqOf]
end
end QS
end

section
set_option Elab.async false
set_option linter.all false
set_option maxRecDepth 100000
set_option maxHeartbeats 1000000
/-! QS20: words for all laws. -/
namespace QS
open PySem PySem.Spec PyProof.Rows L2
theorem mok {i j : Int} (h : (-(2 ^ 64) < i ∧ i < 2 ^ 64) ∨ (-(2 ^ 64) < j ∧ j < 2 ^ 64)) : MulOk i j := .inl h
theorem emod_small {i j : Int} (h : 0 < j) (h2 : j < 2 ^ 64) : -(2 ^ 64) < i % j ∧ i % j < 2 ^ 64 := ⟨by have := Int.emod_nonneg i (show j ≠ 0 by omega); omega, by have := Int.emod_lt_of_pos i h; omega⟩
theorem lcL_map {γ : Type} {g : GM} {t : TM} {e : EM} {gd : Option Nat} {ρ : En} {s : Sto} {cv : γ → D} (f : γ → D) (xs : List γ) (h : ∀ x ∈ xs, ∃ ρ1, g (cv x) ρ = some ρ1 ∧ t ρ1 s = .ok true s ∧ e ρ1 s = .ok (f x) s) :
    lcL g t e gd s ρ (xs.map cv) s = .ok (xs.map f) s := by
  rw [lcL_pure (cv := cv) (fun _ => true) f xs (fun x hx => let ⟨a, b, c, d⟩ := h x hx; ⟨a, b, c, fun _ => d⟩)]
  congr 1
  congr 1
  exact List.filter_eq_self.mpr fun _ _ => rfl
theorem rngD_succ (lo : Int) (n : Nat) : rngD lo (n + 1) = .int lo :: rngD (lo + 1) n := by
  unfold rngD
  rw [List.range_succ_eq_map]
  simp
  intro a _
  omega
@[simp] theorem rngD_zero (lo : Int) : rngD lo 0 = [] := rfl
@[simp] theorem rngD_len (lo : Int) (n : Nat) : (rngD lo n).length = n := by simp [rngD]
theorem rngD0 (m : Nat) : rngD 0 m = (List.range m).map fun i : Nat => D.int (i : Int) := by
  unfold rngD
  congr 1
  funext i
  simp
theorem cut_from {α : Type} {xs : List α} {k : Nat} (h : k ≤ xs.length) : cut xs (some (k : Int)) none = xs.drop k := by
  unfold cut
  rw [HT.sIx_nat, HT.sIx_none, Nat.min_eq_left h, List.take_of_length_le (by simp)]
theorem cut_to {α : Type} {xs : List α} {k : Nat} : cut xs none (some (k : Int)) = xs.take k := by
  unfold cut
  rw [HT.sIx_nat, HT.sIx_none, Nat.sub_zero, List.drop_zero]
  by_cases c : k ≤ xs.length
  · rw [Nat.min_eq_left c]
  · rw [Nat.min_eq_right (by omega), List.take_of_length_le (Nat.le_refl _), List.take_of_length_le (by omega)]
theorem seqIx {i n : Nat} (h : i < n) : seqIndex? (i : Int) n = some i := by
  rw [seqIndex_of (by omega) (by omega)]; simp
theorem erase_map {α β : Type} (f : α → β) : ∀ (l : List α) (i : Nat), (l.map f).eraseIdx i = (l.eraseIdx i).map f
  | [], i => by simp
  | a :: t, 0 => by simp
  | a :: t, i + 1 => by simp [erase_map f t i]
theorem get_erase_perm {α : Type} : ∀ (l : List α) (i : Nat) (h : i < l.length), (l[i] :: l.eraseIdx i).Perm l
  | [], i, h => by simp at h
  | a :: t, 0, h => by simp
  | a :: t, i + 1, h => by
    have ih := get_erase_perm t i (by simpa using h)
    simp only [List.getElem_cons_succ, List.eraseIdx_cons_succ]
    exact (List.Perm.swap _ _ _).trans (ih.cons a)
theorem frz_ins_new {s : Sto} {c : Str} {fs : List Str} {l : List D} (h : closedL s.length l = true) : frz 4 s.length (s ++ [.ins c fs l]) (.loc s.length) = some (.ins c fs l) := by
  have hn' : ¬ closed s.length (.loc s.length) = true := by simp
  have hm : l.mapM (frz 3 s.length (s ++ [.ins c fs l])) = some l := by
    generalize s ++ [O.ins c fs l] = t
    induction l with
    | nil => rfl
    | cons d r ih =>
      simp only [closedL_cons, Bool.and_eq_true] at h
      rw [List.mapM_cons, frz_closed h.1, ih h.2]
      rfl
  unfold frz
  rw [if_neg hn']
  simp [hm]
theorem shaped_bl {b : Bool} : SeqAt.shaped (.bool b) = true := by simp [SeqAt.shaped, PyData.canLay0, PyData.depth]
@[simp] theorem wpv_eqB {a b : Bool} {s : Sto} {Q : D → Sto → Prop} : wpv (gEq (.bl a) (.bl b) s) Q = Q (.bl (decide (a = b))) s := by
  have e : gEq (.bl a) (.bl b) s = some (.bl (decide (a = b)), s) := by
    simp only [gEq, gEqF, datOf, dat0, shaped_bl, and_self, if_true, id, PyData.eqv]
    cases a <;> cases b <;> rfl
  rw [e, wpv_some]
@[simp] theorem wpv_neB {a b : Bool} {s : Sto} {Q : D → Sto → Prop} : wpv (gNe (.bl a) (.bl b) s) Q = Q (.bl (!decide (a = b))) s := by
  have e : gNe (.bl a) (.bl b) s = some (.bl (!decide (a = b)), s) := by
    simp only [gNe, gEqF, datOf, dat0, shaped_bl, and_self, if_true, PyData.eqv]
    cases a <;> cases b <;> rfl
  rw [e, wpv_some]
/-! whole numbers from 0 on -/
def natD (l : List Nat) : List D := l.map fun i : Nat => D.int (i : Int)
@[simp] theorem natD_len {l : List Nat} : (natD l).length = l.length := by simp [natD]
theorem natD_nil : natD [] = [] := rfl
theorem natD_cons {i : Nat} {l : List Nat} : natD (i :: l) = .int (i : Nat) :: natD l := rfl
theorem natD_app {l r : List Nat} : natD (l ++ r) = natD l ++ natD r := by simp [natD]
theorem natD_drop {l : List Nat} {k : Nat} : (natD l).drop k = natD (l.drop k) := by simp [natD]
theorem natD_ints {l : List Nat} : natD l = (l.map fun i : Nat => (i : Int)).map D.int := by simp [natD]
@[simp] theorem closedL_natD {n : Nat} {l : List Nat} : closedL n (natD l) = true := closedL_all.mpr fun d hd => by
  obtain ⟨i, _, rfl⟩ := List.mem_map.mp hd
  simp
theorem allT {α : Type} (l : List α) : (l.map fun _ => D.bl true) = (l.map fun _ => true).map D.bl := by simp [Function.comp_def]
theorem boolL {α : Type} (p : α → Bool) (l : List α) : (l.map fun x => D.bl (p x)) = (l.map p).map D.bl := by simp [Function.comp_def]
theorem intL {α : Type} (p : α → Int) (l : List α) : (l.map fun x => D.int (p x)) = (l.map p).map D.int := by simp [Function.comp_def]
/-- numbered -/
def numE (j : Nat) : List D → List D
  | [] => []
  | d :: r => .tup [.int (j : Nat), d] :: numE (j + 1) r
theorem numD_eq (l : List D) : numD l = numE 0 l := by
  have key : ∀ (l : List D) (j : Nat), l.mapIdx (fun i d => D.tup [.int ((i + j : Nat) : Int), d]) = numE j l := by
    intro l
    induction l with
    | nil => intro j; rfl
    | cons d r ih =>
      intro j
      rw [List.mapIdx_cons, numE, ← ih (j + 1)]
      congr 1
      · simp
      · congr 1
        funext i d
        rw [show i + 1 + j = i + (j + 1) by omega]
  have := key l 0
  simpa [numD] using this
/-- numbered: as a list of pairs -/
def enu {α : Type} (j : Nat) : List α → List (Nat × α)
  | [] => []
  | a :: r => (j, a) :: enu (j + 1) r
theorem numE_enu {α : Type} (f : α → D) : ∀ (l : List α) (j : Nat), numE j (l.map f) = (enu j l).map fun x => D.tup [.int (x.1 : Nat), f x.2]
  | [], j => rfl
  | a :: r, j => by simp only [List.map_cons, numE, enu, numE_enu f r (j + 1)]
theorem enu_mem {α : Type} : ∀ {l : List α} {j : Nat} {x : Nat × α}, x ∈ enu j l → j ≤ x.1 ∧ l[x.1 - j]? = some x.2
  | a :: r, j, x, h => by
    rcases List.mem_cons.mp h with rfl | h
    · simp
    · obtain ⟨h1, h2⟩ := enu_mem h
      refine ⟨by omega, ?_⟩
      rw [show x.1 - j = (x.1 - (j + 1)) + 1 by omega, List.getElem?_cons_succ]
      exact h2
@[simp] theorem enu_len {α : Type} : ∀ {l : List α} {j : Nat}, (enu j l).length = l.length
  | [], j => rfl
  | a :: r, j => by simp [enu, enu_len]
@[simp] theorem numD_len {l : List D} : (numD l).length = l.length := by simp [numD]
/-! None or a number -/
def optI : Option Int → D
  | none => .non
  | some i => .int i
@[simp] theorem isNon_optI {o : Option Int} : isNon (optI o) = o.isNone := by cases o <;> rfl
@[simp] theorem closed_optI {n : Nat} {o : Option Int} : closed n (optI o) = true := by cases o <;> simp [optI]
theorem shaped_non : SeqAt.shaped .none = true := by simp [SeqAt.shaped, PyData.canLay0, PyData.depth]
@[simp] theorem wpv_eqO {a b : Option Int} {s : Sto} {Q : D → Sto → Prop} : wpv (gEq (optI a) (optI b) s) Q = Q (.bl (decide (a = b))) s := by
  have e : gEq (optI a) (optI b) s = some (.bl (decide (a = b)), s) := by
    cases a <;> cases b <;> simp only [optI, gEq, gEqF, datOf, dat0, shaped_non, shaped_int, and_self, if_true, id, PyData.eqv]
    · rfl
    · rfl
    · rfl
    · simp only [Option.some.injEq]; rfl
  rw [e, wpv_some]
@[simp] theorem wpv_neO {a b : Option Int} {s : Sto} {Q : D → Sto → Prop} : wpv (gNe (optI a) (optI b) s) Q = Q (.bl (!decide (a = b))) s := by
  have e : gNe (optI a) (optI b) s = some (.bl (!decide (a = b)), s) := by
    cases a <;> cases b <;> simp only [optI, gNe, gEqF, datOf, dat0, shaped_non, shaped_int, and_self, if_true, PyData.eqv]
    · rfl
    · rfl
    · rfl
    · simp only [Option.some.injEq]; rfl
  rw [e, wpv_some]
def optP : Option (Nat × Nat) → D
  | none => .non
  | some p => .tup [.int (p.1 : Nat), .int (p.2 : Nat)]
@[simp] theorem closed_optP {n : Nat} {o : Option (Nat × Nat)} : closed n (optP o) = true := by cases o <;> simp [optP]
@[simp] theorem isNon_optP {o : Option (Nat × Nat)} : isNon (optP o) = o.isNone := by cases o <;> rfl
theorem datOf_optP {o : Option (Nat × Nat)} {s : Sto} : ∃ x, datOf s (optP o) = some x ∧ SeqAt.shaped x = true := by
  cases o with
  | none => exact ⟨_, rfl, shaped_non⟩
  | some p => exact ⟨.tuple [.int p.1, .int p.2], by simp [optP, datOf, dat0, dat0L], by simp [SeqAt.shaped, PyData.canLay0, PyData.canLayAll0, PyData.depth, PyData.depthAll]⟩
theorem eqv_optP {a b : Option (Nat × Nat)} {s : Sto} {x y : PyData} (h1 : datOf s (optP a) = some x) (h2 : datOf s (optP b) = some y) : PyData.eqv x y = decide (a = b) := by
  cases a with
  | none =>
    cases b with
    | none => cases h1; cases h2; rfl
    | some q =>
      have h2 : datOf s (.tup [.int q.1, .int q.2]) = some y := h2
      simp [datOf, dat0, dat0L] at h2
      cases h1; subst h2; rfl
  | some p =>
    have h1 : datOf s (.tup [.int p.1, .int p.2]) = some x := h1
    simp [datOf, dat0, dat0L] at h1
    subst h1
    cases b with
    | none => cases h2; rfl
    | some q =>
      have h2 : datOf s (.tup [.int q.1, .int q.2]) = some y := h2
      simp [datOf, dat0, dat0L] at h2
      subst h2
      obtain ⟨p1, p2⟩ := p
      obtain ⟨q1, q2⟩ := q
      simp only [PyData.eqv, PyData.eqvAll, Bool.and_true]
      have e : ∀ i j : Nat, ((i : Int) == (j : Int)) = decide (i = j) := fun i j => by
        rw [Bool.eq_iff_iff]; simp only [beq_iff_eq, decide_eq_true_eq]; omega
      rw [e, e, ← Bool.decide_and]
      simp
@[simp] theorem wpv_eqP {a b : Option (Nat × Nat)} {s : Sto} {Q : D → Sto → Prop} : wpv (gEq (optP a) (optP b) s) Q = Q (.bl (decide (a = b))) s := by
  obtain ⟨x, h1, h2⟩ := datOf_optP (o := a) (s := s)
  obtain ⟨y, h3, h4⟩ := datOf_optP (o := b) (s := s)
  have e : gEq (optP a) (optP b) s = some (.bl (decide (a = b)), s) := by
    simp only [gEq, gEqF, h1, h3, h2, h4, and_self, if_true, id, eqv_optP h1 h3]
  rw [e, wpv_some]
@[simp] theorem wpv_neP {a b : Option (Nat × Nat)} {s : Sto} {Q : D → Sto → Prop} : wpv (gNe (optP a) (optP b) s) Q = Q (.bl (!decide (a = b))) s := by
  obtain ⟨x, h1, h2⟩ := datOf_optP (o := a) (s := s)
  obtain ⟨y, h3, h4⟩ := datOf_optP (o := b) (s := s)
  have e : gNe (optP a) (optP b) s = some (.bl (!decide (a = b)), s) := by
    simp only [gNe, gEqF, h1, h3, h2, h4, and_self, if_true, eqv_optP h1 h3]
  rw [e, wpv_some]
@[simp] theorem wpv_inN {neg : Bool} {i : Nat} {l : List Nat} {s : Sto} {Q : D → Sto → Prop} : wpv (gInB neg (.int (i : Nat)) (.lst (natD l)) s) Q = Q (.bl (if neg then !decide (i ∈ l) else decide (i ∈ l))) s := by
  have e : decide ((i : Int) ∈ l.map fun i : Nat => (i : Int)) = decide (i ∈ l) := by
    congr 1
    simp only [List.mem_map, eq_iff_iff]
    constructor
    · rintro ⟨a, ha, e⟩
      rwa [← show a = i by omega]
    · exact fun h => ⟨i, h, rfl⟩
  rw [natD_ints, wpv_inL, e]
/-! lists wherever they lie -/
theorem lstOf_loc {s : Sto} {n : Nat} {l : List D} (h : s[n]? = some (.lst l)) : lstOf s (.loc n) = some l := by simp [lstOf, h]
theorem wpv_len_l {s : Sto} {x : D} {l : List D} {Q : D → Sto → Prop} (h : lstOf s x = some l) : wpv (gLen [x] s) Q = Q (.int l.length) s := by
  cases x with
  | lst l' => cases h; exact wpv_lenL
  | scr l' => cases h; exact wpv_lenScr
  | loc n => rw [wpv_lenLoc, show s[n]? = some (.lst l) from locL h, atO_lst]
  | _ => cases h
theorem wpv_ix_l {s : Sto} {x : D} {l : List D} {i : Int} {Q : D → Sto → Prop} (h : lstOf s x = some l) : wpv (gIx x (.int i) s) Q = ∃ d, atI l i = some d ∧ Q d s := by
  cases x with
  | lst l' => cases h; exact wpv_ixL
  | scr l' => cases h; exact wpv_ixScr
  | loc n => rw [wpv_ixLoc, show s[n]? = some (.lst l) from locL h, atO_lst]
  | _ => cases h
theorem wpv_tuple_l {s : Sto} {x : D} {l : List D} {Q : D → Sto → Prop} (h : lstOf s x = some l) : wpv (gTuple [x] s) Q = Q (.tup l) s := by
  cases x with
  | lst l' => cases h; exact wpv_tupleL
  | scr l' => cases h; simp [gTuple, seqOf]
  | loc n => rw [wpv_tupleLoc, show s[n]? = some (.lst l) from locL h, atO_lst]
  | _ => cases h
theorem cut_take {α : Type} {xs : List α} {k : Nat} (i : Int) (h : i = k) : cut xs none (some i) = xs.take k := by rw [h]; exact cut_to
theorem cut_drop {α : Type} {xs : List α} {k : Nat} (i : Int) (h : i = k) (hl : k ≤ xs.length) : cut xs (some i) none = xs.drop k := by rw [h]; exact cut_from hl
theorem atI_of {α : Type} {l : List α} {k : Nat} (i : Int) (h : i = k) (hk : k < l.length) : atI l i = some l[k] := by rw [h, atI_nat, List.getElem?_eq_getElem hk]
end QS
end

section
set_option Elab.async false
set_option linter.all false
set_option maxRecDepth 100000
set_option maxHeartbeats 1000000
/-! QSB: the bag of drawn numbers: [seed, count, great, always] with great a list of its own. -/
namespace QS
open PySem PySem.Spec PyProof.Rows L2
def AlOk (d : D) : Prop := d = .non ∨ ∃ i : Int, d = .int i
structure BgAt (n g : Nat) (s : Sto) : Prop where
  bag : ∃ (a b : Int) (al : D), s[n]? = some (.lst [.int a, .int b, .loc g, al]) ∧ AlOk al
  great : ∃ gs : List Int, s[g]? = some (.lst (gs.map D.int))
  ne : g ≠ n
theorem BgAt.lt {n g : Nat} {s : Sto} (h : BgAt n g s) : n < s.length ∧ g < s.length := by
  obtain ⟨⟨a, b, al, h1, _⟩, ⟨gs, h2⟩, _⟩ := h
  exact ⟨(List.getElem?_eq_some_iff.mp h1).1, (List.getElem?_eq_some_iff.mp h2).1⟩
structure Bs (n g : Nat) (s s' : Sto) : Prop where
  len : s'.length = s.length
  same : ∀ j, j ≠ n → j ≠ g → s'[j]? = s[j]?
  at_ : BgAt n g s'
theorem Bs.refl {n g : Nat} {s : Sto} (h : BgAt n g s) : Bs n g s s := ⟨rfl, fun _ _ _ => rfl, h⟩
theorem Bs.trans {n g : Nat} {s s1 s2 : Sto} (h : Bs n g s s1) (k : Bs n g s1 s2) : Bs n g s s2 := ⟨k.len.trans h.len, fun j hj hj2 => (k.same j hj hj2).trans (h.same j hj hj2), k.at_⟩
structure Bx (n g : Nat) (s s' : Sto) : Prop where
  len : s.length ≤ s'.length
  same : ∀ j, j < s.length → j ≠ n → j ≠ g → s'[j]? = s[j]?
  at_ : BgAt n g s'
theorem Bs.x {n g : Nat} {s s' : Sto} (h : Bs n g s s') : Bx n g s s' := ⟨Nat.le_of_eq h.len.symm, fun j _ a b => h.same j a b, h.at_⟩
theorem Bx.trans {n g : Nat} {s s1 s2 : Sto} (h : Bx n g s s1) (k : Bx n g s1 s2) : Bx n g s s2 := ⟨Nat.le_trans h.len k.len, fun j hj a b => (k.same j (Nat.lt_of_lt_of_le hj h.len) a b).trans (h.same j hj a b), k.at_⟩
theorem BgAt.app {n g : Nat} {s : Sto} (h : BgAt n g s) (t : Sto) : BgAt n g (s ++ t) := by
  have hl := h.lt
  obtain ⟨⟨a, b, al, h1, h2⟩, ⟨gs, h3⟩, h4⟩ := h
  exact ⟨⟨a, b, al, by rw [List.getElem?_append_left hl.1]; exact h1, h2⟩, ⟨gs, by rw [List.getElem?_append_left hl.2]; exact h3⟩, h4⟩
theorem Bx.app {n g : Nat} {s : Sto} (h : BgAt n g s) (t : Sto) : Bx n g s (s ++ t) := ⟨by simp, fun j hj _ _ => List.getElem?_append_left hj, h.app t⟩
/-- a place of neither is written -/
theorem BgAt.write {n g j : Nat} {s : Sto} {o : O} (h : BgAt n g s) (h1 : j ≠ n) (h2 : j ≠ g) : BgAt n g (s.set j o) := by
  obtain ⟨⟨a, b, al, q1, q2⟩, ⟨gs, q3⟩, q4⟩ := h
  exact ⟨⟨a, b, al, by rw [List.getElem?_set_ne h1]; exact q1, q2⟩, ⟨gs, by rw [List.getElem?_set_ne h2]; exact q3⟩, q4⟩
/-- a place behind s is written -/
theorem Bx.write {n g : Nat} {s s1 : Sto} (h : Bx n g s s1) (hn : n < s.length ∧ g < s.length) {j : Nat} {o : O} (hj : s.length ≤ j) : Bx n g s (s1.set j o) := ⟨by simpa using h.len, fun i hi a b => by
  rw [List.getElem?_set_ne (by omega)]
  exact h.same i hi a b, h.at_.write (by omega) (by omega)⟩
theorem AlOk.closed {d : D} (h : AlOk d) (k : Nat) : closed k d = true := by
  rcases h with rfl | ⟨i, rfl⟩ <;> simp
theorem Bx.old {n g : Nat} {s s' : Sto} (h : Bx n g s s') (hn : n < s.length ∧ g < s.length) : OldOk s s' := ⟨h.len, fun i hi => by
  obtain ⟨⟨a, b, al, q1, q2⟩, ⟨gs, q3⟩, q4⟩ := h.at_
  by_cases e : i = n
  · exact .inr ⟨_, by rw [e]; exact q1, by simp [O.closed, hn.2, q2.closed]⟩
  · by_cases e2 : i = g
    · exact .inr ⟨_, by rw [e2]; exact q3, by simp [O.closed]⟩
    · exact .inl (h.same i hi e e2)⟩
theorem Bx.take {n g : Nat} {s s' : Sto} (h : Bx n g s s') (hn : n < s.length ∧ g < s.length) : Bs n g s (s'.take s.length) := by
  obtain ⟨⟨a, b, al, q1, q2⟩, ⟨gs, q3⟩, q4⟩ := h.at_
  refine ⟨by rw [List.length_take]; have := h.len; omega, fun j hj hj2 => ?_, ⟨a, b, al, by rw [List.getElem?_take_of_lt hn.1]; exact q1, q2⟩, ⟨gs, by rw [List.getElem?_take_of_lt hn.2]; exact q3⟩, q4⟩
  by_cases c : j < s.length
  · rw [List.getElem?_take_of_lt c]; exact h.same j c hj hj2
  · rw [List.getElem?_eq_none (by rw [List.length_take]; omega), List.getElem?_eq_none (by omega)]
theorem seal_bag {n g : Nat} {s : Sto} {E : Ex → Sto → Prop} {F : List D → M D} {args : List D} {Q : D → Sto → Prop} (hn : n < s.length ∧ g < s.length) (h : wp (F args s) (fun d s1 => Bx n g s s1 ∧ ∃ d', frz 4 s.length s1 d = some d' ∧ ∀ s2, Bs n g s s2 → Q d' s2) (fun x s1 => Bx n g s s1 ∧ (∀ p, x.arg = some p → closed s.length p.2 = true) ∧ ∀ s2, Bs n g s s2 → E x s2)) : wp (sealF F args s) Q E :=
  wp_seal (h.monoX (fun d s1 ⟨x, d', e, q⟩ => ⟨d', e, x.old hn, q _ (x.take hn)⟩) fun x s1 ⟨h, c, q⟩ => ⟨c, h.old hn, q _ (h.take hn)⟩)
/-- both places written -/
theorem BgAt.put {n g : Nat} {s : Sto} (h : BgAt n g s) (a b : Int) (al : D) (gs : List Int) (ha : AlOk al) : Bs n g s ((s.set n (.lst [.int a, .int b, .loc g, al])).set g (.lst (gs.map D.int))) := by
  have hl := h.lt
  have hne := h.ne
  refine ⟨by simp, fun j h1 h2 => by rw [List.getElem?_set_ne (fun e => h2 e.symm), List.getElem?_set_ne (fun e => h1 e.symm)], ⟨a, b, al, ?_, ha⟩, ⟨gs, ?_⟩, hne⟩
  · rw [List.getElem?_set_ne hne, List.getElem?_set_self hl.1]
  · rw [List.getElem?_set_self (by simpa using hl.2)]
theorem put_bag {n g : Nat} {s : Sto} (h : BgAt n g s) (a b : Int) (al : D) (ha : AlOk al) : Bs n g s (s.set n (.lst [.int a, .int b, .loc g, al])) := by
  have hl := h.lt
  have hne := h.ne
  obtain ⟨_, ⟨gs, h3⟩, _⟩ := h
  exact ⟨by simp, fun j h1 h2 => by rw [List.getElem?_set_ne (fun e => h1 e.symm)], ⟨a, b, al, by rw [List.getElem?_set_self hl.1], ha⟩, ⟨gs, by rw [List.getElem?_set_ne (fun e => hne e.symm)]; exact h3⟩, hne⟩
theorem put_great {n g : Nat} {s : Sto} (h : BgAt n g s) (gs : List Int) : Bs n g s (s.set g (.lst (gs.map D.int))) := by
  have hl := h.lt
  have hne := h.ne
  obtain ⟨⟨a, b, al, h1, h2⟩, _, _⟩ := h
  exact ⟨by simp, fun j h1 h2 => by rw [List.getElem?_set_ne (fun e => h2 e.symm)], ⟨a, b, al, by rw [List.getElem?_set_ne hne]; exact h1, h2⟩, ⟨gs, by rw [List.getElem?_set_self hl.2]⟩, hne⟩
end QS
end

section
set_option Elab.async false
set_option linter.all false
set_option maxRecDepth 100000
set_option maxHeartbeats 4000000
/-! QS21: raise; try .. except X as e; isinstance(e, C), e.f in the suite. -/
namespace QS
open PySem PySem.Spec PyProof.Rows L2
/-- what the slot of a caught exception holds -/
def xv (x : Ex) (a : Addr) (d : Option Addr) : D := match x.arg, d with
  | some (f, v), some dd => .xo a dd f v
  | _, _ => .adr a
/-- it is that one -/
def okX (a : Addr) (d : Option Addr) : D → Bool
  | .adr b => decide (b = a) && d.isNone
  | .xo b dd _ _ => decide (b = a) && decide (d = some dd)
  | _ => false
def eIsX (a : Addr) (d : Option Addr) (ans : Option Bool) (e : EM) : EM := fun ρ => bnd (e ρ) fun y => lift fun s => if okX a d y = true then ans.map fun b => (.bl b, s) else none
def gXf (a : Addr) (d : Option Addr) (f : Str) : D → V1 D := fun y s => match y with
  | .xo b dd g v => if b = a ∧ d = some dd ∧ g = f then some (v, s) else none
  | _ => none
def eXf (a : Addr) (d : Option Addr) (f : Str) (e : EM) : EM := eU (gXf a d f) e
/-! ### raise -/
def sRaise0 (c : Str) : SM := fun ρ s => .exn { cls := c } ρ s
def sRaise1 (c f : Str) (e : EM) : SM := fun ρ s => ofE (e ρ s) ρ fun d s' => .exn { cls := c, arg := some (f, d) } ρ s'
/-! ### try -/
def unsl (i : Nat) : SRes → SRes
  | .nx ρ s => .nx (ρ.set i none) s
  | .bk ρ s => .bk (ρ.set i none) s
  | .ct ρ s => .ct (ρ.set i none) s
  | .rt d s => .rt d s
  | _ => .stuck
/-- the suite's end is the same wherever the exception lies -/
def SuiteR (i : Nat) (h : Addr → Option Addr → Ex → SM) (x : Ex) (ρ : En) (s : Sto) (r : SRes) : Prop := ∀ a d, d.isSome = x.arg.isSome → unsl i (h a d x (ρ.set i (some (xv x a d))) s) = r
open Classical in
noncomputable def sTry (mt : Ex → Option Bool) (i : Nat) (b : SM) (h : Addr → Option Addr → Ex → SM) : SM := fun ρ s => match b ρ s with
  | .exn x ρ' s' => (match mt x with
    | some true => if hh : ∃ r, SuiteR i h x ρ' s' r then Classical.choose hh else .stuck
    | some false => .exn x ρ' s'
    | none => .stuck)
  | r => r
theorem sTry_exn {mt : Ex → Option Bool} {i : Nat} {b : SM} {h : Addr → Option Addr → Ex → SM} {ρ ρ' : En} {s s' : Sto} {x : Ex} {r : SRes} (e : b ρ s = .exn x ρ' s') (m : mt x = some true) (hr : SuiteR i h x ρ' s' r) : sTry mt i b h ρ s = r := by
  unfold sTry
  rw [e]
  simp only [m]
  have ex : ∃ r, SuiteR i h x ρ' s' r := ⟨r, hr⟩
  rw [dif_pos ex]
  have c := Classical.choose_spec ex
  obtain ⟨d, hd⟩ : ∃ d : Option Addr, d.isSome = x.arg.isSome := by
    cases z : x.arg with
    | none => exact ⟨none, rfl⟩
    | some p => exact ⟨some 0, rfl⟩
  exact (c 0 d hd).symm.trans (hr 0 d hd)
section
variable {zz : List Addr} {X : Cx} {W : WX} {e c : Expr} {de : EM} {pos pos2 p : Pos}
/-- C(), an own exception class without own __init__ -/
theorem pmk_own0 {C : Addr} {bmB : List Value} {B newId initId : String} {x : Str} (F : ExcBaseFacts B newId initId bmB) (q : PySem.W.excIn X.K C bmB newId = true) (gC : X.mg x = some (.ref C))
    (kC : PySem.W.keepIn X.K (.ref C) = true) (r : Raises X (.ref C)) (hg : Gl X x) (hdb : (x == ("__debug__" : Str)) = false) :
    PMk X (.Call (.Name x p) [] [] pos) (fun σ H Q => Q (.ref C) none H) := by
  intro pins s σ H Q I h
  refine wpAny_Call_Name_kw (ld_glob I hg gC ?_ hdb)
  refine PySem.W.callWith_K0 I.kIn kC ?_
  obtain ⟨bm, N, nm, qn, bs, hdct, sn, sub, ab, col, dd, k0, k1, k2, k3, k5, mN, hC, hN, hni, T⟩ := exc_obj I.kIn q
  exact wpAny_call_exc_subT F T hC hN hni (fun h' e hm => mk_of I hm r h (I.hok.gone hm.new)) (Nat.zero_le _)
theorem s_raise0 {x : Str} (q : PySem.W.excIn X.K (He.ga X.K x) He.veBase "ValueError.__new__" = true ∧ PySem.W.keepIn X.K (.ref (He.ga X.K x)) = true ∧ PySem.W.subIn X.K (.ref (He.ga X.K x)) (.type "BaseException") = some true ∧ PySem.W.typeIn X.K (.ref (He.ga X.K x)) = some (.type "type"))
    (gC : X.mg x = some (.ref (He.ga X.K x))) (tk : Takes X W) (hg : Gl X x := by rfl) (hdb : (x == ("__debug__" : Str)) = false := by decide) (hc : X.calm = true := by rfl) :
    PS X (.Raise (some (.Call (.Name x p) [] [] pos)) none pos2) (tS (X.K, zz) W (sRaise0 x)) :=
  PS.imp (ps_raise hc tk (pmk_own0 PySem.F.excBase_ValueError q.1 gC q.2.1 (raises_own q.2.2.1 q.2.2.2) hg hdb)) fun D σ H ⟨m, ρ, s, hE, hS, hG⟩ => hG m H σ _ none Ext.refl hS hE ⟨rfl, rfl⟩
/-- a new exception with its dict -/
theorem raise1_in {D : Ends} {σ : St} {H : Hp} {c f : Str} (h : tS (X.K, zz) W (sRaise1 c f de) D σ H) :
    tE (X.K, zz) W de σ H fun v H1 => ∀ dd, H1 dd = none → W (.ref (He.ga X.K c)) (some dd) σ (upd H1 dd (.xd [(f, v)])) := by
  obtain ⟨m, ρ, s, hE, hS, hG⟩ := h
  refine ⟨m, ρ, s, hE, hS, (GoodS.ofE hS hE hG).mono fun v H1 ⟨m1, a, s1, e1, S1, q1, E1, g1⟩ => fun dd hd => ?_⟩
  have sm : Same H1 (upd H1 dd (.xd [(f, v)])) := same_upd hd
  refine g1 m1 _ σ _ _ (Ext.same sm) (S1.same sm) (E1.ext S1.noTup (Ext.same sm)) ⟨rfl, dd, v, rfl, fun z => ?_, upd_same, q1.ext S1.noTup (Ext.same sm)⟩
  obtain ⟨u, y, _⟩ := S1.noTup dd z
  rw [hd] at y
  cases y
theorem s_raise1 {x f : Str} (hk : ∀ ta : TA, PA X [e] ta → PMk X (.Call (.Name x p) [e] [] pos) (fun σ H Q => ta σ H fun vs H1 => ∃ v, vs = [v] ∧ ∀ d, H1 d = none → Q (.ref (He.ga X.K x)) (some d) (upd H1 d (.xd [(f, v)]))))
    (he : PE X e (tE (X.K, zz) W de)) (tk : Takes X W) (hc : X.calm = true := by rfl) (hs : starEach [e] X.env = (false, eval e X.env) :: starEach [] X.env := by rfl) :
    PS X (.Raise (some (.Call (.Name x p) [e] [] pos)) none pos2) (tS (X.K, zz) W (sRaise1 x f de)) :=
  PS.imp (ps_raise hc tk (hk _ (pa_cons he pa_nil hs))) fun D σ H h => (raise1_in h).mono fun v H1 q => ⟨v, rfl, q⟩
end
/-! ### try -/
section
variable {zz : List Addr} {X : Cx} {W : WX} {x n : Str} {i : Nat} {body suite : List Stmt} {b₀ : Stmt} {np pos pos' : Pos} {db : SM} {hh : Addr → Option Addr → Ex → SM} {mt : Ex → Option Bool} {c : Value}
/-- the slot holds it -/
theorem xv_rep {K : KZ} {m : List Addr} {H : Hp} {y : Ex} {cv : Value} {d : Option Addr} (r : ERep K m H y cv d) (a : Addr) : Rep K m H (xv y a d) (.ref a) ∧ d.isSome = y.arg.isSome := by
  obtain ⟨_, r⟩ := r
  unfold xv
  cases z : y.arg with
  | none => rw [z] at r; subst r; exact ⟨.adr a, rfl⟩
  | some p =>
    obtain ⟨f, v⟩ := p
    rw [z] at r
    obtain ⟨dd, v', rfl, h1, h2, h3⟩ := r
    exact ⟨.xo h1 h2 h3, rfl⟩
theorem s_try (hs : X.stack = X.env :: X.outer) (hf : X.env.frame = some X.env.locals) (hN : X.N.Nodup) (hc : Names X x c) (tk : Takes X W)
    (hm : ∀ y b cv, mt y = some b → (if y.own = true then cv = .ref (He.ga X.K y.cls) else cv = .type y.ty) → PySem.W.exmOne X.K cv c = some b)
    (hb : ∀ (W : WX) (pn : List (Addr × Obj)) (xe : Value → Shared → Prop), Takes (X.tr pn xe) W → PassesOwn (model X.prog X.w) X.A X.env xe → PSs (X.tr pn xe) body (tS (X.K, zz) W db))
    (hsu : ∀ (a : Addr) (oe : Obj) (y : Ex) (cv : Value) (d : Option Addr) (pn : List (Addr × Obj)), mt y = some true → (if y.own = true then cv = .ref (He.ga X.K y.cls) else cv = .type y.ty) → Zc cv d oe → (∃ vs, oe.data = .fields vs) → PSs (X.suite a ((a, oe) :: pn)) (b₀ :: suite) (tS (X.K, zz) W0 (hh a d y)))
    (hi : X.N[i]? = some n := by rfl) (hln : X.env.kindOf n = some .local := by rfl) :
    PS X (.Try body [.ExceptHandler (some (.Name x np)) (some n) (b₀ :: suite) pos'] [] [] pos) (tS (X.K, zz) W (sTry mt i db hh)) := by
  refine PS.imp (ps_try_as (c := c) (tb := fun W => tS (X.K, zz) W db) (ts := fun a cv d D σ H => ∃ y, mt y = some true ∧ (if y.own = true then cv = .ref (He.ga X.K y.cls) else cv = .type y.ty) ∧ tS (X.K, zz) W0 (hh a d y) D σ H) (Wout := W) hs hf hN hi hln hc tk hb (fun a oe cv d pn hz hv => ⟨fun pins s σ H D I ⟨y, h1, h2, h3⟩ => (hsu a oe y cv d pn h1 h2 hz hv).run pins s σ H D I h3⟩)) fun D σ H ⟨m, ρ, s, hE, hS, hG⟩ => ?_
  refine ⟨m, ρ, s, hE, hS, ?_⟩
  unfold sTry at hG
  cases e : db ρ s with
  | nx ρ' s' => rw [e] at hG; exact hG
  | rt d s' => rw [e] at hG; exact hG
  | bk ρ' s' => rw [e] at hG; exact hG
  | ct ρ' s' => rw [e] at hG; exact hG
  | stuck => rw [e] at hG; exact hG
  | exn y ρ' s' =>
    rw [e] at hG
    simp only at hG
    intro m' H' σ' cv d f S E r
    cases hy : mt y with
    | none => simp only [hy] at hG; exact hG.elim
    | some b =>
      refine ⟨b, hm y b cv hy r.1, fun hb a na => ?_, fun hb => ?_⟩
      · subst hb
        simp only [hy] at hG
        by_cases ex : ∃ r, SuiteR i hh y ρ' s' r
        · rw [dif_pos ex] at hG
          have hr := Classical.choose_spec ex
          obtain ⟨r1, r2⟩ := xv_rep r a
          have hr' := hr a d r2
          refine ⟨y, hy, r.1, m', ρ'.set i (some (xv y a d)), s', E.set r1 i, S, ?_⟩
          rw [← hr'] at hG
          cases e2 : hh a d y (ρ'.set i (some (xv y a d))) s' with
          | nx ρ2 s2 => rw [e2] at hG; exact fun m2 H2 σ2 g S2 E2 => hG m2 H2 _ (f.trans g) S2 (E2.forget i)
          | bk ρ2 s2 => rw [e2] at hG; exact fun m2 H2 σ2 g S2 E2 => hG m2 H2 _ (f.trans g) S2 (E2.forget i)
          | ct ρ2 s2 => rw [e2] at hG; exact fun m2 H2 σ2 g S2 E2 => hG m2 H2 _ (f.trans g) S2 (E2.forget i)
          | rt v s2 => rw [e2] at hG; exact fun m2 H2 σ2 g S2 E2 => hG m2 H2 _ (f.trans g) S2 E2
          | exn x2 ρ2 s2 => rw [e2] at hG; exact hG.elim
          | stuck => rw [e2] at hG; exact hG.elim
        · rw [dif_neg ex] at hG; exact hG.elim
      · subst hb
        simp only [hy] at hG
        exact hG m' H' σ' cv d f S E r
end
end QS
end

section
set_option Elab.async false
set_option linter.all false
set_option maxRecDepth 100000
set_option maxHeartbeats 4000000
/-! QS22: isinstance(e, C), e.f in a suite; raise and try by weakest preconditions. -/
namespace QS
open PySem PySem.Spec PyProof.Rows L2
/-- what is told of an own exception class -/
structure ExCl (K : PySem.W.Frag) (D : Addr) : Prop where
  e : ExcC K D
  x : XfC K D
def excC_B (K : PySem.W.Frag) (D : Addr) : Bool := decide (PySem.W.findIn K (.ref D) "__getattribute__" = some (some (.builtin "BaseException.__getattribute__"))) && (decide (PySem.W.findIn K (.ref D) "__getattr__" = some none) && (decide (PySem.W.subIn K (.ref D) (.type "BaseException") = some true) &&
  (PySem.W.hasDictIn K D && (decide (PySem.W.findIn K (.ref D) "__class__" = some (some (.builtin "object.__class__"))) && (decide (PySem.W.specialIn K (.builtin "object.__class__") "__get__" = some (some (.builtin "getset_descriptor.__get__"))) &&
  (decide (PySem.W.takesIn K (.builtin "object.__class__") = some true) && decide (PySem.W.mroIn K D (.type "object") = some true)))))))
theorem exCl_of {K : PySem.W.Frag} {D : Addr} (h : excC_B K D = true) : ExCl K D := by
  unfold excC_B at h
  simp only [Bool.and_eq_true, decide_eq_true_eq] at h
  obtain ⟨h1, h2, h3, h4, h5, h6, h7, h8⟩ := h
  exact ⟨⟨h1, h2, h3, h4, h5, h6, h7, h8⟩, ⟨h1, h2, h3, h4⟩⟩
/-- a call's reading: isinstance(e, c) -/
def rIsX (K : PySem.W.Frag) (D a : Addr) (d : Option Addr) : List V → Hp → VK → Prop := fun xs H Q => ∃ (c : V) (cv : Value) (b : Bool), xs = [.ref a, c] ∧ (∀ u, RelV c u → u = cv) ∧ PySem.W.kitOne K (.ref D) cv = some b ∧ (d = none ∨ ∃ dd fs, d = some dd ∧ H dd = some (.xd fs)) ∧ Q (.bl b) H
theorem call_isX {X : Cx} {a D : Addr} {d : Option Addr} {oe : Obj} {pn : List (Addr × Obj)} (C : ExcC X.K D) (hz : Zc (.ref D) d oe) (hf : ∃ vs, oe.data = .fields vs) : CallR (X.suite a ((a, oe) :: pn)) (.builtin "isinstance") (rIsX X.K D a d) := by
  intro pins s σ H xs us Q I r h
  obtain ⟨c, cv, b, rfl, hcv, e, hd, q⟩ := h
  cases r with
  | cons rx rr =>
    cases rr with
    | cons rt rr =>
      cases rr
      cases rx
      have ec := hcv _ rt
      subst ec
      obtain ⟨hget, _⟩ := I.pin (a, oe) (List.mem_append.mpr (.inl List.mem_cons_self))
      obtain ⟨vs, hv⟩ := hf
      obtain ⟨cdD, hcD, _⟩ := PySem.W.any_some C.hd
      have hcl : (PySem.W.clsIn X.K D).isSome = true := by rw [hcD]; rfl
      have fin : ∀ od, PySem.W.InstAt s.heap a oe D od → wpAny (model X.prog X.w) (X.suite a ((a, oe) :: pn)).A (call (.builtin "isinstance") [.ref a, _]) (EP (X.suite a ((a, oe) :: pn)) pins σ Q) (X.suite a ((a, oe) :: pn)).xe s := fun od J =>
        PySem.W.kia_one (PySem.W.kitx_exc hcl C.hg C.hk C.hs C.ha C.hn C.ht C.hm) I.kIn J e (fun z => nomatch z) fun tk => ⟨.bl b, H, I.kept (t' := tk) fun _ _ z => z, rfl, q⟩
      rcases hd with hd | ⟨dd, fs, hd, he⟩
      · refine fin none ?_
        obtain ⟨oc, od, oda, osl⟩ := oe
        obtain ⟨h1, h2⟩ := hz
        dsimp only at h1 h2 hv
        subst h1 h2 hv
        subst hd
        exact ⟨hget, rfl, rfl, trivial⟩
      · obtain ⟨mA, hns, _⟩ := I.hok dd _ he
        obtain ⟨od, ho, _⟩ := lookIn_ns hns
        refine fin (some od) ?_
        obtain ⟨oc, odd, oda, osl⟩ := oe
        obtain ⟨h1, h2⟩ := hz
        dsimp only at h1 h2 hv
        subst h1 h2 hv
        subst hd
        exact ⟨hget, rfl, rfl, ho⟩
section
variable {zz : List Addr} {X : Cx} {W : WX} {e c : Expr} {de : EM} {pos p : Pos} {a C₀ : Addr} {d : Option Addr} {oe : Obj} {pn : List (Addr × Obj)}
theorem okX_at {K : KZ} {m : List Addr} {H : Hp} {y : D} {v : V} (r : Rep K m H y v) (h : okX a d y = true) : v = .ref a ∧ (d = none ∨ ∃ dd fs, d = some dd ∧ H dd = some (.xd fs)) := by
  cases r with
  | adr b =>
    simp only [okX, Bool.and_eq_true, decide_eq_true_eq, Option.isNone_iff_eq_none] at h
    exact ⟨by rw [h.1], .inl h.2⟩
  | xo h1 h2 h3 =>
    simp only [okX, Bool.and_eq_true, decide_eq_true_eq] at h
    exact ⟨by rw [h.1], .inr ⟨_, _, h.2, h2⟩⟩
  | _ => simp [okX] at h
theorem se_isX {cv : V} {u : Value} {ans : Option Bool} (C : ExCl X.K C₀) (hz : Zc (.ref C₀) d oe) (hf : ∃ vs, oe.data = .fields vs) (hA : ∀ b, ans = some b → PySem.W.kitOne X.K (.ref C₀) u = some b) (hm : X.mg "isinstance" = none)
    (he : PE (X.suite a ((a, oe) :: pn)) e (tE (X.K, zz) W de)) (hcv : PE (X.suite a ((a, oe) :: pn)) c (tC cv)) (hu : ∀ w, RelV cv w → w = u) (hg : Gl X "isinstance" := by rfl)
    (hs1 : starEach [e, c] X.env = (false, eval e X.env) :: starEach [c] X.env := by rfl) (hs2 : starEach [c] X.env = (false, eval c X.env) :: starEach [] X.env := by rfl) (hpl : (backTo pos (starEach [c] X.env)).any (·.1) = false := by rfl) :
    PE (X.suite a ((a, oe) :: pn)) (.Call (.Name "isinstance" p) [e, c] [] pos) (tE (X.K, zz) W (eIsX a d ans de)) := by
  refine PE.imp (pe_callB (X := X.suite a ((a, oe) :: pn)) (call_isX C.e hz hf) hg hm PyProof.Rows.boot_isinstance (pa_cons he (pa_cons hcv pa_nil hs2) hs1) (by decide) (by decide) hs1 hpl) fun σ H Q ⟨m, ρ, s, hE, hS, hG⟩ => ?_
  refine ⟨m, ρ, s, hE, hS, (Good.bind hG).mono fun v H1 ⟨m1, y, s1, e1, S1, q1, hG1⟩ => ?_⟩
  have g := hG1.lift
  by_cases hk : okX a d y = true
  · rw [if_pos hk] at g
    obtain ⟨rfl, hd⟩ := okX_at q1 hk
    cases hb : ans with
    | none => rw [hb] at g; exact g.elim
    | some b =>
      rw [hb] at g
      exact ⟨cv, u, b, rfl, hu, hA b hb, hd, GoodV.here S1 g (.bl b)⟩
  · rw [if_neg hk] at g; exact g.elim
theorem se_xf {f : Str} (C : ExCl X.K C₀) (hno : PySem.W.findIn X.K (.ref C₀) f = some none) (hz : Zc (.ref C₀) d oe) (hf : ∃ vs, oe.data = .fields vs) (he : PE (X.suite a ((a, oe) :: pn)) e (tE (X.K, zz) W de)) (hb : attributeBase e f X.env (eval e X.env) = eval e X.env := by rfl) :
    PE (X.suite a ((a, oe) :: pn)) (.Attribute e f pos) (tE (X.K, zz) W (eXf a d f de)) := by
  refine PE.imp (pe_xf C.x hno hz hf he hb) fun σ H Q ⟨m, ρ, s, hE, hS, hG⟩ => ?_
  refine ⟨m, ρ, s, hE, hS, (Good.bind hG).mono fun v H1 ⟨m1, y, s1, e1, S1, q1, hG1⟩ => ?_⟩
  have g := hG1.lift
  cases q1 with
  | @xo b dd g' dv v' h1 h2 h3 =>
    by_cases hk : b = a ∧ d = some dd ∧ g' = f
    · have eg : gXf a d f (D.xo b dd g' dv) s1 = some (dv, s1) := by
        show (if b = a ∧ d = some dd ∧ g' = f then some (dv, s1) else none) = some (dv, s1)
        exact if_pos hk
      rw [eg] at g
      obtain ⟨rfl, rfl, rfl⟩ := hk
      exact ⟨rfl, rfl, dd, [(g', v')], v', rfl, h2, by simp [List.lookup], GoodV.here S1 g h3⟩
    · have eg : gXf a d f (D.xo b dd g' dv) s1 = none := by
        show (if b = a ∧ d = some dd ∧ g' = f then some (dv, s1) else none) = none
        exact if_neg hk
      rw [eg] at g
      exact g.elim
  | _ => exact g.elim
end
/-! ### weakest preconditions -/
section
variable {ρ : En} {s : Sto} {N : En → Sto → Prop} {R : D → Sto → Prop} {X : Ex → En → Sto → Prop} {E : Ex → Sto → Prop} {Q : D → Sto → Prop} {a : Addr} {d : Option Addr} {e : EM}
@[simp] theorem wps_sRaise0 {c : Str} : wps (sRaise0 c ρ s) N R X = X { cls := c } ρ s := wps_exn
@[simp] theorem wps_sRaise1 {c f : Str} : wps (sRaise1 c f e ρ s) N R X = wp (e ρ s) (fun v s' => X { cls := c, arg := some (f, v) } ρ s') (fun x s' => X x ρ s') := by simp [sRaise1]
@[simp] theorem okX_xv {x : Ex} (h : d.isSome = x.arg.isSome) : okX a d (xv x a d) = true := by
  unfold xv
  cases z : x.arg with
  | none =>
    rw [z] at h
    have : d = none := by simpa using h
    subst this
    simp [okX]
  | some p =>
    obtain ⟨f, v⟩ := p
    rw [z] at h
    obtain ⟨dd, rfl⟩ := Option.isSome_iff_exists.mp (by simpa using h)
    simp [okX]
@[simp] theorem wp_eIsX {ans : Option Bool} : wp (eIsX a d ans e ρ s) Q E = wp (e ρ s) (fun y s1 => okX a d y = true ∧ (match ans with | some b => Q (.bl b) s1 | none => False)) E := by
  simp only [eIsX, wp_bnd, wp_lift]
  congr 1
  funext y s1
  by_cases h : okX a d y = true
  · cases ans <;> simp [h]
  · simp [h]
@[simp] theorem wp_eXf {f : Str} : wp (eXf a d f e ρ s) Q E = wp (e ρ s) (fun y s1 => wpv (gXf a d f y s1) Q) E := by simp [eXf]
@[simp] theorem wpv_gXf {f : Str} {x : Ex} {v : D} (hx : x.arg = some (f, v)) (h : d.isSome = x.arg.isSome) : wpv (gXf a d f (xv x a d) s) Q = Q v s := by
  unfold xv
  rw [hx] at h ⊢
  obtain ⟨dd, rfl⟩ := Option.isSome_iff_exists.mp (by simpa using h)
  simp [gXf]
/-- a try: the body's ends, the suite's -/
theorem wps_try {mt : Ex → Option Bool} {i : Nat} {b : SM} {h : Addr → Option Addr → Ex → SM} (hb : wps (b ρ s) N R (fun x ρ' s' => (mt x = some false ∧ X x ρ' s') ∨ (mt x = some true ∧ ∃ r, SuiteR i h x ρ' s' r ∧ wps r N R X))) : wps (sTry mt i b h ρ s) N R X := by
  cases e : b ρ s with
  | nx ρ' s' => rw [e, wps_nx] at hb; unfold sTry; rw [e]; simp only [wps_nx]; exact hb
  | rt d s' => rw [e, wps_rt] at hb; unfold sTry; rw [e]; simp only [wps_rt]; exact hb
  | exn x ρ' s' =>
    rw [e, wps_exn] at hb
    rcases hb with ⟨h1, h2⟩ | ⟨h1, r, h2, h3⟩
    · unfold sTry; rw [e]; simp only [h1]; rw [wps_exn]; exact h2
    · rw [sTry_exn e h1 h2]; exact h3
  | bk ρ' s' => rw [e] at hb; exact hb.run.elim
  | ct ρ' s' => rw [e] at hb; exact hb.run.elim
  | stuck => rw [e] at hb; exact hb.run.elim
end
end QS
end

section
set_option Elab.async false
set_option linter.all false
set_option maxRecDepth 100000
set_option maxHeartbeats 4000000
/-! QS23: an own exception whose __init__ says super().__init__(x); self.f = x. -/
namespace QS
open PySem PySem.Spec PySem.W PySem.Calls PyProof.Rows PySem.HandSPX L2
/-! ### the text -/
structure SupPos where
  a1 : Pos
  a2 : Pos
  q0 : Pos
  q1 : Pos
  q2 : Pos
  q3 : Pos
  q4 : Pos
  q5 : Pos
  q6 : Pos
  q7 : Pos
  q8 : Pos
  q9 : Pos
def supA (f : Str) (p : SupPos) : Arguments := { posonlyargs := [], args := [{ arg := "self", annotation := none, pos := p.a1 }, { arg := f, annotation := none, pos := p.a2 }], vararg := none, kwonlyargs := [], kw_defaults := [], kwarg := none, defaults := [] }
def supB (f : Str) (p : SupPos) : List Stmt :=
  [.Expr (.Call (.Attribute (.Call (.Name "super" p.q0) [] [] p.q1) "__init__" p.q2) [.Name f p.q3] [] p.q4) p.q5, .Assign [.Attribute (.Name "self" p.q6) f p.q7] (.Name f p.q8) p.q9]
def supS (f : Str) : Scope := { kind := .function, names := [(PySem.Str.ofString "self", .local), (f, .local), (PySem.Str.ofString "__class__", .free), (PySem.Str.ofString "super", .globalImplicit)], isGenerator := false, isCoroutine := false, more := [] }
/-- what the field's name must not be -/
structure SupF (f : Str) : Prop where
  s : (("self" : Str) == f) = false
  s2 : (f == ("self" : Str)) = false
  c : (("__class__" : Str) == f) = false
  u : (("super" : Str) == f) = false
  d : (f == ("__debug__" : Str)) = false
/-- the text is as it should be -/
structure SupW (cn f : Str) (p : SupPos) : Prop where
  bnd : ∀ (doc pm : Value) (an : Option Addr) (cdv ct : Value) (cc : Addr) (x v : Value), bindArgs (ksFn "__init__" (cn ++ ".__init__") (supA f p) (supB f p) (supS f) .none .none doc pm an cdv ct cc) ⟨[x, v], []⟩ = pure [(PySem.Str.ofString "self", x), (f, v)]
  call : ∀ (L fI : Addr) (cdv : Value) (cc : Addr), ∃ pl : Sem Bool, eval (.Call (.Attribute (.Call (.Name "super" p.q0) [] [] p.q1) "__init__" p.q2) [.Name f p.q3] [] p.q4) (ksEnv (cn ++ ".__init__") (supS f) L fI cdv cc) = (do
      let ov ← attributeBase (.Call (.Name "super" p.q0) [] [] p.q1) "__init__" (ksEnv (cn ++ ".__init__") (supS f) L fI cdv cc) (eval (.Call (.Name "super" p.q0) [] [] p.q1) (ksEnv (cn ++ ".__init__") (supS f) L fI cdv cc))
      standAt p.q2.atName
      let (g, first) ← holding [ov] (getMethod ov "__init__" pl)
      callWith p.q4 g first (backTo p.q4 (starEach [.Name f p.q3] (ksEnv (cn ++ ".__init__") (supS f) L fI cdv cc))) [])
/-- what is told of the class at C and of its __init__ at fI -/
structure SupTxt (prog : Program) (K : Frag) (C fI : Addr) (cn f : Str) : Prop where
  fn_ : SupF f
  cls : ∃ nm q N bs bm sn sub ab col dd k0 k1 k2 k3 k5, K.lookup C = some (excClassObj nm q C N bs bm true sn sub ab col dd k0 k1 k2 k3 k5 "ValueError.__new__") ∧ refsVE bm = true
  sa : findIn K (.ref C) "__setattr__" = some (some (.builtin "object.__setattr__"))
  noN : findIn K (.ref C) f = some none
  iC : findIn K (.ref C) "__init__" = some (some (.ref fI))
  tC : typeIn K (.ref fI) = some (.type "function")
  kC : keepIn K (.ref C) = true
  exC : subIn K (.ref C) (.type "BaseException") = some true
  veC : subIn K (.ref C) (.type "ValueError") = some true
  tyC : typeIn K (.ref C) = some (.type "type")
  me : mroIn K C (.ref C) = some true
  op : nsIn K cStatics "thirdparty.any" = some none
  sup : nsIn K mainGlobals "super" = some none
  up : ks_superIn K C C "__init__" = some (some (.builtin "ValueError.__init__"))
  fn : ∃ (oc : Value) (od : Option Addr) (doc pm : Value) (an : Option Addr) (cda cc : Addr) (ct : Value) (osl : Array (Option Value)) (p : SupPos), SupW cn f p ∧
    K.lookup fI = some ⟨oc, od, .func (ksFn "__init__" (cn ++ ".__init__") (supA f p) (supB f p) (supS f) .none .none doc pm an (.ref cda) ct cc), osl⟩ ∧ codeIn K (.ref cda) (cn ++ ".__init__") = true ∧
    (∃ (ccl : Value) (cdd : Option Addr) (vs : Array Value) (ccs : Array (Option Value)) (file : Str) (tf : Tok), K.lookup cda = some ⟨ccl, cdd, .fields vs, ccs⟩ ∧ vs[2]? = some (.str file tf) ∧ ((prog.main.file : Str) == file) = true) ∧
    ∃ (cl : Value) (cld : Option Addr) (csl : Array (Option Value)), K.lookup cc = some ⟨cl, cld, .cell (some (.ref C)), csl⟩
theorem one_fits (v : Value) : [v].length ≤ sizeLine := by
  show 1 ≤ sizeLine
  rw [sizeLine_eq]
  omega
/-- a name of the frame -/
theorem ld_own {M : Model} {A : Around} {E : Value → Shared → Prop} {s : Shared} {env : Env} {m : Str → Option Value} {x : Str} {pos : Pos} {v : Value} {Q : Value → Shared → Prop} (hn : s.heap.Ns env.locals m) (hv : m x = some v)
    (hk : env.scope.kind = .function) (hl : env.kindOf x = some .local) (hd : (x == ("__debug__" : Str)) = false) (h : Q v s) : wpAny M A (eval (.Name x pos) env) Q E s := wpAny_Name (wpAny_loadName_local hk hl hn hv h) hd
/-- what __init__ leaves of the fresh exception at x -/
structure SupEnd (h h' : Heap) (x C dx t1 : Addr) (f : Str) (v : Value) : Prop where
  keep : ∀ b o, b ≠ x → h.get? b = some o → h'.get? b = some o
  obj : h'.get? x = some { cls := .ref C, dict := some dx, data := .fields #[.ref t1, .none, .none, .none, .bool false, .none] }
  dbig : h.objs.size ≤ dx
  dne : dx ≠ x
  ns : h'.Ns1 dx (fun y => if y = f then some v else none)
section
variable {prog : Program} {w : World} {A : Around} {E : Value → Shared → Prop} {R : Result → Shared → Prop} {s : Shared} {K : Frag} {mg mb : Str → Option Value} {C fI : Addr} {cn f : Str}
/-- ValueError.__init__ bound to e, called -/
theorem call_mw {h : Heap} {g : Array GenState} {d : Drawn} {t : Nat} {os : OsState} {nm q : Str} {N : Addr} {bs bm : List Value} {hdct : Bool} {sn : List Str} {sub : List Value} {ab : Bool} {col : Option Bool} {dd : Option Addr} {k0 k1 k2 k3 k5 : Option Value} {u e t0 : Addr} {rest : List Value} {Q : Value → Shared → Prop}
    (hC : h.get? C = some (excClassObj nm q C N bs bm hdct sn sub ab col dd k0 k1 k2 k3 k5 "ValueError.__new__")) (he : h.get? e = some (excO C t0)) (hu : h.get? u = some (kxs_mw "ValueError.__init__" e)) (hrest : rest.length ≤ sizeLine)
    (hq : ∀ h' t1, (∀ b o, b ≠ e → h.get? b = some o → h'.get? b = some o) → h'.get? e = some (excO C t1) → Q .none ⟨h', g, d, t, os⟩) :
    wpAny (model prog w) A (call (.ref u) rest) Q E ⟨h, g, d, t, os⟩ := by
  refine wpAny_call (codeAny_of_tree ?_)
  show wpAny _ A.in1 (callAny (.ref u) ⟨rest, []⟩) _ _ _
  simp only [callAny]
  refine wpAny_bind (wpAny_load hu ?_)
  simp only [kxs_mw, show (Value.type "method-wrapper" == Value.type "method" || Value.type "method-wrapper" == Value.type "builtin_function_or_method" || Value.type "method-wrapper" == Value.type "method-wrapper") = true by decide, if_true]
  refine KFB.if_so (by decide) ?_
  refine wpAny_bind (check_bound_init F.excBase_ValueError.toExcCallFacts hC he rfl ?_)
  refine wpAny_bind (wpAny_pure (wpAny_pure ?_))
  refine ⟨plainId_quiet F.excBase_ValueError.init.plain _, codeAny_builtin F.excBase_ValueError.initEntry ?_⟩
  rw [Around.under_plainId F.excBase_ValueError.init.plain _]
  refine exc_init_tree (cls := .ref C) (t0 := t0) (dv := none) (c2 := .none) (c3 := .none) (b4 := .bool false) he hrest fun h' k e' _ => ?_
  exact hq h' _ k e'
theorem sup_init (T : SupTxt prog K C fI cn f) {x t0 : Addr} {v : Value} (X : K.In s.heap) (hlim : s.heap.NoLimit) (hg : s.heap.Ns mainGlobals mg) (hb : s.heap.Ns builtinsNs mb) (hbb : ∀ x : Str, x ≠ "__name__" → mb x = bootBuiltins x)
    (htop : (prog.main.scope.names.lookup ("super" : Str)).isSome = false) (hx : s.heap.get? x = some (excO C t0)) (hnx : K.lookup x = none) (hroom : A.depth < recursionLimit)
    (hq : ∀ h' tk dx t1, SupEnd s.heap h' x C dx t1 f v → R (.ok (.ret .none)) { s with heap := h', toks := tk }) :
    codeAny (model prog w) A (.call (.ref fI) ⟨[.ref x, v], []⟩) R s := by
  obtain ⟨oc, od, doc, pm, an, cda, cc, ct, osl, p, ⟨hbnd, hcall⟩, ho, hcd, ⟨ccl, cdd, vs, ccs, file, tf, hco, hvs, hfile⟩, cl, cld, csl, hcc⟩ := T.fn
  obtain ⟨nm, q, N, bs, bm, sn, sub, ab, col, dd, k0, k1, k2, k3, k5, hC, hbm⟩ := T.cls
  obtain ⟨sf1, sf2, sf3, sf4, sf5⟩ := T.fn_
  have hcl : clsIn K C = some { name := nm, bases := bs, mro := .ref C :: bm, ns := N, qualname := q, hasDict := true, slotNames := sn, subclasses := sub, abstract := ab, collection := col, hasDel := false } := by unfold clsIn; rw [hC] <;> rfl
  have kself : (supS f).names.lookup (PySem.Str.ofString "self") = some .local := by simp [supS, List.lookup]
  have kf : (supS f).names.lookup f = some .local := by
    have e : (f == PySem.Str.ofString "self") = false := sf2
    simp [supS, List.lookup, e]
  have ksup : (supS f).names.lookup ("super" : Str) = some .globalImplicit := by
    have e : (("super" : Str) == f) = false := sf4
    have e1 : (("super" : Str) == PySem.Str.ofString "self") = false := by decide
    have e2 : (("super" : Str) == PySem.Str.ofString "__class__") = false := by decide
    have e3 : (("super" : Str) == PySem.Str.ofString "super") = true := by decide
    simp only [supS, List.lookup, e, e1, e2, e3]
  have kcls : (supS f).names.lookup ("__class__" : Str) = some .free := by
    have e : (("__class__" : Str) == f) = false := sf3
    have e1 : (("__class__" : Str) == PySem.Str.ofString "self") = false := by decide
    have e2 : (("__class__" : Str) == PySem.Str.ofString "__class__") = true := by decide
    simp only [supS, List.lookup, e, e1, e2]
  refine ks_codeAny_call_defAt (fd := ksFn "__init__" (cn ++ ".__init__") (supA f p) (supB f p) (supS f) .none .none doc pm an (.ref cda) ct cc) (body := supB f p) (binds := [("self", .ref x), (f, v)]) hroom (X _ _ ho) rfl hlim (codeRec_of X hcd) rfl (BindsTo.of_eq ?_) (fun y hy => ?_) (fun y hy => ?_) fun h₁ hn k => ?_
  · exact hbnd _ _ _ _ _ _ _ _
  · have hy' : y ∈ (supS f).names := hy
    simp only [supS, List.mem_cons, List.not_mem_nil, or_false] at hy'
    rcases hy' with rfl | rfl | rfl | rfl <;> exact fun z => nomatch z
  · simp only [List.mem_cons, List.not_mem_nil, or_false] at hy
    rcases hy with rfl | rfl
    · exact kself
    · exact kf
  have e0 : callEnv (ksFn "__init__" (cn ++ ".__init__") (supA f p) (supB f p) (supS f) .none .none doc pm an (.ref cda) ct cc) s.heap.objs.size fI = ksEnv (cn ++ ".__init__") (supS f) s.heap.objs.size fI (.ref cda) cc := rfl
  rw [e0]
  have hxL : s.heap.objs.size ≠ x := Nat.ne_of_gt (Heap.lt_size hx)
  have X₁ : K.In h₁ := X.keeps k
  have hx₁ := k _ _ hx
  have bself : ([((PySem.Str.ofString "self" : Str), Value.ref x), (f, v)] : List (Str × Value)).reverse.lookup (PySem.Str.ofString "self") = some (.ref x) := by
    have e1 : (PySem.Str.ofString "self" == f) = false := sf1
    simp [List.lookup, e1]
  have bf : ([((PySem.Str.ofString "self" : Str), Value.ref x), (f, v)] : List (Str × Value)).reverse.lookup f = some v := by
    simp [List.lookup]
  -- super().__init__(f)
  obtain ⟨pl, hev⟩ := hcall s.heap.objs.size fI (.ref cda) cc
  refine ks_wpAt_execs_cons (ks_wpAt_Expr_any (ks_wpAt_MethodCall ?_ hev))
  refine ks_wpAt_super_base (fd := ksFn "__init__" (cn ++ ".__init__") (supA f p) (supB f p) (supS f) .none .none doc pm an (.ref cda) ct cc) (ar := { arg := "self", annotation := none, pos := p.a1 }) ksup kcls (by decide) rfl (X₁ _ _ ho) rfl rfl rfl (X₁ _ _ hco) rfl hvs hfile htop ?_
  refine ks_loadName_global rfl ksup (loadGlobal_builtin (hg.keeps k) (mg_none_of X hg T.sup) (hb.keeps k) ((hbb _ (by decide)).trans (show bootBuiltins ("super" : Str) = some (.type "super") from by first | boot_by_name | rfl | kernel_rfl)) ⟨rfl, ?_⟩)
  refine wpAny_loadName_free rfl kcls rfl ⟨_, X₁ _ _ hcc, rfl⟩ ?_
  refine wpAny_loadName_local rfl kself hn bself ?_
  have hC₁ := X₁ _ _ hC
  refine ks_wpAny_isType_cls hC₁ rfl ⟨rfl, ?_⟩
  refine ks_wpAny_call_super hC₁ rfl hx₁ rfl (fun c z => nomatch z) (looks_mroIn X₁ T.me) fun h₂ e2 k2 => ?_
  have X₂ : K.In h₂ := X₁.keeps k2
  have hx₂ := k2 _ _ hx₁
  have I₂ : InstAt h₂ x (excO C t0) C none := ⟨hx₂, rfl, rfl, trivial⟩
  have hm := T.up
  unfold ks_superIn at hm
  rw [hcl] at hm
  refine kxs_getMethod kxs_ValueError e2 (looks_opaque X₂ T.op) (l₀ := .ref C :: bm) (fun A Q E s k q => wpAny_bind ((looks_clsIn X₂ hcl) A _ E s k (wpAny_pure q))) rfl X₂ hm (I₂.type.andThen (looks_subIn X₂ T.veC)) (ks_ne X₂ I₂ hcl) (by decide) ?_
  have k3 : ∀ b o, h₂.get? b = some o → (h₂.push (kxs_mw "ValueError.__init__" x)).get? b = some o := fun b o e => Heap.get?_push_of_some _ e
  have hu : (h₂.push (kxs_mw "ValueError.__init__" x)).get? h₂.objs.size = some (kxs_mw "ValueError.__init__" x) := Heap.get?_push_at rfl rfl
  refine kxs_callWith (i := "ValueError.__init__") (x := x) rfl (evalArgs_plain (spliced_cons ?_))
  refine ld_own (v := v) ((hn.keeps k2).keeps k3) bf rfl kf sf5 (spliced_nil ⟨hu, ?_⟩)
  refine call_mw (X₂.keeps k3 _ _ hC) (k3 _ _ hx₂) hu (one_fits v) fun h₄ t1 k4 hx₄ => ?_
  -- self.f = f
  refine wpAt_of_wpAny (wpAny_execs_cons (plainObj_wpAny_Assign_Attribute ?_))
  have nL : ∀ {m : Str → Option Value} {b : Addr}, (h₂.push (kxs_mw "ValueError.__init__" x)).Ns b m → b ≠ x → h₄.Ns b m := fun {m b} ⟨o, es, ep, h1, h2⟩ ne => ⟨o, es, ep, k4 _ _ ne h1, h2⟩
  have hn₄ := nL ((hn.keeps k2).keeps k3) hxL
  have X₄ : K.In h₄ := fun b o e => k4 b o (fun z => by rw [z, hnx] at e; cases e) (X₂.keeps k3 b o e)
  refine ld_own (v := v) hn₄ bf rfl kf sf5 (ld_own (v := .ref x) hn₄ bself rfl kself (by decide) ?_)
  refine set_plain X₄ (ox := excO C t1) (od := none) ⟨hx₄, rfl, rfl, trivial⟩ T.sa ?_
  refine exc_osa X₄ hx₄ hcl (show refsVE (.ref C :: bm) = true from hbm) rfl T.noN (fun h₅ tk₅ dx k₅ dn dne hx₅ hn₅ => ?_)
  refine wpAny_execs_nil (hq h₅ tk₅ dx t1 ⟨fun b o hb e => k₅ b o hb (k4 b o hb (k3 _ _ (k2 _ _ (k b o e)))), hx₅, ?_, dne, hn₅⟩)
  have z : s.heap.objs.size < h₄.objs.size := hn₄.lt
  exact Nat.le_of_lt (Nat.lt_of_lt_of_le z dn)
/-- it is made -/
structure SupMade (h h' : Heap) (e C d : Addr) (f : Str) (v : Value) : Prop where
  keep : ∀ b o, h.get? b = some o → h'.get? b = some o
  new : h.objs.size ≤ e
  obj : ∃ oe vs, h'.get? e = some oe ∧ oe.cls = .ref C ∧ oe.dict = some d ∧ oe.data = .fields vs ∧ vs[1]? = some .none
  dbig : h.objs.size ≤ d
  dne : d ≠ e
  ns : h'.Ns1 d (fun y => if y = f then some v else none)
theorem sup_made (T : SupTxt prog K C fI cn f) {v : Value} (X : K.In s.heap) (hlim : s.heap.NoLimit) (hg : s.heap.Ns mainGlobals mg) (hb : s.heap.Ns builtinsNs mb) (hbb : ∀ x : Str, x ≠ "__name__" → mb x = bootBuiltins x)
    (htop : (prog.main.scope.names.lookup ("super" : Str)).isSome = false) (hroom : A.depth + 1 < recursionLimit)
    (hq : ∀ h' tk e d, SupMade s.heap h' e C d f v → R (.ok (.ret (.ref e))) { s with heap := h', toks := tk }) :
    codeAny (model prog w) A (.call (.ref C) ⟨[v], []⟩) R s := by
  obtain ⟨nm, q, N, bs, bm, sn, sub, ab, col, dd, k0, k1, k2, k3, k5, hC, hbm⟩ := T.cls
  obtain ⟨hp, g, dr, tk, os⟩ := s
  have k : ∀ b o, hp.get? b = some o → ((hp.push (kdv_tup [v])).push (excO C hp.objs.size)).get? b = some o := fun b o e => Heap.get?_push_of_some _ (Heap.get?_push_of_some _ e)
  have hget : ((hp.push (kdv_tup [v])).push (excO C hp.objs.size)).get? (hp.objs.size + 1) = some (excO C hp.objs.size) := by heap_get
  have hnx : K.lookup (hp.objs.size + 1) = none := by
    cases e : K.lookup (hp.objs.size + 1) with
    | none => rfl
    | some o => exact absurd (Nat.lt_of_succ_lt (Heap.lt_size (show hp.get? (hp.objs.size + 1) = some o from X _ _ e))) (Nat.lt_irrefl _)
  refine call_own F.excBase_ValueError (fun X => refsVE_contains X bm hbm) (X _ _ hC) (looks_findIn X T.iC) (fun self => bind_fn X self T.tC) (one_fits v) ?_
  refine sup_init (s := ⟨(hp.push (kdv_tup [v])).push (excO C hp.objs.size), g, dr, tk, os⟩) T (X.keeps k) (hlim.keeps k) (hg.keeps k) (hb.keeps k) hbb htop hget hnx (show A.depth + 1 < recursionLimit from hroom) fun h' tk' dx t1 z => ?_
  have old : ∀ b o, hp.get? b = some o → h'.get? b = some o := fun b o e => z.keep b o (Nat.ne_of_lt (Nat.lt_succ_of_lt (Heap.lt_size e))) (k b o e)
  have y : hp.objs.size + 1 + 1 ≤ dx := by
    have q := z.dbig
    first
      | exact q
      | (rw [Heap.size_push, Heap.size_push] at q; exact q)
  exact ⟨rfl, hq h' tk' (hp.objs.size + 1) dx ⟨old, Nat.le_succ _, ⟨_, _, z.obj, rfl, rfl, rfl, rfl⟩, show hp.objs.size ≤ dx by omega, z.dne, z.ns⟩⟩
end
theorem relO_one {v : V} {u : Value} {f : Str} (r : RelV v u) (y : Str) : RelO (List.lookup y [(f, v)]) (if y = f then some u else none) := by
  by_cases h : y = f
  · subst h
    have e : List.lookup y [(y, v)] = some v := by simp [List.lookup]
    rw [if_pos rfl, e]
    exact r
  · have e : (y == f) = false := by simpa using h
    have e2 : List.lookup y [(f, v)] = none := by simp [List.lookup, e]
    rw [if_neg h, e2]
    trivial
section
variable {X : Cx} {C fI : Addr} {cn f : Str}
/-- C(e), its wish -/
theorem pmk_sup {a : Expr} {ta : TA} {p pos : Pos} {k : Nat} (T : SupTxt X.prog X.K C fI cn f) (hr : RoomG k X.A) (htop : (X.prog.main.scope.names.lookup ("super" : Str)).isSome = false) (gC : X.mg cn = some (.ref C)) (ha : PA X [a] ta) (hg : Gl X cn) (hdb : (cn == ("__debug__" : Str)) = false)
    (he : starEach (a :: []) X.env = (false, eval a X.env) :: starEach [] X.env := by rfl) (hpl : (backTo pos (starEach [] X.env)).any (·.1) = false := by rfl) :
    PMk X (.Call (.Name cn p) [a] [] pos) (fun σ H Q => ta σ H fun vs H1 => ∃ v, vs = [v] ∧ ∀ d, H1 d = none → Q (.ref C) (some d) (upd H1 d (.xd [(f, v)]))) := by
  intro pins s σ H Q I h
  refine wpAny_Call_Name_kw (ld_glob I hg gC ?_ hdb)
  refine PySem.W.callWith_K (h₀ := X.base) I.ok.mod.kin T.kC (thn (ha.run pos pins s σ H _ I h) fun us s1 hh => ?_) he hpl
  obtain ⟨vs, H1, I1, r1, v, ev, q1⟩ := hh
  subst ev
  refine ⟨I1.kIn, ?_⟩
  cases r1 with
  | cons rv rn =>
    rename_i v' us'
    cases rn
    show wpAny _ _ (call (.ref C) [v']) _ _ _
    obtain ⟨mb, hb, hbb⟩ := I1.mod.blt
    have hlim := I1.nolimit
    have hgl := I1.mod.glob.keeps I1.bk
    have hbl := hb.keeps I1.bk
    have hki := I1.kIn
    have hdp : X.A.depth + 1 + 1 < recursionLimit := by have := hr.dp; omega
    obtain ⟨hp, g, dr, tk, os⟩ := s1
    refine wpAny_call (sup_made T hki hlim hgl hbl hbb htop (show X.A.depth + 1 < recursionLimit by omega) fun h' tk' e d M => ?_)
    show MkP X pins σ Q (.ref e) ⟨h', g, dr, tk', os⟩
    obtain ⟨oe, fv, hoe, hc, hd, hdat, h1⟩ := M.obj
    obtain ⟨G', g1, g2⟩ := restrict h' fun b => decide (b ≠ e)
    have gk : ∀ b, b ≠ e → G'.get? b = h'.get? b := fun b hb => g1 b (decide_eq_true hb)
    have ge : G'.get? e = none := g2 e (by simp)
    have old : ∀ b o, hp.get? b = some o → G'.get? b = some o := fun b o q => (gk b (Nat.ne_of_lt (Nat.lt_of_lt_of_le (Heap.lt_size q) M.new))).trans (M.keep b o q)
    have ob : ObjOk X.prog X.w (upd H1 d (.xd [(f, v)])) G' d (.xd [(f, v)]) := ⟨_, M.ns.at (fun o q => (gk d M.dne).trans q), fun y => relO_one rv y⟩
    have J : Inv X pins σ (upd H1 d (.xd [(f, v)])) ⟨G', g, dr, tk', os⟩ := I1.laid (t' := tk') old M.dbig ob
    refine ⟨e, oe, fv, ⟨G', g, dr, tk', os⟩, _, .ref C, some d, rfl, J, fun b o q => ?_, ge, hoe, ⟨hc, hd⟩, hdat, h1, ?_, rfl, I1.bare, raises_own T.exC T.tyC, q1 d (I1.hok.fresh M.dbig)⟩
    · by_cases hb : b = e
      · have q' : G'.get? b = some o := q
        rw [hb, ge] at q'
        cases q'
      · exact (gk b hb).symm.trans q
    · rw [upd_ne (Ne.symm M.dne)]
      exact I1.hok.fresh M.new
end
end QS
end

section
set_option Elab.async false
set_option linter.all false
set_option maxRecDepth 100000
set_option maxHeartbeats 4000000
/-! QS24: the facts of the head, with __init__s that close over __class__, and with tables of lambdas. -/
namespace QS
open PySem PySem.Spec PySem.W PySem.Calls PyProof.Rows L2 He
/-! ### an __init__ that closes over __class__ -/
structure SupD where
  cn : Str
  f : Str
  p : SupPos
abbrev FnS : Type := Option (Str × Str × Arguments × FuncBody × Scope × Addr × List Str × Addr)
def SupD.C (K : Frag) (d : SupD) : Addr := ga K d.cn
def SupD.fI (K : Frag) (d : SupD) : Addr := ma K (ga K d.cn) "__init__"
def fnS (K : Frag) (d : SupD) : FnS := match K.lookup (d.fI K) with
  | some ⟨_, _, .func fd, _⟩ => some (fd.name, fd.qualname, fd.params, fd.body, fd.scope, fd.globals, fd.closure.map (·.1), fd.builtins)
  | _ => none
def SupD.val (d : SupD) : FnS := some ("__init__", d.cn ++ ".__init__", supA d.f d.p, .stmts (supB d.f d.p), supS d.f, mainGlobals, ["__class__"], builtinsNs)
/-- the class is made as it should be -/
def supCls (K : Frag) (C : Addr) : Bool := match K.lookup C with
  | some ⟨.type t, _, .cls cd, sl⟩ => decide (t = "type") && (cd.hasDict && (!cd.hasDel && ((match cd.mro with
    | .ref C' :: bm => decide (C' = C) && PySem.HandSPX.refsVE bm
    | _ => false) && (match sl.toList with
    | [_, _, _, _, some (.builtin n), _] => decide (n = "ValueError.__new__")
    | _ => false))))
  | _ => false
theorem supCls_ok {K : Frag} {C : Addr} (h : supCls K C = true) : ∃ nm q N bs bm sn sub ab col dd k0 k1 k2 k3 k5, K.lookup C = some (excClassObj nm q C N bs bm true sn sub ab col dd k0 k1 k2 k3 k5 "ValueError.__new__") ∧ PySem.HandSPX.refsVE bm = true := by
  unfold supCls at h
  split at h
  · rename_i t dd cd sl ho
    obtain ⟨h1, h⟩ := ba h
    obtain ⟨h2, h⟩ := ba h
    obtain ⟨h3, h⟩ := ba h
    obtain ⟨h4, h5⟩ := ba h
    split at h4
    · rename_i C' bm hm
      obtain ⟨h6, h7⟩ := ba h4
      split at h5
      · rename_i k0 k1 k2 k3 n k5 hs
        obtain ⟨nm, bs, mro, ns, qn, hd, sn, sub, ab, col, del⟩ := cd
        have e1 : t = "type" := of_decide_eq_true h1
        have e2 : hd = true := h2
        have e3 : del = false := by simpa using h3
        have e4 : mro = .ref C' :: bm := hm
        have e5 : C' = C := of_decide_eq_true h6
        have e6 : n = "ValueError.__new__" := of_decide_eq_true h5
        subst e1 e2 e3 e4 e5 e6
        have hsl : sl = #[k0, k1, k2, k3, some (.builtin "ValueError.__new__"), k5] := by
          obtain ⟨l⟩ := sl
          simp only at hs
          rw [hs]
        subst hsl
        exact ⟨nm, qn, ns, bs, bm, sn, sub, ab, col, dd, k0, k1, k2, k3, k5, ho, h7⟩
      · cases h5
    · cases h4
  · cases h
def supFnB (file : Str) (K : Frag) (C fI : Addr) (q : Str) : Bool := match K.lookup fI with
  | some ⟨_, _, .func fd, _⟩ => codeIn K fd.code q && ((match fd.defaults with
    | .none => true
    | _ => false) && ((match fd.kwdefaults with
    | .none => true
    | _ => false) && ((match fd.code with
    | .ref c => (match K.lookup c with
      | some ⟨_, _, .fields vs, _⟩ => (match (vs[2]? : Option Value) with
        | some (.str z _) => file == z
        | _ => false)
      | _ => false)
    | _ => false) && (match fd.closure with
    | [(_, cc)] => (match K.lookup cc with
      | some ⟨_, _, .cell (some (.ref D)), _⟩ => decide (D = C)
      | _ => false)
    | _ => false))))
  | _ => false
def supFB (f : Str) : Bool := !(("self" : Str) == f) && (!(f == ("self" : Str)) && (!(("__class__" : Str) == f) && (!(("super" : Str) == f) && !(f == ("__debug__" : Str)))))
def SupD.ok (file : Str) (K : Frag) (d : SupD) : Bool :=
  supFB d.f && (supCls K (d.C K) && (eqO (findIn K (.ref (d.C K)) "__setattr__") (some (some (.builtin "object.__setattr__"))) && (eqO (findIn K (.ref (d.C K)) d.f) (some none) && (eqO (findIn K (.ref (d.C K)) "__init__") (some (some (.ref (d.fI K)))) &&
  (decide (typeIn K (.ref (d.fI K)) = some (.type "function")) && (keepIn K (.ref (d.C K)) && (decide (subIn K (.ref (d.C K)) (.type "BaseException") = some true) && (decide (subIn K (.ref (d.C K)) (.type "ValueError") = some true) &&
  (decide (typeIn K (.ref (d.C K)) = some (.type "type")) && (decide (mroIn K (d.C K) (.ref (d.C K)) = some true) && (eqO (nsIn K cStatics "thirdparty.any") (some none) && (eqO (nsIn K mainGlobals "super") (some none) &&
  (eqO (ks_superIn K (d.C K) (d.C K) "__init__") (some (some (.builtin "ValueError.__init__"))) && supFnB file K (d.C K) (d.fI K) (d.cn ++ ".__init__"))))))))))))))
theorem sup_ok {prog : Program} {K : Frag} {d : SupD} (hw : SupW d.cn d.f d.p) (e : fnS K d = d.val) (h : d.ok prog.main.file K = true) : SupTxt prog K (d.C K) (d.fI K) d.cn d.f := by
  obtain ⟨h0, h⟩ := ba h
  obtain ⟨h1, h⟩ := ba h
  obtain ⟨h2, h⟩ := ba h
  obtain ⟨h3, h⟩ := ba h
  obtain ⟨h4, h⟩ := ba h
  obtain ⟨h5, h⟩ := ba h
  obtain ⟨h6, h⟩ := ba h
  obtain ⟨h7, h⟩ := ba h
  obtain ⟨h8, h⟩ := ba h
  obtain ⟨h9, h⟩ := ba h
  obtain ⟨h10, h⟩ := ba h
  obtain ⟨h11, h⟩ := ba h
  obtain ⟨h12, h⟩ := ba h
  obtain ⟨h13, h14⟩ := ba h
  refine ⟨?_, supCls_ok h1, eqO_ok h2, eqO_ok h3, eqO_ok h4, of_decide_eq_true h5, h6, of_decide_eq_true h7, of_decide_eq_true h8, of_decide_eq_true h9, of_decide_eq_true h10, eqO_ok h11, eqO_ok h12, eqO_ok h13, ?_⟩
  · unfold supFB at h0
    simp only [Bool.and_eq_true, Bool.not_eq_true'] at h0
    exact ⟨h0.1, h0.2.1, h0.2.2.1, h0.2.2.2.1, h0.2.2.2.2⟩
  unfold supFnB at h14
  unfold fnS at e
  split at h14
  · rename_i oc od fd osl ho
    rw [ho] at e
    obtain ⟨n1, n2, n3, n4, n5, n6, n7, n8, n9, n10, n11, n12, n13, n14, n15⟩ := fd
    have e2 : (some (n1, n2, n3, n4, n5, n6, n7.map (·.1), n15) : FnS) = d.val := e
    unfold SupD.val at e2
    simp only [Option.some.injEq, Prod.mk.injEq] at e2
    obtain ⟨q1, q2, q3, q4, q5, q6, q7, q8⟩ := e2
    subst q1 q2 q3 q4 q5 q6 q8
    obtain ⟨g1, h14⟩ := ba h14
    obtain ⟨g2, h14⟩ := ba h14
    obtain ⟨g3, h14⟩ := ba h14
    obtain ⟨g4, g5⟩ := ba h14
    have g1 : codeIn K n13 (d.cn ++ ".__init__") = true := g1
    split at g2
    · rename_i z2
      split at g3
      · rename_i z3
        split at g4
        · rename_i c zc
          split at g4
          · rename_i ccl cdd vs ccs hco
            split at g4
            · rename_i file tf hvs
              split at g5
              · rename_i y cc zcl
                split at g5
                · rename_i cl cld D csl hcc
                  have z2 : n8 = .none := z2
                  have z3 : n9 = .none := z3
                  have zc : n13 = .ref c := zc
                  have zcl : n7 = [(y, cc)] := zcl
                  subst z2 z3 zc zcl
                  have ey : y = ("__class__" : Str) := by simpa using q7
                  have eD : D = d.C K := of_decide_eq_true g5
                  subst ey eD
                  exact ⟨oc, od, n10, n11, n12, c, cc, n14, osl, d.p, hw, ho, g1, ⟨ccl, cdd, vs, ccs, file, tf, hco, hvs, g4⟩, cl, cld, csl, hcc⟩
                · cases g5
              · cases g5
            · cases g4
          · cases g4
        · cases g4
      · cases g3
    · cases g2
  · cases h14
/-! ### the Hook -/
def asQ (g : Addr → Option Obj) : Nat → List Addr
  | 0 => [mainGlobals, cStatics]
  | n + 1 => growD g (asQ g n)
/-- the tables that StR speaks of are those of tf -/
def tbsB (tf : List Defn) (K : Frag) : Bool := (tbs K).all fun p => tf.any fun q => (cT K q).2 == p.1
structure SaysQ (file : Str) (fa : List Fa) (fn : List DefD) (su : List SupD) (tf : List Defn) (ex : Frag → Bool) (h : Heap) (K : Frag) : Prop where
  d : SaysD fa fn K
  su : ∀ d ∈ su, fnS K d = d.val ∧ d.ok file K = true
  more : ex K = true
  tb : tbsB tf K = true
  hd : ∀ p ∈ tf, codeHdIn K (cT K p).1 (cT K p).2 = true
  out : ∀ p ∈ tf, K.lookup (cT K p).2 = none
  empty : ∀ p ∈ tf, h.get? (cT K p).2 = some { cls := .none, data := .fields #[] }
abbrev AlQ : Type := (AlD × List FnS) × Bool
def obsQ (file : Str) (n : Nat) (fa : List Fa) (fn : List DefD) (su : List SupD) (tf : List Defn) (ex : Frag → Bool) (g : Addr → Option Obj) : AlQ :=
  ((obsD fa fn (frT g (asQ g n)), su.map fun d => fnS (frT g (asQ g n)) d), (su.all fun d => d.ok file (frT g (asQ g n))) && (ex (frT g (asQ g n)) && (tbsB tf (frT g (asQ g n)) && tabsB g tf (frT g (asQ g n)))))
def valQ (fn : List DefD) (su : List SupD) : AlQ := ((valD fn, su.map SupD.val), true)
theorem saysQ_of {file : Str} {n : Nat} {fa : List Fa} {fn : List DefD} {su : List SupD} {tf : List Defn} {ex : Frag → Bool} {h : Heap} (e : obsQ file n fa fn su tf ex h.get? = valQ fn su) : SaysQ file fa fn su tf ex h (frT h.get? (asQ h.get? n)) := by
  have e1 : obsD fa fn (frT h.get? (asQ h.get? n)) = valD fn := congrArg (fun z : AlQ => z.1.1) e
  have e2 : (su.map fun d => fnS (frT h.get? (asQ h.get? n)) d) = su.map SupD.val := congrArg (fun z : AlQ => z.1.2) e
  have e3 := congrArg (fun z : AlQ => z.2) e
  obtain ⟨h1, h2⟩ := ba (show ((su.all fun d => d.ok file (frT h.get? (asQ h.get? n))) && (ex (frT h.get? (asQ h.get? n)) && (tbsB tf (frT h.get? (asQ h.get? n)) && tabsB h.get? tf (frT h.get? (asQ h.get? n))))) = true from e3)
  obtain ⟨h3, h4⟩ := ba h2
  obtain ⟨h5, h6⟩ := ba h4
  have key : ∀ p ∈ tf, codeHdIn (frT h.get? (asQ h.get? n)) (cT (frT h.get? (asQ h.get? n)) p).1 (cT (frT h.get? (asQ h.get? n)) p).2 = true ∧ ∃ o, h.get? (cT (frT h.get? (asQ h.get? n)) p).2 = some o ∧ emptyTab o = true := fun p hp => by
    obtain ⟨y1, y2⟩ := ba (List.all_eq_true.mp h6 p hp)
    refine ⟨y1, ?_⟩
    cases q : h.get? (cT (frT h.get? (asQ h.get? n)) p).2 with
    | none => rw [q] at y2; cases y2
    | some o => rw [q] at y2; exact ⟨o, rfl, y2⟩
  refine ⟨e1, fun d hd => ⟨List.map_inj_left.mp e2 d hd, List.all_eq_true.mp h1 d hd⟩, h3, h5, fun p hp => (key p hp).1, fun p hp => ?_, fun p hp => ?_⟩
  · obtain ⟨_, o, q, z⟩ := key p hp
    exact frT_none q z
  · obtain ⟨_, o, q, z⟩ := key p hp
    rw [q, emptyTab_eq z]
def hookQ (file : Str) (n : Nat) (fa : List Fa) (fn : List DefD) (su : List SupD) (tf : List Defn) (ex : Frag → Bool) : PySem.W.Hook where
  α := AlQ
  obs := fun s => obsQ file n fa fn su tf ex s.heap.get?
  val := fun _ => valQ fn su
  says := fun _ h => ∃ K : Frag, K.In h ∧ SaysQ file fa fn su tf ex h K
  of := fun _ _ e => ⟨_, frT_in, saysQ_of e⟩
  keeps := fun _ _ _ ⟨K, hK, c⟩ k => ⟨K, Frag.In.keeps hK k, ⟨c.d, c.su, c.more, c.tb, c.hd, c.out, fun p hp => k _ _ (c.empty p hp)⟩⟩
theorem obsQ_eq {file : Str} {n : Nat} {fa : List Fa} {fn : List DefD} {su : List SupD} {tf : List Defn} {ex : Frag → Bool} {g : Addr → Option Obj} {s : Shared} (h : ∀ a, g a = s.heap.get? a) : obsQ file n fa fn su tf ex g = (hookQ file n fa fn su tf ex).obs s := by
  have e : g = s.heap.get? := funext h
  rw [e] <;> rfl
theorem SaysQ.tabs {file : Str} {fa : List Fa} {fn : List DefD} {su : List SupD} {tf : List Defn} {ex : Frag → Bool} {h : Heap} {K : Frag} (c : SaysQ file fa fn su tf ex h K) (p : Addr × Str) (hp : p ∈ tbs K) : ∃ q ∈ tf.map (cT K), q.2 = p.1 := by
  have h1 := List.all_eq_true.mp c.tb p hp
  obtain ⟨q, h2, h3⟩ := List.any_eq_true.mp h1
  exact ⟨cT K q, List.mem_map_of_mem h2, eq_of_beq h3⟩
end QS
end

section
set_option Elab.async false
set_option linter.all false
set_option maxRecDepth 100000
set_option maxHeartbeats 4000000
/-! QS25: a lambda without parameters handed to a def that calls it. -/
namespace QS
open PySem PySem.Spec PyProof.Rows L2 LamX
/-! ### the slots, packed -/
def pk : En → List D
  | [] => []
  | none :: r => pk r
  | some d :: r => d :: pk r
def pkV : En → St → List V
  | [], _ => []
  | _ :: _, [] => []
  | none :: r, _ :: t => pkV r t
  | some _ :: r, some v :: t => v :: pkV r t
  | some _ :: r, none :: t => pkV r t
theorem pk_rep {K : KZ} {m : List Addr} {H : Hp} : ∀ {ρ : En} {σ : St}, EnR K m H ρ σ → RepL K m H (pk ρ) (pkV ρ σ)
  | [], _, _ => .nil
  | o :: r, [], h => by have := h.len; simp at this
  | o :: r, w :: t, h => by
    have ih := pk_rep (ρ := r) (σ := t) ⟨by have := h.len; simpa using this, fun i d e => h.at_ (i + 1) d (by simpa using e)⟩
    cases o with
    | none => exact ih
    | some d =>
      obtain ⟨v, h1, h2⟩ := h.at_ 0 d rfl
      have h1 : w = some v := by simpa using h1
      subst h1
      exact .cons h2 ih
theorem rep_pk {K K' : KZ} {m m' : List Addr} {H H' : Hp} : ∀ {ρ : En} {σ : St}, EnR K m H ρ σ → RepL K' m' H' (pk ρ) (pkV ρ σ) → EnR K' m' H' ρ σ
  | [], σ, h, _ => ⟨h.len, fun i d e => by simp at e⟩
  | o :: r, [], h, _ => by have := h.len; simp at this
  | o :: r, w :: t, h, q => by
    have h' : EnR K m H r t := ⟨by have := h.len; simpa using this, fun i d e => h.at_ (i + 1) d (by simpa using e)⟩
    cases o with
    | none =>
      have ih := rep_pk h' (show RepL K' m' H' (pk r) (pkV r t) from q)
      refine ⟨h.len, fun i d e => ?_⟩
      cases i with
      | zero => simp at e
      | succ i => exact ih.at_ i d (by simpa using e)
    | some d =>
      obtain ⟨v, h1, h2⟩ := h.at_ 0 d rfl
      have h1 : w = some v := by simpa using h1
      subst h1
      have q : RepL K' m' H' (d :: pk r) (v :: pkV r t) := q
      cases q with
      | cons q1 q2 =>
        have ih := rep_pk h' q2
        refine ⟨h.len, fun i e he => ?_⟩
        cases i with
        | zero =>
          have : d = e := by simpa using he
          subst this
          exact ⟨v, rfl, q1⟩
        | succ i => exact ih.at_ i e (by simpa using he)
/-! ### the call of the thunk -/
open Classical in
/-- call(), call in slot 0 -/
noncomputable def eTh (th : D) (T : M D) : EM := fun ρ s => if ρ[0]? = some (some th) then T s else .stuck
/-- what g makes of the thunk: g's body by the slot's value and the thunk -/
def runTh (n : Nat) (gb : D → M D → SM) (T : M D) (th : D) : M D := fun s => match run n (gb th T) [th] s with
  | .ok d s' => .ok d s'
  | _ => .stuck
open Classical in
noncomputable def eLam (n : Nat) (gb : D → M D → SM) (q : Str) (de : EM) : EM := fun ρ s =>
  if h : ∃ r, ∀ f c vs, runTh n gb (de ρ) (.th f c q (pk ρ) vs) s = r then Classical.choose h else .stuck
section
variable {X : Cx} {pins : List (Addr × Obj)} {σ : L2.St} {H : Hp} {s : Shared}
/-- the call, at the very slots -/
theorem pe_thunk {Ng : List Str} {qg a : Str} {sg scope : Scope} {g f c' : Addr} {cdg pm ctv : Value} {params : Arguments} {body : Expr} {k : Nat} {pn : List (Addr × Obj)} {xe : Value → Shared → Prop} {W : WX} {tb : XK → TE} {p1 p2 : Pos}
    (I : Inv X pins σ H s) (L : LamS X.env.scope scope) (hfo : s.heap.get? f = some (PySem.W.kla_obj "<lambda>" (X.env.qual ++ "<lambda>") params body scope (cloFrom X.env.cells scope.names []) pm c' ctv)) (nf : H f = none) (nfr : f ∉ frs X.stack)
    (hbd : bindArgs (PySem.W.kla_fn "<lambda>" (X.env.qual ++ "<lambda>") params body scope (cloFrom X.env.cells scope.names []) pm (.ref c') ctv) ⟨[], []⟩ = pure [])
    (tk : Takes ((cxOf C8.CX0 X.prog X.w X.K X.mg X.base Ng qg sg g cdg X.A X.stack s H C8.E0).tr pn xe) W) (hr : RoomG (k + 1) (X.A.deeper (envOfC qg sg s.heap.objs.size g cdg)))
    (hb : ∀ (E : XK) (A : Around) (outer : List Env) (s : Shared) (H : Hp), RoomG k (A.deeper (lamEnv X scope s.heap.objs.size f c')) → PE (lamCx X A outer s H E scope f c') body (tb E))
    (hN : Ng[0]? = some a) (hv : Vis sg a) (hd : (a == ("__debug__" : Str)) = false) (hcd : (a == ("__classdict__" : Str)) = false) :
    PE ((cxOf C8.CX0 X.prog X.w X.K X.mg X.base Ng qg sg g cdg X.A X.stack s H C8.E0).tr pn xe) (.Call (.Name a p1) [] [] p2)
      (fun σ₁ H₁ Q => σ₁[0]? = some (some (.ref f)) ∧ H₁ c' = some (CodeO c' (X.env.qual ++ "<lambda>")) ∧ tb (WE W σ₁) σ H₁ Q) := by
  refine ⟨fun pins₁ s₀ σ₁ H₁ Q I₀ ⟨e1, e2, ht⟩ => ?_⟩
  refine wpAny_Call_Name_kw (thn ((pe_var (pos := p1) (i := 0) hN hv hd hcd).run pins₁ s₀ σ₁ H₁ (fun v y => v = .ref f ∧ y = H₁) I₀ ⟨.ref f, e1, rfl, rfl⟩) fun u s₁ ⟨v, y, I₁, ru, ev, ey⟩ => ?_)
  subst ev
  rw [ey] at I₁
  obtain rfl : u = Value.ref f := ru
  have fo₁ := I₁.base.keep f _ hfo nf nfr (fun z => nomatch (show f ∈ ([] : List Addr) from z))
  refine PySem.W.callWith_F0 ⟨_, _, _, _, fo₁⟩ ?_
  have ug : Un (frs X.stack) [] H H₁ s.heap s₁.heap := I₁.base
  obtain ⟨⟨oc, vs, t, w1, w2, w3⟩, _, _⟩ := I₁.hok c' _ e2
  refine wpAny_call (codeAny_mono (R := CR (L2.CX X.prog X.w) (envOfC qg sg s.heap.objs.size g cdg :: X.stack) X.prog X.w H₁ s₁ Q (WE W σ₁)) ?_ fun r s' hq => ?_)
  · refine PySem.W.kla_callFunE hr.depth fo₁ rfl L.co L.gen rfl ⟨c', oc, vs, t, rfl, w1, w2, w3⟩ ?_
    show wpAny _ _ (bindArgs (PySem.W.kla_fn "<lambda>" (X.env.qual ++ "<lambda>") params body scope (cloFrom X.env.cells scope.names []) pm (.ref c') ctv) ⟨[], []⟩) _ _ _
    rw [hbd]
    refine wpAny_pure (wpAny_newFunctionEnv (fun z hz => (L.own z hz).2) (fun z hz => absurd hz (by simp)) (fun h₁ hn hs => ⟨I₁.nolimit.fresh _ hs, ?_⟩) L.kind)
    have kp : ∀ b o, s₁.heap.get? b = some o → h₁.get? b = some o := fun b o e => hs.extBut b o (Nat.ne_of_lt (Heap.lt_size e)) (Heap.get?_push_of_some _ e)
    have J := lam_start2 (E := WE W σ₁) (f := f) (c' := c') (tk := s₁.toks + ([] : List (Str × Value)).length) I L I₁.env0 hr.hd ug hn kp
    refine PySem.W.kla_codeExpr (wpAny_mono ((hb (WE W σ₁) _ _ s₁ H₁ (hr.deeper _)).run [] _ _ H₁ Q J ht) (fun v s' ⟨w', H', J', rv, q⟩ => ⟨w', H', J'.os, J'.bare, J'.base, J'.hok, rv, q⟩) fun _ _ z => z)
  · have px := passAt tk σ₁ pins₁ H₁ s₁
    cases r with
    | error e => exact px e s' I₁ hq
    | ok fl => cases fl with
      | ret u => exact I₁.after hq
      | next => exact False.elim hq
      | brk => exact False.elim hq
      | cont => exact False.elim hq
end
/-- what is promised of the def that gets the thunk -/
def ThG (P : Program) (w : World) (K : PySem.W.Frag) (mg : Str → Option Value) (base : Heap) (Ng : List Str) (x a : Str) (sg : Scope) (g : Addr) (bg : List Stmt) (k : Nat) (gb : D → M D → SM) : Prop :=
  ∀ (zz : List Addr) (cdg : Value) (A : Around) (outer : List Env) (s : Shared) (H : Hp) (th : D) (T : M D), RoomG k (A.deeper (envOfC x sg s.heap.objs.size g cdg)) →
    (∀ (W : WX) (pn : List (Addr × Obj)) (xe : Value → Shared → Prop) (p1 p2 : Pos), Takes ((cxOf C8.CX0 P w K mg base Ng x sg g cdg A outer s H C8.E0).tr pn xe) W → PE ((cxOf C8.CX0 P w K mg base Ng x sg g cdg A outer s H C8.E0).tr pn xe) (.Call (.Name a p1) [] [] p2) (tE (K, zz) W (eTh th T))) →
    PSs (cxOf C8.CX0 P w K mg base Ng x sg g cdg A outer s H C8.E0).nox bg (tS (K, zz) W0 (gb th T))
theorem StR.extN {K : KZ} {m : List Addr} {H H' : Hp} {s : Sto} (S : StR K m H s) (e : ExtN H H') (t : Tabs (tbs K.1) H') : StR K m H' s ∧ Ext m H m H' := by
  have x : Ext m H m H' := ⟨⟨[], by simp, fun _ h => nomatch h⟩, fun a o h n _ => .inl (e a o h n), fun a ⟨o, h, n⟩ => ⟨o, e a o h n, n⟩⟩
  refine ⟨⟨S.len, S.nd, fun d hd => ⟨x.there d (S.hid d hd).1, (S.hid d hd).2⟩, fun n a o h1 h2 => (S.obj n a o h1 h2).ext S.noTup x fun u q => ?_, t⟩, x⟩
  obtain ⟨u', q1, q2⟩ := S.noTup a (List.mem_of_getElem? h1)
  rw [q] at q1
  cases q1
  exact e a u q (mut_nt q2)
section
variable {X : Cx} {zz : List Addr} {W : WX} {de : EM}
/-- x(lambda: body) -/
theorem se_lam {x a : Str} {g c P : Addr} {k : Nat} {pg : Arguments} {bg : List Stmt} {sg : Scope} {fd : FuncData} {Ng : List Str} {params : Arguments} {body : Expr} {scope : Scope} {gb : D → M D → SM} {p lpos pos : Pos}
    (Fd : FunD X.K x x pg bg sg [] [] g fd) (Sg : FnScope Ng [a] sg) (hb : L2.Binds X.K fd [a] []) (hG : ThG X.prog X.w X.K X.mg X.base Ng x a sg g bg (k + 1) gb) (hm : X.mg x = some (.ref g))
    (TB : TabB X.base X.mg c P) (hcode : X.env.code = .ref c) (hmT : (P, X.env.qual ++ "<lambda>") ∈ tbs X.K) (hu : ∀ p ∈ tbs X.K, p.1 = P → p.2 = X.env.qual ++ "<lambda>") (hr : RoomG (k + 2) X.A) (L : LamS X.env.scope scope)
    (hbody : ∀ (E : XK) (A : Around) (outer : List Env) (s : Shared) (H : Hp) (f c' : Addr), RoomG k (A.deeper (lamEnv X scope s.heap.objs.size f c')) → Takes (lamCx X A outer s H E scope f c') (WF E) → PE (lamCx X A outer s H E scope f c') body (tE (X.K, zz) (WF E) de))
    (hbd : ∀ (q : Str) (cl : List (Str × Addr)) (pm cv ctv : Value), bindArgs (PySem.W.kla_fn "<lambda>" q params body scope cl pm cv ctv) ⟨[], []⟩ = pure [] := by intros; rfl)
    (hdef : defaultsOf params X.env = ([], []) := by rfl) (hNg : Ng[0]? = some a := by rfl) (hva : Vis sg a := by first | exact Or.inl rfl | exact Or.inr (Or.inl rfl) | exact Or.inr (Or.inr rfl)) (hg : Gl X x := by rfl)
    (hdb : (x == ("__debug__" : Str)) = false := by decide) (hd : (a == ("__debug__" : Str)) = false := by decide) (hcd : (a == ("__classdict__" : Str)) = false := by decide) :
    PE X (.Call (.Name x p) [.Lambda params body scope lpos] [] pos) (tE (X.K, zz) W (eLam Ng.length gb (X.env.qual ++ "<lambda>") de)) := by
  refine ⟨fun pins s σ H Q I ⟨m, ρ, st, hE, hS, hQ⟩ => ?_⟩
  obtain ⟨oc, od, dV, kV, doc, pm, an, cdv, ct, osl, ef, lk, hcg, _, _⟩ := Fd.ex
  subst ef
  unfold eLam at hQ
  by_cases ex : ∃ r, ∀ f c vs, runTh Ng.length gb (de ρ) (.th f c (X.env.qual ++ "<lambda>") (pk ρ) vs) st = r
  · rw [dif_pos ex] at hQ
    have hres := Classical.choose_spec ex
    refine wpAny_Call_Name_kw (ld_glob I hg hm ?_ hdb)
    refine PySem.W.callWith_K (h₀ := X.base) I.ok.mod.kin Fd.kp ?_ (by rfl) (by rfl)
    refine Calls.spliced_cons (lam_make2 I TB hcode hmT hu hS.tab hdef (L.has I.ok) fun f c' pm' ctv H1 s' I1 eN T1 hf hfn hfr hco => Calls.spliced_nil ⟨I1.kIn, ?_⟩)
    obtain ⟨S1, x1⟩ := hS.extN eN T1
    have E1 := hE.ext hS.noTup x1
    have nc : c' ∉ m := fun z => by
      obtain ⟨u, y1, y2⟩ := S1.noTup c' z
      rw [hco] at y1
      cases y1
      exact mut_code y2 _ rfl
    have rth : Rep (X.K, zz) m H1 (.th f c' (X.env.qual ++ "<lambda>") (pk ρ) (pkV ρ σ)) (.ref f) := .th nc hco (pk_rep E1)
    refine wpAny_call (codeAny_mono (R := CR C8.CX0 X.stack X.prog X.w H1 s' Q C8.E0) (run_ofS (N := Ng) (ps := [a]) (us := [.ref f]) (vs := [.ref f]) lk hcg Sg hr.r I1.env0 (hb s' [.ref f] I1.kIn rfl) (.cons rfl .nil) rfl fun _ => ?_) fun r s2 hq => ?_)
    · have hr' : RoomG (k + 1) (X.A.deeper (envOfC x sg s'.heap.objs.size g cdv)) := hr.deeper _
      refine ⟨_, (hG zz cdv X.A X.stack s' H1 (.th f c' (X.env.qual ++ "<lambda>") (pk ρ) (pkV ρ σ)) (de ρ) hr' (fun W₁ pn xe p1 p2 tk => ?_)).nox, ?_⟩
      · refine PE.imp (pe_thunk (tb := fun E => tE (X.K, zz) (WF E) de) I1 L hf hfn hfr (hbd _ _ _ _ _) tk hr' (fun E A outer s H hr2 => hbody E A outer s H f c' hr2 (takes_of rfl rfl rfl rfl)) hNg hva hd hcd) fun σ₁ H₁ Q₁ ⟨m₁, ρ₁, s₁, hE₁, hS₁, hG₁⟩ => ?_
        unfold eTh at hG₁
        by_cases e0 : ρ₁[0]? = some (some (.th f c' (X.env.qual ++ "<lambda>") (pk ρ) (pkV ρ σ)))
        · rw [if_pos e0] at hG₁
          obtain ⟨v, y1, y2⟩ := hE₁.at_ 0 _ e0
          cases y2 with
          | th n1 n2 n3 =>
            refine ⟨y1, n2, m₁, ρ, s₁, rep_pk E1 n3, hS₁, ?_⟩
            cases z : de ρ s₁ with
            | ok a s2 => rw [z] at hG₁; exact hG₁
            | exn y s2 => rw [z] at hG₁; exact hG₁
            | stuck => rw [z] at hG₁; exact hG₁
        · rw [if_neg e0] at hG₁; exact hG₁.elim
      · have hr0 := hres f c' (pkV ρ σ)
        refine ⟨m, _, st, EnR.start (.cons rth .nil) Ng, S1, ?_⟩
        rw [← hr0] at hQ
        unfold runTh run at hQ
        cases z : gb (.th f c' (X.env.qual ++ "<lambda>") (pk ρ) (pkV ρ σ)) (de ρ) ([D.th f c' (X.env.qual ++ "<lambda>") (pk ρ) (pkV ρ σ)].map some ++ List.replicate (Ng.length - [D.th f c' (X.env.qual ++ "<lambda>") (pk ρ) (pkV ρ σ)].length) none) st with
        | nx ρ2 s2 => simp only [z] at hQ; exact fun m2 H2 σ2 y S2 _ => hQ m2 H2 .non (x1.trans y) S2 .non
        | rt d s2 => simp only [z] at hQ; exact fun m2 H2 v y S2 r2 => hQ m2 H2 v (x1.trans y) S2 r2
        | exn y ρ2 s2 => simp only [z] at hQ; exact hQ.elim
        | bk ρ2 s2 => simp only [z] at hQ; exact hQ.elim
        | ct ρ2 s2 => simp only [z] at hQ; exact hQ.elim
        | stuck => simp only [z] at hQ; exact hQ.elim
    · cases r with
      | error e => exact (show False from hq).elim
      | ok fl => cases fl with
        | ret u => exact I1.after hq
        | next => exact False.elim hq
        | brk => exact False.elim hq
        | cont => exact False.elim hq
  · rw [dif_neg ex] at hQ; exact hQ.elim
end
end QS
end

section
set_option Elab.async false
set_option linter.all false
set_option maxRecDepth 100000
set_option maxHeartbeats 4000000
/-! QS26: tables of exception classes; repr of data; a dict of one item; lambdas by their promise. -/
namespace QS
open PySem PySem.Spec PyProof.Rows L2
/-! ### own exception classes: BellError, and classes right below it -/
def isXd (c C : Str) : Bool := c == C || C == "BellError"
def exB (excs isxs hnds flds : List Str) (K : PySem.W.Frag) : Bool :=
  (excs.all fun c => excC_B K (He.ga K c)) && ((excs.all fun c => isxs.all fun C => decide (PySem.W.kitOne K (.ref (He.ga K c)) (.ref (He.ga K C)) = some (isXd c C))) &&
  ((excs.all fun c => decide (PySem.W.kitOne K (.ref (He.ga K c)) (.type "ValueError") = some true)) && ((excs.all fun c => hnds.all fun C => decide (PySem.W.exmOne K (.ref (He.ga K c)) (.ref (He.ga K C)) = some (isXd c C))) &&
  (excs.all fun c => flds.all fun f => He.eqO (PySem.W.findIn K (.ref (He.ga K c)) f) (some none)))))
/-- what the clause 'except C' does with an exception -/
def mtX (excs : List Str) (C : Str) : Ex → Option Bool := fun x => if x.own = true ∧ x.cls ∈ excs then some (isXd x.cls C) else none
section
variable {excs isxs hnds flds : List Str} {K : PySem.W.Frag} (h : exB excs isxs hnds flds K = true)
include h
theorem exB_cl {c : Str} (hc : c ∈ excs) : ExCl K (He.ga K c) := by
  unfold exB at h
  simp only [Bool.and_eq_true, List.all_eq_true] at h
  exact exCl_of (h.1 c hc)
theorem exB_is {c C : Str} (hc : c ∈ excs) (hC : C ∈ isxs) : PySem.W.kitOne K (.ref (He.ga K c)) (.ref (He.ga K C)) = some (isXd c C) := by
  unfold exB at h
  simp only [Bool.and_eq_true, List.all_eq_true] at h
  exact of_decide_eq_true (h.2.1 c hc C hC)
theorem exB_ve {c : Str} (hc : c ∈ excs) : PySem.W.kitOne K (.ref (He.ga K c)) (.type "ValueError") = some true := by
  unfold exB at h
  simp only [Bool.and_eq_true, List.all_eq_true] at h
  exact of_decide_eq_true (h.2.2.1 c hc)
theorem exB_m {C : Str} (hC : C ∈ hnds) : ∀ (y : Ex) (b : Bool) (cv : Value), mtX excs C y = some b → (if y.own = true then cv = .ref (He.ga K y.cls) else cv = .type y.ty) → PySem.W.exmOne K cv (.ref (He.ga K C)) = some b := by
  intro y b cv e1 e2
  unfold mtX at e1
  by_cases c : y.own = true ∧ y.cls ∈ excs
  · rw [if_pos c] at e1
    rw [if_pos c.1] at e2
    cases e1
    subst e2
    unfold exB at h
    simp only [Bool.and_eq_true, List.all_eq_true] at h
    exact of_decide_eq_true (h.2.2.2.1 y.cls c.2 C hC)
  · rw [if_neg c] at e1; cases e1
theorem exB_f {c f : Str} (hc : c ∈ excs) (hf : f ∈ flds) : PySem.W.findIn K (.ref (He.ga K c)) f = some none := by
  unfold exB at h
  simp only [Bool.and_eq_true, List.all_eq_true] at h
  exact He.eqO_ok (h.2.2.2.2 c hc f hf)
end
theorem mtX_in {excs : List Str} {C : Str} {y : Ex} {b : Bool} (e : mtX excs C y = some b) : y.own = true ∧ y.cls ∈ excs := by
  unfold mtX at e
  by_cases c : y.own = true ∧ y.cls ∈ excs
  · exact c
  · rw [if_neg c] at e; cases e
section
variable {excs isxs hnds flds : List Str} {zz : List Addr} {X : Cx} {W : WX} {e c : Expr} {de : EM} {pos p : Pos} {a : Addr} {d : Option Addr} {oe : Obj} {pn : List (Addr × Obj)} {y : Ex} {cv : Value} {H C f : Str}
/-- isinstance(e, C) in the suite that caught y -/
theorem se_isXo (h : exB excs isxs hnds flds X.K = true) (hy : mtX excs H y = some true) (hcv : if y.own = true then cv = .ref (He.ga X.K y.cls) else cv = .type y.ty) (hz : Zc cv d oe) (hf : ∃ vs, oe.data = .fields vs) (hm : X.mg "isinstance" = none)
    (he : PE (X.suite a ((a, oe) :: pn)) e (tE (X.K, zz) W de)) (hC : X.mg C = some (.ref (He.ga X.K C))) (hi : C ∈ isxs := by decide) (hg : Gl X "isinstance" := by rfl) (hgC : Gl X C := by rfl) (hd : (C == ("__debug__" : Str)) = false := by decide)
    (hs1 : starEach [e, .Name C p] X.env = (false, eval e X.env) :: starEach [.Name C p] X.env := by rfl) (hs2 : starEach [.Name C p] X.env = (false, eval (.Name C p) X.env) :: starEach [] X.env := by rfl) {p0 : Pos} (hpl : (backTo pos (starEach [.Name C p] X.env)).any (·.1) = false := by rfl) :
    PE (X.suite a ((a, oe) :: pn)) (.Call (.Name "isinstance" p0) [e, .Name C p] [] pos) (tE (X.K, zz) W (eIsX a d (some (isXd y.cls C)) de)) := by
  obtain ⟨o, hc⟩ := mtX_in hy
  rw [if_pos o] at hcv
  subst hcv
  exact se_isX (exB_cl h hc) hz hf (fun b hb => by cases hb; exact exB_is h hc hi) hm he (pe_clsN (X := X.suite a ((a, oe) :: pn)) hC hgC hd) (fun w r => r) hg hs1 hs2 hpl
theorem se_isXv (h : exB excs isxs hnds flds X.K = true) (hy : mtX excs H y = some true) (hcv : if y.own = true then cv = .ref (He.ga X.K y.cls) else cv = .type y.ty) (hz : Zc cv d oe) (hf : ∃ vs, oe.data = .fields vs) (hm : X.mg "isinstance" = none)
    (he : PE (X.suite a ((a, oe) :: pn)) e (tE (X.K, zz) W de)) (hv : X.mg (Str.ofString "ValueError") = none) (hbt : bootBuiltins (Str.ofString "ValueError") = some (.type "ValueError") := by first | rfl | decide +kernel) (hg : Gl X "isinstance" := by rfl) (hgC : Gl X (Str.ofString "ValueError") := by rfl)
    (hs1 : starEach [e, .Name "ValueError" p] X.env = (false, eval e X.env) :: starEach [.Name "ValueError" p] X.env := by rfl) (hs2 : starEach [.Name "ValueError" p] X.env = (false, eval (.Name "ValueError" p) X.env) :: starEach [] X.env := by rfl) {p0 : Pos} (hpl : (backTo pos (starEach [.Name "ValueError" p] X.env)).any (·.1) = false := by rfl) :
    PE (X.suite a ((a, oe) :: pn)) (.Call (.Name "isinstance" p0) [e, .Name "ValueError" p] [] pos) (tE (X.K, zz) W (eIsX a d (some true) de)) := by
  obtain ⟨o, hc⟩ := mtX_in hy
  rw [if_pos o] at hcv
  subst hcv
  exact se_isX (exB_cl h hc) hz hf (fun b hb => by cases hb; exact exB_ve h hc) hm he (pe_tyN (X := X.suite a ((a, oe) :: pn)) (T := "ValueError") hv hbt hgC) (fun w r => r) hg hs1 hs2 hpl
theorem se_xfo (h : exB excs isxs hnds flds X.K = true) (hy : mtX excs H y = some true) (hcv : if y.own = true then cv = .ref (He.ga X.K y.cls) else cv = .type y.ty) (hz : Zc cv d oe) (hf : ∃ vs, oe.data = .fields vs)
    (he : PE (X.suite a ((a, oe) :: pn)) e (tE (X.K, zz) W de)) (hi : f ∈ flds := by decide) (hb : attributeBase e f X.env (eval e X.env) = eval e X.env := by rfl) :
    PE (X.suite a ((a, oe) :: pn)) (.Attribute e f pos) (tE (X.K, zz) W (eXf a d f de)) := by
  obtain ⟨o, hc⟩ := mtX_in hy
  rw [if_pos o] at hcv
  subst hcv
  exact se_xf (exB_cl h hc) (exB_f h hc hi) hz hf he hb
end
/-! ### repr of data -/
def gReprD : List D → V1 D := g1 fun s x => (datOf s x).bind fun d => if d.showable = true ∧ d.hasDict = false ∧ d.depth ≤ 60 ∧ d.shown.length ≤ sizeLine then some (.str d.shown) else none
section
variable {X : Cx} {zz : List Addr}
theorem c_reprD {k : Nat} (hr : RoomG k X.A) : CallR X (.builtin "repr") (rL (X.K, zz) gReprD) := by
  intro pins s σ H xs us Q I r h
  obtain ⟨m, d, e, st, v, rfl, S, hd, he, q⟩ := g1_at h
  obtain ⟨u, rfl, ru⟩ := vals1 r
  obtain ⟨x, h1, h2⟩ := Option.bind_eq_some_iff.mp he
  by_cases c : x.showable = true ∧ x.hasDict = false ∧ x.depth ≤ 60 ∧ x.shown.length ≤ sizeLine
  · rw [if_pos c] at h2
    cases h2
    obtain ⟨c1, c2, c3, c4⟩ := c
    obtain ⟨as, rd⟩ := Dp.reads I x v u (datOf_at S hd h1) ru
    have hu := hr.un
    have fin : ∀ h' u' tk, (∀ b o, s.heap.get? b = some o → h'.get? b = some o) → EP X pins σ Q (.str x.shown u') { s with heap := h', toks := tk } := fun h' u' tk k => ⟨.str x.shown, H, I.kept k, ⟨_, rfl⟩, q _ (.str _)⟩
    cases u with
    | ref a => exact repr_of_reads' rd c1 (PyData.noDict_hsm c2) hr.gd (by omega) (fun _ _ e => e) fin c4
    | none =>
      cases rd
      exact PySem.P.repr_of_none (fin s.heap _ _ fun _ _ e => e)
    | bool b =>
      cases rd
      exact PySem.P.repr_of_bool (fin s.heap _ _ fun _ _ e => e)
    | int i t =>
      cases rd
      exact PySem.P.repr_of_int (by simpa [PyData.showable] using c1) (fin s.heap _ _ fun _ _ e => e)
    | str z t =>
      cases rd
      exact PySem.P.repr_of_str (fin s.heap _ _ fun _ _ e => e) (by simpa only [PyData.shown] using c4)
    | _ => cases rd
  · rw [if_neg c] at h2; cases h2
end
@[simp] theorem wpv_reprD {x : D} {s : Sto} {Q : D → Sto → Prop} {d : PyData} (h : datOf s x = some d) (c : d.showable = true ∧ d.hasDict = false ∧ d.depth ≤ 60 ∧ d.shown.length ≤ sizeLine) : wpv (gReprD [x] s) Q = Q (.str d.shown) s := by
  have e : gReprD [x] s = some (.str d.shown, s) := by simp only [gReprD, g1, h, Option.bind_some, if_pos c, Option.map_some]
  rw [e, wpv_some]
/-! ### a dict of no item, of one item -/
def newD (mu : Bool) (ks : List Key) (vs : List D) : V1 D := fun s => if mu = true then some (.loc s.length, s ++ [.dic ks vs]) else some (.dic ks vs, s)
def eDic0 (mu : Bool) : EM := fun _ => lift (newD mu [] [])
def eDic1 (mu : Bool) (k : Key) (e : EM) : EM := fun ρ s => match e ρ s with
  | .ok v s' => lift (newD mu [k] [v]) s'
  | _ => .stuck
section
variable {X : Cx} {zz : List Addr} {W : WX} {e ke : Expr} {de : EM} {pos : Pos} {k : Key} {mu : Bool}
theorem newD_ok {K : KZ} {m : List Addr} {H : Hp} {s : Sto} {Q : VK} {ks : List Key} {ds : List D} {vs : List V} (S : StR K m H s) (r : RepL K m H ds vs) (hl : ks.length = vs.length) (h : GoodV K m H Q (newD mu ks ds s)) (p : Addr) (hp : H p = none) : Q (.ref p) (upd H p (.dK (ks.zip vs))) := by
  unfold newD at h
  cases mu with
  | false =>
    have h : GoodV K m H Q (some (.dic ks ds, s)) := h
    exact h m _ _ (Ext.same (same_upd hp)) (S.same (same_upd hp)) (.dic (fresh_notin S hp) hl (.inl upd_same) (RepL.upd S r hp))
  | true =>
    have h : GoodV K m H Q (some (.loc s.length, s ++ [.dic ks ds])) := h
    refine h (m ++ [p]) _ _ (Ext.new hp) (S.new hp ⟨vs, hl, upd_same, RepL.ext S.noTup (Ext.new hp) r⟩) (.loc ?_)
    rw [← S.len]
    simp
theorem se_dic0 : PE X (.Dict [] [] pos) (tE (X.K, zz) W (eDic0 mu)) :=
  PE.imp pe_dnewK fun σ H Q ⟨m, ρ, s, hE, hS, hG⟩ p hp => newD_ok hS .nil rfl hG.lift p hp
/-- a hidden dict is written -/
theorem rd_no {H : Hp} {p : Addr} {kv : List (Key × V)} (hp : Rd H p (.dK kv)) {o : HO} (h : H p = some o) : o = .dK kv ∨ ∃ ob, o = .frz ob (.dK kv) := by
  rcases hp with q | ⟨ob, q⟩
  · rw [h] at q; exact .inl (Option.some.inj q)
  · rw [h] at q; exact .inr ⟨ob, Option.some.inj q⟩
theorem chg_dupd {k : PySem.W.Frag} {z : List Addr} {m : List Addr} {H : Hp} {p : Addr} {kv : List (Key × V)} {o : HO} (hp : Rd H p (.dK kv)) : Chg k (p :: z) m H z m (upd H p o) where
  tup := SqT.of_keep (fun vs e => by rcases rd_no hp e with q | ⟨_, q⟩ <;> cases q) (fun o' vs e => by rcases rd_no hp e with q | ⟨_, q⟩ <;> cases q)
  scr := SqF.of_keep (fun o' vs e => by rcases rd_no hp e with q | ⟨_, q⟩ <;> cases q)
  xd := fun a u k n e => ⟨n, by
    rw [upd_ne (fun q => by subst q; rcases rd_no hp e with q | ⟨_, q⟩ <;> (subst q; exact k))]; exact e⟩
  obj := fun a u n e _ => ⟨⟨n.1, fun q => n.2 (List.mem_cons_of_mem _ q)⟩, .inl (by rw [upd_ne (fun q => by subst q; exact n.2 List.mem_cons_self)]; exact e)⟩
  loc := fun n a h => h
theorem str_dupd {k : PySem.W.Frag} {z : List Addr} {m : List Addr} {H : Hp} {s : Sto} {p : Addr} {kv : List (Key × V)} {o : HO} (nz : p ∉ z) (S : StR (k, p :: z) m H s) (hp : Rd H p (.dK kv)) : StR (k, z) m (upd H p o) s := by
  have np := (S.hid p List.mem_cons_self).2
  have tb : LamX.Tabs (tbs k) (upd H p o) := by
    rcases hp with hp | ⟨ob, hp⟩
    · exact tabs_upd S.tab hp (fun _ z => nomatch z) (fun _ z => nomatch z)
    · exact tabs_upd S.tab hp (fun _ z => nomatch z) (fun _ z => nomatch z)
  refine ⟨S.len, S.nd, fun d hd => ?_, fun n a u h1 h2 => (S.obj n a u h1 h2).chg (chg_dupd hp) fun u q => by rw [upd_ne (fun e => by subst e; exact np (List.mem_of_getElem? h1))]; exact q, tb⟩
  obtain ⟨u, e1, e2⟩ := (S.hid d (List.mem_cons_of_mem _ hd)).1
  have ne : d ≠ p := fun q => by subst q; exact nz hd
  exact ⟨⟨u, by rw [upd_ne ne]; exact e1, e2⟩, (S.hid d (List.mem_cons_of_mem _ hd)).2⟩
/-- what was locked on the way is open again -/
def tUnl (t : TE) : TE := fun σ H Q => ∃ p u, H p = some u ∧ Mut (some u) ∧ t σ H fun x H' => (H' p = some u ∧ Q x H') ∨ ∃ od, H' p = some (.frz od u) ∧ Q x (upd H' p u)
theorem pe_unl {e : Expr} {t : TE} (h : PE X e t) : PE X e (tUnl t) := ⟨fun pins s σ H Q I ⟨p, u, hp, mu, q⟩ => thn (h.run pins s σ H _ I q) fun v s1 ⟨x, H1, I1, r, c⟩ => by
  rcases c with ⟨_, q⟩ | ⟨od, e2, q⟩
  · exact ⟨x, H1, I1, r, q⟩
  · exact ⟨x, _, I1.unlock e2 (I.nofrz hp mu), r, q⟩⟩
theorem upd_upd {H : Hp} {p : Addr} {a b : HO} : upd (upd H p a) p b = upd H p b := by
  funext x
  by_cases e : x = p
  · subst e; rw [upd_same, upd_same]
  · rw [upd_ne e, upd_ne e, upd_ne e]
theorem Ext.dput {m m1 : List Addr} {H H1 : Hp} {p : Addr} {k o : HO} (hp : H p = none) (e1 : Ext m (upd H p k) m1 H1) : Ext m H m1 (upd H1 p o) := by
  refine ⟨?_, fun a u h t n => ?_, fun a ⟨u, h, t⟩ => ?_⟩
  · obtain ⟨t, et, hn⟩ := e1.more
    refine ⟨t, et, fun a ha ⟨o, h, nt⟩ => hn a ha ⟨o, ?_, nt⟩⟩
    rw [upd_ne (fun q => by subst q; rw [hp] at h; cases h)]
    exact h
  · have ne : a ≠ p := fun q => by subst q; rw [hp] at h; cases h
    unfold Lk
    rw [upd_ne ne]
    exact e1.keep a u (by rw [upd_ne ne]; exact h) t n
  · have ne : a ≠ p := fun q => by subst q; rw [hp] at h; cases h
    obtain ⟨o', h', t'⟩ := e1.there a ⟨u, by rw [upd_ne ne]; exact h, t⟩
    exact ⟨o', by rw [upd_ne ne]; exact h', t'⟩
theorem se_dic1 (hk : PE X ke (tC (kV k))) (he : ∀ zz, PE X e (tE (X.K, zz) W0 de)) : PE X (.Dict [some ke] [e] pos) (tE (X.K, zz) W (eDic1 false k de)) := by
  refine PE.imp (pe_disp (pps_cons hk (pe_unl (PE.anyz he)) pps_nil) rfl rfl (by simp) (by simp)) fun σ H Q ⟨m, ρ, s, hE, hS, hG⟩ p hp => ?_
  have C0 : Chg X.K zz m H (p :: zz) m (upd H p (.dK [])) := chg_hide hp
  have S0 : StR (X.K, p :: zz) m (upd H p (.dK [])) s := str_hide hS hp
  refine ⟨p, .dK [], upd_same, True.intro, p :: zz, m, ρ, s, hE.chg C0, S0, ?_⟩
  unfold eDic1 at hG
  have nz := (fresh_notin hS hp)
  cases z : de ρ s with
  | stuck => rw [z] at hG; exact hG.elim
  | exn x s1 => rw [z] at hG; exact hG.elim
  | ok v s1 =>
    rw [z] at hG
    intro m1 H1 u e1 S1 r1
    have lk := e1.keep p _ upd_same (fun _ z => nomatch z) nz.1
    have S2 : StR (X.K, zz) m1 (upd H1 p (.dK [(k, u)])) s1 := str_dupd nz.2 S1 lk.rd
    have r2 : Rep (X.K, zz) m1 (upd H1 p (.dK [(k, u)])) v u := r1.chg (chg_dupd lk.rd)
    have fin := hG m1 _ _ (Ext.dput (o := .dK [(k, u)]) hp e1) S2 (.dic ⟨(S1.hid p List.mem_cons_self).2, nz.2⟩ rfl (.inl upd_same) (.cons r2 .nil))
    rcases lk with hp1 | ⟨ob, _, _, hp1⟩
    · exact .inl ⟨hp1, hp1, [(k, u)], rfl, by simp, fin⟩
    · exact .inr ⟨ob, hp1, upd_same, [(k, u)], rfl, by simp, by rw [upd_upd]; exact fin⟩
end
section
variable {ρ : En} {s : Sto} {Q : D → Sto → Prop} {E : Ex → Sto → Prop} {e : EM} {k : Key}
@[simp] theorem wp_eDic0 : wp (eDic0 false ρ s) Q E = Q (.dic [] []) s := by simp [eDic0, newD]
@[simp] theorem wp_eDic1 : wp (eDic1 false k e ρ s) Q = wp (e ρ s) fun v s' => Q (.dic [k] [v]) s' := by
  unfold eDic1
  cases e ρ s <;> simp [newD]
end
/-! ### lambdas by their promise -/
def ThF (P : Program) (w : World) (K : PySem.W.Frag) (mg : Str → Option Value) (base : Heap) (Ng : List Str) (x a : Str) (g : Addr) (k : Nat) (gb : D → M D → SM) : Prop :=
  ∃ (pg : Arguments) (bg : List Stmt) (sg : Scope) (fd : FuncData), FunD K x x pg bg sg [] [] g fd ∧ FnScope Ng [a] sg ∧ L2.Binds K fd [a] [] ∧ ThG P w K mg base Ng x a sg g bg k gb ∧ Ng[0]? = some a ∧ Vis sg a
/-- the table of the def at p, and what its lambdas are called -/
def lamB (p : He.Defn) (K : PySem.W.Frag) : Bool := (tbs K).contains ((He.cT K p).2, p.1 ++ ".<locals>." ++ "<lambda>") && (tbs K).all fun q => !(q.1 == (He.cT K p).2) || q.2 == p.1 ++ ".<locals>." ++ "<lambda>"
section
variable {X : Cx} {zz : List Addr} {W : WX} {de : EM}
theorem codeAt_ct {K : PySem.W.Frag} {q : He.Defn} {cdv : Value} (h : CodeAt K (He.fAd K q) cdv) : cdv = .ref (He.cT K q).1 := by
  obtain ⟨c, oc, od, osl, fd, rfl, lk, e⟩ := h
  exact congrArg Value.ref (He.codeOf_eq lk e).symm
theorem se_lamO {x a : Str} {g : Addr} {q : He.Defn} {k kk : Nat} {Ng : List Str} {params : Arguments} {body : Expr} {scope : Scope} {gb : D → M D → SM} {p lpos pos : Pos}
    (hG : ThF X.prog X.w X.K X.mg X.base Ng x a g (k + 1) gb) (hm : X.mg x = some (.ref g)) (TB : LamX.TabB X.base X.mg (He.cT X.K q).1 (He.cT X.K q).2) (hcode : X.env.code = .ref (He.cT X.K q).1) (hq : X.env.qual = q.1 ++ ".<locals>.") (hl : lamB q X.K = true)
    (hr : RoomG kk X.A) (hk : k + 2 ≤ kk) (L : LamX.LamS X.env.scope scope)
    (hbody : ∀ (E : XK) (A : Around) (outer : List Env) (s : Shared) (H : Hp) (f c' : Addr), RoomG k (A.deeper (LamX.lamEnv X scope s.heap.objs.size f c')) → Takes (LamX.lamCx X A outer s H E scope f c') (WF E) → PE (LamX.lamCx X A outer s H E scope f c') body (tE (X.K, zz) (WF E) de))
    (hbd : ∀ (q : Str) (cl : List (Str × Addr)) (pm cv ctv : Value), bindArgs (PySem.W.kla_fn "<lambda>" q params body scope cl pm cv ctv) ⟨[], []⟩ = pure [] := by intros; rfl)
    (hdef : defaultsOf params X.env = ([], []) := by rfl) (hg : Gl X x := by rfl) (hdb : (x == ("__debug__" : Str)) = false := by decide) (hd : (a == ("__debug__" : Str)) = false := by decide) (hcd : (a == ("__classdict__" : Str)) = false := by decide) :
    PE X (.Call (.Name x p) [.Lambda params body scope lpos] [] pos) (tE (X.K, zz) W (eLam Ng.length gb (q.1 ++ ".<locals>." ++ "<lambda>") de)) := by
  obtain ⟨pg, bg, sg, fd, Fd, Sg, hb, h, hNg, hva⟩ := hG
  unfold lamB at hl
  rw [Bool.and_eq_true, List.all_eq_true] at hl
  obtain ⟨l1, l2⟩ := hl
  have z := se_lam (zz := zz) (W := W) (de := de) (p := p) (lpos := lpos) (pos := pos) Fd Sg hb h hm TB hcode (by rw [hq]; exact List.contains_iff_mem.mp l1) (fun y hy e => by
    have w := l2 y hy
    rw [hq]
    have e' : (y.1 == (He.cT X.K q).2) = true := by rw [e]; simp
    rw [e'] at w
    simpa using w) (hr.mono hk) L hbody hbd hdef hNg hva hg hdb hd hcd
  rw [hq] at z
  exact z
end
/-- the thunk's call -/
theorem eLam_eq {n : Nat} {gb : D → M D → SM} {q : Str} {de : EM} {ρ : En} {s : Sto} {r : Res D} (h : ∀ f c vs, runTh n gb (de ρ) (.th f c q (pk ρ) vs) s = r) : eLam n gb q de ρ s = r := by
  unfold eLam
  have ex : ∃ r, ∀ f c vs, runTh n gb (de ρ) (.th f c q (pk ρ) vs) s = r := ⟨r, h⟩
  rw [dif_pos ex]
  exact (Classical.choose_spec ex 0 0 []).symm.trans (h 0 0 [])
@[simp] theorem wp_eTh {th : D} {T : M D} {ρ : En} {s : Sto} {Q : D → Sto → Prop} {E : Ex → Sto → Prop} (h : ρ[0]? = some (some th)) : wp (eTh th T ρ s) Q E = wp (T s) Q E := by
  unfold eTh
  rw [if_pos h]
end QS
end

section
set_option Elab.async false
set_option linter.all false
set_option maxRecDepth 100000
set_option maxHeartbeats 1000000
/-! QR: how long the text of data is. -/
namespace QS
open PySem PySem.Spec PyProof.Rows L2
theorem textFrom_le : ∀ (ts : List Str) (k : Nat) (acc : Str), (textFrom k acc ts).length ≤ acc.length + piled ts
  | [], k, acc => by show acc.length ≤ _; omega
  | t :: r, k, acc => by
    have ih := textFrom_le r (k + 1) (acc ++ (if k > 0 then ", " else "" : String) ++ t)
    have e : (acc ++ (if k > 0 then ", " else "" : String) ++ t).length ≤ acc.length + 2 + t.length := by
      rw [strLen_append, strLen_append]
      have : (Str.ofString (if k > 0 then ", " else "" : String)).length ≤ 2 := by
        by_cases c : k > 0
        · rw [if_pos c]; decide
        · rw [if_neg c]; decide
      omega
    have e2 : piled (t :: r) = t.length + 2 + piled r := by simp [piled]
    show (textFrom (k + 1) (acc ++ (if k > 0 then ", " else "" : String) ++ t) r).length ≤ _
    omega
theorem listText_le (ts : List Str) : (listText ts).length ≤ 2 + piled ts := by
  have h := textFrom_le ts 0 "["
  unfold listText
  rw [strLen_append]
  have e1 : (Str.ofString "[").length = 1 := rfl
  have e2 : (Str.ofString "]").length = 1 := rfl
  omega
theorem tupleText_le (ts : List Str) : (tupleText ts).length ≤ 3 + piled ts := by
  unfold tupleText
  rw [strLen_append, strLen_append]
  have e1 : (Str.ofString "(").length = 1 := rfl
  have e2 : (Str.ofString (if ts.length == 1 then ",)" else ")" : String)).length ≤ 2 := by
    cases ts.length == 1 <;> decide
  cases ts with
  | nil =>
    have : (Str.join ", " ([] : List Str)).length = 0 := rfl
    omega
  | cons t r =>
    have := join_length_add (t :: r) (by simp)
    omega
theorem shown_int_le {i : Int} (h : i.natAbs < 10 ^ 500) : (PyData.int i).shown.length ≤ 501 := by
  have := int_text_length_le10 (k := 500) (by decide) h
  show (Str.ofString (toString i)).length ≤ 501
  rw [PySem.ofString_length]
  exact this
theorem showable_int {i : Int} (h : i.natAbs < 10 ^ 500) : (PyData.int i).showable = true := by
  simp only [PyData.showable, decide_eq_true_eq]
  by_cases z : i.natAbs = 0
  · rw [z]; decide
  · exact (Nat.log2_lt z).mpr (Nat.lt_of_lt_of_le h (by decide))
/-! None or a number -/
def pdO : Option Int → PyData
  | none => .none
  | some i => .int i
theorem dat0_optI (o : Option Int) : dat0 (optI o) = some (pdO o) := by cases o <;> rfl
theorem pdO_ok {o : Option Int} (h : ∀ i, o = some i → i.natAbs < 10 ^ 500) : (pdO o).showable = true ∧ (pdO o).hasDict = false ∧ (pdO o).depth = 0 ∧ (pdO o).shown.length ≤ 501 := by
  cases o with
  | none => exact ⟨by simp [pdO, PyData.showable], by simp [pdO, PyData.hasDict], by simp [pdO, PyData.depth], by simp only [pdO, PyData.shown]; decide⟩
  | some i => exact ⟨showable_int (h i rfl), by simp [pdO, PyData.hasDict], by simp [pdO, PyData.depth], shown_int_le (h i rfl)⟩
end QS
namespace QS
open PySem PySem.Spec PyProof.Rows L2
theorem ok_of (x : String) : PyData.strOk (Str.ofString x) = true := by
  rw [Str.ofString_eq_toList]
  unfold PyData.strOk
  simp only [List.all_toArray, List.all_map, List.all_eq_true, Function.comp_apply, decide_eq_true_eq]
  intro c _
  have h := c.valid
  have e : c.toNat = c.val.toNat := rfl
  rcases h with h | ⟨_, h⟩
  · have : c.val.toNat < 0xd800 := h
    omega
  · exact h
theorem ok_app {a b : Str} (h : PyData.strOk a = true) (k : PyData.strOk b = true) : PyData.strOk (a ++ b) = true := by
  unfold PyData.strOk at *
  rw [Str.cps_append, Array.all_append, h, k]
  rfl
theorem ok_from : ∀ (ts : List Str) (k : Nat) (acc : Str), PyData.strOk acc = true → (∀ t ∈ ts, PyData.strOk t = true) → PyData.strOk (textFrom k acc ts) = true
  | [], k, acc, h, _ => h
  | t :: r, k, acc, h, ht => ok_from r (k + 1) _ (ok_app (ok_app h (ok_of _)) (ht t (List.mem_cons_self ..))) fun u hu => ht u (List.mem_cons_of_mem _ hu)
theorem ok_list {ts : List Str} (h : ∀ t ∈ ts, PyData.strOk t = true) : PyData.strOk (listText ts) = true := ok_app (ok_from ts 0 _ (ok_of _) h) (ok_of _)
theorem ok_join (sep : Str) (hs : PyData.strOk sep = true) : ∀ (ts : List Str), (∀ t ∈ ts, PyData.strOk t = true) → PyData.strOk (Str.join sep ts) = true
  | [], _ => ok_of ""
  | [t], h => h t (List.mem_cons_self ..)
  | t :: u :: r, h => ok_app (ok_app (h t (List.mem_cons_self ..)) hs) (ok_join sep hs (u :: r) fun x hx => h x (List.mem_cons_of_mem _ hx))
theorem ok_tuple {ts : List Str} (h : ∀ t ∈ ts, PyData.strOk t = true) : PyData.strOk (tupleText ts) = true := ok_app (ok_app (ok_of _) (ok_join _ (ok_of _) ts h)) (ok_of _)
theorem ok_int {i : Int} : PyData.strOk (PyData.int i).shown = true := ok_of _
theorem ok_bool {b : Bool} : PyData.strOk (PyData.bool b).shown = true := by cases b <;> exact ok_of _
theorem ok_none : PyData.strOk PyData.none.shown = true := ok_of _
theorem ok_pdO {o : Option Int} : PyData.strOk (pdO o).shown = true := by
  cases o with
  | none => exact ok_none
  | some i => exact ok_int
theorem shaped_str {x : Str} (h : PyData.strOk x = true) : SeqAt.shaped (.str x) = true := by simp [SeqAt.shaped, PyData.canLay0, PyData.depth, h]
theorem wpv_eqT {a b : Str} {s : Sto} {Q : D → Sto → Prop} (ha : PyData.strOk a = true) (hb : PyData.strOk b = true) : wpv (gEq (.str a) (.str b) s) Q = Q (.bl (decide (a = b))) s := by
  have e : gEq (.str a) (.str b) s = some (.bl (decide (a = b)), s) := by
    simp only [gEq, gEqF, datOf, dat0, shaped_str ha, shaped_str hb, and_self, if_true, id, PyData.eqv]
    by_cases c : a = b
    · subst c; simp
    · simp [c]
  rw [e, wpv_some]
theorem wpv_neT {a b : Str} {s : Sto} {Q : D → Sto → Prop} (ha : PyData.strOk a = true) (hb : PyData.strOk b = true) : wpv (gNe (.str a) (.str b) s) Q = Q (.bl (!decide (a = b))) s := by
  have e : gNe (.str a) (.str b) s = some (.bl (!decide (a = b)), s) := by
    simp only [gNe, gEqF, datOf, dat0, shaped_str ha, shaped_str hb, and_self, if_true, PyData.eqv]
    by_cases c : a = b
    · subst c; simp
    · simp [c]
  rw [e, wpv_some]
end QS
end

section
set_option Elab.async false
set_option linter.all false
set_option maxRecDepth 100000
set_option maxHeartbeats 4000000
/-! QS27: sorted of data. -/
namespace QS
open PySem PySem.Spec PyProof.Rows L2
/-- the items as data -/
def datsOf (s : Sto) : List D → Option (List PyData)
  | [] => some []
  | d :: r => (datOf s d).bind fun k => (datsOf s r).map fun ks => k :: ks
instance (ds : List PyData) : Decidable (PySem.W.AllAlike ds) := by unfold PySem.W.AllAlike; infer_instance
open Classical in
/-- sorted by what they are as data -/
noncomputable def gSorted (mu : Bool) : List D → V1 D := fun xs s => match xs with
  | [x] => (lstOf s x).bind fun ds => (datsOf s ds).bind fun ks =>
    if PySem.W.AllAlike ks ∧ PySem.W.Sortable ks ∧ ks.length ≤ sizeLine ∧ ∀ k ∈ ks, k.depth ≤ 60 then new mu (((ds.zip ks).mergeSort (PySem.W.dataLe false Prod.snd)).map Prod.fst) s else none
  | _ => none
theorem mkB {K : KZ} {m : List Addr} {H : Hp} {s : Sto} : ∀ {ds : List D} {vs : List V} {ks : List PyData} {its : List Value}, RepL K m H ds vs → datsOf s ds = some ks → Vals vs its →
    ∃ bs : List (D × V × PyData), bs.map (·.1) = ds ∧ bs.map (·.2.1) = vs ∧ bs.map (·.2.2) = ks ∧ (∀ b ∈ bs, Rep K m H b.1 b.2.1 ∧ datOf s b.1 = some b.2.2) ∧ PySem.W.EachIs (fun u b => RelV b.2.1 u) its bs
  | [], _, _, _, .nil, h, .nil => by
    cases h
    exact ⟨[], rfl, rfl, rfl, (fun b hb => nomatch hb), .nil⟩
  | d :: ds, v :: vs, ks, u :: its, .cons r rr, h, .cons e ee => by
    obtain ⟨k, h1, h2⟩ := Option.bind_eq_some_iff.mp h
    obtain ⟨kr, h3, h4⟩ := Option.map_eq_some_iff.mp h2
    subst h4
    obtain ⟨bs, e1, e2, e3, e4, e5⟩ := mkB rr h3 ee
    refine ⟨(d, v, k) :: bs, by simp [e1], by simp [e2], by simp [e3], fun b hb => ?_, .cons e e5⟩
    rcases List.mem_cons.mp hb with rfl | hb
    · exact ⟨r, h1⟩
    · exact e4 b hb
theorem repL_of {K : KZ} {m : List Addr} {H : Hp} : ∀ {bs : List (D × V × PyData)}, (∀ b ∈ bs, Rep K m H b.1 b.2.1) → RepL K m H (bs.map (·.1)) (bs.map (·.2.1))
  | [], _ => .nil
  | b :: r, h => .cons (h b (List.mem_cons_self ..)) (repL_of fun c hc => h c (List.mem_cons_of_mem _ hc))
theorem vals_of : ∀ {out : List Value} {bs : List (D × V × PyData)}, PySem.W.EachIs (fun u b => RelV b.2.1 u) out bs → Vals (bs.map (·.2.1)) out
  | _, _, .nil => .nil
  | _, _, .cons h t => .cons h (vals_of t)
section
variable {X : Cx} {zz : List Addr}
theorem c_sorted {mu : Bool} {k : Nat} (hr : RoomG k X.A) : CallR X (.builtin "sorted") (rL (X.K, zz) (gSorted mu)) := by
  intro pins s σ H xs us Q I r h
  obtain ⟨m, ds, st, S, rr, hG⟩ := h
  rcases two_or rr with rfl | ⟨d, v, rfl, rfl, hd⟩ | ⟨d, e, v, u, rfl, rfl, hd, he⟩ | ⟨a, b, c, l, rfl⟩
  · exact hG.elim
  · unfold gSorted at hG
    cases h1 : lstOf st d with
    | none => simp only [h1, Option.bind_none] at hG; exact hG.elim
    | some l =>
      simp only [h1, Option.bind_some] at hG
      cases h2 : datsOf st l with
      | none => simp only [h2, Option.bind_none] at hG; exact hG.elim
      | some ks =>
        simp only [h2, Option.bind_some] at hG
        by_cases c : PySem.W.AllAlike ks ∧ PySem.W.Sortable ks ∧ ks.length ≤ sizeLine ∧ ∀ k ∈ ks, k.depth ≤ 60
        · rw [if_pos c] at hG
          obtain ⟨c1, c2, c3, c4⟩ := c
          obtain ⟨a, vs, rfl, e1, q1⟩ := lstOf_at S hd h1
          obtain ⟨its, rv, hl, hz⟩ := I.list e1
          obtain ⟨u, rfl, ru⟩ := vals1 r
          obtain rfl : u = Value.ref a := ru
          obtain ⟨bs, b1, b2, b3, b4, b5⟩ := mkB q1 h2 rv
          have hu := hr.un
          have hb3 : bs.length = ks.length := by rw [← b3, List.length_map]
          refine PySem.W.sorted_data (bs := bs) (enc := fun b => b.2.2) hl.isList b5 ?_ (by rw [b3]; exact c1) (by rw [b3]; exact c2) (by omega) (fun b hb => ?_) fun out ho eo => ?_
          · refine (PySem.W.each_mem b5).mono fun u b ⟨h3, h4⟩ => ?_
            exact Dp.reads I b.2.2 b.2.1 u (datOf_at S (b4 b h4).1 (b4 b h4).2) h3
          · have := c4 b.2.2 (by rw [← b3]; exact List.mem_map_of_mem hb)
            omega
          · have em : ∀ b ∈ bs.mergeSort (PySem.W.dataLe false fun b : D × V × PyData => b.2.2), b ∈ bs := fun b hb => List.mem_mergeSort.mp hb
            have ez : ((l.zip ks).mergeSort (PySem.W.dataLe false Prod.snd)).map Prod.fst = (bs.mergeSort (PySem.W.dataLe false fun b : D × V × PyData => b.2.2)).map (·.1) := by
              have hz2 : l.zip ks = bs.map fun b => (b.1, b.2.2) := by
                rw [← b1, ← b3, List.zip_map']
              rw [hz2, ← PySem.W.sort_maps (r := PySem.W.dataLe false fun b : D × V × PyData => b.2.2) (fun b : D × V × PyData => (b.1, b.2.2)) (fun a _ b _ => rfl), List.map_map]
              rfl
            rw [ez] at hG
            obtain ⟨n, hn⟩ := PyProof.Rows.sortedAll_at s.heap its (List.toArray out)
            have hfr : H (s.heap.objs.size + 1) = none := I.hok.fresh (Nat.le_succ _)
            refine ⟨.ref _, upd H _ (.lst _), I.laid (t' := s.toks) (fun b o hb => PyProof.Rows.sortedAll_old hb) (Nat.le_succ _) ⟨?_, out, n, vals_of eo, hn⟩, rfl, new_ok S (repL_of fun b hb => (b4 b (em b hb)).1) hG _ hfr⟩
            rw [List.length_map, List.length_mergeSort]
            omega
        · rw [if_neg c] at hG; exact hG.elim
  · exact hG.elim
  · exact hG.elim
end
end QS
end

section
set_option Elab.async false
set_option linter.all false
set_option maxRecDepth 100000
set_option maxHeartbeats 4000000
/-! QS28: == by an own __eq__. -/
namespace QS
open PySem PySem.Spec PyProof.Rows L2
/-- x == y, x an instance of cn, y of a type among tys, by cn's own __eq__ -/
noncomputable def gEqI (cn : Str) (tys : List TyV) (F : List D → M D) : D → D → V1 D := fun x y s => match insOf cn s x, tyV s y with
  | some _, some t => if t ∈ tys then (match F [x, y] s with
    | .ok d s' => (match d with | .bl b => some (.bl b, s') | _ => none)
    | _ => none) else none
  | _, _ => none
section
variable {X : Cx} {zz : List Addr} {W : WX} {k kk f : Nat}
theorem o_eqI {cn : Str} {tys : List TyV} {F : List D → M D} (hm : Meth X.K (He.ga X.K cn) "__eq__" f) (G : OkF X.prog X.w X.K X.mg X.base k f 2 F) (hr : RoomG kk X.A) (hk : k ≤ kk)
    (hN : ∀ t ∈ tys, PySem.W.notFirst X.K (He.ga X.K cn) (t.val X.K) = true) (hC : ∀ t ∈ tys, ∀ c, t = .o c → ClsI X.K c) : OpR X (compareOp .Eq) (r2 (X.K, zz) (gEqI cn tys F)) := by
  intro pins s σ H x y u w Q I rx ry h
  obtain ⟨m, d, e, st, S, hd, he, hG⟩ := h
  unfold gEqI at hG
  cases h1 : insOf cn st d with
  | none => rw [h1] at hG; exact hG.elim
  | some p =>
    cases h2 : tyV st e with
    | none => rw [h1, h2] at hG; exact hG.elim
    | some t =>
      rw [h1, h2] at hG
      by_cases ht : t ∈ tys
      · simp only [if_pos ht] at hG
        cases h3 : F [d, e] st with
        | stuck => rw [h3] at hG; exact hG.elim
        | exn x s1 => rw [h3] at hG; exact hG.elim
        | ok r s1 =>
          rw [h3] at hG
          cases r with
          | bl b =>
            have hG : GoodV (X.K, zz) m H Q (some (.bl b, s1)) := hG
            obtain ⟨fs, ds⟩ := p
            obtain ⟨a, dx, vs, rfl, hl, ha, hq⟩ := insOf_at S hd h1
            cases rx
            obtain ⟨fd, ps, FF, hb, hkp⟩ := G
            obtain ⟨mA, J, _⟩ := ins_get I.hok ha
            obtain ⟨od, J, _⟩ := J.look
            obtain ⟨mF, hF⟩ := I.fr
            have ty := tyV_ok S he h2 (hC t ht)
            obtain ⟨P, hP, hP2, _⟩ := kit_y I ry ty
            have hu : X.A.units < cLine := by have := hr.un; omega
            show wpAny (model X.prog X.w) X.A (richCompare .Eq (.ref a) w) (EP X pins σ Q) X.xe s
            refine PySem.W.cmp_K (op := .Eq) (tb := t.val X.K) hu hF I.ok.mod.kin J (hP.ty _ _ I.kIn hP2) (hN t ht) hm.at_ hm.fn ?_
            have hsp : spF X.K 2 F [.ref a, y] H (fun v H' => v = .bl b ∧ Q v H') C8.E0 := by
              refine ⟨rfl, zz, m, [d, e], st, .cons hd (.cons he .nil), S, ?_⟩
              rw [h3]
              intro m' H' v x1 S1 r1
              cases r1
              exact ⟨rfl, hG m' H' _ x1 S1 (.bl b)⟩
            refine wpAny_mono (run_fnG (us := [.ref a, w]) (vs := [.ref a, y]) (E := fun _ => C8.E0) FF (hr.mono hk) hb (fun pins H s e s' I c => passL pins σ H s e s' I c) I (.cons rfl (.cons ry .nil)) hsp) (fun v s' hv => ?_) fun _ _ z => z
            obtain ⟨z, H', I', rz, ez, q⟩ := hv
            subst ez
            cases rz
            exact ⟨.bl b, H', I', rfl, q⟩
          | _ => exact hG.elim
      · simp only [if_neg ht] at hG; exact hG.elim
end
@[simp] theorem wpv_eqI2 {cn : Str} {tys : List TyV} {F : List D → M D} {x y : D} {s : Sto} {Q : D → Sto → Prop} {b : Bool} {p : List Str × List D} {t : TyV} (h1 : insOf cn s x = some p) (h2 : tyV s y = some t) (ht : t ∈ tys) (h3 : F [x, y] s = .ok (.bl b) s) : wpv (gEqI cn tys F x y s) Q = Q (.bl b) s := by
  have e : gEqI cn tys F x y s = some (.bl b, s) := by simp only [gEqI, h1, h2, if_pos ht, h3]
  rw [e, wpv_some]
/-- the types that may stand at the right -/
def eqT (cn : Str) : List TyV := [.b "NoneType", .b "bool", .b "int", .b "str", .b "tuple", .b "list", .b "dict", .o cn]
def eqB (K : PySem.W.Frag) (cn : Str) : Bool := (eqT cn).all fun t => PySem.W.notFirst K (He.ga K cn) (t.val K)
theorem eqT_no {K : PySem.W.Frag} {cn : Str} (h : eqB K cn = true) : ∀ t ∈ eqT cn, PySem.W.notFirst K (He.ga K cn) (t.val K) = true := List.all_eq_true.mp h
theorem eqT_cls {K : PySem.W.Frag} {cn : Str} (h : ClsI K cn) : ∀ t ∈ eqT cn, ∀ c, t = .o c → ClsI K c := by
  intro t ht c e
  subst e
  simp [eqT] at ht
  subst ht
  exact h
end QS
end

section
set_option Elab.async false
set_option linter.all false
set_option maxRecDepth 100000
set_option maxHeartbeats 4000000
/-! QS29: count and index of flags. -/
namespace QS
open PySem PySem.Spec PyProof.Rows L2
theorem cnt_bl {b : Bool} : ∀ {bs : List Bool} {its : List Value}, Vals (bs.map V.bl) its → its.countP (eqU (.bl b)) = bs.count b
  | [], _, .nil => rfl
  | c :: bs, _, .cons r rr => by
    have ih := cnt_bl (b := b) rr
    have e := eqU_of (x := .bl b) r (show flatV (.bl c) = true from rfl)
    rw [List.countP_cons, ih, e, List.count_cons]
    cases b <;> cases c <;> rfl
def rCntB (K : PySem.W.Frag) : V → List V → Hp → VK → Prop := fun x xs H Q => ∃ (p : Addr) (bs : List Bool) (b : Bool), x = .ref p ∧ xs = [.bl b] ∧ SqL K H p (bs.map V.bl) ∧ Q (.int (bs.count b : Nat)) H
def gCountB : D → List D → V1 D := fun x xs s => match xs with
  | [.bl b] => ((lstOf s x).bind blsOf).map fun bs => (.int (bs.count b : Nat), s)
  | _ => none
def gIndexB : D → List D → V1 D := fun x xs s => match xs with
  | [.bl b] => ((lstOf s x).bind blsOf).bind fun bs => if b ∈ bs then some (.int (bs.idxOf b : Nat), s) else none
  | _ => none
section
variable {X : Cx} {zz : List Addr}
theorem mt_bcount : MtR X "list.count" (rCntB X.K) := by
  intro pins s σ H x xs v us Q I rx rxs h
  obtain ⟨p, bs, b, rfl, rfl, hs, q⟩ := h
  cases rx
  cases rxs with
  | cons ry rt =>
    rename_i uy ut
    cases rt
    obtain ⟨its, rv, ⟨⟨cls, dd, data, sl⟩, n, ho, hc, hdn, hd⟩, hlen⟩ := I.list hs
    simp only at hc hd
    subst hc hd
    have fys : (bs.map V.bl).all flatV = true := by simp [List.all_map, Function.comp_def, flatV]
    refine call_meets PySem.F.slot_list_count ⟨_, ho, rfl⟩ PySem.F.entry_list_count (PySem.F.args_list_count_2 _ _)
      (SeqAt.list_countAt p its.toArray n dd sl uy (eqU (.bl b))) ⟨ho, fun u' hu' => mem_eqAt ry rfl rv fys u' (by simpa using hu'), ?_⟩
    have ec : its.toArray.toList.countP (eqU (.bl b)) = bs.count b := cnt_bl rv
    rw [ec]
    exact ⟨.int (bs.count b : Nat), H, I.tok _, ⟨s.toks, rfl⟩, q⟩
theorem m_countB : MtR X "list.count" (rM (X.K, zz) gCountB) := by
  intro pins s σ H x xs v us Q I rx rs ⟨m, d, ds, st, S, hd, hds, hG⟩
  unfold gCountB at hG
  split at hG
  · rename_i b
    cases hds with
    | cons hy hr =>
      cases hr
      cases hy
      cases h1 : (lstOf st d).bind blsOf with
      | none => rw [h1] at hG; exact hG.elim
      | some bs =>
        rw [h1] at hG
        obtain ⟨l, h2, h3⟩ := Option.bind_eq_some_iff.mp h1
        obtain ⟨a, vs, rfl, e1, q1⟩ := lstOf_at S hd h2
        have ev := bls_rep q1 h3
        subst ev
        exact mt_bcount pins s σ H _ _ v us Q I rx rs ⟨a, bs, b, rfl, rfl, e1, GoodV.here S hG (.int _)⟩
  · exact hG.elim
theorem m_indexB : MtR X "list.index" (rM (X.K, zz) gIndexB) := by
  intro pins s σ H x xs v us Q I rx rs ⟨m, d, ds, st, S, hd, hds, hG⟩
  unfold gIndexB at hG
  split at hG
  · rename_i b
    cases hds with
    | cons hy hr =>
      cases hr
      cases hy
      cases h1 : (lstOf st d).bind blsOf with
      | none => rw [h1] at hG; exact hG.elim
      | some bs =>
        rw [h1] at hG
        simp only [Option.bind_some] at hG
        by_cases c : b ∈ bs
        · rw [if_pos c] at hG
          obtain ⟨l, h2, h3⟩ := Option.bind_eq_some_iff.mp h1
          obtain ⟨a, vs, rfl, e1, q1⟩ := lstOf_at S hd h2
          have ev := bls_rep q1 h3
          subst ev
          have hlt := List.idxOf_lt_length_of_mem c
          have ev2 : ∀ x y : Bool, eqV (.bl x) (.bl y) = (x == y) := fun x y => by cases x <;> cases y <;> rfl
          refine mt_index pins s σ H _ _ v us Q I rx rs ⟨a, bs.map V.bl, .bl b, bs.idxOf b, .bl b, rfl, rfl, e1, rfl, by simp [List.all_map, Function.comp_def, flatV], ?_, by rw [ev2]; simp, fun k z' hk hz => ?_, GoodV.here S hG (.int _)⟩
          · rw [List.getElem?_map, List.getElem?_eq_getElem hlt, List.getElem_idxOf hlt]; rfl
          · rw [List.getElem?_map] at hz
            obtain ⟨y, h4, rfl⟩ := Option.map_eq_some_iff.mp hz
            obtain ⟨hl, h5⟩ := List.getElem?_eq_some_iff.mp h4
            rw [ev2]
            have := List.not_of_lt_findIdx (p := (· == b)) (xs := bs) (i := k) hk
            subst h5
            simpa using this
        · rw [if_neg c] at hG; exact hG.elim
  · exact hG.elim
end
end QS
end

section
set_option Elab.async false
set_option linter.all false
set_option maxRecDepth 100000
set_option maxHeartbeats 4000000
/-! QS30: t[::-1] of a tuple. -/
namespace HT
open PySem PySem.Spec PyProof.Rows
section
variable {prog : Program} {w : World} {A : Around} {E : Value → Shared → Prop} {s : Shared}
theorem sliceApplied_back {sl : Addr} {vl vu vs : Value} {n : Nat} {Q : Int × Int × Nat → Shared → Prop} (hs : s.heap.IsSliceOf sl vl vu vs) (pl : IsPart vl none) (pu : IsPart vu none) (ps : IsPart vs (some (-1)))
    (h : Q ((n : Int) - 1, -1, n) s) : wpAny (model prog w) A (Builtin.Slice.sliceApplied (.ref sl) (pure (n : Int))) Q E s := by
  obtain ⟨os, hos, hcs, hds⟩ := id hs
  unfold Builtin.Slice.sliceApplied Builtin.Slice.sliceFields
  refine wpAny_bind (wpAny_bind (wpAny_field hos hds (x := vl) rfl (wpAny_bind (wpAny_field hos hds (x := vu) rfl (wpAny_bind (wpAny_field hos hds (x := vs) rfl (wpAny_pure ?_)))))))
  refine wpAny_bind (slicePart_ ps ?_)
  show wpAny _ _ (if ((-1 : Int) == 0) = true then _ else _) _ _ s
  rw [if_neg (by decide)]
  refine wpAny_bind (slicePart_ pl (wpAny_bind (slicePart_ pu (wpAny_bind (wpAny_pure ?_)))))
  show wpAny _ _ (match Builtin.Slice.sliceAdjust none none (-1) (n : Int) with | (lo, hi) => pure (lo, (-1 : Int), Builtin.Slice.slicePlaces lo hi (-1))) _ _ s
  have e1 : Builtin.Slice.sliceAdjust none none (-1) (n : Int) = ((n : Int) - 1, -1) := by
    unfold Builtin.Slice.sliceAdjust
    simp
  rw [e1]
  show wpAny _ _ (pure ((n : Int) - 1, (-1 : Int), Builtin.Slice.slicePlaces ((n : Int) - 1) (-1) (-1))) _ _ s
  have e2 : Builtin.Slice.slicePlaces ((n : Int) - 1) (-1) (-1) = n := by
    unfold Builtin.Slice.slicePlaces
    simp
    try omega
  rw [e2]
  exact wpAny_pure h
theorem fm_congr {α β : Type} {f g : α → Option β} : ∀ {l : List α}, (∀ m ∈ l, f m = g m) → l.filterMap f = l.filterMap g
  | [], _ => rfl
  | a :: r, h => by
    have h1 := h a (List.mem_cons_self ..)
    have h2 := fm_congr (l := r) fun m hm => h m (List.mem_cons_of_mem _ hm)
    simp only [List.filterMap_cons, h1, h2]
theorem pick_back (xs : Array Value) : ((List.range xs.size).filterMap fun (m : Nat) => xs[(((xs.size : Int) - 1) + (m : Int) * (-1)).toNat]?).toArray = xs.toList.reverse.toArray := by
  congr 1
  have h := PySem.W.krv_all xs.toList.reverse.toArray
  have e : (List.range xs.size).filterMap (fun (m : Nat) => xs[(((xs.size : Int) - 1) + (m : Int) * (-1)).toNat]?) = (List.range xs.toList.reverse.toArray.size).filterMap (xs.toList.reverse.toArray[·]?) := by
    have hl : xs.toList.reverse.toArray.size = xs.size := by simp
    rw [hl]
    refine fm_congr fun m hm => ?_
    have hm := List.mem_range.mp hm
    have e2 : (((xs.size : Int) - 1) + (m : Int) * (-1)).toNat = xs.size - 1 - m := by omega
    rw [e2]
    simp [List.getElem?_reverse, hm]
  rw [e, h]
theorem getItem_tuple_back {t sl : Addr} {items : Array Value} {vl vu vs : Value} {Q : Value → Shared → Prop} (ht : IsTup s.heap t items) (hs : s.heap.IsSliceOf sl vl vu vs) (pl : IsPart vl none) (pu : IsPart vu none) (ps : IsPart vs (some (-1)))
    (h : Q (.ref s.heap.objs.size) { s with heap := s.heap.push { cls := .type "tuple", data := .seq items.toList.reverse.toArray } })
    (hsz : items.size ≤ sizeLine) : wpAny (model prog w) A (getItem (.ref t) (.ref sl)) Q E s := by
  have htake : sizeOk (.seq items.toList.reverse.toArray) := by
    show items.toList.reverse.toArray.size ≤ sizeLine
    simpa using hsz
  obtain ⟨os, hos, hcs, hds⟩ := id hs
  have hTs : s.TypeIs (.ref sl) "slice" := ⟨os, hos, hcs⟩
  unfold getItem
  try with_reducible refine wpAny_holding ?_
  first | refine wpAny_bind (wpAny_pure ?_) | skip
  refine wpAny_bind (wpAny_sequenceKey ht.typeIs (by decide) ?_)
  refine wpAny_bind (wpAny_callSpecial?_slot (name := Str.ofString "__getitem__") ht.typeIs PyProof.Rows.slot_tuple_getitem
    (wpAny_call_entry PyProof.Rows.slot_tuple_getitem ht.typeIs entry_tuple_getitem ?_ (args_tuple_getitem _ _)))
  show wpAny _ _ (Builtin.Tuple.tupleItemsOf (.ref t) >>= _) _ _ s
  refine wpAny_bind (tupleItemsOf_ ht ?_)
  refine wpAny_bind (wpAny_typeOf hTs ?_)
  rw [if_pos (by decide)]
  refine wpAny_bind (sliceApplied_back hs pl pu ps ?_)
  have hno : ¬ ((((items.size : Int) - 1) == 0 && (-1 : Int) == 1 && items.size == items.size) = true) := by simp
  show wpAny _ _ (if (((items.size : Int) - 1) == 0 && (-1 : Int) == 1 && items.size == items.size) = true then _ else _) _ _ s
  rw [if_neg hno, pick_back]
  first
    | exact wpAny_bind (m := Builtin.Tuple.tupleExact _) (wpAny_newObj_type (wpAny_pure ⟨_, rfl, wpAny_pure h⟩) htake)
    | exact wpAny_bind (m := Builtin.Tuple.tupleExact _) (wpAny_newObj_type (wpAny_bind (wpAny_pure (wpAny_pure ⟨_, rfl, wpAny_pure h⟩))) htake)
    | exact wpAny_bind (wpAny_bind (m := Builtin.Tuple.tupleExact _) (wpAny_newObj_type (wpAny_pure (wpAny_pure ⟨_, rfl, wpAny_pure h⟩)) htake))
    | exact wpAny_bind (wpAny_bind (m := Builtin.Tuple.tupleExact _) (wpAny_newObj_type (wpAny_pure ⟨_, rfl, wpAny_pure h⟩) htake))
end
end HT
namespace L2
open PySem PySem.Spec PyProof.Rows
section
variable {X : Cx}
/-- t[::-1] of a tuple -/
def tRevT (K : PySem.W.Frag) (te : TE) : TE := fun σ H Q => te σ H fun x H1 => ∃ a xs, x = .ref a ∧ SqT K H1 a xs ∧ ∀ p, H1 p = none → Q (.ref p) (upd H1 p (.tup xs.reverse))
theorem pe_revT {e : Expr} {te : TE} {k : Nat} {p1 p2 p3 pos : Pos} (he : PE X e te) : PE X (.Subscript e (.Slice none none (some (.UnaryOp .USub (.Constant (.int 1) k p1) p2)) p3) pos) (tRevT X.K te) := by
  refine ⟨fun pins s σ H Q I h => ?_⟩
  refine Subscript_ (thn (he.run pins s σ H _ I h) fun v s1 ⟨x, H1, I1, r1, q1⟩ => ?_)
  obtain ⟨a, xs, ex, hx, q⟩ := q1
  subst ex
  cases r1
  have hst : PO X (some (.UnaryOp .USub (.Constant (.int 1) k p1) p2)) (tPart (tUn (rU fun i => .int (-i)) (tC (.int 1)))) := po_some (pe_un un_neg pe_int)
  refine wpAny_Slice (thn (po_none.run pins s1 σ H1 (fun o H2 => o = none ∧ H2 = H1) I1 ⟨rfl, rfl⟩) fun vl s2 ⟨l, H2, I2, pl, el, e2⟩ => ?_)
  subst el e2
  refine thn (po_none.run pins s2 σ H2 (fun o H3 => o = none ∧ H3 = H2) I2 ⟨rfl, rfl⟩) fun vu s3 ⟨u, H3, I3, pu, eu, e3⟩ => ?_
  subst eu e3
  refine thn (hst.run pins s3 σ H3 (fun o H4 => o = some (-1) ∧ H4 = H3) I3 ⟨1, rfl, -1, rfl, rfl, rfl⟩) fun vs s4 ⟨o, H4, I4, ps, eo, e4⟩ => ?_
  subst eo e4
  have I5 : Inv X pins σ H4 { s4 with heap := s4.heap.push { cls := .type "slice", data := .fields #[vl, vu, vs] } } := I4.kept (t' := s4.toks) fun b ob q => Heap.get?_push_of_some _ q
  obtain ⟨its, r, ht, hz⟩ := I5.tuple hx
  have hlen := r.length
  show wpAny (model X.prog X.w) X.A (subscriptTail e (.Slice none none (some (.UnaryOp .USub (.Constant (.int 1) k p1) p2)) p3) (.ref a) (.ref s4.heap.objs.size)) (EP X pins σ Q) X.xe { s4 with heap := s4.heap.push { cls := .type "slice", data := .fields #[vl, vu, vs] } }
  refine tail_any (ops := [.ref a, .ref s4.heap.objs.size]) ht.typeIs (PyProof.Rows.slot_tuple_getitem.lookup) ?_ (by with_unfolding_all rfl)
  refine HT.getItem_tuple_back ht (Heap.IsSliceOf.new _ vl vu vs) pl pu ps ?_ (by rw [List.size_toArray]; omega)
  refine ⟨.ref _, _, I5.laid (t' := s4.toks) (o := .tup xs.reverse) (fun b ob q => Heap.get?_push_of_some _ q) (Nat.le_refl _) ?_, rfl, q _ (I5.hok.fresh (Nat.le_refl _))⟩
  exact ⟨by rw [List.length_reverse]; exact hz, _, r.reverse, IsTup.new _ _⟩
end
end L2
namespace QS
open PySem PySem.Spec PyProof.Rows L2
def gRevT : D → V1 D := fun x s => match x with
  | .tup l => some (.tup l.reverse, s)
  | _ => none
theorem RepL.rev {K : KZ} {m : List Addr} {H : Hp} : ∀ {ds : List D} {vs : List V}, RepL K m H ds vs → RepL K m H ds.reverse vs.reverse
  | _, _, .nil => .nil
  | _, _, .cons r t => by
    rw [List.reverse_cons, List.reverse_cons]
    exact (RepL.rev t).append (.cons r .nil)
section
variable {zz : List Addr} {X : Cx} {W : WX} {e : Expr} {de : EM} {k : Nat} {p1 p2 p3 pos : Pos}
theorem se_revT (he : PE X e (tE (X.K, zz) W de)) : PE X (.Subscript e (.Slice none none (some (.UnaryOp .USub (.Constant (.int 1) k p1) p2)) p3) pos) (tE (X.K, zz) W (eU gRevT de)) := by
  refine PE.imp (pe_revT he) fun σ H Q ⟨m, ρ, s, hE, hS, hG⟩ => ?_
  refine ⟨m, ρ, s, hE, hS, (Good.bind hG).mono fun v H1 ⟨m1, y, s1, e1, S1, q1, hG1⟩ => ?_⟩
  have g := hG1.lift
  cases q1 with
  | @tup a as vs h1 q1 =>
    have g : GoodV (X.K, zz) m1 H1 Q (some (.tup as.reverse, s1)) := g
    exact ⟨a, vs, rfl, h1, fun p hp => newT_ok S1 q1.rev g p hp⟩
  | _ => exact g.elim
end
@[simp] theorem wpv_revT {l : List D} {s : Sto} {Q : D → Sto → Prop} : wpv (gRevT (.tup l) s) Q = Q (.tup l.reverse) s := wpv_some
end QS
namespace QS
open PySem PySem.Spec PyProof.Rows L2
/-- room in a suite -/
theorem room_s {kk c : Nat} {A : Around} {o : Option Value} (hr : RoomG kk A) (h : c ≤ 200) : (A.mark o).units + c < cLine := by
  have : A.units + c < cLine := room_u hr h
  exact this
end QS
end

section
set_option Elab.async false
set_option linter.all false
set_option maxRecDepth 100000
set_option maxHeartbeats 4000000
/-! QS31: a dict of one item whose key is an int that is reckoned. -/
namespace QS
open PySem PySem.Spec PyProof.Rows L2
def eDicE (dk de : EM) : EM := fun ρ s => match dk ρ s with
  | .ok kd s0 => (match kd with
    | .int i => (match de ρ s0 with
      | .ok v s' => lift (newD false [.inl i] [v]) s'
      | _ => .stuck)
    | _ => .stuck)
  | _ => .stuck
section
variable {X : Cx} {zz : List Addr} {W : WX} {e ke : Expr} {dk de : EM} {pos : Pos}
theorem se_dicE (hk : ∀ zz, PE X ke (tE (X.K, zz) W0 dk)) (he : ∀ zz, PE X e (tE (X.K, zz) W0 de)) : PE X (.Dict [some ke] [e] pos) (tE (X.K, zz) W (eDicE dk de)) := by
  refine PE.imp (pe_disp (pps_cons (pe_unl (PE.anyz hk)) (pe_unl (PE.anyz he)) pps_nil) rfl rfl (by simp) (by simp)) fun σ H Q ⟨m, ρ, s, hE, hS, hG⟩ p hp => ?_
  have C0 : Chg X.K zz m H (p :: zz) m (upd H p (.dK [])) := chg_hide hp
  have S0 : StR (X.K, p :: zz) m (upd H p (.dK [])) s := str_hide hS hp
  have nz := (fresh_notin hS hp)
  have hE0 := hE.chg C0
  refine ⟨p, .dK [], upd_same, True.intro, p :: zz, m, ρ, s, hE0, S0, ?_⟩
  unfold eDicE at hG
  cases zk : dk ρ s with
  | stuck => rw [zk] at hG; exact hG.elim
  | exn x s1 => rw [zk] at hG; exact hG.elim
  | ok kd s0 =>
    rw [zk] at hG
    cases kd with
    | int i =>
      intro m0 H0 u0 e0 S00 r0
      cases r0
      have lk0 := e0.keep p _ upd_same (fun _ z => nomatch z) nz.1
      -- open again
      have op : ∀ H0', (H0' = H0 ∨ H0' = upd H0 p (.dK [])) → Ext m (upd H p (.dK [])) m0 H0' ∧ StR (X.K, p :: zz) m0 H0' s0 ∧ EnR (X.K, p :: zz) m0 H0' ρ σ := by
        rintro H0' (rfl | rfl)
        · exact ⟨e0, S00, hE0.ext S0.noTup e0⟩
        · have c : Chg X.K (p :: zz) m0 H0 (p :: zz) m0 (upd H0 p (.dK [])) := by
            have c0 : Chg X.K (p :: zz) m0 H0 zz m0 (upd H0 p (.dK [])) := chg_dupd lk0.rd
            exact ⟨c0.tup, c0.scr, fun a o n h t => ⟨n, (c0.obj a o n h t).2⟩, c0.xd, c0.loc⟩
          refine ⟨⟨e0.more, fun a o h t n => ?_, fun a h => ?_⟩, ?_, (hE0.ext S0.noTup e0).chg c⟩
          · by_cases e : a = p
            · subst e
              rw [upd_same] at h
              cases h
              exact .inl upd_same
            · unfold Lk
              rw [upd_ne e]
              exact e0.keep a o h t n
          · by_cases e : a = p
            · subst e; exact ⟨_, upd_same, fun _ z => nomatch z⟩
            · obtain ⟨o', h', t'⟩ := e0.there a h
              exact ⟨o', by rw [upd_ne e]; exact h', t'⟩
          · have tb : LamX.Tabs (tbs X.K) (upd H0 p (.dK [])) := by
              rcases lk0.rd with q | ⟨ob, q⟩
              · exact tabs_upd S00.tab q (fun _ z => nomatch z) (fun _ z => nomatch z)
              · exact tabs_upd S00.tab q (fun _ z => nomatch z) (fun _ z => nomatch z)
            have np := (S00.hid p List.mem_cons_self).2
            refine ⟨S00.len, S00.nd, fun d hd => ⟨?_, (S00.hid d hd).2⟩, fun n a u h1 h2 => (S00.obj n a u h1 h2).chg c fun u q => by rw [upd_ne (fun e => by subst e; exact np (List.mem_of_getElem? h1))]; exact q, tb⟩
            by_cases e : d = p
            · subst e; exact ⟨_, upd_same, fun _ z => nomatch z⟩
            · obtain ⟨u', e1, e2⟩ := (S00.hid d hd).1
              exact ⟨u', by rw [upd_ne e]; exact e1, e2⟩
      have go : ∀ H0', (H0' = H0 ∨ H0' = upd H0 p (.dK [])) → H0' p = some (.dK []) → tUnl (tEz X.K de) σ H0' fun y H2 => tPairs [] σ H2 fun ps H3 => H3 p = some (.dK []) ∧ ∃ kvs : List (Key × V), ((V.int i, y) :: ps) = kvs.map (fun kv => (kV kv.1, kv.2)) ∧ kvs.length ≤ 15 ∧ Q (.ref p) (upd H3 p (.dK (mergeK [] kvs))) := by
        intro H0' h0 hpp
        obtain ⟨e0', S00', hE1⟩ := op H0' h0
        refine ⟨p, .dK [], hpp, True.intro, p :: zz, m0, ρ, s0, hE1, S00', ?_⟩
        simp only at hG
        cases z : de ρ s0 with
        | stuck => rw [z] at hG; exact hG.elim
        | exn x s1 => rw [z] at hG; exact hG.elim
        | ok v s1 =>
          rw [z] at hG
          intro m1 H1 u e1' S1 r1
          have e1 := e0'.trans e1'
          have lk := e1.keep p _ upd_same (fun _ z => nomatch z) nz.1
          have S2 : StR (X.K, zz) m1 (upd H1 p (.dK [(.inl i, u)])) s1 := str_dupd nz.2 S1 lk.rd
          have r2 : Rep (X.K, zz) m1 (upd H1 p (.dK [(.inl i, u)])) v u := r1.chg (chg_dupd lk.rd)
          have fin := hG m1 _ _ (Ext.dput (o := .dK [(.inl i, u)]) hp e1) S2 (.dic ⟨(S1.hid p List.mem_cons_self).2, nz.2⟩ rfl (.inl upd_same) (.cons r2 .nil))
          rcases lk with hp1 | ⟨ob, _, _, hp1⟩
          · exact .inl ⟨hp1, hp1, [(.inl i, u)], rfl, by simp, fin⟩
          · exact .inr ⟨ob, hp1, upd_same, [(.inl i, u)], rfl, by simp, by rw [upd_upd]; exact fin⟩
      rcases lk0 with hp0 | ⟨ob, _, _, hp0⟩
      · exact .inl ⟨hp0, go H0 (.inl rfl) hp0⟩
      · exact .inr ⟨ob, hp0, go _ (.inr rfl) upd_same⟩
    | _ => exact hG.elim
end
theorem wp_eDicE {ρ : En} {s s0 : Sto} {dk de : EM} {i : Int} {v : D} {Q : D → Sto → Prop} {E : Ex → Sto → Prop} (h1 : dk ρ s = .ok (.int i) s0) {s1 : Sto} (h2 : de ρ s0 = .ok v s1) : wp (eDicE dk de ρ s) Q E = Q (.dic [.inl i] [v]) s1 := by
  unfold eDicE
  simp [h1, h2, newD]
end QS
end

section
set_option Elab.async false
set_option linter.all false
set_option maxRecDepth 100000
set_option maxHeartbeats 4000000
/-! QS32: != by object.__ne__ and an own __eq__. -/
namespace PySem.W
open PySem PySem.Calls PyProof.Rows
theorem ne_slot : Slot "object" "__ne__" "object.__ne__" :=
  Slot.of (T := "object") (name := "__ne__") (owner := "object") (n := "__ne__") (by rw [typeLookup_type, builtinLookup_eq_fast]; kernel_rfl) (by decide +kernel) (by decide +kernel) (by decide +kernel)
    (.inl (by decide +kernel)) (by rw [isSubtype_type]; kernel_rfl)
section
variable {prog : Program} {w : World} {A : Around} {E : Value → Shared → Prop} {s : Shared} {K : Frag} {x C L f : Addr} {h₀ : Heap} {m : Str → Option Value} {ox : Obj} {od : Option Obj} {b tb : Value}
theorem ifBound_ne {M : Model} {args : List Value} {Q : Option Value → Shared → Prop} (X : K.In s.heap) (I : InstAt s.heap x ox C od) (hs : findIn K (.ref C) "__ne__" = some (some (.builtin "object.__ne__")))
    (h : wpAny M A (call (.builtin "object.__ne__") (.ref x :: args)) (fun v => Q (some v)) E s) : wpAny M A (callSpecialIfBound? (.ref x) "__ne__" args) Q E s := by
  simp only [callSpecialIfBound?, bindSpecialIfBound?]
  refine wpAny_holding (wpAny_bind (wpAny_bind (wpAny_bind (I.type.here ((looks_findIn X hs).here ?_)))))
  refine wpAny_bind (wpAny_askSetting (wpAny_ite ?_))
  have fin : wpAny M A (call (.builtin "object.__ne__") ([.ref x] ++ args) >>= fun v => pure (some v)) Q E s := wpAny_bind (wpAny_mono h (fun v s' h' => wpAny_pure h') fun _ _ h' => h')
  have hb := ne_slot.bind (.ref x)
  split
  · refine wpAny_bind ?_
    rw [hb]
    exact wpAny_pure (wpAny_pure (by exact fin))
  · refine wpAny_tryCatch (wpAny_bind ?_)
    rw [hb]
    exact wpAny_pure (wpAny_pure (by exact fin))
theorem objNe_K (X : K.In s.heap) (I : InstAt s.heap x ox C od) (hu : A.units < cLine) (he : findIn K (.ref C) "__eq__" = some (some (.ref f))) (hf : isFn K (.ref f) = true) {Q : Fin → Shared → Prop}
    (h : wpAny (model prog w) A (call (.ref f) [.ref x, b]) (fun v s' => ∃ c, v = .bool c ∧ Q (.done (.ret (.bool (!c)))) s') E s) :
    wpAny (model prog w) A (Builtin.«object.__ne__» ⟨[.ref x, b], []⟩) Q E s := by
  unfold Builtin.«object.__ne__»
  repeat (first
    | with_reducible refine wpAny_cRoomFor hu ?_
    | (refine wpAny_bind (m := callSpecialIfBound? (.ref x) (Str.ofString "__eq__") [b])
        (ifBound_K X I he hf (wpAny_mono h (fun r s' hr => by
          obtain ⟨c, rfl, hq⟩ := hr
          repeat (first | exact hq | exact wpAny_pure hq | exact wpAny_truthy_bool hq | (refine wpAny_bind (m := truthy (.bool _)) (wpAny_truthy_bool ?_)) | wp_step)) fun _ _ e => e)))
    | wp_step)
theorem cmp_ne_K {Q : Value → Shared → Prop} (hu : A.units + 1 < cLine) (F : Fr h₀ L s.heap m) (X₀ : K.In h₀) (I : InstAt s.heap x ox C od) (hb : Looks (model prog w) s.heap (typeOf b) tb) (hn : notFirst K C tb = true)
    (hs : findIn K (.ref C) "__ne__" = some (some (.builtin "object.__ne__"))) (hm : mroIn K C (.type "object") = some true) (he : findIn K (.ref C) "__eq__" = some (some (.ref f))) (hf : isFn K (.ref f) = true)
    (h : wpAny (model prog w) A.in1 (call (.ref f) [.ref x, b]) (fun v s' => ∃ c, v = .bool c ∧ Q (.bool (!c)) s') E s) : wpAny (model prog w) A (richCompare .NotEq (.ref x) b) Q E s := by
  have X := X₀.keeps F.keep
  have one : wpAny (model prog w) A (tryCompare (.ref x) "__ne__" b) (fun r s' => ∃ v, r = some v ∧ Q v s') E s := by
    unfold tryCompare
    refine wpAny_bind (ifBound_ne X I hs ?_)
    refine wpAny_call (codeAny_call_builtin ne_slot.plain PySem.F.cmpEntry_ne (check_slot PySem.F.cmpKind_ne PySem.F.cmpSplit_ne ?_ (PySem.F.cmpArgs_ne _ _) (objNe_K (A := A.in1) X I (by show A.units + 1 < cLine; exact hu) he hf (wpAny_mono h (fun v s' hv => ?_) fun _ _ e => e))))
    · unfold isInstance
      exact I.type.andThen (looks_mroIn X hm)
    · obtain ⟨c, rfl, hq⟩ := hv
      exact ⟨c, rfl, wpAny_pure ⟨_, rfl, hq⟩⟩
  unfold richCompare
  simp only [oneThing_ref]
  refine wpAny_holding (wpAny_bind (wpAny_cRoomFor (by omega) ?_))
  rw [cmpInfo_NotEq]
  dsimp only
  refine wpAny_bind (I.type.here (wpAny_bind (hb.here ?_)))
  split
  · rename_i q
    have e : subIn K tb (.ref C) = some false := by
      rcases Bool.or_eq_true_iff.mp hn with e | e
      · rw [beq_iff_eq.mp e] at q; simp at q
      · exact beq_iff_eq.mp e
    refine wpAny_bind ((looks_subIn X e).here ?_)
    simp only [Bool.false_eq_true, if_false]
    refine wpAny_bind (wpAny_mono one (fun r s' z => ?_) fun _ _ e => e)
    obtain ⟨v, rfl, hq⟩ := z
    exact wpAny_pure hq
  · refine wpAny_bind (wpAny_pure ?_)
    simp only [Bool.false_eq_true, if_false]
    refine wpAny_bind (wpAny_mono one (fun r s' z => ?_) fun _ _ e => e)
    obtain ⟨v, rfl, hq⟩ := z
    exact wpAny_pure hq
end
end PySem.W
namespace QS
open PySem PySem.Spec PyProof.Rows L2
/-- x != y, x an instance of cn, y of a type among tys, by cn's own __eq__ -/
noncomputable def gNeI (cn : Str) (tys : List TyV) (F : List D → M D) : D → D → V1 D := fun x y s => match insOf cn s x, tyV s y with
  | some _, some t => if t ∈ tys then (match F [x, y] s with
    | .ok d s' => (match d with | .bl b => some (.bl (!b), s') | _ => none)
    | _ => none) else none
  | _, _ => none
def neB (K : PySem.W.Frag) (cn : Str) : Bool := He.eqO (PySem.W.findIn K (.ref (He.ga K cn)) "__ne__") (some (some (.builtin "object.__ne__"))) && decide (PySem.W.mroIn K (He.ga K cn) (.type "object") = some true)
theorem RoomG.in1 {k : Nat} {A : Around} (r : RoomG (k + 1) A) : RoomG k A.in1 := ⟨r.r.in1, r.gd⟩
theorem env0_in1 {P : Program} {w : World} {K : PySem.W.Frag} {mg : Str → Option Value} {base : Heap} {A : Around} {outer : List Env} {s : Shared} {H : Hp} (e : Env0 P w K mg base A outer s H) : Env0 P w K mg base A.in1 outer s H :=
  ⟨e.frames, e.mod, e.bs, e.bsz, e.funs, e.frf, e.hok, e.bare⟩
section
variable {X : Cx} {CX : CXT} {k : Nat} {f : Addr} {fd : FuncData} {ps : List Str} {sp : Sp} {E : St → XK}
theorem run_fnG1 {pins : List (Addr × Obj)} {σ : St} {H : Hp} {s : Shared} {Q : VK} {us : List Value} {vs : List V} (F : FnG X.prog X.w X.K X.mg X.base CX k f fd ps sp) (hr : RoomG k X.A.in1) (hb : Binds X.K fd ps [])
    (hx : PassesAt CX X σ (E σ)) (I : Inv X pins σ H s) (r : Vals vs us) (h : sp vs H Q (E σ)) : wpAny (model X.prog X.w) X.A.in1 (call (.ref f) us) (EP X pins σ Q) X.xe s := by
  have n1 : vs.length = ps.length := F.len _ _ _ _ h
  have bb := hb s us I.kIn (by rw [List.append_nil, ← r.length]; exact n1)
  rw [List.append_nil] at bb
  refine wpAny_call (codeAny_mono (F.go X.A.in1 X.stack s H ⟨us, []⟩ us vs Q (E σ) hr (env0_in1 I.env0) bb r h) fun res s2 z => ?_)
  cases res with
  | error e => exact hx pins H s e s2 I z
  | ok fl => cases fl with
    | ret u => exact I.after z
    | next => exact z.elim
    | brk => exact z.elim
    | cont => exact z.elim
end
section
variable {X : Cx} {zz : List Addr} {W : WX} {k kk f : Nat}
theorem o_neI {cn : Str} {tys : List TyV} {F : List D → M D} (hm : Meth X.K (He.ga X.K cn) "__eq__" f) (G : OkF X.prog X.w X.K X.mg X.base k f 2 F) (hr : RoomG kk X.A) (hk : k + 1 ≤ kk) (hne : neB X.K cn = true)
    (hN : ∀ t ∈ tys, PySem.W.notFirst X.K (He.ga X.K cn) (t.val X.K) = true) (hC : ∀ t ∈ tys, ∀ c, t = .o c → ClsI X.K c) : OpR X (compareOp .NotEq) (r2 (X.K, zz) (gNeI cn tys F)) := by
  intro pins s σ H x y u w Q I rx ry h
  obtain ⟨m, d, e, st, S, hd, he, hG⟩ := h
  unfold gNeI at hG
  unfold neB at hne
  rw [Bool.and_eq_true] at hne
  have n1 := He.eqO_ok hne.1
  have n2 := of_decide_eq_true hne.2
  cases h1 : insOf cn st d with
  | none => rw [h1] at hG; exact hG.elim
  | some p =>
    cases h2 : tyV st e with
    | none => rw [h1, h2] at hG; exact hG.elim
    | some t =>
      rw [h1, h2] at hG
      by_cases ht : t ∈ tys
      · simp only [if_pos ht] at hG
        cases h3 : F [d, e] st with
        | stuck => rw [h3] at hG; exact hG.elim
        | exn x s1 => rw [h3] at hG; exact hG.elim
        | ok r s1 =>
          rw [h3] at hG
          cases r with
          | bl b =>
            have hG : GoodV (X.K, zz) m H Q (some (.bl (!b), s1)) := hG
            obtain ⟨fs, ds⟩ := p
            obtain ⟨a, dx, vs, rfl, hl, ha, hq⟩ := insOf_at S hd h1
            cases rx
            obtain ⟨fd, ps, FF, hb, hkp⟩ := G
            obtain ⟨mA, J, _⟩ := ins_get I.hok ha
            obtain ⟨od, J, _⟩ := J.look
            obtain ⟨mF, hF⟩ := I.fr
            have ty := tyV_ok S he h2 (hC t ht)
            obtain ⟨P, hP, hP2, _⟩ := kit_y I ry ty
            have hu : X.A.units + 1 < cLine := by have := hr.un; omega
            show wpAny (model X.prog X.w) X.A (richCompare .NotEq (.ref a) w) (EP X pins σ Q) X.xe s
            refine PySem.W.cmp_ne_K (tb := t.val X.K) hu hF I.ok.mod.kin J (hP.ty _ _ I.kIn hP2) (hN t ht) n1 n2 hm.at_ hm.fn ?_
            have hsp : spF X.K 2 F [.ref a, y] H (fun v H' => v = .bl b ∧ Q (.bl (!b)) H') C8.E0 := by
              refine ⟨rfl, zz, m, [d, e], st, .cons hd (.cons he .nil), S, ?_⟩
              rw [h3]
              intro m' H' v x1 S1 r1
              cases r1
              exact ⟨rfl, hG m' H' _ x1 S1 (.bl _)⟩
            refine wpAny_mono (run_fnG1 (us := [.ref a, w]) (vs := [.ref a, y]) (E := fun _ => C8.E0) FF (RoomG.in1 (hr.mono hk)) hb (fun pins H s e s' I c => passL pins σ H s e s' I c) I (.cons rfl (.cons ry .nil)) hsp) (fun v s' hv => ?_) fun _ _ z => z
            obtain ⟨z, H', I', rz, ez, q⟩ := hv
            subst ez
            cases rz
            exact ⟨b, rfl, .bl (!b), H', I', rfl, q⟩
          | _ => exact hG.elim
      · simp only [if_neg ht] at hG; exact hG.elim
end
@[simp] theorem wpv_neI2 {cn : Str} {tys : List TyV} {F : List D → M D} {x y : D} {s : Sto} {Q : D → Sto → Prop} {b : Bool} {p : List Str × List D} {t : TyV} (h1 : insOf cn s x = some p) (h2 : tyV s y = some t) (ht : t ∈ tys) (h3 : F [x, y] s = .ok (.bl b) s) : wpv (gNeI cn tys F x y s) Q = Q (.bl (!b)) s := by
  have e : gNeI cn tys F x y s = some (.bl (!b), s) := by simp only [gNeI, h1, h2, if_pos ht, h3]
  rw [e, wpv_some]
end QS
end

section
set_option Elab.async false
set_option linter.all false
set_option maxRecDepth 100000
set_option maxHeartbeats 4000000
/-! QS33: repr of data in which dicts stand (no list beside them). -/
namespace QS
open PySem PySem.Spec PyProof.Rows L2
def keyP : Key → PyData
  | .inl i => .int i
  | .inr x => .str x
mutual
def noLst : PyData → Bool
  | .list _ => false
  | .tuple xs => noLstA xs
  | .dict kvs => noLstK kvs
  | _ => true
def noLstA : List PyData → Bool
  | [] => true
  | x :: r => noLst x && noLstA r
def noLstK : List (PyData × PyData) → Bool
  | [] => true
  | p :: r => noLst p.2 && noLstK r
end
theorem noLstK_zip : ∀ {ks : List PyData} {xs : List PyData}, ks.length = xs.length → noLstK (ks.zip xs) = noLstA xs
  | [], [], _ => by simp [noLstK, noLstA]
  | [], _ :: _, h => by simp at h
  | _ :: _, [], h => by simp at h
  | k :: ks, x :: xs, h => by
    simp only [List.zip_cons_cons, noLstK, noLstA]
    rw [noLstK_zip (by simpa using h)]
mutual
inductive Dq (K : PySem.W.Frag) (H : Hp) : V → PyData → Prop
  | non : Dq K H .non .none
  | bl (b : Bool) : Dq K H (.bl b) (.bool b)
  | int (i : Int) : Dq K H (.int i) (.int i)
  | str (x : Str) : Dq K H (.str x) (.str x)
  | lst {a : Addr} {xs : List V} {ds : List PyData} : SqL K H a xs → DqA K H xs ds → Dq K H (.ref a) (.list ds)
  | tup {a : Addr} {xs : List V} {ds : List PyData} : SqT K H a xs → DqA K H xs ds → Dq K H (.ref a) (.tuple ds)
  | dic {a : Addr} {ks : List Key} {xs : List V} {ds : List PyData} : ks.length = xs.length → Rd H a (.dK (ks.zip xs)) → DqA K H xs ds → Dq K H (.ref a) (.dict ((ks.map keyP).zip ds))
inductive DqA (K : PySem.W.Frag) (H : Hp) : List V → List PyData → Prop
  | nil : DqA K H [] []
  | cons {v : V} {vs : List V} {d : PyData} {ds : List PyData} : Dq K H v d → DqA K H vs ds → DqA K H (v :: vs) (d :: ds)
end
theorem DqA.length {K : PySem.W.Frag} {H : Hp} : ∀ {vs : List V} {ds : List PyData}, DqA K H vs ds → vs.length = ds.length
  | _, _, .nil => rfl
  | _, _, .cons _ r => by simp [DqA.length r]
theorem keys_read {P : Program} {w : World} {h : Heap} : ∀ {es : List DictEntry} {kv : List (Key × Value)}, Pairs (mixKind P w) es kv → ReadsAll h (es.map (·.key)) ((kv.map (·.1)).map keyP) [] ∧ es.map (·.val) = kv.map (·.2)
  | _, _, .nil => ⟨.nil, rfl⟩
  | _, _, .cons (e := e) (kv := kv) h1 h2 r => by
    obtain ⟨i1, i2⟩ := keys_read (h := h) r
    refine ⟨?_, by simp [i2, h2]⟩
    have h1 : keyIs kv.1 e.key = true := h1
    have : Reads h e.key (keyP kv.1) [] := by
      rcases keyIs_shape h1 with ⟨i, t, e1, e2⟩ | ⟨x, t, e1, e2⟩
      · rw [e1, e2]; exact .int i t
      · rw [e1, e2]; exact .str x t
    have z := ReadsAll.cons this i1
    simpa using z
theorem kv_zip : ∀ {ks : List Key} {xs : List V} {kv : List (Key × Value)}, ks.length = xs.length → KV (ks.zip xs) kv → kv.map (·.1) = ks ∧ Vals xs (kv.map (·.2))
  | [], [], _, _, h => by cases h; exact ⟨rfl, .nil⟩
  | [], _ :: _, _, h, _ => by simp at h
  | _ :: _, [], _, h, _ => by simp at h
  | k :: ks, x :: xs, _, h, q => by
    have q : KV ((k, x) :: ks.zip xs) _ := q
    cases q with
    | cons q1 q2 =>
      obtain ⟨i1, i2⟩ := kv_zip (by simpa using h) q2
      obtain ⟨e1, e2⟩ := q1
      exact ⟨by simp [i1]; exact e1.symm, .cons e2 i2⟩
section
variable {X : Cx} {pins : List (Addr × Obj)} {σ : St} {H : Hp} {s : Shared}
theorem dict_obj (I : Inv X pins σ H s) {a : Addr} {kv : List (Key × V)} (h : Rd H a (.dK kv)) : kv.length ≤ sizeLine ∧ (a == sysModules) = false ∧ ∃ vs, KV kv vs ∧ s.heap.DictOf (mixKind X.prog X.w) a vs := by
  rcases h with h | ⟨o, h⟩
  · exact I.hok a _ h
  · exact (I.hok a _ h).2
mutual
theorem Dq.reads (I : Inv X pins σ H s) : ∀ {v : V} {d : PyData} {u : Value}, Dq X.K H v d → RelV v u → ∃ as, Reads s.heap u d as ∧ (noLst d = true → sysModules ∉ as)
  | _, _, _, .non, r => by cases r; exact ⟨_, Reads.none, fun _ => by simp⟩
  | _, _, _, .bl b, r => by cases r; exact ⟨_, Reads.bool b, fun _ => by simp⟩
  | _, _, _, .int i, r => by obtain ⟨t, rfl⟩ := r; exact ⟨_, Reads.int i t, fun _ => by simp⟩
  | _, _, _, .str x, r => by obtain ⟨t, rfl⟩ := r; exact ⟨_, Reads.str x t, fun _ => by simp⟩
  | _, _, _, .lst hs ha, r => by
    cases r
    obtain ⟨its, rv, ⟨o, n, ho, hc, _, hd⟩, _⟩ := I.list hs
    obtain ⟨as, hr, _⟩ := DqA.reads I ha rv
    exact ⟨_, Reads.list ho hc hd hr, fun z => by simp [noLst] at z⟩
  | _, _, _, .tup hs ha, r => by
    cases r
    obtain ⟨its, rv, ⟨o, ho, hc, n, hd⟩, _⟩ := I.tuple hs
    obtain ⟨as, hr, hn⟩ := DqA.reads I ha rv
    exact ⟨_, Reads.tuple ho hc hd hr, fun z => hn (by simpa only [noLst] using z)⟩
  | _, _, _, .dic (ks := ks) (ds := ds) hl hs ha, r => by
    cases r
    obtain ⟨_, hy, kv, hkv, o, es, ep, ho, hx, hd, _, hp, _⟩ := dict_obj I hs
    obtain ⟨e1, e2⟩ := kv_zip hl hkv
    obtain ⟨k1, k2⟩ := keys_read (h := s.heap) hp
    obtain ⟨bs, hr, hn⟩ := DqA.reads I ha e2
    have el : (ks.map keyP).length = ds.length := by rw [List.length_map, hl, ha.length]
    refine ⟨_, Reads.dict ho hx.1 hd (as := []) (bs := bs) ?_ ?_, fun z => ?_⟩
    · rw [List.map_fst_zip (by omega), ← e1]; exact k1
    · rw [List.map_snd_zip (by omega), k2]; exact hr
    · have z : noLstK ((ks.map keyP).zip ds) = true := by simpa only [noLst] using z
      rw [noLstK_zip el] at z
      have := hn z
      simp only [List.cons_append, List.nil_append, List.mem_cons, not_or]
      exact ⟨fun e => by rw [e] at hy; simp at hy, this⟩
theorem DqA.reads (I : Inv X pins σ H s) : ∀ {vs : List V} {ds : List PyData} {us : List Value}, DqA X.K H vs ds → Vals vs us → ∃ as, ReadsAll s.heap us ds as ∧ (noLstA ds = true → sysModules ∉ as)
  | _, _, _, .nil, r => by cases r; exact ⟨_, ReadsAll.nil, fun _ => by simp⟩
  | _, _, _, .cons h1 h2, r => by
    cases r with
    | cons r1 r2 =>
      obtain ⟨as, q1, n1⟩ := Dq.reads I h1 r1
      obtain ⟨bs, q2, n2⟩ := DqA.reads I h2 r2
      refine ⟨_, ReadsAll.cons q1 q2, fun z => ?_⟩
      simp only [noLstA, Bool.and_eq_true] at z
      rw [List.mem_append]
      exact fun e => e.elim (n1 z.1) (n2 z.2)
end
end
/-! ### data with dicts -/
mutual
def dq0 : D → Option PyData
  | .non => some .none
  | .bl b => some (.bool b)
  | .int i => some (.int i)
  | .str x => some (.str x)
  | .tup l => (dq0L l).map .tuple
  | .lst l => (dq0L l).map .list
  | .scr l => (dq0L l).map .list
  | .dic ks vs => (dq0L vs).map fun xs => .dict ((ks.map keyP).zip xs)
  | .ins _ _ _ => none
  | .loc _ => none
  | .adr _ => none
  | .xo _ _ _ _ => none
  | .th _ _ _ _ _ => none
  | .odd _ => none
def dq0L : List D → Option (List PyData)
  | [] => some []
  | d :: r => (dq0 d).bind fun x => (dq0L r).map (x :: ·)
end
def dqOf (s : Sto) : D → Option PyData
  | .loc n => match s[n]? with
    | some (.lst l) => (dq0L l).map .list
    | _ => none
  | d => dq0 d
section
variable {K : KZ} {m : List Addr} {H : Hp}
mutual
theorem dq0_at : ∀ {d : D} {v : V} {x : PyData}, Rep K m H d v → dq0 d = some x → Dq K.1 H v x
  | _, _, _, .non, h => by cases h; exact .non
  | _, _, _, .bl b, h => by cases h; exact .bl b
  | _, _, _, .int i, h => by cases h; exact .int i
  | _, _, _, .str x, h => by cases h; exact .str x
  | _, _, _, .tup e r, h => by
    obtain ⟨xs, h1, h2⟩ := Option.map_eq_some_iff.mp (show (dq0L _).map PyData.tuple = some _ from by simpa only [dq0] using h)
    subst h2
    exact .tup e (dq0L_at r h1)
  | _, _, _, .lst _ e r, h => by
    obtain ⟨xs, h1, h2⟩ := Option.map_eq_some_iff.mp (show (dq0L _).map PyData.list = some _ from by simpa only [dq0] using h)
    subst h2
    exact .lst (.inl (.inl e)) (dq0L_at r h1)
  | _, _, _, .scr e r, h => by
    obtain ⟨xs, h1, h2⟩ := Option.map_eq_some_iff.mp (show (dq0L _).map PyData.list = some _ from by simpa only [dq0] using h)
    subst h2
    exact .lst e.l (dq0L_at r h1)
  | _, _, _, .dic _ l e r, h => by
    obtain ⟨xs, h1, h2⟩ := Option.map_eq_some_iff.mp (show (dq0L _).map (fun xs => PyData.dict ((_ : List Key).map keyP |>.zip xs)) = some _ from by simpa only [dq0] using h)
    subst h2
    exact .dic l e (dq0L_at r h1)
  | _, _, _, .ins _ _ _ _, h => by simp [dq0] at h
  | _, _, _, .loc _, h => by simp [dq0] at h
  | _, _, _, .adr _, h => by simp [dq0] at h
  | _, _, _, .xo _ _ _, h => by simp [dq0] at h
  | _, _, _, .th _ _ _, h => by simp [dq0] at h
  | _, _, _, .odd _ _ _, h => by simp [dq0] at h
theorem dq0L_at : ∀ {ds : List D} {vs : List V} {xs : List PyData}, RepL K m H ds vs → dq0L ds = some xs → DqA K.1 H vs xs
  | _, _, _, .nil, h => by simp only [dq0L] at h; cases h; exact .nil
  | _, _, _, .cons hd r, h => by
    simp only [dq0L] at h
    obtain ⟨x, h1, h2⟩ := Option.bind_eq_some_iff.mp h
    obtain ⟨ys, h3, h4⟩ := Option.map_eq_some_iff.mp h2
    subst h4
    exact .cons (dq0_at hd h1) (dq0L_at r h3)
end
theorem dqOf_at {s : Sto} {d : D} {v : V} {x : PyData} (S : StR K m H s) (r : Rep K m H d v) (h : dqOf s d = some x) : Dq K.1 H v x := by
  cases r with
  | @loc n a e =>
    have h : (match s[n]? with
      | some (.lst l) => (dq0L l).map PyData.list
      | _ => none) = some x := h
    cases z : s[n]? with
    | none => rw [z] at h; cases h
    | some o =>
      rw [z] at h
      cases o with
      | lst l =>
        obtain ⟨xs, h1, h2⟩ := Option.map_eq_some_iff.mp (show (dq0L l).map PyData.list = some x from h)
        subst h2
        obtain ⟨vs, e1, q⟩ := S.obj n a _ e z
        exact .lst (.inl (.inl e1)) (dq0L_at q h1)
      | _ => cases h
  | non => exact dq0_at (m := m) .non h
  | bl b => exact dq0_at (m := m) (.bl b) h
  | int b => exact dq0_at (m := m) (.int b) h
  | str b => exact dq0_at (m := m) (.str b) h
  | tup e q => exact dq0_at (m := m) (.tup e q) h
  | lst n e q => exact dq0_at (m := m) (.lst n e q) h
  | scr e q => exact dq0_at (m := m) (.scr e q) h
  | dic a b c d => exact dq0_at (m := m) (.dic a b c d) h
  | ins a b c d => exact dq0_at (m := m) (.ins a b c d) h
  | adr a => exact dq0_at (m := m) (.adr a) h
  | xo a b c => exact dq0_at (m := m) (.xo a b c) h
  | th a b c => exact dq0_at (m := m) (.th a b c) h
  | odd a b c => exact dq0_at (m := m) (.odd a b c) h
end
def gReprE : List D → V1 D := g1 fun s x => (dqOf s x).bind fun d => if d.showable = true ∧ (d.hasDict = false ∨ noLst d = true) ∧ d.depth ≤ 60 ∧ d.shown.length ≤ sizeLine then some (.str d.shown) else none
section
variable {X : Cx} {zz : List Addr}
theorem c_reprE {k : Nat} (hr : RoomG k X.A) : CallR X (.builtin "repr") (rL (X.K, zz) gReprE) := by
  intro pins s σ H xs us Q I r h
  obtain ⟨m, d, e, st, v, rfl, S, hd, he, q⟩ := g1_at h
  obtain ⟨u, rfl, ru⟩ := vals1 r
  obtain ⟨x, h1, h2⟩ := Option.bind_eq_some_iff.mp he
  by_cases c : x.showable = true ∧ (x.hasDict = false ∨ noLst x = true) ∧ x.depth ≤ 60 ∧ x.shown.length ≤ sizeLine
  · rw [if_pos c] at h2
    cases h2
    obtain ⟨c1, c2, c3, c4⟩ := c
    obtain ⟨as, rd, hn⟩ := Dq.reads I (dqOf_at S hd h1) ru
    have hu := hr.un
    have fin : ∀ h' u' tk, (∀ b o, s.heap.get? b = some o → h'.get? b = some o) → EP X pins σ Q (.str x.shown u') { s with heap := h', toks := tk } := fun h' u' tk k => ⟨.str x.shown, H, I.kept k, ⟨_, rfl⟩, q _ (.str _)⟩
    have hsm : x.hasDict = true → sysModules ∉ as := fun z => by
      rcases c2 with c2 | c2
      · rw [c2] at z; cases z
      · exact hn c2
    cases u with
    | ref a => exact repr_of_reads' rd c1 hsm hr.gd (by omega) (fun _ _ e => e) fin c4
    | none =>
      cases rd
      exact PySem.P.repr_of_none (fin s.heap _ _ fun _ _ e => e)
    | bool b =>
      cases rd
      exact PySem.P.repr_of_bool (fin s.heap _ _ fun _ _ e => e)
    | int i t =>
      cases rd
      exact PySem.P.repr_of_int (by simpa [PyData.showable] using c1) (fin s.heap _ _ fun _ _ e => e)
    | str z t =>
      cases rd
      exact PySem.P.repr_of_str (fin s.heap _ _ fun _ _ e => e) (by simpa only [PyData.shown] using c4)
    | _ => cases rd
  · rw [if_neg c] at h2; cases h2
end
theorem wpv_reprE {x : D} {s : Sto} {Q : D → Sto → Prop} {d : PyData} (h : dqOf s x = some d) (c : d.showable = true ∧ (d.hasDict = false ∨ noLst d = true) ∧ d.depth ≤ 60 ∧ d.shown.length ≤ sizeLine) : wpv (gReprE [x] s) Q = Q (.str d.shown) s := by
  have e : gReprE [x] s = some (.str d.shown, s) := by simp only [gReprE, g1, h, Option.bind_some, if_pos c, Option.map_some]
  rw [e, wpv_some]
end QS
end

section
set_option Elab.async false
set_option linter.all false
set_option maxRecDepth 100000
set_option maxHeartbeats 1000000
/-! QS34: data whose text is short and well formed. -/
namespace QS
open PySem PySem.Spec PyProof.Rows L2
/-- f: no list inside (dicts may stand); else no dict -/
structure TX (f : Bool) (k n : Nat) (x : PyData) : Prop where
  sh : x.showable = true
  di : if f = true then noLst x = true else x.hasDict = false
  dp : x.depth ≤ k
  len : x.shown.length ≤ n
  ok : PyData.strOk x.shown = true
def GT (f : Bool) (k n : Nat) (d : D) : Prop := ∃ x, dq0 d = some x ∧ TX f k n x
theorem TX.mono {f : Bool} {k n k' n' : Nat} {x : PyData} (h : TX f k n x) (hk : k ≤ k') (hn : n ≤ n') : TX f k' n' x := ⟨h.sh, h.di, Nat.le_trans h.dp hk, Nat.le_trans h.len hn, h.ok⟩
theorem GT.mono {f : Bool} {k n k' n' : Nat} {d : D} (h : GT f k n d) (hk : k ≤ k') (hn : n ≤ n') : GT f k' n' d := by obtain ⟨x, h1, h2⟩ := h; exact ⟨x, h1, h2.mono hk hn⟩
theorem GT.int {f : Bool} {i : Int} (h : i.natAbs < 10 ^ 500) : GT f 0 501 (.int i) := ⟨.int i, rfl, showable_int h, by cases f <;> simp [noLst, PyData.hasDict], by simp [PyData.depth], shown_int_le h, ok_int⟩
theorem GT.non {f : Bool} : GT f 0 501 .non := ⟨.none, rfl, by simp [PyData.showable], by cases f <;> simp [noLst, PyData.hasDict], by simp [PyData.depth], by simp only [PyData.shown]; decide, ok_none⟩
theorem GT.bl {f b : Bool} : GT f 0 501 (.bl b) := ⟨.bool b, rfl, by simp [PyData.showable], by cases f <;> simp [noLst, PyData.hasDict], by simp [PyData.depth], by simp only [PyData.shown]; cases b <;> decide, ok_bool⟩
theorem GT.str {f : Bool} {x : Str} (h : (reprText x).length ≤ 501) (h2 : PyData.strOk (reprText x) = true) : GT f 0 501 (.str x) := ⟨.str x, rfl, by simp [PyData.showable], by cases f <;> simp [noLst, PyData.hasDict], by simp [PyData.depth], by simpa only [PyData.shown] using h, by simpa only [PyData.shown] using h2⟩
/-- data of one kind, one behind another -/
theorem gtL {f : Bool} {k n : Nat} : ∀ {l : List D}, (∀ d ∈ l, GT f k n d) → ∃ xs, dq0L l = some xs ∧ xs.length = l.length ∧ (∀ x ∈ xs, TX f k n x)
  | [], _ => ⟨[], by simp [dq0L], rfl, fun x hx => nomatch hx⟩
  | d :: r, h => by
    obtain ⟨x, h1, h2⟩ := h d (List.mem_cons_self ..)
    obtain ⟨xs, h3, h4, h5⟩ := gtL (l := r) fun d hd => h d (List.mem_cons_of_mem _ hd)
    refine ⟨x :: xs, by simp [dq0L, h1, h3], by simp [h4], fun y hy => ?_⟩
    rcases List.mem_cons.mp hy with rfl | hy
    · exact h2
    · exact h5 y hy
theorem tx_all {f : Bool} {k n : Nat} : ∀ {xs : List PyData}, (∀ x ∈ xs, TX f k n x) → PyData.showableAll xs = true ∧ (if f = true then noLstA xs = true else PyData.hasDictAll xs = false) ∧ PyData.depthAll xs ≤ k ∧ piled (PyData.shownAll xs) ≤ xs.length * (n + 2) ∧ (∀ t ∈ PyData.shownAll xs, PyData.strOk t = true) ∧ (PyData.shownAll xs).length = xs.length
  | [], _ => by cases f <;> simp [PyData.showableAll, noLstA, PyData.hasDictAll, PyData.depthAll, PyData.shownAll, piled]
  | x :: xs, h => by
    have h1 := h x (List.mem_cons_self ..)
    obtain ⟨a1, a2, a3, a4, a5, a6⟩ := tx_all (xs := xs) fun y hy => h y (List.mem_cons_of_mem _ hy)
    refine ⟨by simp [PyData.showableAll, h1.sh, a1], ?_, ?_, ?_, ?_, by simp [PyData.shownAll, a6]⟩
    · have := h1.di
      cases f <;> simp_all [noLstA, PyData.hasDictAll]
    · have := h1.dp
      simp only [PyData.depthAll]; omega
    · have := h1.len
      simp only [PyData.shownAll, piled_cons, List.length_cons, Nat.add_mul]; omega
    · intro t ht
      simp only [PyData.shownAll, List.mem_cons] at ht
      rcases ht with rfl | ht
      · exact h1.ok
      · exact a5 t ht
theorem TX.tup {f : Bool} {k n m : Nat} {xs : List PyData} (h : ∀ x ∈ xs, TX f k n x) (hm : xs.length ≤ m) : TX f (k + 1) (3 + m * (n + 2)) (.tuple xs) := by
  obtain ⟨a1, a2, a3, a4, a5, a6⟩ := tx_all h
  refine ⟨by simpa only [PyData.showable] using a1, by simpa only [noLst, PyData.hasDict] using a2, by simp only [PyData.depth]; omega, ?_, by simp only [PyData.shown]; exact ok_tuple a5⟩
  have := tupleText_le (PyData.shownAll xs)
  have := Nat.mul_le_mul_right (n + 2) hm
  simp only [PyData.shown]; omega
theorem TX.lst {k n m : Nat} {xs : List PyData} (h : ∀ x ∈ xs, TX false k n x) (hm : xs.length ≤ m) : TX false (k + 1) (3 + m * (n + 2)) (.list xs) := by
  obtain ⟨a1, a2, a3, a4, a5, a6⟩ := tx_all h
  refine ⟨by simpa only [PyData.showable] using a1, by simpa [PyData.hasDict] using a2, by simp only [PyData.depth]; omega, ?_, by simp only [PyData.shown]; exact ok_list a5⟩
  have := listText_le (PyData.shownAll xs)
  have := Nat.mul_le_mul_right (n + 2) hm
  simp only [PyData.shown]; omega
theorem GT.tup {f : Bool} {k n m : Nat} {l : List D} (h : ∀ d ∈ l, GT f k n d) (hm : l.length ≤ m) : GT f (k + 1) (3 + m * (n + 2)) (.tup l) := by
  obtain ⟨xs, h1, h2, h3⟩ := gtL h
  exact ⟨.tuple xs, by simp [dq0, h1], TX.tup h3 (by omega)⟩
theorem GT.lst {k n m : Nat} {l : List D} (h : ∀ d ∈ l, GT false k n d) (hm : l.length ≤ m) : GT false (k + 1) (3 + m * (n + 2)) (.lst l) := by
  obtain ⟨xs, h1, h2, h3⟩ := gtL h
  exact ⟨.list xs, by simp [dq0, h1], TX.lst h3 (by omega)⟩
theorem dictText_le (ts : List Str) : (dictText ts).length ≤ 2 + piled ts := by
  unfold dictText
  rw [strLen_append, strLen_append]
  have e1 : (Str.ofString "{").length = 1 := rfl
  have e2 : (Str.ofString "}").length = 1 := rfl
  cases ts with
  | nil =>
    have : (Str.join ", " ([] : List Str)).length = 0 := rfl
    omega
  | cons t r =>
    have := join_length_add (t :: r) (by simp)
    omega
theorem ok_dict {ts : List Str} (h : ∀ t ∈ ts, PyData.strOk t = true) : PyData.strOk (dictText ts) = true := ok_app (ok_app (ok_of _) (ok_join _ (ok_of _) ts h)) (ok_of _)
theorem GT.dic0 : GT true 1 2 (.dic [] []) := ⟨.dict [], by simp [dq0, dq0L], by simp [PyData.showable, PyData.showableKv], by simp [noLst, noLstK], by simp [PyData.depth, PyData.depthKv], by simp only [PyData.shown, PyData.shownKv]; decide, by simp only [PyData.shown, PyData.shownKv]; exact ok_dict fun t ht => nomatch ht⟩
theorem GT.dic1 {i : Int} {k n : Nat} {d : D} (hi : i.natAbs < 10 ^ 500) (h : GT true k n d) : GT true (k + 1) (n + 507) (.dic [.inl i] [d]) := by
  obtain ⟨x, h1, h2⟩ := h
  have e1 := showable_int hi
  have e2 := shown_int_le hi
  have hdi : noLst x = true := by simpa using h2.di
  have hk : PyData.depth (.int i) = 0 := by simp [PyData.depth]
  refine ⟨.dict [(.int i, x)], by simp [dq0, dq0L, h1, keyP], by simp [PyData.showable, PyData.showableKv, h2.sh] ; simpa [PyData.showable] using e1, by simp [noLst, noLstK, hdi], by simp only [PyData.depth, PyData.depthKv]; have := h2.dp; omega, ?_, ?_⟩
  · simp only [PyData.shown, PyData.shownKv]
    have e3 := dictText_le [PyData.shown (.int i) ++ ": " ++ PyData.shown x]
    have e4 : piled [PyData.shown (.int i) ++ ": " ++ PyData.shown x] = (PyData.shown (.int i)).length + 2 + (PyData.shown x).length + 2 := by
      simp only [piled_cons, piled_nil, strLen_append]
      have : (Str.ofString ": ").length = 2 := rfl
      omega
    have := h2.len
    simp only [PyData.shown] at e2 e3 e4 ⊢
    omega
  · simp only [PyData.shown, PyData.shownKv]
    refine ok_dict fun t ht => ?_
    rw [List.mem_singleton] at ht
    subst ht
    exact ok_app (ok_app ok_int (ok_of _)) h2.ok
/-! such data are closed -/
mutual
theorem dq0_closed : ∀ {d : D} {x : PyData} (k : Nat), dq0 d = some x → closed k d = true
  | .non, _, _, _ => by simp
  | .bl _, _, _, _ => by simp
  | .int _, _, _, _ => by simp
  | .str _, _, _, _ => by simp
  | .tup l, _, k, h => by
    obtain ⟨xs, h1, h2⟩ := Option.map_eq_some_iff.mp (show (dq0L l).map PyData.tuple = some _ from by simpa only [dq0] using h)
    rw [closed_tup]
    exact dq0L_closed k h1
  | .lst l, _, k, h => by
    obtain ⟨xs, h1, h2⟩ := Option.map_eq_some_iff.mp (show (dq0L l).map PyData.list = some _ from by simpa only [dq0] using h)
    rw [closed_lst]
    exact dq0L_closed k h1
  | .scr l, _, k, h => by
    obtain ⟨xs, h1, h2⟩ := Option.map_eq_some_iff.mp (show (dq0L l).map PyData.list = some _ from by simpa only [dq0] using h)
    rw [closed_scr]
    exact dq0L_closed k h1
  | .dic ks l, _, k, h => by
    obtain ⟨xs, h1, h2⟩ := Option.map_eq_some_iff.mp (show (dq0L l).map (fun xs => PyData.dict ((ks.map keyP).zip xs)) = some _ from by simpa only [dq0] using h)
    rw [closed_dic]
    exact dq0L_closed k h1
  | .ins _ _ _, _, _, h => by simp [dq0] at h
  | .loc _, _, _, h => by simp [dq0] at h
  | .adr _, _, _, h => by simp [dq0] at h
  | .xo _ _ _ _, _, _, h => by simp [dq0] at h
  | .th _ _ _ _ _, _, _, h => by simp [dq0] at h
  | .odd _, _, _, h => by simp [dq0] at h
theorem dq0L_closed : ∀ {l : List D} {xs : List PyData} (k : Nat), dq0L l = some xs → closedL k l = true
  | [], _, _, _ => by simp
  | d :: r, _, k, h => by
    simp only [dq0L] at h
    obtain ⟨x, h1, h2⟩ := Option.bind_eq_some_iff.mp h
    obtain ⟨ys, h3, h4⟩ := Option.map_eq_some_iff.mp h2
    rw [closedL_cons, dq0_closed k h1, dq0L_closed k h3]
    rfl
end
theorem GT.closed {f : Bool} {k n : Nat} {d : D} (h : GT f k n d) (j : Nat) : QS.closed j d = true := by obtain ⟨x, h1, _⟩ := h; exact dq0_closed j h1
theorem dq0L_mem : ∀ {l : List D} {xs : List PyData}, dq0L l = some xs → ∀ d ∈ l, ∃ x, dq0 d = some x
  | [], _, _, d, hd => nomatch hd
  | e :: r, _, h, d, hd => by
    simp only [dq0L] at h
    obtain ⟨x, h1, h2⟩ := Option.bind_eq_some_iff.mp h
    obtain ⟨ys, h3, h4⟩ := Option.map_eq_some_iff.mp h2
    rcases List.mem_cons.mp hd with rfl | hd
    · exact ⟨x, h1⟩
    · exact dq0L_mem h3 d hd
theorem dq0_tup {l : List D} {x : PyData} (h : dq0 (.tup l) = some x) : ∀ d ∈ l, ∃ y, dq0 d = some y := by
  obtain ⟨xs, h1, h2⟩ := Option.map_eq_some_iff.mp (show (dq0L l).map PyData.tuple = some _ from by simpa only [dq0] using h)
  exact dq0L_mem h1
theorem dqOf_dq0 {d : D} {x : PyData} (h : dq0 d = some x) (s : Sto) : dqOf s d = some x := by
  cases d with
  | loc n => simp [dq0] at h
  | _ => exact h
/-- the text of such data -/
theorem repr_gt {f : Bool} {k n : Nat} {d : D} (h : GT f k n d) (hk : k ≤ 60) (hn : n ≤ 16000000) : ∃ t : Str, PyData.strOk t = true ∧ (∀ s, gReprE [d] s = some (.str t, s)) := by
  obtain ⟨x, h1, h2⟩ := h
  refine ⟨x.shown, h2.ok, fun s => ?_⟩
  have hsz : 16777216 = sizeLine := by decide
  have c : x.showable = true ∧ (x.hasDict = false ∨ noLst x = true) ∧ x.depth ≤ 60 ∧ x.shown.length ≤ sizeLine := by
    refine ⟨h2.sh, ?_, Nat.le_trans h2.dp hk, by have := h2.len; omega⟩
    have := h2.di
    cases f
    · exact .inl (by simpa using this)
    · exact .inr (by simpa using this)
  simp only [gReprE, g1, dqOf_dq0 h1, Option.bind_some, if_pos c, Option.map_some]
end QS
end

section
set_option Elab.async false
set_option linter.all false
set_option maxRecDepth 100000
set_option maxHeartbeats 4000000
/-! QS35: sorted(xs, key=lambda x: (len(x), x)), xs a list of tuples. -/
namespace QS
open PySem PySem.Spec PyProof.Rows L2 LamX
/-! data without lists and dicts read no address -/
mutual
def flatD : PyData → Bool
  | .list _ => false
  | .dict _ => false
  | .tuple xs => flatA xs
  | _ => true
def flatA : List PyData → Bool
  | [] => true
  | x :: r => flatD x && flatA r
end
mutual
theorem reads_flat {h : Heap} : ∀ {v : Value} {d : PyData} {as : List Addr}, Reads h v d as → flatD d = true → as = []
  | _, _, _, .none, _ => rfl
  | _, _, _, .bool _, _ => rfl
  | _, _, _, .int _ _, _ => rfl
  | _, _, _, .str _ _, _ => rfl
  | _, _, _, .list _ _ _ _, z => by simp [flatD] at z
  | _, _, _, .tuple _ _ _ r, z => readsA_flat r (by simpa only [flatD] using z)
  | _, _, _, .dict _ _ _ _ _, z => by simp [flatD] at z
theorem readsA_flat {h : Heap} : ∀ {vs : List Value} {ds : List PyData} {as : List Addr}, ReadsAll h vs ds as → flatA ds = true → as = []
  | _, _, _, .nil, _ => rfl
  | _, _, _, .cons r s, z => by
    simp only [flatA, Bool.and_eq_true] at z
    rw [reads_flat r z.1, readsA_flat s z.2]
    rfl
end
theorem readsA_len {h : Heap} : ∀ {vs : List Value} {ds : List PyData} {as : List Addr}, ReadsAll h vs ds as → vs.length = ds.length
  | _, _, _, .nil => rfl
  | _, _, _, .cons _ s => by simp [readsA_len s]
/-- the key -/
def keyLen : PyData → PyData
  | .tuple xs => .tuple [.int xs.length, .tuple xs]
  | d => d
section
variable {X : Cx} {pins : List (Addr × Obj)} {σ : L2.St} {H : Hp} {s : Shared}
theorem key_turn {f c' : Addr} {x : Str} {params : Arguments} {scope : Scope} {cl : List (Str × Addr)} {pm ctv : Value} {cx : Nat} {p1 p2 p3 p4 p5 : Pos} {A' : Around} {q : Str} {v : Value} {xs : List PyData}
    (I : Inv X pins σ H s) (hfo : s.heap.get? f = some (PySem.W.kla_obj "<lambda>" q params (.Tuple [.Call (.Name "len" p1) [.Name x p2] [] p3, .Name x p4] cx p5) scope cl pm c' ctv)) (hco : H c' = some (CodeO c' q))
    (hm : X.mg "len" = none) (hroom : A'.depth < recursionLimit) (hk : scope.kind = .function) (hc : scope.isCoroutine = false) (hgn : scope.isGenerator = false) (hcell : ∀ y ∈ scope.names, y.2 ≠ .cell) (hx : scope.names.lookup x = some .local) (hln : scope.names.lookup ("len" : Str) = some .globalImplicit)
    (hbd : ∀ (u : Value), bindArgs (PySem.W.kla_fn "<lambda>" q params (.Tuple [.Call (.Name "len" p1) [.Name x p2] [] p3, .Name x p4] cx p5) scope cl pm (.ref c') ctv) ⟨[u], []⟩ = pure [(x, u)])
    (hd : (x == ("__debug__" : Str)) = false) (hr : Reads s.heap v (.tuple xs) []) (hz : xs.length ≤ sizeLine) {h : Heap} {tk : Nat} (kp : ∀ b o, s.heap.get? b = some o → h.get? b = some o) :
    wpAny (model X.prog X.w) A' (call (.ref f) [v]) (PySem.W.KeyPure (.tuple [.int xs.length, .tuple xs]) { s with heap := h, toks := tk }) (fun _ _ => False) { s with heap := h, toks := tk } := by
  have I' : Inv X pins σ H { s with heap := h, toks := tk } := I.kept kp
  obtain ⟨⟨oc, vs, t, w1, w2, w3⟩, _, _⟩ := I'.hok c' _ hco
  have bk : ∀ b o, X.base.get? b = some o → h.get? b = some o := fun b o e => I'.bk b o e
  have hsl : (16777216 : Nat) = sizeLine := by decide
  refine wpAny_call (PySem.W.kla_callFunE hroom (kp _ _ hfo) rfl hc hgn rfl ⟨c', oc, vs, t, rfl, w1, w2, w3⟩ ?_)
  rw [hbd]
  refine wpAny_pure (wpAny_newFunctionEnv hcell (fun y hy => by simp at hy; subst hy; exact hx) (fun h₁ hns hsb => ⟨I'.nolimit.fresh _ hsb, ?_⟩) hk)
  have kp1 : ∀ b o, h.get? b = some o → h₁.get? b = some o := fun b o e => hsb.extBut b o (Nat.ne_of_lt (Heap.lt_size e)) (Heap.get?_push_of_some _ e)
  refine PySem.W.kla_codeExpr ?_
  refine wpAny_Tuple_spliced ?_
  have hr0 := hr
  cases hr with
  | tuple r1 r2 r3 r4 =>
    rename_i a o vs' n
    have ht : IsTup h₁ a vs' := ⟨o, kp1 _ _ (kp _ _ r1), r2, n, r3⟩
    have ln : vs'.size = xs.length := by
      have := readsA_len r4
      simpa using this
    have name : ∀ {p : Pos} {s2 : Shared} {Q : Value → Shared → Prop} {E : Value → Shared → Prop} {A : Around}, s2.heap = h₁ → Q (.ref a) s2 → wpAny (model X.prog X.w) A (eval (.Name x p) (newEnv scope h.objs.size mainGlobals cl (q ++ ".<locals>.") (some f) (.ref c') none builtinsNs)) Q E s2 := fun {p s2 Q E A} e hq =>
      wpAny_Name (wpAny_loadName_local (m := fun y => ([(x, Value.ref a)] : List (Str × Value)).reverse.lookup y) hk hx (by rw [e]; exact hns) (by simp [List.lookup]) hq) hd
    show wpAny _ _ (spliced ((false, eval (.Call (.Name "len" p1) [.Name x p2] [] p3) (newEnv scope h.objs.size mainGlobals cl (q ++ ".<locals>.") (some f) (.ref c') none builtinsNs)) :: backTo p5 (starEach [.Name x p4] (newEnv scope h.objs.size mainGlobals cl (q ++ ".<locals>.") (some f) (.ref c') none builtinsNs)))) _ _ _
    refine Calls.spliced_cons ?_
    obtain ⟨mb, b1, b2⟩ := I'.mod.blt
    refine wpAny_Call_Name_kw (Calls.Name_function_global hk hln (Calls.loadGlobal_builtin (I'.mod.glob.keeps fun b o e => kp1 b o (bk b o e)) hm (b1.keeps fun b o e => kp1 b o (bk b o e)) ((b2 "len" (by decide)).trans boot_len) ?_) (by decide))
    refine PyProof.Rows.callWith_builtin1 ?_ rfl rfl
    show wpAny _ _ (spliced ((false, eval (.Name x p2) _) :: backTo p3 (starEach [] _))) _ _ _
    refine Calls.spliced_cons (name rfl (Calls.spliced_nil ?_))
    refine len_tuple ht (by rw [ln]; omega) ?_
    show wpAny _ _ (spliced ((false, eval (.Name x p4) _) :: backTo p5 (starEach [] _))) _ _ _
    refine Calls.spliced_cons (name rfl (Calls.spliced_nil ?_))
    refine ⟨by show 2 ≤ sizeLine; omega, _, _, rfl, fun b ob e => Heap.get?_push_of_some _ (kp1 b ob e), ?_⟩
    have up : ∀ b ob, s.heap.get? b = some ob → (h₁.push { cls := .type "tuple", data := .seq [Value.int vs'.size (tk + 1 + 1), Value.ref a].toArray }).get? b = some ob := fun b ob e => Heap.get?_push_of_some _ (kp1 _ _ (kp _ _ e))
    rw [← ln]
    exact Reads.tuple (Heap.get?_push_size _ rfl) rfl rfl (.cons (.int _ _) (.cons (PyProof.Rows.Reads.keeps up hr0) .nil))
end
def isTupP : PyData → Bool
  | .tuple _ => true
  | _ => false
open Classical in
noncomputable def gSortK (mu : Bool) : D → V1 D := fun x s => (lstOf s x).bind fun ds => (datsOf s ds).bind fun ks =>
  if (∀ k ∈ ks, flatD k = true ∧ isTupP k = true ∧ k.depth ≤ 60 ∧ (∀ xs, k = .tuple xs → xs.length ≤ sizeLine)) ∧ PySem.W.AllAlike (ks.map keyLen) ∧ PySem.W.Sortable (ks.map keyLen) ∧ ks.length ≤ sizeLine then new mu (((ds.zip ks).mergeSort (PySem.W.dataLe false fun p => keyLen p.2)).map Prod.fst) s else none
section
variable {X : Cx} {zz : List Addr} {W : WX} {de : EM}
theorem se_sortK {mu : Bool} {e : Expr} {x : Str} {q : He.Defn} {kk : Nat} {params : Arguments} {scope : Scope} {cx : Nat} {p p1 p2 p3 p4 p5 lpos kp pos : Pos}
    (he : PE X e (tE (X.K, zz) W de)) (hm : X.mg "sorted" = none) (hml : X.mg "len" = none) (TB : LamX.TabB X.base X.mg (He.cT X.K q).1 (He.cT X.K q).2) (hcode : X.env.code = .ref (He.cT X.K q).1) (hq : X.env.qual = q.1 ++ ".<locals>.") (hl : lamB q X.K = true)
    (hr : RoomG kk X.A) (hk : scope.kind = .function) (hc : scope.isCoroutine = false) (hgn : scope.isGenerator = false) (hcell : ∀ y ∈ scope.names, y.2 ≠ .cell ∧ y.2 ≠ .free) (hx : scope.names.lookup x = some .local) (hln : scope.names.lookup ("len" : Str) = some .globalImplicit)
    (hbd : ∀ (q : Str) (cl : List (Str × Addr)) (pm cv ctv u : Value), bindArgs (PySem.W.kla_fn "<lambda>" q params (.Tuple [.Call (.Name "len" p1) [.Name x p2] [] p3, .Name x p4] cx p5) scope cl pm cv ctv) ⟨[u], []⟩ = pure [(x, u)])
    (hd : (x == ("__debug__" : Str)) = false) (hdef : defaultsOf params X.env = ([], [])) (hg : Gl X "sorted" := by rfl)
    (hs : starEach [e] X.env = (false, eval e X.env) :: starEach [] X.env := by rfl) :
    PE X (.Call (.Name "sorted" p) [e] [⟨some "key", .Lambda params (.Tuple [.Call (.Name "len" p1) [.Name x p2] [] p3, .Name x p4] cx p5) scope lpos, kp⟩] pos) (tE (X.K, zz) W (eU (gSortK mu) de)) := by
  refine ⟨fun pins s σ H Q I h => ?_⟩
  have h' := into1 h
  unfold lamB at hl
  rw [Bool.and_eq_true, List.all_eq_true] at hl
  obtain ⟨l1, l2⟩ := hl
  refine wpAny_Call_Name_kw (ld_blt I hg hm boot_sorted ?_)
  refine PyProof.Rows.callWith_kw ?_ (by rw [hs]; rfl) (by rw [hs]; rfl) rfl rfl
  rw [hs]
  show wpAny _ _ (spliced ((false, eval e X.env) :: backTo pos (starEach [] X.env))) _ _ s
  refine Calls.spliced_cons (thn (he.run pins s σ H _ I h') fun u s1 ⟨v, H1, I1, r1, q1⟩ => Calls.spliced_nil ?_)
  obtain ⟨m, d, st, S, rd, hG⟩ := q1
  refine PyProof.Rows.kws_cons ?_
  refine lam_make2 I1 TB hcode (T := tbs X.K) (by rw [hq]; exact List.contains_iff_mem.mp l1) (fun y hy e => by
    have w := l2 y hy
    rw [hq]
    have e' : (y.1 == (He.cT X.K q).2) = true := by rw [e]; simp
    rw [e'] at w
    simpa using w) S.tab hdef (fun y hy e => absurd e (hcell y hy).2) fun f c' pm' ctv H2 s2 I2 eN T1 hf hfn hfr hco => PyProof.Rows.kws_nil ?_
  obtain ⟨S2, x2⟩ := S.extN eN T1
  have rd2 := rd.ext S.noTup x2
  show wpAny _ _ (call (.builtin "sorted") [u] [(("key" : Str), Value.ref f)]) _ _ _
  unfold gSortK at hG
  cases h1 : lstOf st d with
  | none => simp only [h1, Option.bind_none] at hG; exact hG.elim
  | some l =>
    simp only [h1, Option.bind_some] at hG
    cases h2 : datsOf st l with
    | none => simp only [h2, Option.bind_none] at hG; exact hG.elim
    | some ks =>
      simp only [h2, Option.bind_some] at hG
      by_cases c : (∀ k ∈ ks, flatD k = true ∧ isTupP k = true ∧ k.depth ≤ 60 ∧ (∀ xs, k = .tuple xs → xs.length ≤ sizeLine)) ∧ PySem.W.AllAlike (ks.map keyLen) ∧ PySem.W.Sortable (ks.map keyLen) ∧ ks.length ≤ sizeLine
      · rw [if_pos c] at hG
        obtain ⟨c1, c2, c3, c4⟩ := c
        obtain ⟨a, vs, rfl, e1, q1⟩ := lstOf_at S2 rd2 h1
        obtain rfl : u = Value.ref a := r1
        obtain ⟨its, rv, hli, hz⟩ := I2.list e1
        obtain ⟨bs, b1, b2, b3, b4, b5⟩ := mkB q1 h2 rv
        have hu := hr.un
        have hb3 : bs.length = ks.length := by rw [← b3, List.length_map]
        have ek : bs.map (fun b => keyLen b.2.2) = ks.map keyLen := by rw [← b3, List.map_map]; rfl
        refine PySem.W.sorted_key_data (bs := bs) (b := false) (fun b => keyLen b.2.2) hli.isList b5 (by rw [ek]; exact c2) (by rw [ek]; exact c3) (by omega) (fun b hb => ?_) (PyProof.Rows.ksk_s1 _ _) (fun _ => PyProof.Rows.ksk_l1 _ _) (fun _ => PyProof.Rows.ksk_t1 _ _) (fun v' b hR hb h tk kpp => ?_) fun out n h' tk kpp hfr2 hn hlen eo => ?_
        · have := c1 b.2.2 (by rw [← b3]; exact List.mem_map_of_mem hb)
          cases hbb : b.2.2 with
          | tuple xs =>
            rw [hbb] at this
            have t1 := this.2.2.1
            simp only [keyLen, PyData.depth, PyData.depthAll] at t1 ⊢
            omega
          | _ => rw [hbb] at this; exact absurd this.2.1 (by simp [isTupP])
        · have hcond := c1 b.2.2 (by rw [← b3]; exact List.mem_map_of_mem hb)
          obtain ⟨as, hrd⟩ := Dp.reads I2 b.2.2 b.2.1 v' (datOf_at S2 (b4 b hb).1 (b4 b hb).2) hR
          have : as = [] := reads_flat hrd hcond.1
          subst this
          cases hbb : b.2.2 with
          | tuple xs =>
            rw [hbb] at hrd hcond
            exact key_turn (A' := X.A.in1.in1) (tk := tk) I2 hf hco hml hr.depth hk hc hgn (fun y hy => (hcell y hy).1) hx hln (hbd _ _ _ _ _) hd hrd (hcond.2.2.2 xs rfl) kpp
          | _ => rw [hbb] at hcond; exact absurd hcond.2.1 (by simp [isTupP])
        · have em : ∀ b ∈ bs.mergeSort (PySem.W.dataLe false fun b : D × V × PyData => keyLen b.2.2), b ∈ bs := fun b hb => List.mem_mergeSort.mp hb
          have ez : ((l.zip ks).mergeSort (PySem.W.dataLe false fun p => keyLen p.2)).map Prod.fst = (bs.mergeSort (PySem.W.dataLe false fun b : D × V × PyData => keyLen b.2.2)).map (·.1) := by
            have hz2 : l.zip ks = bs.map fun b => (b.1, b.2.2) := by
              rw [← b1, ← b3, List.zip_map']
            rw [hz2, ← PySem.W.sort_maps (r := PySem.W.dataLe false fun b : D × V × PyData => keyLen b.2.2) (fun b : D × V × PyData => (b.1, b.2.2)) (fun a _ b _ => rfl), List.map_map]
            rfl
          rw [ez] at hG
          have hfr : H2 (s2.heap.objs.size + 1) = none := I2.hok.fresh (Nat.le_succ _)
          have hG2 : GoodV (X.K, zz) m H2 Q (new mu ((bs.mergeSort (PySem.W.dataLe false fun b : D × V × PyData => keyLen b.2.2)).map (·.1)) st) := by
            have := hG
            cases hnw : new mu ((bs.mergeSort (PySem.W.dataLe false fun b : D × V × PyData => keyLen b.2.2)).map (·.1)) st with
            | none => rw [hnw] at this; exact this
            | some pr => rw [hnw] at this; exact fun m' H' v y S' r' => this m' H' v (x2.trans y) S' r'
          refine ⟨.ref _, upd H2 _ (.lst _), I2.laid (t' := tk) (fun b o hb => kpp b o hb) (Nat.le_succ _) ⟨?_, out, n, vals_of eo, hn⟩, rfl, new_ok S2 (repL_of fun b hb => (b4 b (em b hb)).1) hG2 _ hfr⟩
          rw [List.length_map, List.length_mergeSort]
          omega
      · rw [if_neg c] at hG; exact hG.elim
end
end QS
end

section
set_option Elab.async false
set_option linter.all false
set_option maxRecDepth 100000
set_option maxHeartbeats 4000000
/-! QS36: texts: a sign in a text, None in a row of flat things, int(text), split, join, text * n. -/
namespace QS
open PySem PySem.Spec PyProof.Rows L2 TL
def gInS (neg : Bool) : D → D → V1 D := fun x y s => match x, y with
  | .str c, .str z => match tl c with
    | [k] => some (.bl (if neg then !decide (k ∈ tl z) else decide (k ∈ tl z)), s)
    | _ => none
  | _, _ => none
/-- flat data -/
def flatX : D → Bool
  | .non => true
  | .bl _ => true
  | .int _ => true
  | .str _ => true
  | _ => false
def gInN (neg : Bool) : D → D → V1 D := fun x y s => match x with
  | .non => (seqOf s y).bind fun l => if l.all flatX = true then some (.bl (if neg then !l.any isNon else l.any isNon), s) else none
  | _ => none
theorem flat_rep {K : KZ} {m : List Addr} {H : Hp} : ∀ {ds : List D} {vs : List V}, RepL K m H ds vs → ds.all flatX = true → vs.all flatV = true ∧ inV .non vs = ds.any isNon
  | _, _, .nil, _ => ⟨rfl, rfl⟩
  | _, _, .cons (d := d) hd r, h => by
    rw [List.all_cons, Bool.and_eq_true] at h
    obtain ⟨h1, h2⟩ := flat_rep r h.2
    have e : ∀ (x : V) (xs : List V), inV .non (x :: xs) = (eqV x .non || inV .non xs) := fun _ _ => rfl
    rw [e, h2, List.all_cons, h1, List.any_cons]
    cases hd <;> first | exact ⟨rfl, rfl⟩ | (exact absurd h.1 (by simp [flatX]))
section
variable {X : Cx} {zz : List Addr}
theorem o_inS : OpR X (compareOp .In) (r2 (X.K, zz) (gInS false)) := fun pins s σ H x y v u Q I rx ry h => by
  obtain ⟨m, d, e, st, S, hd, he, hG⟩ := h
  cases hd with
  | str c =>
    cases he with
    | str z =>
      have hG : GoodV (X.K, zz) m H Q (match tl c with
        | [k] => some (.bl (if false then !decide (k ∈ tl z) else decide (k ∈ tl z)), st)
        | _ => none) := hG
      split at hG
      · rename_i k hk
        have e1 : c = ⟨#[k]⟩ := ext_tl hk
        exact op_in_sign pins s σ H _ _ v u Q I rx ry ⟨k, z, by rw [e1], rfl, hG.here S (.bl _)⟩
      · exact hG.elim
    | _ => exact hG.elim
  | _ => exact hG.elim
theorem o_notinS : OpR X (compareOp .NotIn) (r2 (X.K, zz) (gInS true)) := fun pins s σ H x y v u Q I rx ry h => by
  obtain ⟨m, d, e, st, S, hd, he, hG⟩ := h
  cases hd with
  | str c =>
    cases he with
    | str z =>
      have hG : GoodV (X.K, zz) m H Q (match tl c with
        | [k] => some (.bl (if true then !decide (k ∈ tl z) else decide (k ∈ tl z)), st)
        | _ => none) := hG
      split at hG
      · rename_i k hk
        have e1 : c = ⟨#[k]⟩ := ext_tl hk
        exact op_notIn_sign pins s σ H _ _ v u Q I rx ry ⟨k, z, by rw [e1], rfl, hG.here S (.bl _)⟩
      · exact hG.elim
    | _ => exact hG.elim
  | _ => exact hG.elim
theorem o_inN : OpR X (compareOp .In) (r2 (X.K, zz) (gInN false)) := fun pins s σ H x y v u Q I rx ry h => by
  obtain ⟨m, d, e, st, S, hd, he, hG⟩ := h
  cases hd with
  | non =>
    have hG : GoodV (X.K, zz) m H Q ((seqOf st e).bind fun l => if l.all flatX = true then some (.bl (if false then !l.any isNon else l.any isNon), st) else none) := hG
    cases h1 : seqOf st e with
    | none => rw [h1] at hG; exact hG.elim
    | some l =>
      rw [h1] at hG
      simp only [Option.bind_some] at hG
      by_cases c : l.all flatX = true
      · rw [if_pos c] at hG
        obtain ⟨a, vs, rfl, e1, q1⟩ := seqOf_at S he h1
        obtain ⟨f1, f2⟩ := flat_rep q1 c
        exact op_in_seq pins s σ H _ _ v u Q I rx ry ⟨a, _, rfl, e1, rfl, f1, by rw [f2]; exact GoodV.here S hG (.bl _)⟩
      · rw [if_neg c] at hG; exact hG.elim
  | _ => exact hG.elim
theorem o_notinN : OpR X (compareOp .NotIn) (r2 (X.K, zz) (gInN true)) := fun pins s σ H x y v u Q I rx ry h => by
  obtain ⟨m, d, e, st, S, hd, he, hG⟩ := h
  cases hd with
  | non =>
    have hG : GoodV (X.K, zz) m H Q ((seqOf st e).bind fun l => if l.all flatX = true then some (.bl (if true then !l.any isNon else l.any isNon), st) else none) := hG
    cases h1 : seqOf st e with
    | none => rw [h1] at hG; exact hG.elim
    | some l =>
      rw [h1] at hG
      simp only [Option.bind_some] at hG
      by_cases c : l.all flatX = true
      · rw [if_pos c] at hG
        obtain ⟨a, vs, rfl, e1, q1⟩ := seqOf_at S he h1
        obtain ⟨f1, f2⟩ := flat_rep q1 c
        exact op_notIn_seq pins s σ H _ _ v u Q I rx ry ⟨a, _, rfl, e1, rfl, f1, by rw [f2]; exact GoodV.here S hG (.bl _)⟩
      · rw [if_neg c] at hG; exact hG.elim
  | _ => exact hG.elim
/-! int(text) -/
def gIntS : List D → V1 D := g1 fun _ x => match x with
  | .str z => if z.length ≤ 640 then (PySem.intText? z).map D.int else none
  | _ => none
theorem c_intS : CallR X (.type "int") (rL (X.K, zz) gIntS) := by
  intro pins s σ H xs us Q I r h
  obtain ⟨m, d, e, st, v, rfl, S, hd, he, q⟩ := g1_at h
  cases hd with
  | str z =>
    have he : (if z.length ≤ 640 then (PySem.intText? z).map D.int else none) = some e := he
    by_cases c : z.length ≤ 640
    · rw [if_pos c] at he
      obtain ⟨n, h1, rfl⟩ := Option.map_eq_some_iff.mp he
      exact call_int_str pins s σ H _ us Q I r ⟨z, n, rfl, h1, c, q _ (.int _)⟩
    · rw [if_neg c] at he; cases he
  | _ => cases he
/-! split, join -/
def gSplit : D → List D → V1 D := fun x xs s => match x, xs with
  | .str a, [.str b] => if (b.length == 0) = false ∧ a.length + 2 ≤ sizeLine then some (.lst ((Txt.split a b).map D.str), s) else none
  | _, _ => none
def gJoin : D → List D → V1 D := fun x xs s => match x, xs with
  | .str a, [y] => ((seqOf s y).bind strsOf).bind fun ys => if (ys.map (·.length)).sum + ys.length * a.length ≤ 16777216 then some (.str (Txt.join a ys), s) else none
  | _, _ => none
theorem rep_txts {K : KZ} {m : List Addr} {H : Hp} : ∀ l : List Str, RepL K m H (l.map D.str) (l.map V.str)
  | [] => .nil
  | _ :: r => .cons (.str _) (rep_txts r)
theorem m_split : MtR X "str.split" (rM (X.K, zz) gSplit) := by
  intro pins s σ H x xs v us Q I rx rs ⟨m, d, ds, st, S, hd, hds, hG⟩
  unfold gSplit at hG
  split at hG
  · rename_i a b
    cases hd
    cases hds with
    | cons hy hr =>
      cases hr
      cases hy
      by_cases c : (b.length == 0) = false ∧ a.length + 2 ≤ sizeLine
      · rw [if_pos c] at hG
        refine mt_split pins s σ H _ _ v us Q I rx rs ⟨a, b, rfl, rfl, c.1, c.2, fun p hp => ?_⟩
        exact new_ok (mu := false) S (rep_txts _) hG p hp
      · rw [if_neg c] at hG; exact hG.elim
  · exact hG.elim
theorem m_join : MtR X "str.join" (rM (X.K, zz) gJoin) := by
  intro pins s σ H x xs v us Q I rx rs ⟨m, d, ds, st, S, hd, hds, hG⟩
  unfold gJoin at hG
  split at hG
  · rename_i a y
    cases hd
    cases hds with
    | cons hy hr =>
      cases hr
      cases h1 : (seqOf st y).bind strsOf with
      | none => rw [h1] at hG; exact hG.elim
      | some ys =>
        rw [h1] at hG
        simp only [Option.bind_some] at hG
        by_cases c : (ys.map (·.length)).sum + ys.length * a.length ≤ 16777216
        · rw [if_pos c] at hG
          obtain ⟨l, h2, h3⟩ := Option.bind_eq_some_iff.mp h1
          obtain ⟨p, vs, rfl, e1, q1⟩ := seqOf_at S hy h2
          have ev := strs_rep q1 h3
          subst ev
          exact mt_join pins s σ H _ _ v us Q I rx rs ⟨a, p, ys, rfl, rfl, e1, c, GoodV.here S hG (.str _)⟩
        · rw [if_neg c] at hG; exact hG.elim
  · exact hG.elim
/-! text * n -/
def repS (x : Str) (n : Nat) : Str := if (x.length == 0) = true then x else ⟨(List.replicate n x.cps).foldl (· ++ ·) #[]⟩
def gMulS : D → D → V1 D := fun x y s => match x, y with
  | .str z, .int n => if 2 ≤ n ∧ n ≤ 1000 ∧ z.length * n.toNat ≤ 1000000 then some (.str (repS z n.toNat), s) else none
  | _, _ => none
theorem fold_len (x : Array Nat) : ∀ (n : Nat) (acc : Array Nat), ((List.replicate n x).foldl (· ++ ·) acc).size = acc.size + n * x.size
  | 0, acc => by simp
  | n + 1, acc => by
    rw [List.replicate_succ, List.foldl_cons, fold_len x n, Array.size_append, Nat.succ_mul]
    omega
theorem repS_len (x : Str) (n : Nat) (h : 1 ≤ n) : (repS x n).length ≤ x.length * n := by
  unfold repS
  by_cases c : (x.length == 0) = true
  · rw [if_pos c]
    have : x.length = 0 := by simpa using c
    omega
  · rw [if_neg c]
    show ((List.replicate n x.cps).foldl (· ++ ·) #[]).size ≤ x.cps.size * n
    rw [fold_len, Nat.mul_comm]
    simp
theorem o_mulS : OpR X (binaryOp .Mult) (r2 (X.K, zz) gMulS) := fun pins s σ H x y v u Q I rx ry h => by
  obtain ⟨m, d, e, st, S, hd, he, hG⟩ := h
  cases hd with
  | str z =>
    cases he with
    | int n =>
      have hG : GoodV (X.K, zz) m H Q (if 2 ≤ n ∧ n ≤ 1000 ∧ z.length * n.toNat ≤ 1000000 then some (.str (repS z n.toNat), st) else none) := hG
      by_cases c : 2 ≤ n ∧ n ≤ 1000 ∧ z.length * n.toNat ≤ 1000000
      · rw [if_pos c] at hG
        have hQ : Q (.str (repS z n.toNat)) H := hG.here S (.str _)
        obtain ⟨c1, c2, c3⟩ := c
        obtain ⟨t, rfl⟩ := rx
        obtain ⟨t', rfl⟩ := ry
        have hs : (sizeLine : Nat) = 16777216 := by decide
        have hlen : z.length ≤ 1000000 := Nat.le_trans (Nat.le_mul_of_pos_right _ (by omega)) c3
        refine PySem.P.mul_str (by
            have h1 : ¬ n < -(2 ^ 63) := by omega
            have h2 : ¬ n ≥ 2 ^ 63 := by omega
            rw [decide_eq_false h1, decide_eq_false h2]; rfl) (fun _ _ => ?_) (fun _ _ => ?_) ?_
        · have : (1000000 : Int) ≤ (2 ^ 63 - 1) / n := by
            rw [Int.le_ediv_iff_mul_le (by omega)]
            omega
          omega
        · unfold Builtin.Str.tooLong
          exact decide_eq_false (by omega)
        · rw [if_neg (by omega)]
          have n1 : (n == 1) = false := by simp; omega
          rw [n1, Bool.false_or]
          by_cases c0 : (z.length == 0) = true
          · rw [if_pos c0]
            have e0 : repS z n.toNat = z := if_pos c0
            rw [e0] at hQ
            exact ⟨.str z, H, I, ⟨t, rfl⟩, hQ⟩
          · rw [if_neg c0]
            have e0 : repS z n.toNat = ⟨(List.replicate n.toNat z.cps).foldl (· ++ ·) #[]⟩ := if_neg c0
            rw [← e0]
            exact ⟨by have := repS_len z n.toNat (by omega); omega, .str (repS z n.toNat), H, I.tok _, ⟨_, rfl⟩, hQ⟩
      · rw [if_neg c] at hG; exact hG.elim
    | _ => exact hG.elim
  | _ => exact hG.elim
def gMulX (mu : Bool) : D → D → V1 D := orV2 (gMul mu) gMulS
theorem o_mulX {mu : Bool} : OpR X (binaryOp .Mult) (r2 (X.K, zz) (gMulX mu)) := OpR.orV o_mul o_mulS
end
end QS
end

section
set_option Elab.async false
set_option linter.all false
set_option maxRecDepth 100000
set_option maxHeartbeats 1000000
/-! QS37: plain facts of texts: pieces, numbers, and what the layer's words answer. -/
namespace QS
open PySem PySem.Spec PyProof.Rows L2 TL
/-- a text that may be compared -/
abbrev okT (x : Str) : Prop := PyData.strOk x = true
theorem okT_iff {x : Str} : okT x ↔ ∀ c ∈ tl x, c < 1114112 := by
  unfold okT PyData.strOk tl
  rw [← Array.all_toList, List.all_eq_true]
  simp
theorem okT_sub {x y : Str} (h : okT y) (hs : ∀ c ∈ tl x, c ∈ tl y) : okT x := okT_iff.mpr fun c hc => okT_iff.mp h c (hs c hc)
theorem okT_sign {c : Nat} (h : c < 1114112) : okT ⟨#[c]⟩ := okT_iff.mpr fun d hd => by
  have : d = c := by simpa [tl] using hd
  omega
/-! pieces -/
theorem spl1_hit {c : Nat} {acc r : List Nat} : spl [c] 0 acc (c :: r) = acc :: spl [c] 0 [] r := spl_hit (S := [c]) (by simp [pre])
theorem spl1_miss {c x : Nat} {acc r : List Nat} (h : x ≠ c) : spl [c] 0 acc (x :: r) = spl [c] 0 (acc ++ [x]) r := spl_miss (pre_of_head [] r h)
theorem spl1_ne (c : Nat) : ∀ (l acc : List Nat), spl [c] 0 acc l ≠ []
  | [], acc => by rw [spl_nil]; simp
  | x :: r, acc => by
    by_cases h : x = c
    · subst h; rw [spl1_hit]; simp
    · rw [spl1_miss h]; exact spl1_ne c r _
theorem spl1_sum (c : Nat) : ∀ (l acc : List Nat), ((spl [c] 0 acc l).map List.length).sum + (spl [c] 0 acc l).length = acc.length + l.length + 1
  | [], acc => by rw [spl_nil]; simp
  | x :: r, acc => by
    by_cases h : x = c
    · subst h
      rw [spl1_hit]
      have := spl1_sum x r []
      simp only [List.map_cons, List.sum_cons, List.length_cons, List.length_nil] at this ⊢
      omega
    · rw [spl1_miss h]
      have := spl1_sum c r (acc ++ [x])
      simp only [List.length_append, List.length_cons, List.length_nil] at this ⊢
      omega
theorem spl1_mem (c : Nat) : ∀ (l acc p : List Nat), p ∈ spl [c] 0 acc l → ∀ d ∈ p, d ∈ acc ∨ d ∈ l
  | [], acc, p, h, d, hd => by
    rw [spl_nil] at h
    simp at h
    subst h
    exact .inl hd
  | x :: r, acc, p, h, d, hd => by
    by_cases e : x = c
    · subst e
      rw [spl1_hit] at h
      rcases List.mem_cons.mp h with rfl | h
      · exact .inl hd
      · rcases spl1_mem x r [] p h d hd with z | z
        · cases z
        · exact .inr (List.mem_cons_of_mem _ z)
    · rw [spl1_miss e] at h
      rcases spl1_mem c r _ p h d hd with z | z
      · rcases List.mem_append.mp z with z | z
        · exact .inl z
        · simp at z; subst z; exact .inr (List.mem_cons_self ..)
      · exact .inr (List.mem_cons_of_mem _ z)
theorem split_tl {x y : Str} {c : Nat} (ey : tl y = [c]) (hc : c < 256) : (Txt.split x y).map tl = spl [c] 0 [] (tl x) := by
  have e : y = ⟨#[c]⟩ := ext_tl ey
  rw [split_spl x y (by rw [ey]; simp) (kind_ok (by rw [e]; simp [hc])), ey]
theorem map_len_tl : ∀ l : List Str, l.map Str.length = (l.map tl).map List.length
  | [] => rfl
  | x :: r => by simp only [List.map_cons, map_len_tl r, len_tl]
section
variable {x y : Str} {c : Nat} (ey : tl y = [c]) (hc : c < 256)
include ey hc
theorem split_ne : Txt.split x y ≠ [] := fun e => by
  have := split_tl (x := x) ey hc
  rw [e] at this
  exact spl1_ne c _ _ this.symm
theorem split_sum : ((Txt.split x y).map Str.length).sum + (Txt.split x y).length = x.length + 1 := by
  have h := split_tl (x := x) ey hc
  have e : (Txt.split x y).length = (spl [c] 0 [] (tl x)).length := by rw [← h]; simp
  rw [map_len_tl, h, e, spl1_sum, len_tl]
  simp
theorem split_len : (Txt.split x y).length ≤ x.length + 1 := by
  have := split_sum (x := x) ey hc
  omega
omit ey hc in
theorem le_sum_nat {n : Nat} : ∀ {l : List Nat}, n ∈ l → n ≤ l.sum
  | x :: r, h => by
    rw [List.sum_cons]
    rcases List.mem_cons.mp h with rfl | h
    · omega
    · have := le_sum_nat h; omega
theorem split_mem {r : Str} (h : r ∈ Txt.split x y) : r.length ≤ x.length ∧ ∀ d ∈ tl r, d ∈ tl x := by
  have hs := split_sum (x := x) ey hc
  have h1 : r.length ≤ ((Txt.split x y).map Str.length).sum := le_sum_nat (List.mem_map_of_mem h)
  have h2 : 1 ≤ (Txt.split x y).length := List.length_pos_of_mem h
  refine ⟨by omega, fun d hd => ?_⟩
  have h3 : tl r ∈ spl [c] 0 [] (tl x) := by
    rw [← split_tl ey hc]
    exact List.mem_map_of_mem h
  rcases spl1_mem c _ _ _ h3 d hd with z | z
  · cases z
  · exact z
theorem split_okT (h : okT x) {r : Str} (hr : r ∈ Txt.split x y) : okT r := okT_sub h (split_mem ey hc hr).2
end
theorem joinL_len (S : List Nat) : ∀ l : List (List Nat), (joinL S l).length ≤ (l.map List.length).sum + l.length * S.length
  | [] => by simp [joinL]
  | [p] => by simp [joinL]
  | p :: q :: r => by
    have := joinL_len S (q :: r)
    have e : joinL S (p :: q :: r) = p ++ (S ++ joinL S (q :: r)) := rfl
    rw [e]
    simp only [List.length_append, List.map_cons, List.sum_cons, List.length_cons, Nat.add_mul] at this ⊢
    omega
theorem join_len (y : Str) (ps : List Str) : (Txt.join y ps).length ≤ (ps.map Str.length).sum + ps.length * y.length := by
  rw [join_eq, len_tl, tl_join, map_len_tl, len_tl y]
  have := joinL_len (tl y) (ps.map tl)
  simpa using this
theorem join_okT {y : Str} {ps : List Str} (hy : okT y) (h : ∀ p ∈ ps, okT p) : okT (Txt.join y ps) := by
  rw [join_eq]
  exact ok_join y hy ps h
theorem cutS_okT {z : Str} {lo hi : Option Int} (h : okT z) : okT (cutS z lo hi) := okT_sub h fun c hc => by
  have hc : c ∈ ((tl z).drop (HT.sIx z.length 0 lo)).take (HT.sIx z.length z.length hi - HT.sIx z.length 0 lo) := hc
  exact List.mem_of_mem_drop (List.mem_of_mem_take hc)
theorem repS_okT {z : Str} {n : Nat} (h : okT z) : okT (repS z n) := by
  unfold repS
  split
  · exact h
  · refine okT_sub h fun c hc => ?_
    have key : ∀ (n : Nat) (acc : Array Nat), (∀ c ∈ acc.toList, c ∈ tl z) → ∀ c ∈ ((List.replicate n z.cps).foldl (· ++ ·) acc).toList, c ∈ tl z := by
      intro n
      induction n with
      | zero => intro acc h; simpa using h
      | succ n ih =>
        intro acc ha
        rw [List.replicate_succ, List.foldl_cons]
        refine ih _ fun c hc => ?_
        rw [Array.toList_append] at hc
        rcases List.mem_append.mp hc with z1 | z1
        · exact ha c z1
        · exact z1
    exact key n #[] (fun c hc => by simp at hc) c hc
theorem len_app (a b : Str) : (a ++ b).length = a.length + b.length := by rw [len_tl, tl_append, List.length_append, ← len_tl, ← len_tl]
/-! numbers -/
def isDig (c : Nat) : Bool := decide (48 ≤ c) && decide (c ≤ 57)
/-- a number's text without a needless nought: its number -/
def numF (w : Str) : Option Int :=
  if (1 ≤ w.length ∧ w.length ≤ 10) ∧ (tl w).all isDig = true then
    if 1 < w.length ∧ (tl w).head? = some 48 then none else some (NumText.digitsVal (tl w) : Nat)
  else none
theorem numF_nonneg {w : Str} {i : Int} (h : numF w = some i) : 0 ≤ i := by
  unfold numF at h
  split at h
  · split at h
    · cases h
    · cases h; omega
  · cases h
theorem figs {c : Nat} : decide (c ∈ tl ("0123456789" : Str)) = isDig c := by
  have e : tl ("0123456789" : Str) = [48, 49, 50, 51, 52, 53, 54, 55, 56, 57] := by decide
  rw [e, Bool.eq_iff_iff]
  simp [isDig]
  omega
theorem int_digs {w : Str} (h1 : 1 ≤ w.length) (h2 : w.length ≤ 10) (h : (tl w).all isDig = true) : PySem.intText? w = some ((NumText.digitsVal (tl w) : Nat) : Int) := PySem.intText_digits (fun c hc => by
  have := List.all_eq_true.mp h c hc
  simpa [isDig] using this) (fun e => by
  have : w.length = 0 := by rw [len_tl]; show w.cps.toList.length = 0; rw [e]; rfl
  omega) (by omega)
theorem numL_head {n : Nat} (h : 10 ≤ n) : (numL n).head? ≠ some 48 := by
  induction n using Nat.strongRecOn with
  | _ n ih =>
    rw [numL_step h, List.head?_append]
    by_cases c : n / 10 < 10
    · rw [numL_lt c]
      simp
      omega
    · have := ih (n / 10) (by omega) (by omega)
      cases e : (numL (n / 10)).head? with
      | none => exact absurd (List.head?_eq_none_iff.mp e) (numL_ne _)
      | some x => rw [e] at this; simpa using this
theorem numF_num {n : Nat} (h : n < 10 ^ 10) {w : Str} (hw : tl w = numL n) : numF w = some (n : Int) := by
  have h1 : w.length ≤ 10 := by rw [len_tl, hw]; exact numL_len (by omega) h
  have h2 : 1 ≤ w.length := by
    rw [len_tl, hw]
    exact List.length_pos_iff.mpr (numL_ne n)
  have h3 : (tl w).all isDig = true := by
    rw [hw, List.all_eq_true]
    intro c hc
    have := numL_digits n c hc
    simp [isDig, this]
  unfold numF
  rw [if_pos ⟨⟨h2, h1⟩, h3⟩, if_neg, hw, numL_val]
  rintro ⟨h4, h5⟩
  rw [hw] at h5
  by_cases c : n < 10
  · have : w.length = 1 := by rw [len_tl, hw, numL_lt c]; rfl
    omega
  · exact numL_head (by omega) h5
theorem tl_str {n : Int} (h : 0 ≤ n) : tl (Str.ofString (toString n)) = numL n.toNat := by
  obtain ⟨k, rfl⟩ := Int.eq_ofNat_of_zero_le h
  exact tl_num k
/-! what the words answer -/
section
variable {s : Sto} {Q : D → Sto → Prop}
@[simp] theorem wpv_inS {c : Nat} {z : Str} {neg : Bool} : wpv (gInS neg (.str ⟨#[c]⟩) (.str z) s) Q = Q (.bl (if neg then !decide (c ∈ tl z) else decide (c ∈ tl z))) s := wpv_some
theorem wpv_intS {w : Str} {n : Int} (h : PySem.intText? w = some n) (hl : w.length ≤ 640) : wpv (gIntS [.str w] s) Q = Q (.int n) s := by
  have e : gIntS [.str w] s = some (.int n, s) := by simp [gIntS, g1, hl, h]
  rw [e, wpv_some]
@[simp] theorem wpv_ixStr {z : Str} {i : Int} : wpv (gIx (.str z) (.int i) s) Q = (z.length ≤ sizeLine ∧ ∃ c, atI (tl z) i = some c ∧ Q (.str ⟨#[c]⟩) s) := by
  have e : gIx (.str z) (.int i) s = if z.length ≤ sizeLine then (atI (tl z) i).map fun c => (D.str ⟨#[c]⟩, s) else none := by
    simp [gIx, orV2, gIxL, lstOf, gIxT, gIxS]
  rw [e, wpv_if]
  cases h : atI (tl z) i with
  | none => simp
  | some c => simp [wpv_some]
@[simp] theorem wpv_slStr {z : Str} {mu : Bool} {lo hi : Option Int} : wpv (gSl mu (.str z) lo hi s) Q = (z.length ≤ sizeLine ∧ Q (.str (cutS z lo hi)) s) := by
  have e : gSl mu (.str z) lo hi s = if z.length ≤ sizeLine then some (.str (cutS z lo hi), s) else none := by
    by_cases c : z.length ≤ sizeLine <;> simp [gSl, orVS, gSlL, lstOf, gSlT, gSlS, c]
  rw [e, wpv_if, wpv_some]
@[simp] theorem wpv_split {a b : Str} : wpv (gSplit (.str a) [.str b] s) Q = (((b.length == 0) = false ∧ a.length + 2 ≤ sizeLine) ∧ Q (.lst ((Txt.split a b).map D.str)) s) := by
  have e : gSplit (.str a) [.str b] s = if (b.length == 0) = false ∧ a.length + 2 ≤ sizeLine then some (.lst ((Txt.split a b).map D.str), s) else none := rfl
  rw [e, wpv_if, wpv_some]
theorem wpv_join {a : Str} {ps : List Str} {d : D} (hd : seqOf s d = some (ps.map D.str)) : wpv (gJoin (.str a) [d] s) Q = ((ps.map Str.length).sum + ps.length * a.length ≤ 16777216 ∧ Q (.str (Txt.join a ps)) s) := by
  have h2 : strsOf (ps.map D.str) = some ps := by
    induction ps with
    | nil => rfl
    | cons x r ih => simp [strsOf, ih]
  have e : gJoin (.str a) [d] s = if (ps.map Str.length).sum + ps.length * a.length ≤ 16777216 then some (.str (Txt.join a ps), s) else none := by
    simp only [gJoin, hd, Option.bind_some, h2]
  rw [e, wpv_if, wpv_some]
@[simp] theorem wpv_joinL {a : Str} {ps : List Str} : wpv (gJoin (.str a) [.lst (ps.map D.str)] s) Q = ((ps.map Str.length).sum + ps.length * a.length ≤ 16777216 ∧ Q (.str (Txt.join a ps)) s) := wpv_join rfl
@[simp] theorem wpv_mulXS {mu : Bool} {z : Str} {n : Int} : wpv (gMulX mu (.str z) (.int n) s) Q = ((2 ≤ n ∧ n ≤ 1000 ∧ z.length * n.toNat ≤ 1000000) ∧ Q (.str (repS z n.toNat)) s) := by
  have e : gMulX mu (.str z) (.int n) s = if 2 ≤ n ∧ n ≤ 1000 ∧ z.length * n.toNat ≤ 1000000 then some (.str (repS z n.toNat), s) else none := by
    simp [gMulX, gMul, orV2, gMulI, gI2, gRepL, lst2, gRepT, gMulS]
  rw [e, wpv_if, wpv_some]
@[simp] theorem tyB_str {z : Str} : tyB "str" s (.str z) = true := rfl
@[simp] theorem wpv_lenStr {z : Str} : wpv (gLen [.str z] s) Q = (z.length ≤ sizeLine ∧ Q (.int z.length) s) := by
  have e : gLen [.str z] s = if z.length ≤ sizeLine then some (.int z.length, s) else none := by
    by_cases c : z.length ≤ sizeLine <;> simp [gLen, orVL, gLenS, gLenD, g1, dicOf, c]
  rw [e, wpv_if, wpv_some]
@[simp] theorem wpv_inNL {neg : Bool} {os : List (Option Int)} : wpv (gInN neg .non (.lst (os.map optI)) s) Q = Q (.bl (if neg then !decide (none ∈ os) else decide (none ∈ os))) s := by
  have h1 : (os.map optI).all flatX = true := by
    rw [List.all_map, List.all_eq_true]
    intro o _
    cases o <;> rfl
  have h2 : (os.map optI).any isNon = decide (none ∈ os) := by
    induction os with
    | nil => rfl
    | cons o r ih =>
      rw [List.map_cons, List.any_cons, ih (by rw [List.map_cons, List.all_cons, Bool.and_eq_true] at h1; exact h1.2)]
      cases o <;> simp [optI, isNon]
  have e : gInN neg .non (.lst (os.map optI)) s = some (.bl (if neg then !(os.map optI).any isNon else (os.map optI).any isNon), s) := by
    simp only [gInN, seqOf, Option.bind_some, h1, if_true]
  rw [e, wpv_some, h2]
@[simp] theorem wpv_inNT {neg : Bool} {os : List (Option Int)} : wpv (gInN neg .non (.tup (os.map optI)) s) Q = Q (.bl (if neg then !decide (none ∈ os) else decide (none ∈ os))) s := by
  have := wpv_inNL (s := s) (Q := Q) (neg := neg) (os := os)
  rw [← this]
  rfl
end
theorem atI_last {α : Type} {l : List α} (h : l ≠ []) : atI l (-1) = some (l.getLast h) := by
  have hl : 0 < l.length := List.length_pos_iff.mpr h
  unfold atI
  have e : ixN l.length (-1) = some (l.length - 1) := by
    unfold ixN
    rw [if_neg (by omega), if_pos (by omega)]
    congr 1
    omega
  rw [e]
  simp
  rw [List.getElem?_eq_getElem (by omega), List.getLast_eq_getElem]
theorem cut_init {α : Type} {l : List α} : cut l none (some (-1)) = l.dropLast := by
  unfold cut
  rw [List.dropLast_eq_take]
  have e : HT.sIx l.length l.length (some (-1)) = l.length - 1 := by
    unfold HT.sIx
    simp
    omega
  rw [e, HT.sIx_none]
  simp
end QS
end

section
set_option Elab.async false
set_option linter.all false
set_option maxRecDepth 100000
set_option maxHeartbeats 4000000
/-! QS38: None in a row of flat things and tuples; a module's tuple of numbers. -/
namespace QS
open PySem PySem.Spec PyProof.Rows L2
def flatT : D → Bool
  | .tup _ => true
  | d => flatX d
def gInM (neg : Bool) : D → D → V1 D := fun x y s => match x with
  | .non => (seqOf s y).bind fun l => if l.all flatT = true then some (.bl (if neg then !l.any isNon else l.any isNon), s) else none
  | _ => none
def eNon : Value → Bool
  | .none => true
  | _ => false
theorem eq_non {X : Cx} {pins : List (Addr × Obj)} {σ : St} {H : Hp} {s : Shared} {A : Around} {zz : List Addr} {m : List Addr} {d : D} {v : V} {u : Value} (I : Inv X pins σ H s) (hu : A.units < cLine) (r : Rep (X.K, zz) m H d v) (ru : RelV v u) (h : flatT d = true) : SeqAt.EqAt A s u .none (eNon u) ∧ eNon u = isNon d := by
  cases r with
  | non => cases ru; exact ⟨SeqAt.EqAt.same _, rfl⟩
  | bl b => cases ru; exact ⟨SeqAt.EqAt.bool_none b, rfl⟩
  | int i => obtain ⟨t, rfl⟩ := ru; exact ⟨SeqAt.EqAt.int_none i t, rfl⟩
  | str x => obtain ⟨t, rfl⟩ := ru; exact ⟨SeqAt.EqAt.str_none x t, rfl⟩
  | tup hs q =>
    cases ru
    obtain ⟨its, _, pl, _⟩ := I.tuple hs
    exact ⟨SeqAt.EqAt.tuple_none pl hu, rfl⟩
  | _ => cases h
theorem eq_nons {X : Cx} {pins : List (Addr × Obj)} {σ : St} {H : Hp} {s : Shared} {A : Around} {zz : List Addr} {m : List Addr} (I : Inv X pins σ H s) (hu : A.units < cLine) : ∀ {ds : List D} {vs : List V} {us : List Value}, RepL (X.K, zz) m H ds vs → Vals vs us → ds.all flatT = true → (∀ u ∈ us, SeqAt.EqAt A s u .none (eNon u)) ∧ us.any eNon = ds.any isNon
  | _, _, _, .nil, .nil, _ => ⟨fun u hu => (List.not_mem_nil hu).elim, rfl⟩
  | _, _, _, .cons hd r, .cons r1 r2, h => by
    rw [List.all_cons, Bool.and_eq_true] at h
    obtain ⟨h1, h2⟩ := eq_nons I hu r r2 h.2
    obtain ⟨h3, h4⟩ := eq_non I hu hd r1 h.1
    refine ⟨fun u hm => ?_, by rw [List.any_cons, List.any_cons, h2, h4]⟩
    rcases List.mem_cons.mp hm with rfl | hm
    · exact h3
    · exact h1 u hm
section
variable {X : Cx} {zz : List Addr}
theorem o_inM (hu : X.A.units + 64 < cLine) : OpR X (compareOp .In) (r2 (X.K, zz) (gInM false)) := fun pins s σ H x y v u Q I rx ry h => by
  obtain ⟨m, d, e, st, S, hd, he, hG⟩ := h
  cases hd with
  | non =>
    have hG : GoodV (X.K, zz) m H Q ((seqOf st e).bind fun l => if l.all flatT = true then some (.bl (if false then !l.any isNon else l.any isNon), st) else none) := hG
    cases h1 : seqOf st e with
    | none => rw [h1] at hG; exact hG.elim
    | some l =>
      rw [h1] at hG
      simp only [Option.bind_some] at hG
      by_cases c : l.all flatT = true
      · rw [if_pos c] at hG
        obtain ⟨a, vs, rfl, e1, q1⟩ := seqOf_at S he h1
        cases rx
        cases ry
        have hq := GoodV.here S hG (.bl _)
        have hu1 : X.A.in1.units < cLine := by show X.A.units + 1 < cLine; omega
        rcases e1 with e1 | e1
        · obtain ⟨its, rv, pl, hz⟩ := I.list e1
          obtain ⟨f1, f2⟩ := eq_nons I hu1 q1 rv c
          refine SeqAt.in_listAt eNon pl.isList (fun w hw => f1 w (by simpa using hw)) ⟨.bl _, H, I, rfl, ?_⟩
          rw [show its.toArray.any eNon = its.any eNon by simp, f2]
          exact hq
        · obtain ⟨its, rv, pl, hz⟩ := I.tuple e1
          obtain ⟨f1, f2⟩ := eq_nons I hu1 q1 rv c
          refine SeqAt.in_tupleAt eNon pl (fun w hw => f1 w (by simpa using hw)) ⟨.bl _, H, I, rfl, ?_⟩
          rw [show its.toArray.any eNon = its.any eNon by simp, f2]
          exact hq
      · rw [if_neg c] at hG; exact hG.elim
  | _ => exact hG.elim
theorem o_notinM (hu : X.A.units + 64 < cLine) : OpR X (compareOp .NotIn) (r2 (X.K, zz) (gInM true)) := fun pins s σ H x y v u Q I rx ry h => by
  obtain ⟨m, d, e, st, S, hd, he, hG⟩ := h
  cases hd with
  | non =>
    have hG : GoodV (X.K, zz) m H Q ((seqOf st e).bind fun l => if l.all flatT = true then some (.bl (if true then !l.any isNon else l.any isNon), st) else none) := hG
    cases h1 : seqOf st e with
    | none => rw [h1] at hG; exact hG.elim
    | some l =>
      rw [h1] at hG
      simp only [Option.bind_some] at hG
      by_cases c : l.all flatT = true
      · rw [if_pos c] at hG
        obtain ⟨a, vs, rfl, e1, q1⟩ := seqOf_at S he h1
        cases rx
        cases ry
        have hq := GoodV.here S hG (.bl _)
        have hu1 : X.A.in1.units < cLine := by show X.A.units + 1 < cLine; omega
        rcases e1 with e1 | e1
        · obtain ⟨its, rv, pl, hz⟩ := I.list e1
          obtain ⟨f1, f2⟩ := eq_nons I hu1 q1 rv c
          refine SeqAt.notIn_listAt eNon pl.isList (fun w hw => f1 w (by simpa using hw)) ⟨.bl _, H, I, rfl, ?_⟩
          rw [show its.toArray.any eNon = its.any eNon by simp, f2]
          exact hq
        · obtain ⟨its, rv, pl, hz⟩ := I.tuple e1
          obtain ⟨f1, f2⟩ := eq_nons I hu1 q1 rv c
          refine SeqAt.notIn_tupleAt eNon pl (fun w hw => f1 w (by simpa using hw)) ⟨.bl _, H, I, rfl, ?_⟩
          rw [show its.toArray.any eNon = its.any eNon by simp, f2]
          exact hq
      · rw [if_neg c] at hG; exact hG.elim
  | _ => exact hG.elim
/-! a module's tuple of numbers -/
def intsV : List Int → List Value → Bool
  | [], [] => true
  | i :: is, .int j _ :: vs => decide (i = j) && intsV is vs
  | _, _ => false
def tupB (x : Str) (is : List Int) (K : PySem.W.Frag) : Bool := match K.lookup (He.ga K x) with
  | some o => decide (o.cls = .type "tuple") && (match o.data with
    | .seq its _ => decide (its.size ≤ 1000) && intsV is its.toList
    | _ => false)
  | none => false
theorem intsV_vals : ∀ {is : List Int} {vs : List Value}, intsV is vs = true → Vals (is.map V.int) vs
  | [], [], _ => .nil
  | i :: is, .int j t :: vs, h => by
    have h1 : (decide (i = j) && intsV is vs) = true := h
    rw [Bool.and_eq_true, decide_eq_true_eq] at h1
    have h2 := h1.2
    have h3 := h1.1
    subst h3
    exact .cons ⟨t, rfl⟩ (intsV_vals h2)
  | [], _ :: _, h => by cases h
  | _ :: _, [], h => by cases h
  | i :: is, .none :: vs, h => by cases h
  | i :: is, .bool _ :: vs, h => by cases h
  | i :: is, .str _ _ :: vs, h => by cases h
  | i :: is, .ref _ :: vs, h => by cases h
  | i :: is, .type _ :: vs, h => by cases h
  | i :: is, .builtin _ :: vs, h => by cases h
  | i :: is, .float _ _ :: vs, h => by cases h
  | i :: is, .bytes _ _ :: vs, h => by cases h
  | i :: is, .ellipsis :: vs, h => by cases h
  | i :: is, .notImplemented :: vs, h => by cases h
theorem tupB_at {x : Str} {is : List Int} {K : PySem.W.Frag} {H : Hp} (h : tupB x is K = true) : SqT K H (He.ga K x) (is.map V.int) := by
  unfold tupB at h
  cases e : K.lookup (He.ga K x) with
  | none => rw [e] at h; cases h
  | some o =>
    rw [e] at h
    simp only [Bool.and_eq_true, decide_eq_true_eq] at h
    obtain ⟨h1, h2⟩ := h
    cases d : o.data with
    | seq its n =>
      rw [d] at h2
      simp only [Bool.and_eq_true, decide_eq_true_eq] at h2
      exact .inr ⟨o, its, n, e, h1, d, Nat.le_trans h2.1 (by decide), intsV_vals h2.2⟩
    | _ => rw [d] at h2; cases h2
variable {W : WX}
theorem se_gtup {x : Str} {is : List Int} (hg : Gl X x) (hm : X.mg x = some (.ref (He.ga X.K x))) (h : tupB x is X.K = true) (hd : (x == ("__debug__" : Str)) = false := by decide) : PE X (.Name x pos) (tE (X.K, zz) W (eC (.tup (is.map D.int)))) :=
  se_const (pe_glob (v := .ref (He.ga X.K x)) hg hm rfl hd) fun m H => .tup (tupB_at h) (by
    clear h
    induction is with
    | nil => exact .nil
    | cons i r ih => exact .cons (.int i) ih)
end
section
variable {s : Sto} {Q : D → Sto → Prop}
theorem wpv_inM {neg : Bool} {l : List D} (h : l.all flatT = true) : wpv (gInM neg .non (.lst l) s) Q = Q (.bl (if neg then !l.any isNon else l.any isNon)) s := by
  have e : gInM neg .non (.lst l) s = some (.bl (if neg then !l.any isNon else l.any isNon), s) := by
    simp only [gInM, seqOf, Option.bind_some, h, if_true]
  rw [e, wpv_some]
end
end QS
end

section
set_option Elab.async false
set_option linter.all false
set_option maxRecDepth 100000
set_option maxHeartbeats 4000000
/-! QS39: sorted of a tuple. -/
namespace QS
open PySem PySem.Spec PyProof.Rows L2
section
variable {prog : Program} {w : World} {A : Around} {E : Value → Shared → Prop} {s : Shared}
/-- a tuple's items, taken -/
theorem collect_tup {l : Addr} {vs : List Value} {Q : List Value → Shared → Prop} (hl : s.heap.IsTuple l vs.toArray)
    (h : Q vs { s with heap := (s.heap.push (seqObj "list" #[] 0)).update s.heap.objs.size (Obj.mapSeq (· ++ vs.toArray)) }) (hsz : vs.length ≤ sizeLine) :
    wpAny (model prog w) A (collect (.ref l)) Q E s := by
  obtain ⟨o, ho, hc, n, hd⟩ := id hl
  unfold collect
  refine wpAny_bind (wpAny_runValue (codeAny_builtin entry_proto_collect' ?_))
  refine wpAny_bind (wpAny_newList (wpAny_pure ⟨Code.quiet_builtin _ (by decide +kernel), codeAny_builtin entry_list_iadd' ?_⟩))
  show wpAny _ _ (Builtin.List.listExtendWith (.ref s.heap.objs.size) (.ref l) (.ref s.heap.objs.size)) _ _ { s with heap := s.heap.push (seqObj "list" #[] 0) }
  unfold Builtin.List.listExtendWith
  have ho' : (s.heap.push (seqObj "list" #[] 0)).get? l = some o := Heap.get?_push_of_some _ ho
  refine wpAny_bind (wpAny_typeOf (T := "tuple") ⟨o, ho', hc⟩ ?_)
  have ht : (Value.type "tuple" == Value.type "tuple") = true := by rfl
  rw [if_pos (by rw [ht]; simp)]
  refine wpAny_bind (listItems_at ho' hd ?_)
  refine wpAny_bind (listItems_at (xs := #[]) (n := 0) (Heap.get?_push_size _ rfl) rfl ?_)
  rw [if_neg (by simp)]
  refine wpAny_bind (listUpdate_at (xs := #[]) (n := 0) (Heap.get?_push_size _ rfl) rfl ?_ (Nat.zero_le _) (by show (#[] ++ vs.toArray).size ≤ sizeLine + 1; simp only [Array.size_append, List.size_toArray, List.length_nil]; omega))
  refine wpAny_pure ?_
  show wpAny (model prog w) A (do
      let o ← load s.heap.objs.size
      match o.data with
      | .seq xs _ => pure xs.toList
      | _ => unsupported "internal:collect") Q E { s with heap := (s.heap.push (seqObj "list" #[] 0)).update s.heap.objs.size (Obj.mapSeq (· ++ vs.toArray)) }
  refine wpAny_bind (wpAny_load (get?_update_seq (Heap.get?_push_size _ rfl) _) ?_)
  show wpAny _ _ (pure ((#[] : Array Value) ++ vs.toArray).toList) Q E _
  rw [show ((#[] : Array Value) ++ vs.toArray).toList = vs by simp]
  exact wpAny_pure h
variable {β : Type} {vs : List Value} {bs : List β} {enc : β → PyData} {R : Value → β → Prop}
theorem sorted_dataT {l : Addr} {Q : Value → Shared → Prop} (hl : s.heap.IsTuple l vs.toArray) (e : PySem.W.EachIs R vs bs) (er : PySem.W.EachIs (fun v b => ∃ as, Reads s.heap v (enc b) as) vs bs) (hal : PySem.W.AllAlike (bs.map enc)) (hk : PySem.W.Sortable (bs.map enc)) (hL : bs.length ≤ sizeLine)
    (hu : ∀ b, b ∈ bs → A.units + 2 + (enc b).depth < cLine) (h : ∀ out, out.length = bs.length → PySem.W.EachIs R out (bs.mergeSort (PySem.W.dataLe false enc)) → Q (.ref (s.heap.objs.size + 1)) { s with heap := PyProof.Rows.sortedAll s.heap vs (List.toArray out) }) :
    wpAny (model prog w) A (call (.builtin "sorted") [.ref l]) Q E s := by
  have er' : PySem.W.EachIs (fun v b => ∃ as, Reads (PySem.W.sortingHeap (PySem.W.copyHeap s.heap vs) (s.heap.objs.size + 1) vs) v (enc b) as) vs bs := er.mono fun _ _ ⟨as, r⟩ => ⟨as, PyProof.Rows.Reads.keeps (fun _ _ => PySem.W.sorting_copy_old) r⟩
  have hv : vs.length ≤ sizeLine := by rw [e.length]; exact hL
  have S := PySem.W.SortsAt.data (prog := prog) (w := w) (A := A.in1.in1) (s := { s with heap := PySem.W.sortingHeap (PySem.W.copyHeap s.heap vs) (s.heap.objs.size + 1) vs }) (PySem.W.each_map (R := fun v d => ∃ as, Reads (PySem.W.sortingHeap (PySem.W.copyHeap s.heap vs) (s.heap.objs.size + 1) vs) v d as) enc er') hal hk (PySem.W.bound_map hu)
  refine call_function_entry_kw kind_sorted plain_sorted entry_sorted (args_sorted1 _) ?_
  unfold Builtin.«sorted»
  refine wpAny_bind (m := checkCount "sorted" 1 1 _) (wpAny_pure ?_)
  refine wpAny_bind (collect_tup hl ?_ hv)
  refine wpAny_bind (wpAny_newList ?_ hv)
  have hsz : ((s.heap.push (seqObj "list" #[] 0)).update s.heap.objs.size (Obj.mapSeq (· ++ vs.toArray))).objs.size = s.heap.objs.size + 1 := by
    rw [Heap.size_update, size_push']
  show wpAny _ _ _ _ _ { s with heap := PySem.W.copyHeap s.heap vs }
  rw [hsz]
  refine wpAny_bind (wpAny_holding (wpAny_call_entry_kw slot_list_sort ⟨_, PySem.W.copyHeap_at s.heap vs, rfl⟩ entry_list_sort ?body (args_list_sort _)))
  case body =>
    refine wpAny_mono (PySem.W.list_sort_vals (s := { s with heap := PySem.W.copyHeap s.heap vs }) (PySem.W.copyHeap_at s.heap vs) S hv (P := fun f s' => f = .done (.ret .none) ∧ Q (.ref (s.heap.objs.size + 1)) s') ⟨rfl, ?_⟩) (fun f s' hf => ?_) fun _ _ e => e
    · exact h _ (by rw [PySem.W.sortVals_length false rfl]; exact e.length) (PySem.W.sortVals_data false e er' hal)
    · obtain ⟨rfl, hq⟩ := hf
      exact ⟨_, rfl, wpAny_pure ⟨_, rfl, hq⟩⟩
end
open Classical in
noncomputable def gSortedT (mu : Bool) : List D → V1 D := fun xs s => match xs with
  | [.tup ds] => (datsOf s ds).bind fun ks =>
    if PySem.W.AllAlike ks ∧ PySem.W.Sortable ks ∧ ks.length ≤ sizeLine ∧ ∀ k ∈ ks, k.depth ≤ 60 then new mu (((ds.zip ks).mergeSort (PySem.W.dataLe false Prod.snd)).map Prod.fst) s else none
  | _ => none
section
variable {X : Cx} {zz : List Addr}
open Classical in
theorem c_sortedT {mu : Bool} {k : Nat} (hr : RoomG k X.A) : CallR X (.builtin "sorted") (rL (X.K, zz) (gSortedT mu)) := by
  intro pins s σ H xs us Q I r h
  obtain ⟨m, ds, st, S, rr, hG⟩ := h
  rcases two_or rr with rfl | ⟨d, v, rfl, rfl, hd⟩ | ⟨d, e, v, u, rfl, rfl, hd, he⟩ | ⟨a, b, c, l, rfl⟩
  · exact hG.elim
  · cases hd with
    | @tup a l vs e1 q1 =>
      have hG : GoodV (X.K, zz) m H Q ((datsOf st l).bind fun ks =>
        if PySem.W.AllAlike ks ∧ PySem.W.Sortable ks ∧ ks.length ≤ sizeLine ∧ ∀ k ∈ ks, k.depth ≤ 60 then new mu (((l.zip ks).mergeSort (PySem.W.dataLe false Prod.snd)).map Prod.fst) st else none) := hG
      cases h2 : datsOf st l with
      | none => simp only [h2, Option.bind_none] at hG; exact hG.elim
      | some ks =>
        simp only [h2, Option.bind_some] at hG
        by_cases c : PySem.W.AllAlike ks ∧ PySem.W.Sortable ks ∧ ks.length ≤ sizeLine ∧ ∀ k ∈ ks, k.depth ≤ 60
        · rw [if_pos c] at hG
          obtain ⟨c1, c2, c3, c4⟩ := c
          obtain ⟨its, rv, hl, hz⟩ := I.tuple e1
          obtain ⟨u, rfl, ru⟩ := vals1 r
          obtain rfl : u = Value.ref a := ru
          obtain ⟨bs, b1, b2, b3, b4, b5⟩ := mkB q1 h2 rv
          have hu := hr.un
          have hb3 : bs.length = ks.length := by rw [← b3, List.length_map]
          refine sorted_dataT (bs := bs) (enc := fun b => b.2.2) hl b5 ?_ (by rw [b3]; exact c1) (by rw [b3]; exact c2) (by omega) (fun b hb => ?_) fun out ho eo => ?_
          · refine (PySem.W.each_mem b5).mono fun u b ⟨h3, h4⟩ => ?_
            exact Dp.reads I b.2.2 b.2.1 u (datOf_at S (b4 b h4).1 (b4 b h4).2) h3
          · have := c4 b.2.2 (by rw [← b3]; exact List.mem_map_of_mem hb)
            omega
          · have em : ∀ b ∈ bs.mergeSort (PySem.W.dataLe false fun b : D × V × PyData => b.2.2), b ∈ bs := fun b hb => List.mem_mergeSort.mp hb
            have ez : ((l.zip ks).mergeSort (PySem.W.dataLe false Prod.snd)).map Prod.fst = (bs.mergeSort (PySem.W.dataLe false fun b : D × V × PyData => b.2.2)).map (·.1) := by
              have hz2 : l.zip ks = bs.map fun b => (b.1, b.2.2) := by
                rw [← b1, ← b3, List.zip_map']
              rw [hz2, ← PySem.W.sort_maps (r := PySem.W.dataLe false fun b : D × V × PyData => b.2.2) (fun b : D × V × PyData => (b.1, b.2.2)) (fun a _ b _ => rfl), List.map_map]
              rfl
            rw [ez] at hG
            obtain ⟨n, hn⟩ := PyProof.Rows.sortedAll_at s.heap its (List.toArray out)
            have hfr : H (s.heap.objs.size + 1) = none := I.hok.fresh (Nat.le_succ _)
            refine ⟨.ref _, upd H _ (.lst _), I.laid (t' := s.toks) (fun b o hb => PyProof.Rows.sortedAll_old hb) (Nat.le_succ _) ⟨?_, out, n, vals_of eo, hn⟩, rfl, new_ok S (repL_of fun b hb => (b4 b (em b hb)).1) hG _ hfr⟩
            rw [List.length_map, List.length_mergeSort]
            omega
        · rw [if_neg c] at hG; exact hG.elim
    | _ => exact hG.elim
  · cases hd <;> exact hG.elim
  · cases a <;> exact hG.elim
noncomputable def gSortedQ (mu : Bool) : List D → V1 D := orVL (gSortedT mu) (gSorted mu)
theorem c_sortedQ {mu : Bool} {k : Nat} (hr : RoomG k X.A) : CallR X (.builtin "sorted") (rL (X.K, zz) (gSortedQ mu)) := CallR.orV (c_sortedT hr) (c_sorted hr)
end
/-! pairs, sorted -/
def leP (p q : Int × Int) : Bool := decide (p.1 < q.1 ∨ (p.1 = q.1 ∧ p.2 ≤ q.2))
def sortP (bs : List (Int × Int)) : List (Int × Int) := bs.mergeSort leP
def pP (p : Int × Int) : PyData := .tuple [.int p.1, .int p.2]
theorem datsOf_pairs (s : Sto) : ∀ bs : List (Int × Int), datsOf s (bs.map pD) = some (bs.map pP)
  | [] => rfl
  | p :: r => by
    have e : datOf s (pD p) = some (pP p) := by simp [pD, pP, datOf, dat0, dat0L]
    simp only [List.map_cons, datsOf, e, Option.bind_some, datsOf_pairs s r, Option.map_some]
theorem sort_pairs (bs : List (Int × Int)) : (((bs.map pD).zip (bs.map pP)).mergeSort (PySem.W.dataLe false Prod.snd)).map Prod.fst = (sortP bs).map pD := by
  have hz : (bs.map pD).zip (bs.map pP) = bs.map fun b => (pD b, pP b) := by rw [List.zip_map']
  rw [hz, ← PySem.W.sort_maps (r := PySem.W.dataLe false fun b : Int × Int => pP b) (fun b : Int × Int => (pD b, pP b)) (fun a _ b _ => rfl), List.map_map]
  have e : (PySem.W.dataLe false fun b : Int × Int => pP b) = leP := PySem.W.dataLe_ii (fun b : Int × Int => b.1) (fun b => b.2)
  rw [e]
  rfl
theorem sort_cond (bs : List (Int × Int)) (h : bs.length ≤ 1000) : PySem.W.AllAlike (bs.map pP) ∧ PySem.W.Sortable (bs.map pP) ∧ (bs.map pP).length ≤ sizeLine ∧ ∀ k ∈ bs.map pP, k.depth ≤ 60 := by
  have hsz : sizeLine = 16777216 := by decide
  refine ⟨fun d hd d' hd' => ?_, .inl fun d hd => ?_, by simp [hsz]; omega, fun k hk => ?_⟩
  · obtain ⟨p, _, rfl⟩ := List.mem_map.mp hd
    obtain ⟨q, _, rfl⟩ := List.mem_map.mp hd'
    simp [pP, PySem.W.alike, PySem.W.alikeAll]
  · obtain ⟨p, _, rfl⟩ := List.mem_map.mp hd
    exact ⟨_, _, rfl⟩
  · obtain ⟨p, _, rfl⟩ := List.mem_map.mp hk
    simp [pP, PyData.depth, PyData.depthAll]
section
variable {s : Sto} {Q : D → Sto → Prop} {mu : Bool} {bs : List (Int × Int)}
theorem wpv_sortPT (h : bs.length ≤ 1000) : wpv (gSortedQ false [.tup (bs.map pD)] s) Q = Q (.lst ((sortP bs).map pD)) s := by
  have e : gSortedT false [.tup (bs.map pD)] s = some (.lst ((sortP bs).map pD), s) := by
    simp only [gSortedT, datsOf_pairs, Option.bind_some]
    rw [if_pos (sort_cond bs h), sort_pairs]
    rfl
  have e2 : gSortedQ false [.tup (bs.map pD)] s = some (.lst ((sortP bs).map pD), s) := by
    simp only [gSortedQ, orVL, e]
  rw [e2, wpv_some]
end
theorem leP_trans (a b c : Int × Int) (h : leP a b = true) (h2 : leP b c = true) : leP a c = true := by
  simp only [leP, decide_eq_true_eq] at *
  omega
theorem leP_total (a b : Int × Int) : (leP a b || leP b a) = true := by
  simp only [leP, Bool.or_eq_true, decide_eq_true_eq]
  omega
theorem leP_anti {a b : Int × Int} (h : leP a b = true) (h2 : leP b a = true) : a = b := by
  simp only [leP, decide_eq_true_eq] at *
  exact Prod.ext (by omega) (by omega)
theorem sorted_one : ∀ {l m : List (Int × Int)}, l.Pairwise (fun x y => leP x y = true) → m.Pairwise (fun x y => leP x y = true) → l.Perm m → l = m
  | [], m, _, _, h => h.nil_eq
  | a :: l, [], _, _, h => absurd h.length_eq (by simp)
  | a :: l, b :: m, h1, h2, h => by
    rw [List.pairwise_cons] at h1 h2
    have e : a = b := by
      have ha : a ∈ b :: m := h.mem_iff.mp (List.mem_cons_self ..)
      have hb : b ∈ a :: l := h.mem_iff.mpr (List.mem_cons_self ..)
      rcases List.mem_cons.mp ha with z | z
      · exact z
      · rcases List.mem_cons.mp hb with y | y
        · exact y.symm
        · exact leP_anti (h1.1 b y) (h2.1 a z)
    subst e
    rw [sorted_one h1.2 h2.2 h.cons_inv]
theorem sortP_perm {a b : List (Int × Int)} (h : a.Perm b) : sortP a = sortP b := by
  refine sorted_one ?_ ?_ ?_
  · exact List.pairwise_mergeSort leP_trans leP_total a
  · exact List.pairwise_mergeSort leP_trans leP_total b
  · exact (List.mergeSort_perm a _).trans (h.trans (List.mergeSort_perm b _).symm)
end QS
end

section
set_option Elab.async false
set_option linter.all false
set_option maxRecDepth 100000
set_option maxHeartbeats 4000000
/-! QS40: dicts read: d[k], k in d, dict(d), sorted(d). -/
namespace QS
open PySem PySem.Spec PyProof.Rows L2 TL
def keyOf : D → Option Key
  | .int i => some (.inl i)
  | .str x => some (.inr x)
  | _ => none
/-- what a dict has at a key -/
def valD {α : Type} : List Key → List α → Key → Option α
  | k :: ks, d :: ds, j => if k = j then some d else valD ks ds j
  | _, _, _ => none
theorem keyOf_at {K : KZ} {m : List Addr} {H : Hp} {d : D} {v : V} {k : Key} (r : Rep K m H d v) (h : keyOf d = some k) : v = kV k := by
  cases r <;> cases h <;> rfl
theorem valD_rep {K : KZ} {m : List Addr} {H : Hp} : ∀ {ks : List Key} {ds : List D} {vs : List V} (j : Key), RepL K m H ds vs → ks.length = vs.length →
    (valD ks ds j = none ∧ valV (ks.zip vs) j = none) ∨ ∃ d v, valD ks ds j = some d ∧ valV (ks.zip vs) j = some v ∧ Rep K m H d v
  | [], _, _, _, .nil, _ => .inl ⟨rfl, rfl⟩
  | _ :: _, _, _, _, .nil, h => nomatch h
  | [], _, _, _, .cons _ _, h => nomatch h
  | k :: ks, _, _, j, .cons (d := d) (v := v) hd r, h => by
    by_cases e : k = j
    · exact .inr ⟨d, v, by simp [valD, e], by rw [List.zip_cons_cons]; exact valV_pos e, hd⟩
    · have e1 : ∀ ds, valD (k :: ks) (d :: ds) j = valD ks ds j := fun ds => by simp [valD, e]
      rw [e1, List.zip_cons_cons, valV_neg (p := (k, v)) e]
      exact valD_rep j r (by simpa using h)
def gIxD : D → D → V1 D := fun x y s => (dicOf s x).bind fun p => (keyOf y).bind fun k => (valD p.1 p.2 k).map fun d => (d, s)
def gInD (neg : Bool) : D → D → V1 D := fun y x s => (dicOf s x).bind fun p => (keyOf y).map fun k => (.bl (if neg then !(valD p.1 p.2 k).isSome else (valD p.1 p.2 k).isSome), s)
/-- what stands there, read -/
theorem dget_at {K : KZ} {m : List Addr} {H : Hp} {s : Sto} {x y : D} {v u : V} {p : List Key × List D} {k : Key} (S : StR K m H s) (rx : Rep K m H x v) (ry : Rep K m H y u) (h1 : dicOf s x = some p) (h2 : keyOf y = some k) :
    ∃ a o, v = .ref a ∧ DGet H a u o ∧ (∃ kvs, Rd H a (.dK kvs)) ∧ ((valD p.1 p.2 k = none ∧ o = none) ∨ ∃ d w, valD p.1 p.2 k = some d ∧ o = some w ∧ Rep K m H d w) := by
  obtain ⟨ks, ds⟩ := p
  obtain ⟨a, vs, rfl, l, e, q⟩ := dicOf_at S rx h1
  refine ⟨a, valV (ks.zip vs) k, rfl, .inl ⟨_, k, e, keyOf_at ry h2, rfl⟩, ⟨_, e⟩, valD_rep k q l⟩
section
variable {X : Cx} {zz : List Addr}
theorem i_dic {kk : Nat} (hr : RoomG kk X.A) : IxR X (r2 (X.K, zz) gIxD) := fun value slice pins s σ H x y v u Q I rx ry h hs => by
  obtain ⟨m, d, e, st, S, hd, he, hG⟩ := h
  unfold gIxD at hG
  cases h1 : dicOf st d with
  | none => rw [h1] at hG; exact hG.elim
  | some p =>
    rw [h1] at hG
    cases h2 : keyOf e with
    | none => simp only [h2, Option.bind_some, Option.bind_none] at hG; exact hG.elim
    | some k =>
      simp only [h2, Option.bind_some] at hG
      obtain ⟨a, o, rfl, g, _, c⟩ := dget_at S hd he h1 h2
      rcases c with ⟨c1, c2⟩ | ⟨d', w, c1, c2, c3⟩
      · rw [c1] at hG; exact hG.elim
      · rw [c1] at hG
        subst c2
        cases rx
        have hu := hr.un
        have g1 : DGet H a y (some w) := g
        unfold subscriptTail
        refine wpAny_bind ?_
        have hT := dict_typeIs I g1
        rw [getitemInPython_of_ne hT.not_modules]
        refine wpAny_bind (wpAny_specialOf hT PySem.F.slot_dict_getitem.lookup ?_)
        have fin : wpAny (model X.prog X.w) X.A (subscripted slice false (.ref a) u) (fun r s₃ => wpAny (model X.prog X.w) X.A (letTemporaryGo value (.ref a) r >>= fun _ => pure r) (EP X pins σ Q) X.xe s₃) X.xe s := by
          rw [hs]
          refine wpAny_operating (d_getItem (by omega) I g1 ry fun w' s' I' r' => wpAny_bind (wpAny_letTemporaryGo (wpAny_pure ⟨w, H, I', r', hG.here S c3⟩)))
        first
          | exact wpAny_pure (wpAny_bind fin)
          | exact wpAny_bind (wpAny_pure (wpAny_bind fin))
          | exact wpAny_bind fin
def gIxQ : D → D → V1 D := orV2 gIxD gIx
theorem i_seqD {kk : Nat} (hr : RoomG kk X.A) : IxR X (r2 (X.K, zz) gIxQ) := IxR.orV (i_dic hr) i_seq
theorem o_inD {kk : Nat} (hr : RoomG kk X.A) : OpR X (compareOp .In) (r2 (X.K, zz) (gInD false)) := fun pins s σ H x y v u Q I rx ry h => by
  obtain ⟨m, d, e, st, S, hd, he, hG⟩ := h
  unfold gInD at hG
  cases h1 : dicOf st e with
  | none => rw [h1] at hG; exact hG.elim
  | some p =>
    rw [h1] at hG
    cases h2 : keyOf d with
    | none => simp only [h2, Option.bind_some, Option.map_none] at hG; exact hG.elim
    | some k =>
      simp only [h2, Option.bind_some, Option.map_some, Bool.false_eq_true, if_false] at hG
      obtain ⟨a, o, rfl, g, _, c⟩ := dget_at S he hd h1 h2
      cases ry
      have hu := hr.un
      refine d_in (by omega) I g rx fun s' I' => ⟨.bl o.isSome, H, I', rfl, ?_⟩
      rcases c with ⟨c1, c2⟩ | ⟨d', w, c1, c2, c3⟩ <;> (subst c2; rw [c1] at hG; exact hG.here S (.bl _))
theorem o_notinD {kk : Nat} (hr : RoomG kk X.A) : OpR X (compareOp .NotIn) (r2 (X.K, zz) (gInD true)) := fun pins s σ H x y v u Q I rx ry h => by
  obtain ⟨m, d, e, st, S, hd, he, hG⟩ := h
  unfold gInD at hG
  cases h1 : dicOf st e with
  | none => rw [h1] at hG; exact hG.elim
  | some p =>
    rw [h1] at hG
    cases h2 : keyOf d with
    | none => simp only [h2, Option.bind_some, Option.map_none] at hG; exact hG.elim
    | some k =>
      simp only [h2, Option.bind_some, Option.map_some, if_true] at hG
      obtain ⟨a, o, rfl, g, _, c⟩ := dget_at S he hd h1 h2
      cases ry
      have hu := hr.un
      refine d_notIn (by omega) I g rx fun s' I' => ⟨.bl (!o.isSome), H, I', rfl, ?_⟩
      rcases c with ⟨c1, c2⟩ | ⟨d', w, c1, c2, c3⟩ <;> (subst c2; rw [c1] at hG; exact hG.here S (.bl _))
/-! dict(d) -/
def gDict (mu : Bool) : List D → V1 D := fun xs s => match xs with
  | [x] => (dicOf s x).bind fun p => newD mu p.1 p.2 s
  | _ => none
theorem c_dict {mu : Bool} : CallR X (.type "dict") (rL (X.K, zz) (gDict mu)) := by
  intro pins s σ H xs us Q I r h
  obtain ⟨m, ds, st, S, rr, hG⟩ := h
  rcases two_or rr with rfl | ⟨d, v, rfl, rfl, hd⟩ | ⟨d, e, v, u, rfl, rfl, hd, he⟩ | ⟨a, b, c, l, rfl⟩
  · exact hG.elim
  · have hG : GoodV (X.K, zz) m H Q ((dicOf st d).bind fun p => newD mu p.1 p.2 st) := hG
    cases h1 : dicOf st d with
    | none => rw [h1] at hG; exact hG.elim
    | some p =>
      rw [h1] at hG
      obtain ⟨ks, ds⟩ := p
      obtain ⟨a, vs, rfl, l, e1, q1⟩ := dicOf_at S hd h1
      exact call_dictD pins s σ H _ us Q I r ⟨a, _, rfl, e1, fun p hp => newD_ok S q1 l hG p hp⟩
  · exact hG.elim
  · exact hG.elim
/-! sorted(d), the keys texts -/
def leS (a b : Str) : Bool := !ltCps b.cps.toList a.cps.toList
def sortS (xs : List Str) : List Str := xs.mergeSort leS
end
theorem leS_iff {a b : Str} : leS a b = true ↔ a.cps.toList ≤ b.cps.toList := by
  unfold leS
  rw [ltCps_eq, Bool.not_eq_true', decide_eq_false_iff_not]
  exact Iff.rfl
theorem leS_trans (a b c : Str) (h : leS a b = true) (h2 : leS b c = true) : leS a c = true := by
  rw [leS_iff] at *
  exact List.le_trans h h2
theorem leS_total (a b : Str) : (leS a b || leS b a) = true := by
  rw [Bool.or_eq_true, leS_iff, leS_iff]
  exact List.le_total _ _
theorem leS_anti {a b : Str} (h : leS a b = true) (h2 : leS b a = true) : a = b := by
  rw [leS_iff] at *
  exact ext_tl (List.le_antisymm h h2)
theorem sorted_oneS : ∀ {l m : List Str}, l.Pairwise (fun x y => leS x y = true) → m.Pairwise (fun x y => leS x y = true) → l.Perm m → l = m
  | [], m, _, _, h => h.nil_eq
  | a :: l, [], _, _, h => absurd h.length_eq (by simp)
  | a :: l, b :: m, h1, h2, h => by
    rw [List.pairwise_cons] at h1 h2
    have e : a = b := by
      have ha : a ∈ b :: m := h.mem_iff.mp (List.mem_cons_self ..)
      have hb : b ∈ a :: l := h.mem_iff.mpr (List.mem_cons_self ..)
      rcases List.mem_cons.mp ha with z | z
      · exact z
      · rcases List.mem_cons.mp hb with y | y
        · exact y.symm
        · exact leS_anti (h1.1 b y) (h2.1 a z)
    subst e
    rw [sorted_oneS h1.2 h2.2 h.cons_inv]
theorem rising_pw : ∀ (p : Str) (l : List Str), risingS p l = true → (p :: l).Pairwise (fun x y => leS x y = true)
  | p, [], _ => by simp
  | p, x :: r, h => by
    have h : (!ltCps x.cps.toList p.cps.toList && risingS x r) = true := h
    rw [Bool.and_eq_true] at h
    have q := rising_pw x r h.2
    rw [List.pairwise_cons]
    refine ⟨fun y hy => ?_, q⟩
    rcases List.mem_cons.mp hy with rfl | z
    · exact h.1
    · exact leS_trans p x y h.1 ((List.pairwise_cons.mp q).1 y z)
theorem sortedS_one {ys ks : List Str} (h : ys.Perm ks) (hs : sortedS ys = true) : ys = sortS ks := by
  refine sorted_oneS ?_ (List.pairwise_mergeSort leS_trans leS_total ks) (h.trans (List.mergeSort_perm ks _).symm)
  cases ys with
  | nil => exact .nil
  | cons x r => exact rising_pw x r hs
def strKeys : List Key → Option (List Str)
  | [] => some []
  | .inr x :: r => (strKeys r).map (x :: ·)
  | _ => none
theorem strKeys_at : ∀ {ks : List Key} {xs : List Str}, strKeys ks = some xs → ks = xs.map Sum.inr
  | [], _, h => by cases h; rfl
  | .inl _ :: _, _, h => nomatch h
  | .inr x :: r, _, h => by
    obtain ⟨ys, h1, h2⟩ := Option.map_eq_some_iff.mp h
    subst h2
    rw [strKeys_at h1]
    rfl
@[simp] theorem strKeys_map : ∀ xs : List Str, strKeys (xs.map Sum.inr) = some xs
  | [] => rfl
  | x :: r => by simp [strKeys, strKeys_map r]
def gSortedD (mu : Bool) : List D → V1 D := fun xs s => match xs with
  | [x] => (dicOf s x).bind fun p => (strKeys p.1).bind fun ks => if ks.length < 64 then new mu ((sortS ks).map D.str) s else none
  | _ => none
section
variable {X : Cx} {zz : List Addr}
theorem c_sortedD {mu : Bool} (hc : X.calm = true := by rfl) : CallR X (.builtin "sorted") (rL (X.K, zz) (gSortedD mu)) := by
  intro pins s σ H xs us Q I r h
  obtain ⟨m, ds, st, S, rr, hG⟩ := h
  rcases two_or rr with rfl | ⟨d, v, rfl, rfl, hd⟩ | ⟨d, e, v, u, rfl, rfl, hd, he⟩ | ⟨a, b, c, l, rfl⟩
  · exact hG.elim
  · have hG : GoodV (X.K, zz) m H Q ((dicOf st d).bind fun p => (strKeys p.1).bind fun ks => if ks.length < 64 then new mu ((sortS ks).map D.str) st else none) := hG
    cases h1 : dicOf st d with
    | none => rw [h1] at hG; exact hG.elim
    | some p =>
      rw [h1] at hG
      obtain ⟨ks, ds⟩ := p
      cases h2 : strKeys ks with
      | none => simp only [Option.bind_some, h2, Option.bind_none] at hG; exact hG.elim
      | some zs =>
        simp only [Option.bind_some, h2] at hG
        by_cases c : zs.length < 64
        · rw [if_pos c] at hG
          obtain ⟨a, vs, rfl, l, e1, q1⟩ := dicOf_at S hd h1
          refine call_sortedD hc pins s σ H _ us Q I r ⟨a, _, zs, rfl, e1, ?_, c, fun ys p hy hs hp => ?_⟩
          · rw [← strKeys_at h2]
            exact List.map_fst_zip (by omega)
          · rw [sortedS_one hy hs]
            exact new_ok S (rep_strs _) hG p hp
        · rw [if_neg c] at hG; exact hG.elim
  · exact hG.elim
  · exact hG.elim
noncomputable def gSortedR (mu : Bool) : List D → V1 D := orVL (gSortedD mu) (gSortedQ mu)
theorem c_sortedR {mu : Bool} {k : Nat} (hr : RoomG k X.A) (hc : X.calm = true := by rfl) : CallR X (.builtin "sorted") (rL (X.K, zz) (gSortedR mu)) := CallR.orV (c_sortedD hc) (c_sortedQ hr)
end
end QS
end

section
set_option Elab.async false
set_option linter.all false
set_option maxRecDepth 100000
set_option maxHeartbeats 4000000
/-! QS41: going through a dict that nobody writes: its keys, its items. -/
namespace QS
open PySem PySem.Spec PyProof.Rows L2 TL
/-- the dict that an expression gives, locked -/
def tLk (t : TE) : TE := fun σ H Q => t σ H fun x H1 => ∃ d kvs, x = .ref d ∧ ((∃ ob, H1 d = some (.frz ob (.dK kvs)) ∧ Q x H1) ∨ (H1 d = some (.dK kvs) ∧ ∀ ob, Q x (upd H1 d (.frz ob (.dK kvs)))))
theorem pe_lk {X : Cx} {e : Expr} {t : TE} (h : PE X e t) : PE X e (tLk t) := ⟨fun pins s σ H Q I q => thn (h.run pins s σ H _ I q) fun v s1 ⟨x, H1, I1, r, d, kvs, ex, c⟩ => by
  rcases c with ⟨ob, e1, q1⟩ | ⟨e1, q1⟩
  · exact ⟨x, H1, I1, r, q1⟩
  · obtain ⟨od, I2⟩ := I1.lock e1 True.intro
    exact ⟨x, _, I2, r, q1 od⟩⟩
section
variable {k : PySem.W.Frag} {z : List Addr} {m : List Addr} {H : Hp} {s : Sto} {d : Addr} {kvs : List (Key × V)} {ob : Obj}
theorem chg_lock (hp : H d = some (.dK kvs)) : Chg k z m H z m (upd H d (.frz ob (.dK kvs))) where
  tup := SqT.of_keep (fun vs e => by rw [hp] at e; cases e) (fun o' vs e => by rw [hp] at e; cases e)
  scr := SqF.of_keep (fun o' vs e => by rw [hp] at e; cases e)
  xd := fun a u k n e => ⟨n, by
    rw [upd_ne (fun q => by subst q; rw [hp] at e; cases e; exact k)]; exact e⟩
  obj := fun a u n e _ => ⟨n, by
    by_cases q : a = d
    · subst q
      rw [hp] at e
      cases e
      exact .inr ⟨ob, kvs, rfl, upd_same⟩
    · exact .inl (by rw [upd_ne q]; exact e)⟩
  loc := fun n a h => h
theorem ext_lock (hp : H d = some (.dK kvs)) : Ext m H m (upd H d (.frz ob (.dK kvs))) := by
  refine ⟨⟨[], by simp, fun _ h => nomatch h⟩, fun a o h t n => ?_, fun a ⟨u, h, t⟩ => ?_⟩
  · by_cases q : a = d
    · subst q
      rw [hp] at h
      cases h
      exact .inr ⟨ob, kvs, rfl, upd_same⟩
    · exact .inl (by rw [upd_ne q]; exact h)
  · by_cases q : a = d
    · subst q
      exact ⟨_, upd_same, fun _ z => nomatch z⟩
    · exact ⟨u, by rw [upd_ne q]; exact h, t⟩
theorem str_lock (n : d ∉ m) (S : StR (k, z) m H s) (hp : H d = some (.dK kvs)) : StR (k, z) m (upd H d (.frz ob (.dK kvs))) s := by
  refine ⟨S.len, S.nd, fun a ha => ⟨?_, (S.hid a ha).2⟩, fun j a u h1 h2 => (S.obj j a u h1 h2).chg (chg_lock hp) fun u q => by rw [upd_ne (fun e => by subst e; exact n (List.mem_of_getElem? h1))]; exact q, tabs_upd S.tab hp (fun _ z => nomatch z) (fun _ z => nomatch z)⟩
  exact (ext_lock (m := m) hp).there a (S.hid a ha).1
end
def keyD : Key → D
  | .inl i => .int i
  | .inr x => .str x
theorem keyD_rep {K : KZ} {m : List Addr} {H : Hp} (k : Key) : Rep K m H (keyD k) (kV k) := by
  cases k with
  | inl i => exact .int i
  | inr x => exact .str x
def itKeys (x : D) : V1 Items := fun s => match x with
  | .dic ks _ => some (⟨ks.map keyD, none⟩, s)
  | _ => none
def itemD : List Key → List D → List D
  | k :: ks, d :: ds => .tup [keyD k, d] :: itemD ks ds
  | _, _ => []
def itItems (x : D) : V1 Items := fun s => match x with
  | .dic ks ds => some (⟨itemD ks ds, none⟩, s)
  | _ => none
theorem itemD_len : ∀ {ks : List Key} {ds : List D}, ks.length = ds.length → (itemD ks ds).length = ks.length
  | [], [], _ => rfl
  | [], _ :: _, h => nomatch h
  | _ :: _, [], h => nomatch h
  | k :: ks, d :: ds, h => by
    simp only [itemD, List.length_cons]
    rw [itemD_len (by simpa using h)]
theorem itemD_at {K : KZ} {m : List Addr} {H : Hp} : ∀ {ks : List Key} {ds : List D} {vs : List V} {i : Nat} {d : D}, RepL K m H ds vs → (itemD ks ds)[i]? = some d → ∃ k e v, d = .tup [keyD k, e] ∧ (ks.zip vs)[i]? = some (k, v) ∧ Rep K m H e v
  | [], ds, _, _, _, _, h => by cases ds <;> cases h
  | _ :: _, [], _, _, _, _, h => nomatch h
  | k :: ks, d :: ds, v :: vs, i, x, .cons hd r, h => by
    cases i with
    | zero =>
      cases h
      exact ⟨k, d, v, rfl, rfl, hd⟩
    | succ i =>
      obtain ⟨k', e, v', h1, h2, h3⟩ := itemD_at (ks := ks) (i := i) r (by simpa [itemD] using h)
      exact ⟨k', e, v', h1, by simpa using h2, h3⟩
section
variable {K : KZ} {m : List Addr} {s : Sto} {H : Hp} {a : Addr} {ks : List Key} {ds : List D} {vs : List V} {ob : Obj}
theorem itw_keys (n : Nin K m a) (h1 : H a = some (.frz ob (.dK (ks.zip vs)))) (hl : ks.length = vs.length) : ItW K m s ⟨ks.map keyD, none⟩ (Itk a ob (ks.zip vs)) H := by
  intro zz m1 H1 s1 hz e S _
  have q1 : H1 a = some (.frz ob (.dK (ks.zip vs))) := e.keepE a _ h1 (fun _ z => nomatch z) n.1
  have hl2 : (ks.zip vs).length = ks.length := by simp [List.length_zip]; omega
  refine ⟨fun i hi => ⟨q1, ?_⟩, ⟨q1, ?_⟩, fun i d x H' hd hy => ?_⟩
  · have hi : i < (ks.map keyD).length := hi
    rw [List.length_map] at hi
    omega
  · show (ks.zip vs).length ≤ (ks.map keyD).length
    rw [List.length_map]; omega
  · obtain ⟨rfl, k, v, e2, rfl⟩ := hy
    have hd : (ks.map keyD)[i]? = some d := hd
    rw [List.getElem?_map] at hd
    obtain ⟨k', h3, rfl⟩ := Option.map_eq_some_iff.mp hd
    have e3 := (List.getElem?_zip_eq_some.mp e2).1
    rw [h3] at e3
    cases e3
    exact ⟨Same.refl _, keyD_rep _⟩
theorem itw_items (S0 : StR K m H s) (n : Nin K m a) (h1 : H a = some (.frz ob (.dK (ks.zip vs)))) (hl : ks.length = vs.length) (r : RepL K m H ds vs) : ItW K m s ⟨itemD ks ds, none⟩ (Iti a ob (ks.zip vs)) H := by
  intro zz m1 H1 s1 hz e S _
  have q1 : H1 a = some (.frz ob (.dK (ks.zip vs))) := e.keepE a _ h1 (fun _ z => nomatch z) n.1
  have q2 : RepL (K.1, zz) m1 H1 ds vs := RepL.chg (chg_ext S0.noTup hz e) r
  have hl2 : (ks.zip vs).length = ks.length := by simp [List.length_zip]; omega
  have hl3 : (itemD ks ds).length = ks.length := itemD_len (by rw [r.length]; exact hl)
  refine ⟨fun i hi => ⟨q1, ?_⟩, ⟨q1, ?_⟩, fun i d x H' hd hy => ?_⟩
  · have hi : i < (itemD ks ds).length := hi
    omega
  · show (ks.zip vs).length ≤ (itemD ks ds).length
    omega
  · obtain ⟨T, k, v, e2, rfl, hT, rfl⟩ := hy
    obtain ⟨k', e', v', rfl, h3, h4⟩ := itemD_at q2 hd
    rw [h3] at e2
    cases e2
    have h5 : RepL (K.1, zz) m1 (upd H1 T (.tup [kV k, v])) [e'] [v] := RepL.upd S (.cons h4 .nil) hT
    exact ⟨same_upd hT, .tup (.inl (.inl upd_same)) (.cons (keyD_rep _) h5)⟩
end
section
variable {zz : List Addr} {X : Cx} {W : WX} {tg e : Expr} {de : EM}
theorem lk_in {ks : List Key} {ds : List D} {v : V} {m : List Addr} {H1 : Hp} {s1 : Sto} {it : Items} {R : It → Hp → Prop} {J : Addr → Obj → List (Key × V) → It} (S1 : StR (X.K, zz) m H1 s1) (q1 : Rep (X.K, zz) m H1 (.dic ks ds) v)
    (hi : ∀ (a : Addr) (ob : Obj) (vs : List V) (H2 : Hp), StR (X.K, zz) m H2 s1 → Nin (X.K, zz) m a → H2 a = some (.frz ob (.dK (ks.zip vs))) → ks.length = vs.length → RepL (X.K, zz) m H2 ds vs → ItW (X.K, zz) m s1 it (J a ob (ks.zip vs)) H2)
    (hR : ∀ m' H' J, Ext m H1 m' H' → StR (X.K, zz) m' H' s1 → ItW (X.K, zz) m' s1 it J H' → R J H') :
    ∃ d kvs, v = .ref d ∧ ((∃ ob, H1 d = some (.frz ob (.dK kvs)) ∧ (∃ o, H1 d = some (.frz o (.dK kvs)) ∧ R (J d o kvs) H1)) ∨
      (H1 d = some (.dK kvs) ∧ ∀ ob, ∃ o, (upd H1 d (.frz ob (.dK kvs))) d = some (.frz o (.dK kvs)) ∧ R (J d o kvs) (upd H1 d (.frz ob (.dK kvs))))) := by
  cases q1 with
  | @dic a _ _ vs n l e q =>
    refine ⟨a, ks.zip vs, rfl, ?_⟩
    rcases e with e | ⟨ob, e⟩
    · refine .inr ⟨e, fun ob => ⟨ob, upd_same, ?_⟩⟩
      have S2 := str_lock (ob := ob) n.1 S1 e
      exact hR m _ _ (ext_lock e) S2 (hi a ob vs _ S2 n upd_same l (q.chg (chg_lock e)))
    · exact .inl ⟨ob, e, ob, e, hR m H1 _ Ext.refl S1 (hi a ob vs _ S1 n e l q)⟩
theorem si_keys (he : PE X e (tE (X.K, zz) W de)) : PI X tg e (iS (X.K, zz) W (iOf itKeys de)) :=
  PI.imp (pi_keys (pe_lk he)) fun σ H R h => tG.mono (fun v H1 ⟨m1, d, s1, it, s2, S1, q1, e1, hR⟩ => by
    cases d with
    | dic ks ds =>
      cases e1
      obtain ⟨d, kvs, ex, c⟩ := lk_in (J := Itk) S1 q1 (fun a ob vs H2 S2 n e l q => itw_keys n e l) hR
      refine ⟨d, kvs, ex, ?_⟩
      rcases c with ⟨ob, e, o, e2, q⟩ | ⟨e, q⟩
      · exact .inl ⟨ob, e, d, o, ex, .inl ⟨kvs, e2, q⟩⟩
      · refine .inr ⟨e, fun ob => ?_⟩
        obtain ⟨o, e2, q2⟩ := q ob
        exact ⟨d, o, ex, .inl ⟨kvs, e2, q2⟩⟩
    | _ => cases e1) (iOf_in h)
theorem si_items {elts : List Expr} {kk : Nat} {tpos apos cpos : Pos} (he : PE X e (tE (X.K, zz) W de)) (hbase : attributeBase e "items" X.env (eval e X.env) = eval e X.env := by rfl) (hline : (apos.endLine == cpos.line) = true := by rfl) :
    PI X (.Tuple elts kk tpos) (.Call (.Attribute e "items" apos) [] [] cpos) (iS (X.K, zz) W (iOf itItems de)) :=
  PI.imp (pi_items (pe_lk he) hbase hline) fun σ H R h => tG.mono (fun v H1 ⟨m1, d, s1, it, s2, S1, q1, e1, hR⟩ => by
    cases d with
    | dic ks ds =>
      cases e1
      obtain ⟨d, kvs, ex, c⟩ := lk_in (J := Iti) S1 q1 (fun a ob vs H2 S2 n e l q => itw_items S2 n e l q) hR
      refine ⟨d, kvs, ex, ?_⟩
      rcases c with ⟨ob, e, o, e2, q⟩ | ⟨e, q⟩
      · exact .inl ⟨ob, e, d, o, kvs, ex, e2, q⟩
      · refine .inr ⟨e, fun ob => ?_⟩
        obtain ⟨o, e2, q2⟩ := q ob
        exact ⟨d, o, kvs, ex, e2, q2⟩
    | _ => cases e1) (iOf_in h)
end
end QS
end

section
set_option Elab.async false
set_option linter.all false
set_option maxRecDepth 100000
set_option maxHeartbeats 4000000
/-! QS42: dict comprehensions. -/
namespace QS
open PySem PySem.Spec PyProof.Rows L2 TL
/-- at its key, another value -/
def repl {α : Type} : List Key → List α → Key → α → List α
  | k :: ks, d :: ds, j, y => (if k = j then y else d) :: repl ks ds j y
  | _, ds, _, _ => ds
def hasK (ks : List Key) (j : Key) : Bool := ks.any fun k => decide (k = j)
def putDk {α : Type} (ks : List Key) (ds : List α) (j : Key) (y : α) : List Key × List α := if hasK ks j = true then (ks, repl ks ds j y) else (ks ++ [j], ds ++ [y])
theorem repl_len {α : Type} : ∀ (ks : List Key) (ds : List α) (j : Key) (y : α), (repl ks ds j y).length = ds.length
  | [], ds, _, _ => by cases ds <;> rfl
  | _ :: _, [], _, _ => rfl
  | k :: ks, d :: ds, j, y => by simp [repl, repl_len ks ds j y]
theorem zip_repl : ∀ (ks : List Key) (vs : List V) (j : Key) (y : V), (ks.zip vs).map (fun kv => if kv.1 = j then (kv.1, y) else kv) = ks.zip (repl ks vs j y)
  | [], vs, _, _ => by simp
  | _ :: _, [], _, _ => by simp [repl]
  | k :: ks, v :: vs, j, y => by
    simp only [List.zip_cons_cons, List.map_cons, repl, zip_repl ks vs j y]
    by_cases e : k = j <;> simp [e]
theorem hasK_zip {α : Type} : ∀ (ks : List Key) (vs : List α) (j : Key), ks.length = vs.length → ((ks.zip vs).any fun kv => decide (kv.1 = j)) = hasK ks j
  | [], _, _, _ => by simp [hasK]
  | _ :: _, [], _, h => nomatch h
  | k :: ks, v :: vs, j, h => by
    have := hasK_zip ks vs j (by simpa using h)
    unfold hasK at this ⊢
    simp only [List.zip_cons_cons, List.any_cons, this]
theorem repl_rep {K : KZ} {m : List Addr} {H : Hp} {y : D} {z : V} (r2 : Rep K m H y z) : ∀ {ks : List Key} {ds : List D} {vs : List V} (j : Key), RepL K m H ds vs → RepL K m H (repl ks ds j y) (repl ks vs j z)
  | [], _, _, _, .nil => .nil
  | [], _, _, _, .cons hd r => .cons hd r
  | _ :: _, _, _, _, .nil => .nil
  | k :: ks, _, _, j, .cons hd r => by
    unfold repl
    by_cases e : k = j
    · rw [if_pos e, if_pos e]; exact .cons r2 (repl_rep r2 j r)
    · rw [if_neg e, if_neg e]; exact .cons hd (repl_rep r2 j r)
theorem putDk_zip {ks : List Key} {vs : List V} {j : Key} {z : V} (hl : ks.length = vs.length) : putK (ks.zip vs) j z = (putDk ks vs j z).1.zip (putDk ks vs j z).2 ∧ (putDk ks vs j z).1.length = (putDk ks vs j z).2.length := by
  unfold putK putDk
  rw [hasK_zip ks vs j hl]
  by_cases e : hasK ks j = true
  · rw [if_pos e, if_pos e]
    exact ⟨zip_repl ks vs j z, by rw [repl_len]; exact hl⟩
  · rw [if_neg e, if_neg e]
    refine ⟨?_, by simp [hl]⟩
    rw [List.zip_append hl]
    rfl
theorem putDk_rep {K : KZ} {m : List Addr} {H : Hp} {ks : List Key} {ds : List D} {vs : List V} {y : D} {z : V} (j : Key) (r : RepL K m H ds vs) (r2 : Rep K m H y z) : (putDk ks ds j y).1 = (putDk ks vs j z).1 ∧ RepL K m H (putDk ks ds j y).2 (putDk ks vs j z).2 := by
  unfold putDk
  by_cases e : hasK ks j = true
  · rw [if_pos e, if_pos e]; exact ⟨rfl, repl_rep r2 j r⟩
  · rw [if_neg e, if_neg e]; exact ⟨rfl, r.append (.cons r2 .nil)⟩
def putAll : List Key → List D → List D → Option (List Key × List D)
  | ks, ds, [] => some (ks, ds)
  | ks, ds, .tup [x, y] :: r => (keyOf x).bind fun k => putAll (putDk ks ds k y).1 (putDk ks ds k y).2 r
  | _, _, _ => none
def ePair (a b : EM) : EM := fun ρ => bnd (a ρ) fun x => bnd (b ρ) fun y => ret (.tup [x, y])
noncomputable def eDc (vs : List Nat) (i : IM) (g : GM) (t : TM) (dk de : EM) : EM := fun ρ => bnd (i ρ) fun it => bnd (fun s => if it.l.length < sizeLine then lcL g t (ePair dk de) it.gd s (wipeD ρ vs) it.l s else .stuck) fun l => lift fun s => (putAll [] [] l).map fun p => (.dic p.1 p.2, s)
/-! what was locked on the way is open again -/
def unl {α : Type} (p : Addr) (u : HO) (Q : α → Hp → Prop) (x : α) (H' : Hp) : Prop := (H' p = some u ∧ Q x H') ∨ ∃ od, H' p = some (.frz od u) ∧ Q x (upd H' p u)
def tUnlT (t : TT) : TT := fun σ H Q => ∃ p u, H p = some u ∧ Mut (some u) ∧ t σ H (unl p u Q)
theorem pts_unl {X : Cx} {es : List Expr} {t : TT} (h : PTs X es t) : PTs X es (tUnlT t) := ⟨fun pins s σ H Q I ⟨p, u, hp, mu, q⟩ => thn (h.run pins s σ H _ I q) fun b s1 ⟨H1, I1, c⟩ => by
  rcases c with ⟨_, q⟩ | ⟨od, e2, q⟩
  · exact ⟨H1, I1, q⟩
  · exact ⟨_, I1.unlock e2 (I.nofrz hp mu), q⟩⟩
def tUnlE (t : TE) : TE := fun σ H Q => ∃ p u, H p = some u ∧ Mut (some u) ∧ t σ H (unl p u Q)
theorem pe_unlE {X : Cx} {e : Expr} {t : TE} (h : PE X e t) : PE X e (tUnlE t) := ⟨fun pins s σ H Q I ⟨p, u, hp, mu, q⟩ => thn (h.run pins s σ H _ I q) fun v s1 ⟨x, H1, I1, r, c⟩ => by
  rcases c with ⟨_, q⟩ | ⟨od, e2, q⟩
  · exact ⟨x, H1, I1, r, q⟩
  · exact ⟨x, _, I1.unlock e2 (I.nofrz hp mu), r, q⟩⟩
theorem upd_id {H : Hp} {p : Addr} {o : HO} (h : H p = some o) : upd H p o = H := by
  funext x
  by_cases e : x = p
  · subst e; rw [upd_same, h]
  · rw [upd_ne e]
theorem lk_unl {α : Type} {x : α} {H : Hp} {p : Addr} {kv : List (Key × V)} {Q : α → Hp → Prop} (lk : Lk H p (.dK kv)) (h : Q x (upd H p (.dK kv))) : unl p (.dK kv) Q x H := by
  rcases lk with e | ⟨ob, _, _, e⟩
  · rw [upd_id e] at h
    exact .inl ⟨e, h⟩
  · exact .inr ⟨ob, e, h⟩
section
variable {k : PySem.W.Frag} {z : List Addr} {m m1 : List Addr} {H H1 : Hp} {s : Sto} {p : Addr} {kv : List (Key × V)} {o : HO}
theorem chg_hupdD (hp : Rd H p (.dK kv)) (hz : p ∈ z) : Chg k z m H z m (upd H p o) where
  tup := SqT.of_keep (fun vs e => by rcases rd_no hp e with q | ⟨_, q⟩ <;> cases q) (fun o' vs e => by rcases rd_no hp e with q | ⟨_, q⟩ <;> cases q)
  scr := SqF.of_keep (fun o' vs e => by rcases rd_no hp e with q | ⟨_, q⟩ <;> cases q)
  xd := fun a u k n e => ⟨n, by
    rw [upd_ne (fun q => by subst q; rcases rd_no hp e with q | ⟨_, q⟩ <;> (subst q; exact k))]; exact e⟩
  obj := fun a u n e _ => ⟨n, .inl (by rw [upd_ne (fun q => by subst q; exact n.2 hz)]; exact e)⟩
  loc := fun n a h => h
theorem str_hupdD (S : StR (k, z) m H s) (hp : Rd H p (.dK kv)) (hz : p ∈ z) (nt : NT o := by exact fun _ z => nomatch z) : StR (k, z) m (upd H p o) s := by
  have tb : LamX.Tabs (tbs k) (upd H p o) := by
    rcases hp with hp | ⟨ob, hp⟩
    · exact tabs_upd S.tab hp (fun _ z => nomatch z) (fun _ z => nomatch z)
    · exact tabs_upd S.tab hp (fun _ z => nomatch z) (fun _ z => nomatch z)
  refine ⟨S.len, S.nd, fun d hd => ⟨?_, (S.hid d hd).2⟩, fun n a u h1 h2 => (S.obj n a u h1 h2).chg (chg_hupdD hp hz) fun u q => by
    rw [upd_ne (fun e => by subst e; exact (S.hid _ hz).2 (List.mem_of_getElem? h1))]; exact q, tb⟩
  by_cases e : d = p
  · subst e; exact ⟨o, upd_same, nt⟩
  · obtain ⟨u, e1, e2⟩ := (S.hid d hd).1
    exact ⟨u, by rw [upd_ne e]; exact e1, e2⟩
theorem Ext.hupd (hp : H p = none) (f : Ext m H m1 H1) (nt : NT o := by exact fun _ z => nomatch z) : Ext m H m1 (upd H1 p o) := by
  refine ⟨f.more, fun a u h t n => ?_, fun a h => ?_⟩
  · unfold Lk
    rw [upd_ne (fun e => by subst e; rw [hp] at h; cases h)]
    exact f.keep a u h t n
  · by_cases e : a = p
    · subst e; exact ⟨_, upd_same, nt⟩
    · obtain ⟨u', e1, e2⟩ := f.there a h
      exact ⟨u', by rw [upd_ne e]; exact e1, e2⟩
end
theorem bnd_ok {α β : Type} {m : M α} {f : α → M β} {s s' : Sto} {b : β} (h : bnd m f s = .ok b s') : ∃ a s1, m s = .ok a s1 ∧ f a s1 = .ok b s' := by
  unfold bnd at h
  cases e : m s with
  | ok a s1 => rw [e] at h; exact ⟨a, s1, rfl, h⟩
  | exn x s1 => rw [e] at h; cases h
  | stuck => rw [e] at h; cases h
/-- one turn of a comprehension -/
theorem lcL_turn {g : GM} {t : TM} {e : EM} {gd : Option Nat} {s0 s s' : Sto} {ρ : En} {d : D} {r ys : List D} (h : lcL g t e gd s0 ρ (d :: r) s = .ok ys s') :
    ∃ ρ1 b s1, g d ρ = some ρ1 ∧ t ρ1 s = .ok b s1 ∧ ((b = false ∧ (∀ n, gd = some n → s1[n]? = s0[n]?) ∧ lcL g t e gd s0 ρ r s1 = .ok ys s') ∨
      (b = true ∧ ∃ y s2 zs, e ρ1 s1 = .ok y s2 ∧ (∀ n, gd = some n → s2[n]? = s0[n]?) ∧ lcL g t e gd s0 ρ r s2 = .ok zs s' ∧ ys = y :: zs)) := by
  unfold lcL at h
  cases e1 : g d ρ with
  | none => simp only [e1] at h; cases h
  | some ρ1 =>
    simp only [e1] at h
    cases e2 : t ρ1 s with
    | stuck => simp only [e2] at h; cases h
    | exn x s1 => simp only [e2] at h; cases h
    | ok b s1 =>
      simp only [e2] at h
      refine ⟨ρ1, b, s1, rfl, e2, ?_⟩
      cases b with
      | false =>
        simp only at h
        by_cases c : ∀ n, gd = some n → s1[n]? = s0[n]?
        · rw [if_pos c] at h; exact .inl ⟨rfl, c, h⟩
        · rw [if_neg c] at h; cases h
      | true =>
        simp only at h
        cases e3 : e ρ1 s1 with
        | stuck => simp only [e3] at h; cases h
        | exn x s2 => simp only [e3] at h; cases h
        | ok y s2 =>
          simp only [e3] at h
          by_cases c : ∀ n, gd = some n → s2[n]? = s0[n]?
          · rw [if_pos c] at h
            obtain ⟨zs, s3, q1, q2⟩ := bnd_ok h
            cases q2
            exact .inr ⟨rfl, y, s2, zs, rfl, c, q1, rfl⟩
          · rw [if_neg c] at h; cases h
theorem putAll_cons {ks : List Key} {ds : List D} {x y : D} {r : List D} {p : List Key × List D} (h : putAll ks ds (.tup [x, y] :: r) = some p) : ∃ k, keyOf x = some k ∧ putAll (putDk ks ds k y).1 (putDk ks ds k y).2 r = some p := by
  unfold putAll at h
  exact Option.bind_eq_some_iff.mp h
theorem dc_read {k : PySem.W.Frag} {zz : List Addr} {W : WX} {di : IM} {g : GM} {dt : TM} {dk de : EM} {vs : List Nat} {σ : St} {H : Hp} {Q : VK}
    (h : tE (k, zz) W (eDc vs di g dt dk de) σ H Q) : tDc (iS (k, zz) W di) (gSz vs k g) (tUnlT (tTz k dt)) (tUnlE (tEz k dk)) (tUnlE (tEz k de)) vs σ H Q := by
  obtain ⟨m, ρ, s, hE, hS, hG⟩ := h
  refine ⟨m, ρ, s, hE, hS, ?_⟩
  unfold eDc at hG
  have hb := Good.bind (rel := fun _ _ (a b : Items) => True) (β := Items) hG
  cases e0 : di ρ s with
  | stuck => rw [e0] at hb; exact hb
  | exn x s1 => rw [e0] at hb; exact hb
  | ok it s1 =>
    rw [e0] at hb
    intro m1 H1 J e1 S1 w D hD
    clear hb
    unfold bnd at hG
    rw [e0] at hG
    simp only at hG
    by_cases hsz : it.l.length < sizeLine
    · rw [if_pos hsz] at hG
      have E1 : EnR (k, zz) m1 H1 ρ σ := hE.ext hS.noTup e1
      have nD : D ∉ m1 ∧ D ∉ zz := fresh_notin S1 hD
      have hz0 : D ∈ D :: zz := List.mem_cons_self
      refine ⟨fun i n Hi => n = it.l.length - i ∧ i ≤ it.l.length ∧ ∃ m2 s2 ks ds us, Ext m1 H1 m2 Hi ∧ Hi D = some (.dK (ks.zip us)) ∧ ks.length = us.length ∧ us.length ≤ i ∧ RepL (k, D :: zz) m2 Hi ds us ∧ StR (k, D :: zz) m2 Hi s2 ∧ (∀ n, it.gd = some n → s2[n]? = s1[n]?) ∧
          ∃ rest s3 p, lcL g dt (ePair dk de) it.gd s1 (wipeD ρ vs) (it.l.drop i) s2 = .ok rest s3 ∧ putAll ks ds rest = some p ∧ GoodV (k, zz) m H Q (some (.dic p.1 p.2, s3)), ?_, ?_⟩
      · cases e2 : lcL g dt (ePair dk de) it.gd s1 (wipeD ρ vs) it.l s1 with
        | stuck => rw [e2] at hG; exact hG.elim
        | exn x s3 => exact absurd e2 (lcL_noexn _ _ _ _)
        | ok rest s3 =>
          rw [e2] at hG
          have hG := hG.lift
          cases e3 : putAll [] [] rest with
          | none => simp only [e3, Option.map_none] at hG; exact hG.elim
          | some p =>
            simp only [e3, Option.map_some] at hG
            exact ⟨_, rfl, Nat.zero_le _, m1, s1, [], [], [], Ext.same (same_upd hD), upd_same, rfl, Nat.zero_le _, .nil, str_hide S1 hD, fun _ _ => rfl, rest, s3, p, by simpa using e2, e3, hG⟩
      · rintro i n H2 ⟨rfl, hi, m2, s2, ks, ds, us, f2, hDl, hal, hul, rds, S2, gd2, rest, s3, p, er, ep, G⟩
        obtain ⟨go, stop, yld⟩ := w (D :: zz) m2 H2 s2 (fun p hp => by
          rcases List.mem_cons.mp hp with hp | hp
          · exact .inr (by rw [hp]; exact hD)
          · exact .inl hp) f2 S2 gd2
        by_cases hlt : i < it.l.length
        · refine .inr ⟨go i hlt, fun H' => i + 1 ≤ it.l.length ∧ ∃ m2 s2 ks ds us, Ext m1 H1 m2 H' ∧ H' D = some (.dK (ks.zip us)) ∧ ks.length = us.length ∧ us.length ≤ i + 1 ∧ RepL (k, D :: zz) m2 H' ds us ∧ StR (k, D :: zz) m2 H' s2 ∧ (∀ n, it.gd = some n → s2[n]? = s1[n]?) ∧
              ∃ rest s3 p, lcL g dt (ePair dk de) it.gd s1 (wipeD ρ vs) (it.l.drop (i + 1)) s2 = .ok rest s3 ∧ putAll ks ds rest = some p ∧ GoodV (k, zz) m H Q (some (.dic p.1 p.2, s3)),
            fun H' ⟨hl, q⟩ => ⟨it.l.length - (i + 1), by omega, rfl, hl, q⟩, fun x H3 hy => ?_⟩
          obtain ⟨sm, rx⟩ := yld i it.l[i] x H3 (List.getElem?_eq_getElem hlt) hy
          have f3 : Ext m2 H2 m2 H3 := Ext.same sm
          have hD3 : H3 D = some (.dK (ks.zip us)) := sm _ _ hDl
          have S3 := S2.same sm
          rw [List.drop_eq_getElem_cons hlt] at er
          have EW : EnR (k, D :: zz) m2 H3 (wipeD ρ vs) (wipe σ vs) := ((E1.chg (chg_ext S1.noTup (fun p hp => by
            rcases List.mem_cons.mp hp with hp | hp
            · exact .inr (by rw [hp]; exact hD)
            · exact .inl hp) (f2.trans f3))).wipe vs)
          obtain ⟨ρ1, b, s4, eg, et, ec⟩ := lcL_turn er
          refine ⟨D :: zz, m2, wipeD ρ vs, it.l[i], ρ1, EW, rx, eg, fun σ1 E3 hwp => ⟨hwp.trans wipe_wipe, D, .dK (ks.zip us), hD3, True.intro, D :: zz, m2, ρ1, s2, E3, S3, ?_⟩⟩
          rw [et]
          intro m4 H4' b' f4 S4' eb
          subst eb
          have lk4 := f4.keep D _ hD3 (fun _ z => nomatch z) (S3.hid D hz0).2
          have C4 : Chg k (D :: zz) m4 H4' (D :: zz) m4 (upd H4' D (.dK (ks.zip us))) := chg_hupdD lk4.rd hz0
          have S4 := str_hupdD (o := .dK (ks.zip us)) S4' lk4.rd hz0
          have rds4 : RepL (k, D :: zz) m4 _ ds us := RepL.chg C4 (RepL.ext S3.noTup f4 (RepL.ext S2.noTup f3 rds))
          have F4 : Ext m1 H1 m4 (upd H4' D (.dK (ks.zip us))) := Ext.hupd hD (f2.trans (f3.trans f4))
          have E4 := (E3.ext S3.noTup f4).chg C4
          refine lk_unl lk4 ?_
          generalize hH4 : upd H4' D (.dK (ks.zip us)) = H4 at C4 S4 rds4 F4 E4 ⊢
          have hD4 : H4 D = some (.dK (ks.zip us)) := by rw [← hH4]; exact upd_same
          rcases ec with ⟨rfl, c, er⟩ | ⟨rfl, y, s6, rest', ee, c, er6, rfl⟩
          · simp only [Bool.false_eq_true, if_false]
            exact ⟨hlt, m4, s4, ks, ds, us, F4, hD4, hal, by omega, rds4, S4, c, rest, s3, p, er, ep, G⟩
          · simp only [if_true]
            obtain ⟨xk, s5, ee1, ee2⟩ := bnd_ok ee
            obtain ⟨xv, s6', ee3, ee4⟩ := bnd_ok ee2
            cases ee4
            obtain ⟨kk, hk, ep⟩ := putAll_cons ep
            refine ⟨D, .dK (ks.zip us), hD4, True.intro, D :: zz, m4, ρ1, s4, E4, S4, ?_⟩
            rw [ee1]
            intro m5 H5' u f5 S5' rk
            have lk5 := f5.keep D _ hD4 (fun _ z => nomatch z) (S4.hid D hz0).2
            have C5 : Chg k (D :: zz) m5 H5' (D :: zz) m5 (upd H5' D (.dK (ks.zip us))) := chg_hupdD lk5.rd hz0
            have S5 := str_hupdD (o := .dK (ks.zip us)) S5' lk5.rd hz0
            have rds5 : RepL (k, D :: zz) m5 _ ds us := RepL.chg C5 (RepL.ext S4.noTup f5 rds4)
            have F5 : Ext m1 H1 m5 (upd H5' D (.dK (ks.zip us))) := Ext.hupd hD (F4.trans f5)
            have E5 := (E4.ext S4.noTup f5).chg C5
            have ek := keyOf_at rk hk
            refine lk_unl lk5 ?_
            generalize hH5 : upd H5' D (.dK (ks.zip us)) = H5 at C5 S5 rds5 F5 E5 ⊢
            have hD5 : H5 D = some (.dK (ks.zip us)) := by rw [← hH5]; exact upd_same
            refine ⟨D, .dK (ks.zip us), hD5, True.intro, D :: zz, m5, ρ1, s5, E5, S5, ?_⟩
            rw [ee3]
            intro m6 H6' u2 f6 S6' rv
            have lk6 := f6.keep D _ hD5 (fun _ z => nomatch z) (S5.hid D hz0).2
            have C6 : Chg k (D :: zz) m6 H6' (D :: zz) m6 (upd H6' D (.dK (ks.zip us))) := chg_hupdD lk6.rd hz0
            have S6 := str_hupdD (o := .dK (ks.zip us)) S6' lk6.rd hz0
            have rds6 : RepL (k, D :: zz) m6 _ ds us := RepL.chg C6 (RepL.ext S5.noTup f6 rds5)
            have F6 : Ext m1 H1 m6 (upd H6' D (.dK (ks.zip us))) := Ext.hupd hD (F5.trans f6)
            have rv6 := rv.chg C6
            refine lk_unl lk6 ?_
            generalize hH6 : upd H6' D (.dK (ks.zip us)) = H6 at C6 S6 rds6 F6 rv6 ⊢
            have hD6 : H6 D = some (.dK (ks.zip us)) := by rw [← hH6]; exact upd_same
            refine ⟨ks.zip us, kk, ek, hD6, ?_, ?_⟩
            · rw [List.length_zip, hal, Nat.min_self]; omega
            · have C7 : Chg k (D :: zz) m6 H6 (D :: zz) m6 (upd H6 D (.dK (putK (ks.zip us) kk u2))) := chg_hupdD (.inl hD6) hz0
              have pz := putDk_zip (j := kk) (z := u2) hal
              have pr := putDk_rep (ks := ks) kk (RepL.chg C7 rds6) (rv6.chg C7)
              have pl : (putDk ks us kk u2).2.length ≤ us.length + 1 := by
                unfold putDk
                by_cases e : hasK ks kk = true
                · rw [if_pos e]; simp [repl_len]
                · rw [if_neg e]; simp
              refine ⟨hlt, m6, s6, (putDk ks ds kk xv).1, (putDk ks ds kk xv).2, (putDk ks us kk u2).2, Ext.hupd hD F6, ?_, ?_, by omega, pr.2, str_hupdD S6 (.inl hD6) hz0, c, rest', s3, p, er6, ep, G⟩
              · rw [upd_same, pz.1, pr.1]
              · rw [pr.1]; exact pz.2
        · have ei : i = it.l.length := by omega
          subst ei
          refine .inl ⟨stop, ?_⟩
          rw [List.drop_length] at er
          unfold lcL at er
          cases er
          cases ep
          exact G m2 H2 _ (e1.trans f2) (str_show S2) (.dic ⟨(S2.hid D hz0).2, nD.2⟩ hal (.inl hDl) (RepL.chg chg_show rds))
    · rw [if_neg hsz] at hG; exact hG.elim
section
variable {zz : List Addr} {X : Cx} {W : WX} {ke ve tg iter : Expr} {ifs : List Expr} {scope : Scope} {pos spos : Pos} {di : IM} {g : GM} {dt : TM} {dk de : EM}
theorem se_dc (own : List (Str × Nat)) (hN : X.N.Nodup) (hi : PI X tg iter (iS (X.K, zz) W di)) (ok : BlkOk X.N X.env.scope scope own)
    (hg : Blk X scope fun Y => ∀ zz, PG Y tg (gSw (own.map (·.2)) (Y.K, zz) g)) (ht : Blk X scope fun Y => ∀ zz, PTs Y ifs (tT (Y.K, zz) W0 dt)) (hk : Blk X scope fun Y => ∀ zz, PE Y ke (tE (Y.K, zz) W0 dk)) (he : Blk X scope fun Y => ∀ zz, PE Y ve (tE (Y.K, zz) W0 de)) (hc : X.calm = true := by rfl) (hs : ∀ x, foldedSetIterable iter X.env x = pure x := by intro _; rfl) :
    PE X (.DictComp ke ve [⟨tg, iter, ifs, 0⟩] scope pos) (tE (X.K, zz) W (eDc (own.map (·.2)) di g dt dk de)) :=
  PE.imp (pe_dc hc hN hi ok (fun s H C cl fp => PG.anyz (hg s H C cl fp)) (fun s H C cl fp => pts_unl (PTs.anyz (ht s H C cl fp))) (fun s H C cl fp => pe_unlE (PE.anyz (hk s H C cl fp))) (fun s H C cl fp => pe_unlE (PE.anyz (he s H C cl fp))) hs) fun _ _ _ h => dc_read h
@[simp] theorem wp_eDc {vs : List Nat} {i : IM} {ρ : En} {s : Sto} {Q : D → Sto → Prop} {E : Ex → Sto → Prop} : wp (eDc vs i g dt dk de ρ s) Q E = wp (i ρ s) (fun it s1 => it.l.length < sizeLine ∧ wp (lcL g dt (ePair dk de) it.gd s1 (wipeD ρ vs) it.l s1) (fun l s2 => wpv ((putAll [] [] l).map fun p => (D.dic p.1 p.2, s2)) Q) E) E := by
  unfold eDc
  rw [wp_bnd]
  congr 1
  funext it s1
  rw [wp_bnd]
  by_cases c : it.l.length < sizeLine
  · simp [c]
  · simp [c]
@[simp] theorem wp_ePair {ρ : En} {s : Sto} {Q : D → Sto → Prop} {E : Ex → Sto → Prop} : wp (ePair dk de ρ s) Q E = wp (dk ρ s) (fun x s1 => wp (de ρ s1) (fun y s2 => Q (.tup [x, y]) s2) E) E := by
  unfold ePair
  simp
end
end QS
end

section
set_option Elab.async false
set_option linter.all false
set_option maxRecDepth 100000
set_option maxHeartbeats 4000000
/-! QS43: d[k] = v; == of two dicts. -/
namespace QS
open PySem PySem.Spec PyProof.Rows L2 TL
def gStD : D → D → D → Sto → Option Sto := fun o i v s => match o with
  | .loc n => (match s[n]? with
    | some (.dic ks ds) => (keyOf i).bind fun k => if ks.length < sizeLine then some (s.set n (.dic (putDk ks ds k v).1 (putDk ks ds k v).2)) else none
    | _ => none)
  | _ => none
section
variable {X : Cx} {zz : List Addr}
theorem t_dict {kk : Nat} (hr : RoomG kk X.A) : PSet X (rSt (X.K, zz) gStD) := by
  intro pins s σ H o i v ov iv u Q I ro ri rv ⟨m, x, y, d, st, st', S, hx, hy, hd, hg, hQ⟩
  cases hx with
  | @loc n a e =>
    have hg : (match st[n]? with
      | some (.dic ks ds) => (keyOf y).bind fun k => if ks.length < sizeLine then some (st.set n (.dic (putDk ks ds k d).1 (putDk ks ds k d).2)) else none
      | _ => none) = some st' := hg
    cases z : st[n]? with
    | none => rw [z] at hg; cases hg
    | some oo =>
      rw [z] at hg
      cases oo with
      | dic ks ds =>
        obtain ⟨k, h1, h2⟩ := Option.bind_eq_some_iff.mp (show ((keyOf y).bind fun k => if ks.length < sizeLine then some (st.set n (.dic (putDk ks ds k d).1 (putDk ks ds k d).2)) else none) = some st' from hg)
        by_cases c : ks.length < sizeLine
        · rw [if_pos c] at h2
          cases h2
          obtain ⟨vs, hl, e1, q⟩ := S.obj n a _ e z
          cases ro
          have hu := hr.un
          have pz := putDk_zip (j := k) (z := v) hl
          have hz : (ks.zip vs).length < sizeLine := by rw [List.length_zip, ← hl, Nat.min_self]; exact c
          refine d_setItem (by omega) I (.inl ⟨ks.zip vs, k, e1, keyOf_at hy h1, hz, rfl⟩) ri rv fun s' I' => ⟨_, I', hQ m _ (Ext.write e S.noTup) (S.write e ⟨(putDk ks vs k v).2, ?_, ?_, ?_⟩)⟩
          · rw [(putDk_rep k q hd).1]; exact pz.2
          · rw [upd_same, pz.1, (putDk_rep k q hd).1]
          · have E := Ext.write (o := .dK (putK (ks.zip vs) k v)) e S.noTup
            exact (putDk_rep k (RepL.ext S.noTup E q) (hd.ext S.noTup E)).2
        · rw [if_neg c] at h2; cases h2
      | _ => cases hg
  | _ => cases hg
end
/-! ### equality -/
def dHits (ks2 : List Key) (ps2 : List PyData) : List Key → List PyData → Bool
  | k :: ks, p :: ps => match valD ks2 ps2 k with
    | none => false
    | some q => PyData.eqv p q && dHits ks2 ps2 ks ps
  | _, _ => true
def gEqDF (f : Bool → Bool) : D → D → V1 D := fun x y s => (dicOf s x).bind fun p => (dicOf s y).bind fun q => (dat0L p.2).bind fun a => (dat0L q.2).bind fun b =>
  if a.all SeqAt.shaped = true ∧ b.all SeqAt.shaped = true then some (.bl (f (p.1.length == q.1.length && dHits q.1 b p.1 a)), s) else none
def gEqDc : D → D → V1 D := gEqDF id
def gNeDc : D → D → V1 D := gEqDF not
section
variable {X : Cx} {zz : List Addr} {pins : List (Addr × Obj)} {σ : St} {H : Hp} {s : Shared}
theorem val_rel (I : Inv X pins σ H s) : ∀ {ks : List Key} {us : List V} {bs : List PyData} {vb : List (Key × Value)} (k : Key), DpAll X.K H us bs → KV (ks.zip us) vb → ks.length = us.length → bs.all SeqAt.shaped = true →
    (valueAt vb k = none ∧ valD ks bs k = none) ∨ ∃ y q v, valueAt vb k = some y ∧ valD ks bs k = some q ∧ RelV v y ∧ Dp X.K H v q ∧ SeqAt.shaped q = true
  | [], us, bs, _, k, h, r, hl, _ => by
    have e : ([] : List Key).zip us = [] := by simp
    rw [e] at r
    cases r
    exact .inl ⟨rfl, rfl⟩
  | _ :: _, [], _, _, _, _, _, hl, _ => nomatch hl
  | j :: ks, u :: us, _, _, k, .cons hd h, .cons r0 r, hl, hs => by
    rename_i q bs p vb
    rw [List.all_cons, Bool.and_eq_true] at hs
    obtain ⟨e1, e2⟩ := r0
    obtain ⟨pk, pv⟩ := p
    have e1 : j = pk := e1
    subst e1
    by_cases e : j = k
    · exact .inr ⟨pv, q, u, by simp [valueAt, e], by simp [valD, e], e2, hd, hs.1⟩
    · have a1 : valueAt ((j, pv) :: vb) k = valueAt vb k := by simp [valueAt, e]
      have a2 : valD (j :: ks) (q :: bs) k = valD ks bs k := by simp [valD, e]
      rw [a1, a2]
      exact val_rel I k h r (by simpa using hl) hs.2
theorem hits_rel {A : Around} (I : Inv X pins σ H s) (hu : A.units + 64 < cLine) {ks2 : List Key} {bs : List PyData} {vb : List (Key × Value)}
    (hv : ∀ k, (valueAt vb k = none ∧ valD ks2 bs k = none) ∨ ∃ y q v, valueAt vb k = some y ∧ valD ks2 bs k = some q ∧ RelV v y ∧ Dp X.K H v q ∧ SeqAt.shaped q = true) :
    ∀ {ks : List Key} {us : List V} {as : List PyData} {va : List (Key × Value)}, DpAll X.K H us as → KV (ks.zip us) va → ks.length = us.length → as.all SeqAt.shaped = true → PySem.W.KeqHits A s vb va (dHits ks2 bs ks as)
  | [], us, as, _, h, r, hl, _ => by
    have e : ([] : List Key).zip us = [] := by simp
    rw [e] at r
    cases r
    have e2 : dHits ks2 bs [] as = true := by cases as <;> rfl
    rw [e2]
    exact .nil
  | _ :: _, [], _, _, _, _, hl, _ => nomatch hl
  | j :: ks, u :: us, _, _, .cons hd h, .cons r0 r, hl, hs => by
    rename_i p as q va
    rw [List.all_cons, Bool.and_eq_true] at hs
    obtain ⟨e1, e2⟩ := r0
    obtain ⟨pk, pv⟩ := q
    have e1 : j = pk := e1
    subst e1
    have ih := hits_rel I hu hv h r (by simpa using hl) hs.2
    rcases hv j with ⟨h1, h2⟩ | ⟨y, q, v, h1, h2, h3, h4, h5⟩
    · have e3 : dHits ks2 bs (j :: ks) (p :: as) = false := by simp only [dHits, h2]
      rw [e3]
      exact .miss h1
    · have e3 : dHits ks2 bs (j :: ks) (p :: as) = (PyData.eqv p q && dHits ks2 bs ks as) := by simp only [dHits, h2]
      rw [e3]
      obtain ⟨xs, r1⟩ := Dp.reads I p u pv hd e2
      obtain ⟨ys, r2⟩ := Dp.reads I q v y h4 h3
      exact .hit h1 (SeqAt.eqAt_reads p q A s pv y xs ys r1 r2 (SeqAt.canLay_of_shaped hs.1) (SeqAt.canLay_of_shaped h5) (SeqAt.room_of_shaped hs.1 hu)) ih
theorem gEqDF_at {f : Bool → Bool} {x y : V} {Q : VK} (h : r2 (X.K, zz) (gEqDF f) x y H Q) : ∃ a b ks us as ls ws bs, x = .ref a ∧ y = .ref b ∧ Rd H a (.dK (ks.zip us)) ∧ Rd H b (.dK (ls.zip ws)) ∧ ks.length = us.length ∧ ls.length = ws.length ∧ DpAll X.K H us as ∧ DpAll X.K H ws bs ∧ as.all SeqAt.shaped = true ∧ bs.all SeqAt.shaped = true ∧ Q (.bl (f (ks.length == ls.length && dHits ls bs ks as))) H := by
  obtain ⟨m, d, e, st, S, hd, he, hG⟩ := h
  unfold gEqDF at hG
  cases h1 : dicOf st d with
  | none => rw [h1] at hG; exact hG.elim
  | some p =>
    cases h2 : dicOf st e with
    | none => simp only [h1, h2, Option.bind_some, Option.bind_none] at hG; exact hG.elim
    | some q =>
      cases h3 : dat0L p.2 with
      | none => simp only [h1, h2, h3, Option.bind_some, Option.bind_none] at hG; exact hG.elim
      | some a =>
        cases h4 : dat0L q.2 with
        | none => simp only [h1, h2, h3, h4, Option.bind_some, Option.bind_none] at hG; exact hG.elim
        | some b =>
          simp only [h1, h2, h3, h4, Option.bind_some] at hG
          by_cases c : a.all SeqAt.shaped = true ∧ b.all SeqAt.shaped = true
          · rw [if_pos c] at hG
            obtain ⟨ks, ds⟩ := p
            obtain ⟨ls, es⟩ := q
            obtain ⟨aa, us, rfl, l1, e1, q1⟩ := dicOf_at S hd h1
            obtain ⟨ab, ws, rfl, l2, e2, q2⟩ := dicOf_at S he h2
            exact ⟨aa, ab, ks, us, a, ls, ws, b, rfl, rfl, e1, e2, l1, l2, dat0L_at q1 h3, dat0L_at q2 h4, c.1, c.2, hG.here S (.bl _)⟩
          · rw [if_neg c] at hG; exact hG.elim
theorem o_eqDc {kk : Nat} (hr : RoomG kk X.A) : OpR X (compareOp .Eq) (r2 (X.K, zz) gEqDc) := fun pins s σ H x y v u Q I rx ry h => by
  obtain ⟨a, b, ks, us, as, ls, ws, bs, rfl, rfl, e1, e2, l1, l2, d1, d2, s1, s2, q⟩ := gEqDF_at h
  cases rx
  cases ry
  obtain ⟨_, ya, va, ra, da⟩ := dk_rd I.hok e1
  obtain ⟨_, yb, vb, rb, db⟩ := dk_rd I.hok e2
  have hu := hr.un
  have h1 : va.length = ks.length := by rw [← ra.length, List.length_zip, ← l1, Nat.min_self]
  have h2 : vb.length = ls.length := by rw [← rb.length, List.length_zip, ← l2, Nat.min_self]
  refine PySem.W.keq_eq (knd := mixKind X.prog X.w) (r := dHits ls bs ks as) ya yb da db (by omega) (fun _ => hits_rel I (by show X.A.units + 1 + 64 < cLine; omega) (fun k => val_rel I k d2 rb l2 s2) d1 ra l1 s1) ?_
  rw [h1, h2]
  exact ⟨.bl _, H, I, rfl, q⟩
theorem o_neDc {kk : Nat} (hr : RoomG kk X.A) : OpR X (compareOp .NotEq) (r2 (X.K, zz) gNeDc) := fun pins s σ H x y v u Q I rx ry h => by
  obtain ⟨a, b, ks, us, as, ls, ws, bs, rfl, rfl, e1, e2, l1, l2, d1, d2, s1, s2, q⟩ := gEqDF_at h
  cases rx
  cases ry
  obtain ⟨_, ya, va, ra, da⟩ := dk_rd I.hok e1
  obtain ⟨_, yb, vb, rb, db⟩ := dk_rd I.hok e2
  have hu := hr.un
  have h1 : va.length = ks.length := by rw [← ra.length, List.length_zip, ← l1, Nat.min_self]
  have h2 : vb.length = ls.length := by rw [← rb.length, List.length_zip, ← l2, Nat.min_self]
  refine PySem.W.keq_ne (knd := mixKind X.prog X.w) (r := dHits ls bs ks as) ya yb da db (by omega) (fun _ => hits_rel I (by show X.A.units + 1 + 64 < cLine; omega) (fun k => val_rel I k d2 rb l2 s2) d1 ra l1 s1) ?_
  rw [h1, h2]
  exact ⟨.bl _, H, I, rfl, q⟩
end
end QS
end

section
set_option Elab.async false
set_option linter.all false
set_option maxRecDepth 100000
set_option maxHeartbeats 4000000
/-! QS44: dict of a list of pairs; list(d.values()). -/
namespace QS
open PySem PySem.Spec PyProof.Rows L2 TL
def gDictP (mu : Bool) : List D → V1 D := fun xs s => match xs with
  | [x] => (lstOf s x).bind fun l => (putAll [] [] l).bind fun p => newD mu p.1 p.2 s
  | _ => none
theorem putAll_at {K : KZ} {m : List Addr} {H : Hp} : ∀ {l : List D} {vs : List V} {ks : List Key} {ds : List D} {p : List Key × List D}, RepL K m H l vs → putAll ks ds l = some p →
    ∃ (ps : List Addr) (kvs : List (Key × V)), vs = ps.map V.ref ∧ Paired (fun p kv => SqT K.1 H p [kV kv.1, kv.2]) ps kvs ∧ ∀ us, ks.length = us.length → RepL K m H ds us → ∃ us', mergeK (ks.zip us) kvs = p.1.zip us' ∧ p.1.length = us'.length ∧ RepL K m H p.2 us'
  | [], _, ks, ds, p, .nil, h => by
    cases h
    exact ⟨[], [], rfl, .nil, fun us hl r => ⟨us, rfl, hl, r⟩⟩
  | d :: l, _, ks, ds, p, .cons (v := v) hd r, h => by
    have hx : ∃ x y, d = .tup [x, y] := by
      unfold putAll at h
      split at h
      · rename_i e; cases e
      · rename_i x y _ e; cases e; exact ⟨x, y, rfl⟩
      · cases h
    obtain ⟨x, y, rfl⟩ := hx
    obtain ⟨k, h1, h2⟩ := putAll_cons h
    cases hd with
    | @tup a _ ws e q =>
      cases q with
      | cons qx q =>
        rename_i vx ws
        cases q with
        | cons qy q =>
          rename_i vy ws
          cases q
          obtain ⟨ps, kvs, rfl, h4, h5⟩ := putAll_at r h2
          have ek := keyOf_at qx h1
          subst ek
          refine ⟨a :: ps, (k, vy) :: kvs, rfl, .cons e h4, fun us hl rr => ?_⟩
          have pz := putDk_zip (j := k) (z := vy) hl
          have pr := putDk_rep (ks := ks) k rr qy
          obtain ⟨us', a1, a2, a3⟩ := h5 (putDk ks us k vy).2 (by rw [pr.1]; exact pz.2) pr.2
          refine ⟨us', ?_, a2, a3⟩
          show mergeK (putK (ks.zip us) k vy) kvs = _
          rw [pz.1, ← pr.1]
          exact a1
section
variable {X : Cx} {zz : List Addr}
theorem c_dictP {mu : Bool} (hc : X.calm = true := by rfl) : CallR X (.type "dict") (rL (X.K, zz) (gDictP mu)) := by
  intro pins s σ H xs us Q I r h
  obtain ⟨m, ds, st, S, rr, hG⟩ := h
  rcases two_or rr with rfl | ⟨d, v, rfl, rfl, hd⟩ | ⟨d, e, v, u, rfl, rfl, hd, he⟩ | ⟨a, b, c, l, rfl⟩
  · exact hG.elim
  · have hG : GoodV (X.K, zz) m H Q ((lstOf st d).bind fun l => (putAll [] [] l).bind fun p => newD mu p.1 p.2 st) := hG
    cases h1 : lstOf st d with
    | none => rw [h1] at hG; exact hG.elim
    | some l =>
      rw [h1] at hG
      cases h2 : putAll [] [] l with
      | none => simp only [Option.bind_some, h2, Option.bind_none] at hG; exact hG.elim
      | some p =>
        simp only [Option.bind_some, h2] at hG
        obtain ⟨a, vs, rfl, e1, q1⟩ := lstOf_at S hd h1
        obtain ⟨ps, kvs, rfl, h4, h5⟩ := putAll_at q1 h2
        obtain ⟨us', a1, a2, a3⟩ := h5 [] rfl .nil
        have a1 : mergeK [] kvs = p.1.zip us' := a1
        refine call_dictP hc pins s σ H _ us Q I r ⟨a, ps, kvs, rfl, e1, h4, fun p' hp => ?_⟩
        rw [a1]
        exact newD_ok S a3 a2 hG p' hp
  · exact hG.elim
  · exact hG.elim
/-! list(d.values()) -/
def valuesO (p d : Addr) : HO := .ext fun h => h.IsValuesView p d
theorem valuesO_ok {P : Program} {w : World} {H : Hp} {h : Heap} {p d : Addr} (e : h.get? p = some { cls := .type "dict_values", data := .fields #[.ref d] }) : ObjOk P w H h p (valuesO p d) :=
  ⟨⟨_, e, rfl, rfl⟩, ⟨_, e⟩, fun h1 h2 x k => let ⟨o, ho, r⟩ := x; ⟨o, k o ho, r⟩⟩
def rVals : V → List V → Hp → VK → Prop := fun x xs H Q => ∃ (a : Addr) (kvs : List (Key × V)), x = .ref a ∧ xs = [] ∧ Rd H a (.dK kvs) ∧ ∀ p, H p = none → Q (.ref p) (upd H p (valuesO p a))
theorem mt_vals : MtR X "dict.values" rVals := by
  intro pins s σ H x xs v us Q I rx rxs h
  obtain ⟨a, kvs, rfl, rfl, ha, q⟩ := h
  cases rx
  cases rxs
  obtain ⟨z, hd, vs, rel, dd⟩ := dk_rd I.hok ha
  refine call_meetsIn PySem.F.slot_dict_values dd.typeIs PySem.F.entry_dict_values (PySem.F.args_dict_values_1 _) (meets_dict_values (mixKind X.prog X.w) a hd) ⟨⟨vs, dd⟩, ?_⟩
  have hf : H s.heap.objs.size = none := I.hok.fresh (Nat.le_refl _)
  exact ⟨.ref s.heap.objs.size, upd H s.heap.objs.size (valuesO s.heap.objs.size a), I.laid (t' := s.toks) (fun b u e => Heap.get?_push_of_some _ e) (Nat.le_refl _) (valuesO_ok (Heap.get?_push_size _ rfl)), rfl, q _ hf⟩
def rListV : List V → Hp → VK → Prop := fun xs H Q => ∃ (p a : Addr) (kvs : List (Key × V)), xs = [.ref p] ∧ H p = some (valuesO p a) ∧ Rd H a (.dK kvs) ∧ ∀ q, H q = none → Q (.ref q) (upd H q (.lst (kvs.map (·.2))))
theorem KV.vals {kvs : List (Key × V)} {vs : List (Key × Value)} (r : KV kvs vs) : Vals (kvs.map (·.2)) (vs.map (·.2)) := by
  induction r with
  | nil => exact .nil
  | cons h t ih => exact .cons h.2 ih
theorem cr_listV (hcalm : X.calm = true) : CallR X (.type "list") rListV := by
  intro pins s σ H xs us Q I r q
  obtain ⟨p, a, kvs, ex, hp, hd, q⟩ := q
  subst ex
  obtain ⟨u, eu, rx⟩ := vals1 r
  subst eu
  cases rx
  obtain ⟨z, lo, vs, rel, dd⟩ := dk_rd I.hok hd
  obtain ⟨ep, hat⟩ := dd.dictAt
  have hv : s.heap.IsValuesView p a := (show ObjOk X.prog X.w H s.heap p (valuesO p a) from I.hok p _ hp).1
  refine PySem.W.kdl_call (PySem.W.kdl_values (knd := mixKind X.prog X.w) (kvs := vs) (ep := ep)) (I.ok.hd hcalm) ⟨hv, hat⟩ (by rw [← rel.length]; exact z) fun h' tk acc c' hk hD hacc => ?_
  have ev : acc.toList = vs.map (·.2) := PySem.W.kdl_vals_eq acc.toList (by rw [Array.length_toList]; exact hacc.1) fun j v e => hacc.2 j v (by rw [← Array.getElem?_toList]; exact e)
  refine ⟨.ref s.heap.objs.size, upd H s.heap.objs.size (.lst (kvs.map (·.2))), I.laid (t' := tk) hk (Nat.le_refl _)
    (show ObjOk X.prog X.w _ _ _ (.lst (kvs.map (·.2))) from ⟨by rw [List.length_map]; exact z, acc.toList, c', by rw [ev]; exact KV.vals rel, by rw [Array.toArray_toList]; exact hD⟩), rfl, q _ (I.hok.fresh (Nat.le_refl _))⟩
def gVals (mu : Bool) : D → V1 D := fun x s => (dicOf s x).bind fun p => new mu p.2 s
theorem fin_vals {m : List Addr} {H1 : Hp} {s : Sto} {ds : List D} {vs : List V} {Q : VK} {b a c : Addr} {mu : Bool} (S : StR (X.K, zz) m H1 s) (r : RepL (X.K, zz) m H1 ds vs) (hb : H1 b = none) (hG : GoodV (X.K, zz) m H1 Q (new mu ds s)) (hc : upd H1 b (valuesO b a) c = none) : Q (.ref c) (upd (upd H1 b (valuesO b a)) c (.lst vs)) := by
  have sm : Same H1 (upd H1 b (valuesO b a)) := same_upd hb
  have hG2 : GoodV (X.K, zz) m (upd H1 b (valuesO b a)) Q (new mu ds s) := by
    cases e : new mu ds s with
    | none => rw [e] at hG; exact hG.elim
    | some p =>
      rw [e] at hG
      exact fun m' H' v f => hG m' H' v ((Ext.same sm).trans f)
  exact new_ok (S.same sm) (RepL.ext S.noTup (Ext.same sm) r) hG2 c hc
theorem pe_valsM {o : Expr} {to : TE} {apos cpos : Pos} (ho : PE X o to) (hbase : attributeBase o "values" X.env (eval o X.env) = eval o X.env := by rfl) (hline : (apos.endLine == cpos.line) = true := by rfl) :
    PE X (.Call (.Attribute o "values" apos) [] [] cpos) (fun σ H Q => to σ H fun x H1 => rVals x [] H1 Q) := by
  refine ⟨fun pins s σ H Q I h => ?_⟩
  refine wpAny_Call_method0_late hbase hline (thn (ho.run pins s σ H _ I h) fun v s1 ⟨x, H1, I1, r1, q1⟩ => ?_)
  obtain ⟨a, kvs, ex, e2, h2, q2⟩ := q1
  subst ex
  obtain rfl : v = Value.ref a := r1
  obtain ⟨t1, t2, _⟩ := isD_at I1 (.inl ⟨kvs, h2⟩)
  exact ⟨"dict", "dict.values", PySem.F.plainAttrs_dict, PySem.F.slot_dict_values, PySem.F.type_dict_values, t1, t2, Calls.callWith_builtin rfl (PySem.evalArgs_none (mt_vals pins s1 σ H1 (.ref a) [] _ [] Q I1 rfl .nil ⟨a, kvs, rfl, rfl, h2, q2⟩))⟩
variable {W : WX} {e : Expr} {de : EM} {p pos apos cpos : Pos}
theorem se_vals {mu : Bool} (hm : X.mg "list" = none) (he : PE X e (tE (X.K, zz) W de)) (hg : Gl X "list" := by rfl) (hc : X.calm = true := by rfl)
    (hbase : attributeBase e "values" X.env (eval e X.env) = eval e X.env := by rfl) (hline : (apos.endLine == cpos.line) = true := by rfl)
    (hst : starEach [Expr.Call (.Attribute e "values" apos) [] [] cpos] X.env = (false, eval (Expr.Call (.Attribute e "values" apos) [] [] cpos) X.env) :: starEach [] X.env := by rfl) (hpl : (backTo pos (starEach [] X.env)).any (·.1) = false := by rfl) :
    PE X (.Call (.Name "list" p) [.Call (.Attribute e "values" apos) [] [] cpos] [] pos) (tE (X.K, zz) W (eU (gVals mu) de)) := by
  refine PE.imp (pe_callTy (cr_listV hc) hg hm boot_list (pa_cons (pe_valsM he hbase hline) pa_nil hst) (by decide) (by decide) hst hpl) fun σ H Q h => ?_
  exact (into1 h).mono fun v H1 ⟨m, d, s, S, hd, hG⟩ => by
    unfold gVals at hG
    cases h1 : dicOf s d with
    | none => rw [h1] at hG; exact hG.elim
    | some q =>
      rw [h1] at hG
      obtain ⟨ks, ds⟩ := q
      obtain ⟨a, vs, rfl, l, e1, q1⟩ := dicOf_at S hd h1
      refine ⟨a, ks.zip vs, rfl, rfl, e1, fun b hb => ⟨b, a, ks.zip vs, rfl, upd_same, ?_, fun c hc => ?_⟩⟩
      · rcases e1 with e1 | ⟨ob, e1⟩
        · exact .inl (by rw [upd_ne (ne_of_none e1 hb)]; exact e1)
        · exact .inr ⟨ob, by rw [upd_ne (ne_of_none e1 hb)]; exact e1⟩
      · have ev : (ks.zip vs).map (·.2) = vs := List.map_snd_zip (by omega)
        rw [ev]
        have hb2 : H1 b = none := hb
        exact fin_vals S q1 hb2 hG hc
/-- T() of an own class -/
theorem pe_makeS0 {CX : CXT} {k : Nat} {C f : Addr} {fd : FuncData} {ps : List Str} {sp : Sp} {E : St → XK} {x : Str} (M : Mk X.K C f) (F : FnG X.prog X.w X.K X.mg X.base CX k f fd ps sp) (hr : RoomG (k + 1) X.A) (hg : Gl X x) (hm : X.mg x = some (.ref C)) (hb : Binds X.K fd ps []) (hx : ∀ σ, PassesAt CX X σ (E σ))
    (hdb : (x == ("__debug__" : Str)) = false := by decide) : PE X (.Call (.Name x p) [] [] pos) (tMakeS C sp E tNil) := by
  refine ⟨fun pins s σ H Q I h => ?_⟩
  refine wpAny_Call_Name_kw (ld_glob I hg hm ?_ hdb)
  exact PySem.W.callWith_K0 I.kIn M.kp (run_makeS (us := []) M F hr hb (hx σ) I .nil h)
theorem se_makeO0 {cn : Str} {k kk f : Nat} {F : List D → M D} (Mm : Mk X.K (He.ga X.K cn) f) (G : OkF X.prog X.w X.K X.mg X.base k f 1 F) (hr : RoomG kk X.A) (hk : k + 1 ≤ kk) (hm : X.mg cn = some (.ref (He.ga X.K cn))) (tk : Takes X W)
    (hg : Gl X cn := by rfl) (hdb : (cn == ("__debug__" : Str)) = false := by decide) :
    PE X (.Call (.Name cn p) [] [] pos) (tE (X.K, zz) W (eMake cn (fnN 1 F) aNil)) := by
  obtain ⟨_, _, a, b, c⟩ := G
  exact PE.imp (pe_makeS0 Mm a (hr.mono hk) hg hm b (fun σ => passAt tk σ) hdb) fun σ H Q ⟨m, ρ, s, hE, hS, hG⟩ => fun x dx hx hd hne => make_in hS .nil hG x dx hx hd hne
end
end QS
end

section
set_option Elab.async false
set_option linter.all false
set_option maxRecDepth 100000
set_option maxHeartbeats 1000000
/-! QS45: dicts from texts to pairs, in plain words. -/
namespace QS
open PySem PySem.Spec PyProof.Rows L2 TL
abbrev DM := List (Str × (Int × Int))
def kM (m : DM) : List Key := m.map fun y => .inr y.1
def vM (m : DM) : List D := m.map fun y => pD y.2
def mD (m : DM) : D := .dic (kM m) (vM m)
def nmM (m : DM) : List Str := m.map (·.1)
def lk : DM → Str → Option (Int × Int)
  | [], _ => none
  | (k, p) :: r, x => if k = x then some p else lk r x
def puM (m : DM) (x : Str) (p : Int × Int) : DM := if (lk m x).isSome = true then m.map (fun y => if y.1 = x then (y.1, p) else y) else m ++ [(x, p)]
def drM (m : DM) (x : Str) : DM := m.filter fun y => !decide (y.1 = x)
@[simp] theorem kM_len (m : DM) : (kM m).length = m.length := by simp [kM]
@[simp] theorem vM_len (m : DM) : (vM m).length = m.length := by simp [vM]
theorem valD_lk (x : Str) : ∀ m : DM, valD (kM m) (vM m) (.inr x) = (lk m x).map pD
  | [] => rfl
  | (k, p) :: r => by
    have ih := valD_lk x r
    simp only [kM, vM] at ih
    simp only [kM, vM, List.map_cons, valD, lk, Sum.inr.injEq]
    by_cases e : k = x
    · simp [e]
    · simp [e, ih]
theorem hasK_lk (x : Str) : ∀ m : DM, hasK (kM m) (.inr x) = (lk m x).isSome
  | [] => rfl
  | (k, p) :: r => by
    have ih := hasK_lk x r
    simp only [kM, hasK] at ih
    simp only [kM, hasK, List.map_cons, List.any_cons, lk, Sum.inr.injEq, ih]
    by_cases e : k = x <;> simp [e]
theorem repl_map (x : Str) (p : Int × Int) : ∀ m : DM, repl (kM m) (vM m) (.inr x) (pD p) = vM (m.map fun y => if y.1 = x then (y.1, p) else y)
  | [] => rfl
  | (k, q) :: r => by
    have ih := repl_map x p r
    simp only [kM, vM] at ih
    simp only [kM, vM, List.map_cons, repl, Sum.inr.injEq, ih]
    by_cases e : k = x <;> simp [e]
theorem putDk_M (m : DM) (x : Str) (p : Int × Int) : putDk (kM m) (vM m) (.inr x) (pD p) = (kM (puM m x p), vM (puM m x p)) := by
  unfold putDk puM
  rw [hasK_lk]
  by_cases e : (lk m x).isSome = true
  · rw [if_pos e, if_pos e, repl_map]
    have : kM (m.map fun y => if y.1 = x then (y.1, p) else y) = kM m := by
      simp only [kM, List.map_map]
      apply List.map_congr_left
      intro y _
      simp only [Function.comp]
      by_cases c : y.1 = x <;> simp [c]
    rw [this]
  · rw [if_neg e, if_neg e]
    simp [kM, vM]
theorem lk_none {m : DM} {x : Str} : lk m x = none ↔ x ∉ nmM m := by
  induction m with
  | nil => simp [lk, nmM]
  | cons y r ih =>
    obtain ⟨k, p⟩ := y
    simp only [nmM, List.map_cons, List.mem_cons, not_or] at ih ⊢
    by_cases e : k = x
    · simp [lk, e]
    · have e' : ¬ x = k := fun q => e q.symm
      simp [lk, e, ih, e']
theorem lk_mem {m : DM} {x : Str} {p : Int × Int} (h : lk m x = some p) : (x, p) ∈ m := by
  induction m with
  | nil => cases h
  | cons y r ih =>
    obtain ⟨k, q⟩ := y
    by_cases e : k = x
    · simp [lk, e] at h
      simp [e, h]
    · simp [lk, e] at h
      exact List.mem_cons_of_mem _ (ih h)
theorem lk_of {m : DM} (hn : (nmM m).Nodup) {x : Str} {p : Int × Int} (h : (x, p) ∈ m) : lk m x = some p := by
  induction m with
  | nil => cases h
  | cons y r ih =>
    obtain ⟨k, q⟩ := y
    simp only [nmM, List.map_cons, List.nodup_cons] at hn
    rcases List.mem_cons.mp h with e | e
    · cases e; simp [lk]
    · have ne : ¬ k = x := fun q => hn.1 (by rw [q]; exact List.mem_map_of_mem e)
      simp [lk, ne]
      exact ih hn.2 e
theorem nm_pu_old {m : DM} {x : Str} {p : Int × Int} (h : (lk m x).isSome = true) : nmM (puM m x p) = nmM m := by
  unfold puM
  rw [if_pos h]
  simp only [nmM, List.map_map]
  apply List.map_congr_left
  intro y _
  simp only [Function.comp]
  by_cases c : y.1 = x <;> simp [c]
theorem pu_new {m : DM} {x : Str} {p : Int × Int} (h : lk m x = none) : puM m x p = m ++ [(x, p)] := by
  unfold puM
  simp [h]
theorem lk_pu {x y : Str} {p : Int × Int} (m : DM) : lk (puM m x p) y = if x = y then some p else lk m y := by
  have a1 : ∀ m : DM, lk (m.map fun z => if z.1 = x then (z.1, p) else z) y = if x = y then (lk m y).map (fun _ => p) else lk m y := by
    intro m
    induction m with
    | nil => simp [lk]
    | cons z r ih =>
      obtain ⟨k, q⟩ := z
      by_cases e : k = x
      · subst e
        by_cases c : k = y
        · simp [lk, c]
        · simp only [List.map_cons, if_true, lk, c, if_false, ih]
      · by_cases c : k = y
        · subst c
          have e' : ¬ x = k := fun q => e q.symm
          simp [lk, e, e']
        · simp only [List.map_cons, e, if_false, lk, c, ih]
  have a2 : ∀ m : DM, lk (m ++ [(x, p)]) y = (lk m y).or (if x = y then some p else none) := by
    intro m
    induction m with
    | nil => simp [lk]
    | cons z r ih =>
      obtain ⟨k, q⟩ := z
      by_cases e : k = y <;> simp [lk, e, ih]
  unfold puM
  by_cases c : (lk m x).isSome = true
  · rw [if_pos c, a1]
    by_cases e : x = y
    · subst e
      obtain ⟨q, hq⟩ := Option.isSome_iff_exists.mp c
      simp [hq]
    · simp [e]
  · rw [if_neg c, a2]
    have c' : lk m x = none := by simpa using c
    by_cases e : x = y
    · subst e; simp [c']
    · simp [e]
theorem lk_dr {x y : Str} (m : DM) : lk (drM m x) y = if x = y then none else lk m y := by
  induction m with
  | nil => simp [drM, lk]
  | cons z r ih =>
    obtain ⟨k, q⟩ := z
    simp only [drM] at ih ⊢
    by_cases e : k = x
    · subst e
      simp only [List.filter_cons, decide_true, Bool.not_true, Bool.false_eq_true, if_false, ih, lk]
      by_cases c : k = y <;> simp [c]
    · simp only [List.filter_cons, e, decide_false, Bool.not_false, if_true, lk, ih]
      by_cases c : k = y
      · subst c
        have e' : ¬ x = k := fun q => e q.symm
        simp [e']
      · simp [c]
/-! weakest preconditions -/
def Dm (s : Sto) (d : D) (m : DM) : Prop := dicOf s d = some (kM m, vM m)
@[simp] theorem dm_mD {s : Sto} {m : DM} : Dm s (mD m) m := rfl
theorem dm_loc {s : Sto} {n : Nat} {m : DM} (h : s[n]? = some (.dic (kM m) (vM m))) : Dm s (.loc n) m := by simp [Dm, dicOf, h]
section
variable {s : Sto} {d : D} {m : DM} {x : Str} {Q : D → Sto → Prop}
theorem wpv_ixD (h : Dm s d m) : wpv (gIxD d (.str x) s) Q = ∃ p, lk m x = some p ∧ Q (pD p) s := by
  have h : dicOf s d = some (kM m, vM m) := h
  simp only [gIxD, h, Option.bind_some, keyOf, valD_lk]
  cases lk m x <;> simp
theorem wpv_inD {neg : Bool} (h : Dm s d m) : wpv (gInD neg (.str x) d s) Q = Q (.bl (if neg then !(lk m x).isSome else (lk m x).isSome)) s := by
  have h : dicOf s d = some (kM m, vM m) := h
  simp only [gInD, h, Option.bind_some, keyOf, valD_lk, Option.map_some, Option.isSome_map, wpv_some]
theorem strKeys_kM (m : DM) : strKeys (kM m) = some (nmM m) := by
  have : kM m = (nmM m).map Sum.inr := by simp [kM, nmM]
  rw [this, strKeys_map]
theorem wpv_sortD (h : Dm s d m) (hl : m.length < 64) : wpv (gSortedD false [d] s) Q = Q (.lst ((sortS (nmM m)).map D.str)) s := by
  have h : dicOf s d = some (kM m, vM m) := h
  have hl2 : (nmM m).length < 64 := by simpa [nmM] using hl
  simp only [gSortedD, h, Option.bind_some, strKeys_kM, if_pos hl2, wpv_new, Bool.false_eq_true, if_false]
theorem wpv_dictT (h : Dm s d m) : wpv (gDict true [d] s) Q = Q (.loc s.length) (s ++ [.dic (kM m) (vM m)]) := by
  have h : dicOf s d = some (kM m, vM m) := h
  simp only [gDict, h, Option.bind_some, newD, if_true, wpv_some]
theorem wpv_lenM (h : Dm s d m) : wpv (gLen [d] s) Q = Q (.int m.length) s := by
  have h : dicOf s d = some (kM m, vM m) := h
  cases d with
  | dic ks vs => cases h; simp [gLen, orVL, gLenS, gLenD, g1, seqOf, lstOf, dicOf]
  | loc n =>
    rw [wpv_lenLoc]
    simp only [dicOf] at h
    split at h
    · rename_i ks vs e; cases h; simp [e]
    · cases h
  | _ => cases h
theorem wpv_valsM (h : Dm s d m) : wpv (gVals false d s) Q = Q (.lst ((m.map (·.2)).map pD)) s := by
  have h : dicOf s d = some (kM m, vM m) := h
  simp only [gVals, h, Option.bind_some, wpv_new, Bool.false_eq_true, if_false]
  simp [vM, Function.comp_def]
theorem gStD_M {n : Nat} {p : Int × Int} (h : s[n]? = some (.dic (kM m) (vM m))) (hl : m.length < sizeLine) : gStD (.loc n) (.str x) (pD p) s = some (s.set n (.dic (kM (puM m x p)) (vM (puM m x p)))) := by
  simp only [gStD, h, keyOf, Option.bind_some, kM_len, if_pos hl, putDk_M]
theorem itemD_M : ∀ m : DM, itemD (kM m) (vM m) = m.map fun y => .tup [.str y.1, pD y.2]
  | [] => rfl
  | y :: r => by
    have ih := itemD_M r
    simp only [kM, vM] at ih
    simp only [kM, vM, List.map_cons, itemD, keyD, ih]
theorem wpv_itemsM {QI : Items → Sto → Prop} : wpv (itItems (mD m) s) QI = QI ⟨m.map fun y => .tup [.str y.1, pD y.2], none⟩ s := by
  simp only [itItems, mD, itemD_M, wpv_some]
theorem putAll_M : ∀ (l m : DM), (nmM m ++ nmM l).Nodup → putAll (kM m) (vM m) (l.map fun y => .tup [.str y.1, pD y.2]) = some (kM (m ++ l), vM (m ++ l))
  | [], m, _ => by simp [putAll]
  | (x, p) :: l, m, h => by
    have hx : lk m x = none := lk_none.mpr fun hm => by
      rw [List.nodup_append] at h
      exact h.2.2 x hm x (by simp [nmM]) rfl
    simp only [List.map_cons, putAll, keyOf, Option.bind_some, putDk_M, pu_new hx]
    rw [putAll_M l (m ++ [(x, p)]) (by simpa [nmM] using h)]
    simp
theorem wpv_dictP {l : DM} (h : (nmM l).Nodup) : wpv (gDictP false [.lst (l.map fun y => .tup [.str y.1, pD y.2])] s) Q = Q (mD l) s := by
  have e := putAll_M l [] (by simpa [nmM] using h)
  simp only [kM, vM, List.map_nil, List.nil_append] at e
  simp only [gDictP, lstOf, Option.bind_some, e, newD, Bool.false_eq_true, if_false, wpv_some]
  rfl
theorem shaped_pP (p : Int × Int) : SeqAt.shaped (pP p) = true := by
  simp [SeqAt.shaped, pP, PyData.canLay0, PyData.canLayAll0, PyData.depth, PyData.depthAll]
theorem dat0L_vM : ∀ m : DM, dat0L (vM m) = some (m.map fun y => pP y.2)
  | [] => rfl
  | y :: r => by
    have ih := dat0L_vM r
    simp only [vM] at ih
    simp only [vM, List.map_cons, dat0L, ih]
    simp [pD, pP, dat0, dat0L]
theorem eqv_pP (p : Int × Int) : PyData.eqv (pP p) (pP p) = true := by simp [pP, PyData.eqv, PyData.eqvAll]
theorem valD_pP (x : Str) : ∀ m : DM, valD (kM m) (m.map fun y => pP y.2) (.inr x) = (lk m x).map pP
  | [] => rfl
  | (k, p) :: r => by
    have ih := valD_pP x r
    simp only [kM] at ih
    simp only [kM, List.map_cons, valD, lk, Sum.inr.injEq]
    by_cases e : k = x
    · simp [e]
    · simp [e, ih]
theorem dHits_self {m : DM} (hn : (nmM m).Nodup) : ∀ l : DM, (∀ y ∈ l, y ∈ m) → dHits (kM m) (m.map fun y => pP y.2) (kM l) (l.map fun y => pP y.2) = true
  | [], _ => rfl
  | (x, p) :: l, h => by
    have hx := lk_of hn (h _ (List.mem_cons_self ..))
    have ih := dHits_self hn l (fun y hy => h y (List.mem_cons_of_mem _ hy))
    have e1 : kM ((x, p) :: l) = .inr x :: kM l := rfl
    rw [e1, List.map_cons]
    simp only [dHits, valD_pP, hx, Option.map_some, eqv_pP, ih, Bool.and_self]
theorem gEqDc_self (hn : (nmM m).Nodup) : gEqDc (mD m) (mD m) s = some (.bl true, s) := by
  have hs : (m.map fun y => pP y.2).all SeqAt.shaped = true := by
    rw [List.all_eq_true]
    intro z hz
    obtain ⟨y, _, rfl⟩ := List.mem_map.mp hz
    exact shaped_pP _
  simp only [gEqDc, gEqDF, mD, dicOf, Option.bind_some, dat0L_vM, hs, and_self, if_true, id, dHits_self hn m (fun _ h => h), BEq.rfl, Bool.and_self]
theorem gEqDc_len {m' : DM} (h : m.length ≠ m'.length) : gEqDc (mD m) (mD m') s = some (.bl false, s) := by
  have hs : ∀ m : DM, (m.map fun y => pP y.2).all SeqAt.shaped = true := fun m => by
    rw [List.all_eq_true]
    intro z hz
    obtain ⟨y, _, rfl⟩ := List.mem_map.mp hz
    exact shaped_pP _
  have hb : (m.length == m'.length) = false := by simpa using h
  simp only [gEqDc, gEqDF, mD, dicOf, Option.bind_some, dat0L_vM, hs, and_self, if_true, id, kM_len, hb, Bool.false_and]
end
end QS
end

section
set_option Elab.async false
set_option linter.all false
set_option maxRecDepth 100000
set_option maxHeartbeats 1000000
/-! QS46: d.pop(k), d.pop(k, x) on a dict of the store. -/
namespace QS
open PySem PySem.Spec PyProof.Rows L2 TL
def drpDk {α : Type} : List Key → List α → Key → List Key × List α
  | k :: ks, d :: ds, j => if k = j then drpDk ks ds j else (k :: (drpDk ks ds j).1, d :: (drpDk ks ds j).2)
  | _, _, _ => ([], [])
theorem drp_zip : ∀ (ks : List Key) (vs : List V) (j : Key), dropK (ks.zip vs) j = (drpDk ks vs j).1.zip (drpDk ks vs j).2 ∧ (drpDk ks vs j).1.length = (drpDk ks vs j).2.length
  | [], vs, j => by simp [drpDk, dropK]
  | _ :: _, [], j => by simp [drpDk, dropK]
  | k :: ks, v :: vs, j => by
    obtain ⟨h1, h2⟩ := drp_zip ks vs j
    by_cases e : k = j
    · simp only [drpDk, if_pos e, List.zip_cons_cons]
      refine ⟨?_, h2⟩
      rw [← h1]
      unfold dropK
      rw [List.filter_cons, if_neg (by simp [e])]
    · simp only [drpDk, if_neg e, List.zip_cons_cons]
      refine ⟨?_, by simp [h2]⟩
      rw [← h1]
      unfold dropK
      rw [List.filter_cons, if_pos (by simp [e])]
theorem drp_rep {K : KZ} {m : List Addr} {H : Hp} : ∀ {ks : List Key} {ds : List D} {vs : List V} (j : Key), RepL K m H ds vs → (drpDk ks ds j).1 = (drpDk ks vs j).1 ∧ RepL K m H (drpDk ks ds j).2 (drpDk ks vs j).2
  | [], _, _, _, .nil => ⟨rfl, .nil⟩
  | [], _, _, _, .cons _ _ => ⟨rfl, .nil⟩
  | _ :: _, _, _, _, .nil => ⟨rfl, .nil⟩
  | k :: ks, _, _, j, .cons hd r => by
    obtain ⟨h1, h2⟩ := drp_rep (ks := ks) j r
    by_cases e : k = j
    · simp only [drpDk, if_pos e]; exact ⟨h1, h2⟩
    · simp only [drpDk, if_neg e]; exact ⟨by rw [h1], .cons hd h2⟩
def gPopDk : D → List D → V1 D := fun x xs s => match x, xs with
  | .loc n, [y] => (match s[n]? with
    | some (.dic ks ds) => (keyOf y).bind fun k => (valD ks ds k).map fun d => (d, s.set n (.dic (drpDk ks ds k).1 (drpDk ks ds k).2))
    | _ => none)
  | .loc n, [y, z] => (match s[n]? with
    | some (.dic ks ds) => (keyOf y).map fun k => (match valD ks ds k with
      | some d => (d, s.set n (.dic (drpDk ks ds k).1 (drpDk ks ds k).2))
      | none => (z, s))
    | _ => none)
  | _, _ => none
section
variable {X : Cx} {zz : List Addr}
theorem write_dic {m : List Addr} {H : Hp} {s : Sto} {n : Nat} {a : Addr} {ks : List Key} {ds : List D} {vs : List V} {d : D} {v : V} {Q : VK} (S : StR (X.K, zz) m H s) (e : m[n]? = some a) (hl : ks.length = vs.length) (r : RepL (X.K, zz) m H ds vs) (rd : Rep (X.K, zz) m H d v)
    (h : GoodV (X.K, zz) m H Q (some (d, s.set n (.dic ks ds)))) : Q v (upd H a (.dK (ks.zip vs))) := by
  have we : Ext m H m (upd H a (.dK (ks.zip vs))) := Ext.write e S.noTup
  exact h m _ v we (S.write e ⟨vs, hl, upd_same, RepL.ext S.noTup we r⟩) (rd.ext S.noTup we)
theorem m_popDk : MtR X "dict.pop" (rM (X.K, zz) gPopDk) := by
  intro pins s σ H x xs v us Q I rx rs ⟨m, d, ds, st, S, hd, hds, hG⟩
  unfold gPopDk at hG
  split at hG
  · rename_i n y
    cases hd with
    | @loc n a e =>
      cases hds with
      | @cons _ w _ _ hy hr =>
        cases hr
        cases rx
        obtain ⟨u1, rfl, r1⟩ := vals1 rs
        cases z : st[n]? with
        | none => rw [z] at hG; exact hG.elim
        | some ob =>
          rw [z] at hG
          cases ob with
          | dic ks ds =>
            simp only at hG
            cases hk : keyOf y with
            | none => rw [hk] at hG; exact hG.elim
            | some k =>
              rw [hk] at hG
              simp only [Option.bind_some] at hG
              obtain ⟨vs, hl, e1, q⟩ := S.obj n a _ e z
              rcases valD_rep k q hl with ⟨c1, c2⟩ | ⟨d', w', c1, c2, c3⟩
              · rw [c1] at hG; exact hG.elim
              · rw [c1] at hG
                simp only [Option.map_some] at hG
                have ew := keyOf_at hy hk
                subst ew
                obtain ⟨dz, dl⟩ := drp_zip ks vs k
                obtain ⟨q1, q2⟩ := drp_rep (ks := ks) k q
                refine d_pop I e1 r1 c2 (.inl rfl) fun w2 s2 I2 rw2 => ⟨w', _, I2, rw2, ?_⟩
                rw [dz]
                rw [q1] at hG
                exact write_dic S e dl q2 c3 hG
          | _ => exact hG.elim
  · rename_i n y t
    cases hd with
    | @loc n a e =>
      cases hds with
      | @cons _ w _ _ hy hr =>
        cases hr with
        | @cons _ w0 _ _ ht hr =>
          cases hr
          cases rx
          obtain ⟨u1, u2, rfl, r1, r2⟩ := vals2 rs
          cases z : st[n]? with
          | none => rw [z] at hG; exact hG.elim
          | some ob =>
            rw [z] at hG
            cases ob with
            | dic ks ds =>
              simp only at hG
              cases hk : keyOf y with
              | none => rw [hk] at hG; exact hG.elim
              | some k =>
                rw [hk] at hG
                simp only [Option.map_some] at hG
                obtain ⟨vs, hl, e1, q⟩ := S.obj n a _ e z
                have ew := keyOf_at hy hk
                subst ew
                rcases valD_rep k q hl with ⟨c1, c2⟩ | ⟨d', w', c1, c2, c3⟩
                · rw [c1] at hG
                  exact d_popD I e1 r1 c2 fun s2 I2 => ⟨w0, H, I2, r2, hG.here S ht⟩
                · rw [c1] at hG
                  obtain ⟨dz, dl⟩ := drp_zip ks vs k
                  obtain ⟨q1, q2⟩ := drp_rep (ks := ks) k q
                  refine d_pop I e1 r1 c2 (.inr ⟨_, rfl⟩) fun w2 s2 I2 rw2 => ⟨w', _, I2, rw2, ?_⟩
                  rw [dz]
                  simp only [q1] at hG
                  exact write_dic S e dl q2 c3 hG
            | _ => exact hG.elim
  · exact hG.elim
end
theorem drp_M (x : Str) : ∀ m : DM, drpDk (kM m) (vM m) (.inr x) = (kM (drM m x), vM (drM m x))
  | [] => rfl
  | (k, p) :: r => by
    have ih := drp_M x r
    have e1 : kM ((k, p) :: r) = .inr k :: kM r := rfl
    have e2 : vM ((k, p) :: r) = pD p :: vM r := rfl
    rw [e1, e2]
    unfold drpDk
    rw [ih]
    by_cases e : k = x
    · subst e; simp [drM]
    · have e' : ¬ ((Sum.inr k : Key) = .inr x) := fun z => e (Sum.inr.inj z)
      rw [if_neg e']
      simp [drM, e, kM, vM]
section
variable {s : Sto} {n : Nat} {m : DM} {x : Str} {Q : D → Sto → Prop}
theorem tyB_dic (h : s[n]? = some (.dic (kM m) (vM m))) : tyB "dict" s (.loc n) = true := by simp [tyB, h]
theorem wpv_popD {p : Int × Int} (h : s[n]? = some (.dic (kM m) (vM m))) (hx : lk m x = some p) : wpv (gPopDk (.loc n) [.str x] s) Q = Q (pD p) (s.set n (.dic (kM (drM m x)) (vM (drM m x)))) := by
  simp only [gPopDk, h, keyOf, Option.bind_some, valD_lk, hx, Option.map_some, drp_M, wpv_some]
theorem wpv_popD2 {d : D} (h : s[n]? = some (.dic (kM m) (vM m))) : wpv (gPopDk (.loc n) [.str x, d] s) Q = match lk m x with
    | some p => Q (pD p) (s.set n (.dic (kM (drM m x)) (vM (drM m x))))
    | none => Q d s := by
  simp only [gPopDk, h, keyOf, Option.map_some, valD_lk, drp_M]
  cases lk m x <;> simp
end
/-! a text in a row of texts -/
def strsD : List D → Option (List Str)
  | [] => some []
  | .str x :: r => (strsD r).map (x :: ·)
  | _ => none
theorem strsD_at : ∀ {l : List D} {ns : List Str}, strsD l = some ns → l = ns.map D.str
  | [], _, h => by cases h; rfl
  | .str x :: r, _, h => by
    obtain ⟨ys, h1, h2⟩ := Option.map_eq_some_iff.mp h
    subst h2
    rw [strsD_at h1]
    rfl
@[simp] theorem strsD_map : ∀ ns : List Str, strsD (ns.map D.str) = some ns
  | [] => rfl
  | x :: r => by simp [strsD, strsD_map r]
def gInT (neg : Bool) : D → D → V1 D := fun x y s => match x with
  | .str a => (seqOf s y).bind fun l => (strsD l).bind fun ns => some (.bl (if neg then !decide (a ∈ ns) else decide (a ∈ ns)), s)
  | _ => none
theorem inV_strs (a : Str) (ns : List Str) : inV (.str a) (ns.map V.str) = decide (a ∈ ns) := by
  unfold inV
  induction ns with
  | nil => rfl
  | cons n ns ih =>
    rw [List.map_cons, List.any_cons, ih]
    by_cases c : n = a
    · simp [eqV, c]
    · have c' : ¬a = n := fun e => c e.symm
      have c2 : (n == a) = false := by simpa using c
      simp [eqV, c2, c']
theorem flat_strs (ns : List Str) : (ns.map V.str).all flatV = true := by simp [flatV]
theorem strs_rep2 {K : KZ} {m : List Addr} {H : Hp} : ∀ {ns : List Str} {vs : List V}, RepL K m H (ns.map D.str) vs → vs = ns.map V.str
  | [], _, .nil => rfl
  | x :: r, _, .cons h q => by
    cases h
    rw [strs_rep2 q]
    rfl
section
variable {X : Cx} {zz : List Addr}
theorem o_inT : OpR X (compareOp .In) (r2 (X.K, zz) (gInT false)) := fun pins s σ H x y v u Q I rx ry h => by
  obtain ⟨m, d, e, st, S, hd, he, hG⟩ := h
  cases hd with
  | str a =>
    have hG : GoodV (X.K, zz) m H Q ((seqOf st e).bind fun l => (strsD l).bind fun ns => some (.bl (if false then !decide (a ∈ ns) else decide (a ∈ ns)), st)) := hG
    cases h1 : seqOf st e with
    | none => rw [h1] at hG; exact hG.elim
    | some l =>
      rw [h1] at hG
      simp only [Option.bind_some] at hG
      cases h2 : strsD l with
      | none => rw [h2] at hG; exact hG.elim
      | some ns =>
        rw [h2] at hG
        have el := strsD_at h2
        subst el
        obtain ⟨p, vs, rfl, e1, q1⟩ := seqOf_at S he h1
        have ev := strs_rep2 q1
        subst ev
        exact op_in_seq pins s σ H _ _ v u Q I rx ry ⟨p, _, rfl, e1, rfl, flat_strs ns, by rw [inV_strs]; exact GoodV.here S hG (.bl _)⟩
  | _ => exact hG.elim
theorem o_notinT : OpR X (compareOp .NotIn) (r2 (X.K, zz) (gInT true)) := fun pins s σ H x y v u Q I rx ry h => by
  obtain ⟨m, d, e, st, S, hd, he, hG⟩ := h
  cases hd with
  | str a =>
    have hG : GoodV (X.K, zz) m H Q ((seqOf st e).bind fun l => (strsD l).bind fun ns => some (.bl (if true then !decide (a ∈ ns) else decide (a ∈ ns)), st)) := hG
    cases h1 : seqOf st e with
    | none => rw [h1] at hG; exact hG.elim
    | some l =>
      rw [h1] at hG
      simp only [Option.bind_some] at hG
      cases h2 : strsD l with
      | none => rw [h2] at hG; exact hG.elim
      | some ns =>
        rw [h2] at hG
        have el := strsD_at h2
        subst el
        obtain ⟨p, vs, rfl, e1, q1⟩ := seqOf_at S he h1
        have ev := strs_rep2 q1
        subst ev
        exact op_notIn_seq pins s σ H _ _ v u Q I rx ry ⟨p, _, rfl, e1, rfl, flat_strs ns, by rw [inV_strs]; exact GoodV.here S hG (.bl _)⟩
  | _ => exact hG.elim
end
theorem wpv_inTT {neg : Bool} {a : Str} {ns : List Str} {s : Sto} {Q : D → Sto → Prop} : wpv (gInT neg (.str a) (.tup (ns.map D.str)) s) Q = Q (.bl (if neg then !decide (a ∈ ns) else decide (a ∈ ns))) s := by
  simp [gInT, seqOf]
end QS
end

section
set_option Elab.async false
set_option linter.all false
set_option maxRecDepth 100000
set_option maxHeartbeats 1000000
/-! QS47: zip of a text and a list, enumerate of a text. -/
namespace QS
open PySem PySem.Spec PyProof.Rows L2 TL
section
variable {P : Program} {w : World} {K : PySem.W.Frag} {elts : List Expr} {kk : Nat} {tpos : Pos}
/-- a walk that gives tuples, by a walk of the library's -/
theorem turn_WT {J : It} {fp : List Addr} {it : Addr} {tn : Nat → Heap → Prop} (hmem : it ∈ fp) (hobj : ∀ i h, tn i h → ∀ b ∈ fp, ∃ o, h.get? b = some o ∧ ∀ v, o.data ≠ .cell v)
    (hkeep : ∀ i h h', tn i h → (∀ b ∈ fp, ∀ o, h.get? b = some o → h'.get? b = some o) → tn i h')
    (hit : ∀ (X : Cx), X.prog = P → X.w = w → X.K = K → X.calm = true → ∀ (i : Nat) (pins : List (Addr × Obj)) (s : Shared) (σ : St) (H : Hp), Inv X pins σ H s → tn i s.heap → J.go i H →
      ∃ fp2 wr n Pt St0 Mid, WalksT P w X.A it fp2 wr n Pt St0 Mid ∧ (∀ b ∈ wr, b ∈ fp) ∧ i < n ∧ St0 i s.heap ∧ (∀ h, St0 (i + 1) h → tn (i + 1) h) ∧
        ∀ ws, Pt i ws → ∃ vs, vs.length ≤ sizeLine ∧ Vals vs ws.toList ∧ ∀ T, H T = none → J.yld i H (.ref T) (upd H T (.tup vs)))
    (hend : ∀ (X : Cx), X.prog = P → X.w = w → X.K = K → X.calm = true → ∀ (i : Nat) (pins : List (Addr × Obj)) (s : Shared) (σ : St) (H : Hp), Inv X pins σ H s → tn i s.heap → J.stop i H →
      ∃ fp2 wr Pt St0 Mid, WalksT P w X.A it fp2 wr i Pt St0 Mid ∧ (∀ b ∈ wr, b ∈ fp) ∧ St0 i s.heap)
    (hself : ∀ (A : Around) (i : Nat) (s : Shared) (Q : Value → Shared → Prop) (E : Value → Shared → Prop), tn i s.heap → Q (.ref it) s → wpAny (model P w) A (pyIter (.ref it)) Q E s) :
    Turn P w K (.Tuple elts kk tpos) J fp it tn where
  mem := hmem
  obj := hobj
  keep := hkeep
  self := hself
  item := fun X a1 a2 a3 a4 i pins s σ H E I hf st g => by
    obtain ⟨fp2, wr, n, Pt, St0, Mid, WT, hwr, hin, st0, hnx, hv⟩ := hit X a1 a2 a3 a4 i pins s σ H I st g
    have old : ∀ b ∈ fp, b < s.heap.objs.size := fun b hb => let ⟨_, e, _⟩ := hobj i s.heap st b hb; Heap.lt_size e
    refine WT.item i s _ E hin st0 fun T ws h1 tk pt hT isT mid k1 => ⟨_, rfl, ?_⟩
    refine WT.go elts kk tpos i T { s with heap := h1, toks := tk } _ E mid fun h2 st2 k2 => ?_
    obtain ⟨vs, lv, rv, hy⟩ := hv ws pt
    have hn : H T = none := I.hok.fresh hT
    obtain ⟨oT, eT, cT, nT, dT⟩ := isT
    have eT2 : h2.get? T = some oT := k2 T oT (WT.apart i T h1 mid) eT
    have okT : ObjOk X.prog X.w (upd H T (.tup vs)) h2 T (.tup vs) := ⟨lv, ws.toList, rv, oT, eT2, cT, nT, by rw [dT]⟩
    refine ⟨.ref T, upd H T (.tup vs), ?_, rfl, hy T hn, hnx _ st2, fun b hb => ?_⟩
    · subst a1 a2
      exact I.turnedNew (t' := tk) (ch := wr) (fun b o hb e => k2 b o hb (k1 b o hb e)) (fun b hb => hf b (hwr b hb)) hT okT
    · rw [upd_ne (Nat.ne_of_lt (Nat.lt_of_lt_of_le (old b hb) hT))]
      exact (hf b hb).1
  done := fun X a1 a2 a3 a4 i pins s σ H E I hf st g => by
    obtain ⟨fp2, wr, Pt, St0, Mid, WT, hwr, st0⟩ := hend X a1 a2 a3 a4 i pins s σ H I st g
    exact WT.done s _ E st0 fun h1 tk k1 => ⟨rfl, I.turnedL (t' := tk) (ch := wr) k1 fun b hb => hf b (hwr b hb)⟩
end
/-! enumerate of a text -/
def Ites (x : Str) : It := ⟨fun i _ => i < x.cps.size, fun i H v H' => ∃ T c, v = .ref T ∧ H T = none ∧ H' = upd H T (.tup [.int (i : Nat), .str ⟨#[c]⟩]) ∧ x.cps[i]? = some c, fun i _ => i = x.cps.size⟩
theorem strIter_data {h : Heap} {a : Addr} {ty : String} {x : Str} {t : Tok} {i : Nat} (st : h.IsStrIter a ty x t i) : ∃ o, h.get? a = some o ∧ ∀ v, o.data ≠ .cell v := by
  obtain ⟨o, e, _, d⟩ := st
  exact ⟨o, e, fun v z => by rw [d] at z; cases z⟩
theorem turn_enumS {P : Program} {w : World} {K : PySem.W.Frag} {elts : List Expr} {kk : Nat} {tpos : Pos} {e it : Addr} (x : Str) (t : Tok) (ne : e ≠ it) :
    Turn P w K (.Tuple elts kk tpos) (Ites x) [e, it] e (fun i h => (∃ old, IsEnum h e it i old) ∧ h.IsStrIter it (strIterType x) x t i) := by
  have ef : e ∉ [it] := fun z => ne (by simpa using z)
  have sub : ∀ b ∈ [e, it], b ∈ [e, it] := fun b hb => hb
  refine turn_WT (List.mem_cons_self ..) (fun i h st b hb => ?_) (fun i h h' st k => ?_) (fun X a1 a2 a3 a4 i pins s σ H I st g => ?_) (fun X a1 a2 a3 a4 i pins s σ H I st g => ?_) (fun A i s Q E st q => ?_)
  · rcases List.mem_cons.mp hb with rfl | hb
    · obtain ⟨⟨old, he⟩, _⟩ := st
      exact ⟨_, he, fun v z => nomatch z⟩
    · rw [List.mem_singleton.mp hb]
      exact strIter_data st.2
  · obtain ⟨⟨old, he⟩, o, ho, r⟩ := st
    exact ⟨⟨old, k e (by simp) _ he⟩, o, k it (by simp) o ho, r⟩
  · have D : Draws P w X.A.in1 it [it] x.cps.size (fun i v => ∃ c u, x.cps[i]? = some c ∧ v = .str ⟨#[c]⟩ u) (fun i h => h.IsStrIter it (strIterType x) x t i) := Draws.text (show X.A.in1.handled = none from I.ok.hd a4) it x t
    refine ⟨_, _, _, _, _, _, WalksT.enumerateD D e ne ef (by simp), sub, g, st, fun h z => z, fun ws hw => ?_⟩
    obtain ⟨tk, v, ⟨c, u, hc, rfl⟩, rfl⟩ := hw
    exact ⟨[.int (i : Nat), .str ⟨#[c]⟩], by show 2 ≤ sizeLine; decide, .cons ⟨_, rfl⟩ (.cons ⟨_, rfl⟩ .nil), fun T hT => ⟨T, c, rfl, hT, rfl, hc⟩⟩
  · have D : Draws P w X.A.in1 it [it] x.cps.size (fun i v => ∃ c u, x.cps[i]? = some c ∧ v = .str ⟨#[c]⟩ u) (fun i h => h.IsStrIter it (strIterType x) x t i) := Draws.text (show X.A.in1.handled = none from I.ok.hd a4) it x t
    have g : i = x.cps.size := g
    subst g
    exact ⟨_, _, _, _, _, WalksT.enumerateD D e ne ef (by simp), sub, st⟩
  · obtain ⟨⟨old, he⟩, _⟩ := st
    exact wpAny_pyIter_enum he q
def iEnumS (ta : TA) : TI := fun σ H R => ta σ H fun vs H1 => ∃ x, vs = [.str x] ∧ R (Ites x) H1
theorem pi_enumS {X : Cx} {e : Expr} {ta : TA} {p pos tpos : Pos} {elts : List Expr} {kk : Nat} (hg : Gl X "enumerate") (hm : X.mg "enumerate" = none) (ha : PA X [e] ta) (hs : starEach [e] X.env = [(false, eval e X.env)] := by rfl) :
    PI X (.Tuple elts kk tpos) (.Call (.Name "enumerate" p) [e] [] pos) (iEnumS ta) := by
  refine ⟨fun pins s σ H R I h => Call_ (ld_blt I hg hm boot_enumerate (PyProof.Rows.callWith_type1 (thn (ha.run pos pins s σ H _ I h) fun us s1 ⟨vs, H1, I1, r1, x, ex, q⟩ => ?_) hs rfl))⟩
  subst ex
  obtain ⟨u, rfl, t, rfl⟩ := vals1 r1
  refine call_enumerate_str fun h1 he hi hsz hk => wpAny_pyIter_enum he ?_
  refine ⟨s1.heap.objs.size + 1, [s1.heap.objs.size + 1, s1.heap.objs.size], _, _, H1, rfl, I1.kept (t' := s1.toks) hk, turn_enumS x t (Nat.succ_ne_self _), ⟨⟨_, he⟩, hi⟩, fun b hb => ?_, q⟩
  have hle : s1.heap.objs.size ≤ b := by
    rcases List.mem_cons.mp hb with rfl | hb
    · exact Nat.le_succ _
    · rw [List.mem_singleton.mp hb]; exact Nat.le_refl _
  exact I1.fpOk hle (I1.hok.fresh hle)
theorem signs_get {x : Str} {i : Nat} {d : D} (h : (signs x)[i]? = some d) : ∃ c, x.cps[i]? = some c ∧ d = .str ⟨#[c]⟩ := by
  unfold signs at h
  rw [List.getElem?_map] at h
  obtain ⟨c, h1, h2⟩ := Option.map_eq_some_iff.mp h
  exact ⟨c, by rw [Array.getElem?_toList] at h1; exact h1, h2.symm⟩
theorem signs_len (x : Str) : (signs x).length = x.cps.size := by simp [signs]
theorem itw_enumS {K : KZ} {m : List Addr} {s : Sto} {H : Hp} (x : Str) : ItW K m s ⟨numD (signs x), none⟩ (Ites x) H := by
  intro zz m1 H1 s1 hz e S g
  have hl : (numD (signs x)).length = x.cps.size := by simp [numD, signs_len]
  refine ⟨fun i hi => (show i < x.cps.size by rw [← hl]; exact hi), hl, fun i d y H' hd hy => ?_⟩
  obtain ⟨T, c, rfl, hT, rfl, hc⟩ := hy
  obtain ⟨y, hy1, rfl⟩ := numD_get hd
  obtain ⟨c', h3, rfl⟩ := signs_get hy1
  rw [hc] at h3
  cases h3
  exact ⟨same_upd hT, pair_rep S hT (.int _) (.str _)⟩
def itEnumS (xs : List D) : V1 Items := fun s => match xs with
  | [.str x] => some (⟨numD (signs x), none⟩, s)
  | _ => none
section
variable {zz : List Addr} {X : Cx} {W : WX} {e e2 : Expr} {es : List Expr} {de : EM} {da : AM}
theorem si_enumS {elts : List Expr} {kk : Nat} {p pos tpos : Pos} (hm : X.mg "enumerate" = none) (ha : PA X [e] (tA (X.K, zz) W da)) (hg : Gl X "enumerate" := by rfl) (hs : starEach [e] X.env = [(false, eval e X.env)] := by rfl) :
    PI X (.Tuple elts kk tpos) (.Call (.Name "enumerate" p) [e] [] pos) (iS (X.K, zz) W (iOf itEnumS da)) :=
  PI.imp (pi_enumS hg hm ha hs) fun σ H R h => tG.mono (fun vs H1 ⟨m1, ds, s1, it, s2, S1, q1, e1, hR⟩ => by
    rcases two_or q1 with rfl | ⟨d, v, rfl, rfl, hd⟩ | ⟨d, e', v, u, rfl, rfl, hd, he⟩ | ⟨a, b, c, l, rfl⟩
    · cases e1
    · cases hd with
      | str x =>
        cases e1
        exact ⟨x, rfl, hR m1 H1 _ Ext.refl S1 (itw_enumS x)⟩
      | _ => cases e1
    · cases d <;> cases e1
    · cases a <;> cases e1) (iOf_in h)
end
/-! zip of a text and a list -/
def Itzs (K : PySem.W.Frag) (x : Str) (b : Addr) : It :=
  ⟨fun i H => ∃ ys : List V, SqL K H b ys ∧ i < x.cps.size ∧ i < ys.length,
    fun i H v H' => ∃ T c y, v = .ref T ∧ H T = none ∧ H' = upd H T (.tup [.str ⟨#[c]⟩, y]) ∧ x.cps[i]? = some c ∧ ∀ ys, SqL K H b ys → ys[i]? = some y,
    fun i H => ∃ ys : List V, SqL K H b ys ∧ i = min x.cps.size ys.length⟩
theorem turn_zipS {P : Program} {w : World} {K : PySem.W.Frag} {elts : List Expr} {kk : Nat} {tpos : Pos} {z TI TO i1 i2 b : Addr} (x : Str) (t : Tok) (S : ZipSep2 z TI TO i1 i2 [i1] [i2, b]) (nb : b ≠ i2) :
    Turn P w K (.Tuple elts kk tpos) (Itzs K x b) [z, TI, TO, i1, i2] z (fun i h => IsZip h z TI TO .none ∧ IsTupOf2 h TI (.ref i1) (.ref i2) ∧ (∃ a1 a2, IsTupOf2 h TO a1 a2) ∧ h.IsStrIter i1 (strIterType x) x t i ∧ h.IsListIter i2 b i) := by
  have sub : ∀ c ∈ [z, TO, i1, i2], c ∈ [z, TI, TO, i1, i2] := fun c hc => by
    rcases List.mem_cons.mp hc with rfl | hc
    · exact List.mem_cons_self ..
    · exact List.mem_cons_of_mem _ (List.mem_cons_of_mem _ hc)
  refine turn_WT (List.mem_cons_self ..) (fun i h st c hc => ?_) (fun i h h' st k => ?_) (fun X a1 a2 a3 a4 i pins s σ H I st g => ?_) (fun X a1 a2 a3 a4 i pins s σ H I st g => ?_) (fun A i s Q E st q => ?_)
  · obtain ⟨hz, hTI, ⟨p, q, hTO⟩, hs, ⟨o, ho, _, dd⟩⟩ := st
    simp only [List.mem_cons, List.not_mem_nil, or_false] at hc
    rcases hc with rfl | rfl | rfl | rfl | rfl
    · exact ⟨_, hz, fun v z => nomatch z⟩
    · exact ⟨_, hTI, fun v z => nomatch z⟩
    · exact ⟨_, hTO, fun v z => nomatch z⟩
    · exact strIter_data hs
    · exact ⟨o, ho, fun v z => by rw [dd] at z; cases z⟩
  · obtain ⟨hz, hTI, ⟨p, q, hTO⟩, ⟨o, ho, r⟩, h2⟩ := st
    exact ⟨k z (by simp) _ hz, k TI (by simp) _ hTI, ⟨p, q, k TO (by simp) _ hTO⟩, ⟨o, k i1 (by simp) o ho, r⟩, h2.at fun o e => k i2 (by simp) o e⟩
  · obtain ⟨ys, hq, g1, g2⟩ := g
    subst a3
    obtain ⟨its, rv, pl, hz⟩ := I.list hq
    have hh : X.A.in1.handled = none := I.ok.hd a4
    have hl : ys.length = its.toArray.size := by rw [List.size_toArray]; exact rv.length
    refine ⟨_, _, _, _, _, _, WalksT.zipD2 S (Draws.text hh i1 x t) (Draws.list hh i2 b nb its.toArray), sub, by omega, ⟨st.1, st.2.1, st.2.2.1, st.2.2.2.1, st.2.2.2.2, pl.isList⟩, fun h z => ⟨z.1, z.2.1, z.2.2.1, z.2.2.2.1, z.2.2.2.2.1⟩, fun ws hw => ?_⟩
    obtain ⟨u1, u2, ⟨c, tk, hc, rfl⟩, hu2, rfl⟩ := hw
    have hy : ∃ y, ys[i]? = some y := ⟨ys[i], List.getElem?_eq_getElem g2⟩
    obtain ⟨y, hy⟩ := hy
    obtain ⟨u, hu, ru⟩ := rv.get hy
    have e2 : u2 = u := by
      have : its.toArray[i]? = some u := by simpa using hu
      rw [this] at hu2
      exact (Option.some.inj hu2).symm
    subst e2
    exact ⟨[.str ⟨#[c]⟩, y], by show 2 ≤ sizeLine; decide, .cons ⟨_, rfl⟩ (.cons ru .nil), fun T hT => ⟨T, c, y, rfl, hT, rfl, hc, fun zs hzs => by rw [I.list_inj hzs hq]; exact hy⟩⟩
  · obtain ⟨ys, hq, g1⟩ := g
    subst a3
    obtain ⟨its, rv, pl, hz⟩ := I.list hq
    have hh : X.A.in1.handled = none := I.ok.hd a4
    have hl : ys.length = its.toArray.size := by rw [List.size_toArray]; exact rv.length
    have WT := WalksT.zipD2 (prog := P) (w := w) (A := X.A) S (Draws.text hh i1 x t) (Draws.list hh i2 b nb its.toArray)
    have e : i = min x.cps.size its.toArray.size := by rw [← hl]; exact g1
    rw [← e] at WT
    exact ⟨_, _, _, _, _, WT, sub, st.1, st.2.1, st.2.2.1, st.2.2.2.1, st.2.2.2.2, pl.isList⟩
  · exact wpAny_pyIter_zip st.1 q
def iZipS (K : PySem.W.Frag) (ta : TA) : TI := fun σ H R => ta σ H fun vs H1 => ∃ x b ys, vs = [.str x, .ref b] ∧ SqL K H1 b ys ∧ R (Itzs K x b) H1
theorem pi_zipS {X : Cx} {e e2 : Expr} {ta : TA} {p pos tpos : Pos} {elts : List Expr} {kk : Nat} (hg : Gl X "zip") (hm : X.mg "zip" = none) (ha : PA X [e, e2] ta)
    (hs : starEach [e, e2] X.env = (false, eval e X.env) :: starEach [e2] X.env := by rfl) (hpl : (backTo pos (starEach [e2] X.env)).any (·.1) = false := by rfl) :
    PI X (.Tuple elts kk tpos) (.Call (.Name "zip" p) [e, e2] [] pos) (iZipS X.K ta) := by
  refine ⟨fun pins s σ H R I h => Call_ (ld_blt I hg hm PyProof.Rows.boot_zip (PyProof.Rows.callWith_type1 (thn (ha.run pos pins s σ H _ I h) fun us s1 ⟨vs, H1, I1, r1, x, b, ys, ex, hq, q⟩ => ?_) hs hpl))⟩
  subst ex
  obtain ⟨u, v, rfl, ⟨t, rfl⟩, rb⟩ := vals2 r1
  obtain rfl : v = Value.ref b := rb
  obtain ⟨its, rv, pl, hz⟩ := I1.list hq
  have blt : b < s1.heap.objs.size := pl.lt
  refine zip_begins2 (begins_text x t) (begins_list b its.toArray) True.intro pl.isList fun h1 z1 z2 z3 z4 z5 hsz hk => wpAny_pyIter_zip z1 ?_
  have nb : b ≠ s1.heap.objs.size + 1 := Nat.ne_of_lt (Nat.lt_succ_of_lt blt)
  have S : ZipSep2 (s1.heap.objs.size + 4) (s1.heap.objs.size + 2) (s1.heap.objs.size + 3) s1.heap.objs.size (s1.heap.objs.size + 1) [s1.heap.objs.size] [s1.heap.objs.size + 1, b] := zip_sep2 (fp1 := []) (fp2 := [b]) (fun _ h => nomatch h) (fun c hc => by rw [List.mem_singleton.mp hc]; exact blt)
  refine ⟨s1.heap.objs.size + 4, [s1.heap.objs.size + 4, s1.heap.objs.size + 2, s1.heap.objs.size + 3, s1.heap.objs.size, s1.heap.objs.size + 1], _, _, H1, rfl, I1.kept (t' := s1.toks) hk, turn_zipS x t S nb, ⟨z1, z2, ⟨_, _, z3⟩, ⟨_, z4, rfl, rfl⟩, ⟨_, z5, rfl, rfl⟩⟩, fun c hc => ?_, q⟩
  have hle : s1.heap.objs.size ≤ c := by
    simp only [List.mem_cons, List.not_mem_nil, or_false] at hc
    rcases hc with rfl | rfl | rfl | rfl | rfl
    · exact Nat.le_add_right _ _
    · exact Nat.le_add_right _ _
    · exact Nat.le_add_right _ _
    · exact Nat.le_refl _
    · exact Nat.le_add_right _ _
  exact I1.fpOk hle (I1.hok.fresh hle)
def itZipS (xs : List D) : V1 Items := fun s => match xs with
  | [.str x, y] => (itSeq y s).map fun q => (⟨((signs x).zip q.1.l).map fun z => .tup [z.1, z.2], q.1.gd⟩, q.2)
  | _ => none
section
variable {zz : List Addr} {X : Cx} {W : WX} {e e2 : Expr} {es : List Expr} {de : EM} {da : AM}
theorem itw_zipS {K : KZ} {m : List Addr} {s : Sto} {H : Hp} {a : Addr} {it : Items} (x : Str) (st : ∀ zz m1 H1 s1, (∀ p ∈ zz, p ∈ K.2 ∨ H p = none) → Ext m H m1 H1 → StR (K.1, zz) m1 H1 s1 → (∀ n, it.gd = some n → s1[n]? = s[n]?) → ∃ vs, SqL K.1 H1 a vs ∧ RepL (K.1, zz) m1 H1 it.l vs) :
    ItW K m s ⟨((signs x).zip it.l).map fun z => .tup [z.1, z.2], it.gd⟩ (Itzs K.1 x a) H := by
  intro zz m1 H1 s1 hz e S g
  obtain ⟨vs, h1, h2⟩ := st zz m1 H1 s1 hz e S g
  have hl : (((signs x).zip it.l).map fun z => D.tup [z.1, z.2]).length = min x.cps.size vs.length := by simp [signs_len, h2.length]
  refine ⟨fun i hi => ?_, ⟨vs, h1, hl⟩, fun i d y H' hd hy => ?_⟩
  · have hi' : i < min x.cps.size vs.length := by rw [← hl]; exact hi
    exact ⟨vs, h1, by omega, by omega⟩
  · obtain ⟨T, c, v, rfl, hT, rfl, hc, hv⟩ := hy
    obtain ⟨p, q, g1, g2, rfl⟩ := zipD_get hd
    obtain ⟨c', h3, rfl⟩ := signs_get g1
    rw [hc] at h3
    cases h3
    obtain ⟨v', h5, h6⟩ := h2.get g2
    rw [hv vs h1] at h5
    cases h5
    exact ⟨same_upd hT, pair_rep S hT (.str _) h6⟩
theorem si_zipS {elts : List Expr} {kk : Nat} {p pos tpos : Pos} (hm : X.mg "zip" = none) (ha : PA X [e, e2] (tA (X.K, zz) W da)) (hg : Gl X "zip" := by rfl) (hs : starEach [e, e2] X.env = (false, eval e X.env) :: starEach [e2] X.env := by rfl) (hpl : (backTo pos (starEach [e2] X.env)).any (·.1) = false := by rfl) :
    PI X (.Tuple elts kk tpos) (.Call (.Name "zip" p) [e, e2] [] pos) (iS (X.K, zz) W (iOf itZipS da)) :=
  PI.imp (pi_zipS hg hm ha hs hpl) fun σ H R h => tG.mono (fun vs H1 ⟨m1, ds, s1, it, s2, S1, q1, e1, hR⟩ => by
    rcases two_or q1 with rfl | ⟨d, v, rfl, rfl, hd⟩ | ⟨d, e', v, u, rfl, rfl, hd, he⟩ | ⟨a, b, c, l, rfl⟩
    · cases e1
    · cases d <;> cases e1
    · cases hd with
      | str x =>
        have e1 : (itSeq e' s1).map (fun q => ((⟨((signs x).zip q.1.l).map fun z => .tup [z.1, z.2], q.1.gd⟩ : Items), q.2)) = some (it, s2) := e1
        obtain ⟨⟨it', s'⟩, h1, h2⟩ := Option.map_eq_some_iff.mp e1
        cases h2
        obtain ⟨rfl, b, xs, rfl, hx, w1⟩ := seqL_at S1 he h1
        exact ⟨x, b, xs, rfl, hx, hR m1 H1 _ Ext.refl S1 (itw_zipS x w1)⟩
      | _ => cases e1
    · cases a <;> cases e1) (iOf_in h)
@[simp] theorem wpv_itEnumS {x : Str} {s : Sto} {QI : Items → Sto → Prop} : wpv (itEnumS [.str x] s) QI = QI ⟨numD (signs x), none⟩ s := wpv_some
@[simp] theorem wpv_itZipSL {x : Str} {l : List D} {s : Sto} {QI : Items → Sto → Prop} : wpv (itZipS [.str x, .lst l] s) QI = QI ⟨((signs x).zip l).map fun z => .tup [z.1, z.2], none⟩ s := wpv_some
end
end QS
end

section
set_option Elab.async false
set_option linter.all false
set_option maxRecDepth 100000
set_option maxHeartbeats 1000000
/-! QS48: a module's dict from texts to texts, asked by get. -/
namespace QS
open PySem PySem.Spec PyProof.Rows L2 TL
abbrev Tbl := List (Str × Str)
def tget : Tbl → Str → Option Str
  | [], _ => none
  | (k, v) :: r, z => if k = z then some v else tget r z
def entB : Tbl → List DictEntry → Bool
  | [], [] => true
  | (k, v) :: r, e :: es => (match e.key, e.val with
    | .str a _, .str b _ => decide (a = k) && decide (b = v)
    | _, _ => false) && entB r es
  | _, _ => false
def dgB (x : Str) (tbl : Tbl) (K : PySem.W.Frag) : Bool := match K.lookup (He.ga K x) with
  | some ⟨_, _, .dict es _, _⟩ => entB tbl es.toList
  | _ => false
theorem entB_cons {k v : Str} {r : Tbl} {e : DictEntry} {es : List DictEntry} (h : entB ((k, v) :: r) (e :: es) = true) : (∃ t u, e.key = .str k t ∧ e.val = .str v u) ∧ entB r es = true := by
  unfold entB at h
  rw [Bool.and_eq_true] at h
  refine ⟨?_, h.2⟩
  have h1 := h.1
  split at h1
  · rename_i a t b u e1 e2
    rw [Bool.and_eq_true, decide_eq_true_eq, decide_eq_true_eq] at h1
    obtain ⟨rfl, rfl⟩ := h1
    exact ⟨t, u, e1, e2⟩
  · cases h1
theorem entB_find (z : Str) : ∀ {tbl : Tbl} {es : List DictEntry}, entB tbl es = true → (es.any (·.refKey) = false) ∧ match tget tbl z with
    | some v => ∃ e t, es.find? (·.key.isStr z) = some e ∧ e.val = .str v t
    | none => es.find? (·.key.isStr z) = none
  | [], [], _ => ⟨rfl, rfl⟩
  | [], _ :: _, h => by cases h
  | _ :: _, [], h => by cases h
  | (k, v) :: r, e :: es, h => by
    obtain ⟨⟨t, u, e1, e2⟩, h2⟩ := entB_cons h
    obtain ⟨h3, h4⟩ := entB_find z h2
    refine ⟨by rw [List.any_cons, h3, Bool.or_false]; simp [DictEntry.refKey, e1], ?_⟩
    unfold tget
    by_cases c : k = z
    · subst c
      rw [if_pos rfl]
      exact ⟨e, u, by simp [List.find?_cons, e1, Value.isStr], e2⟩
    · rw [if_neg c]
      have : e.key.isStr z = false := by rw [e1]; simpa [Value.isStr] using c
      rw [List.find?_cons, this]
      exact h4
theorem dgB_at {x : Str} {tbl : Tbl} {K : PySem.W.Frag} (h : dgB x tbl K = true) (z : Str) : match tget tbl z with
    | some v => ∃ t, PySem.W.nsIn K (He.ga K x) z = some (some (.str v t))
    | none => PySem.W.nsIn K (He.ga K x) z = some none := by
  unfold dgB at h
  unfold PySem.W.nsIn
  cases e : K.lookup (He.ga K x) with
  | none => rw [e] at h; cases h
  | some o =>
    obtain ⟨oc, od, dt, osl⟩ := o
    rw [e] at h
    cases dt with
    | dict es n =>
      have h : entB tbl es.toList = true := h
      obtain ⟨h1, h2⟩ := entB_find z h
      cases q : tget tbl z with
      | none =>
        rw [q] at h2
        simp only [h2, h1]
        rfl
      | some v =>
        rw [q] at h2
        obtain ⟨e', t, h3, h4⟩ := h2
        simp only [h3, h4]
        exact ⟨t, rfl⟩
    | _ => cases h
/-- the module's dict at x -/
def KDx (K : PySem.W.Frag) (w : World) (x : Str) : Prop := ∃ es n, KDict K w (He.ga K x) es n
def dgD (tbl : Tbl) (x : D) : V1 D := fun s => match x with
  | .str z => some (match tget tbl z with
    | some v => .str v
    | none => .non, s)
  | _ => none
def eGetG (tbl : Tbl) (e : EM) : EM := fun ρ => bnd (e ρ) fun x => lift (dgD tbl x)
section
variable {X : Cx} {zz : List Addr} {W : WX} {e : Expr} {de : EM} {apos pos p np : Pos} {j : Nat} {x : Str} {tbl : Tbl}
theorem call_getG {pins : List (Addr × Obj)} {σ : St} {H : Hp} {s : Shared} {z : Str} {u : Value} {Q : VK} (I : Inv X pins σ H s) (kd : KDx X.K X.w x) (hb : dgB x tbl X.K = true) (ru : RelV (.str z) u) (hQ : Q (match tget tbl z with
      | some v => .str v
      | none => .non) H) : wpAny (model X.prog X.w) X.A (call (.builtin "dict.get") [.ref (He.ga X.K x), u, .none]) (EP X pins σ Q) X.xe s := by
  obtain ⟨es, n, D⟩ := kd
  obtain ⟨t, rfl⟩ := ru
  refine call_meetsIn PySem.F.slot_dict_get (kd_type D I) PySem.F.entry_dict_get (PySem.F.args_dict_get_3 _ _ _) (meets_dict_get_default (strKind X.prog X.w) _ (PySem.strKind_is X.prog X.w z t) D.low _) ⟨_, PySem.W.mapOf_K (prog := X.prog) I.kIn D.at_ D.lit, ?_⟩
  have k := dgB_at hb z
  cases q : tget tbl z with
  | none =>
    rw [q] at k hQ
    rw [PySem.W.find_K D.at_ k]
    exact ⟨.non, H, I.tok _, rfl, hQ⟩
  | some v =>
    rw [q] at k hQ
    obtain ⟨t', k⟩ := k
    rw [PySem.W.find_K D.at_ k]
    exact ⟨.str v, H, I.tok _, ⟨t', rfl⟩, hQ⟩
theorem se_getG (kd : KDx X.K X.w x) (hb : dgB x tbl X.K = true) (hm : X.mg x = some (.ref (He.ga X.K x))) (he : PE X e (tE (X.K, zz) W de)) (m : M2 X (.Name x np) "get" apos e (.Constant .none j p) pos := by exact ⟨rfl, rfl, rfl, rfl⟩) (hg : Gl X x := by rfl) (hd : (x == ("__debug__" : Str)) = false := by decide) :
    PE X (.Call (.Attribute (.Name x np) "get" apos) [e, .Constant .none j p] [] pos) (tE (X.K, zz) W (eGetG tbl de)) := by
  refine ⟨fun pins s σ H Q I h => ?_⟩
  have nm : PE X (.Name x np) (tC (.ref (He.ga X.K x))) := pe_glob (v := .ref (He.ga X.K x)) hg hm rfl hd
  refine wpAny_Call_method m.base m.few m.line PySem.F.plainAttrs_dict PySem.F.slot_dict_get PySem.F.type_dict_get (thn (nm.run pins s σ H (fun v H1 => v = .ref (He.ga X.K x) ∧ H1 = H) I ⟨rfl, rfl⟩) fun u s1 ⟨y, H1, I1, ry, ey, eH⟩ => ?_)
  subst ey eH
  obtain rfl : u = Value.ref (He.ga X.K x) := ry
  obtain ⟨es, n, D⟩ := id kd
  refine ⟨kd_type D I1, fun b q => ?_, ?_⟩
  · cases q
    exact ⟨_, I1.kIn _ _ D.at_, rfl⟩
  · rw [m.trees]
    obtain ⟨m0, ρ, st, hE, hS, hG⟩ := h
    have hx : tE (X.K, zz) W de σ H1 fun v H2 => ∃ z, v = .str z ∧ Q (match tget tbl z with
        | some v => .str v
        | none => .non) H2 := by
      refine ⟨m0, ρ, st, hE, hS, (Good.bind (f := fun x => lift (dgD tbl x)) hG).mono fun v H2 ⟨m1, d, s1', e1, S1, r1, g⟩ => ?_⟩
      cases d with
      | str z =>
        cases r1
        refine ⟨z, rfl, ?_⟩
        have g : GoodV (X.K, zz) m1 H2 Q (some (match tget tbl z with
          | some v => .str v
          | none => .non, s1')) := g.lift
        cases q : tget tbl z with
        | none => rw [q] at g; exact g.here S1 .non
        | some v => rw [q] at g; exact g.here S1 (.str v)
      | _ => exact g.lift.elim
    refine Calls.callWith_builtin rfl (Calls.evalArgs_plain (Calls.spliced_cons (thn (he.run pins _ σ _ _ I1 hx) fun iv s2 ⟨y, H2, I2, ry, z, ez, q2⟩ =>
      Calls.spliced_cons (thn (pe_non.run pins s2 σ H2 (fun v H3 => v = .non ∧ H3 = H2) I2 ⟨rfl, rfl⟩) fun fv s3 ⟨y3, H3, I3, r3, e3, eH3⟩ => Calls.spliced_nil ?_))))
    subst ez e3 eH3
    obtain rfl : fv = Value.none := r3
    exact call_getG I3 kd hb ry q2
@[simp] theorem wp_eGetG {ρ : En} {s : Sto} {Q : D → Sto → Prop} {E : Ex → Sto → Prop} : wp (eGetG tbl de ρ s) Q E = wp (de ρ s) (fun y s1 => wpv (dgD tbl y s1) Q) E := by simp [eGetG]
end
end QS
end

section
set_option Elab.async false
set_option linter.all false
set_option maxRecDepth 100000
set_option maxHeartbeats 1000000
/-! QS49: the head's hook with the module's dicts. -/
namespace QS
open PySem PySem.Spec PySem.W PyProof.Rows L2 He
abbrev AlQT : Type := AlQ × List (Option (List (Option (Str × Int))))
def obsQT (file : Str) (n : Nat) (fa : List Fa) (fn : List DefD) (su : List SupD) (tf : List Defn) (ex : Frag → Bool) (ts : List Tab) (g : Addr → Option Obj) : AlQT :=
  (obsQ file n fa fn su tf ex g, ts.map fun t => dicW (frT g (asQ g n)) (t.1 (frT g (asQ g n))))
def valQT (fn : List DefD) (su : List SupD) (ts : List Tab) (w : World) : AlQT := (valQ fn su, ts.map fun t => some (keysIn w.params t.2))
def hookQT (file : Str) (n : Nat) (fa : List Fa) (fn : List DefD) (su : List SupD) (tf : List Defn) (ex : Frag → Bool) (ts : List Tab) : PySem.W.Hook where
  α := AlQT
  obs := fun s => obsQT file n fa fn su tf ex ts s.heap.get?
  val := fun w => valQT fn su ts w
  says := fun w h => ∃ K : Frag, K.In h ∧ SaysQ file fa fn su tf ex h K ∧ (ts.map fun t => dicW K (t.1 K)) = ts.map fun t => some (keysIn w.params t.2)
  of := fun _ _ e => ⟨_, frT_in, saysQ_of (congrArg (fun z : AlQT => z.1) e), congrArg (fun z : AlQT => z.2) e⟩
  keeps := fun _ _ _ ⟨K, hK, c, d⟩ k => ⟨K, Frag.In.keeps hK k, ⟨c.d, c.su, c.more, c.tb, c.hd, c.out, fun p hp => k _ _ (c.empty p hp)⟩, d⟩
theorem obsQT_eq {file : Str} {n : Nat} {fa : List Fa} {fn : List DefD} {su : List SupD} {tf : List Defn} {ex : Frag → Bool} {ts : List Tab} {g : Addr → Option Obj} {s : Shared} (h : ∀ a, g a = s.heap.get? a) : obsQT file n fa fn su tf ex ts g = (hookQT file n fa fn su tf ex ts).obs s := by
  have e : g = s.heap.get? := funext h
  rw [e] <;> rfl
theorem kdx_of {K : Frag} {w : World} {x : Str} {ks : List Str} (h : (([((fun K => ga K x), ks)] : List Tab).map fun t => dicW K (t.1 K)) = ([((fun K => ga K x), ks)] : List Tab).map fun t => some (keysIn w.params t.2)) : KDx K w x := dicW_ok (List.cons.inj h).1
/-- a world, the answer at one row of the model's said first -/
def fixW (w : World) (b : Bool) : World := { w with params := { w.params with followText := fun s => if s = "special-get-raises" then b else w.params.followText s } }
theorem fixW_eq (w : World) : fixW w (w.params.followText "special-get-raises") = w := by
  obtain ⟨d, p⟩ := w
  obtain ⟨a1, a2, a3, a4, a5, f, a7, a8, a9, a10, a11, a12, a13, a14, a15⟩ := p
  simp only [fixW]
  congr 2
  funext s
  by_cases c : s = "special-get-raises"
  · subst c; simp
  · simp [c]
end QS
end

section
set_option Elab.async false
set_option linter.all false
set_option maxRecDepth 100000
set_option maxHeartbeats 4000000
/-! QS50: dicts whose one key is a flag, None or a tuple: made, gone through. -/
namespace QS
open PySem PySem.Spec PyProof.Rows L2
theorem hash_none {P : Program} {w : World} {A : Around} {E : Value → Shared → Prop} {s : Shared} {Q : Int → Shared → Prop} (h : Q 0xFCA86420 { s with toks := s.toks + 1 }) : wpAny (model P w) A (pyHash .none) Q E s := by
  have ty : s.TypeIs .none "NoneType" := rfl
  unfold pyHash
  refine wpAny_bind ?_
  rw [cRoomFor, if_neg (by decide)]
  refine wpAny_pure (wpAny_bind (wpAny_specialOf ty PySem.F.slot_NoneType_hash.lookup ?_))
  show wpAny _ _ (if (some (Value.builtin "NoneType.__hash__") == some Value.none) = true then _ else _) Q E s
  rw [if_neg (by rw [beq_builtin_none]; exact Bool.false_ne_true)]
  refine wpAny_bind (wpAny_specialOf ty PySem.F.slot_NoneType_hash.lookup ?_)
  show wpAny _ _ (callSpecialIfBoundUnlessNone? .none "__hash__" _ >>= _) Q E s
  refine wpAny_bind (wpAny_callSpecialIfBoundUnlessNone?_slot ty PySem.F.slot_NoneType_hash (wpAny_call_entry PySem.F.slot_NoneType_hash ty PySem.F.entry_NoneType_hash
    (show wpAny _ _ (do PySem.ret (← mkInt 0xFCA86420)) _ _ s from wpAny_ret_mkInt ?_) (PySem.F.args_NoneType_hash_1 _)))
  exact wpAny_pure h
def isNn : Unit → Value → Bool
  | _, .none => true
  | _, _ => false
theorem isNn_eq {u : Unit} {v : Value} (h : isNn u v = true) : v = .none := by cases v <;> first | rfl | exact absurd h Bool.false_ne_true
def noneK (P : Program) (w : World) : PySem.KeyKind P w Unit where
  is := isNn
  hash := fun _ => 0xFCA86420
  inj := fun v a b ha hb => rfl
  byValue := fun k v h => by rw [isNn_eq h]; rfl
  pyHash := fun hv h => by rw [isNn_eq hv]; exact hash_none h
  eqBool := fun {A E s a b u v Q} hu hv h => by
    rw [isNn_eq hu, isNn_eq hv]
    exact SeqAt.EqAt.same _ _ _ _ _ h
  «strs» := fun k x t v h => absurd h Bool.false_ne_true
section
variable {X : Cx} {pos : Pos} {ke e : Expr} {tk tv : TE}
/-- an empty dict, of whatever keys -/
theorem raw_nil {P : Program} {w : World} {h : Heap} {a : Addr} {H : Hp} (x : ObjOk P w H h a (.dK [])) : (a == sysModules) = false ∧ ∃ o es ep, h.get? a = some o ∧ o.ExactDict ∧ o.data = .dict es ep ∧ es.toList = [] := by
  obtain ⟨_, hd, vs, r, o, es, ep, h1, h2, h3, _, hp, _⟩ := x
  cases r
  refine ⟨hd, o, es, ep, h1, h2, h3, ?_⟩
  cases z : es.toList with
  | nil => rfl
  | cons a r => rw [z] at hp; cases hp
theorem of_nil {K : Type} [DecidableEq K] {P : Program} {w : World} (knd : PySem.KeyKind P w K) {h : Heap} {a : Addr} {o : Obj} {es : Array DictEntry} {ep : Nat} (h1 : h.get? a = some o) (h2 : o.ExactDict) (h3 : o.data = .dict es ep) (h4 : es.toList = []) : h.DictOf knd a [] := by
  refine ⟨o, es, ep, h1, h2, h3, fun e he => ?_, ?_, List.nodup_nil⟩
  · rw [← Array.mem_toList_iff, h4] at he; cases he
  · rw [h4]; exact .nil
theorem oddO_ok {P : Program} {w : World} {H : Hp} {h : Heap} {a : Addr} {us : List V} {o : Obj} {es : Array DictEntry} {ep : Nat} (hd : (a == sysModules) = false) (hl : us.length ≤ sizeLine) (h1 : h.get? a = some o) (h2 : o.ExactDict) (h3 : o.data = .dict es ep) (h4 : Vals us (es.toList.map fun e => e.key)) : ObjOk P w H h a (OddO a o us) :=
  ⟨⟨hd, hl, h1, h2, es, ep, h3, h4⟩, ⟨o, h1⟩, fun h1 h2 ⟨a, b, c1, c2⟩ k => ⟨a, b, k _ c1, c2⟩⟩
/-- one key by its value -/
theorem pe_odd1 {K : Type} [DecidableEq K] {v : V} (knd : PySem.KeyKind X.prog X.w K) (k : K) (hv : ∀ u, RelV v u ↔ knd.is k u = true) (hk : PE X ke tk) (he : PE X e tv) :
    PE X (.Dict [some ke] [e] pos) (fun σ H Q => ∀ p, H p = none → tk σ (upd H p (.dK [])) fun x H1 => tv σ H1 fun _ H2 => H2 p = some (.dK []) ∧ x = v ∧ ∀ o, Q (.ref p) (upd H2 p (OddO p o [x]))) := by
  refine ⟨fun pins s σ H Q I q => ?_⟩
  have hn := I.hok.fresh (Nat.le_refl s.heap.objs.size)
  have I1 := I.laid (a := s.heap.objs.size) (o := .dK []) (h' := s.heap.push { cls := .type "dict", data := .dict #[] }) (t' := s.toks) (fun _ _ q => Heap.get?_push_of_some _ q) (Nat.le_refl _) (dk_empty s.heap I.big)
  refine wpAny_Dict_walk (knd := knd) rfl rfl (by simp) (by simp) (pairTrees_cons_walk (thn (hk.run pins _ σ _ _ I1 (q _ hn)) fun u1 s1 ⟨x, H1, I2, rx, q1⟩ => thn (he.run pins s1 σ H1 _ I2 q1) fun u2 s2 ⟨y, H2, I3, ry, e2, ex, q2⟩ => pairTrees_nil_walk ?_))
  subst ex
  obtain ⟨hd, o, es, ep, h1, h2, h3, h4⟩ := raw_nil (I3.hok _ _ e2)
  refine ⟨[(k, u2)], ⟨(hv u1).mp rx, rfl, True.intro⟩, of_nil knd h1 h2 h3 h4, fun h' dd hs => ?_⟩
  obtain ⟨o', es', ep', g1, g2, g3, g4, g5, g6⟩ := dd
  refine ⟨.ref s.heap.objs.size, _, ?_, rfl, q2 o'⟩
  refine d_write I3 (by rw [e2]; exact True.intro) hs ⟨o', g1⟩ (oddO_ok hd (by show 1 ≤ sizeLine; decide) g1 g2 g3 ?_)
  have hm : merged ([] : List (K × Value)) [(k, u2)] = [(k, u2)] := rfl
  rw [hm] at g5
  cases z : es'.toList with
  | nil => rw [z] at g5; cases g5
  | cons a r =>
    rw [z] at g5
    cases g5 with
    | cons c1 c2 c3 =>
      cases c3
      exact .cons ((hv _).mpr c1) .nil
/-- one key, a tuple of numbers and texts -/
theorem pe_oddT (hu : X.A.units < cLine) (hk : PE X ke tk) (he : PE X e tv) :
    PE X (.Dict [some ke] [e] pos) (fun σ H Q => ∀ p, H p = none → tk σ (upd H p (.dK [])) fun x H1 => tv σ H1 fun _ H2 => H2 p = some (.dK []) ∧ ∃ (b : Addr) (ks : List Key), x = .ref b ∧ H2 b = some (.tup (ks.map kV)) ∧ ∀ o, Q (.ref p) (upd H2 p (OddO p o [x]))) := by
  refine ⟨fun pins s σ H Q I q => ?_⟩
  have hn := I.hok.fresh (Nat.le_refl s.heap.objs.size)
  have I1 := I.laid (a := s.heap.objs.size) (o := .dK []) (h' := s.heap.push { cls := .type "dict", data := .dict #[] }) (t' := s.toks) (fun _ _ q => Heap.get?_push_of_some _ q) (Nat.le_refl _) (dk_empty s.heap I.big)
  have hz := zip_pairTrees [some ke] [e] X.env pos rfl rfl
  rw [arm_eval_Dict, hz, dictDisplay_pairs (pairTrees [some ke] [e] X.env pos) (by simp [pairTrees]) (by simp [pairTrees])]
  refine wpAny_bind (wpAny_standAt (wpAny_bind (wpAny_subDictH (knd := tupleKind (mixKind X.prog X.w)) (Q := fun d s' => wpAny (model X.prog X.w) X.A (pure (Value.ref d)) (EP X pins σ Q) X.xe s') hu (by simp [pairTrees])
    (pairTrees_cons_walk (thn (hk.run pins _ σ _ _ I1 (q _ hn)) fun u1 s1 ⟨x, H1, I2, rx, q1⟩ => thn (he.run pins s1 σ H1 _ I2 q1) fun u2 s2 ⟨y, H2, I3, ry, e2, b, ks, ex, eb, q2⟩ => pairTrees_nil_walk ?_)))))
  subst ex
  have hu1 : u1 = Value.ref b := rx
  subst hu1
  obtain ⟨hd, o, es, ep, h1, h2, h3, h4⟩ := raw_nil (I3.hok _ _ e2)
  refine ⟨[(ks, b, u2)], ⟨rfl, rfl, key_of I3.hok eb, True.intro⟩, ⟨o, es, ep, h1, h2, h3, h4, by simp, List.nodup_nil⟩, fun h' tk dd hs => wpAny_pure ?_⟩
  obtain ⟨o', es', ep', g1, g2, g3, g4, g5, g6⟩ := dd
  refine ⟨.ref s.heap.objs.size, _, ?_, rfl, q2 o'⟩
  refine d_write I3 (by rw [e2]; exact True.intro) hs ⟨o', g1⟩ (oddO_ok hd (by show 1 ≤ sizeLine; decide) g1 g2 g3 ?_)
  rw [g4]
  exact .cons rfl .nil
end
/-! in the layer -/
def eOdd (d : D) : EM := fun _ => lift fun s => some (.odd [d], s)
section
variable {X : Cx} {zz : List Addr} {W : WX} {ke e c : Expr} {pos p : Pos} {v : V}
theorem se_oddN (hk : PE X ke (tC .non)) (he : PE X e (tC v)) : PE X (.Dict [some ke] [e] pos) (tE (X.K, zz) W (eOdd .non)) :=
  PE.imp (pe_odd1 (v := .non) (noneK X.prog X.w) () (fun u => ⟨fun r => by rw [show u = Value.none from r]; rfl, fun h => isNn_eq h⟩) hk he) fun σ H Q ⟨m, ρ, s, hE, hS, hG⟩ p hp =>
    ⟨upd_same, rfl, fun o => by
      rw [QS.upd_upd]
      have g : GoodV (X.K, zz) m H Q (some (.odd [.non], s)) := hG.lift
      exact g m _ _ (Ext.same (same_upd hp)) (hS.same (same_upd hp)) (.odd (fresh_notin hS hp).1 upd_same (.cons .non .nil))⟩
theorem se_oddB {b : Bool} (hk : PE X ke (tC (.bl b))) (he : PE X e (tC v)) : PE X (.Dict [some ke] [e] pos) (tE (X.K, zz) W (eOdd (.bl b))) :=
  PE.imp (pe_odd1 (v := .bl b) (PpSet.boolK X.prog X.w) b (fun u => ⟨fun r => by rw [show u = Value.bool b from r]; exact PpSet.boolK_is _ _ _, fun h => PpSet.isB_shape h⟩) hk he) fun σ H Q ⟨m, ρ, s, hE, hS, hG⟩ p hp =>
    ⟨upd_same, rfl, fun o => by
      rw [QS.upd_upd]
      have g : GoodV (X.K, zz) m H Q (some (.odd [.bl b], s)) := hG.lift
      exact g m _ _ (Ext.same (same_upd hp)) (hS.same (same_upd hp)) (.odd (fresh_notin hS hp).1 upd_same (.cons (.bl b) .nil))⟩
theorem se_oddT {i : Int} {k : Nat} {kk : Nat} {tp : Pos} (hr : RoomG k X.A) (hc : PE X c (tC (.int i))) (he : PE X e (tC v)) (hs : starEach [c] X.env = (false, eval c X.env) :: starEach [] X.env := by rfl) :
    PE X (.Dict [some (.Tuple [c] kk tp)] [e] pos) (tE (X.K, zz) W (eOdd (.tup [.int i]))) :=
  PE.imp (pe_oddT (by have := hr.un; omega) (pe_tup (pa_cons hc pa_nil hs)) he) fun σ H Q ⟨m, ρ, s, hE, hS, hG⟩ p hp =>
    ⟨by show 1 ≤ sizeLine; decide, fun T hT => by
      have ne : p ≠ T := fun z => by subst z; rw [upd_same] at hT; cases hT
      have hT0 : H T = none := by rw [← hT, upd_ne (Ne.symm ne)]
      refine ⟨by rw [upd_ne ne, upd_same], T, [.inl i], rfl, upd_same, fun o => ?_⟩
      have g : GoodV (X.K, zz) m H Q (some (.odd [.tup [.int i]], s)) := hG.lift
      have sm : Same H (upd (upd (upd H p (.dK [])) T (.tup [.int i])) p (OddO p o [.ref T])) := fun a u z => by
        by_cases h1 : a = p
        · subst h1; rw [hp] at z; cases z
        · by_cases h2 : a = T
          · subst h2; rw [hT0] at z; cases z
          · rw [upd_ne h1, upd_ne h2, upd_ne h1]; exact z
      refine g m _ _ (Ext.same sm) (hS.same sm) (.odd (fresh_notin hS hp).1 upd_same (.cons (.tup (.inl (.inl ?_)) (.cons (.int i) .nil)) .nil))
      rw [upd_ne (Ne.symm ne), upd_same]⟩
end
/-! gone through -/
def Ito (d : Addr) (o : Obj) (us : List V) : It := ⟨fun i H => H d = some (OddO d o us) ∧ i < us.length, fun i H v H' => H' = H ∧ us[i]? = some v, fun i H => H d = some (OddO d o us) ∧ us.length ≤ i⟩
theorem oddO_at {P : Program} {w : World} {H : Hp} {h : Heap} {d : Addr} {o : Obj} {us : List V} (ok : HOk P w H h) (e : H d = some (OddO d o us)) : (d == sysModules) = false ∧ us.length ≤ sizeLine ∧ h.get? d = some o ∧ o.ExactDict ∧ ∃ es ep, o.data = .dict es ep ∧ Vals us (es.toList.map fun e => e.key) :=
  (show ObjOk P w H h d (OddO d o us) from ok d _ e).1
theorem turn_odd {P : Program} {w : World} {K : PySem.W.Frag} {tg : Expr} {d : Addr} {o : Obj} {es : Array DictEntry} {ep : Nat} {us : List V} (it : Addr) (hod : o.data = .dict es ep) : Turn P w K tg (Ito d o us) [it] it (fun i h => h.IsKeyIter it d i es.size ep) where
  mem := List.mem_singleton.mpr rfl
  obj := fun i h st b hb => by
    obtain rfl := List.mem_singleton.mp hb
    obtain ⟨oi, e, c, dd⟩ := st
    exact ⟨oi, e, fun v z => by rw [dd] at z; cases z⟩
  keep := fun i h h' st k => st.at fun oi e => k it (List.mem_singleton.mpr rfl) oi e
  item := fun X hP hw hK hc i pins s σ H E I hf st hg => by
    subst hP hw hK
    obtain ⟨hd, hi⟩ := hg
    obtain ⟨f0, f1, f2, f3, f4, f5⟩ := hf it (List.mem_singleton.mpr rfl)
    obtain ⟨z1, z2, z3, z4, es', ep', z5, z6⟩ := oddO_at I.hok hd
    obtain ⟨y1, y2⟩ := dict_ep hod z5
    subst es' ep'
    have hl : us.length = es.size := by rw [z6.length, List.length_map, Array.length_toList]
    have hi2 : i < es.size := by rw [← hl]; exact hi
    refine wpAny_pyNext_keys_item_raw st ⟨o, z3, z4, hod⟩ hi2 fun h' st' sb => ?_
    have I1 : Inv X pins σ H { s with heap := h' } := I.turned (t' := s.toks) (fun b ob hb e => sb.extBut b ob hb e) f0 f1 f3 f4 f5
    obtain ⟨oi, e, c, dd⟩ := id st'
    obtain ⟨u, h1, h2⟩ := z6.get (List.getElem?_eq_getElem hi)
    have h3 : u = es[i].key := by
      rw [List.getElem?_map, Array.getElem?_toList, Array.getElem?_eq_getElem hi2] at h1
      exact (Option.some.inj h1).symm
    subst h3
    exact ⟨_, rfl, go_of (s := { s with heap := h' }) e c dd (by decide) ⟨us[i], H, I1, h2, ⟨rfl, List.getElem?_eq_getElem hi⟩, st', fun b hb => (hf b hb).1⟩⟩
  done := fun X hP hw hK hc i pins s σ H E I hf st hg => by
    subst hP hw hK
    obtain ⟨hd, hi⟩ := hg
    obtain ⟨f0, f1, f2, f3, f4, f5⟩ := hf it (List.mem_singleton.mpr rfl)
    obtain ⟨z1, z2, z3, z4, es', ep', z5, z6⟩ := oddO_at I.hok hd
    obtain ⟨y1, y2⟩ := dict_ep hod z5
    subst es' ep'
    have hl : us.length = es.size := by rw [z6.length, List.length_map, Array.length_toList]
    exact wpAny_pyNext_keys_end_raw (I.ok.hd hc) st ⟨o, z3, z4, hod⟩ (by omega) fun h' eb => ⟨rfl, I.turned (t' := s.toks) (fun b ob hb e => eb b ob hb e) f0 f1 f3 f4 f5⟩
  self := fun A i s Q E st h => wpAny_pyIter_keyiter st h
def iOdd (t : TE) : TI := fun σ H R => t σ H fun x H1 => ∃ d o us, x = .ref d ∧ H1 d = some (OddO d o us) ∧ R (Ito d o us) H1
theorem pi_odd {X : Cx} {tg e : Expr} {td : TE} (he : PE X e td) : PI X tg e (iOdd td) := ⟨fun pins s σ H R I h => thn (he.run pins s σ H _ I h) fun u s1 ⟨x, H1, I1, rx, d, o, us, ex, hd, q⟩ => by
  subst ex
  have hu : u = Value.ref d := rx
  subst hu
  obtain ⟨z1, z2, z3, z4, es, ep, z5, z6⟩ := oddO_at I1.hok hd
  exact wpAny_pyIter_dict_raw z1 ⟨o, z3, z4, z5⟩ (pi_one (tk := s1.toks) I1 _ (turn_odd _ z5) ⟨_, Heap.get?_push_size _ rfl, rfl, rfl⟩ q)⟩
def itOddK (x : D) : V1 Items := fun s => match x with
  | .odd ks => some (⟨ks, none⟩, s)
  | _ => none
theorem itw_odd {K : KZ} {m : List Addr} {s : Sto} {H : Hp} {a : Addr} {o : Obj} {ks : List D} {us : List V} (S0 : StR K m H s) (n : a ∉ m) (h1 : H a = some (OddO a o us)) (r : RepL K m H ks us) : ItW K m s ⟨ks, none⟩ (Ito a o us) H := by
  intro zz m1 H1 s1 hz e S _
  have q1 : H1 a = some (OddO a o us) := e.keepE a _ h1 oddO_ne n oddO_nd
  have q2 : RepL (K.1, zz) m1 H1 ks us := RepL.chg (chg_ext S0.noTup hz e) r
  have hl : ks.length = us.length := r.length
  refine ⟨fun i hi => ⟨q1, by have hi : i < ks.length := hi; omega⟩, ⟨q1, by show us.length ≤ ks.length; omega⟩, fun i d x H' hd hy => ?_⟩
  obtain ⟨rfl, e2⟩ := hy
  obtain ⟨v, h3, h4⟩ := RepL.get q2 hd
  rw [e2] at h3
  cases h3
  exact ⟨Same.refl _, h4⟩
theorem si_oddK {X : Cx} {zz : List Addr} {W : WX} {tg e : Expr} {de : EM} (he : PE X e (tE (X.K, zz) W de)) : PI X tg e (iS (X.K, zz) W (iOf itOddK de)) :=
  PI.imp (pi_odd he) fun σ H R h => tG.mono (fun v H1 ⟨m1, d, s1, it, s2, S1, q1, e1, hR⟩ => by
    cases d with
    | odd ks =>
      cases e1
      cases q1 with
      | odd n h r => exact ⟨_, _, _, rfl, h, hR m1 H1 _ Ext.refl S1 (itw_odd S1 n h r)⟩
    | _ => cases e1) (iOf_in h)
def itKeysO : D → V1 Items := orI itKeys itOddK
theorem si_keysO {X : Cx} {zz : List Addr} {W : WX} {tg e : Expr} {de : EM} (he : PE X e (tE (X.K, zz) W de)) : PI X tg e (iS (X.K, zz) W (iOf itKeysO de)) :=
  PI.or (si_keys he) (si_oddK he) fun _ _ _ h => iS_or h
end QS
end

section
set_option Elab.async false
set_option linter.all false
set_option maxRecDepth 100000
set_option maxHeartbeats 4000000
/-! QS51: dicts with number keys: sorted, their values gone through, displays, list(d); a group of rows sealed. -/
namespace QS
open PySem PySem.Spec PyProof.Rows L2 TL
/-! sorted(d), numbers -/
def intKeys : List Key → Option (List Int)
  | [] => some []
  | .inl i :: r => (intKeys r).map (i :: ·)
  | .inr _ :: _ => none
theorem intKeys_at : ∀ {ks : List Key} {is : List Int}, intKeys ks = some is → ks = is.map Sum.inl
  | [], _, h => by cases h; rfl
  | .inl i :: r, _, h => by
    obtain ⟨t, h1, rfl⟩ := Option.map_eq_some_iff.mp h
    rw [List.map_cons, ← intKeys_at h1]
  | .inr _ :: _, _, h => nomatch h
def sortI (is : List Int) : List Int := is.mergeSort (fun a b => decide (a ≤ b))
theorem sortI_perm (is : List Int) : (sortI is).Perm is := List.mergeSort_perm _ _
theorem sortI_sorted (is : List Int) : (sortI is).Pairwise (· ≤ ·) := by
  have := List.pairwise_mergeSort (le := fun a b : Int => decide (a ≤ b)) (fun a b c h1 h2 => by simp only [decide_eq_true_eq] at *; omega) (fun a b => by simp only [Bool.or_eq_true, decide_eq_true_eq]; omega) is
  exact this.imp fun h => by simpa using h
theorem sorted_oneI : ∀ {l m : List Int}, l.Pairwise (· ≤ ·) → m.Pairwise (· ≤ ·) → l.Perm m → l = m
  | [], m, _, _, p => by rw [List.nil_perm.mp p]
  | a :: l, [], _, _, p => absurd p.length_eq (by simp)
  | a :: l, b :: m, h1, h2, p => by
    obtain ⟨p1, p2⟩ := List.pairwise_cons.mp h1
    obtain ⟨q1, q2⟩ := List.pairwise_cons.mp h2
    have hb : b ∈ a :: l := p.mem_iff.mpr List.mem_cons_self
    have ha : a ∈ b :: m := p.mem_iff.mp List.mem_cons_self
    have e : a = b := by
      rcases List.mem_cons.mp hb with e | e
      · exact e.symm
      · rcases List.mem_cons.mp ha with z | z
        · exact z
        · have := p1 b e
          have := q1 a z
          omega
    subst e
    rw [sorted_oneI p2 q2 (List.Perm.cons_inv p)]
def gSortedDI (mu : Bool) : List D → V1 D := fun xs s => match xs with
  | [x] => (dicOf s x).bind fun p => (intKeys p.1).bind fun is => if is.length < 64 then new mu ((sortI is).map D.int) s else none
  | _ => none
theorem rep_is {K : KZ} {m : List Addr} {H : Hp} : ∀ is : List Int, RepL K m H (is.map D.int) (is.map V.int)
  | [] => .nil
  | i :: r => .cons (.int i) (rep_is r)
section
variable {X : Cx} {zz : List Addr}
theorem c_sortedDI {mu : Bool} (hc : X.calm = true := by rfl) : CallR X (.builtin "sorted") (rL (X.K, zz) (gSortedDI mu)) := by
  intro pins s σ H xs us Q I r h
  obtain ⟨m, ds, st, S, rr, hG⟩ := h
  rcases two_or rr with rfl | ⟨d, v, rfl, rfl, hd⟩ | ⟨d, e, v, u, rfl, rfl, hd, he⟩ | ⟨a, b, c, l, rfl⟩
  · exact hG.elim
  · have hG : GoodV (X.K, zz) m H Q ((dicOf st d).bind fun p => (intKeys p.1).bind fun is => if is.length < 64 then new mu ((sortI is).map D.int) st else none) := hG
    cases h1 : dicOf st d with
    | none => rw [h1] at hG; exact hG.elim
    | some p =>
      rw [h1] at hG
      obtain ⟨ks, ds⟩ := p
      cases h2 : intKeys ks with
      | none => simp only [Option.bind_some, h2, Option.bind_none] at hG; exact hG.elim
      | some is =>
        simp only [Option.bind_some, h2] at hG
        by_cases c : is.length < 64
        · rw [if_pos c] at hG
          obtain ⟨a, vs, rfl, l, e1, q1⟩ := dicOf_at S hd h1
          refine call_sortedDI hc pins s σ H _ us Q I r ⟨a, _, is, rfl, e1, ?_, c, fun ys p hy hs hp => ?_⟩
          · rw [← intKeys_at h2]
            exact List.map_fst_zip (by omega)
          · rw [sorted_oneI hs (sortI_sorted is) (hy.trans (sortI_perm is).symm)]
            exact new_ok S (rep_is _) hG p hp
        · rw [if_neg c] at hG; exact hG.elim
  · exact hG.elim
  · exact hG.elim
/-! list(d) -/
def gListDk (mu : Bool) : List D → V1 D := fun xs s => match xs with
  | [x] => (dicOf s x).bind fun p => new mu (p.1.map keyD) s
  | _ => none
theorem rep_keys {K : KZ} {m : List Addr} {H : Hp} : ∀ ks : List Key, RepL K m H (ks.map keyD) (ks.map kV)
  | [] => .nil
  | k :: r => .cons (keyD_rep k) (rep_keys r)
theorem c_listDk {mu : Bool} (hc : X.calm = true := by rfl) : CallR X (.type "list") (rL (X.K, zz) (gListDk mu)) := by
  intro pins s σ H xs us Q I r h
  obtain ⟨m, ds, st, S, rr, hG⟩ := h
  rcases two_or rr with rfl | ⟨d, v, rfl, rfl, hd⟩ | ⟨d, e, v, u, rfl, rfl, hd, he⟩ | ⟨a, b, c, l, rfl⟩
  · exact hG.elim
  · have hG : GoodV (X.K, zz) m H Q ((dicOf st d).bind fun p => new mu (p.1.map keyD) st) := hG
    cases h1 : dicOf st d with
    | none => rw [h1] at hG; exact hG.elim
    | some p =>
      rw [h1] at hG
      obtain ⟨ks, ds⟩ := p
      simp only [Option.bind_some] at hG
      obtain ⟨a, vs, rfl, l, e1, q1⟩ := dicOf_at S hd h1
      refine call_listD hc pins s σ H _ us Q I r ⟨a, _, rfl, e1, fun p hp => ?_⟩
      have e : (ks.zip vs).map (fun kv => kV kv.1) = ks.map kV := by
        have e2 : (ks.zip vs).map (fun kv => kV kv.1) = ((ks.zip vs).map Prod.fst).map kV := by rw [List.map_map]; rfl
        rw [e2, List.map_fst_zip (by omega)]
      rw [e]
      exact new_ok S (rep_keys _) hG p hp
  · exact hG.elim
  · exact hG.elim
end
/-! the values gone through -/
def itValsD (x : D) : V1 Items := fun s => match x with
  | .dic ks ds => if ks.length = ds.length then some (⟨ds, none⟩, s) else none
  | _ => none
theorem itw_vals {K : KZ} {m : List Addr} {s : Sto} {H : Hp} {a : Addr} {ks : List Key} {ds : List D} {vs : List V} {ob : Obj} (S0 : StR K m H s) (n : Nin K m a) (h1 : H a = some (.frz ob (.dK (ks.zip vs)))) (hl : ks.length = vs.length) (r : RepL K m H ds vs) : ItW K m s ⟨ds, none⟩ (Itd a ob (ks.zip vs)) H := by
  intro zz m1 H1 s1 hz e S _
  have q1 : H1 a = some (.frz ob (.dK (ks.zip vs))) := e.keepE a _ h1 (fun _ z => nomatch z) n.1
  have q2 : RepL (K.1, zz) m1 H1 ds vs := RepL.chg (chg_ext S0.noTup hz e) r
  have hl2 : (ks.zip vs).length = ds.length := by rw [List.length_zip, r.length]; omega
  refine ⟨fun i hi => ⟨q1, by rw [hl2]; exact hi⟩, ⟨q1, by show (ks.zip vs).length ≤ ds.length; omega⟩, fun i d x H' hd hy => ?_⟩
  obtain ⟨rfl, k, e2⟩ := hy
  obtain ⟨v, h3, h4⟩ := RepL.get q2 hd
  have e3 := (List.getElem?_zip_eq_some.mp e2).2
  rw [h3] at e3
  cases e3
  exact ⟨Same.refl _, h4⟩
theorem si_valsD {X : Cx} {zz : List Addr} {W : WX} {tg e : Expr} {de : EM} {apos cpos : Pos} (he : PE X e (tE (X.K, zz) W de)) (hbase : attributeBase e "values" X.env (eval e X.env) = eval e X.env := by rfl) (hline : (apos.endLine == cpos.line) = true := by rfl) :
    PI X tg (.Call (.Attribute e "values" apos) [] [] cpos) (iS (X.K, zz) W (iOf itValsD de)) :=
  PI.imp (pi_values (pe_lk he) hbase hline) fun σ H R h => tG.mono (fun v H1 ⟨m1, d, s1, it, s2, S1, q1, e1, hR⟩ => by
    cases d with
    | dic ks ds =>
      have e1 : (if ks.length = ds.length then some ((⟨ds, none⟩ : Items), s1) else none) = some (it, s2) := e1
      by_cases c : ks.length = ds.length
      · rw [if_pos c] at e1
        cases e1
        obtain ⟨d, kvs, ex, c⟩ := lk_in (J := Itd) S1 q1 (fun a ob vs H2 S2 n e l q => itw_vals S2 n e l q) hR
        refine ⟨d, kvs, ex, ?_⟩
        rcases c with ⟨ob, e, o, e2, q⟩ | ⟨e, q⟩
        · exact .inl ⟨ob, e, d, o, kvs, ex, e2, q⟩
        · refine .inr ⟨e, fun ob => ?_⟩
          obtain ⟨o, e2, q2⟩ := q ob
          exact ⟨d, o, kvs, ex, e2, q2⟩
      · rw [if_neg c] at e1; cases e1
    | _ => cases e1) (iOf_in h)
/-! displays of several constant items -/
def eDicC (ks : List Key) (ds : List D) : EM := fun _ => lift (newD false ks ds)
theorem pairs_tC {σ : St} {H : Hp} : ∀ (l : List (Key × V)) (Q : List (V × V) → Hp → Prop), Q (l.map fun p => (kV p.1, p.2)) H → tPairs (l.map fun p => (tC (kV p.1), tC p.2)) σ H Q
  | [], Q, h => h
  | p :: r, Q, h => pairs_tC r _ h
theorem se_dicC {X : Cx} {zz : List Addr} {W : WX} {keys : List (Option Expr)} {values : List Expr} {pos : Pos} {ks : List Key} {ds : List D} {vs : List V} (h : PPs X pos keys values ((ks.zip vs).map fun p => (tC (kV p.1), tC p.2)))
    (hl : ks.length = vs.length) (hm : mergeK [] (ks.zip vs) = ks.zip vs) (hr : ∀ K m H, RepL K m H ds vs) (hall : keys.all (·.isSome) = true) (hl2 : keys.length = values.length) (h0 : keys ≠ []) (h15 : keys.length ≤ 15) (h16 : ks.length ≤ 15) : PE X (.Dict keys values pos) (tE (X.K, zz) W (eDicC ks ds)) :=
  PE.imp (pe_disp h hall hl2 h0 h15) fun σ H Q ⟨m, ρ, s, hE, hS, hG⟩ p hp => pairs_tC _ _ ⟨upd_same, ks.zip vs, rfl, by rw [List.length_zip]; omega, by
    rw [QS.upd_upd, hm]
    exact newD_ok hS (hr _ _ _) hl hG.lift p hp⟩
/-! a group of rows, what it has laid is left behind -/
def fzEn (n : Nat) (s : Sto) : En → Option En
  | [] => some []
  | none :: r => (fzEn n s r).map (none :: ·)
  | some d :: r => (frz 4 n s d).bind fun d' => (fzEn n s r).map (some d' :: ·)
open Classical in
noncomputable def sFz (g e : SM) : SM := fun ρ s => match g ρ s with
  | .nx ρ' s' => (match fzEn s.length s' ρ' with
    | some ρ2 => if OldOk s s' then e ρ2 (s'.take s.length) else .stuck
    | none => .stuck)
  | r => r
section
variable {K : KZ} {m m0 m' : List Addr} {H H0 H' : Hp} {s s0 s' : Sto} {ρ ρ' : En} {σ : St} {W : WX} {g e a b c : SM} {D : Ends}
theorem fzEn_at {n : Nat} : ∀ {ρ ρ' : En}, fzEn n s ρ = some ρ' → ρ.length = ρ'.length ∧ ∀ (i : Nat) d', ρ'[i]? = some (some d') → ∃ d, ρ[i]? = some (some d) ∧ frz 4 n s d = some d'
  | [], _, h => by cases h; exact ⟨rfl, fun i d' h => by simp at h⟩
  | none :: r, _, h => by
    obtain ⟨t, h1, rfl⟩ := Option.map_eq_some_iff.mp h
    obtain ⟨l, q⟩ := fzEn_at h1
    refine ⟨by simp [l], fun i d' hi => ?_⟩
    cases i with
    | zero => simp at hi
    | succ i => simpa using q i d' (by simpa using hi)
  | some d :: r, _, h => by
    obtain ⟨d2, h1, h2⟩ := Option.bind_eq_some_iff.mp h
    obtain ⟨t, h3, rfl⟩ := Option.map_eq_some_iff.mp h2
    obtain ⟨l, q⟩ := fzEn_at h3
    refine ⟨by simp [l], fun i d' hi => ?_⟩
    cases i with
    | zero =>
      simp at hi
      subst hi
      exact ⟨d, rfl, h1⟩
    | succ i => simpa using q i d' (by simpa using hi)
theorem EnR.fz {n : Nat} (r : EnR K m H ρ σ) (S : StR K m H s) (h : fzEn n s ρ = some ρ') : EnR K (m.take n) H ρ' σ := by
  obtain ⟨l, q⟩ := fzEn_at h
  refine ⟨by rw [← l]; exact r.len, fun i d' hi => ?_⟩
  obtain ⟨d, h1, h2⟩ := q i d' hi
  obtain ⟨v, h3, h4⟩ := r.at_ i d h1
  exact ⟨v, h3, frz_rep S 4 n d v d' h4 h2⟩
theorem fz_in {σ : St} (h : tS K W (sFz g e) D σ H) : tS K W g { nx := fun σ' H' => tS K W e D σ' H', rt := D.rt, bk := D.bk, ct := D.ct } σ H := by
  obtain ⟨m, ρ, s, hE, hS, hG⟩ := h
  refine ⟨m, ρ, s, hE, hS, ?_⟩
  unfold sFz at hG
  cases z : g ρ s with
  | nx ρ' s' =>
    rw [z] at hG
    simp only at hG
    intro m' H' σ' x S E
    cases z2 : fzEn s.length s' ρ' with
    | none => rw [z2] at hG; exact hG.elim
    | some ρ2 =>
      rw [z2] at hG
      simp only at hG
      by_cases c : OldOk s s'
      · rw [if_pos c] at hG
        have E2 := E.fz S z2
        rw [seal_take hS x] at E2
        exact ⟨m, ρ2, _, E2, seal_str hS x S c, hG.trans (seal_ext x)⟩
      · rw [if_neg c] at hG; exact hG.elim
  | rt d s' => rw [z] at hG; exact hG
  | bk ρ' s' => rw [z] at hG; exact hG
  | ct ρ' s' => rw [z] at hG; exact hG
  | exn x ρ' s' => rw [z] at hG; exact hG
  | stuck => rw [z] at hG; exact hG
end
section
variable {X : Cx} {zz : List Addr} {W : WX} {a b c d f g : Stmt} {r : List Stmt} {da db dc dd df dg e : SM}
theorem ss_fz2 (h1 : PS X a (tS (X.K, zz) W da)) (h2 : PS X b (tS (X.K, zz) W db)) (hr : PSs X r (tS (X.K, zz) W e)) : PSs X (a :: b :: r) (tS (X.K, zz) W (sFz (sSeq da db) e)) :=
  PSs.imp (pss_cons h1 (pss_cons h2 hr)) fun _ _ _ h => seq_in (fz_in h)
end
end QS
end

section
set_option Elab.async false
set_option linter.all false
set_option maxRecDepth 100000
set_option maxHeartbeats 4000000
/-! QS52: a try whose first clause takes all that comes. -/
namespace QS
open PySem PySem.Spec PyProof.Rows L2
/-- what the first clause wishes -/
def wFst (K : PySem.W.Frag) (c : Value) (i : Nat) (ts : Addr → Value → Option Addr → TS) (D : Ends) : WX := fun cl d σ H =>
  PySem.W.exmOne K cl c = some true ∧ ∀ a, H a = none → ts a cl d { nx := fun τ G => D.nx (τ.set i none) G, rt := D.rt, bk := fun τ G => D.bk (τ.set i none) G, ct := fun τ G => D.ct (τ.set i none) G } (σ.set i (some (.ref a))) H
section
variable {X : Cx} {x n : Str} {c : Value} {i : Nat} {body suite : List Stmt} {st : Stmt} {np pos pos' : Pos} {tb : WX → TS} {ts : Addr → Value → Option Addr → TS} {hds : List ExceptHandler}
theorem ps_try_fst (hs : X.stack = X.env :: X.outer) (hf : X.env.frame = some X.env.locals) (hN : X.N.Nodup) (hi : X.N[i]? = some n) (hln : X.env.kindOf n = some .local) (hc : Names X x c)
    (hb : ∀ (Y : WX) (pn : List (Addr × Obj)) (xe : Value → Shared → Prop), Takes (X.tr pn xe) Y → PassesOwn (model X.prog X.w) X.A X.env xe → PSs (X.tr pn xe) body (tb Y))
    (hsu : ∀ (a : Addr) (oe : Obj) (cl : Value) (d : Option Addr) (pn : List (Addr × Obj)), Zc cl d oe → (∃ vs, oe.data = .fields vs) → PSs (X.suite a ((a, oe) :: pn)) (st :: suite) (ts a cl d)) :
    PS X (.Try body (.ExceptHandler (some (.Name x np)) (some n) (st :: suite) pos' :: hds) [] [] pos) (fun D σ H => tb (wFst X.K c i ts D) D σ H) := ⟨fun pins s σ H D I h => by
  have ok := I.ok
  have fr : X.A.frames = some (X.env :: X.outer) := by rw [ok.frames, hs]
  refine wpAny_Try_except (wpAny_mono ((hb (wFst X.K c i ts D) (X.pn ++ pins) (fun e t1 => wpAny (model X.prog X.w) X.A (noteFrame e X.env)
    (fun _ t2 => wpAny (model X.prog X.w) X.A (setFlight e none) (fun _ t3 => wpAny (model X.prog X.w) X.A
      (handleBy e X.env (.ExceptHandler (some (.Name x np)) (some n) (st :: suite) pos' :: hds)) (SP X pins D) X.xe t3) X.xe t2) X.xe t1)
    (fun u s' z => ?_) PassesOwn.looking).run [] s σ H D (I.toTry _) h) (fun f s1 q => ?_) fun _ _ z => z)
  · obtain ⟨a, B, sI, ps, σ', H', cl, d, rfl, J0, nb, up, sky, na, os, ag, hm, hyes⟩ := z
    have J := J0.ofTry ok
    have sky2 : Sky B (X.env :: X.outer) a (Zc cl d) X.env.locals s'.heap := by rw [← hs]; exact sky
    show wpAny _ X.A (noteFrame (.ref a) X.env) _ _ _
    refine Sky.land Zc.steady fr hf sky2 fun h3 fl3 up3 => ?_
    have J3 : Inv X pins σ' H' { s' with heap := h3 } :=
      J.landed nb fl3.1 (up.trans up3) os ag
    obtain ⟨o3, v3, e3, z3, d3⟩ := fl3.there
    have out : a ∉ frs (X.env :: X.outer) := fun hm => by
      obtain ⟨_, o', e', no⟩ := fl3.2.2.1.mem hm
      rw [e3] at e'
      cases e'
      exact no _ d3
    have out1 : a ≠ X.env.locals := fun z => out (List.mem_filterMap.mpr ⟨X.env, List.mem_cons_self, by rw [hf, z]⟩)
    have out2 : a ∉ X.fs := fun hm => by
      obtain ⟨e, he, q⟩ := List.mem_filterMap.mp hm
      exact out (List.mem_filterMap.mpr ⟨e, List.mem_cons_of_mem _ he, q⟩)
    have T3 := J3.suite e3 d3 na out1 out2
    refine wpAny_handleBy_cons (codeAny_handlers_test ?_) (fun z => by cases z)
    have look : PySem.W.Looks (model X.prog X.w) h3 (typeOf (.ref a)) cl := fun A Q E s k q => wpAny_typeOf_ref (k _ _ e3) (by rw [z3.1]; exact q)
    have meets := PySem.W.exm_one (M := model X.prog X.w) J3.kIn look hm
    have name : ∀ {Q : Value → Shared → Prop} {E : Value → Shared → Prop}, Q c { s' with heap := h3 } → wpAny (model X.prog X.w) (X.A.mark (some (.ref a)))
        (eval (.Name x np) X.env) Q E { s' with heap := h3 } := fun {Q E} q => by
      obtain ⟨hg, hdb, hm | ⟨hm, hv, hnn⟩⟩ := hc
      · exact ld_glob (X := X.suite a ((a, o3) :: (X.pn ++ pins))) T3 hg hm q hdb
      · exact ld_blt (X := X.suite a ((a, o3) :: (X.pn ++ pins))) T3 hg hm hv q hnn hdb
    refine name (meets.here (codeAny_handlers_suite_as (HandSPX.lands_againZ fl3 fun h4 fl4 up4 => ?_)))
    have J4 : Inv X pins σ' H' { s' with heap := h4 } :=
      J.landed nb fl4.1 ((up.trans up3).trans up4) os ag
    obtain ⟨o4, v4, e4, z4, d4⟩ := fl4.there
    have T4 := J4.suite e4 d4 na out1 out2
    refine store_ok (X := X.suite a ((a, o4) :: (X.pn ++ pins))) (v := .ref a) T4 hN hi (.inl hln) rfl (fun s5 T5 => ?_) (.inr hln)
    refine wpAny_mono ((hsu a o4 cl d (X.pn ++ pins) z4 ⟨_, d4⟩).run [] s5 _ H' _ T5 (hyes a na)) (fun f s6 q => ?_) fun _ _ z => z.elim
    have fin : ∀ {τ : St} {G : Hp} {Q : Shared → Prop}, Inv (X.suite a ((a, o4) :: (X.pn ++ pins))) [] τ G s6 → (∀ s7, Inv X pins (τ.set i none) G s7 → Q s7) →
        wpAny (model X.prog X.w) X.A (do bindName X.env n .none; unbindBehindTheSuite X.env n pos') (fun _ s7 => Q s7) X.xe s6 := fun T hq => gone_ok (T.unsuite ok) hN hi hln hq
    cases f with
    | ret u =>
      obtain ⟨v, τ, G, T, r, q⟩ := q
      exact fin T fun s7 J7 => ⟨_, _, _, J7, r, q⟩
    | next =>
      obtain ⟨τ, G, T, q⟩ := q
      exact fin T fun s7 J7 => ⟨_, _, J7, q⟩
    | brk =>
      obtain ⟨τ, G, T, q⟩ := q
      exact fin T fun s7 J7 => ⟨_, _, J7, q⟩
    | cont =>
      obtain ⟨τ, G, T, q⟩ := q
      exact fin T fun s7 J7 => ⟨_, _, J7, q⟩
  · cases f with
    | ret u =>
      obtain ⟨v, τ, G, J, r, q⟩ := q
      exact ⟨v, τ, G, J.ofTry ok, r, q⟩
    | next =>
      obtain ⟨τ, G, J, q⟩ := q
      exact wpAny_execs_nil ⟨τ, G, J.ofTry ok, q⟩
    | brk =>
      obtain ⟨τ, G, J, q⟩ := q
      exact ⟨τ, G, J.ofTry ok, q⟩
    | cont =>
      obtain ⟨τ, G, J, q⟩ := q
      exact ⟨τ, G, J.ofTry ok, q⟩⟩
end
/-- the first clause or none -/
def mtF (mt : Ex → Option Bool) : Ex → Option Bool := fun y => if mt y = some true then some true else none
theorem mtF_some {mt : Ex → Option Bool} {y : Ex} {b : Bool} (h : mtF mt y = some b) : b = true ∧ mt y = some true := by
  unfold mtF at h
  split at h
  · cases h; exact ⟨rfl, by assumption⟩
  · cases h
section
variable {zz : List Addr} {X : Cx} {W : WX} {x n : Str} {i : Nat} {body suite : List Stmt} {b₀ : Stmt} {np pos pos' : Pos} {db : SM} {hh : Addr → Option Addr → Ex → SM} {mt : Ex → Option Bool} {c : Value} {hds : List ExceptHandler}
theorem s_try_fst (hs : X.stack = X.env :: X.outer) (hf : X.env.frame = some X.env.locals) (hN : X.N.Nodup) (hc : Names X x c)
    (hm : ∀ y b cv, mt y = some b → (if y.own = true then cv = .ref (He.ga X.K y.cls) else cv = .type y.ty) → PySem.W.exmOne X.K cv c = some b)
    (hb : ∀ (Y : WX) (pn : List (Addr × Obj)) (xe : Value → Shared → Prop), Takes (X.tr pn xe) Y → PassesOwn (model X.prog X.w) X.A X.env xe → PSs (X.tr pn xe) body (tS (X.K, zz) Y db))
    (hsu : ∀ (a : Addr) (oe : Obj) (y : Ex) (cv : Value) (d : Option Addr) (pn : List (Addr × Obj)), mtF mt y = some true → (if y.own = true then cv = .ref (He.ga X.K y.cls) else cv = .type y.ty) → Zc cv d oe → (∃ vs, oe.data = .fields vs) → PSs (X.suite a ((a, oe) :: pn)) (b₀ :: suite) (tS (X.K, zz) W0 (hh a d y)))
    (hi : X.N[i]? = some n := by rfl) (hln : X.env.kindOf n = some .local := by rfl) :
    PS X (.Try body (.ExceptHandler (some (.Name x np)) (some n) (b₀ :: suite) pos' :: hds) [] [] pos) (tS (X.K, zz) W (sTry (mtF mt) i db hh)) := by
  refine PS.imp (ps_try_fst (c := c) (tb := fun W => tS (X.K, zz) W db) (ts := fun a cv d D σ H => ∃ y, mtF mt y = some true ∧ (if y.own = true then cv = .ref (He.ga X.K y.cls) else cv = .type y.ty) ∧ tS (X.K, zz) W0 (hh a d y) D σ H) hs hf hN hi hln hc hb
    (fun a oe cv d pn hz hv => ⟨fun pins s σ H D I ⟨y, h1, h2, h3⟩ => (hsu a oe y cv d pn h1 h2 hz hv).run pins s σ H D I h3⟩)) fun D σ H ⟨m, ρ, s, hE, hS, hG⟩ => ?_
  refine ⟨m, ρ, s, hE, hS, ?_⟩
  unfold sTry at hG
  cases e : db ρ s with
  | nx ρ' s' => rw [e] at hG; exact hG
  | rt d s' => rw [e] at hG; exact hG
  | bk ρ' s' => rw [e] at hG; exact hG
  | ct ρ' s' => rw [e] at hG; exact hG
  | stuck => rw [e] at hG; exact hG
  | exn y ρ' s' =>
    rw [e] at hG
    simp only at hG
    intro m' H' σ' cv d f S E r
    cases hy : mtF mt y with
    | none => simp only [hy] at hG; exact hG.elim
    | some b =>
      obtain ⟨rfl, hy2⟩ := mtF_some hy
      refine ⟨hm y true cv hy2 r.1, fun a na => ?_⟩
      simp only [hy] at hG
      by_cases ex : ∃ r, SuiteR i hh y ρ' s' r
      · rw [dif_pos ex] at hG
        have hr := Classical.choose_spec ex
        obtain ⟨r1, r2⟩ := xv_rep r a
        have hr' := hr a d r2
        refine ⟨y, hy, r.1, m', ρ'.set i (some (xv y a d)), s', E.set r1 i, S, ?_⟩
        rw [← hr'] at hG
        cases e2 : hh a d y (ρ'.set i (some (xv y a d))) s' with
        | nx ρ2 s2 => rw [e2] at hG; exact fun m2 H2 σ2 g S2 E2 => hG m2 H2 _ (f.trans g) S2 (E2.forget i)
        | bk ρ2 s2 => rw [e2] at hG; exact fun m2 H2 σ2 g S2 E2 => hG m2 H2 _ (f.trans g) S2 (E2.forget i)
        | ct ρ2 s2 => rw [e2] at hG; exact fun m2 H2 σ2 g S2 E2 => hG m2 H2 _ (f.trans g) S2 (E2.forget i)
        | rt v s2 => rw [e2] at hG; exact fun m2 H2 σ2 g S2 E2 => hG m2 H2 _ (f.trans g) S2 E2
        | exn x2 ρ2 s2 => rw [e2] at hG; exact hG.elim
        | stuck => rw [e2] at hG; exact hG.elim
      · rw [dif_neg ex] at hG; exact hG.elim
end
theorem tS_nx {K : KZ} {W : WX} {g : SM} {D D' : Ends} {σ : St} {H : Hp} (h : tS K W g D σ H) (q : ∀ σ H, D.nx σ H → D'.nx σ H) (e1 : D'.rt = D.rt := by rfl) (e2 : D'.bk = D.bk := by rfl) (e3 : D'.ct = D.ct := by rfl) : tS K W g D' σ H := by
  obtain ⟨m, ρ, s, hE, hS, hG⟩ := h
  refine ⟨m, ρ, s, hE, hS, ?_⟩
  cases z : g ρ s with
  | nx ρ' s' => rw [z] at hG; exact fun m' H' σ' x S E => q _ _ (hG m' H' σ' x S E)
  | rt d s' => rw [z] at hG; intro m' H' v x S E; rw [e1]; exact hG m' H' v x S E
  | bk ρ' s' => rw [z] at hG; intro m' H' v x S E; rw [e2]; exact hG m' H' v x S E
  | ct ρ' s' => rw [z] at hG; intro m' H' v x S E; rw [e3]; exact hG m' H' v x S E
  | exn x ρ' s' => rw [z] at hG; exact hG
  | stuck => rw [z] at hG; exact hG
section
variable {X : Cx} {zz : List Addr} {W : WX} {a b c d f : Stmt} {r : List Stmt} {da db dc dd df e : SM}
theorem ss_fz5 (h1 : PS X a (tS (X.K, zz) W da)) (h2 : PS X b (tS (X.K, zz) W db)) (h3 : PS X c (tS (X.K, zz) W dc)) (h4 : PS X d (tS (X.K, zz) W dd)) (h5 : PS X f (tS (X.K, zz) W df)) (hr : PSs X r (tS (X.K, zz) W e)) :
    PSs X (a :: b :: c :: d :: f :: r) (tS (X.K, zz) W (sFz (sSeq da (sSeq db (sSeq dc (sSeq dd df)))) e)) :=
  PSs.imp (pss_cons h1 (pss_cons h2 (pss_cons h3 (pss_cons h4 (pss_cons h5 hr))))) fun _ _ _ h =>
    tS_nx (seq_in (fz_in h)) fun _ _ h => tS_nx (seq_in h) fun _ _ h => tS_nx (seq_in h) fun _ _ h => seq_in h
end
/-! the wishes of what is new -/
section
variable {ρ : En} {s : Sto} {N : En → Sto → Prop} {R : D → Sto → Prop} {Y : Ex → En → Sto → Prop} {Q : D → Sto → Prop} {E : Ex → Sto → Prop} {QI : Items → Sto → Prop}
theorem wps_sFz {g e : SM} : wps (sFz g e ρ s) N R Y = wps (g ρ s) (fun ρ' s' => ∃ ρ2, fzEn s.length s' ρ' = some ρ2 ∧ OldOk s s' ∧ wps (e ρ2 (s'.take s.length)) N R Y) R Y := by
  unfold sFz
  cases g ρ s with
  | nx ρ' s' =>
    rw [wps_nx]
    simp only
    cases z : fzEn s.length s' ρ' with
    | none => simp
    | some ρ2 =>
      by_cases c : OldOk s s'
      · simp [c]
      · simp [c]
  | rt d s' => simp
  | bk ρ' s' => simp
  | ct ρ' s' => simp
  | exn x ρ' s' => simp
  | stuck => simp
@[simp] theorem wp_eDicC {ks : List Key} {ds : List D} : wp (eDicC ks ds ρ s) Q E = Q (.dic ks ds) s := by simp [eDicC, newD]
@[simp] theorem wp_eOdd {d : D} : wp (eOdd d ρ s) Q E = Q (.odd [d]) s := by simp [eOdd]
@[simp] theorem wpv_itKeysO_dic {ks : List Key} {ds : List D} : wpv (itKeysO (.dic ks ds) s) QI = QI ⟨ks.map keyD, none⟩ s := wpv_some
@[simp] theorem wpv_itKeysO_odd {ks : List D} : wpv (itKeysO (.odd ks) s) QI = QI ⟨ks, none⟩ s := wpv_some
theorem wpv_itVals {ks : List Key} {ds : List D} (h : ks.length = ds.length) : wpv (itValsD (.dic ks ds) s) QI = QI ⟨ds, none⟩ s := by
  show wpv (if ks.length = ds.length then some ((⟨ds, none⟩ : Items), s) else none) QI = _
  rw [if_pos h, wpv_some]
@[simp] theorem wpv_listDk {mu : Bool} {ks : List Key} {ds : List D} : wpv (gListDk mu [.dic ks ds] s) Q = wpv (new mu (ks.map keyD) s) Q := rfl
@[simp] theorem wpv_listDkL {mu : Bool} {n : Nat} {ks : List Key} {ds : List D} (h : s[n]? = some (.dic ks ds)) : wpv (gListDk mu [.loc n] s) Q = wpv (new mu (ks.map keyD) s) Q := by
  have e : dicOf s (.loc n) = some (ks, ds) := by simp [dicOf, h]
  simp [gListDk, e]
theorem wpv_sortDI {mu : Bool} {x : D} {ks : List Key} {ds : List D} {is : List Int} (h : dicOf s x = some (ks, ds)) (h2 : intKeys ks = some is) (h3 : is.length < 64) : wpv (gSortedDI mu [x] s) Q = wpv (new mu ((sortI is).map D.int) s) Q := by
  simp [gSortedDI, h, h2, h3]
end
end QS
end

section
set_option linter.all false
set_option maxRecDepth 100000
/-! MA: finite sums, binomials, bells over a round. -/
namespace QS.MA
def sm : Nat → (Nat → Int) → Int
  | 0, _ => 0
  | n + 1, f => sm n f + f n
theorem sm_congr {f g : Nat → Int} : ∀ {n : Nat}, (∀ i, i < n → f i = g i) → sm n f = sm n g
  | 0, _ => rfl
  | n + 1, h => by simp only [sm]; rw [sm_congr (n := n) fun i hi => h i (by omega), h n (by omega)]
theorem sm_add {f g : Nat → Int} : ∀ n, sm n (fun i => f i + g i) = sm n f + sm n g
  | 0 => rfl
  | n + 1 => by simp only [sm]; rw [sm_add n]; omega
theorem sm_mul {f : Nat → Int} {c : Int} : ∀ n, sm n (fun i => c * f i) = c * sm n f
  | 0 => by simp [sm]
  | n + 1 => by simp only [sm]; rw [sm_mul n, Int.mul_add]
theorem sm_zero : ∀ n, sm n (fun _ => 0) = 0
  | 0 => rfl
  | n + 1 => by simp only [sm]; rw [sm_zero n]; rfl
theorem sm_front {f : Nat → Int} : ∀ n, sm (n + 1) f = f 0 + sm n fun i => f (i + 1)
  | 0 => by simp [sm]
  | n + 1 => by
    have := sm_front (f := f) n
    simp only [sm] at this ⊢
    omega
theorem sm_swap {f : Nat → Nat → Int} : ∀ n k, sm n (fun i => sm k fun j => f i j) = sm k fun j => sm n fun i => f i j
  | 0, k => by simp only [sm]; exact (sm_zero k).symm
  | n + 1, k => by
    simp only [sm]
    rw [sm_swap n k, ← sm_add]
theorem sm_append {f : Nat → Int} (a : Nat) : ∀ b, sm (a + b) f = sm a f + sm b fun i => f (a + i)
  | 0 => by simp [sm]
  | b + 1 => by
    rw [← Nat.add_assoc]
    simp only [sm]
    rw [sm_append a b]; omega
theorem sum_append (l r : List Int) : (l ++ r).sum = l.sum + r.sum := by
  induction l with
  | nil => simp
  | cons a t ih => simp [ih]; omega
theorem sum_range (f : Nat → Int) : ∀ n, ((List.range n).map f).sum = sm n f
  | 0 => rfl
  | n + 1 => by
    rw [List.range_succ, List.map_append, sum_append, sum_range f n]
    simp [sm]
/-! binomials -/
def binom : Nat → Nat → Nat
  | _, 0 => 1
  | 0, _ + 1 => 0
  | n + 1, k + 1 => binom n k + binom n (k + 1)
@[simp] theorem binom_zero (n : Nat) : binom n 0 = 1 := by cases n <;> rfl
theorem binom_succ (n k : Nat) : binom (n + 1) (k + 1) = binom n k + binom n (k + 1) := rfl
theorem binom_big : ∀ {n k : Nat}, n < k → binom n k = 0
  | n, 0, h => by omega
  | 0, k + 1, _ => rfl
  | n + 1, k + 1, h => by rw [binom_succ, binom_big (n := n) (k := k) (by omega), binom_big (n := n) (k := k + 1) (by omega)]
theorem binom_step : ∀ n k : Nat, (binom n (k + 1) : Int) * (k + 1) = binom n k * (n - k)
  | 0, 0 => by simp [binom]
  | 0, k + 1 => by simp [binom]
  | n + 1, 0 => by
    have := binom_step n 0
    simp [binom_succ] at this ⊢
    omega
  | n + 1, k + 1 => by
    have h1 := binom_step n k
    have h2 := binom_step n (k + 1)
    rw [binom_succ n (k + 1), binom_succ n k]
    generalize binom n k = a at *
    generalize binom n (k + 1) = b at *
    generalize binom n (k + 1 + 1) = c at *
    have e1 : ((b + c : Nat) : Int) * ((k + 1 : Nat) + 1) = (b : Int) * (k + 1 + 1) + (c : Int) * ((k + 1 : Nat) + 1) := by
      push_cast; rw [Int.add_mul]
    have e2 : ((a + b : Nat) : Int) * (((n + 1 : Nat) : Int) - ((k + 1 : Nat) : Int)) = (a : Int) * (n - k) + (b : Int) * (n - k) := by
      push_cast; rw [Int.add_mul, show (n : Int) + 1 - (k + 1) = n - k by omega]
    rw [e1, e2, h2, ← h1]
    push_cast
    rw [← Int.mul_add, ← Int.mul_add]
    congr 1
    omega
def sg (i : Int) : Int := 1 - 2 * (i % 2)
def gk (j k : Nat) : Int := binom j k * sg ((j : Int) - k)
theorem sg_succ (i : Int) : sg (i + 1) = - sg i := by unfold sg; omega
theorem gk_zero (j : Nat) : gk (j + 1) 0 = - gk j 0 := by
  unfold gk
  simp
  rw [sg_succ]
theorem gk_succ (j k : Nat) : gk (j + 1) (k + 1) = - gk j (k + 1) + gk j k := by
  unfold gk
  rw [binom_succ]
  have e1 : ((j + 1 : Nat) : Int) - ((k + 1 : Nat) : Int) = (j : Int) - k := by omega
  have e2 : (j : Int) - ((k + 1 : Nat) : Int) = (j : Int) - k - 1 := by omega
  have e3 : sg ((j : Int) - k - 1) = - sg ((j : Int) - k) := by
    have := sg_succ ((j : Int) - k - 1)
    rw [show (j : Int) - k - 1 + 1 = j - k by omega] at this
    omega
  rw [e1, e2, e3]
  push_cast
  rw [Int.add_mul, Int.mul_neg]
  omega
/-- inclusion and exclusion -/
theorem inc_exc : ∀ (r n k : Nat), r ≤ n → sm (n + 1) (fun j => gk j k * binom r j) = if r = k then 1 else 0
  | 0, n, k, _ => by
    rw [sm_front]
    have : sm n (fun i => gk (i + 1) k * (binom 0 (i + 1) : Int)) = 0 := by
      rw [sm_congr (g := fun _ => 0) (fun i _ => by simp [binom]), sm_zero]
    rw [this]
    cases k with
    | zero => simp [gk, sg]
    | succ k => simp [gk, binom]
  | r + 1, 0, k, h => by omega
  | r + 1, n + 1, k, h => by
    have split : sm (n + 1 + 1) (fun j => gk j k * binom (r + 1) j) = sm (n + 1 + 1) (fun j => gk j k * binom r j) + sm (n + 1) (fun j => gk (j + 1) k * binom r j) := by
      rw [sm_front, sm_front (f := fun j => gk j k * (binom r j : Int))]
      have : sm (n + 1) (fun i => gk (i + 1) k * (binom (r + 1) (i + 1) : Int)) = sm (n + 1) (fun i => gk (i + 1) k * (binom r (i + 1) : Int)) + sm (n + 1) (fun i => gk (i + 1) k * (binom r i : Int)) := by
        rw [← sm_add]
        refine sm_congr fun i _ => ?_
        rw [binom_succ]
        push_cast
        rw [Int.mul_add]; omega
      rw [this]
      simp
      omega
    have ext : sm (n + 1 + 1) (fun j => gk j k * binom r j) = sm (n + 1) (fun j => gk j k * binom r j) := by
      simp only [sm]
      rw [binom_big (n := r) (k := n + 1) (by omega)]
      simp
    rw [split, ext]
    cases k with
    | zero =>
      have : sm (n + 1) (fun j => gk (j + 1) 0 * (binom r j : Int)) = (-1) * sm (n + 1) (fun j => gk j 0 * (binom r j : Int)) := by
        rw [← sm_mul]
        refine sm_congr fun i _ => ?_
        rw [gk_zero]
        rw [Int.neg_mul]; omega
      rw [this]
      simp
      omega
    | succ k =>
      have : sm (n + 1) (fun j => gk (j + 1) (k + 1) * (binom r j : Int)) = (-1) * sm (n + 1) (fun j => gk j (k + 1) * (binom r j : Int)) + sm (n + 1) (fun j => gk j k * (binom r j : Int)) := by
        rw [← sm_mul, ← sm_add]
        refine sm_congr fun i _ => ?_
        rw [gk_succ]
        rw [Int.add_mul, Int.neg_mul]; omega
      rw [this, inc_exc r n k (by omega)]
      simp
      omega
/-! over a round -/
/-- the sum over n hours from c on -/
def SH (c : Int) (n : Nat) (f : Int → Int) : Int := sm n fun i => f (c + i)
theorem SH_shift {f : Int → Int} {n : Nat} (hp : ∀ h, f (h + n) = f h) (c : Int) : SH (c + 1) n f = SH c n f := by
  have h1 := sm_front (f := fun i => f (c + i)) n
  unfold SH
  have e : sm n (fun i => f (c + 1 + i)) = sm n fun i => f (c + ((i + 1 : Nat) : Int)) := sm_congr fun i _ => by congr 1; omega
  rw [e]
  simp only [sm] at h1
  have := hp c
  simp at h1
  simp
  omega
theorem SH_any {f : Int → Int} {n : Nat} (hp : ∀ h, f (h + n) = f h) : ∀ c : Int, SH c n f = SH 0 n f := by
  have up : ∀ k : Nat, SH (k : Int) n f = SH 0 n f := fun k => by
    induction k with
    | zero => rfl
    | succ k ih => rw [← ih]; have := SH_shift hp (k : Int); push_cast; exact this
  have dn : ∀ k : Nat, SH (-(k : Int)) n f = SH 0 n f := fun k => by
    induction k with
    | zero => rfl
    | succ k ih =>
      rw [← ih]
      have := SH_shift hp (-((k + 1 : Nat) : Int))
      rw [← this]
      congr 1
      omega
  intro c
  rcases Int.le_total 0 c with h | h
  · have := up c.toNat
    rwa [Int.toNat_of_nonneg h] at this
  · have := dn (-c).toNat
    rwa [Int.toNat_of_nonneg (by omega), Int.neg_neg] at this
theorem SH_by {f : Int → Int} {n : Nat} (hp : ∀ h, f (h + n) = f h) (b : Int) : SH 0 n (fun h => f (h + b)) = SH 0 n f := by
  rw [← SH_any hp b]
  unfold SH
  exact sm_congr fun i _ => by show f (0 + i + b) = f (b + i); congr 1; omega
/-- one of e hours in a row -/
theorem one_of {e a c : Int} (he : 0 < e) : SH c e.toNat (fun h => if e ∣ h - a then 1 else 0) = 1 := by
  have key : ∀ (i0 : Nat) (n : Nat), sm n (fun i => if i = i0 then (1 : Int) else 0) = if i0 < n then 1 else 0 := fun i0 n => by
    induction n with
    | zero => rfl
    | succ n ih =>
      simp only [sm, ih]
      by_cases h : i0 < n
      · simp [h, show ¬ n = i0 by omega, show i0 < n + 1 by omega]
      · by_cases h2 : n = i0
        · simp [h2]
        · simp [h, h2, show ¬ i0 < n + 1 by omega]
  have h1 := Int.emod_nonneg (a - c) (show e ≠ 0 by omega)
  have h2 := Int.emod_lt_of_pos (a - c) he
  have h3 := Int.emod_add_mul_ediv (a - c) e
  unfold SH
  rw [sm_congr (g := fun i => if i = ((a - c) % e).toNat then (1 : Int) else 0)]
  · rw [key, if_pos (by omega)]
  · intro i hi
    have iff : e ∣ c + i - a ↔ i = ((a - c) % e).toNat := by
      constructor
      · rintro ⟨k, hk⟩
        have : (a - c) % e = i := by
          have e1 : a - c = i + e * (-k) := by rw [Int.mul_neg]; omega
          rw [e1, Int.add_mul_emod_self_left]
          exact Int.emod_eq_of_lt (by omega) (by omega)
        omega
      · intro hk
        refine ⟨- ((a - c) / e), ?_⟩
        rw [Int.mul_neg]
        omega
    show (if e ∣ c + i - a then (1 : Int) else 0) = _
    by_cases q : e ∣ c + i - a
    · rw [if_pos q, if_pos (iff.mp q)]
    · rw [if_neg q, if_neg (fun z => q (iff.mpr z))]
theorem SH_append {f : Int → Int} (c : Int) (a b : Nat) : SH c (a + b) f = SH c a f + SH (c + a) b f := by
  unfold SH
  rw [sm_append]
  congr 1
  exact sm_congr fun i _ => by congr 1; push_cast; omega
/-- how often a bell rings in q times its number of hours -/
theorem ring_count {e a : Int} (he : 0 < e) : ∀ (q : Nat) (c : Int), SH c (e.toNat * q) (fun h => if e ∣ h - a then 1 else 0) = q
  | 0, c => rfl
  | q + 1, c => by
    rw [Nat.mul_succ, SH_append, ring_count he q, one_of he]
    rfl
end QS.MA
end

section
set_option linter.all false
set_option maxRecDepth 100000
/-! MB: 2 ^ K hours are enough. Functions of two whole numbers: an hour h and a place t; a shift in t stands for a root of unity. -/
namespace QS.MB
/-- a sum of functions, each of which goes on by its own shift -/
def Ex (e : Int) (c : Int → Int → Int) : Prop := ∀ h t, c (h + 1) t = c h (t + e)
def su (l : List (Int × (Int → Int → Int))) (h t : Int) : Int := (l.map fun p => p.2 h t).sum
theorem su_nil {h t : Int} : su [] h t = 0 := rfl
theorem su_cons {p : Int × (Int → Int → Int)} {l : List (Int × (Int → Int → Int))} {h t : Int} : su (p :: l) h t = p.2 h t + su l h t := by simp [su]
theorem su_sub (e : Int) (l : List (Int × (Int → Int → Int))) (h t : Int) : su (l.map fun p => (p.1, fun h t => p.2 (h + 1) t - p.2 h (t + e))) h t = su l (h + 1) t - su l h (t + e) := by
  induction l with
  | nil => rfl
  | cons p l ih =>
    rw [List.map_cons, su_cons, su_cons, su_cons, ih]
    show p.2 (h + 1) t - p.2 h (t + e) + _ = _
    omega
/-- zero for as many hours as there are terms: zero for ever -/
theorem su_zero : ∀ (m : Nat) (l : List (Int × (Int → Int → Int))), l.length = m → (∀ p ∈ l, Ex p.1 p.2) → ∀ h0 : Int, (∀ k : Nat, k < m → ∀ t, su l (h0 + k) t = 0) → ∀ h t, su l h t = 0 := by
  intro m
  induction m with
  | zero =>
    intro l hl he h0 hz h t
    cases l with
    | nil => rfl
    | cons p l => cases hl
  | succ m ih =>
    intro l hl he h0 hz h t
    cases l with
    | nil => cases hl
    | cons p l =>
      have hg : ∀ h t, su (l.map fun q => (q.1, fun h t => q.2 (h + 1) t - q.2 h (t + p.1))) h t = su (p :: l) (h + 1) t - su (p :: l) h (t + p.1) := by
        intro h t
        rw [su_sub, su_cons, su_cons, he p (List.mem_cons_self ..) h t]
        omega
      have hstep : ∀ h t, su (p :: l) (h + 1) t = su (p :: l) h (t + p.1) := by
        intro h t
        have h0' := ih (l.map fun q => (q.1, fun h t => q.2 (h + 1) t - q.2 h (t + p.1))) (by simpa using hl) (by
          intro q hq
          obtain ⟨r, hr, rfl⟩ := List.mem_map.mp hq
          intro h t
          have h1 := he r (List.mem_cons_of_mem _ hr)
          show r.2 (h + 1 + 1) t - r.2 (h + 1) (t + p.1) = r.2 (h + 1) (t + r.1) - r.2 h (t + r.1 + p.1)
          rw [h1 (h + 1) t, h1 h (t + p.1)]
          rw [show t + p.1 + r.1 = t + r.1 + p.1 by omega]) h0 (by
          intro k hk t
          rw [hg, hz k (by omega)]
          have h2 := hz (k + 1) (by omega) t
          rw [show h0 + (k : Int) + 1 = h0 + ((k + 1 : Nat) : Int) by push_cast; omega, h2]
          rfl) h t
        rw [hg] at h0'
        omega
      have hup : ∀ (n : Nat) (t : Int), su (p :: l) (h0 + n) t = 0 := by
        intro n
        induction n with
        | zero => intro t; exact hz 0 (by omega) t
        | succ n ihn =>
          intro t
          rw [show h0 + ((n + 1 : Nat) : Int) = h0 + (n : Int) + 1 by push_cast; omega, hstep]
          exact ihn _
      have hdn : ∀ (n : Nat) (t : Int), su (p :: l) (h0 - n) t = 0 := by
        intro n
        induction n with
        | zero => intro t; have := hz 0 (by omega) t; simpa using this
        | succ n ihn =>
          intro t
          have h2 := hstep (h0 - ((n + 1 : Nat) : Int)) (t - p.1)
          rw [show h0 - ((n + 1 : Nat) : Int) + 1 = h0 - (n : Int) by push_cast; omega, ihn, show t - p.1 + p.1 = t by omega] at h2
          exact h2.symm
      by_cases c : h0 ≤ h
      · have := hup (h - h0).toNat t
        rwa [show h0 + (((h - h0).toNat : Nat) : Int) = h by omega] at this
      · have := hdn (h0 - h).toNat t
        rwa [show h0 - (((h0 - h).toNat : Nat) : Int) = h by omega] at this
/-! the product over the bells -/
/-- bells (n, a); N = n * e -/
def pr (N : Int) (w : Int → Int) : List (Int × Int) → Int → Int → Int
  | [], _, t => w t
  | p :: bs, h, t => pr N w bs h t - pr N w bs h (t + N / p.1 * (h - p.2))
def tm (N : Int) (w : Int → Int) : List (Int × Int) → List (Int × (Int → Int → Int))
  | [] => [(0, fun _ t => w t)]
  | p :: bs => tm N w bs ++ (tm N w bs).map fun q => (q.1 + N / p.1, fun h t => -q.2 h (t + N / p.1 * (h - p.2)))
theorem tm_len {N : Int} {w : Int → Int} : ∀ bs : List (Int × Int), (tm N w bs).length = 2 ^ bs.length
  | [] => rfl
  | p :: bs => by simp [tm, tm_len bs, Nat.pow_succ]; omega
theorem tm_ex {N : Int} {w : Int → Int} : ∀ (bs : List (Int × Int)), ∀ q ∈ tm N w bs, Ex q.1 q.2
  | [], q, hq => by
    simp [tm] at hq
    subst hq
    intro h t
    show w t = w (t + 0)
    rw [Int.add_zero]
  | p :: bs, q, hq => by
    rcases List.mem_append.mp hq with hq | hq
    · exact tm_ex bs q hq
    · obtain ⟨r, hr, rfl⟩ := List.mem_map.mp hq
      intro h t
      have := tm_ex bs r hr h (t + N / p.1 * (h + 1 - p.2))
      show -r.2 (h + 1) (t + N / p.1 * (h + 1 - p.2)) = -r.2 h (t + (r.1 + N / p.1) + N / p.1 * (h - p.2))
      rw [this, show h + 1 - p.2 = (h - p.2) + 1 by omega, Int.mul_add, Int.mul_one]
      rw [show t + (N / p.1 * (h - p.2) + N / p.1) + r.1 = t + (r.1 + N / p.1) + N / p.1 * (h - p.2) by omega]
theorem su_app {l r : List (Int × (Int → Int → Int))} {h t : Int} : su (l ++ r) h t = su l h t + su r h t := by simp [su]
theorem su_tm {N : Int} {w : Int → Int} : ∀ (bs : List (Int × Int)) (h t : Int), su (tm N w bs) h t = pr N w bs h t
  | [], h, t => by simp [tm, su, pr]
  | p :: bs, h, t => by
    rw [tm, su_app, su_tm bs, pr, ← su_tm bs h (t + N / p.1 * (h - p.2))]
    have : ∀ l : List (Int × (Int → Int → Int)), su (l.map fun q => (q.1 + N / p.1, fun h t => -q.2 h (t + N / p.1 * (h - p.2)))) h t = -su l h (t + N / p.1 * (h - p.2)) := by
      intro l
      induction l with
      | nil => rfl
      | cons q l ih => rw [List.map_cons, su_cons, su_cons, ih]; show -q.2 h (t + N / p.1 * (h - p.2)) + _ = _; omega
    rw [this]
    omega
def Per (N : Int) (F : Int → Int) : Prop := ∀ t, F (t + N) = F t
theorem Per.mul {N : Int} {F : Int → Int} (h : Per N F) (k : Int) (t : Int) : F (t + N * k) = F t := by
  have up : ∀ (n : Nat) t, F (t + N * n) = F t := by
    intro n
    induction n with
    | zero => intro t; simp
    | succ n ih => intro t; rw [show t + N * ((n + 1 : Nat) : Int) = (t + N * n) + N by push_cast; rw [Int.mul_add, Int.mul_one]; omega, h, ih]
  by_cases c : 0 ≤ k
  · have := up k.toNat t
    rwa [Int.toNat_of_nonneg c] at this
  · have := up (-k).toNat (t + N * k)
    rw [Int.toNat_of_nonneg (by omega), show t + N * k + N * -k = t by rw [Int.mul_neg]; omega] at this
    exact this.symm
theorem per_pr {N : Int} {w : Int → Int} (h : Per N w) : ∀ (bs : List (Int × Int)) (x : Int), Per N (pr N w bs x)
  | [], x => h
  | p :: bs, x => fun t => by
    have ih := per_pr h bs x
    show pr N w bs x (t + N) - pr N w bs x (t + N + N / p.1 * (x - p.2)) = pr N w bs x t - pr N w bs x (t + N / p.1 * (x - p.2))
    rw [ih, show t + N + N / p.1 * (x - p.2) = t + N / p.1 * (x - p.2) + N by omega, ih]
theorem pr_loud {N : Int} {w : Int → Int} (hw : Per N w) : ∀ (bs : List (Int × Int)) (x : Int), (∀ p ∈ bs, p.1 ∣ N) → (∃ p ∈ bs, p.1 ∣ x - p.2) → ∀ t, pr N w bs x t = 0
  | [], x, hd, ⟨p, hp, _⟩, t => (nomatch hp)
  | p :: bs, x, hd, ⟨q, hq, h⟩, t => by
    show pr N w bs x t - pr N w bs x (t + N / p.1 * (x - p.2)) = 0
    rcases List.mem_cons.mp hq with rfl | hq
    · obtain ⟨k, hk⟩ := h
      rw [hk, ← Int.mul_assoc, Int.ediv_mul_cancel (hd q (List.mem_cons_self ..)), (per_pr hw bs x).mul]
      omega
    · have ih := pr_loud hw bs x (fun r hr => hd r (List.mem_cons_of_mem _ hr)) ⟨q, hq, h⟩
      rw [ih, ih]
      rfl
/-! the sums over the parts of a round -/
def Prm (q : Nat) : Prop := 2 ≤ q ∧ ∀ d, d ∣ q → d = 1 ∨ d = q
/-- F's sum over the q places t + k * m -/
def qs (F : Int → Int) (m : Int) : Nat → Int → Int
  | 0, _ => 0
  | k + 1, t => qs F m k t + F (t + k * m)
/-- of each prime that divides N the sum is nothing -/
def Van (N : Nat) (F : Int → Int) : Prop := ∀ q, Prm q → q ∣ N → ∀ t, qs F ((N / q : Nat) : Int) q t = 0
theorem qs_per {F : Int → Int} {m : Int} (h : Per m F) : ∀ (k : Nat) (t : Int), qs F m k t = k * F t
  | 0, t => by simp [qs]
  | k + 1, t => by
    rw [qs, qs_per h k, show (k : Int) * m = m * k from Int.mul_comm .., h.mul]
    push_cast
    rw [Int.add_mul, Int.one_mul]
theorem qs_sub {F G : Int → Int} {m : Int} : ∀ (k : Nat) (t : Int), qs (fun t => F t - G t) m k t = qs F m k t - qs G m k t
  | 0, t => rfl
  | k + 1, t => by rw [qs, qs, qs, qs_sub k]; omega
theorem qs_shift {F : Int → Int} {m e : Int} : ∀ (k : Nat) (t : Int), qs (fun t => F (t + e)) m k t = qs F m k (t + e)
  | 0, t => rfl
  | k + 1, t => by rw [qs, qs, qs_shift k, show t + (k : Int) * m + e = t + e + k * m by omega]
theorem van_pr {N : Nat} {w : Int → Int} (h : Van N w) : ∀ (bs : List (Int × Int)) (x : Int), Van N (pr N w bs x)
  | [], x => h
  | p :: bs, x => fun q hq hd t => by
    have ih := van_pr h bs x q hq hd
    have e : pr N w (p :: bs) x = fun t => pr N w bs x t - (fun t => pr N w bs x (t + N / p.1 * (x - p.2))) t := rfl
    rw [e, qs_sub, qs_shift, ih, ih]
    rfl
/-- some prime divides what is at least 2 -/
theorem prm_ex (n : Nat) (h : 2 ≤ n) : ∃ q, Prm q ∧ q ∣ n := by
  induction n using Nat.strongRecOn with
  | ind n ih =>
    by_cases c : ∀ d, d ∣ n → d = 1 ∨ d = n
    · exact ⟨n, ⟨h, c⟩, Nat.dvd_refl n⟩
    · have ⟨d, hd⟩ := Classical.not_forall.mp c
      have hd1 : d ∣ n := Classical.byContradiction fun h => hd fun h' => absurd h' h
      have hd2 : ¬(d = 1 ∨ d = n) := fun h => hd fun _ => h
      have hle := Nat.le_of_dvd (by omega) hd1
      have hd0 : d ≠ 0 := by
        rintro rfl
        have := Nat.eq_zero_of_zero_dvd hd1
        omega
      obtain ⟨q, hq, hqd⟩ := ih d (by omega) (by omega)
      exact ⟨q, hq, Nat.dvd_trans hqd hd1⟩
/-- F goes on by N and by e: it goes on by their greatest divisor -/
theorem per_gcd {F : Int → Int} : ∀ a b : Nat, Per a F → Per b F → Per (Nat.gcd a b : Nat) F := by
  intro a b
  induction a, b using Nat.gcd.induction with
  | H0 b => intro _ g; rw [Nat.gcd_zero_left]; exact g
  | H1 a b ha ih =>
    intro h g
    rw [Nat.gcd_rec]
    refine ih ?_ h
    intro t
    have h1 := h.mul (-((b / a : Nat) : Int)) (t + b)
    have h2 : ((b % a : Nat) : Int) = b + (a : Int) * -((b / a : Nat) : Int) := by
      have := Nat.div_add_mod b a
      have h3 : (b : Int) = (a : Int) * ((b / a : Nat) : Int) + ((b % a : Nat) : Int) := by exact_mod_cast this.symm
      rw [Int.mul_neg]
      omega
    rw [h2, show t + (b + (a : Int) * -((b / a : Nat) : Int)) = t + b + (a : Int) * -((b / a : Nat) : Int) by omega, h1]
    exact g t
theorem per_neg {e : Int} {F : Int → Int} (h : Per e F) : Per (e.natAbs : Int) F := by
  rcases Int.natAbs_eq e with c | c
  · rw [← c]; exact h
  · intro t
    have := h.mul (-1) t
    rw [show e * -1 = (e.natAbs : Int) by omega] at this
    exact this
theorem per_dvd {a b : Nat} {F : Int → Int} (h : Per (a : Int) F) (d : a ∣ b) : Per (b : Int) F := by
  obtain ⟨k, rfl⟩ := d
  intro t
  have := h.mul k t
  rwa [← Int.natCast_mul] at this
/-- what goes on by e, not a multiple of N, and vanishes, is nothing -/
theorem van_zero {N : Nat} {F : Int → Int} (hN : 1 ≤ N) (hp : Per (N : Int) F) (hv : Van N F) {e : Int} (he : Per e F) (hd : ¬(N : Int) ∣ e) : ∀ t, F t = 0 := by
  have hg := per_gcd N e.natAbs hp (per_neg he)
  obtain ⟨m, hm⟩ := Nat.gcd_dvd_left N e.natAbs
  have hm2 : 2 ≤ m := by
    have : m ≠ 0 := by rintro rfl; omega
    have : m ≠ 1 := by
      rintro rfl
      have h1 : N ∣ e.natAbs := by
        have := Nat.gcd_dvd_right N e.natAbs
        rw [Nat.mul_one] at hm
        rwa [← hm] at this
      exact hd (Int.ofNat_dvd_left.mpr h1)
    omega
  obtain ⟨q, hq, hqm⟩ := prm_ex m hm2
  obtain ⟨r, rfl⟩ := hqm
  have hq0 : 0 < q := by have := hq.1; omega
  have hqN : q ∣ N := ⟨Nat.gcd N e.natAbs * r, hm.trans (Nat.mul_left_comm ..)⟩
  have hdv : Nat.gcd N e.natAbs ∣ N / q := ⟨r, by
    apply Nat.div_eq_of_eq_mul_left hq0
    rw [Nat.mul_assoc, Nat.mul_comm r q]; exact hm⟩
  intro t
  have h1 := hv q hq hqN t
  rw [qs_per (per_dvd hg hdv)] at h1
  rcases Int.mul_eq_zero.mp h1 with h1 | h1
  · omega
  · exact h1
theorem pr_quiet {N : Nat} {w : Int → Int} (hN : 1 ≤ N) (hw : Per (N : Int) w) (hv : Van N w) {t0 : Int} (h0 : w t0 ≠ 0) : ∀ (bs : List (Int × Int)) (x : Int), (∀ p ∈ bs, p.1 ∣ N ∧ 1 ≤ p.1) → (∀ t, pr N w bs x t = 0) → ∃ p ∈ bs, p.1 ∣ x - p.2
  | [], x, _, hz => absurd (hz t0) h0
  | p :: bs, x, hd, hz => by
    by_cases c : p.1 ∣ x - p.2
    · exact ⟨p, List.mem_cons_self .., c⟩
    · obtain ⟨hp1, hp2⟩ := hd p (List.mem_cons_self ..)
      have hc : ¬(N : Int) ∣ N / p.1 * (x - p.2) := by
        intro h
        apply c
        obtain ⟨k, hk⟩ := hp1
        rw [hk, Int.mul_ediv_cancel_left _ (by omega), Int.mul_comm p.1 k] at h
        refine Int.dvd_of_mul_dvd_mul_left ?_ h
        rintro rfl
        rw [Int.mul_zero] at hk
        omega
      have hz' : ∀ t, pr N w bs x t = 0 := van_zero hN (per_pr hw bs x) (van_pr hv bs x) (e := N / p.1 * (x - p.2)) (fun t => by
        have := hz t
        simp only [pr] at this
        omega) hc
      obtain ⟨q, hq, h⟩ := pr_quiet hN hw hv h0 bs x (fun r hr => hd r (List.mem_cons_of_mem _ hr)) hz'
      exact ⟨q, List.mem_cons_of_mem _ hq, h⟩
/-! a function that vanishes so -/
theorem qs_add {F G : Int → Int} {m : Int} : ∀ (k : Nat) (t : Int), qs (fun t => F t + G t) m k t = qs F m k t + qs G m k t
  | 0, t => rfl
  | k + 1, t => by rw [qs, qs, qs, qs_add k]; omega
theorem qs_mulc {F : Int → Int} {m c : Int} : ∀ (k : Nat) (t : Int), qs (fun t => c * F t) m k t = c * qs F m k t
  | 0, t => by simp [qs]
  | k + 1, t => by rw [qs, qs, qs_mulc k, Int.mul_add]
theorem qs_zero {m : Int} : ∀ (k : Nat) (t : Int), qs (fun _ => 0) m k t = 0
  | 0, t => rfl
  | k + 1, t => by rw [qs, qs_zero k]; rfl
theorem qs_qs {F : Int → Int} {m m' : Int} {r : Nat} (h : ∀ t, qs F m' r t = 0) : ∀ (k : Nat) (t : Int), qs (fun t => qs F m k t) m' r t = 0
  | 0, t => by simp only [qs]; exact qs_zero r t
  | k + 1, t => by
    simp only [qs]
    rw [qs_add, qs_qs h k, qs_shift, h]
    rfl
theorem qs_next {F : Int → Int} {m : Int} : ∀ (k : Nat) (t : Int), qs F m k (t + m) = qs F m k t + F (t + k * m) - F t
  | 0, t => by simp [qs]
  | k + 1, t => by
    rw [qs, qs, qs_next k]
    rw [show t + m + (k : Int) * m = t + ((k + 1 : Nat) : Int) * m by push_cast; rw [Int.add_mul, Int.one_mul]; omega]
    omega
theorem qs_some {F : Int → Int} {m : Int} : ∀ (k : Nat) (t : Int), qs F m k t ≠ 0 → ∃ j : Nat, j < k ∧ F (t + j * m) ≠ 0
  | 0, t, h => absurd rfl h
  | k + 1, t, h => by
    by_cases c : F (t + k * m) = 0
    · rw [qs, c, Int.add_zero] at h
      obtain ⟨j, hj, hF⟩ := qs_some k t h
      exact ⟨j, by omega, hF⟩
    · exact ⟨k, by omega, c⟩
theorem prm_mul {q a b : Nat} (h : Prm q) (hd : q ∣ a * b) : q ∣ a ∨ q ∣ b := by
  rcases h.2 (Nat.gcd q a) (Nat.gcd_dvd_left ..) with c | c
  · exact .inr (Nat.Coprime.dvd_of_dvd_mul_left c hd)
  · exact .inl (by rw [← c]; exact Nat.gcd_dvd_right ..)
def prod : List Nat → Nat
  | [] => 1
  | q :: ps => q * prod ps
theorem prm_prod {q : Nat} (h : Prm q) : ∀ ps : List Nat, (∀ r ∈ ps, Prm r) → q ∣ prod ps → q ∈ ps
  | [], _, hd => by
    have := Nat.dvd_one.mp hd
    have := h.1
    omega
  | r :: ps, hp, hd => by
    rcases prm_mul h hd with c | c
    · rcases (hp r (List.mem_cons_self ..)).2 q c with e | e
      · have := h.1
        omega
      · rw [e]; exact List.mem_cons_self ..
    · exact List.mem_cons_of_mem _ (prm_prod h ps (fun s hs => hp s (List.mem_cons_of_mem _ hs)) c)
theorem theta {N : Nat} (hN : 1 ≤ N) : ∀ ps : List Nat, ps.Nodup → (∀ q ∈ ps, Prm q ∧ q ∣ N) → ∃ w : Int → Int, Per (N : Int) w ∧ (∃ t, w t ≠ 0) ∧ (∀ q ∈ ps, ∀ t, qs w ((N / q : Nat) : Int) q t = 0) ∧ ∀ t, w t ≠ 0 → (N : Int) ∣ prod ps * t
  | [], _, _ => by
    refine ⟨fun t => if (N : Int) ∣ t then 1 else 0, fun t => ?_, ⟨0, by simp⟩, fun q hq => (nomatch hq), fun t ht => ?_⟩
    · show (if (N : Int) ∣ t + N then (1 : Int) else 0) = if (N : Int) ∣ t then 1 else 0
      have : ((N : Int) ∣ t + N) ↔ ((N : Int) ∣ t) := Int.dvd_add_left (Int.dvd_refl _)
      simp [this]
    · have : (N : Int) ∣ t := Classical.byContradiction fun h => ht (by simp [h])
      simpa [prod] using this
  | q :: ps, hn, hp => by
    obtain ⟨hq, hqN⟩ := hp q (List.mem_cons_self ..)
    obtain ⟨w, hw, ⟨t0, ht0⟩, hv, hs⟩ := theta hN ps (List.nodup_cons.mp hn).2 (fun r hr => hp r (List.mem_cons_of_mem _ hr))
    have hq0 : 0 < q := by have := hq.1; omega
    obtain ⟨m, hm⟩ : ∃ m : Nat, N / q = m := ⟨_, rfl⟩
    have hNm : N = q * m := by rw [← hm, Nat.mul_div_cancel' hqN]
    have hm0 : 0 < m := by
      rcases Nat.eq_zero_or_pos m with c | c
      · rw [c, Nat.mul_zero] at hNm; omega
      · exact c
    have hper : Per (m : Int) (fun t => qs w (m : Int) q t) := by
      intro t
      show qs w (m : Int) q (t + m) = qs w (m : Int) q t
      rw [qs_next]
      have := hw t
      rw [hNm] at this
      push_cast at this
      rw [this]
      omega
    refine ⟨fun t => q * w t - qs w (m : Int) q t, ?_, ?_, ?_, ?_⟩
    · intro t
      show q * w (t + N) - qs w (m : Int) q (t + N) = q * w t - qs w (m : Int) q t
      rw [hw, ← qs_shift]
      congr 2
      funext t
      exact hw t
    · refine Classical.byContradiction fun hno => ?_
      have hz : ∀ t, (q : Int) * w t = qs w (m : Int) q t := fun t => by
        have : ¬((q : Int) * w t - qs w (m : Int) q t ≠ 0) := fun h => hno ⟨t, h⟩
        omega
      have hwm : w (t0 + m) = w t0 := by
        have h1 := hz (t0 + m)
        have h2 : qs w (m : Int) q (t0 + m) = qs w (m : Int) q t0 := hper t0
        rw [h2, ← hz t0] at h1
        exact Int.eq_of_mul_eq_mul_left (by omega) h1
      have d1 := hs (t0 + m) (by rw [hwm]; exact ht0)
      have d2 := hs t0 ht0
      rw [Int.mul_add] at d1
      have d3 : (N : Int) ∣ (prod ps : Int) * m := (Int.dvd_add_right d2).mp d1
      have d4 : N ∣ prod ps * m := by exact_mod_cast d3
      rw [hNm] at d4
      have d5 : q ∣ prod ps := Nat.dvd_of_mul_dvd_mul_right hm0 d4
      exact (List.nodup_cons.mp hn).1 (prm_prod hq ps (fun r hr => (hp r (List.mem_cons_of_mem _ hr)).1) d5)
    · intro r hr t
      rcases List.mem_cons.mp hr with rfl | hr
      · rw [hm, qs_sub, qs_mulc, qs_per hper]
        omega
      · rw [qs_sub, qs_mulc, hv r hr, qs_qs (hv r hr)]
        simp
    · intro t ht
      have hsome : w t ≠ 0 ∨ qs w (m : Int) q t ≠ 0 := by
        refine Classical.byContradiction fun h => ht ?_
        have h1 : w t = 0 := Classical.byContradiction fun c => h (.inl c)
        have h2 : qs w (m : Int) q t = 0 := Classical.byContradiction fun c => h (.inr c)
        show (q : Int) * w t - qs w (m : Int) q t = 0
        rw [h1, h2]
        simp
      show (N : Int) ∣ ((q * prod ps : Nat) : Int) * t
      push_cast
      rcases hsome with h | h
      · rw [Int.mul_assoc]
        exact Int.dvd_mul_of_dvd_right (hs t h)
      · obtain ⟨j, _, hj⟩ := qs_some _ _ h
        have d := hs _ hj
        rw [Int.mul_add] at d
        have d2 : (N : Int) ∣ q * ((prod ps : Int) * t + prod ps * (j * m)) := Int.dvd_mul_of_dvd_right d
        rw [Int.mul_add] at d2
        have d3 : (N : Int) ∣ q * ((prod ps : Int) * (j * m)) := ⟨prod ps * j, by rw [hNm]; push_cast; simp only [Int.mul_comm, Int.mul_left_comm, Int.mul_assoc]⟩
        rw [Int.mul_assoc]
        exact (Int.dvd_add_left d3).mp d2
open Classical in
theorem theta_all {N : Nat} (hN : 1 ≤ N) : ∃ w : Int → Int, Per (N : Int) w ∧ Van N w ∧ ∃ t, w t ≠ 0 := by
  obtain ⟨w, h1, h2, h3, _⟩ := theta hN ((List.range (N + 1)).filter fun q => decide (Prm q ∧ q ∣ N)) (List.nodup_range.filter _) (fun q hq => by simpa using (List.mem_filter.mp hq).2)
  refine ⟨w, h1, fun q hq hd t => h3 q ?_ t, h2⟩
  rw [List.mem_filter]
  exact ⟨List.mem_range.mpr (by have := Nat.le_of_dvd (by omega) hd; omega), by simp [hq, hd]⟩
/-- 2 ^ K hours are enough -/
theorem two_pow (bs : List (Int × Int)) (h : ∀ p ∈ bs, 1 ≤ p.1) (h0 : Int) (hz : ∀ k : Nat, k < 2 ^ bs.length → ∃ p ∈ bs, p.1 ∣ h0 + k - p.2) (x : Int) : ∃ p ∈ bs, p.1 ∣ x - p.2 := by
  obtain ⟨N, hN, hd⟩ : ∃ N : Nat, 1 ≤ N ∧ ∀ p ∈ bs, p.1 ∣ (N : Int) := by
    clear hz
    induction bs with
    | nil => exact ⟨1, by decide, fun p hp => (nomatch hp)⟩
    | cons q bs ih =>
      obtain ⟨N, hN, hd⟩ := ih (fun p hp => h p (List.mem_cons_of_mem _ hp))
      have hq := h q (List.mem_cons_self ..)
      refine ⟨q.1.toNat * N, Nat.mul_pos (by omega) hN, fun p hp => ?_⟩
      rw [Int.natCast_mul, Int.toNat_of_nonneg (by omega)]
      rcases List.mem_cons.mp hp with rfl | hp
      · exact Int.dvd_mul_right ..
      · exact Int.dvd_mul_of_dvd_right (hd p hp)
  obtain ⟨w, hw, hv, t0, ht0⟩ := theta_all hN
  refine pr_quiet hN hw hv ht0 bs x (fun p hp => ⟨hd p hp, h p hp⟩) fun t => ?_
  rw [← su_tm]
  refine su_zero (2 ^ bs.length) (tm N w bs) (tm_len bs) (tm_ex bs) h0 (fun k hk t => ?_) x t
  rw [su_tm]
  exact pr_loud hw bs _ hd (hz k hk) t
end QS.MB
end

section
set_option Elab.async false
set_option linter.all false
set_option maxRecDepth 100000
set_option maxHeartbeats 0
namespace QS.K09
open PySem PySem.Spec PyProof.Rows L2 QS
/-! ### denotations -/
abbrev cls : List Str := ["Bells"]
abbrev excs : List Str := ["BellError", "BadBells", "NoFlags"]
noncomputable def b__law_bag : SM :=
    sSeq (sSet 1 (eB (gAdd false) (eC (.int 59)) (eF gLen (aCons (eVar 0) (aNil)))))
    (sSeq (sFor (iOf itEach (eSl (gSl false) (eVar 0) (oNone) (oSome (eC (.int 60))))) (gSet 2)
    (sSet 1 (eB gMod (eF gInt (aCons (eB (gAdd false) (eB (gAdd false) (eB (gMul false) (eVar 1) (eC (.int 48271))) (eF gInt (aCons (eVar 2) (aNil)))) (eB gPow (eC (.int 2)) (eC (.int 40)))) (aNil))) (eC (.int 2147483629)))))
    (sSeq (sSet 3 (eLc true [2] (iOf itEach (eSl (gSl false) (eVar 0) (oNone) (oSome (eC (.int 60))))) (gSet 2) (tV (eB gGe (eF gAbs (aCons (eF gInt (aCons (eVar 2) (aNil))) (aNil))) (eB gPow (eC (.int 10)) (eC (.int 12))))) (eF gAbs (aCons (eF gInt (aCons (eVar 2) (aNil))) (aNil)))))
    (sSeq (sSet 4 (eC .non))
    (sSeq (sIf (QS.tOr (tV (eB gEq (eF gLen (aCons (eVar 0) (aNil))) (eC (.int 0)))) (QS.tAnd (tV (eB gEq (eF gLen (aCons (eVar 0) (aNil))) (eC (.int 1)))) (tV (eB gLt (eF gAbs (aCons (eF gInt (aCons (eB gIx (eVar 0) (eC (.int 0))) (aNil))) (aNil))) (eC (.int 8))))))
    (sSet 4 (eF gAbs (aCons (eF gSumA (aCons (eLc false [2] (iOf itEach (eVar 0)) (gSet 2) (tT0) (eF gInt (aCons (eVar 2) (aNil)))) (aNil))) (aNil))))
    (sNil))
    (sRet (eLst true (aCons (eVar 1) (aCons (eC (.int 1)) (aCons (eVar 3) (aCons (eVar 4) (aNil)))))))))))
noncomputable def d__law_bag : List D → M D := (run 5 b__law_bag)

noncomputable def b_is_integer : SM :=
    sRet (eAnd (eU (gIsi (ansB "int" cls)) (eVar 0)) (QS.eNot (eU (gIsi (ansB "bool" cls)) (eVar 0))))
noncomputable def d_is_integer : List D → M D := sealF (run 1 b_is_integer)

noncomputable def b_is_below : SM :=
    sRet (eAnd (eCall (fnN 1 d_is_integer) (aCons (eVar 0) (aNil))) (eChain gLe gLt (eC (.int 0)) (eVar 0) (eVar 1)))
noncomputable def d_is_below : List D → M D := sealF (run 2 b_is_below)

noncomputable def b_is_pair : SM :=
    sSeq (sIf (QS.tOr (QS.tNot (tV (eU (gIsi (ansB "tuple" cls)) (eVar 0)))) (tV (eB gNe (eF gLen (aCons (eVar 0) (aNil))) (eC (.int 2)))))
    (sRet (eC (.bl false)))
    (sNil))
    (sRet (eAnd (eCall (fnN 2 d_is_below) (aCons (eB gIx (eVar 0) (eC (.int 0))) (aCons (eB (gAdd false) (eC (.int 1000000000)) (eC (.int 1))) (aNil)))) (eCall (fnN 2 d_is_below) (aCons (eB gIx (eVar 0) (eC (.int 1))) (aCons (eB gIx (eVar 0) (eC (.int 0))) (aNil))))))
noncomputable def d_is_pair : List D → M D := sealF (run 1 b_is_pair)

noncomputable def b_first_bad : SM :=
    sSeq (sIf (QS.tOr (QS.tNot (tV (eU (gIsi (ansB "tuple" cls)) (eVar 0)))) (tV (eB gGt (eF gLen (aCons (eVar 0) (aNil))) (eC (.int 14)))))
    (sRet (eU gNeg (eC (.int 1))))
    (sNil))
    (sSeq (sFor (iOf itEnum (aCons (eVar 0) (aNil))) (QS.gTup 2 (QS.gCons (gSet 1) (QS.gCons (gSet 2) (QS.gNil))))
    (sIf (QS.tNot (tV (eCall (fnN 1 d_is_pair) (aCons (eVar 2) (aNil)))))
    (sRet (eVar 1))
    (sNil)))
    (sRet (eC .non)))
noncomputable def d_first_bad : List D → M D := sealF (run 3 b_first_bad)

noncomputable def b_Bells_init : SM :=
    sSeq (sSet 2 (eCall (fnN 1 d_first_bad) (aCons (eVar 1) (aNil))))
    (sSeq (sIf (tV (eB gIsNot (eVar 2) (eC .non)))
    (sRaise1 "BadBells" "place" (eVar 2))
    (sNil))
    (QS.sFld "Bells" "pairs" (eVar 1) (eVar 0)))
noncomputable def d_Bells_init : List D → M D := sealF (run 3 b_Bells_init)

noncomputable def b__law_agrees : SM :=
    sRet (eF gAll (aCons (eLc false [3] (iOf itEach (eF (gListDk false) (aCons (eVar 1) (aNil)))) (gSet 3) (tT0) (eB gEq (eB gEq (eB gMod (eF gInt (aCons (eB gSub (eVar 2) (eB gIx (eB gIx (eVar 0) (eVar 3)) (eC (.int 1)))) (aNil))) (eB gIx (eB gIx (eVar 0) (eVar 3)) (eC (.int 0)))) (eC (.int 0))) (eB gIxD (eVar 1) (eVar 3)))) (aNil)))
noncomputable def d__law_agrees : List D → M D := sealF (run 4 b__law_agrees)

noncomputable def b__law_pick : SM :=
    sSeq (sIf (tV (eB gIsNot (eB gIx (eVar 0) (eC (.int 3))) (eC .non)))
    (sRet (eB gMod (eF gInt (aCons (eB gIx (eVar 0) (eC (.int 3))) (aNil))) (eVar 1)))
    (sNil))
    (sSeq (sIf (tV (eB gGt (eF gLen (aCons (eB gIx (eVar 0) (eC (.int 2))) (aNil))) (eC (.int 0))))
    (sSeq (sSet 2 (eB gIx (eB gIx (eVar 0) (eC (.int 2))) (eC (.int 0))))
    (sSeq (sSet 3 (eB gMod (eF gInt (aCons (eVar 2) (aNil))) (eVar 1)))
    (sSeq (sIf (tV (eB gLt (eVar 2) (eVar 1)))
    (sE (eMb "list" gPopAt (eB gIx (eVar 0) (eC (.int 2))) (aCons (eC (.int 0)) (aNil))))
    (sSub gStL (eB gDiv (eVar 2) (eVar 1)) (eB gIx (eVar 0) (eC (.int 2))) (eC (.int 0))))
    (sRet (eVar 3)))))
    (sNil))
    (sSeq (sSub gStL (eB gMod (eF gInt (aCons (eB (gAdd false) (eB (gMul false) (eF gInt (aCons (eB gIx (eVar 0) (eC (.int 0))) (aNil))) (eC (.int 69621))) (eB gIx (eVar 0) (eC (.int 1)))) (aNil))) (eC (.int 2147483629))) (eVar 0) (eC (.int 0)))
    (sSeq (sSub gStL (eB (gAdd false) (eB gIx (eVar 0) (eC (.int 1))) (eC (.int 1))) (eVar 0) (eC (.int 1)))
    (sRet (eB gMod (eF gInt (aCons (eB gDiv (eB gIx (eVar 0) (eC (.int 0))) (eC (.int 7))) (aNil))) (eVar 1))))))
noncomputable def d__law_pick : List D → M D := sealF (run 4 b__law_pick)

noncomputable def b_common : SM :=
    sSeq (sWhile (tV (eB gGt (eVar 1) (eC (.int 0))))
    (sPar 0 1 (aCons (eVar 1) (aCons (eB gMod (eF gInt (aCons (eVar 0) (aNil))) (eVar 1)) (aNil)))))
    (sRet (eVar 0))
noncomputable def d_common : List D → M D := sealF (run 2 b_common)

noncomputable def b_inverse : SM :=
    sSeq (sAsg (QS.gTup 4 (QS.gCons (gSet 2) (QS.gCons (gSet 3) (QS.gCons (gSet 4) (QS.gCons (gSet 5) (QS.gNil)))))) (eTup (aCons (eB gMod (eF gInt (aCons (eVar 0) (aNil))) (eVar 1)) (aCons (eVar 1) (aCons (eC (.int 1)) (aCons (eC (.int 0)) (aNil)))))))
    (sSeq (sWhile (tV (eB gGt (eVar 3) (eC (.int 0))))
    (sSeq (sSet 6 (eB gDiv (eVar 2) (eVar 3)))
    (sAsg (QS.gTup 4 (QS.gCons (gSet 2) (QS.gCons (gSet 3) (QS.gCons (gSet 4) (QS.gCons (gSet 5) (QS.gNil)))))) (eTup (aCons (eVar 3) (aCons (eB gSub (eVar 2) (eB (gMul false) (eVar 6) (eVar 3))) (aCons (eVar 5) (aCons (eB gSub (eVar 4) (eB (gMul false) (eVar 6) (eVar 5))) (aNil)))))))))
    (sRet (eB gMod (eF gInt (aCons (eVar 4) (aNil))) (eVar 1))))
noncomputable def d_inverse : List D → M D := sealF (run 7 b_inverse)

noncomputable def b_least_multiple : SM :=
    sRet (eB (gMul false) (eB gDiv (eVar 0) (eCall (fnN 2 d_common) (aCons (eVar 0) (aCons (eVar 1) (aNil))))) (eVar 1))
noncomputable def d_least_multiple : List D → M D := sealF (run 2 b_least_multiple)

noncomputable def b_common_hours : SM :=
    sSeq (sSet 2 (eCall (fnN 2 d_common) (aCons (eB gIx (eVar 0) (eC (.int 0))) (aCons (eB gIx (eVar 1) (eC (.int 0))) (aNil)))))
    (sSeq (sIf (tV (eB gNe (eB gMod (eF gInt (aCons (eB gSub (eB gIx (eVar 1) (eC (.int 1))) (eB gIx (eVar 0) (eC (.int 1)))) (aNil))) (eVar 2)) (eC (.int 0))))
    (sRet (eC .non))
    (sNil))
    (sSeq (sSet 3 (eB gDiv (eB gIx (eVar 1) (eC (.int 0))) (eVar 2)))
    (sSeq (sSet 4 (eB gMod (eF gInt (aCons (eB (gMul false) (eB gDiv (eB gSub (eB gIx (eVar 1) (eC (.int 1))) (eB gIx (eVar 0) (eC (.int 1)))) (eVar 2)) (eCall (fnN 2 d_inverse) (aCons (eB gDiv (eB gIx (eVar 0) (eC (.int 0))) (eVar 2)) (aCons (eVar 3) (aNil))))) (aNil))) (eVar 3)))
    (sSeq (sSet 5 (eCall (fnN 2 d_least_multiple) (aCons (eB gIx (eVar 0) (eC (.int 0))) (aCons (eB gIx (eVar 1) (eC (.int 0))) (aNil)))))
    (sRet (eTup (aCons (eVar 5) (aCons (eB gMod (eF gInt (aCons (eB (gAdd false) (eB gIx (eVar 0) (eC (.int 1))) (eB (gMul false) (eB gIx (eVar 0) (eC (.int 0))) (eVar 4))) (aNil))) (eVar 5)) (aNil)))))))))
noncomputable def d_common_hours : List D → M D := sealF (run 6 b_common_hours)

noncomputable def b_all_of : SM :=
    sSeq (sSet 1 (eTup (aCons (eC (.int 1)) (aCons (eC (.int 0)) (aNil)))))
    (sSeq (sFor (iOf itEach (eVar 0)) (gSet 2)
    (sSet 1 (eIf (tV (eB gIs (eVar 1) (eC .non))) (eC .non) (eCall (fnN 2 d_common_hours) (aCons (eVar 1) (aCons (eVar 2) (aNil)))))))
    (sRet (eVar 1)))
noncomputable def d_all_of : List D → M D := sealF (run 3 b_all_of)

noncomputable def b_Bells_size : SM :=
    sRet (eF gLen (aCons (eU (gFld "Bells" "pairs") (eVar 0)) (aNil)))
noncomputable def d_Bells_size : List D → M D := sealF (run 1 b_Bells_size)

noncomputable def b_check_flags : SM :=
    sSeq (sIf (QS.tOr (QS.tNot (tV (eU (gIsi (ansB "dict" cls)) (eVar 1)))) (QS.tNot (tV (eF gAll (aCons (eLc false [3] (iOf itKeysO (eVar 1)) (gSet 3) (tT0) (eCall (fnN 2 d_is_below) (aCons (eVar 3) (aCons (eMeth "Bells" "size" (fnN 1 d_Bells_size) (eVar 0) aNil) (aNil))))) (aNil))))))
    (sRaise0 "NoFlags")
    (sNil))
    (sIf (QS.tNot (tV (eF gAll (aCons (eLc false [2] (iOf itValsD (eVar 1)) (gSet 2) (tT0) (eU (gIsi (ansB "bool" cls)) (eVar 2))) (aNil)))))
    (sRaise0 "NoFlags")
    (sNil))
noncomputable def d_check_flags : List D → M D := sealF (run 4 b_check_flags)

noncomputable def b_doubled : SM :=
    sSeq (sSet 1 (eC (.int 1)))
    (sSeq (sFor (iOf itRng1 (aCons (eVar 0) (aNil))) (gSet 2)
    (sAug 1 gAddI (eVar 1)))
    (sRet (eVar 1)))
noncomputable def d_doubled : List D → M D := sealF (run 3 b_doubled)

noncomputable def b_rings : SM :=
    sRet (eB gEq (eB gMod (eF gInt (aCons (eVar 1) (aNil))) (eB gIx (eVar 0) (eC (.int 0)))) (eB gIx (eVar 0) (eC (.int 1))))
noncomputable def d_rings : List D → M D := sealF (run 2 b_rings)

noncomputable def b_setting : SM :=
    sSeq (sE (eCall (fnN 2 d_check_flags) (aCons (eVar 0) (aCons (eVar 1) (aNil)))))
    (sSeq (sSet 2 (eCall (fnN 1 d_all_of) (aCons (eLc false [6] (iOf itEach (eF (gSortedDI false) (aCons (eVar 1) (aNil)))) (gSet 6) (tV (eB gIxD (eVar 1) (eVar 6))) (eB gIx (eU (gFld "Bells" "pairs") (eVar 0)) (eVar 6))) (aNil))))
    (sSeq (sSet 3 (eLc false [6] (iOf itEach (eF (gSortedDI false) (aCons (eVar 1) (aNil)))) (gSet 6) (QS.tNot (tV (eB gIxD (eVar 1) (eVar 6)))) (eB gIx (eU (gFld "Bells" "pairs") (eVar 0)) (eVar 6))))
    (sSeq (sIf (tV (eB gIs (eVar 2) (eC .non)))
    (sRet (eC .non))
    (sNil))
    (sSeq (sFor (iOf itRng1 (aCons (eCall (fnN 1 d_doubled) (aCons (eF gLen (aCons (eVar 3) (aNil))) (aNil))) (aNil))) (gSet 4)
    (sSeq (sSet 5 (eB (gAdd false) (eB gIx (eVar 2) (eC (.int 1))) (eB (gMul false) (eB gIx (eVar 2) (eC (.int 0))) (eVar 4))))
    (sIf (QS.tNot (tV (eF gAny (aCons (eLc false [7] (iOf itEach (eVar 3)) (gSet 7) (tT0) (eCall (fnN 2 d_rings) (aCons (eVar 7) (aCons (eVar 5) (aNil))))) (aNil)))))
    (sRet (eVar 5))
    (sNil))))
    (sRet (eC .non))))))
noncomputable def d_setting : List D → M D := sealF (run 8 b_setting)

noncomputable def g__law_great_right : SM :=
    sSeq (sSet 2 (eDic0 true))
    (sSeq (sFor (iOf itRng1 (aCons (eF gLen (aCons (eVar 5) (aNil))) (aNil))) (gSet 3)
    (sIf (tV (eB gGt (eCall (fnN 2 d__law_pick) (aCons (eVar 0) (aCons (eC (.int 3)) (aNil)))) (eC (.int 0))))
    (sSub gStD (eB gGt (eCall (fnN 2 d__law_pick) (aCons (eVar 0) (aCons (eC (.int 3)) (aNil)))) (eC (.int 0))) (eVar 2) (eVar 3))
    (sNil)))
    (sSeq (sAsg (QS.gTup 2 (QS.gCons (gSet 7) (QS.gCons (gSet 8) (QS.gNil)))) (eTup (aCons (eC (.int 0)) (aCons (eC (.int 1)) (aNil)))))
    (sSeq (sFor (iOf itSeq (eLc false [9] (iOf itEach (eF (gSortedDI false) (aCons (eVar 2) (aNil)))) (gSet 9) (QS.tAnd (tV (eB gIxD (eVar 2) (eVar 9))) (tV (eB gLt (eB gIx (eB gIx (eVar 5) (eVar 9)) (eC (.int 0))) (eC (.int 1000))))) (eVar 9))) (gSet 3)
    (sSeq (sAsg (QS.gTup 2 (QS.gCons (gSet 6) (QS.gCons (gSet 10) (QS.gNil)))) (eB gIx (eVar 5) (eVar 3)))
    (sSeq (sWhile (tV (eB gNe (eB gMod (eF gInt (aCons (eB gSub (eVar 7) (eVar 10)) (aNil))) (eVar 6)) (eC (.int 0))))
    (sSet 7 (eB (gAdd false) (eVar 7) (eVar 8))))
    (sSet 8 (eB (gMul false) (eVar 8) (eVar 6))))))
    (sFor (iOf itSeq (eLc false [9] (iOf itEach (eF (gSortedDI false) (aCons (eVar 2) (aNil)))) (gSet 9) (QS.tAnd (tV (eB gIxD (eVar 2) (eVar 9))) (tV (eB gGt (eB gIx (eB gIx (eVar 5) (eVar 9)) (eC (.int 0))) (eC (.int 1000))))) (eVar 9))) (gSet 3)
    (sE (eMb "dict" gPopDk (eVar 2) (aCons (eVar 3) (aNil))))))))

noncomputable def r__law_great_right : SM :=
    sSeq (sWhile (QS.tNot (tV (eCall (fnN 3 d__law_agrees) (aCons (eVar 5) (aCons (eVar 2) (aCons (eVar 7) (aNil)))))))
    (sSet 7 (eB (gAdd false) (eVar 7) (eVar 8))))
    (sRet (eB gEq (eCall (fnN 2 d_setting) (aCons (eSeal (eMake "Bells" (fnN 2 d_Bells_init) (aCons (eF gTuple (aCons (eVar 5) (aNil))) (aNil)))) (aCons (eVar 2) (aNil)))) (eVar 7)))

noncomputable def gA__law_great_right : SM :=
    sSeq (sAsg (QS.gTup 2 (QS.gCons (gSet 4) (QS.gCons (gSet 5) (QS.gNil)))) (eTup (aCons (eLst true (aCons (eC (.int 4)) (aCons (eC (.int 9)) (aCons (eC (.int 25)) (aCons (eC (.int 49)) (aCons (eC (.int 121)) (aCons (eC (.int 169)) (aCons (eC (.int 17)) (aCons (eC (.int 19)) (aCons (eC (.int 23)) (aCons (eC (.int 29)) (aCons (eC (.int 31)) (aCons (eC (.int 37)) (aCons (eC (.int 41)) (aCons (eC (.int 43)) (aCons (eC (.int 999983)) (aCons (eC (.int 999999937)) (aNil)))))))))))))))))) (aCons (eLst true (aNil)) (aNil)))))
    (sFor (iOf itRng1 (aCons (eB (gAdd false) (eC (.int 2)) (eCall (fnN 2 d__law_pick) (aCons (eVar 0) (aCons (eC (.int 13)) (aNil))))) (aNil))) (gSet 1)
    (sSeq (sSet 6 (eMb "list" gPopAt (eVar 4) (aCons (eCall (fnN 2 d__law_pick) (aCons (eVar 0) (aCons (eF gLen (aCons (eVar 4) (aNil))) (aNil)))) (aNil))))
    (sE (eMb "list" gAppend (eVar 5) (aCons (eTup (aCons (eVar 6) (aCons (eCall (fnN 2 d__law_pick) (aCons (eVar 0) (aCons (eVar 6) (aNil)))) (aNil)))) (aNil))))))

noncomputable def rA__law_great_right : SM :=
    sFz (g__law_great_right)
    (r__law_great_right)

noncomputable def b__law_great_right : SM :=
    sFz (gA__law_great_right)
    (rA__law_great_right)
noncomputable def d__law_great_right : List D → M D := sealF (run 11 b__law_great_right)

noncomputable def b__law_is_refused : SM :=
    sSeq (sSet 2 (eC (.bl false)))
    (sSeq (sTry (mtF (mtX excs "NoFlags")) 3 (sE (eCall (fnN 2 d_setting) (aCons (eVar 0) (aCons (eVar 1) (aNil)))))
    (fun a d y => sSet 2 (eIsX a d (some true) (eVar 3))))
    (sRet (eVar 2)))
noncomputable def d__law_is_refused : List D → M D := sealF (run 4 b__law_is_refused)

noncomputable def b__law_some : SM :=
    sRet (eB gIx (eVar 1) (eCall (fnN 2 d__law_pick) (aCons (eVar 0) (aCons (eF gLen (aCons (eVar 1) (aNil))) (aNil)))))
noncomputable def d__law_some : List D → M D := sealF (run 2 b__law_some)

noncomputable def b__law_refused_right : SM :=
    sSeq (sAsg (QS.gTup 2 (QS.gCons (gSet 3) (QS.gCons (gSet 4) (QS.gNil)))) (eTup (aCons (eSeal (eMake "Bells" (fnN 2 d_Bells_init) (aCons (eTup (aCons (eTup (aCons (eC (.int 2)) (aCons (eC (.int 0)) (aNil)))) (aCons (eTup (aCons (eC (.int 3)) (aCons (eC (.int 1)) (aNil)))) (aCons (eTup (aCons (eC (.int 5)) (aCons (eC (.int 4)) (aNil)))) (aNil))))) (aNil)))) (aCons (eC (.str "a")) (aNil)))))
    (sSeq (sFor (iOf itRng1 (aCons (eCall (fnN 2 d__law_pick) (aCons (eVar 0) (aCons (eC (.int 13)) (aNil)))) (aNil))) (gSet 1)
    (sSet 4 (eCall (fnN 2 d__law_some) (aCons (eVar 0) (aCons (eLst false (aCons (eTup (aCons (eVar 4) (aNil))) (aCons (eLst false (aCons (eVar 4) (aNil))) (aCons (eDic1 false (.inr "b") (eVar 4)) (aNil))))) (aNil))))))
    (sSeq (sSet 2 (eLst false (aCons (eC .non) (aCons (eTup (aNil)) (aCons (eLst false (aNil)) (aCons (eC (.int 0)) (aCons (eC (.str "0")) (aCons (eC (.bl true)) (aCons (eLst false (aCons (eC (.bl true)) (aNil))) (aCons (eTup (aCons (eTup (aCons (eC (.int 0)) (aCons (eC (.bl true)) (aNil)))) (aNil))) (aCons (eVar 4) (aCons (eDic1 false (.inl 3) (eC (.bl true))) (aCons (eDicE (eU gNeg (eC (.int 1))) (eC (.bl false))) (aCons (eDic1 false (.inr "0") (eC (.bl true))) (aCons (eDic1 false (.inl 0) (eC (.int 1))) (aNil))))))))))))))))
    (sSeq (sSet 2 (eB (gAdd false) (eVar 2) (eLst false (aCons (eDic1 false (.inl 0) (eC .non)) (aCons (eDicC [.inl 0, .inl 1] [.bl true, .int (0)]) (aCons (eOdd (.bl true)) (aCons (eOdd .non) (aCons (eOdd (.tup [.int 0])) (aCons (eDicC [.inl 0, .inl 7] [.bl true, .bl true]) (aNil))))))))))
    (sSeq (sSet 2 (eB (gAdd false) (eVar 2) (eLst false (aCons (eDic1 false (.inl 0) (eVar 4)) (aCons (eDic1 false (.inl 1) (eC (.str "True"))) (aCons (eVar 3) (aNil)))))))
    (sSeq (sIf (QS.tNot (tV (eF gAll (aCons (eLc false [5] (iOf itEach (eVar 2)) (gSet 5) (tT0) (eCall (fnN 2 d__law_is_refused) (aCons (eVar 3) (aCons (eVar 5) (aNil))))) (aNil)))))
    (sRet (eC (.bl false)))
    (sNil))
    (sRet (eAnd (eB gEq (eCall (fnN 2 d_setting) (aCons (eVar 3) (aCons (eDic0 false) (aNil)))) (eC (.int 0))) (eB gEq (eCall (fnN 2 d_setting) (aCons (eVar 3) (aCons (eDicC [.inl 0, .inl 1, .inl 2] [.bl true, .bl true, .bl true]) (aNil)))) (eC (.int 4))))))))))
noncomputable def d__law_refused_right : List D → M D := sealF (run 6 b__law_refused_right)

noncomputable def b__law_round : SM :=
    sSeq (sSet 1 (eC (.int 1)))
    (sSeq (sFor (iOf itEach (eVar 0)) (QS.gTup 2 (QS.gCons (gSet 2) (QS.gCons (gSet 3) (QS.gNil))))
    (sSeq (sSet 4 (eVar 1))
    (sWhile (tV (eB gNe (eB gMod (eF gInt (aCons (eVar 1) (aNil))) (eVar 2)) (eC (.int 0))))
    (sSet 1 (eB (gAdd false) (eVar 1) (eVar 4))))))
    (sRet (eVar 1)))
noncomputable def d__law_round : List D → M D := sealF (run 5 b__law_round)

noncomputable def g__law_small_right : SM :=
    sSeq (sSet 6 (eDic0 true))
    (sFor (iOf itRng1 (aCons (eF gLen (aCons (eVar 1) (aNil))) (aNil))) (gSet 7)
    (sIf (tV (eB gGt (eCall (fnN 2 d__law_pick) (aCons (eVar 0) (aCons (eC (.int 4)) (aNil)))) (eC (.int 0))))
    (sSub gStD (eB gEq (eCall (fnN 2 d__law_pick) (aCons (eVar 0) (aCons (eCall (fnN 2 d__law_some) (aCons (eVar 0) (aCons (eLst false (aCons (eC (.int 2)) (aCons (eC (.int 4)) (aNil)))) (aNil)))) (aNil)))) (eC (.int 0))) (eVar 6) (eVar 7))
    (sNil)))

noncomputable def r__law_small_right : SM :=
    sSeq (sSet 8 (eLc false [10] (iOf itRng1 (aCons (eVar 5) (aNil))) (gSet 10) (tV (eCall (fnN 3 d__law_agrees) (aCons (eVar 1) (aCons (eVar 6) (aCons (eVar 10) (aNil)))))) (eVar 10)))
    (sSeq (sSet 9 (eF (gDict false) (aCons (eVar 6) (aNil))))
    (sIf (QS.tOr (tV (eB gNe (eCall (fnN 2 d_setting) (aCons (eVar 4) (aCons (eVar 6) (aNil)))) (eB gIx (eB (gAdd false) (eVar 8) (eLst false (aCons (eC .non) (aNil)))) (eC (.int 0))))) (tV (eB gNeDc (eVar 6) (eVar 9))))
    (sRet (eC (.bl false)))
    (sNil)))

noncomputable def gA__law_small_right : SM :=
    sSeq (sSet 1 (eLst true (aNil)))
    (sFor (iOf itRng1 (aCons (eCall (fnN 2 d__law_pick) (aCons (eVar 0) (aCons (eC (.int 8)) (aNil)))) (aNil))) (gSet 2)
    (sSeq (sSet 3 (eCall (fnN 2 d__law_some) (aCons (eVar 0) (aCons (eLst false (aCons (eC (.int 1)) (aCons (eC (.int 2)) (aCons (eC (.int 3)) (aCons (eC (.int 4)) (aCons (eC (.int 5)) (aCons (eC (.int 6)) (aCons (eC (.int 8)) (aCons (eC (.int 12)) (aNil)))))))))) (aNil)))))
    (sE (eMb "list" gAppend (eVar 1) (aCons (eTup (aCons (eVar 3) (aCons (eCall (fnN 2 d__law_pick) (aCons (eVar 0) (aCons (eVar 3) (aNil)))) (aNil)))) (aNil))))))

noncomputable def rA__law_small_right : SM :=
    sSeq (sPar 4 5 (aCons (eSeal (eMake "Bells" (fnN 2 d_Bells_init) (aCons (eF gTuple (aCons (eVar 1) (aNil))) (aNil)))) (aCons (eCall (fnN 1 d__law_round) (aCons (eVar 1) (aNil))) (aNil))))
    (sSeq (sFor (iOf itRng1 (aCons (eC (.int 5)) (aNil))) (gSet 2)
    (sFz (g__law_small_right)
    (r__law_small_right)))
    (sRet (eC (.bl true))))

noncomputable def b__law_small_right : SM :=
    sFz (gA__law_small_right)
    (rA__law_small_right)
noncomputable def d__law_small_right : List D → M D := sealF (run 11 b__law_small_right)

noncomputable def b_law : SM :=
    sSeq (sSet 1 (eCall (fnN 1 d__law_bag) (aCons (eVar 0) (aNil))))
    (sSeq (sIf (QS.tOr (QS.tNot (tV (eCall (fnN 1 d__law_small_right) (aCons (eVar 1) (aNil))))) (QS.tNot (tV (eCall (fnN 1 d__law_small_right) (aCons (eVar 1) (aNil))))))
    (sRet (eC (.bl false)))
    (sNil))
    (sRet (eAnd (eCall (fnN 1 d__law_great_right) (aCons (eVar 1) (aNil))) (eCall (fnN 1 d__law_refused_right) (aCons (eVar 1) (aNil))))))
noncomputable def d_law : List D → M D := sealF (run 2 b_law)

end QS.K09
end

section
set_option Elab.async false
set_option linter.all false
set_option maxRecDepth 100000
set_option maxHeartbeats 1000000
namespace QS.K09
open PySem PySem.Spec PyProof.Rows L2 QS
theorem sp_is_integer {i : Int} {s : Sto} : d_is_integer [.int i] s = .ok (.bl true) s := by
  apply wp_eq
  apply seal_pure
  apply wp_run
  simp [b_is_integer, ansB, builtinTys]
theorem sp_is_below {i j : Int} {s : Sto} : d_is_below [.int i, .int j] s = .ok (.bl (decide (0 ≤ i) && decide (i < j))) s := by
  apply wp_eq
  apply seal_pure
  apply wp_run
  by_cases c : 0 ≤ i <;> simp [b_is_below, sp_is_integer, c]
def Ok (p : Int × Int) : Prop := 1 ≤ p.1 ∧ p.1 ≤ 1000000000 ∧ 0 ≤ p.2 ∧ p.2 < p.1
theorem sp_is_pair {p : Int × Int} {s : Sto} (h : Ok p) : d_is_pair [pD p] s = .ok (.bl true) s := by
  obtain ⟨h1, h2, h3, h4⟩ := h
  apply wp_eq
  apply seal_pure
  apply wp_run
  simp [b_is_pair, pD, sp_is_below, ansB, builtinTys]
  omega
theorem sp_first_bad {bs : List (Int × Int)} {s : Sto} (h : ∀ p ∈ bs, Ok p) (hl : bs.length ≤ 14) : d_first_bad [.tup (bs.map pD)] s = .ok .non s := by
  apply wp_eq
  apply seal_pure
  apply wp_run
  have hl' : ¬ (14 : Int) < bs.length := by omega
  simp [b_first_bad, ansB, builtinTys, hl']
  refine wps_forL (fun l ρ s1 => s1 = s ∧ (∃ a x y, ρ = [a, x, y]) ∧ ∀ d ∈ l, ∃ i p, d = D.tup [.int i, pD p] ∧ Ok p) ?_ ?_ _ _ _ ⟨rfl, ⟨_, _, _, rfl⟩, ?_⟩
  · rintro d r ρ s1 ⟨rfl, ⟨a, x, y, rfl⟩, hd⟩
    obtain ⟨i, p, rfl, hp⟩ := hd d (List.mem_cons_self ..)
    simp [sp_is_pair hp]
    simpa using fun d hm => hd d (List.mem_cons_of_mem _ hm)
  · rintro ρ s1 ⟨rfl, _⟩
    simp
  · intro d hd
    obtain ⟨i, hi⟩ := List.mem_iff_getElem?.mp hd
    obtain ⟨x, h1, rfl⟩ := numD_get hi
    rw [List.getElem?_map] at h1
    obtain ⟨p, h2, rfl⟩ := Option.map_eq_some_iff.mp h1
    exact ⟨_, p, rfl, h p (List.mem_of_getElem? h2)⟩
def OkL (bs : List (Int × Int)) : Prop := (∀ p ∈ bs, Ok p) ∧ bs.length ≤ 14
def mk : List (Int × Int) → D := fun bs => .ins "Bells" ["pairs"] [.tup (bs.map pD)]
theorem sp_Bells_init {bs : List (Int × Int)} {s : Sto} (h : OkL bs) : d_Bells_init [.loc s.length, .tup (bs.map pD)] (s ++ [.ins "Bells" [] []]) = .ok .non (s ++ [.ins "Bells" ["pairs"] [.tup (bs.map pD)]]) := by
  apply wp_eq
  apply wp_seal
  apply wp_run
  simp [b_Bells_init, sp_first_bad h.1 h.2, gPutF, putD]
  refine ⟨_, frz_closed (by simp), ⟨by simp, fun i hi => ?_⟩, rfl, ?_⟩
  · by_cases c : i < s.length
    · left; rw [List.getElem?_append_left c, List.getElem?_append_left c]
    · simp at hi
      have e : i = s.length := by omega
      subst e
      right
      exact ⟨.ins "Bells" ["pairs"] [.tup (bs.map pD)], by simp, by simp [O.closed]⟩
  · rw [List.take_of_length_le (by simp)]
theorem wp_Bells {bs : List (Int × Int)} {s : Sto} {Q : D → Sto → Prop} (h : OkL bs) : (wp (fnN 2 d_Bells_init [.loc s.length, .tup (bs.map pD)] (s ++ [.ins "Bells" [] []])) fun d s2 => d = .non ∧ ∃ d', frz 4 s.length s2 (.loc s.length) = some d' ∧ OldOk s s2 ∧ Q d' (s2.take s.length)) = Q (mk bs) s := by
  rw [fnN2, sp_Bells_init h]
  simp [frz_ins_new, OldOk.app, mk]
@[simp] theorem wpv_pairs {bs : List (Int × Int)} {s : Sto} {Q : D → Sto → Prop} : wpv (gFld "Bells" "pairs" (mk bs) s) Q = Q (.tup (bs.map pD)) s := by
  have h1 : insOf "Bells" s (mk bs) = some ((["pairs"], [D.tup (bs.map pD)]) : List Str × List D) := by simp [mk, insOf]
  have h2 : ∀ d, fldD "pairs" (["pairs"] : List Str) [d] = some d := fun _ => rfl
  simp [gFld, h1, h2]
@[simp] theorem closed_mk {bs : List (Int × Int)} {n : Nat} : closed n (mk bs) = true := by simp [mk]
theorem sp_size {bs : List (Int × Int)} {s : Sto} : d_Bells_size [mk bs] s = .ok (.int bs.length) s := by
  apply wp_eq
  apply seal_pure
  apply wp_run
  simp [b_Bells_size]
theorem sp_rings {p : Int × Int} {h : Int} {s : Sto} (hp : 1 ≤ p.1) : d_rings [pD p, .int h] s = .ok (.bl (decide (h % p.1 = p.2))) s := by
  apply wp_eq
  apply seal_pure
  apply wp_run
  simp [b_rings, pD]
  omega
/-- some bell rings at an hour -/
def loud (bs : List (Int × Int)) (h : Int) : Bool := bs.any fun p => decide (h % p.1 = p.2)
theorem sp_doubled {n : Nat} {s : Sto} (hn : n ≤ 100) : d_doubled [.int n] s = .ok (.int (2 ^ n : Nat)) s := by
  generalize hN : (n : Int) = M
  apply wp_eq
  apply seal_pure
  apply wp_run
  simp [b_doubled]
  refine ⟨rngOk_of (by omega) (by omega), ?_⟩
  obtain ⟨P, hP⟩ : ∃ P : List D → En → Sto → Prop, P = fun l ρ s1 => s1 = s ∧ ∃ (j k : Nat) (b : Option D), ρ = [some (.int M), some (.int ((2 : Int) ^ j)), b] ∧ l = rngD j k ∧ j + k = n := ⟨_, rfl⟩
  refine wps_forL P ?_ ?_ _ _ _ (by rw [hP]; exact ⟨rfl, 0, n, _, by simp; rfl, by rw [← hN]; simp, by omega⟩)
  · intro d l ρ s1 hI
    rw [hP] at hI
    obtain ⟨rfl, j, k, b, rfl, hl, hj⟩ := hI
    cases k with
    | zero => cases hl
    | succ k =>
      rw [rngD_succ] at hl
      cases hl
      have e : (2 : Int) ^ j + 2 ^ j = 2 ^ (j + 1) := by rw [Int.pow_succ]; omega
      simp [e]
      rw [hP]
      exact ⟨rfl, j + 1, k, _, rfl, by push_cast; rfl, by omega⟩
  · intro ρ s1 hI
    rw [hP] at hI
    obtain ⟨rfl, j, k, b, rfl, hl, hj⟩ := hI
    cases k with
    | succ n => rw [rngD_succ] at hl; cases hl
    | zero =>
      simp
      have : j = n := by omega
      rw [this]
end QS.K09
end

section
set_option Elab.async false
set_option linter.all false
set_option maxRecDepth 100000
set_option maxHeartbeats 1000000
namespace QS.K09
open PySem PySem.Spec PyProof.Rows L2 QS QS.MB
theorem emod_eq_iff {h e a : Int} (he : 1 ≤ e) (h0 : 0 ≤ a) (h1 : a < e) : h % e = a ↔ e ∣ h - a := by
  constructor
  · intro q
    have := Int.emod_add_mul_ediv h e
    exact ⟨h / e, by omega⟩
  · rintro ⟨t, ht⟩
    have e1 : h = a + e * t := by omega
    rw [e1, Int.add_mul_emod_self_left]
    exact Int.emod_eq_of_lt h0 h1
theorem loud_iff {bs : List (Int × Int)} {h : Int} (hb : ∀ p ∈ bs, Ok p) : loud bs h = true ↔ ∃ p ∈ bs, p.1 ∣ h - p.2 := by
  unfold loud
  rw [List.any_eq_true]
  constructor
  · rintro ⟨p, hp, q⟩
    obtain ⟨h1, h2, h3, h4⟩ := hb p hp
    exact ⟨p, hp, (emod_eq_iff h1 h3 h4).mp (of_decide_eq_true q)⟩
  · rintro ⟨p, hp, q⟩
    obtain ⟨h1, h2, h3, h4⟩ := hb p hp
    exact ⟨p, hp, decide_eq_true ((emod_eq_iff h1 h3 h4).mpr q)⟩
/-- 2 ^ K hours are enough -/
theorem loud_all {bs : List (Int × Int)} (hb : ∀ p ∈ bs, Ok p) (h0 : Int) (hz : ∀ k : Nat, k < 2 ^ bs.length → loud bs (h0 + k) = true) (x : Int) : loud bs x = true :=
  (loud_iff hb).mpr (two_pow bs (fun p hp => (hb p hp).1) h0 (fun k hk => (loud_iff hb).mp (hz k hk)) x)
theorem find_range {p : Int → Bool} {h st : Int} {n : Nat} {q : Int} (e : ((List.range n).map fun k : Nat => h + st * k).find? p = some q) : ∃ k : Nat, k < n ∧ q = h + st * k ∧ p q = true ∧ ∀ j : Nat, j < k → p (h + st * j) = false := by
  obtain ⟨h1, as, bs, h2, h3⟩ := List.find?_eq_some_iff_append.mp e
  have hk : as.length < n := by
    have := congrArg List.length h2
    simp at this
    omega
  have at_ : ∀ j : Nat, j < n → ((List.range n).map fun k : Nat => h + st * k)[j]? = some (h + st * j) := fun j hj => by simp [hj]
  refine ⟨as.length, hk, ?_, h1, fun j hj => ?_⟩
  · have := at_ as.length hk
    rw [h2, List.getElem?_append_right (Nat.le_refl _)] at this
    simpa using this
  · have := at_ j (by omega)
    rw [h2, List.getElem?_append_left hj] at this
    simpa using h3 _ (List.mem_of_getElem? this)
theorem find_none {p : Int → Bool} {h st : Int} {n : Nat} (e : ((List.range n).map fun k : Nat => h + st * k).find? p = none) : ∀ j : Nat, j < n → p (h + st * j) = false := fun j hj => by
  have := List.find?_eq_none.mp e (h + st * j) (List.mem_map.mpr ⟨j, List.mem_range.mpr hj, rfl⟩)
  simpa using this
/-! hours -/
end QS.K09
end

section
set_option Elab.async false
set_option linter.all false
set_option maxRecDepth 100000
set_option maxHeartbeats 1000000
namespace QS.K09
open PySem PySem.Spec PyProof.Rows L2 QS
theorem gcd_step {x y : Int} (hx : 0 ≤ x) : Int.gcd y (x % y) = Int.gcd x y := by
  unfold Int.gcd
  rw [Int.natAbs_emod_of_nonneg hx, Nat.gcd_comm, ← Nat.gcd_rec, Nat.gcd_comm]
theorem sp_common {a b : Int} {s : Sto} (ha : 0 ≤ a) (hb : 0 ≤ b) : d_common [.int a, .int b] s = .ok (.int (Int.gcd a b)) s := by
  apply wp_eq
  apply seal_pure
  apply wp_run
  simp [b_common]
  refine wps_while (fun k ρ s1 => s1 = s ∧ ∃ x y, ρ = [some (.int x), some (.int y)] ∧ 0 ≤ x ∧ 0 ≤ y ∧ y.toNat = k ∧ Int.gcd x y = Int.gcd a b) ?_ _ _ _ ⟨rfl, a, b, rfl, ha, hb, rfl, rfl⟩
  rintro k ρ s1 ⟨rfl, x, y, rfl, hx, hy, rfl, hg⟩
  by_cases c : 0 < y
  · simp [c]
    have h1 := Int.emod_nonneg x (show y ≠ 0 by omega)
    have h2 := Int.emod_lt_of_pos x c
    exact ⟨_, by omega, _, _, ⟨rfl, rfl⟩, by omega, h1, rfl, by rw [gcd_step hx]; exact hg⟩
  · have : y = 0 := by omega
    subst this
    simp
    rw [← hg]
    simp
    omega
/-- a // gcd * b -/
def lcmI (a b : Int) : Int := a / (Int.gcd a b : Int) * b
theorem gcd_le_r {a b : Int} (hb : 1 ≤ b) : (Int.gcd a b : Int) ≤ b ∧ 0 < (Int.gcd a b : Int) := by
  have h1 : Int.gcd a b ≠ 0 := by
    intro z
    have := Int.gcd_eq_zero_iff.mp z
    omega
  have h2 : (Int.gcd a b : Int) ∣ b := Int.gcd_dvd_right ..
  exact ⟨Int.le_of_dvd (by omega) h2, by omega⟩
theorem sp_lm {a b : Int} {s : Sto} (ha : 1 ≤ a) (hb : 1 ≤ b) (hb2 : b ≤ 1000000000) : d_least_multiple [.int a, .int b] s = .ok (.int (lcmI a b)) s := by
  have h := gcd_le_r (a := a) hb
  apply wp_eq
  apply seal_pure
  apply wp_run
  simp [b_least_multiple, sp_common (show 0 ≤ a by omega) (show 0 ≤ b by omega), lcmI]
  exact ⟨divOk_small h.2 (by omega), mok (.inr ⟨by omega, by omega⟩)⟩
theorem lcmI_pos {a b : Int} (ha : 1 ≤ a) (hb : 1 ≤ b) : 1 ≤ lcmI a b := by
  have h := gcd_le_r (a := a) hb
  have h3 : (Int.gcd a b : Int) ≤ a := Int.le_of_dvd (by omega) (Int.gcd_dvd_left ..)
  have : 1 ≤ a / (Int.gcd a b : Int) := by
    rw [Int.le_ediv_iff_mul_le h.2]; omega
  have := Int.mul_le_mul this hb (by omega) (by omega)
  unfold lcmI
  omega
def Wl : List (Int × Int) → Int → Int
  | [], w => w
  | p :: r, w => Wl r (lcmI w p.1)
end QS.K09
end

section
set_option Elab.async false
set_option linter.all false
set_option maxRecDepth 100000
set_option maxHeartbeats 1000000
namespace QS.K09
open PySem PySem.Spec PyProof.Rows L2 QS
theorem gcd_emod_l {a m : Int} : Int.gcd (a % m) m = Int.gcd a m := by
  apply Nat.dvd_antisymm
  · apply Int.natCast_dvd_natCast.mp
    have h1 : (Int.gcd (a % m) m : Int) ∣ a % m := Int.gcd_dvd_left ..
    have h2 : (Int.gcd (a % m) m : Int) ∣ m := Int.gcd_dvd_right ..
    refine Int.dvd_coe_gcd ?_ h2
    have := Int.emod_add_mul_ediv a m
    have h3 := Int.dvd_add h1 (Int.dvd_mul_of_dvd_left (c := a / m) h2)
    rwa [this] at h3
  · apply Int.natCast_dvd_natCast.mp
    have h1 : (Int.gcd a m : Int) ∣ a := Int.gcd_dvd_left ..
    have h2 : (Int.gcd a m : Int) ∣ m := Int.gcd_dvd_right ..
    refine Int.dvd_coe_gcd ?_ h2
    have := Int.emod_add_mul_ediv a m
    have e : a % m = a - m * (a / m) := by omega
    rw [e]
    exact Int.dvd_sub h1 (Int.dvd_mul_of_dvd_left h2)
theorem wp_inverse {a m : Int} {s : Sto} (hm : 1 ≤ m) (hm2 : m ≤ 1000000000) : wp (d_inverse [.int a, .int m] s) fun d s1 => s1 = s ∧ ∃ r, d = .int r ∧ 0 ≤ r ∧ r < m ∧ m ∣ a * r - Int.gcd a m := by
  apply seal_pure
  apply wp_run
  have h1 := Int.emod_nonneg a (show m ≠ 0 by omega)
  have h2 := Int.emod_lt_of_pos a (show 0 < m by omega)
  simp [b_inverse]
  refine ⟨by omega, by decide, ?_⟩
  obtain ⟨P, hP⟩ : ∃ P : Nat → En → Sto → Prop, P = fun k ρ s1 => s1 = s ∧ ∃ x y u v t, ρ = [some (.int a), some (.int m), some (.int x), some (.int y), some (.int u), some (.int v), t] ∧ 0 ≤ x ∧ x ≤ m ∧ 0 ≤ y ∧ y ≤ m ∧ y.toNat = k ∧ Int.gcd x y = Int.gcd a m ∧ m ∣ a * u - x ∧ m ∣ a * v - y := ⟨_, rfl⟩
  refine wps_while P ?_ m.toNat _ _ (by
    rw [hP]
    refine ⟨rfl, _, _, _, _, _, rfl, h1, by omega, by omega, by omega, rfl, ?_, ?_, ?_⟩
    · exact gcd_emod_l
    · have : a * 1 - a % m = m * (a / m) := by have := Int.emod_add_mul_ediv a m; omega
      rw [this]
      exact Int.dvd_mul_right ..
    · simp)
  intro k ρ s1 hI
  rw [hP] at hI
  obtain ⟨rfl, x, y, u, v, t, rfl, hx, hx2, hy, hy2, rfl, hg, hu, hv⟩ := hI
  by_cases c : 0 < y
  · simp [c]
    have q1 := Int.ediv_nonneg hx hy
    have q2 : x / y ≤ x := Int.ediv_le_self _ hx
    refine ⟨divOk_small c (by omega), mok (.inr ⟨by omega, by omega⟩), mok (.inl ⟨by omega, by omega⟩), by decide, ?_⟩
    have e : x - x / y * y = x % y := by have := Int.emod_add_mul_ediv x y; rw [Int.mul_comm]; omega
    have e1 := Int.emod_nonneg x (show y ≠ 0 by omega)
    have e2 := Int.emod_lt_of_pos x c
    refine ⟨(x % y).toNat, by omega, ?_⟩
    rw [hP, e]
    refine ⟨rfl, _, _, _, _, _, rfl, hy, hy2, e1, by omega, rfl, by rw [gcd_step hx]; exact hg, hv, ?_⟩
    have : a * (u - x / y * v) - x % y = (a * u - x) - x / y * (a * v - y) := by
      have := Int.emod_add_mul_ediv x y
      have e3 : a * (u - x / y * v) = a * u - x / y * (a * v) := by
        rw [Int.mul_sub]; congr 1; rw [← Int.mul_assoc, ← Int.mul_assoc, Int.mul_comm a]
      have e4 : x / y * (a * v - y) = x / y * (a * v) - x / y * y := Int.mul_sub ..
      omega
    rw [this]
    exact Int.dvd_sub hu (Int.dvd_mul_of_dvd_right hv)
  · have : y = 0 := by omega
    subst this
    simp
    have e1 := Int.emod_nonneg u (show m ≠ 0 by omega)
    have e2 := Int.emod_lt_of_pos u (show 0 < m by omega)
    refine ⟨by omega, e1, e2, ?_⟩
    have hgx : (Int.gcd a m : Int) = x := by rw [← hg]; simp; omega
    rw [hgx]
    have : a * (u % m) - x = (a * u - x) - m * (a * (u / m)) := by
      have h := Int.emod_add_mul_ediv u m
      have h3 : a * u = a * (u % m) + m * (a * (u / m)) := by
        have : a * u = a * (u % m + m * (u / m)) := by rw [h]
        rw [this, Int.mul_add]; congr 1
        rw [← Int.mul_assoc, ← Int.mul_assoc, Int.mul_comm a m]
      omega
    rw [this]
    exact Int.dvd_sub hu (Int.dvd_mul_right ..)
/-- a meeting of two -/
structure IsMeet (p q c : Int × Int) : Prop where
  e : c.1 = lcmI p.1 q.1
  lo : 0 ≤ c.2
  hi : c.2 < c.1
  a : p.1 ∣ c.2 - p.2
  b : q.1 ∣ c.2 - q.2
theorem lcmI_eq {a b : Int} (ha : 0 ≤ a) (hb : 0 ≤ b) : lcmI a b = (Int.lcm a b : Int) := by
  obtain ⟨m, rfl⟩ := Int.eq_ofNat_of_zero_le ha
  obtain ⟨n, rfl⟩ := Int.eq_ofNat_of_zero_le hb
  have h : Nat.gcd m n ∣ m := Nat.gcd_dvd_left ..
  have e : lcmI (m : Int) (n : Int) = ((m / Nat.gcd m n * n : Nat) : Int) := by simp [lcmI, Int.gcd]
  rw [e]
  congr 1
  show m / Nat.gcd m n * n = Nat.lcm m n
  unfold Nat.lcm
  rw [Nat.mul_comm m n, Nat.mul_div_assoc _ h, Nat.mul_comm]
theorem lcm_dvd {a b x : Int} (ha : 0 ≤ a) (hb : 0 ≤ b) (h1 : a ∣ x) (h2 : b ∣ x) : lcmI a b ∣ x := by
  rw [lcmI_eq ha hb]
  have h3 : a ∣ ((x.natAbs : Nat) : Int) := Int.dvd_natAbs.mpr h1
  have h4 : b ∣ ((x.natAbs : Nat) : Int) := Int.dvd_natAbs.mpr h2
  have := Int.lcm_dvd h3 h4
  exact Int.dvd_natAbs.mp (Int.natCast_dvd_natCast.mpr this)
theorem dvd_lcm_l {a b : Int} (ha : 0 ≤ a) (hb : 0 ≤ b) : a ∣ lcmI a b := by rw [lcmI_eq ha hb]; exact Int.dvd_lcm_left ..
theorem dvd_lcm_r {a b : Int} (ha : 0 ≤ a) (hb : 0 ≤ b) : b ∣ lcmI a b := by rw [lcmI_eq ha hb]; exact Int.dvd_lcm_right ..
theorem IsMeet.uniq {p q c c' : Int × Int} (hp : 1 ≤ p.1) (hq : 1 ≤ q.1) (h : IsMeet p q c) (h' : IsMeet p q c') : c = c' := by
  have hd : lcmI p.1 q.1 ∣ c.2 - c'.2 := lcm_dvd (by omega) (by omega) (by have := Int.dvd_sub h.a h'.a; rwa [show c.2 - p.2 - (c'.2 - p.2) = c.2 - c'.2 by omega] at this) (by have := Int.dvd_sub h.b h'.b; rwa [show c.2 - q.2 - (c'.2 - q.2) = c.2 - c'.2 by omega] at this)
  obtain ⟨k, hk⟩ := hd
  have h1 := h.e
  have h2 := h'.e
  have l0 := h.lo
  have l1 := h.hi
  have l2 := h'.lo
  have l3 := h'.hi
  rw [h1] at l1
  rw [h2] at l3
  have : k = 0 := by
    have hL := lcmI_pos hp hq
    by_cases c0 : k = 0
    · exact c0
    · by_cases c1 : 0 < k
      · have := Int.mul_le_mul_of_nonneg_left (show 1 ≤ k by omega) (show 0 ≤ lcmI p.1 q.1 by omega)
        omega
      · have := Int.mul_le_mul_of_nonneg_left (show k ≤ -1 by omega) (show 0 ≤ lcmI p.1 q.1 by omega)
        omega
  subst this
  have : c.2 = c'.2 := by omega
  exact Prod.ext (h1.trans h2.symm) this
open Classical in
noncomputable def chF (p q : Int × Int) : Option (Int × Int) := if h : ∃ c, IsMeet p q c then some (Classical.choose h) else none
def optD : Option (Int × Int) → D
  | none => .non
  | some c => pD c
theorem chF_some {p q c : Int × Int} (hp : 1 ≤ p.1) (hq : 1 ≤ q.1) (h : IsMeet p q c) : chF p q = some c := by
  have ex : ∃ c, IsMeet p q c := ⟨c, h⟩
  unfold chF
  rw [dif_pos ex]
  rw [IsMeet.uniq hp hq (Classical.choose_spec ex) h]
theorem chF_none {p q : Int × Int} (h : ∀ c, ¬ IsMeet p q c) : chF p q = none := by
  unfold chF
  rw [dif_neg (fun ⟨c, q⟩ => h c q)]
theorem sp_ch {p q : Int × Int} {s : Sto} (hp : 1 ≤ p.1) (hq : 1 ≤ q.1) (hq2 : q.1 ≤ 1000000000) : d_common_hours [pD p, pD q] s = .ok (optD (chF p q)) s := by
  apply wp_eq
  apply seal_pure
  apply wp_run
  have hg := gcd_le_r (a := p.1) hq
  have hga : (Int.gcd p.1 q.1 : Int) ∣ p.1 := Int.gcd_dvd_left ..
  have hgb : (Int.gcd p.1 q.1 : Int) ∣ q.1 := Int.gcd_dvd_right ..
  have hG : Int.gcd (p.1 / (Int.gcd p.1 q.1 : Int)) (q.1 / (Int.gcd p.1 q.1 : Int)) = 1 := Int.gcd_ediv_gcd_ediv_gcd (by omega)
  by_cases c : (q.2 - p.2) % (Int.gcd p.1 q.1 : Int) = 0
  · simp [b_common_hours, pD, sp_common (show 0 ≤ p.1 by omega) (show 0 ≤ q.1 by omega), c, sp_lm hp hq hq2]
    have hv : 1 ≤ q.1 / (Int.gcd p.1 q.1 : Int) := by rw [Int.le_ediv_iff_mul_le hg.2]; omega
    have hv2 : q.1 / (Int.gcd p.1 q.1 : Int) ≤ q.1 := Int.ediv_le_self _ (by omega)
    refine ⟨by omega, divOk_small hg.2 (by omega), divOk_small hg.2 (by omega), divOk_small hg.2 (by omega), (wp_inverse hv (by omega)).mono ?_⟩
    rintro y s2 ⟨rfl, r, rfl, r0, r1, hr⟩
    rw [hG] at hr
    simp
    have hL := lcmI_pos hp hq
    have hst := Int.emod_nonneg ((q.2 - p.2) / (Int.gcd p.1 q.1 : Int) * r) (show q.1 / (Int.gcd p.1 q.1 : Int) ≠ 0 by omega)
    have hst2 := Int.emod_lt_of_pos ((q.2 - p.2) / (Int.gcd p.1 q.1 : Int) * r) (show 0 < q.1 / (Int.gcd p.1 q.1 : Int) by omega)
    refine ⟨mok (.inr ⟨by omega, by omega⟩), by omega, mok (.inr ⟨by omega, by omega⟩), by omega, by decide, ?_⟩
    -- what the number is
    have ec : (q.2 - p.2) = (Int.gcd p.1 q.1 : Int) * ((q.2 - p.2) / (Int.gcd p.1 q.1 : Int)) := (Int.mul_ediv_cancel' (Int.dvd_of_emod_eq_zero c)).symm
    have ea : p.1 = (Int.gcd p.1 q.1 : Int) * (p.1 / (Int.gcd p.1 q.1 : Int)) := (Int.mul_ediv_cancel' hga).symm
    have eb : q.1 = (Int.gcd p.1 q.1 : Int) * (q.1 / (Int.gcd p.1 q.1 : Int)) := (Int.mul_ediv_cancel' hgb).symm
    have key : q.1 ∣ p.1 * ((q.2 - p.2) / (Int.gcd p.1 q.1 : Int) * r % (q.1 / (Int.gcd p.1 q.1 : Int))) - (q.2 - p.2) := by
      generalize (Int.gcd p.1 q.1 : Int) = g at *
      generalize p.1 / g = u at *
      generalize q.1 / g = v at *
      generalize (q.2 - p.2) / g = t at *
      have h1 := Int.emod_add_mul_ediv (t * r) v
      generalize t * r % v = x at *
      generalize t * r / v = y at *
      have h2 : v ∣ u * x - t := by
        have e1 : u * x - t = t * (u * r - 1) - v * (u * y) := by
          have : x = t * r - v * y := by omega
          rw [this, Int.mul_sub, Int.mul_sub, Int.mul_one]
          have a1 : u * (t * r) = t * (u * r) := by rw [← Int.mul_assoc, ← Int.mul_assoc, Int.mul_comm u]
          have a2 : u * (v * y) = v * (u * y) := by rw [← Int.mul_assoc, ← Int.mul_assoc, Int.mul_comm u]
          rw [a1, a2]; omega
        rw [e1]
        exact Int.dvd_sub (Int.dvd_mul_of_dvd_right hr) (Int.dvd_mul_right ..)
      rw [ec, ea, eb, Int.mul_assoc, ← Int.mul_sub]
      exact Int.mul_dvd_mul_left g h2
    generalize (q.2 - p.2) / (Int.gcd p.1 q.1 : Int) * r % (q.1 / (Int.gcd p.1 q.1 : Int)) = x at *
    have l1 := Int.emod_nonneg (p.2 + p.1 * x) (show lcmI p.1 q.1 ≠ 0 by omega)
    have l2 := Int.emod_lt_of_pos (p.2 + p.1 * x) (show 0 < lcmI p.1 q.1 by omega)
    have l3 := Int.emod_add_mul_ediv (p.2 + p.1 * x) (lcmI p.1 q.1)
    have d1 : p.1 ∣ (p.2 + p.1 * x) % lcmI p.1 q.1 - p.2 := by
      have e : (p.2 + p.1 * x) % lcmI p.1 q.1 - p.2 = p.1 * x - lcmI p.1 q.1 * ((p.2 + p.1 * x) / lcmI p.1 q.1) := by omega
      rw [e]
      exact Int.dvd_sub (Int.dvd_mul_right ..) (Int.dvd_mul_of_dvd_left (dvd_lcm_l (by omega) (by omega)))
    have d2 : q.1 ∣ (p.2 + p.1 * x) % lcmI p.1 q.1 - q.2 := by
      have e : (p.2 + p.1 * x) % lcmI p.1 q.1 - q.2 = (p.1 * x - (q.2 - p.2)) - lcmI p.1 q.1 * ((p.2 + p.1 * x) / lcmI p.1 q.1) := by omega
      rw [e]
      exact Int.dvd_sub key (Int.dvd_mul_of_dvd_left (dvd_lcm_r (by omega) (by omega)))
    rw [chF_some (c := (lcmI p.1 q.1, (p.2 + p.1 * x) % lcmI p.1 q.1)) hp hq ⟨rfl, l1, l2, d1, d2⟩]
    rfl
  · simp [b_common_hours, pD, sp_common (show 0 ≤ p.1 by omega) (show 0 ≤ q.1 by omega), c]
    refine ⟨by omega, ?_⟩
    rw [chF_none]
    · rfl
    · intro m hm
      apply c
      have h1 : (Int.gcd p.1 q.1 : Int) ∣ m.2 - p.2 := Int.dvd_trans hga hm.a
      have h2 : (Int.gcd p.1 q.1 : Int) ∣ m.2 - q.2 := Int.dvd_trans hgb hm.b
      have h3 := Int.dvd_sub h1 h2
      rw [show m.2 - p.2 - (m.2 - q.2) = q.2 - p.2 by omega] at h3
      exact Int.emod_eq_zero_of_dvd h3
end QS.K09
end

section
set_option Elab.async false
set_option linter.all false
set_option maxRecDepth 100000
set_option maxHeartbeats 1000000
namespace QS.K09
open PySem PySem.Spec PyProof.Rows L2 QS QS.MA
/-! rows -/
theorem lcmI_le {a b : Int} (ha : 1 ≤ a) (hb : 1 ≤ b) : lcmI a b ≤ a * b := by
  unfold lcmI
  exact Int.mul_le_mul_of_nonneg_right (Int.ediv_le_self _ (by omega)) (by omega)
theorem Wl_le : ∀ {bs : List (Int × Int)} {w : Int} (h : ∀ p ∈ bs, Ok p) (hw : 1 ≤ w), Wl bs w ≤ w * 1000000000 ^ bs.length
  | [], w, h, hw => by simp [Wl]
  | p :: r, w, h, hw => by
    obtain ⟨h1, h2, h3, h4⟩ := h p (List.mem_cons_self ..)
    have q1 := Wl_le (bs := r) (w := lcmI w p.1) (fun p hp => h p (List.mem_cons_of_mem _ hp)) (lcmI_pos hw h1)
    have q2 := lcmI_le hw h1
    have q3 : w * p.1 ≤ w * 1000000000 := Int.mul_le_mul_of_nonneg_left h2 (by omega)
    show Wl r (lcmI w p.1) ≤ _
    have q4 : lcmI w p.1 * 1000000000 ^ r.length ≤ w * 1000000000 * 1000000000 ^ r.length := Int.mul_le_mul_of_nonneg_right (by omega) (Int.pow_nonneg (by decide))
    have e : w * 1000000000 ^ (p :: r).length = w * 1000000000 * 1000000000 ^ r.length := by
      rw [List.length_cons, Int.pow_succ, Int.mul_assoc, Int.mul_comm (1000000000 : Int)]
    rw [e]
    exact Int.le_trans q1 q4
theorem Wl_pos : ∀ {bs : List (Int × Int)} {w : Int} (h : ∀ p ∈ bs, Ok p) (hw : 1 ≤ w), 1 ≤ Wl bs w
  | [], w, h, hw => hw
  | p :: r, w, h, hw => Wl_pos (bs := r) (fun p hp => h p (List.mem_cons_of_mem _ hp)) (lcmI_pos hw (h p (List.mem_cons_self ..)).1)
theorem Wl_big {bs : List (Int × Int)} (h : OkL bs) : Wl bs 1 < 2 ^ 8000 := by
  have h1 := Wl_le h.1 (w := 1) (by omega)
  have h2 : (1000000000 : Int) ^ bs.length ≤ 1000000000 ^ 14 := by
    obtain ⟨d, hd⟩ := Nat.exists_eq_add_of_le h.2
    rw [hd, Int.pow_add]
    have a : (1 : Int) ≤ 1000000000 ^ d := Int.pow_pos (by decide)
    have b : (0 : Int) ≤ 1000000000 ^ bs.length := Int.pow_nonneg (by decide)
    have := Int.mul_le_mul_of_nonneg_left a b
    omega
  have h3 : (1000000000 : Int) ^ 14 < 2 ^ 8000 := by decide +kernel
  omega
end QS.K09
end

section
set_option Elab.async false
set_option linter.all false
set_option maxRecDepth 100000
set_option maxHeartbeats 1000000
namespace QS.K09
open PySem PySem.Spec PyProof.Rows L2 QS QS.MA
/-- a number in both -/
theorem chF_in {p q : Int × Int} (hp : 1 ≤ p.1) (hq : 1 ≤ q.1) (h : Int) : (∃ c, chF p q = some c ∧ c.1 ∣ h - c.2) ↔ (p.1 ∣ h - p.2 ∧ q.1 ∣ h - q.2) := by
  constructor
  · rintro ⟨c, hc, hd⟩
    have hm : IsMeet p q c := by
      unfold chF at hc
      split at hc
      · rename_i ex
        cases hc
        exact Classical.choose_spec ex
      · cases hc
    rw [hm.e] at hd
    constructor
    · have := Int.dvd_add (Int.dvd_trans (dvd_lcm_l (by omega) (by omega)) hd) hm.a
      rwa [show h - c.2 + (c.2 - p.2) = h - p.2 by omega] at this
    · have := Int.dvd_add (Int.dvd_trans (dvd_lcm_r (by omega) (by omega)) hd) hm.b
      rwa [show h - c.2 + (c.2 - q.2) = h - q.2 by omega] at this
  · rintro ⟨h1, h2⟩
    have hL := lcmI_pos hp hq
    have e0 := Int.emod_nonneg h (show lcmI p.1 q.1 ≠ 0 by omega)
    have e1 := Int.emod_lt_of_pos h (show 0 < lcmI p.1 q.1 by omega)
    have e2 := Int.emod_add_mul_ediv h (lcmI p.1 q.1)
    have hm : IsMeet p q (lcmI p.1 q.1, h % lcmI p.1 q.1) := by
      refine ⟨rfl, e0, e1, ?_, ?_⟩
      · show p.1 ∣ h % lcmI p.1 q.1 - p.2
        have := Int.dvd_sub h1 (Int.dvd_mul_of_dvd_left (c := h / lcmI p.1 q.1) (dvd_lcm_l (a := p.1) (b := q.1) (by omega) (by omega)))
        rwa [show h - p.2 - lcmI p.1 q.1 * (h / lcmI p.1 q.1) = h % lcmI p.1 q.1 - p.2 by omega] at this
      · show q.1 ∣ h % lcmI p.1 q.1 - q.2
        have := Int.dvd_sub h2 (Int.dvd_mul_of_dvd_left (c := h / lcmI p.1 q.1) (dvd_lcm_r (a := p.1) (b := q.1) (by omega) (by omega)))
        rwa [show h - q.2 - lcmI p.1 q.1 * (h / lcmI p.1 q.1) = h % lcmI p.1 q.1 - q.2 by omega] at this
    refine ⟨_, chF_some hp hq hm, ?_⟩
    show lcmI p.1 q.1 ∣ h - h % lcmI p.1 q.1
    exact ⟨h / lcmI p.1 q.1, by omega⟩
end QS.K09
end

section
set_option Elab.async false
set_option linter.all false
set_option maxRecDepth 100000
set_option maxHeartbeats 1000000
namespace QS.K09
open PySem PySem.Spec PyProof.Rows L2 QS QS.MA
/-! ### meeting -/
theorem hmk {bs : List (Int × Int)} {s : Sto} : (∃ a, (∃ x, insOf (Str.ofString "Bells") s (mk bs) = some (a, x)) ∧ ¬Str.ofString "size" ∈ a) := ⟨["pairs"], ⟨_, by simp [mk, insOf]; rfl⟩, by decide⟩
theorem bez {a m : Int} (hm : 1 ≤ m) (hm2 : m ≤ 1000000000) : ∃ r, m ∣ a * r - Int.gcd a m := by
  obtain ⟨d0, s0, e0, _, r, rfl, _, _, hr⟩ := wp_get (wp_inverse (a := a) (m := m) (s := []) hm hm2)
  exact ⟨r, hr⟩
/-- two progressions have a number in common just if .. -/
theorem two_meet {p q : Int × Int} (hq : 1 ≤ q.1) (hq2 : q.1 ≤ 1000000000) : (∃ h, p.1 ∣ h - p.2 ∧ q.1 ∣ h - q.2) ↔ (Int.gcd p.1 q.1 : Int) ∣ q.2 - p.2 := by
  constructor
  · rintro ⟨h, h1, h2⟩
    have a1 : (Int.gcd p.1 q.1 : Int) ∣ h - p.2 := Int.dvd_trans (Int.gcd_dvd_left ..) h1
    have a2 : (Int.gcd p.1 q.1 : Int) ∣ h - q.2 := Int.dvd_trans (Int.gcd_dvd_right ..) h2
    have := Int.dvd_sub a1 a2
    rwa [show h - p.2 - (h - q.2) = q.2 - p.2 by omega] at this
  · rintro ⟨u, hu⟩
    obtain ⟨r, hr⟩ := bez (a := p.1) hq hq2
    refine ⟨p.2 + p.1 * (r * u), ?_, ?_⟩
    · rw [show p.2 + p.1 * (r * u) - p.2 = p.1 * (r * u) by omega]; exact Int.dvd_mul_right ..
    · have := Int.dvd_mul_of_dvd_left (c := u) hr
      rw [Int.sub_mul, Int.mul_assoc, ← hu] at this
      rwa [show p.2 + p.1 * (r * u) - q.2 = p.1 * (r * u) - (q.2 - p.2) by omega]
theorem chF_meet' {p q c : Int × Int} (hc : chF p q = some c) : IsMeet p q c := by
  unfold chF at hc
  split at hc
  · rename_i ex
    cases hc
    exact Classical.choose_spec ex
  · cases hc
/-! all of some -/
noncomputable def allF (c : Option (Int × Int)) : List (Int × Int) → Option (Int × Int)
  | [] => c
  | p :: r => allF (c.bind fun x => chF x p) r
theorem sp_all_of {bs : List (Int × Int)} {s : Sto} (hb : ∀ p ∈ bs, Ok p) : d_all_of [.lst (bs.map pD)] s = .ok (optD (allF (some (1, 0)) bs)) s := by
  apply wp_eq
  apply seal_pure
  apply wp_run
  have h2 : 2 ≤ sizeLine := by decide
  simp [b_all_of, h2]
  obtain ⟨P, hP⟩ : ∃ P : List D → En → Sto → Prop, P = fun l ρ s1 => s1 = s ∧ ∃ (r : List (Int × Int)) (c : Option (Int × Int)) (a b : Option D), ρ = [a, some (optD c), b] ∧ l = r.map pD ∧ (∀ p ∈ r, Ok p) ∧ (∀ x, c = some x → 1 ≤ x.1) ∧ allF c r = allF (some (1, 0)) bs := ⟨_, rfl⟩
  refine wps_forL P ?_ ?_ _ _ _ (by rw [hP]; exact ⟨rfl, bs, some (1, 0), _, _, rfl, rfl, hb, fun x hx => (by cases hx; decide), rfl⟩)
  · intro d l ρ s1 hI
    rw [hP] at hI
    obtain ⟨rfl, r, c, a, b, rfl, hl, hr, hc, e⟩ := hI
    cases r with
    | nil => cases hl
    | cons p r =>
      cases hl
      have hp := hr p (List.mem_cons_self ..)
      cases c with
      | none =>
        simp [optD]
        rw [hP]
        exact ⟨rfl, r, none, _, _, rfl, rfl, fun p hp => hr p (List.mem_cons_of_mem _ hp), fun x hx => (by cases hx), e⟩
      | some x =>
        have hx := hc x rfl
        have e1 : optD (some x) = pD x := rfl
        have e2 : isNon (pD x) = false := rfl
        simp [e1, e2, sp_ch hx hp.1 hp.2.1]
        rw [hP]
        refine ⟨rfl, r, chF x p, _, _, rfl, rfl, fun p hp => hr p (List.mem_cons_of_mem _ hp), fun y hy => ?_, e⟩
        have M := chF_meet' hy
        rw [M.e]
        exact lcmI_pos hx hp.1
  · intro ρ s1 hI
    rw [hP] at hI
    obtain ⟨rfl, r, c, a, b, rfl, hl, hr, hc, e⟩ := hI
    cases r with
    | cons p r => cases hl
    | nil =>
      have e : c = allF (some (1, 0)) bs := e
      simp [e]
      cases allF (some (1, 0)) bs <;> simp [optD]
end QS.K09
end

section
set_option Elab.async false
set_option linter.all false
set_option maxRecDepth 100000
set_option maxHeartbeats 1000000
namespace QS.K09
open PySem PySem.Spec PyProof.Rows L2 QS QS.MA
/-- an hour at which all ring -/
def Ring (bs : List (Int × Int)) (h : Int) : Prop := ∀ p ∈ bs, p.1 ∣ h - p.2
theorem allF_none : ∀ bs : List (Int × Int), allF none bs = none
  | [] => rfl
  | p :: r => allF_none r
theorem allF_some : ∀ {bs : List (Int × Int)} {c m : Int × Int} (hb : ∀ p ∈ bs, Ok p) (hc : 1 ≤ c.1 ∧ 0 ≤ c.2 ∧ c.2 < c.1) (e : allF (some c) bs = some m), m.1 = Wl bs c.1 ∧ 0 ≤ m.2 ∧ m.2 < m.1 ∧ ∀ h, m.1 ∣ h - m.2 ↔ (c.1 ∣ h - c.2 ∧ Ring bs h)
  | [], c, m, hb, hc, e => by
    cases e
    exact ⟨rfl, hc.2.1, hc.2.2, fun h => ⟨fun z => ⟨z, fun p hp => nomatch hp⟩, fun z => z.1⟩⟩
  | p :: r, c, m, hb, hc, e => by
    have hp := hb p (List.mem_cons_self ..)
    have e : allF (chF c p) r = some m := e
    cases q : chF c p with
    | none => rw [q, allF_none] at e; cases e
    | some x =>
      rw [q] at e
      have M := chF_meet' q
      have hx : 1 ≤ x.1 := by rw [M.e]; exact lcmI_pos hc.1 hp.1
      obtain ⟨h1, h2, h3, h4⟩ := allF_some (fun q hq => hb q (List.mem_cons_of_mem _ hq)) ⟨hx, M.lo, M.hi⟩ e
      refine ⟨by rw [h1, M.e]; rfl, h2, h3, fun h => ?_⟩
      rw [h4]
      have := chF_in hc.1 hp.1 h
      rw [q] at this
      constructor
      · rintro ⟨a, b⟩
        obtain ⟨a1, a2⟩ := this.mp ⟨x, rfl, a⟩
        refine ⟨a1, fun t ht => ?_⟩
        rcases List.mem_cons.mp ht with rfl | ht
        · exact a2
        · exact b t ht
      · rintro ⟨a, b⟩
        obtain ⟨x', e', z⟩ := this.mpr ⟨a, b p (List.mem_cons_self ..)⟩
        cases e'
        exact ⟨z, fun t ht => b t (List.mem_cons_of_mem _ ht)⟩
theorem allF_ex : ∀ {bs : List (Int × Int)} {c : Int × Int} (hb : ∀ p ∈ bs, Ok p) (hc : 1 ≤ c.1) {h : Int} (h1 : c.1 ∣ h - c.2) (h2 : Ring bs h), ∃ m, allF (some c) bs = some m
  | [], c, hb, hc, h, h1, h2 => ⟨c, rfl⟩
  | p :: r, c, hb, hc, h, h1, h2 => by
    have hp := hb p (List.mem_cons_self ..)
    obtain ⟨x, q, z⟩ := (chF_in hc hp.1 h).mpr ⟨h1, h2 p (List.mem_cons_self ..)⟩
    have M := chF_meet' q
    have hx : 1 ≤ x.1 := by rw [M.e]; exact lcmI_pos hc hp.1
    obtain ⟨m, hm⟩ := allF_ex (bs := r) (fun q hq => hb q (List.mem_cons_of_mem _ hq)) hx z fun t ht => h2 t (List.mem_cons_of_mem _ ht)
    refine ⟨m, ?_⟩
    show allF (chF c p) r = some m
    rw [q]
    exact hm
theorem dist2 {e a b d : Int} (h1 : (Int.gcd e a : Int) ∣ d) (h2 : (Int.gcd e b : Int) ∣ d) : (Int.gcd e (Int.lcm a b) : Int) ∣ d := by
  have nat : ∀ e a b D : Nat, Nat.gcd e a ∣ D → Nat.gcd e b ∣ D → Nat.gcd e (Nat.lcm a b) ∣ D := fun e a b D h1 h2 => by
    have hg1 : Nat.gcd e (Nat.lcm a b) ∣ e := Nat.gcd_dvd_left ..
    have hg2 : Nat.gcd e (Nat.lcm a b) ∣ Nat.lcm a b := Nat.gcd_dvd_right ..
    generalize Nat.gcd e (Nat.lcm a b) = g at *
    have hu : Nat.gcd g a ∣ D := Nat.dvd_trans (Nat.dvd_gcd (Nat.dvd_trans (Nat.gcd_dvd_left ..) hg1) (Nat.gcd_dvd_right ..)) h1
    have hv : Nat.gcd g b ∣ D := Nat.dvd_trans (Nat.dvd_gcd (Nat.dvd_trans (Nat.gcd_dvd_left ..) hg1) (Nat.gcd_dvd_right ..)) h2
    refine Nat.dvd_trans ?_ (Nat.lcm_dvd hu hv)
    have hua : Nat.gcd g a ∣ a := Nat.gcd_dvd_right ..
    have hvb : Nat.gcd g b ∣ b := Nat.gcd_dvd_right ..
    have hug : Nat.gcd g a ∣ g := Nat.gcd_dvd_left ..
    have w1 : Nat.gcd (Nat.gcd g a) (Nat.gcd g b) ∣ a := Nat.dvd_trans (Nat.gcd_dvd_left ..) hua
    have w2 : Nat.gcd (Nat.gcd g a) (Nat.gcd g b) ∣ b := Nat.dvd_trans (Nat.gcd_dvd_right ..) hvb
    have key : g * Nat.gcd (Nat.gcd g a) (Nat.gcd g b) ∣ Nat.gcd g a * Nat.gcd g b := by
      have e1 : Nat.gcd g a * Nat.gcd g b = Nat.gcd (g * Nat.gcd g b) (a * Nat.gcd g b) := (Nat.gcd_mul_right ..).symm
      rw [e1]
      refine Nat.dvd_gcd (Nat.mul_dvd_mul_left g (Nat.gcd_dvd_right ..)) ?_
      have e2 : a * Nat.gcd g b = Nat.gcd (a * g) (a * b) := (Nat.gcd_mul_left ..).symm
      rw [e2]
      refine Nat.dvd_gcd ?_ ?_
      · rw [Nat.mul_comm a g]; exact Nat.mul_dvd_mul_left g w1
      · have := Nat.gcd_mul_lcm a b
        rw [← this, Nat.mul_comm (Nat.gcd a b)]
        exact Nat.mul_dvd_mul hg2 (Nat.dvd_gcd w1 w2)
    have e3 := Nat.gcd_mul_lcm (Nat.gcd g a) (Nat.gcd g b)
    by_cases z : Nat.gcd (Nat.gcd g a) (Nat.gcd g b) = 0
    · have z1 := Nat.eq_zero_of_gcd_eq_zero_left z
      have z2 := Nat.eq_zero_of_gcd_eq_zero_left z1
      rw [z1] ; simp
    · rw [← e3, Nat.mul_comm] at key
      exact Nat.dvd_of_mul_dvd_mul_left (Nat.pos_of_ne_zero z) key
  have n1 : Nat.gcd e.natAbs a.natAbs ∣ d.natAbs := Int.natCast_dvd_natCast.mp (Int.dvd_natAbs.mpr h1)
  have n2 : Nat.gcd e.natAbs b.natAbs ∣ d.natAbs := Int.natCast_dvd_natCast.mp (Int.dvd_natAbs.mpr h2)
  have := nat _ _ _ _ n1 n2
  have e1 : (Int.gcd e (Int.lcm a b) : Nat) = Nat.gcd e.natAbs (Nat.lcm a.natAbs b.natAbs) := rfl
  rw [e1]
  exact Int.dvd_natAbs.mp (Int.natCast_dvd_natCast.mpr this)
theorem dist_Wl {e d : Int} : ∀ {bs : List (Int × Int)} {w : Int} (hb : ∀ p ∈ bs, 1 ≤ p.1) (hw : 1 ≤ w) (h0 : (Int.gcd e w : Int) ∣ d) (h : ∀ p ∈ bs, (Int.gcd e p.1 : Int) ∣ d), (Int.gcd e (Wl bs w) : Int) ∣ d
  | [], w, hb, hw, h0, h => h0
  | p :: r, w, hb, hw, h0, h => by
    have hp := hb p (List.mem_cons_self ..)
    refine dist_Wl (bs := r) (w := lcmI w p.1) (fun q hq => hb q (List.mem_cons_of_mem _ hq)) (lcmI_pos hw hp) ?_ fun q hq => h q (List.mem_cons_of_mem _ hq)
    rw [lcmI_eq (by omega) (by omega)]
    exact dist2 h0 (h p (List.mem_cons_self ..))
theorem dvd_Wl : ∀ {bs : List (Int × Int)} {w : Int} (hb : ∀ p ∈ bs, 1 ≤ p.1) (hw : 1 ≤ w), 1 ≤ Wl bs w ∧ w ∣ Wl bs w ∧ ∀ p ∈ bs, p.1 ∣ Wl bs w
  | [], w, hb, hw => ⟨hw, Int.dvd_refl w, fun p hp => nomatch hp⟩
  | p :: r, w, hb, hw => by
    have hp := hb p (List.mem_cons_self ..)
    have ih := dvd_Wl (bs := r) (w := lcmI w p.1) (fun p hp => hb p (List.mem_cons_of_mem _ hp)) (lcmI_pos hw hp)
    refine ⟨ih.1, Int.dvd_trans (dvd_lcm_l (by omega) (by omega)) ih.2.1, fun q hq => ?_⟩
    rcases List.mem_cons.mp hq with rfl | hq
    · exact Int.dvd_trans (dvd_lcm_r (by omega) (by omega)) ih.2.1
    · exact ih.2.2 q hq
/-- the fact of pairs -/
theorem helly : ∀ {bs : List (Int × Int)} (hb : ∀ p ∈ bs, Ok p) (h : ∀ p ∈ bs, ∀ q ∈ bs, (Int.gcd p.1 q.1 : Int) ∣ q.2 - p.2), ∃ x, Ring bs x
  | [], hb, h => ⟨0, fun p hp => nomatch hp⟩
  | p :: r, hb, h => by
    have hp := hb p (List.mem_cons_self ..)
    have hr : ∀ q ∈ r, Ok q := fun q hq => hb q (List.mem_cons_of_mem _ hq)
    obtain ⟨x, hx⟩ := helly hr fun a ha b hb => h a (List.mem_cons_of_mem _ ha) b (List.mem_cons_of_mem _ hb)
    obtain ⟨w1, _, w2⟩ := dvd_Wl (bs := r) (w := 1) (fun q hq => (hr q hq).1) (by omega)
    have hd : (Int.gcd p.1 (Wl r 1) : Int) ∣ x - p.2 := by
      refine dist_Wl (fun q hq => (hr q hq).1) (by omega) (by simp) fun q hq => ?_
      have a1 : (Int.gcd p.1 q.1 : Int) ∣ q.2 - p.2 := h p (List.mem_cons_self ..) q (List.mem_cons_of_mem _ hq)
      have a2 : (Int.gcd p.1 q.1 : Int) ∣ x - q.2 := Int.dvd_trans (Int.gcd_dvd_right ..) (hx q hq)
      have := Int.dvd_add a1 a2
      rwa [show q.2 - p.2 + (x - q.2) = x - p.2 by omega] at this
    obtain ⟨y, hy1, hy2⟩ := (two_meet (p := (Wl r 1, x)) (q := p) hp.1 hp.2.1).mpr (by
      show (Int.gcd (Wl r 1) p.1 : Int) ∣ p.2 - x
      rw [Int.gcd_comm]
      have := Int.dvd_neg.mpr hd
      rwa [show -(x - p.2) = p.2 - x by omega] at this)
    refine ⟨y, fun q hq => ?_⟩
    rcases List.mem_cons.mp hq with rfl | hq
    · exact hy2
    · have := Int.dvd_add (Int.dvd_trans (w2 q hq) hy1) (hx q hq)
      rwa [show y - x + (x - q.2) = y - q.2 by omega] at this
end QS.K09
end

section
set_option Elab.async false
set_option linter.all false
set_option maxRecDepth 100000
set_option maxHeartbeats 1000000
namespace QS.K09
open PySem PySem.Spec PyProof.Rows L2 QS QS.MA
/-! ### lots -/
def LtOk (n : Nat) (l : List Nat) : Prop := l.Pairwise (· < ·) ∧ ∀ i ∈ l, i < n
theorem ltOk_len {n : Nat} : ∀ {l : List Nat}, LtOk n l → l.length ≤ n := fun {l} h => by
  have key : ∀ (l : List Nat) (a : Nat), l.Pairwise (· < ·) → (∀ i ∈ l, a ≤ i ∧ i < n) → a ≤ n → l.length + a ≤ n := by
    intro l
    induction l with
    | nil => intro a _ _ h; simpa using h
    | cons x r ih =>
      intro a hp hm ha
      have hx := hm x (List.mem_cons_self ..)
      rw [List.pairwise_cons] at hp
      have := ih (x + 1) hp.2 (fun i hi => ⟨hp.1 i hi, (hm i (List.mem_cons_of_mem _ hi)).2⟩) (by omega)
      simp; omega
  simpa using key l 0 h.1 (fun i hi => ⟨by omega, h.2 i hi⟩) (by omega)
/-- the bells of a lot -/
def bAt (bs : List (Int × Int)) (i : Nat) : Int × Int := bs.getD i (1, 0)
def sel (bs : List (Int × Int)) (l : List Nat) : List (Int × Int) := l.map (bAt bs)
theorem sel_at {bs : List (Int × Int)} {i : Nat} (h : i < bs.length) : bs[i]? = some (bAt bs i) := by
  unfold bAt
  rw [List.getD_eq_getElem?_getD, List.getElem?_eq_getElem h]; rfl
theorem sel_ok {bs : List (Int × Int)} (hb : ∀ p ∈ bs, Ok p) {l : List Nat} (h : ∀ i ∈ l, i < bs.length) : ∀ p ∈ sel bs l, Ok p := fun p hp => by
  obtain ⟨i, hi, rfl⟩ := List.mem_map.mp hp
  exact hb _ (List.mem_of_getElem? (sel_at (h i hi)))
/-! the least pair -/
/-! who rings -/
end QS.K09
end

section
set_option Elab.async false
set_option linter.all false
set_option maxRecDepth 100000
set_option maxHeartbeats 1000000
namespace QS.K09
open PySem PySem.Spec PyProof.Rows L2 QS
theorem sp_pick {n g : Nat} {s : Sto} {many : Int} (hb : BgAt n g s) (h0 : 0 < many) (h1 : many < 2 ^ 8000) : wp (d__law_pick [.loc n, .int many] s) fun d s' => ∃ r, d = .int r ∧ 0 ≤ r ∧ r < many ∧ Bs n g s s' := by
  have hlt := hb.lt
  apply seal_bag hlt
  apply wp_run
  obtain ⟨⟨a, b, al, q1, q2⟩, ⟨gs, q3⟩, q4⟩ := id hb
  have mn : ∀ x : Int, 0 ≤ x % many ∧ x % many < many := fun x => ⟨Int.emod_nonneg _ (by omega), Int.emod_lt_of_pos _ h0⟩
  have last : ∀ (t : Sto) (x : Int), ∃ d', frz 4 s.length t (.int (x % many)) = some d' ∧ ∀ (s2 : Sto), Bs n g s s2 → ∃ r, d' = D.int r ∧ 0 ≤ r ∧ r < many ∧ Bs n g s s2 := fun t x => ⟨_, frz_closed (by simp), fun s2 h2 => ⟨_, rfl, (mn x).1, (mn x).2, h2⟩⟩
  have hdiv : DivOk (1 : Int) many := divOk_of h0 h1
  have hdv : ∀ x : Int, DivOk x many := fun x => hdiv
  have hgn : ∀ x, (s.set n x)[n]? = some x := fun x => List.getElem?_set_self hlt.1
  have hss : ∀ x y, (s.set n x).set n y = s.set n y := fun x y => by simp
  have hgg : ∀ x, (s.set n x)[g]? = some (.lst (gs.map D.int)) := fun x => by rw [List.getElem?_set_ne (fun e => q4 e.symm)]; exact q3
  unfold b__law_pick
  rcases q2 with rfl | ⟨i, rfl⟩
  · cases gs with
    | nil =>
      simp [q1, q3, hgn, hss, hgg]
      exact ⟨mok (.inr (by decide)), divOk_small (by decide) (by decide), h0, (put_bag hb _ _ _ (.inl rfl)).x, last _ _⟩
    | cons x gs =>
      by_cases c : x < many
      · have hs0 : seqIndex? 0 (gs.length + 1) = some 0 := seqIx (i := 0) (by omega)
        simp [q1, q3, c, h0, tyB_loc q3, hs0]
        exact ⟨(put_great hb gs).x, last _ _⟩
      · simp [q1, q3, c, h0, hdv]
        have e : D.int (x / many) :: gs.map D.int = (x / many :: gs).map D.int := rfl
        rw [e]
        exact ⟨(put_great hb (x / many :: gs)).x, last _ _⟩
  · simp [q1, h0]
    exact ⟨(Bs.refl hb).x, last _ _⟩
theorem sp_some {n g : Nat} {s : Sto} {rows : List D} (hb : BgAt n g s) (h0 : 0 < rows.length) (h1 : rows.length ≤ sizeLine) (hc : closedL s.length rows = true) : wp (d__law_some [.loc n, .lst rows] s) fun d s' => d ∈ rows ∧ Bs n g s s' := by
  have hlt := hb.lt
  have hsz : 16777216 = sizeLine := by decide
  apply seal_bag hlt
  apply wp_run
  simp [b__law_some]
  refine (sp_pick hb (by omega) (by omega)).mono ?_
  rintro d s2 ⟨r, rfl, r0, r1, H1⟩
  obtain ⟨k, rfl⟩ := Int.eq_ofNat_of_zero_le r0
  have hk : k < rows.length := by omega
  simp [atI_nat, List.getElem?_eq_getElem hk]
  exact ⟨H1.x, _, frz_closed ((closedL_all.mp hc) _ (List.getElem_mem hk)), fun s2 h2 => ⟨List.getElem_mem hk, h2⟩⟩
theorem wp_bag {ns : List Int} (h : ns.length ≤ 63) : wp (d__law_bag [.scr (ns.map D.int)] []) fun d s => d = .loc 1 ∧ s.length = 2 ∧ BgAt 1 0 s := by
  have hsz : 16777216 = sizeLine := by decide
  apply wp_run
  have hc : cut (ns.map D.int) none (some 60) = (ns.take 60).map D.int := by
    have := cut_to (xs := ns.map D.int) (k := 60)
    rw [show ((60 : Nat) : Int) = 60 from rfl] at this
    rw [this, List.map_take]
  have pw : PowOk 2 40 := by decide
  have pw2 : PowOk 10 12 := by decide
  simp [b__law_bag, hc]
  refine wps_forL (fun l ρ s1 => s1 = [] ∧ ∃ (r : List Int) (sd : Int) (x : Option D), ρ = [some (.scr (ns.map D.int)), some (.int sd), x, none, none] ∧ l = r.map D.int) ?_ ?_ _ _ _ ⟨rfl, ns.take 60, _, _, rfl, by simp⟩
  · rintro d l ρ s1 ⟨rfl, r, sd, x, rfl, hl⟩
    cases r with
    | nil => cases hl
    | cons y r =>
      cases hl
      simp [pw]
      exact ⟨mok (.inr (by decide)), r, rfl⟩
  · rintro ρ s1 ⟨rfl, r, sd, x, rfl, hl⟩
    cases r with
    | cons y r => cases hl
    | nil =>
      simp [wipeD, hc]
      refine ⟨by omega, ?_⟩
      rw [← List.map_take, lcL_pure (cv := D.int) (fun i => decide (10 ^ 12 ≤ (if i < 0 then -i else i))) (fun i => D.int (if i < 0 then -i else i)) (ns.take 60) (fun i hi => ⟨_, by simp; rfl, wp_eq (by simp [pw2]), fun _ => wp_eq (by simp)⟩)]
      simp only [wp_ok, wpv_new, if_true]
      rw [intL]
      generalize (((ns.take 60).filter _).map _ : List Int) = gs
      cases ns with
      | nil =>
        simp [wipeD, lcL, gSumA, orVL, gSum, g1, lstOf, intsOf]
        exact ⟨by decide, ⟨⟨_, _, _, rfl, .inr ⟨_, rfl⟩⟩, ⟨gs, rfl⟩, by decide⟩⟩
      | cons x t =>
        cases t with
        | nil =>
          by_cases c : (if x < 0 then -x else x) < 8
          · simp [c, wipeD]
            refine ⟨by decide, ?_⟩
            have e1 : [D.int x] = [x].map D.int := rfl
            rw [e1, lcL_map (cv := D.int) (fun i => D.int i) [x] (fun i hi => ⟨_, by simp; rfl, rfl, wp_eq (by simp)⟩)]
            simp only [wp_ok, wpv_new, Bool.false_eq_true, if_false]
            rw [show ([x].map fun i => D.int i) = [x].map D.int from rfl, wpv_sumAL]
            simp
            exact ⟨by decide, ⟨⟨_, _, _, rfl, .inr ⟨_, rfl⟩⟩, ⟨gs, rfl⟩, by decide⟩⟩
          · simp [c]
            exact ⟨by decide, ⟨⟨_, _, _, rfl, .inl rfl⟩, ⟨gs, rfl⟩, by decide⟩⟩
        | cons y r =>
          have e : ¬ ((r.length : Int) + 1 + 1 = 1) := by omega
          simp [e]
          exact ⟨by decide, ⟨⟨_, _, _, rfl, .inl rfl⟩, ⟨gs, rfl⟩, by decide⟩⟩
end QS.K09
end

section
set_option Elab.async false
set_option linter.all false
set_option maxRecDepth 100000
set_option maxHeartbeats 1000000
namespace QS.K09
open PySem PySem.Spec PyProof.Rows L2 QS QS.MA
theorem sub_mod_iff {h e a : Int} (he : 1 ≤ e) (h0 : 0 ≤ a) (h1 : a < e) : (h - a) % e = 0 ↔ h % e = a := by
  rw [emod_eq_iff he h0 h1]
  exact Int.dvd_iff_emod_eq_zero.symm
theorem sp_lround {bs : List (Int × Int)} {s : Sto} (hb : ∀ p ∈ bs, Ok p) : d__law_round [.lst (bs.map pD)] s = .ok (.int (Wl bs 1)) s := by
  apply wp_eq
  apply seal_pure
  apply wp_run
  simp [b__law_round]
  obtain ⟨P, hP⟩ : ∃ P : List D → En → Sto → Prop, P = fun l ρ s1 => s1 = s ∧ ∃ r w a x y z, ρ = [a, some (.int w), x, y, z] ∧ l = r.map pD ∧ (∀ p ∈ r, Ok p) ∧ 1 ≤ w ∧ Wl r w = Wl bs 1 := ⟨_, rfl⟩
  refine wps_forL P ?_ ?_ _ _ _ (by rw [hP]; exact ⟨rfl, bs, 1, _, _, _, _, rfl, rfl, hb, by omega, rfl⟩)
  · intro d l ρ s1 hI
    rw [hP] at hI
    obtain ⟨rfl, r, w, a, x, y, z, rfl, hl, hr, hw, e⟩ := hI
    cases r with
    | nil => cases hl
    | cons p r =>
      cases hl
      obtain ⟨h1, h2, h3, h4⟩ := hr p (List.mem_cons_self ..)
      simp [pD]
      have hL := lcmI_pos hw h1
      have hd1 : w ∣ lcmI w p.1 := dvd_lcm_l (by omega) (by omega)
      have hd2 : p.1 ∣ lcmI w p.1 := dvd_lcm_r (by omega) (by omega)
      obtain ⟨P2, hP2⟩ : ∃ P2 : Nat → En → Sto → Prop, P2 = fun k ρ s2 => s2 = s1 ∧ ∃ (f j : Int), ρ = [a, some (.int f), some (.int p.1), some (.int p.2), some (.int w)] ∧ f = w * j ∧ 1 ≤ j ∧ (∀ i, 1 ≤ i → i < j → ¬ p.1 ∣ w * i) ∧ f ≤ lcmI w p.1 ∧ (lcmI w p.1 - f).toNat = k := ⟨_, rfl⟩
      have hle : w ≤ lcmI w p.1 := Int.le_of_dvd (by omega) hd1
      refine wps_while P2 ?_ _ _ _ (by rw [hP2]; exact ⟨rfl, w, 1, rfl, by omega, by omega, fun i hi hi2 => by omega, hle, rfl⟩)
      intro k ρ s2 hI
      rw [hP2] at hI
      obtain ⟨rfl, f, j, rfl, hf, hj, hn, hf2, hk⟩ := hI
      simp
      refine ⟨by omega, ?_⟩
      by_cases c : f % p.1 = 0
      · simp [c]
        have hdf : p.1 ∣ f := Int.dvd_of_emod_eq_zero c
        have e2 : f = lcmI w p.1 := by
          have h5 := lcm_dvd (a := w) (b := p.1) (x := f) (by omega) (by omega) ⟨j, hf⟩ hdf
          have hpos : 1 ≤ f := by
            have := Int.mul_le_mul_of_nonneg_left hj (show 0 ≤ w by omega)
            omega
          have := Int.le_of_dvd (by omega) h5
          omega
        rw [e2, hP]
        exact ⟨rfl, r, _, _, _, _, _, rfl, rfl, fun p hp => hr p (List.mem_cons_of_mem _ hp), hL, e⟩
      · simp [c]
        have hnd : ¬ p.1 ∣ f := fun z => c (Int.emod_eq_zero_of_dvd z)
        obtain ⟨t, ht⟩ := hd1
        have hjt : j < t := by
          by_cases c2 : j < t
          · exact c2
          · exfalso
            by_cases c3 : t = j
            · apply hnd; rw [hf, ← c3, ← ht]; exact hd2
            · have ht1 : 1 ≤ t := by
                by_cases c4 : 1 ≤ t
                · exact c4
                · have := Int.mul_le_mul_of_nonneg_left (show t ≤ 0 by omega) (show 0 ≤ w by omega)
                  omega
              exact hn t ht1 (by omega) (by rw [← ht]; exact hd2)
        have e3 : f + w = w * (j + 1) := by rw [hf, Int.mul_add, Int.mul_one]
        have e4 : w * (j + 1) ≤ w * t := Int.mul_le_mul_of_nonneg_left (by omega) (by omega)
        refine ⟨(lcmI w p.1 - (f + w)).toNat, by omega, ?_⟩
        rw [hP2]
        refine ⟨rfl, f + w, j + 1, rfl, e3, by omega, fun i hi hi2 => ?_, by omega, rfl⟩
        by_cases c5 : i < j
        · exact hn i hi c5
        · have : i = j := by omega
          rw [this, ← hf]; exact hnd
  · intro ρ s1 hI
    rw [hP] at hI
    obtain ⟨rfl, r, w, a, x, y, z, rfl, hl, hr, hw, e⟩ := hI
    cases r with
    | cons p r => cases hl
    | nil =>
      simp
      exact e
/-! splits -/
end QS.K09
end

section
set_option Elab.async false
set_option linter.all false
set_option maxRecDepth 100000
set_option maxHeartbeats 4000000
/-! settings, in plain words -/
namespace QS.K09
open PySem PySem.Spec PyProof.Rows L2 QS QS.MB
theorem mul_dvd_iff {p c d : Int} (hp : 1 ≤ p) : p ∣ c * d ↔ p / (Int.gcd c p : Int) ∣ d := by
  have hg : 0 < Int.gcd c p := Int.gcd_pos_of_ne_zero_right _ (by omega)
  have hg2 : (0 : Int) < (Int.gcd c p : Int) := by omega
  have hco : Int.gcd (c / (Int.gcd c p : Int)) (p / (Int.gcd c p : Int)) = 1 := Int.gcd_ediv_gcd_ediv_gcd hg
  obtain ⟨a, ha⟩ : (Int.gcd c p : Int) ∣ p := Int.gcd_dvd_right ..
  obtain ⟨b, hb⟩ : (Int.gcd c p : Int) ∣ c := Int.gcd_dvd_left ..
  have e1 : p / (Int.gcd c p : Int) = a := Int.ediv_eq_of_eq_mul_right (by omega) ha
  have e2 : c / (Int.gcd c p : Int) = b := Int.ediv_eq_of_eq_mul_right (by omega) hb
  rw [e1, e2] at hco
  rw [e1]
  generalize (Int.gcd c p : Int) = g at *
  constructor
  · intro h
    have h1 : g * a ∣ g * (b * d) := by rw [← Int.mul_assoc, ← hb, ← ha]; exact h
    have h2 : a ∣ b * d := Int.dvd_of_mul_dvd_mul_left (by omega) h1
    have h3 : a.natAbs ∣ b.natAbs * d.natAbs := by rw [← Int.natAbs_mul]; exact Int.natAbs_dvd_natAbs.mpr h2
    have h4 : Nat.Coprime a.natAbs b.natAbs := by
      have : Nat.gcd b.natAbs a.natAbs = 1 := hco
      rw [Nat.Coprime, Nat.gcd_comm]
      exact this
    exact Int.natAbs_dvd_natAbs.mp (Nat.Coprime.dvd_of_dvd_mul_left h4 h3)
  · intro h
    rw [ha, hb, Int.mul_assoc]
    exact Int.mul_dvd_mul (Int.dvd_refl _) (Int.dvd_mul_of_dvd_right h)
/-- the bells along a progression -/
theorem along (c1 c2 : Int) : ∀ (bs : List (Int × Int)), (∀ p ∈ bs, 1 ≤ p.1) → ∃ qs : List (Int × Int), qs.length ≤ bs.length ∧ (∀ q ∈ qs, 1 ≤ q.1) ∧ ∀ k : Int, (∃ p ∈ bs, p.1 ∣ c2 + c1 * k - p.2) ↔ ∃ q ∈ qs, q.1 ∣ k - q.2
  | [], _ => ⟨[], by simp, by simp, by simp⟩
  | p :: bs, h => by
    obtain ⟨qs, h1, h2, h3⟩ := along c1 c2 bs (fun p hp => h p (List.mem_cons_of_mem _ hp))
    have hp := h p List.mem_cons_self
    by_cases c : ∃ k0 : Int, p.1 ∣ c2 + c1 * k0 - p.2
    · obtain ⟨k0, hk⟩ := c
      have hg : 0 < Int.gcd c1 p.1 := Int.gcd_pos_of_ne_zero_right _ (by omega)
      have hq : 1 ≤ p.1 / (Int.gcd c1 p.1 : Int) := by
        have := Int.le_of_dvd (by omega) (Int.gcd_dvd_right (a := c1) (b := p.1))
        have := (Int.le_ediv_iff_mul_le (a := 1) (b := p.1) (c := (Int.gcd c1 p.1 : Int)) (by omega)).mpr (by omega)
        exact this
      refine ⟨(p.1 / (Int.gcd c1 p.1 : Int), k0) :: qs, by simp; omega, fun q hm => ?_, fun k => ?_⟩
      · rcases List.mem_cons.mp hm with rfl | hm
        · exact hq
        · exact h2 q hm
      · have e : p.1 ∣ c2 + c1 * k - p.2 ↔ p.1 / (Int.gcd c1 p.1 : Int) ∣ k - k0 := by
          rw [← mul_dvd_iff hp]
          have : c2 + c1 * k - p.2 = (c2 + c1 * k0 - p.2) + c1 * (k - k0) := by rw [Int.mul_sub]; omega
          rw [this]
          exact (Int.dvd_add_right hk)
        constructor
        · rintro ⟨y, hy, q⟩
          rcases List.mem_cons.mp hy with rfl | hy
          · exact ⟨_, List.mem_cons_self, e.mp q⟩
          · obtain ⟨z, hz, w⟩ := (h3 k).mp ⟨y, hy, q⟩
            exact ⟨z, List.mem_cons_of_mem _ hz, w⟩
        · rintro ⟨y, hy, q⟩
          rcases List.mem_cons.mp hy with rfl | hy
          · exact ⟨_, List.mem_cons_self, e.mpr q⟩
          · obtain ⟨z, hz, w⟩ := (h3 k).mpr ⟨y, hy, q⟩
            exact ⟨z, List.mem_cons_of_mem _ hz, w⟩
    · refine ⟨qs, by simp; omega, h2, fun k => ?_⟩
      rw [← h3 k]
      constructor
      · rintro ⟨y, hy, q⟩
        rcases List.mem_cons.mp hy with rfl | hy
        · exact absurd ⟨k, q⟩ c
        · exact ⟨y, hy, q⟩
      · rintro ⟨y, hy, q⟩
        exact ⟨y, List.mem_cons_of_mem _ hy, q⟩
theorem two_pow_along {bs : List (Int × Int)} (hb : ∀ p ∈ bs, Ok p) {c1 c2 : Int} (hz : ∀ k : Nat, k < 2 ^ bs.length → loud bs (c2 + c1 * k) = true) (x : Int) : loud bs (c2 + c1 * x) = true := by
  obtain ⟨qs, h1, h2, h3⟩ := along c1 c2 bs (fun p hp => (hb p hp).1)
  refine (loud_iff hb).mpr ((h3 x).mpr (two_pow qs h2 0 (fun k hk => ?_) x))
  have hk2 : k < 2 ^ bs.length := Nat.lt_of_lt_of_le hk (Nat.pow_le_pow_right (by decide) h1)
  obtain ⟨q, hq, w⟩ := (h3 k).mp ((loud_iff hb).mp (hz k hk2))
  exact ⟨q, hq, by simpa using w⟩
/-! a setting -/
abbrev Fl := List (Nat × Bool)
def tru (f : Fl) : List Nat := (f.filter fun x => x.2).map (·.1)
def fal (f : Fl) : List Nat := (f.filter fun x => !x.2).map (·.1)
def agr (bs : List (Int × Int)) (f : Fl) (h : Int) : Bool := f.all fun x => decide (h % (bAt bs x.1).1 = (bAt bs x.1).2) == x.2
noncomputable def setF (bs : List (Int × Int)) (f : Fl) : Option Int := match allF (some (1, 0)) (sel bs (tru f)) with
  | none => none
  | some c => ((List.range (2 ^ (fal f).length)).map fun k : Nat => c.2 + c.1 * k).find? fun x => !loud (sel bs (fal f)) x
structure FOk (n : Nat) (f : Fl) : Prop where
  up : (f.map (·.1)).Pairwise (· < ·)
  lt : ∀ x ∈ f, x.1 < n
section
variable {bs : List (Int × Int)} {f : Fl} {h : Int}
theorem FOk.tru (hf : FOk bs.length f) : ∀ i ∈ tru f, i < bs.length := fun i hi => by
  obtain ⟨x, hx, rfl⟩ := List.mem_map.mp hi
  exact hf.lt x (List.mem_filter.mp hx).1
theorem FOk.fal (hf : FOk bs.length f) : ∀ i ∈ fal f, i < bs.length := fun i hi => by
  obtain ⟨x, hx, rfl⟩ := List.mem_map.mp hi
  exact hf.lt x (List.mem_filter.mp hx).1
theorem bAt_ok (hb : ∀ p ∈ bs, Ok p) {i : Nat} (hi : i < bs.length) : Ok (bAt bs i) := hb _ (List.mem_of_getElem? (sel_at hi))
theorem agr_iff (hb : ∀ p ∈ bs, Ok p) (hf : FOk bs.length f) : agr bs f h = true ↔ Ring (sel bs (tru f)) h ∧ loud (sel bs (fal f)) h = false := by
  have key : ∀ x ∈ f, (h % (bAt bs x.1).1 = (bAt bs x.1).2 ↔ (bAt bs x.1).1 ∣ h - (bAt bs x.1).2) := fun x hx => by
    have o := bAt_ok hb (hf.lt x hx)
    exact emod_eq_iff o.1 o.2.2.1 o.2.2.2
  unfold agr
  rw [List.all_eq_true]
  constructor
  · intro a
    refine ⟨fun p hp => ?_, ?_⟩
    · obtain ⟨i, hi, rfl⟩ := List.mem_map.mp hp
      obtain ⟨x, hx, rfl⟩ := List.mem_map.mp hi
      obtain ⟨hx, ht⟩ := List.mem_filter.mp hx
      have := a x hx
      rw [ht] at this
      exact (key x hx).mp (by simpa using this)
    · cases c : loud (sel bs (fal f)) h with
      | false => rfl
      | true =>
        obtain ⟨p, hp, w⟩ := (loud_iff (sel_ok hb hf.fal)).mp c
        obtain ⟨i, hi, rfl⟩ := List.mem_map.mp hp
        obtain ⟨x, hx, rfl⟩ := List.mem_map.mp hi
        obtain ⟨hx, ht⟩ := List.mem_filter.mp hx
        have := a x hx
        have ht : x.2 = false := by simpa using ht
        rw [ht] at this
        have e := (key x hx).mpr w
        simp [e] at this
  · rintro ⟨a, b⟩ x hx
    cases c : x.2 with
    | true =>
      have := a (bAt bs x.1) (List.mem_map.mpr ⟨x.1, List.mem_map.mpr ⟨x, List.mem_filter.mpr ⟨hx, c⟩, rfl⟩, rfl⟩)
      simpa using (key x hx).mpr this
    | false =>
      have : ¬ h % (bAt bs x.1).1 = (bAt bs x.1).2 := fun e => by
        have : loud (sel bs (fal f)) h = true := (loud_iff (sel_ok hb hf.fal)).mpr ⟨bAt bs x.1, List.mem_map.mpr ⟨x.1, List.mem_map.mpr ⟨x, List.mem_filter.mpr ⟨hx, by rw [c]; rfl⟩, rfl⟩, rfl⟩, (key x hx).mp e⟩
        rw [b] at this
        cases this
      simpa using this
theorem set_none (hb : ∀ p ∈ bs, Ok p) (hf : FOk bs.length f) : setF bs f = none ↔ ∀ x, agr bs f x = false := by
  have ho := sel_ok hb hf.fal
  have ht := sel_ok hb hf.tru
  unfold setF
  cases e : allF (some (1, 0)) (sel bs (tru f)) with
  | none =>
    refine ⟨fun _ x => ?_, fun _ => rfl⟩
    cases c : agr bs f x with
    | false => rfl
    | true =>
      obtain ⟨m, hm⟩ := allF_ex ht (c := (1, 0)) (by decide) (h := x) (Int.one_dvd _) ((agr_iff hb hf).mp c).1
      rw [e] at hm
      cases hm
  | some c =>
    obtain ⟨c1, c2, c3, c4⟩ := allF_some ht (by decide) e
    simp only
    constructor
    · intro q x
      have hn := find_none q
      cases z : agr bs f x with
      | false => rfl
      | true =>
        obtain ⟨z1, z2⟩ := (agr_iff hb hf).mp z
        obtain ⟨k, hk⟩ := (c4 x).mpr ⟨Int.one_dvd _, z1⟩
        have hx : x = c.2 + c.1 * k := by omega
        have := two_pow_along ho (c1 := c.1) (c2 := c.2) (fun k hk => by simpa using hn k (by simpa [sel] using hk)) k
        rw [← hx, z2] at this
        cases this
    · intro a
      refine List.find?_eq_none.mpr fun x hx => ?_
      obtain ⟨k, hk, rfl⟩ := List.mem_map.mp hx
      have := a (c.2 + c.1 * k)
      intro q
      have : agr bs f (c.2 + c.1 * k) = true := (agr_iff hb hf).mpr ⟨((c4 _).mp ⟨k, by omega⟩).2, by simpa using q⟩
      rw [a] at this
      cases this
theorem set_some (hb : ∀ p ∈ bs, Ok p) (hf : FOk bs.length f) {q : Int} (e : setF bs f = some q) : 0 ≤ q ∧ agr bs f q = true ∧ ∀ x, 0 ≤ x → x < q → agr bs f x = false := by
  have ho := sel_ok hb hf.fal
  have ht := sel_ok hb hf.tru
  unfold setF at e
  cases e1 : allF (some (1, 0)) (sel bs (tru f)) with
  | none => rw [e1] at e; cases e
  | some c =>
    rw [e1] at e
    simp only at e
    obtain ⟨c1, c2, c3, c4⟩ := allF_some ht (by decide) e1
    obtain ⟨k, hk, rfl, hq, hl⟩ := find_range e
    have p0 : 0 ≤ c.1 * (k : Int) := Int.mul_nonneg (by omega) (by omega)
    refine ⟨by omega, (agr_iff hb hf).mpr ⟨((c4 _).mp ⟨k, by omega⟩).2, by simpa using hq⟩, fun x h0 h1 => ?_⟩
    cases z : agr bs f x with
    | false => rfl
    | true =>
      obtain ⟨z1, z2⟩ := (agr_iff hb hf).mp z
      obtain ⟨j, hj⟩ := (c4 x).mpr ⟨Int.one_dvd _, z1⟩
      have hx : x = c.2 + c.1 * j := by omega
      have j0 : 0 ≤ j := by
        apply Int.le_of_lt_add_one
        apply Int.lt_of_mul_lt_mul_left (a := c.1) _ (by omega)
        rw [Int.mul_zero, Int.mul_add, Int.mul_one]
        omega
      have j1 : j < k := by
        apply Int.lt_of_mul_lt_mul_left (a := c.1) _ (by omega)
        omega
      obtain ⟨n, rfl⟩ := Int.eq_ofNat_of_zero_le j0
      have := hl n (by omega)
      rw [← hx, z2] at this
      cases this
/-- .. by its marks -/
theorem set_is (hb : ∀ p ∈ bs, Ok p) (hf : FOk bs.length f) {q : Int} (h0 : 0 ≤ q) (h1 : agr bs f q = true) (h2 : ∀ x, 0 ≤ x → x < q → agr bs f x = false) : setF bs f = some q := by
  cases e : setF bs f with
  | none => rw [(set_none hb hf).mp e q] at h1; cases h1
  | some p =>
    obtain ⟨a, b, c⟩ := set_some hb hf e
    have : p = q := by
      rcases Int.lt_trichotomy p q with z | z | z
      · rw [h2 p a z] at b; cases b
      · exact z
      · rw [c q h0 z] at h1; cases h1
    rw [this]
end
end QS.K09
end

section
set_option Elab.async false
set_option linter.all false
set_option maxRecDepth 100000
set_option maxHeartbeats 2000000
/-! what is refused -/
namespace QS.K09
open PySem PySem.Spec PyProof.Rows L2 QS TL
/-- no number -/
def NoInt : D → Prop
  | .bl _ => True
  | .non => True
  | .str _ => True
  | .tup _ => True
  | .lst _ => True
  | .dic _ _ => True
  | _ => False
theorem sp_int_no {o : D} {s : Sto} (h : NoInt o) : d_is_integer [o] s = .ok (.bl false) s := by
  apply wp_eq
  apply seal_pure
  apply wp_run
  cases o with
  | bl b => simp [b_is_integer, ansB, builtinTys]
  | non => simp [b_is_integer, ansB, builtinTys]
  | str i => simp [b_is_integer, ansB, builtinTys]
  | tup l => simp [b_is_integer, ansB, builtinTys]
  | lst l => simp [b_is_integer, ansB, builtinTys]
  | dic a b => simp [b_is_integer, ansB, builtinTys, QS.tyV]
  | _ => exact h.elim
theorem sp_below_no {o : D} {j : Int} {s : Sto} (h : NoInt o) : d_is_below [o, .int j] s = .ok (.bl false) s := by
  apply wp_eq
  apply seal_pure
  apply wp_run
  simp [b_is_below, sp_int_no h]
end QS.K09
end

section
set_option Elab.async false
set_option linter.all false
set_option maxRecDepth 100000
set_option maxHeartbeats 4000000
/-! flags checked -/
namespace QS.K09
open PySem PySem.Spec PyProof.Rows L2 QS
def fD (f : Fl) : D := .dic (f.map fun x => .inl (x.1 : Int)) (f.map fun x => .bl x.2)
def kOk (n : Nat) : D → Bool
  | .int i => decide (0 ≤ i) && decide (i < n)
  | _ => false
def Lg (d : D) : Prop := (∃ i, d = .int i) ∨ NoInt d
def isBl : D → Bool
  | .bl _ => true
  | _ => false
theorem wpv_allB {l : List D} {ns : List Bool} {s : Sto} {Q : D → Sto → Prop} (h : l = ns.map D.bl) : wpv (gAll [.lst l] s) Q = Q (.bl (ns.all id)) s := by
  subst h
  exact wpv_allL
theorem is_bl {d : D} {s : Sto} (h : Lg d) : wpv (gIsi (ansB "bool" cls) d s) (fun y s1 => y = .bl (isBl d) ∧ s1 = s) := by
  rcases h with ⟨i, rfl⟩ | h
  · simp [isBl, ansB, builtinTys]
  · cases d with
    | bl b => simp [isBl, ansB, builtinTys]
    | non => simp [isBl, ansB, builtinTys]
    | str i => simp [isBl, ansB, builtinTys]
    | tup l => simp [isBl, ansB, builtinTys]
    | lst l => simp [isBl, ansB, builtinTys]
    | dic a b => simp [isBl, ansB, builtinTys, QS.tyV]
    | _ => exact h.elim
section
variable {bs : List (Int × Int)} {f : Fl} {s : Sto} {x : Option D}
theorem lc_keys : ∀ (l : List D), (∀ d ∈ l, Lg d) → lcL (gSet 3) tT0 (eCall (fnN 2 d_is_below) (aCons (eVar 3) (aCons (eMeth "Bells" "size" (fnN 1 d_Bells_size) (eVar 0) aNil) (aNil)))) none s [some (mk bs), x, none, none] l s = .ok ((l.map (kOk bs.length)).map D.bl) s := fun l h => by
  have e := lcL_map (g := gSet 3) (t := tT0) (e := eCall (fnN 2 d_is_below) (aCons (eVar 3) (aCons (eMeth "Bells" "size" (fnN 1 d_Bells_size) (eVar 0) aNil) (aNil)))) (gd := none) (ρ := [some (mk bs), x, none, none]) (s := s) (cv := id) (fun d => .bl (kOk bs.length d)) l (fun d hd => ⟨_, rfl, rfl, ?_⟩)
  · rw [List.map_id] at e
    rw [e, List.map_map]
    rfl
  · apply wp_eq
    simp [sp_size, hmk]
    rcases h d hd with ⟨i, rfl⟩ | h
    · simp [sp_is_below, kOk]
    · rw [sp_below_no h, wp_ok]
      refine ⟨?_, rfl⟩
      cases d <;> first | rfl | exact h.elim
theorem lc_vals : ∀ (l : List D), (∀ d ∈ l, Lg d) → lcL (gSet 2) tT0 (eU (gIsi (ansB "bool" cls)) (eVar 2)) none s [some (mk bs), x, none, none] l s = .ok ((l.map isBl).map D.bl) s := fun l h => by
  have e := lcL_map (g := gSet 2) (t := tT0) (e := eU (gIsi (ansB "bool" cls)) (eVar 2)) (gd := none) (ρ := [some (mk bs), x, none, none]) (s := s) (cv := id) (fun d => .bl (isBl d)) l (fun d hd => ⟨_, rfl, rfl, ?_⟩)
  · rw [List.map_id] at e
    rw [e, List.map_map]
    rfl
  · apply wp_eq
    rw [wp_eU, wp_eVar]
    exact is_bl (h d hd)
theorem wp_check {ks : List Key} {ds : List D} {Q : D → Sto → Prop} {E : Ex → Sto → Prop} (hl : ks.length = ds.length) (h15 : ks.length ≤ 100) (hv : ∀ d ∈ ds, Lg d)
    (hy : (ks.map keyD).all (kOk bs.length) = true → ds.all isBl = true → Q .non s) (hn : ((ks.map keyD).all (kOk bs.length) && ds.all isBl) = false → E { cls := "NoFlags" } s) : wp (run 4 b_check_flags [mk bs, .dic ks ds] s) Q E := by
  apply wp_run
  have z : ∀ k : Nat, k ≤ 100 → k ≤ sizeLine := fun k hk => Nat.le_trans hk (by decide)
  have hk : ∀ d ∈ ks.map keyD, Lg d := fun d hd => by
    obtain ⟨k, _, rfl⟩ := List.mem_map.mp hd
    cases k with
    | inl i => exact .inl ⟨i, rfl⟩
    | inr y => exact .inr True.intro
  simp [b_check_flags, wipeD, ansB, builtinTys, QS.tyV, -List.map_map]
  refine ⟨z _ h15, ?_⟩
  rw [lc_keys _ hk, wp_ok, wpv_allL]
  cases c1 : (ks.map keyD).all (kOk bs.length) with
  | false =>
    have c2 : ((ks.map keyD).map (kOk bs.length)).all id = false := by rw [← c1, List.all_map]; rfl
    simp only [c2]
    simpa using hn (by rw [c1]; rfl)
  | true =>
    have c2 : ((ks.map keyD).map (kOk bs.length)).all id = true := by rw [← c1, List.all_map]; rfl
    simp only [c2]
    simp [wpv_itVals hl]
    refine ⟨z _ (by omega), ?_⟩
    rw [lc_vals _ hv, wp_ok, wpv_allL]
    have c4 : (ds.map isBl).all id = ds.all isBl := by rw [List.all_map]; rfl
    rw [c4]
    cases c3 : ds.all isBl with
    | false => simpa using hn (by rw [c1, c3]; rfl)
    | true => simpa using hy c1 c3
theorem sp_check (hf : ∀ x ∈ f, x.1 < bs.length) (hl : f.length ≤ 100) : d_check_flags [mk bs, fD f] s = .ok .non s := by
  apply wp_eq
  apply seal_pure
  refine wp_check (by simp) (by simpa using hl) (fun d hd => ?_) (fun _ _ => ⟨rfl, by simp, rfl, rfl⟩) fun h => ?_
  · obtain ⟨x, _, rfl⟩ := List.mem_map.mp hd
    exact .inr True.intro
  · have h1 : ((f.map fun x => (.inl (x.1 : Int) : Key)).map keyD).all (kOk bs.length) = true := by
      rw [List.map_map, List.all_map, List.all_eq_true]
      intro x hx
      have := hf x hx
      simp [keyD, kOk]
      omega
    have h2 : (f.map fun x => D.bl x.2).all isBl = true := by
      rw [List.all_map, List.all_eq_true]
      intro x hx
      rfl
    rw [h1, h2] at h
    cases h
/-- no flags -/
def NoFl (n : Nat) : D → Prop
  | .dic ks ds => ks.length = ds.length ∧ ks.length ≤ 100 ∧ (∀ d ∈ ds, Lg d) ∧ ((ks.map keyD).all (kOk n) && ds.all isBl) = false
  | .odd ks => ∃ k, ks = [k] ∧ NoInt k
  | .int _ => True
  | .ins c _ _ => c = "Bells"
  | .bl _ => True
  | .non => True
  | .str _ => True
  | .tup _ => True
  | .lst _ => True
  | _ => False
theorem sp_check_no {d : D} (h : NoFl bs.length d) : d_check_flags [mk bs, d] s = .exn { cls := "NoFlags" } s := by
  apply wp_eqX
  apply seal_pure
  cases d with
  | dic ks ds =>
    obtain ⟨h1, h2, h3, h4⟩ := h
    refine wp_check h1 h2 h3 (fun a b => ?_) fun _ => ⟨rfl, ⟨fun p h => (by cases h), rfl, rfl⟩⟩
    rw [a, b] at h4
    cases h4
  | odd ks =>
    obtain ⟨k, rfl, hk⟩ := h
    apply wp_run
    have z : 1 ≤ sizeLine := by decide
    simp [b_check_flags, wipeD, ansB, builtinTys, QS.tyV, z]
    rw [lc_keys [k] (fun d hd => by rw [List.mem_singleton.mp hd]; exact .inr hk), wp_ok, wpv_allL]
    have : kOk bs.length k = false := by cases k <;> first | rfl | exact hk.elim
    simp [this]
  | int i => apply wp_run; simp [b_check_flags, wipeD, ansB, builtinTys]
  | bl i => apply wp_run; simp [b_check_flags, wipeD, ansB, builtinTys]
  | non => apply wp_run; simp [b_check_flags, wipeD, ansB, builtinTys]
  | str i => apply wp_run; simp [b_check_flags, wipeD, ansB, builtinTys]
  | tup i => apply wp_run; simp [b_check_flags, wipeD, ansB, builtinTys]
  | lst i => apply wp_run; simp [b_check_flags, wipeD, ansB, builtinTys]
  | ins c a b =>
    have h : c = "Bells" := h
    subst h
    apply wp_run
    simp [b_check_flags, wipeD, ansB, builtinTys, QS.tyV]
  | _ => exact h.elim
end
end QS.K09
end

section
set_option Elab.async false
set_option linter.all false
set_option maxRecDepth 100000
set_option maxHeartbeats 4000000
/-! a setting told -/
namespace QS.K09
open PySem PySem.Spec PyProof.Rows L2 QS
theorem ixp0 {r : Int × Int} {t : Sto} {Q : D → Sto → Prop} : wpv (gIx (pD r) (.int 0) t) Q = Q (.int r.1) t := by simp [pD]
theorem ixp1 {r : Int × Int} {t : Sto} {Q : D → Sto → Prop} : wpv (gIx (pD r) (.int 1) t) Q = Q (.int r.2) t := by simp [pD]
theorem intKeys_fl : ∀ f : Fl, intKeys (f.map fun x => .inl (x.1 : Int)) = some (f.map fun x => (x.1 : Int))
  | [] => rfl
  | x :: r => by
    show (intKeys (r.map fun x => .inl (x.1 : Int))).map _ = _
    rw [intKeys_fl r]
    rfl
theorem sortI_up {l : List Int} (h : l.Pairwise (· ≤ ·)) : sortI l = l := sorted_oneI (sortI_sorted l) h (sortI_perm l)
theorem FOk.sorted {n : Nat} {f : Fl} (h : FOk n f) : sortI (f.map fun x => (x.1 : Int)) = f.map fun x => (x.1 : Int) := by
  refine sortI_up ?_
  have := h.up
  rw [List.pairwise_map] at this ⊢
  exact this.imp fun h => by omega
theorem valD_fl : ∀ {f : Fl}, (f.map (·.1)).Nodup → ∀ x ∈ f, valD (f.map fun x => .inl (x.1 : Int)) (f.map fun x => D.bl x.2) (.inl (x.1 : Int)) = some (.bl x.2)
  | [], _, x, h => nomatch h
  | y :: r, hn, x, h => by
    rw [List.map_cons] at hn
    obtain ⟨h1, h2⟩ := List.nodup_cons.mp hn
    rw [List.map_cons, List.map_cons]
    unfold valD
    rcases List.mem_cons.mp h with rfl | h
    · rw [if_pos rfl]
    · have : ¬ ((.inl (y.1 : Int) : Key) = .inl (x.1 : Int)) := fun e => by
        have e2 : (y.1 : Int) = x.1 := by injection e
        have e3 : y.1 = x.1 := by omega
        exact h1 (by rw [e3]; exact List.mem_map.mpr ⟨x, h, rfl⟩)
      rw [if_neg this]
      exact valD_fl h2 x h
theorem FOk.nd {n : Nat} {f : Fl} (h : FOk n f) : (f.map (·.1)).Nodup := h.up.imp fun h => by omega
section
variable {bs : List (Int × Int)} {f : Fl} {s : Sto}
theorem FOk.len (h : FOk bs.length f) : f.length ≤ bs.length := by
  have := ltOk_len (l := f.map (·.1)) ⟨h.up, fun i hi => by
    obtain ⟨x, hx, rfl⟩ := List.mem_map.mp hi
    exact h.lt x hx⟩
  simpa using this
theorem ix_fl {n : Nat} (h : FOk n f) {x : Nat × Bool} (hx : x ∈ f) {Q : D → Sto → Prop} : wpv (gIxD (fD f) (.int (x.1 : Int)) s) Q = Q (.bl x.2) s := by
  have e : gIxD (fD f) (.int (x.1 : Int)) s = some (.bl x.2, s) := by
    simp [gIxD, fD, dicOf, keyOf, valD_fl h.nd x hx]
  rw [e, wpv_some]
theorem atI_b {i : Nat} (h : i < bs.length) : atI (bs.map pD) (i : Int) = some (pD (bAt bs i)) := by
  rw [atI_nat, List.getElem?_map, sel_at h]
  rfl
theorem lc_tru (hf : FOk bs.length f) {a b c d e : Option D} : lcL (gSet 6) (tV (eB gIxD (eVar 1) (eVar 6))) (eB gIx (eU (gFld "Bells" "pairs") (eVar 0)) (eVar 6)) none s [some (mk bs), some (fD f), a, b, c, d, none, e] (f.map fun x => D.int (x.1 : Int)) s = .ok ((sel bs (tru f)).map pD) s := by
  rw [lcL_pure (cv := fun x : Nat × Bool => D.int (x.1 : Int)) (fun x => x.2) (fun x => pD (bAt bs x.1)) f (fun x hx => ?_)]
  · simp [sel, tru, Function.comp_def]
  · refine ⟨_, rfl, ?_, fun _ => ?_⟩
    · apply wp_eq
      simp [ix_fl hf hx]
    · apply wp_eq
      simp [atI_b (hf.lt x hx)]
theorem lc_fal (hf : FOk bs.length f) {a b c d e : Option D} : lcL (gSet 6) (QS.tNot (tV (eB gIxD (eVar 1) (eVar 6)))) (eB gIx (eU (gFld "Bells" "pairs") (eVar 0)) (eVar 6)) none s [some (mk bs), some (fD f), a, b, c, d, none, e] (f.map fun x => D.int (x.1 : Int)) s = .ok ((sel bs (fal f)).map pD) s := by
  rw [lcL_pure (cv := fun x : Nat × Bool => D.int (x.1 : Int)) (fun x => !x.2) (fun x => pD (bAt bs x.1)) f (fun x hx => ?_)]
  · simp [sel, fal, Function.comp_def]
  · refine ⟨_, rfl, ?_, fun _ => ?_⟩
    · apply wp_eq
      simp [ix_fl hf hx]
    · apply wp_eq
      simp [atI_b (hf.lt x hx)]
theorem lc_rings {qs : List (Int × Int)} (hq : ∀ p ∈ qs, Ok p) {h : Int} {a b c d e g : Option D} : lcL (gSet 7) tT0 (eCall (fnN 2 d_rings) (aCons (eVar 7) (aCons (eVar 5) aNil))) none s [a, b, c, d, e, some (.int h), g, none] (qs.map pD) s = .ok ((qs.map fun p => decide (h % p.1 = p.2)).map D.bl) s := by
  rw [lcL_map (cv := pD) (fun p => D.bl (decide (h % p.1 = p.2))) qs (fun p hp => ⟨_, rfl, rfl, wp_eq ?_⟩), List.map_map]
  · rfl
  · simp [sp_rings (hq p hp).1]
theorem tru_len : (tru f).length ≤ f.length := by simp [tru]; exact List.length_filter_le ..
theorem fal_len : (fal f).length ≤ f.length := by simp [fal]; exact List.length_filter_le ..
theorem sp_setting (hb : OkL bs) (hf : FOk bs.length f) : d_setting [mk bs, fD f] s = .ok (optI (setF bs f)) s := by
  apply wp_eq
  apply seal_pure
  apply wp_run
  have hl := hf.len
  have hl2 := hb.2
  have z : ∀ k : Nat, k ≤ 100 → k ≤ sizeLine := fun k hk => Nat.le_trans hk (by decide)
  have so : ∀ (t : Sto) (Q : D → Sto → Prop), wpv (gSortedDI false [fD f] t) Q = wpv (new false ((f.map fun x => (x.1 : Int)).map D.int) t) Q := fun t Q => by
    rw [wpv_sortDI (x := fD f) rfl (intKeys_fl f) (by simp; omega), hf.sorted]
  have em : (f.map fun x => (x.1 : Int)).map D.int = f.map fun x => D.int (x.1 : Int) := by rw [List.map_map]; rfl
  have hsel := sel_ok hb.1 hf.fal
  have hst := sel_ok hb.1 hf.tru
  simp only [b_setting]
  simp [wipeD, sp_check hf.lt (by omega), so, -List.map_map, em]
  refine ⟨z _ (by omega), ?_⟩
  rw [lc_tru hf, wp_ok, sp_all_of hst, wp_ok]
  refine ⟨z _ (by omega), ?_⟩
  rw [lc_fal hf, wp_ok]
  have hfl : (sel bs (fal f)).length ≤ 14 := by
    have := fal_len (f := f)
    simp [sel]
    omega
  have hfl2 : (sel bs (fal f)).length = (fal f).length := by simp [sel]
  cases e : allF (some (1, 0)) (sel bs (tru f)) with
  | none =>
    have es : setF bs f = none := by unfold setF; rw [e]
    simp [optD, es, optI]
  | some c =>
    have es : setF bs f = ((List.range (2 ^ (fal f).length)).map fun k : Nat => c.2 + c.1 * k).find? fun x => !loud (sel bs (fal f)) x := by unfold setF; rw [e]
    have e1 : optD (some c) = pD c := rfl
    have e2 : isNon (pD c) = false := rfl
    have hd := sp_doubled (n := (sel bs (fal f)).length) (s := s) (by omega)
    have hpow : 2 ^ (fal f).length ≤ 16384 := Nat.le_trans (Nat.pow_le_pow_right (by omega) (by rw [← hfl2]; exact hfl)) (by decide)
    simp only [e1, e2, List.length_map, Bool.false_eq_true, if_false]
    rw [hd, wp_ok, hfl2]
    obtain ⟨m, hm⟩ : ∃ m : Nat, m = 2 ^ (fal f).length := ⟨_, rfl⟩
    rw [← hm] at hpow ⊢
    simp
    refine ⟨rngOk_of (by omega) (by omega), ?_⟩
    obtain ⟨P, hP⟩ : ∃ P : List D → En → Sto → Prop, P = fun l ρ s1 => s1 = s ∧ ∃ (j k : Nat) (a b : Option D), ρ = [some (mk bs), some (fD f), some (pD c), some (.lst ((sel bs (fal f)).map pD)), a, b, none, none] ∧ l = rngD j k ∧ j + k = m ∧ setF bs f = ((List.range' j k).map fun k : Nat => c.2 + c.1 * k).find? fun x => !loud (sel bs (fal f)) x := ⟨_, rfl⟩
    refine wps_forL P ?_ ?_ _ _ _ (by rw [hP]; exact ⟨rfl, 0, m, _, _, rfl, by simp, by omega, by rw [es, ← hm, List.range_eq_range']⟩)
    · intro d l ρ s1 hI
      rw [hP] at hI
      obtain ⟨rfl, j, k, a, b, rfl, hl, hj, hq⟩ := hI
      cases k with
      | zero => cases hl
      | succ k =>
        rw [rngD_succ] at hl
        cases hl
        rw [List.range'_succ, List.map_cons, List.find?_cons] at hq
        have mo : MulOk c.1 (j : Int) := mok (.inr (by omega))
        simp [mo, wipeD]
        rw [ixp1, ixp0, wpv_mul]
        refine ⟨mo, ?_⟩
        rw [wpv_addI]
        refine ⟨z _ (by omega), ?_⟩
        rw [lc_rings hsel, wp_ok, wpv_anyL, wp_asB]
        have el : ((sel bs (fal f)).map fun p => decide ((c.2 + c.1 * j) % p.1 = p.2)).any id = loud (sel bs (fal f)) (c.2 + c.1 * j) := by rw [List.any_map]; rfl
        rw [el]
        cases cl : loud (sel bs (fal f)) (c.2 + c.1 * j) with
        | true =>
          rw [cl] at hq
          rw [if_pos rfl, hP]
          exact ⟨rfl, j + 1, k, _, _, rfl, by push_cast; rfl, by omega, hq⟩
        | false =>
          rw [cl] at hq
          rw [if_neg (by simp), hq]
          exact ⟨rfl, by simp, rfl⟩
    · intro ρ s1 hI
      rw [hP] at hI
      obtain ⟨rfl, j, k, a, b, rfl, hl, hj, hq⟩ := hI
      cases k with
      | succ n => rw [rngD_succ] at hl; cases hl
      | zero =>
        simp
        rw [hq]
        simp [optI]
end
end QS.K09
end

section
set_option Elab.async false
set_option linter.all false
set_option maxRecDepth 100000
set_option maxHeartbeats 4000000
/-! the law's own look at an hour -/
namespace QS.K09
open PySem PySem.Spec PyProof.Rows L2 QS
section
variable {bs : List (Int × Int)} {f : Fl} {s : Sto} {h : Int}
theorem sp_agrees (hb : ∀ p ∈ bs, Ok p) (hf : FOk bs.length f) (hl : bs.length ≤ 100) : d__law_agrees [.lst (bs.map pD), fD f, .int h] s = .ok (.bl (agr bs f h)) s := by
  apply wp_eq
  apply seal_pure
  apply wp_run
  have hlf := hf.len
  have z : ∀ k : Nat, k ≤ 100 → k ≤ sizeLine := fun k hk => Nat.le_trans hk (by decide)
  have em : ∀ (t : Sto) (Q : D → Sto → Prop), wpv (gListDk false [fD f] t) Q = Q (.lst (f.map fun x => D.int (x.1 : Int))) t := fun t Q => by
    have e : (f.map fun x => (.inl (x.1 : Int) : Key)).map keyD = f.map fun x => D.int (x.1 : Int) := by rw [List.map_map]; rfl
    rw [fD, wpv_listDk, e, wpv_new, if_neg (by simp)]
  simp [b__law_agrees, wipeD, em]
  refine ⟨z _ (by omega), ?_⟩
  rw [lcL_map (cv := fun x : Nat × Bool => D.int (x.1 : Int)) (fun x => .bl (decide (h % (bAt bs x.1).1 = (bAt bs x.1).2) == x.2)) f (fun x hx => ⟨_, rfl, rfl, ?_⟩)]
  · have e : (f.map fun x => D.bl (decide (h % (bAt bs x.1).1 = (bAt bs x.1).2) == x.2)) = (f.map fun x => (decide (h % (bAt bs x.1).1 = (bAt bs x.1).2) == x.2)).map D.bl := by rw [List.map_map]; rfl
    rw [e, wp_ok, wpv_allL]
    have e2 : (f.map fun x => (decide (h % (bAt bs x.1).1 = (bAt bs x.1).2) == x.2)).all id = agr bs f h := by rw [List.all_map]; rfl
    rw [e2]
    exact ⟨rfl, by simp, rfl⟩
  · apply wp_eq
    have o := bAt_ok hb (hf.lt x hx)
    simp [atI_b (hf.lt x hx), ixp0, ixp1, ix_fl hf hx]
    refine ⟨by have := o.1; omega, ?_⟩
    have e := sub_mod_iff (h := h) o.1 o.2.2.1 o.2.2.2
    simp only [e]
    cases x.2 <;> simp
end
end QS.K09
end

section
set_option Elab.async false
set_option linter.all false
set_option maxRecDepth 100000
set_option maxHeartbeats 4000000
/-! flags laid, sealed, compared -/
namespace QS.K09
open PySem PySem.Spec PyProof.Rows L2 QS
def kF (f : Fl) : List Key := f.map fun x => .inl (x.1 : Int)
def vF (f : Fl) : List D := f.map fun x => .bl x.2
theorem fD_eq (f : Fl) : fD f = .dic (kF f) (vF f) := rfl
theorem hasK_no {f : Fl} {k : Nat} (h : ∀ x ∈ f, x.1 < k) : hasK (kF f) (.inl (k : Int)) = false := by
  unfold hasK kF
  rw [List.any_map, List.any_eq_false]
  intro x hx
  have := h x hx
  simp
  omega
theorem st_fl {f : Fl} {k n : Nat} {b : Bool} {s : Sto} (hs : s[n]? = some (.dic (kF f) (vF f))) (h : ∀ x ∈ f, x.1 < k) (hl : f.length < 100) : gStD (.loc n) (.int (k : Int)) (.bl b) s = some (s.set n (.dic (kF (f ++ [(k, b)])) (vF (f ++ [(k, b)])))) := by
  have z : f.length < sizeLine := Nat.lt_of_lt_of_le hl (by decide)
  simp [gStD, hs, keyOf, putDk, hasK_no h]
  simp [kF, vF, z]
theorem closed_vF {n : Nat} : ∀ f : Fl, closedL n (vF f) = true
  | [] => by simp [vF, closedL]
  | x :: r => by
    have := closed_vF (n := n) r
    unfold vF at this ⊢
    simp [closedL, this]
theorem frz_dic {s : Sto} {n k j : Nat} {ks : List Key} {l : List D} (h : s[n]? = some (.dic ks l)) (hn : ¬ n < k) (hc : closedL k l = true) : frz (j + 1) k s (.loc n) = some (.dic ks l) := by
  unfold frz
  have hn' : ¬ closed k (.loc n) = true := by simpa using hn
  rw [if_neg hn']
  simp only [h]
  have : l.mapM (frz j k s) = some l := by
    clear h
    induction l with
    | nil => rfl
    | cons d r ih =>
      simp [closedL] at hc
      rw [List.mapM_cons, frz_closed hc.1, ih hc.2]
      rfl
  rw [this]
  rfl
theorem valD_v {α : Type} (v : Bool → α) : ∀ {f : Fl}, (f.map (·.1)).Nodup → ∀ x ∈ f, valD (kF f) (f.map fun x => v x.2) (.inl (x.1 : Int)) = some (v x.2)
  | [], _, x, h => nomatch h
  | y :: r, hn, x, h => by
    rw [List.map_cons] at hn
    obtain ⟨h1, h2⟩ := List.nodup_cons.mp hn
    unfold kF
    rw [List.map_cons, List.map_cons]
    unfold valD
    rcases List.mem_cons.mp h with rfl | h
    · rw [if_pos rfl]
    · have : ¬ ((.inl (y.1 : Int) : Key) = .inl (x.1 : Int)) := fun e => by
        have e2 : (y.1 : Int) = x.1 := by injection e
        have e3 : y.1 = x.1 := by omega
        exact h1 (by rw [e3]; exact List.mem_map.mpr ⟨x, h, rfl⟩)
      rw [if_neg this]
      exact valD_v v h2 x h
def pF (f : Fl) : List PyData := f.map fun x => .bool x.2
theorem dat_fl : ∀ f : Fl, dat0L (vF f) = some (pF f)
  | [] => rfl
  | x :: r => by
    have := dat_fl r
    unfold vF pF at this ⊢
    simp [dat0L, dat0, this]
theorem hits_fl {f : Fl} (hn : (f.map (·.1)).Nodup) : ∀ g : Fl, (∀ x ∈ g, x ∈ f) → dHits (kF f) (pF f) (kF g) (pF g) = true
  | [], _ => rfl
  | x :: r, h => by
    have e := valD_v PyData.bool hn x (h x List.mem_cons_self)
    have := hits_fl hn r (fun y hy => h y (List.mem_cons_of_mem _ hy))
    show (match valD (kF f) (pF f) (.inl (x.1 : Int)) with
      | none => false
      | some q => PyData.eqv (.bool x.2) q && dHits (kF f) (pF f) (kF r) (pF r)) = true
    rw [show valD (kF f) (pF f) (.inl (x.1 : Int)) = some (PyData.bool x.2) from e]
    simp [this, PyData.eqv]
theorem ne_fl {f : Fl} {s : Sto} (hn : (f.map (·.1)).Nodup) : gNeDc (fD f) (fD f) s = some (.bl false, s) := by
  have hs : (pF f).all SeqAt.shaped = true := by
    unfold pF
    rw [List.all_map, List.all_eq_true]
    intro x hx
    rfl
  have e : dicOf s (fD f) = some (kF f, vF f) := rfl
  simp [gNeDc, gEqDF, e, dat_fl, hits_fl hn f (fun _ h => h)]
  simpa using hs
/-! sealing the slots -/
theorem fz_nil {n : Nat} {s : Sto} : fzEn n s [] = some [] := rfl
theorem fz_some {n : Nat} {s : Sto} {d d' : D} {r r' : En} (h : frz 4 n s d = some d') (hr : fzEn n s r = some r') : fzEn n s (some d :: r) = some (some d' :: r') := by simp [fzEn, h, hr]
/-- a slot without a place -/
def CA (x : Option D) : Prop := ∀ d, x = some d → ∀ k, closed k d = true
theorem fz_ca {n : Nat} {s : Sto} {x : Option D} {r r' : En} (h : CA x) (hr : fzEn n s r = some r') : fzEn n s (x :: r) = some (x :: r') := by
  cases x with
  | none => simp [fzEn, hr]
  | some d => simp [fzEn, frz_closed (h d rfl n), hr]
theorem CA.none : CA none := fun _ h => nomatch h
theorem CA.int {i : Int} : CA (some (.int i)) := fun _ h k => by cases h; simp
theorem CA.fl {f : Fl} : CA (some (fD f)) := fun _ h k => by
  cases h
  have := closed_vF (n := k) f
  simp only [fD, closed]
  exact this
end QS.K09
end

section
set_option Elab.async false
set_option linter.all false
set_option maxRecDepth 100000
set_option maxHeartbeats 4000000
/-! small bells -/
namespace QS.K09
open PySem PySem.Spec PyProof.Rows L2 QS
theorem agr_per {bs : List (Int × Int)} {f : Fl} (hb : ∀ p ∈ bs, Ok p) (hf : FOk bs.length f) (h : Int) : agr bs f (h % Wl bs 1) = agr bs f h := by
  obtain ⟨w1, _, w3⟩ := dvd_Wl (bs := bs) (w := 1) (fun p hp => (hb p hp).1) (by decide)
  unfold agr
  have : ∀ x ∈ f, (decide (h % Wl bs 1 % (bAt bs x.1).1 = (bAt bs x.1).2) == x.2) = (decide (h % (bAt bs x.1).1 = (bAt bs x.1).2) == x.2) := fun x hx => by
    rw [Int.emod_emod_of_dvd _ (w3 _ (List.mem_of_getElem? (sel_at (hf.lt x hx))))]
  induction f with
  | nil => rfl
  | cons y r ih =>
    rw [List.all_cons, List.all_cons, this y List.mem_cons_self, ih ⟨(List.pairwise_cons.mp hf.up).2, fun x hx => hf.lt x (List.mem_cons_of_mem _ hx)⟩ fun x hx => this x (List.mem_cons_of_mem _ hx)]
/-- the first of all hours of a round -/
theorem small_first {bs : List (Int × Int)} {f : Fl} (hb : ∀ p ∈ bs, Ok p) (hf : FOk bs.length f) : ((List.range (Wl bs 1).toNat).filter fun h : Nat => agr bs f h).head?.map (fun h : Nat => (h : Int)) = setF bs f := by
  obtain ⟨w1, _, _⟩ := dvd_Wl (bs := bs) (w := 1) (fun p hp => (hb p hp).1) (by decide)
  rw [List.head?_filter]
  cases e : setF bs f with
  | none =>
    have hn := (set_none hb hf).mp e
    rw [List.find?_eq_none.mpr (fun x _ => by rw [hn]; simp)]
    rfl
  | some q =>
    obtain ⟨h0, h1, h2⟩ := set_some hb hf e
    obtain ⟨n, rfl⟩ := Int.eq_ofNat_of_zero_le h0
    have hq : (n : Int) < Wl bs 1 := by
      have h3 := agr_per hb hf n
      rw [h1] at h3
      have h4 := Int.emod_nonneg (n : Int) (show Wl bs 1 ≠ 0 by omega)
      have h5 := Int.emod_lt_of_pos (n : Int) (show 0 < Wl bs 1 by omega)
      rcases Int.lt_or_le (n : Int) (Wl bs 1) with c | c
      · exact c
      · rw [h2 _ h4 (by omega)] at h3
        cases h3
    rw [List.find?_range_eq_some.mpr ⟨h1, List.mem_range.mpr (by omega), fun j hj => by rw [h2 j (by omega) (by omega)]; rfl⟩]
    rfl
structure Sm (bs : List (Int × Int)) : Prop where
  ok : ∀ p ∈ bs, Ok p
  le : ∀ p ∈ bs, p.1 ∣ 120
  len : bs.length ≤ 7
theorem Wl_dvd_of {N : Int} : ∀ {bs : List (Int × Int)} {w : Int} (hb : ∀ p ∈ bs, 1 ≤ p.1 ∧ p.1 ∣ N) (hw : 1 ≤ w) (h : w ∣ N), Wl bs w ∣ N
  | [], w, hb, hw, h => h
  | p :: r, w, hb, hw, h => by
    obtain ⟨h1, h2⟩ := hb p (List.mem_cons_self ..)
    exact Wl_dvd_of (bs := r) (fun q hq => hb q (List.mem_cons_of_mem _ hq)) (lcmI_pos hw h1) (lcm_dvd (by omega) (by omega) h h2)
theorem Sm.round {bs : List (Int × Int)} (h : Sm bs) : 1 ≤ Wl bs 1 ∧ Wl bs 1 ≤ 120 :=
  ⟨(dvd_Wl (fun p hp => (h.ok p hp).1) (by omega)).1, Int.le_of_dvd (by decide) (Wl_dvd_of (fun p hp => ⟨(h.ok p hp).1, h.le p hp⟩) (by omega) (by simp))⟩
theorem Sm.okl {bs : List (Int × Int)} (h : Sm bs) : OkL bs := ⟨h.ok, by have := h.len; omega⟩
theorem closed_ints {k : Nat} : ∀ l : List Nat, closedL k (l.map fun h : Nat => D.int (h : Int)) = true
  | [] => rfl
  | x :: r => by simpa [closedL] using closed_ints r
theorem sp_rest {n : Nat} {bs : List (Int × Int)} {f : Fl} {t : Sto} {x2 x3 x7 x8 x9 : Option D} {N : En → Sto → Prop} {R : D → Sto → Prop} {E : Ex → En → Sto → Prop} (hS : Sm bs) (hf : FOk bs.length f)
    (hN : ∀ y8, CA y8 → N [some (.loc n), some (.lst (bs.map pD)), x2, x3, some (mk bs), some (.int (Wl bs 1)), some (fD f), x7, y8, some (fD f), none] t) :
    wps (r__law_small_right [some (.loc n), some (.lst (bs.map pD)), x2, x3, some (mk bs), some (.int (Wl bs 1)), some (fD f), x7, x8, x9, none] t) N R E := by
  obtain ⟨w1, w2⟩ := hS.round
  have hl := hS.len
  have z : ∀ k : Nat, k ≤ 1000 → k ≤ sizeLine := fun k hk => Nat.le_trans hk (by decide)
  unfold r__law_small_right
  simp [wipeD]
  refine ⟨rngOk_of (by omega) (by omega), by have := z 1000 (by decide); omega, ?_⟩
  rw [rngD0, lcL_pure (cv := fun h : Nat => D.int (h : Int)) (fun h => agr bs f h) (fun h => D.int (h : Int)) (List.range (Wl bs 1).toNat) (fun h hh => ⟨_, rfl, ?_, fun _ => ?_⟩)]
  · obtain ⟨L, hL⟩ : ∃ L, L = (List.range (Wl bs 1).toNat).filter fun h : Nat => agr bs f h := ⟨_, rfl⟩
    have hlen : L.length ≤ 120 := by
      have := List.length_filter_le (fun h : Nat => agr bs f h) (List.range (Wl bs 1).toNat)
      rw [← hL, List.length_range] at this
      omega
    have hd : (L.map fun h : Nat => D.int (h : Int)) ++ [D.non] = (L.map fun h : Nat => D.int (h : Int)) ++ [D.non] := rfl
    have h0 : ((L.map fun h : Nat => D.int (h : Int)) ++ [D.non])[0]? = some (optI (setF bs f)) := by
      rw [← small_first hS.ok hf, ← hL]
      cases L <;> rfl
    have h1 : ∀ hh, ((L.map fun h : Nat => D.int (h : Int)) ++ [D.non])[0]'hh = optI (setF bs f) := fun hh => by
      rw [List.getElem?_eq_getElem hh] at h0
      exact Option.some.inj h0
    have hg : ∀ (Q : D → Sto → Prop), wpv (gDict false [fD f] t) Q = Q (fD f) t := fun Q => by
      have e : gDict false [fD f] t = some (fD f, t) := rfl
      rw [e, wpv_some]
    rw [← hL, wp_ok]
    simp [hg, sp_setting hS.okl hf, h1]
    refine ⟨by decide, by have := z 1000 (by decide); omega, ?_⟩
    rw [show gNeDc (fD f) (fD f) t = some (.bl false, t) from ne_fl hf.nd, wpv_some]
    simp
    exact hN _ fun d hd k => by
      cases hd
      simp only [closed]
      exact closed_ints L
  · apply wp_eq
    simp [sp_agrees hS.ok hf (by omega)]
  · apply wp_eq
    simp
end QS.K09
end

section
set_option Elab.async false
set_option linter.all false
set_option maxRecDepth 100000
set_option maxHeartbeats 4000000
/-! small bells: the law's own part -/
namespace QS.K09
open PySem PySem.Spec PyProof.Rows L2 QS
theorem FOk.snoc {k : Nat} {f : Fl} (h : FOk k f) (b : Bool) : FOk (k + 1) (f ++ [(k, b)]) := by
  refine ⟨?_, fun x hx => ?_⟩
  · rw [List.map_append, List.pairwise_append]
    refine ⟨h.up, by simp, fun a ha c hc => ?_⟩
    obtain ⟨x, hx, rfl⟩ := List.mem_map.mp ha
    simp at hc
    subst hc
    exact h.lt x hx
  · rcases List.mem_append.mp hx with hx | hx
    · have := h.lt x hx; omega
    · simp at hx; subst hx; simp
theorem FOk.more {k : Nat} {f : Fl} (h : FOk k f) : FOk (k + 1) f := ⟨h.up, fun x hx => by have := h.lt x hx; omega⟩
theorem FOk.len' {k : Nat} {f : Fl} (h : FOk k f) : f.length ≤ k := by
  have := ltOk_len (l := f.map (·.1)) ⟨h.up, fun i hi => by
    obtain ⟨x, hx, rfl⟩ := List.mem_map.mp hi
    exact h.lt x hx⟩
  simpa using this
/-- flags drawn -/
theorem sp_group {n g : Nat} {bs : List (Int × Int)} {t : Sto} {x2 x3 y4 y5 x6 x7 x8 x9 : Option D} {N : En → Sto → Prop} {R : D → Sto → Prop} {E : Ex → En → Sto → Prop} (hb : BgAt n g t) (hl : bs.length ≤ 14) (c7 : CA x7)
    (hN : ∀ f t1 y7, FOk bs.length f → Bx n g t t1 → t1.length = t.length + 1 → t1[t.length]? = some (.dic (kF f) (vF f)) → CA y7 → N [some (.loc n), some (.lst (bs.map pD)), x2, x3, y4, y5, some (.loc t.length), y7, x8, x9, none] t1) :
    wps (g__law_small_right [some (.loc n), some (.lst (bs.map pD)), x2, x3, y4, y5, x6, x7, x8, x9, none] t) N R E := by
  have hlt := hb.lt
  have h2 : 2 ≤ sizeLine := by decide
  unfold g__law_small_right
  simp [eDic0, newD]
  refine ⟨rngOk_of (by omega) (by omega), ?_⟩
  obtain ⟨P, hP⟩ : ∃ P : List D → En → Sto → Prop, P = fun l ρ t1 => ∃ (f : Fl) (k j : Nat) (y7 : Option D), ρ = [some (.loc n), some (.lst (bs.map pD)), x2, x3, y4, y5, some (.loc t.length), y7, x8, x9, none] ∧ l = rngD k j ∧ k + j = bs.length ∧ FOk k f ∧ Bx n g t t1 ∧ t1.length = t.length + 1 ∧ t1[t.length]? = some (.dic (kF f) (vF f)) ∧ CA y7 := ⟨_, rfl⟩
  refine wps_forL P ?_ ?_ _ _ _ (by rw [hP]; exact ⟨[], 0, bs.length, _, rfl, rfl, by omega, ⟨by simp, by simp⟩, Bx.app hb _, by simp, by simp [kF, vF], c7⟩)
  · intro d l ρ t1 hI
    rw [hP] at hI
    obtain ⟨f, k, j, y7, rfl, hl, hk, hf, hx, hlen, hd, hc⟩ := hI
    cases j with
    | zero => cases hl
    | succ j =>
      rw [rngD_succ] at hl
      cases hl
      simp
      refine (sp_pick hx.at_ (by decide) (by decide)).mono ?_
      rintro d t2 ⟨r, rfl, r0, r1, H2⟩
      have d2 : t2[t.length]? = some (.dic (kF f) (vF f)) := by rw [H2.same _ (by omega) (by omega)]; exact hd
      by_cases c : 0 < r
      · simp [c, h2]
        refine (sp_some (rows := [.int 2, .int 4]) H2.at_ (by decide) (by decide) (by simp)).mono ?_
        rintro d t3 ⟨hm, H3⟩
        obtain ⟨e, rfl, e0, e1⟩ : ∃ e : Int, d = .int e ∧ 0 < e ∧ e ≤ 4 := by
          simp at hm
          rcases hm with rfl | rfl <;> exact ⟨_, rfl, by decide, by decide⟩
        refine (sp_pick H3.at_ e0 (Int.lt_of_le_of_lt e1 (by decide +kernel))).mono ?_
        rintro d t4 ⟨q, rfl, q0, q1, H4⟩
        have H24 := (H2.trans H3).trans H4
        have d4 : t4[t.length]? = some (.dic (kF f) (vF f)) := by rw [H24.same _ (by omega) (by omega)]; exact hd
        simp
        have hfl := hf.len'
        refine ⟨_, st_fl d4 hf.lt (by omega), ?_⟩
        rw [hP]
        have X4 : Bx n g t t4 := hx.trans H24.x
        refine ⟨f ++ [(k, decide (q = 0))], k + 1, j, _, rfl, by push_cast; rfl, by omega, hf.snoc _, X4.write hlt (Nat.le_refl _), by simp [H24.len, hlen], ?_, CA.int⟩
        rw [List.getElem?_set_self (List.getElem?_eq_some_iff.mp d4).1]
      · simp [c]
        rw [hP]
        exact ⟨f, k + 1, j, _, rfl, by push_cast; rfl, by omega, hf.more, hx.trans H2.x, by rw [H2.len, hlen], d2, CA.int⟩
  · intro ρ t1 hI
    rw [hP] at hI
    obtain ⟨f, k, j, y7, rfl, hl, hk, hf, hx, hlen, hd, hc⟩ := hI
    cases j with
    | succ n => rw [rngD_succ] at hl; cases hl
    | zero =>
      obtain rfl : k = bs.length := by omega
      exact hN f t1 y7 hf hx hlen hd hc
theorem closed_pD {k : Nat} : ∀ bs : List (Int × Int), closedL k (bs.map pD) = true
  | [] => rfl
  | p :: r => by simpa [closedL, pD] using closed_pD r
theorem sp_tail {n g : Nat} {bs : List (Int × Int)} {t0 : Sto} {x2 x3 : Option D} {R : D → Sto → Prop} {N : En → Sto → Prop} {E : Ex → En → Sto → Prop} (B0 : BgAt n g t0) (hS : Sm bs) (c2 : CA x2) (c3 : CA x3) (hR : ∀ t1, Bs n g t0 t1 → R (.bl true) t1) :
    wps (rA__law_small_right [some (.loc n), some (.lst (bs.map pD)), x2, x3, none, none, none, none, none, none, none] t0) N R E := by
  have hbl := hS.len
  have hlt := B0.lt
  unfold rA__law_small_right
  simp [sp_lround hS.ok]
  refine wp.noX (Eq.mpr (wp_Bells (s := t0) (Q := fun d' s => RngOk 5 ∧ wps (forL (gSet 2) (sFz g__law_small_right r__law_small_right) none s (rngD 0 5) [some (.loc n), some (.lst (bs.map pD)), x2, x3, some d', some (.int (Wl bs 1)), none, none, none, none, none] s) (fun ρ' s' => R (.bl true) s') R E) hS.okl) ?_)
  refine ⟨rngOk_of (by decide) (by decide), ?_⟩
  obtain ⟨P, hP⟩ : ∃ P : List D → En → Sto → Prop, P = fun l ρ t => Bs n g t0 t ∧ ∃ (x2 x6 x7 x8 x9 : Option D), ρ = [some (.loc n), some (.lst (bs.map pD)), x2, x3, some (mk bs), some (.int (Wl bs 1)), x6, x7, x8, x9, none] ∧ CA x2 ∧ CA x7 ∧ CA x8 ∧ CA x9 ∧ ∃ k j, l = rngD k j := ⟨_, rfl⟩
  refine wps_forL P ?_ ?_ _ _ _ (by rw [hP]; exact ⟨Bs.refl B0, _, _, _, _, _, rfl, c2, CA.none, CA.none, CA.none, _, _, rfl⟩)
  · intro d l ρ t hI
    rw [hP] at hI
    obtain ⟨hB, x2, x6, x7, x8, x9, rfl, c2, c7, c8, c9, k, j, hl⟩ := hI
    cases j with
    | zero => cases hl
    | succ j =>
      rw [rngD_succ] at hl
      cases hl
      simp
      rw [wps_sFz]
      have hlt2 := hB.at_.lt
      refine sp_group hB.at_ (by omega) c7 fun f t1 y7 hf hx hlen hd cy => ?_
      refine ⟨_, fz_some (frz_closed (by simpa using hlt2.1)) (fz_some (frz_closed (by simp only [closed]; exact closed_pD bs)) (fz_ca CA.int (fz_ca c3 (fz_some (frz_closed (by simp)) (fz_ca CA.int (fz_some (frz_dic hd (by omega) (closed_vF f)) (fz_ca cy (fz_ca c8 (fz_ca c9 (fz_ca CA.none fz_nil)))))))))), hx.old hlt2, ?_⟩
      refine sp_rest hS hf fun y8 c8 => ?_
      rw [hP]
      exact ⟨hB.trans (hx.take hlt2), _, _, _, _, _, rfl, CA.int, cy, c8, CA.fl, _, _, rfl⟩
  · intro ρ t hI
    rw [hP] at hI
    obtain ⟨hB, x2, x6, x7, x8, x9, rfl, c2, c7, c8, c9, k, j, hl⟩ := hI
    exact hR t hB
set_option exponentiation.threshold 9000 in
theorem sp_small {n g : Nat} {s : Sto} (hb : BgAt n g s) : wp (d__law_small_right [.loc n] s) fun d s' => d = .bl true ∧ Bs n g s s' := by
  have hlt := hb.lt
  have h2 : 2 ≤ sizeLine := by decide
  have h8 : 8 ≤ sizeLine := by decide
  have z : ∀ k : Nat, k ≤ 100 → k ≤ sizeLine := fun k hk => Nat.le_trans hk (by decide)
  apply seal_bag hlt
  apply wp_run
  simp only [b__law_small_right]
  rw [wps_sFz]
  simp [gA__law_small_right]
  refine (sp_pick (hb.app _) (by decide) (by decide)).mono ?_
  rintro d s1 ⟨r, rfl, r0, r1, H1⟩
  simp
  refine ⟨rngOk_of (by omega) (by omega), ?_⟩
  have X1 : Bx n g s s1 := (Bx.app hb _).trans H1.x
  have A1 : s1[s.length]? = some (.lst []) := by rw [H1.same _ (by omega) (by omega)]; simp
  obtain ⟨P, hP⟩ : ∃ P : List D → En → Sto → Prop, P = fun l ρ t => ∃ (bs : List (Int × Int)) (k : Nat) (x2 x3 : Option D), ρ = [some (.loc n), some (.loc s.length), x2, x3, none, none, none, none, none, none, none] ∧ l = rngD (bs.length : Nat) k ∧ bs.length + k ≤ 7 ∧ Sm bs ∧ Bx n g s t ∧ t.length = s.length + 1 ∧ t[s.length]? = some (.lst (bs.map pD)) ∧ CA x2 ∧ CA x3 := ⟨_, rfl⟩
  refine wps_forL P ?_ ?_ _ _ _ (by rw [hP]; exact ⟨[], r.toNat, _, _, rfl, rfl, by simp; omega, ⟨by simp, by simp, by simp⟩, X1, by rw [H1.len]; simp, A1, CA.none, CA.none⟩)
  · intro d l ρ t hI
    rw [hP] at hI
    obtain ⟨bs, k, x2, x3, rfl, hl, hk, hS, hx, hlen, hd, c2, c3⟩ := hI
    cases k with
    | zero => cases hl
    | succ k =>
      rw [rngD_succ] at hl
      cases hl
      simp [h8]
      refine (sp_some (rows := [.int 1, .int 2, .int 3, .int 4, .int 5, .int 6, .int 8, .int 12]) hx.at_ (by decide) (by decide) (by simp)).mono ?_
      rintro d t2 ⟨hm, H2⟩
      obtain ⟨e, rfl, e1, e2, e3⟩ : ∃ e : Int, d = .int e ∧ 1 ≤ e ∧ e ≤ 12 ∧ e ∣ 120 := by
        simp at hm
        rcases hm with rfl | rfl | rfl | rfl | rfl | rfl | rfl | rfl <;> exact ⟨_, rfl, by decide, by decide, by decide⟩
      have A2 : t2[s.length]? = some (.lst (bs.map pD)) := by rw [H2.same _ (by omega) (by omega)]; exact hd
      simp [tyB_loc A2]
      refine (sp_pick H2.at_ (by omega) (Int.lt_of_le_of_lt e2 (by decide +kernel))).mono ?_
      rintro d t3 ⟨a, rfl, a0, a1, H3⟩
      have A3 : t3[s.length]? = some (.lst (bs.map pD)) := by rw [H3.same _ (by omega) (by omega)]; exact A2
      have hbl := hS.len
      simp [A3, h2]
      refine ⟨z _ (by omega), ?_⟩
      have X3 : Bx n g s t3 := hx.trans (H2.trans H3).x
      rw [hP]
      refine ⟨bs ++ [(e, a)], k, _, _, rfl, by simp, by simp; omega, ⟨fun p hp => ?_, fun p hp => ?_, by simp; omega⟩, X3.write hlt (Nat.le_refl _), by simp [H3.len, H2.len, hlen], ?_, CA.int, CA.int⟩
      · rcases List.mem_append.mp hp with hp | hp
        · exact hS.ok p hp
        · simp at hp; subst hp; exact ⟨e1, by show e ≤ _; omega, a0, a1⟩
      · rcases List.mem_append.mp hp with hp | hp
        · exact hS.le p hp
        · simp at hp; subst hp; exact e3
      · rw [List.getElem?_set_self (List.getElem?_eq_some_iff.mp A3).1]
        simp [pD]
  · intro ρ t hI
    rw [hP] at hI
    obtain ⟨bs, k, x2, x3, rfl, hl, hk, hS, hx, hlen, hd, c2, c3⟩ := hI
    refine ⟨_, fz_some (frz_closed (by simpa using hlt.1)) (fz_some (frz_lst hd (by omega) (closed_pD bs)) (fz_ca c2 (fz_ca c3 (fz_ca CA.none (fz_ca CA.none (fz_ca CA.none (fz_ca CA.none (fz_ca CA.none (fz_ca CA.none (fz_ca CA.none fz_nil)))))))))), hx.old hlt, ?_⟩
    have B0 := hx.take hlt
    refine sp_tail B0.at_ hS c2 c3 fun t1 H => ?_
    have H2 := B0.trans H
    exact ⟨H2.x, _, frz_closed (by simp), fun s2 h2 => ⟨rfl, h2⟩⟩
end QS.K09
end

section
set_option Elab.async false
set_option linter.all false
set_option maxRecDepth 100000
set_option maxHeartbeats 4000000
/-! what is no flags -/
namespace QS.K09
open PySem PySem.Spec PyProof.Rows L2 QS
section
variable {bs : List (Int × Int)} {s : Sto} {d : D}
theorem sp_set_no (h : NoFl bs.length d) : d_setting [mk bs, d] s = .exn { cls := "NoFlags" } s := by
  apply wp_eqX
  apply seal_pure
  apply wp_run
  simp [b_setting, sp_check_no h]
theorem sp_refused (h : NoFl bs.length d) : d__law_is_refused [mk bs, d] s = .ok (.bl true) s := by
  apply wp_eq
  apply seal_pure
  apply wp_run
  simp [b__law_is_refused]
  refine wps_try ?_
  simp [sp_set_no h]
  refine ⟨by decide, .nx [some (mk bs), some d, some (.bl true), none] s, fun a q hq => ?_, by simp⟩
  have hq : q.isSome = Option.isSome (none : Option (Str × D)) := hq
  have ez : okX a q (xv { cls := "NoFlags" } a q) = true := okX_xv hq
  refine congrArg (unsl 3) (a₂ := SRes.nx [some (mk bs), some d, some (.bl true), some (xv { cls := "NoFlags" } a q)] s) ?_
  apply wps_eq
  simp [ez]
theorem wp_eDic1E {k : Key} {e : EM} {ρ : En} {Q : D → Sto → Prop} {E : Ex → Sto → Prop} : wp (eDic1 false k e ρ s) Q E = wp (e ρ s) (fun v s' => Q (.dic [k] [v]) s') (fun _ _ => False) := by
  unfold eDic1
  cases e ρ s <;> simp [newD]
theorem wp_neg1 {ρ : En} {Q : D → Sto → Prop} {E : Ex → Sto → Prop} : wp (eDicE (eU gNeg (eC (.int 1))) (eC (.bl false)) ρ s) Q E = Q (.dic [.inl (-1)] [.bl false]) s := wp_eDicE rfl rfl
/-- deep things -/
def Dp (d : D) : Prop := NoInt d ∧ isBl d = false ∧ (∀ n, NoFl n d) ∧ ∀ k, closed k d = true
theorem dp_a {x : Str} : Dp (.str x) := ⟨True.intro, rfl, fun _ => True.intro, fun k => by simp⟩
theorem Dp.tup (h : Dp d) : Dp (.tup [d]) := ⟨True.intro, rfl, fun _ => True.intro, fun k => by simp [closedL, h.2.2.2 k]⟩
theorem Dp.lst (h : Dp d) : Dp (.lst [d]) := ⟨True.intro, rfl, fun _ => True.intro, fun k => by simp [closedL, h.2.2.2 k]⟩
theorem Dp.dic (h : Dp d) : Dp (.dic [.inr "b"] [d]) := ⟨True.intro, rfl, fun n => ⟨rfl, by decide, fun e he => by rw [List.mem_singleton.mp he]; exact .inr h.1, by simp [keyD, kOk]⟩, fun k => by simp [closed, closedL, h.2.2.2 k]⟩
def odds (d b : D) : List D := [.non, .tup [], .lst [], .int 0, .str "0", .bl true, .lst [.bl true], .tup [.tup [.int 0, .bl true]], d, .dic [.inl 3] [.bl true], .dic [.inl (-1)] [.bl false], .dic [.inr "0"] [.bl true], .dic [.inl 0] [.int 1],
  .dic [.inl 0] [.non], .dic [.inl 0, .inl 1] [.bl true, .int 0], .odd [.bl true], .odd [.non], .odd [.tup [.int 0]], .dic [.inl 0, .inl 7] [.bl true, .bl true], .dic [.inl 0] [d], .dic [.inl 1] [.str "True"], b]
theorem odds_no (h : Dp d) : ∀ x ∈ odds d (mk bs), NoFl 3 x := by
  have l1 : ∀ {y : D}, Lg y → ∀ z ∈ [y], Lg z := fun hy z hz => by rw [List.mem_singleton.mp hz]; exact hy
  have l2 : ∀ {y w : D}, Lg y → Lg w → ∀ z ∈ [y, w], Lg z := fun hy hw z hz => by
    rcases List.mem_cons.mp hz with rfl | hz
    · exact hy
    · rw [List.mem_singleton.mp hz]; exact hw
  have li : ∀ i : Int, Lg (.int i) := fun i => .inl ⟨i, rfl⟩
  have lb : ∀ b : Bool, Lg (.bl b) := fun b => .inr True.intro
  intro x hx
  simp only [odds, List.mem_cons, List.not_mem_nil, or_false] at hx
  rcases hx with rfl | rfl | rfl | rfl | rfl | rfl | rfl | rfl | rfl | rfl | rfl | rfl | rfl | rfl | rfl | rfl | rfl | rfl | rfl | rfl | rfl | rfl
  · exact True.intro
  · exact True.intro
  · exact True.intro
  · exact True.intro
  · exact True.intro
  · exact True.intro
  · exact True.intro
  · exact True.intro
  · exact h.2.2.1 3
  · exact ⟨rfl, by decide, l1 (lb _), by decide⟩
  · exact ⟨rfl, by decide, l1 (lb _), by decide⟩
  · exact ⟨rfl, by decide, l1 (lb _), by decide⟩
  · exact ⟨rfl, by decide, l1 (li _), by decide⟩
  · exact ⟨rfl, by decide, l1 (.inr True.intro), by decide⟩
  · exact ⟨rfl, by decide, l2 (lb _) (li _), by decide⟩
  · exact ⟨_, rfl, True.intro⟩
  · exact ⟨_, rfl, True.intro⟩
  · exact ⟨_, rfl, True.intro⟩
  · exact ⟨rfl, by decide, l2 (lb _) (lb _), by decide⟩
  · exact ⟨rfl, by decide, l1 (.inr h.1), by simp [h.2.1]⟩
  · exact ⟨rfl, by decide, l1 (.inr True.intro), by decide⟩
  · exact rfl
end
def b3 : List (Int × Int) := [(2, 0), (3, 1), (5, 4)]
theorem b3_ok : OkL b3 := ⟨fun p hp => by
  simp [b3] at hp
  rcases hp with rfl | rfl | rfl <;> exact ⟨by decide, by decide, by decide, by decide⟩, by decide⟩
theorem set_no3 : setF b3 [] = some 0 := set_is b3_ok.1 ⟨by simp, by simp⟩ (by decide) rfl (fun x h0 h1 => by omega)
theorem set_all3 : setF b3 [(0, true), (1, true), (2, true)] = some 4 := by
  refine set_is b3_ok.1 ⟨by decide, by decide⟩ (by decide) (by decide) fun x h0 h1 => ?_
  have : x = 0 ∨ x = 1 ∨ x = 2 ∨ x = 3 := by omega
  rcases this with rfl | rfl | rfl | rfl <;> decide
end QS.K09
end

section
set_option Elab.async false
set_option linter.all false
set_option maxRecDepth 100000
set_option maxHeartbeats 4000000
/-! what is no flags: the law's part -/
namespace QS.K09
open PySem PySem.Spec PyProof.Rows L2 QS
theorem sp_lrefused {n g : Nat} {s : Sto} (hb : BgAt n g s) : wp (d__law_refused_right [.loc n] s) fun d s' => d = .bl true ∧ Bs n g s s' := by
  have hlt := hb.lt
  have h1 : 1 ≤ sizeLine := by decide
  have h2 : 2 ≤ sizeLine := by decide
  have h3 : 3 ≤ sizeLine := by decide
  have z : ∀ k : Nat, k ≤ 100 → k ≤ sizeLine := fun k hk => Nat.le_trans hk (by decide)
  apply seal_bag hlt
  apply wp_run
  have eb : D.tup [.tup [.int 2, .int 0], .tup [.int 3, .int 1], .tup [.int 5, .int 4]] = .tup (b3.map pD) := rfl
  simp [b__law_refused_right, h2, h3]
  rw [eb]
  rw [sp_Bells_init b3_ok, wp_ok]
  refine ⟨rfl, mk b3, by simp [frz_ins_new, mk], OldOk.app _ _, ?_⟩
  rw [List.take_left]
  refine (sp_pick hb (by decide) (by decide +kernel)).mono ?_
  rintro d s1 ⟨r, rfl, r0, r1, H1⟩
  simp
  refine ⟨rngOk_of (by omega) (by omega), ?_⟩
  obtain ⟨P, hP⟩ : ∃ P : List D → En → Sto → Prop, P = fun l ρ t => Bs n g s t ∧ ∃ (d : D) (x1 : Option D), ρ = [some (.loc n), x1, none, some (mk b3), some d, none] ∧ Dp d := ⟨_, rfl⟩
  refine wps_forL P ?_ ?_ _ _ _ (by rw [hP]; exact ⟨H1, _, _, rfl, dp_a⟩)
  · intro d l ρ t hI
    rw [hP] at hI
    obtain ⟨hB, d0, x1, rfl, hd⟩ := hI
    simp [h1, h3, wp_eDic1E]
    refine (sp_some (rows := [.tup [d0], .lst [d0], .dic [.inr "b"] [d0]]) hB.at_ (by simp) (by simp [h3]) (by simp [closedL, closed, hd.2.2.2])).mono ?_
    rintro d1 t1 ⟨hm, H2⟩
    rw [hP]
    refine ⟨hB.trans H2, d1, _, rfl, ?_⟩
    simp at hm
    rcases hm with rfl | rfl | rfl
    · exact hd.tup
    · exact hd.lst
    · exact hd.dic
  · intro ρ t hI
    rw [hP] at hI
    obtain ⟨hB, d0, x1, rfl, hd⟩ := hI
    simp [wp_eDic1E, wp_neg1, wipeD]
    have lc : ∀ (ρ : En), ρ.length = 6 → ρ[3]? = some (some (mk b3)) → lcL (gSet 5) tT0 (eCall (fnN 2 d__law_is_refused) (aCons (eVar 3) (aCons (eVar 5) (aNil)))) none t ρ (odds d0 (mk b3)) t = .ok (((odds d0 (mk b3)).map fun _ => true).map D.bl) t := fun ρ h6 h3 => by
      have e := lcL_map (g := gSet 5) (t := tT0) (e := eCall (fnN 2 d__law_is_refused) (aCons (eVar 3) (aCons (eVar 5) (aNil)))) (gd := none) (ρ := ρ) (s := t) (cv := id) (fun _ => D.bl true) (odds d0 (mk b3)) (fun x hx => ⟨_, rfl, rfl, ?_⟩)
      · rw [List.map_id] at e
        rw [e, List.map_map]
        rfl
      · apply wp_eq
        have h3' : (ρ.set 5 (some x))[3]? = some (some (mk b3)) := by rw [List.getElem?_set_ne (by decide)]; exact h3
        have h5' : (ρ.set 5 (some x))[5]? = some (some x) := List.getElem?_set_self (by omega)
        have hr : d__law_is_refused [mk b3, x] t = .ok (.bl true) t := sp_refused (odds_no hd x hx)
        simp [h3', h5', hr]
    have e0 : D.dic [] [] = fD [] := rfl
    have e3 : D.dic [Sum.inl 0, Sum.inl 1, Sum.inl 2] [D.bl true, D.bl true, D.bl true] = fD [(0, true), (1, true), (2, true)] := rfl
    have s0 := sp_setting (bs := b3) (f := []) (s := t) b3_ok ⟨by simp, by simp⟩
    have s3 := sp_setting (bs := b3) (f := [(0, true), (1, true), (2, true)]) (s := t) b3_ok ⟨by decide, by decide⟩
    rw [set_no3] at s0
    rw [set_all3] at s3
    refine ⟨by assumption, ?_⟩
    repeat (refine ⟨z _ (by decide), ?_⟩)
    refine Eq.mpr (congrArg (fun r => wp r _ _) (lc _ rfl rfl)) ?_
    rw [wp_ok, wpv_allL]
    have ea : ((odds d0 (mk b3)).map fun _ => true).all id = true := rfl
    rw [ea, wp_asB, if_pos rfl, e0, s0, wp_ok]
    simp [optI, e3, s3]
    exact ⟨hB.x, _, frz_closed (by simp), fun s2 h2 => ⟨rfl, h2⟩⟩
end QS.K09
end

section
set_option Elab.async false
set_option linter.all false
set_option maxRecDepth 100000
set_option maxHeartbeats 4000000
/-! strange numbers, in plain words -/
namespace QS.K09
open PySem PySem.Spec PyProof.Rows L2 QS QS.MB
theorem gcd_mul {a b c : Int} (h1 : Int.gcd a c = 1) (h2 : Int.gcd b c = 1) : Int.gcd (a * b) c = 1 := by
  have h1 : Nat.Coprime a.natAbs c.natAbs := h1
  have h2 : Nat.Coprime b.natAbs c.natAbs := h2
  show Nat.gcd (a * b).natAbs c.natAbs = 1
  rw [Int.natAbs_mul]
  exact Nat.Coprime.mul_left h1 h2
theorem mul_dvd_of {a b z : Int} (h : Int.gcd a b = 1) (h1 : a ∣ z) (h2 : b ∣ z) : a * b ∣ z := by
  have h : Nat.Coprime a.natAbs b.natAbs := h
  rw [← Int.natAbs_dvd_natAbs, Int.natAbs_mul]
  exact Nat.Coprime.mul_dvd_of_dvd_of_dvd h (Int.natAbs_dvd_natAbs.mpr h1) (Int.natAbs_dvd_natAbs.mpr h2)
/-- bells of strange numbers -/
structure Gt (bs : List (Int × Int)) : Prop where
  ok : ∀ p ∈ bs, Ok p
  two : ∀ p ∈ bs, 2 ≤ p.1 ∧ p.1 ≠ 1000
  cop : ∀ i j, i < bs.length → j < bs.length → i ≠ j → Int.gcd (bAt bs i).1 (bAt bs j).1 = 1
  len : bs.length ≤ 14
section
variable {bs : List (Int × Int)} {f : Fl}
theorem bAt_mem {i : Nat} (h : i < bs.length) : bAt bs i ∈ bs := List.mem_of_getElem? (sel_at h)
theorem key_inj {n : Nat} (hf : FOk n f) {x y : Nat × Bool} (hx : x ∈ f) (hy : y ∈ f) (e : x.1 = y.1) : x = y := by
  have := hf.nd
  clear hf
  induction f with
  | nil => cases hx
  | cons z r ih =>
    rw [List.map_cons] at this
    obtain ⟨h1, h2⟩ := List.nodup_cons.mp this
    rcases List.mem_cons.mp hx with a | a <;> rcases List.mem_cons.mp hy with b | b
    · rw [a, b]
    · exact (h1 (List.mem_map.mpr ⟨y, b, by rw [← e, a]⟩)).elim
    · exact (h1 (List.mem_map.mpr ⟨x, a, by rw [e, b]⟩)).elim
    · exact ih a b h2
def wish (bs : List (Int × Int)) (x : Nat × Bool) : Int × Int := if x.2 = true then bAt bs x.1 else ((bAt bs x.1).1, ((bAt bs x.1).2 + 1) % (bAt bs x.1).1)
theorem wish_1 {x : Nat × Bool} : (wish bs x).1 = (bAt bs x.1).1 := by unfold wish; split <;> rfl
/-- an hour as the flags want it -/
theorem agr_ex (hG : Gt bs) (hf : FOk bs.length f) : ∃ x, 0 ≤ x ∧ agr bs f x = true := by
  have hok : ∀ p ∈ f.map (wish bs), Ok p := fun p hp => by
    obtain ⟨x, hx, rfl⟩ := List.mem_map.mp hp
    have o := bAt_ok hG.ok (hf.lt x hx)
    unfold wish
    split
    · exact o
    · have h1 := o.1
      exact ⟨o.1, o.2.1, Int.emod_nonneg _ (by omega), Int.emod_lt_of_pos _ (by show 0 < (bAt bs x.1).1; omega)⟩
  obtain ⟨h, hh⟩ := helly hok fun p hp q hq => by
    obtain ⟨x, hx, rfl⟩ := List.mem_map.mp hp
    obtain ⟨y, hy, rfl⟩ := List.mem_map.mp hq
    by_cases c : x.1 = y.1
    · have := key_inj hf hx hy c
      subst this
      rw [Int.sub_self]
      exact Int.dvd_zero _
    · rw [wish_1, wish_1, hG.cop _ _ (hf.lt x hx) (hf.lt y hy) c]
      exact Int.one_dvd _
  have ha : agr bs f h = true := by
    unfold agr
    rw [List.all_eq_true]
    intro x hx
    have o := bAt_ok hG.ok (hf.lt x hx)
    have t := (hG.two _ (bAt_mem (hf.lt x hx))).1
    have w := hh _ (List.mem_map.mpr ⟨x, hx, rfl⟩)
    obtain ⟨o1, o2, o3, o4⟩ := o
    unfold wish at w
    cases c : x.2 with
    | true =>
      rw [if_pos c] at w
      have := (emod_eq_iff o1 o3 o4).mpr w
      simp [this]
    | false =>
      rw [if_neg (by simp [c])] at w
      have h1 := Int.emod_nonneg ((bAt bs x.1).2 + 1) (show (bAt bs x.1).1 ≠ 0 by omega)
      have h2 := Int.emod_lt_of_pos ((bAt bs x.1).2 + 1) (show 0 < (bAt bs x.1).1 by omega)
      have h3 : h % (bAt bs x.1).1 = ((bAt bs x.1).2 + 1) % (bAt bs x.1).1 := (emod_eq_iff o1 h1 h2).mpr w
      have h4 : ((bAt bs x.1).2 + 1) % (bAt bs x.1).1 ≠ (bAt bs x.1).2 := by
        by_cases c2 : (bAt bs x.1).2 + 1 < (bAt bs x.1).1
        · rw [Int.emod_eq_of_lt (by omega) c2]
          omega
        · have : (bAt bs x.1).2 + 1 = (bAt bs x.1).1 := by omega
          rw [this, Int.emod_self]
          omega
      rw [h3]
      simp [h4]
  have w1 := (dvd_Wl (bs := bs) (w := 1) (fun p hp => (hG.ok p hp).1) (by decide)).1
  exact ⟨h % Wl bs 1, Int.emod_nonneg _ (by omega), by rw [agr_per hG.ok hf]; exact ha⟩
/-- gone on from bell to bell -/
structure Wk (bs : List (Int × Int)) (L : List Nat) (h st : Int) : Prop where
  lo : 0 ≤ h
  hi : h < st
  all : ∀ y, (∀ i ∈ L, (bAt bs i).1 ∣ y - (bAt bs i).2) ↔ st ∣ y - h
  cop : ∀ j, j < bs.length → j ∉ L → Int.gcd st (bAt bs j).1 = 1
theorem Wk.nil : Wk bs [] 0 1 := ⟨by decide, by decide, fun y => by simp, fun j _ _ => by simp⟩
theorem Wk.ex {L : List Nat} {h st : Int} {i : Nat} (hG : Gt bs) (w : Wk bs L h st) (hi : i < bs.length) (hn : i ∉ L) : ∃ k : Nat, (k : Int) < (bAt bs i).1 ∧ (bAt bs i).1 ∣ h + st * k - (bAt bs i).2 := by
  have o := bAt_ok hG.ok hi
  have h1 := o.1
  obtain ⟨r, hr⟩ := bez (a := st) (m := (bAt bs i).1) o.1 o.2.1
  rw [w.cop i hi hn] at hr
  have p1 := Int.emod_nonneg (r * ((bAt bs i).2 - h)) (show (bAt bs i).1 ≠ 0 by omega)
  have p2 := Int.emod_lt_of_pos (r * ((bAt bs i).2 - h)) (show 0 < (bAt bs i).1 by omega)
  obtain ⟨k, hk⟩ := Int.eq_ofNat_of_zero_le p1
  refine ⟨k, by omega, ?_⟩
  rw [← hk]
  have e1 : (bAt bs i).1 ∣ r * ((bAt bs i).2 - h) - r * ((bAt bs i).2 - h) % (bAt bs i).1 := Int.dvd_self_sub_of_emod_eq rfl
  have e2 : (bAt bs i).1 ∣ st * (r * ((bAt bs i).2 - h) - r * ((bAt bs i).2 - h) % (bAt bs i).1) := Int.dvd_mul_of_dvd_right e1
  have e3 : (bAt bs i).1 ∣ (st * r - ((1 : Nat) : Int)) * ((bAt bs i).2 - h) := Int.dvd_mul_of_dvd_left hr
  have e4 := Int.dvd_sub e3 e2
  have : (st * r - ((1 : Nat) : Int)) * ((bAt bs i).2 - h) - st * (r * ((bAt bs i).2 - h) - r * ((bAt bs i).2 - h) % (bAt bs i).1) = h + st * (r * ((bAt bs i).2 - h) % (bAt bs i).1) - (bAt bs i).2 := by
    rw [Int.mul_sub st, Int.sub_mul, ← Int.mul_assoc]
    omega
  rwa [this] at e4
theorem Wk.step {L : List Nat} {h st : Int} {i k : Nat} (hG : Gt bs) (w : Wk bs L h st) (hi : i < bs.length) (hn : i ∉ L) (hk : (k : Int) < (bAt bs i).1) (hd : (bAt bs i).1 ∣ h + st * k - (bAt bs i).2) : Wk bs (L ++ [i]) (h + st * k) (st * (bAt bs i).1) := by
  have h1 := w.lo
  have h2 := w.hi
  have o := bAt_ok hG.ok hi
  have hp : 0 ≤ st * (k : Int) := Int.mul_nonneg (by omega) (by omega)
  refine ⟨by omega, ?_, fun y => ?_, fun j hj hjn => ?_⟩
  · have : st * ((k : Int) + 1) ≤ st * (bAt bs i).1 := Int.mul_le_mul_of_nonneg_left (by omega) (by omega)
    rw [Int.mul_add, Int.mul_one] at this
    omega
  · have e1 : (∀ i' ∈ L ++ [i], (bAt bs i').1 ∣ y - (bAt bs i').2) ↔ (st ∣ y - h) ∧ (bAt bs i).1 ∣ y - (bAt bs i).2 := by
      rw [← w.all y]
      simp
      constructor
      · intro a
        exact ⟨fun j hj => a j (.inl hj), a i (.inr rfl)⟩
      · rintro ⟨a, b⟩ j (hj | rfl)
        · exact a j hj
        · exact b
    rw [e1]
    have e2 : y - (h + st * k) = (y - h) - st * k := by omega
    have e3 : y - (h + st * k) = (y - (bAt bs i).2) - (h + st * k - (bAt bs i).2) := by omega
    constructor
    · rintro ⟨a, b⟩
      refine mul_dvd_of (w.cop i hi hn) ?_ ?_
      · rw [e2]; exact Int.dvd_sub a (Int.dvd_mul_right ..)
      · rw [e3]; exact Int.dvd_sub b hd
    · intro a
      have a1 := Int.dvd_trans (Int.dvd_mul_right st _) a
      have a2 := Int.dvd_trans (Int.dvd_mul_left st (bAt bs i).1) a
      constructor
      · have := Int.dvd_add a1 (Int.dvd_mul_right st (k : Int))
        rwa [show y - (h + st * k) + st * k = y - h by omega] at this
      · have := Int.dvd_add a2 hd
        rwa [show y - (h + st * k) + (h + st * k - (bAt bs i).2) = y - (bAt bs i).2 by omega] at this
  · have hjn2 : j ∉ L ∧ j ≠ i := by simpa using hjn
    exact gcd_mul (w.cop j hj hjn2.1) (hG.cop i j hi hj (Ne.symm hjn2.2))
end
end QS.K09
end

section
set_option Elab.async false
set_option linter.all false
set_option maxRecDepth 100000
set_option maxHeartbeats 4000000
/-! strange numbers: the last rows -/
namespace QS.K09
open PySem PySem.Spec PyProof.Rows L2 QS
theorem sp_last {bs : List (Int × Int)} {f : Fl} {L : List Nat} {h st : Int} {t : Sto} {b0 x1 x3 x4 x6 x9 x10 : Option D} {N : En → Sto → Prop} {R : D → Sto → Prop} {E : Ex → En → Sto → Prop}
    (hG : Gt bs) (hf : FOk bs.length f) (w : Wk bs L h st) (hL : ∀ i, i ∈ L ↔ i ∈ tru f) (hR : R (.bl true) t) :
    wps (r__law_great_right [b0, x1, some (fD f), x3, x4, some (.lst (bs.map pD)), x6, some (.int h), some (.int st), x9, x10] t) N R E := by
  have hb : OkL bs := ⟨hG.ok, hG.len⟩
  have hl := hG.len
  have h1 := w.lo
  have h2 := w.hi
  have onp : ∀ x, agr bs f x = true → 0 ≤ x → ∃ k : Nat, x = h + st * k := fun x ha h0 => by
    have hr := ((agr_iff hG.ok hf).mp ha).1
    obtain ⟨k, hk⟩ := (w.all x).mp fun i hi => hr _ (List.mem_map.mpr ⟨i, (hL i).mp hi, rfl⟩)
    have k0 : 0 ≤ k := by
      rcases Int.lt_or_le k 0 with c | c
      · have : st * k ≤ st * (-1) := Int.mul_le_mul_of_nonneg_left (by omega) (by omega)
        omega
      · exact c
    obtain ⟨n, rfl⟩ := Int.eq_ofNat_of_zero_le k0
    exact ⟨n, by omega⟩
  obtain ⟨x, x0, hx⟩ := agr_ex hG hf
  obtain ⟨k0, rfl⟩ := onp x hx x0
  unfold r__law_great_right
  simp
  obtain ⟨P, hP⟩ : ∃ P : Nat → En → Sto → Prop, P = fun m ρ s1 => s1 = t ∧ ∃ j : Nat, ρ = [b0, x1, some (fD f), x3, x4, some (.lst (bs.map pD)), x6, some (.int (h + st * j)), some (.int st), x9, x10] ∧ (∀ i : Nat, i < j → agr bs f (h + st * i) = false) ∧ j ≤ k0 ∧ k0 - j = m := ⟨_, rfl⟩
  refine wps_while P ?_ _ _ _ (by rw [hP]; exact ⟨rfl, 0, by simp, fun i hi => by omega, by omega, rfl⟩)
  intro m ρ s1 hI
  rw [hP] at hI
  obtain ⟨rfl, j, rfl, hn, hj, hm⟩ := hI
  simp [sp_agrees hG.ok hf (by omega)]
  cases c : agr bs f (h + st * j) with
  | false =>
    have hjk : j ≠ k0 := fun e => by rw [e, hx] at c; cases c
    simp
    refine ⟨k0 - (j + 1), by omega, ?_⟩
    rw [hP]
    refine ⟨rfl, j + 1, by rw [show h + st * (j : Int) + st = h + st * ((j + 1 : Nat) : Int) by push_cast; rw [Int.mul_add, Int.mul_one]; omega], fun i hi => ?_, by omega, rfl⟩
    by_cases e : i = j
    · rw [e]; exact c
    · exact hn i (by omega)
  | true =>
    have p0 : 0 ≤ st * (j : Int) := Int.mul_nonneg (by omega) (by omega)
    have es : setF bs f = some (h + st * j) := set_is hG.ok hf (by omega) c fun x q0 q1 => by
      cases z : agr bs f x with
      | false => rfl
      | true =>
        obtain ⟨k, rfl⟩ := onp x z q0
        have : (k : Int) < j := Int.lt_of_mul_lt_mul_left (a := st) (by omega) (by omega)
        rw [hn k (by omega)] at z
        cases z
    simp
    refine wp.noX ?_
    rw [sp_Bells_init hb, wp_ok]
    refine ⟨rfl, mk bs, by simp [frz_ins_new, mk], OldOk.app _ _, ?_⟩
    rw [List.take_left, sp_setting hb hf, wp_ok, es]
    simp [optI]
    exact hR
end QS.K09
end

section
set_option Elab.async false
set_option linter.all false
set_option maxRecDepth 100000
set_option maxHeartbeats 4000000
/-! strange numbers: flags popped -/
namespace QS.K09
open PySem PySem.Spec PyProof.Rows L2 QS
def drF (f : Fl) (k : Nat) : Fl := f.filter fun x => decide (x.1 ≠ k)
theorem drp_fl (k : Nat) : ∀ f : Fl, drpDk (kF f) (vF f) (.inl (k : Int)) = (kF (drF f k), vF (drF f k))
  | [] => rfl
  | x :: r => by
    have ih := drp_fl k r
    unfold kF vF drF at ih ⊢
    rw [List.map_cons, List.map_cons]
    unfold drpDk
    by_cases c : x.1 = k
    · rw [if_pos (by rw [c]), ih]
      simp [c]
    · rw [if_neg (fun e => c (by have e2 : (x.1 : Int) = k := by injection e
                                 omega)), ih]
      simp [c]
theorem FOk.filter {n : Nat} {f : Fl} (h : FOk n f) (p : Nat × Bool → Bool) : FOk n (f.filter p) := by
  refine ⟨?_, fun x hx => h.lt x (List.mem_filter.mp hx).1⟩
  have := h.up
  rw [List.pairwise_map] at this ⊢
  exact this.filter p
theorem fold_drF : ∀ {r : List Nat} {f : Fl}, r.foldl drF f = f.filter fun x => decide (x.1 ∉ r)
  | [], f => by
    rw [List.filter_eq_self.mpr (fun x _ => by simp)]
    rfl
  | k :: r, f => by
    rw [List.foldl_cons, fold_drF]
    unfold drF
    rw [List.filter_filter]
    congr 1
    funext x
    by_cases a : x.1 ∈ r <;> by_cases b : x.1 = k <;> simp [a, b]
theorem pop_all {n : Nat} {f : Fl} (h : FOk n f) (g : Nat × Bool → Bool) : ((f.filter g).map (·.1)).foldl drF f = f.filter fun x => !g x := by
  rw [fold_drF]
  apply List.filter_congr
  intro x hx
  have key : x.1 ∈ (f.filter g).map (·.1) ↔ g x = true := by
    constructor
    · intro a
      obtain ⟨y, hy, e⟩ := List.mem_map.mp a
      obtain ⟨hy, hg⟩ := List.mem_filter.mp hy
      rw [← key_inj h hy hx e]
      exact hg
    · intro a
      exact List.mem_map.mpr ⟨x, List.mem_filter.mpr ⟨hx, a⟩, rfl⟩
  by_cases c : g x = true
  · have := key.mpr c
    rw [c, decide_eq_false (fun q => q this)]
    rfl
  · have : ¬ x.1 ∈ (f.filter g).map (·.1) := fun q => c (key.mp q)
    rw [decide_eq_true this]
    simpa using c
def big (bs : List (Int × Int)) (x : Nat × Bool) : Bool := x.2 && decide (1000 < (bAt bs x.1).1)
def sml (bs : List (Int × Int)) (x : Nat × Bool) : Bool := x.2 && decide ((bAt bs x.1).1 < 1000)
theorem tru_left {bs : List (Int × Int)} {f : Fl} (hG : Gt bs) (hf : FOk bs.length f) : tru (f.filter fun x => !big bs x) = (f.filter (sml bs)).map (·.1) := by
  unfold tru
  rw [List.filter_filter]
  congr 1
  apply List.filter_congr
  intro x hx
  have := (hG.two _ (bAt_mem (hf.lt x hx))).2
  unfold big sml
  cases x.2 with
  | false => rfl
  | true =>
    simp only [Bool.true_and]
    by_cases c : 1000 < (bAt bs x.1).1
    · rw [decide_eq_true c, decide_eq_false (by omega)]
      rfl
    · rw [decide_eq_false c, decide_eq_true (by omega)]
      rfl
section
variable {bs : List (Int × Int)} {t : Sto} {n g m : Nat}
theorem dic_loc {f : Fl} (h : t[m]? = some (.dic (kF f) (vF f))) : dicOf t (.loc m) = some (kF f, vF f) := by simp [dicOf, h]
theorem ix_loc {k : Nat} {f : Fl} (h : t[m]? = some (.dic (kF f) (vF f))) (hf : FOk k f) {x : Nat × Bool} (hx : x ∈ f) {Q : D → Sto → Prop} : wpv (gIxD (.loc m) (.int (x.1 : Int)) t) Q = Q (.bl x.2) t := by
  have e : gIxD (.loc m) (.int (x.1 : Int)) t = some (.bl x.2, t) := by
    have e1 := valD_v D.bl hf.nd x hx
    have e2 : valD (kF f) (vF f) (.inl (x.1 : Int)) = some (.bl x.2) := e1
    simp [gIxD, dic_loc h, keyOf, e2]
  rw [e, wpv_some]
theorem pop_loc {k : Nat} {f : Fl} (h : t[m]? = some (.dic (kF f) (vF f))) (hf : FOk k f) {x : Nat × Bool} (hx : x ∈ f) {Q : D → Sto → Prop} : wpv (gPopDk (.loc m) [.int (x.1 : Int)] t) Q = Q (.bl x.2) (t.set m (.dic (kF (drF f x.1)) (vF (drF f x.1)))) := by
  have e1 := valD_v D.bl hf.nd x hx
  have e2 : valD (kF f) (vF f) (.inl (x.1 : Int)) = some (.bl x.2) := e1
  simp only [gPopDk, h, keyOf, Option.bind_some, e2, Option.map_some, drp_fl, wpv_some]
theorem lc_sml {f : Fl} (h : t[m]? = some (.dic (kF f) (vF f))) (hf : FOk bs.length f) {a b c d e g i j : Option D} :
    lcL (gSet 9) (QS.tAnd (tV (eB gIxD (eVar 2) (eVar 9))) (tV (eB gLt (eB gIx (eB gIx (eVar 5) (eVar 9)) (eC (.int 0))) (eC (.int 1000))))) (eVar 9) none t [a, b, some (.loc m), c, d, some (.lst (bs.map pD)), e, g, i, none, j] (f.map fun x => D.int (x.1 : Int)) t =
      .ok ((f.filter (sml bs)).map fun x => D.int (x.1 : Int)) t := by
  rw [lcL_pure (cv := fun x : Nat × Bool => D.int (x.1 : Int)) (sml bs) (fun x => D.int (x.1 : Int)) f (fun x hx => ⟨_, rfl, ?_, fun _ => ?_⟩)]
  · apply wp_eq
    simp [ix_loc h hf hx, atI_b (hf.lt x hx), ixp0]
    unfold sml
    cases x.2 <;> simp
  · apply wp_eq
    simp
theorem lc_big {f : Fl} (h : t[m]? = some (.dic (kF f) (vF f))) (hf : FOk bs.length f) {a b c d e g i j : Option D} :
    lcL (gSet 9) (QS.tAnd (tV (eB gIxD (eVar 2) (eVar 9))) (tV (eB gGt (eB gIx (eB gIx (eVar 5) (eVar 9)) (eC (.int 0))) (eC (.int 1000))))) (eVar 9) none t [a, b, some (.loc m), c, d, some (.lst (bs.map pD)), e, g, i, none, j] (f.map fun x => D.int (x.1 : Int)) t =
      .ok ((f.filter (big bs)).map fun x => D.int (x.1 : Int)) t := by
  rw [lcL_pure (cv := fun x : Nat × Bool => D.int (x.1 : Int)) (big bs) (fun x => D.int (x.1 : Int)) f (fun x hx => ⟨_, rfl, ?_, fun _ => ?_⟩)]
  · apply wp_eq
    simp [ix_loc h hf hx, atI_b (hf.lt x hx), ixp0]
    unfold big
    cases x.2 <;> simp
  · apply wp_eq
    simp
end
end QS.K09
end

section
set_option Elab.async false
set_option linter.all false
set_option maxRecDepth 100000
set_option maxHeartbeats 4000000
/-! strange numbers: flags drawn, gone on, popped -/
namespace QS.K09
open PySem PySem.Spec PyProof.Rows L2 QS
theorem sp_gr {n g : Nat} {bs : List (Int × Int)} {t : Sto} {x1 x2 x3 x4 x6 x7 x8 x9 x10 : Option D} {N : En → Sto → Prop} {R : D → Sto → Prop} {E : Ex → En → Sto → Prop} (hb : BgAt n g t) (hG : Gt bs)
    (c1 : CA x1) (c3 : CA x3) (c6 : CA x6) (c9 : CA x9) (c10 : CA x10)
    (hN : ∀ f L h st t1 y3 y6 y10, FOk bs.length f → Wk bs L h st → (∀ i, i ∈ L ↔ i ∈ tru f) → Bx n g t t1 → t1.length = t.length + 1 → t1[t.length]? = some (.dic (kF f) (vF f)) → CA y3 → CA y6 → CA y10 →
      N [some (.loc n), x1, some (.loc t.length), y3, x4, some (.lst (bs.map pD)), y6, some (.int h), some (.int st), none, y10] t1) :
    wps (g__law_great_right [some (.loc n), x1, x2, x3, x4, some (.lst (bs.map pD)), x6, x7, x8, none, x10] t) N R E := by
  have hlt := hb.lt
  have hl := hG.len
  have h2 : 2 ≤ sizeLine := by decide
  have z : ∀ k : Nat, k ≤ 100 → k ≤ sizeLine := fun k hk => Nat.le_trans hk (by decide)
  unfold g__law_great_right
  simp [eDic0, newD]
  refine ⟨rngOk_of (by omega) (by omega), ?_⟩
  obtain ⟨P, hP⟩ : ∃ P : List D → En → Sto → Prop, P = fun l ρ t1 => ∃ (f : Fl) (k j : Nat) (y3 : Option D), ρ = [some (.loc n), x1, some (.loc t.length), y3, x4, some (.lst (bs.map pD)), x6, x7, x8, none, x10] ∧ l = rngD k j ∧ k + j = bs.length ∧ FOk k f ∧ Bx n g t t1 ∧ t1.length = t.length + 1 ∧ t1[t.length]? = some (.dic (kF f) (vF f)) ∧ CA y3 := ⟨_, rfl⟩
  refine wps_forL P ?_ ?_ _ _ _ (by rw [hP]; exact ⟨[], 0, bs.length, _, rfl, rfl, by omega, ⟨by simp, by simp⟩, Bx.app hb _, by simp, by simp [kF, vF], c3⟩)
  · intro d l ρ t1 hI
    rw [hP] at hI
    obtain ⟨f, k, j, y3, rfl, hl, hk, hf, hx, hlen, hd, hc⟩ := hI
    cases j with
    | zero => cases hl
    | succ j =>
      rw [rngD_succ] at hl
      cases hl
      simp
      refine (sp_pick hx.at_ (by decide) (by decide +kernel)).mono ?_
      rintro d t2 ⟨r, rfl, r0, r1, H2⟩
      have d2 : t2[t.length]? = some (.dic (kF f) (vF f)) := by rw [H2.same _ (by omega) (by omega)]; exact hd
      by_cases c : 0 < r
      · simp [c]
        refine (sp_pick H2.at_ (by decide) (by decide +kernel)).mono ?_
        rintro d t4 ⟨q, rfl, q0, q1, H4⟩
        have H24 := H2.trans H4
        have d4 : t4[t.length]? = some (.dic (kF f) (vF f)) := by rw [H24.same _ (by omega) (by omega)]; exact hd
        simp
        have hfl := hf.len'
        refine ⟨_, st_fl d4 hf.lt (by omega), ?_⟩
        rw [hP]
        have X4 : Bx n g t t4 := hx.trans H24.x
        refine ⟨f ++ [(k, decide (0 < q))], k + 1, j, _, rfl, by push_cast; rfl, by omega, hf.snoc _, X4.write hlt (Nat.le_refl _), by simp [H24.len, hlen], ?_, CA.int⟩
        rw [List.getElem?_set_self (List.getElem?_eq_some_iff.mp d4).1]
      · simp [c]
        rw [hP]
        exact ⟨f, k + 1, j, _, rfl, by push_cast; rfl, by omega, hf.more, hx.trans H2.x, by rw [H2.len, hlen], d2, CA.int⟩
  · intro ρ t1 hI
    rw [hP] at hI
    obtain ⟨f, k, j, y3, rfl, hl, hk, hf, hx, hlen, hd, hc⟩ := hI
    cases j with
    | succ n => rw [rngD_succ] at hl; cases hl
    | zero =>
      obtain rfl : k = bs.length := by omega
      have hfl := hf.len'
      have so : ∀ (s1 : Sto) (f1 : Fl) (Q : D → Sto → Prop), FOk bs.length f1 → s1[t.length]? = some (.dic (kF f1) (vF f1)) → wpv (gSortedDI false [.loc t.length] s1) Q = Q (.lst (f1.map fun x => D.int (x.1 : Int))) s1 := fun s1 f1 Q h1 h2 => by
        have hl1 := h1.len'
        rw [wpv_sortDI (dic_loc h2) (intKeys_fl f1) (by simp; omega), h1.sorted, List.map_map, wpv_new, if_neg (by simp)]
        rfl
      clear hP P
      simp [wipeD, so t1 f _ hf hd, h2]
      refine ⟨z _ (by omega), ?_⟩
      rw [lc_sml hd hf, wp_ok]
      obtain ⟨L0, hL0⟩ : ∃ L0, L0 = (f.filter (sml bs)).map (·.1) := ⟨_, rfl⟩
      have eL : ((f.filter (sml bs)).map fun x => D.int (x.1 : Int)) = L0.map fun i : Nat => D.int (i : Int) := by rw [hL0, List.map_map]; rfl
      have lL : ∀ i ∈ L0, i < bs.length := fun i hi => by
        rw [hL0] at hi
        obtain ⟨x, hx, rfl⟩ := List.mem_map.mp hi
        exact hf.lt x (List.mem_filter.mp hx).1
      have nL : L0.Nodup := by rw [hL0]; exact (hf.filter _).nd
      rw [eL]
      obtain ⟨P, hP⟩ : ∃ P : List D → En → Sto → Prop, P = fun l ρ s1 => s1 = t1 ∧ ∃ (dn r : List Nat) (h st : Int) (y3 y6 y10 : Option D), ρ = [some (.loc n), x1, some (.loc t.length), y3, x4, some (.lst (bs.map pD)), y6, some (.int h), some (.int st), none, y10] ∧ l = (r.map fun i : Nat => D.int (i : Int)) ∧ dn ++ r = L0 ∧ Wk bs dn h st ∧ CA y3 ∧ CA y6 ∧ CA y10 := ⟨_, rfl⟩
      refine wps_forL P ?_ ?_ _ _ _ (by rw [hP]; exact ⟨rfl, [], L0, 0, 1, _, _, _, rfl, rfl, rfl, Wk.nil, hc, c6, c10⟩)
      · intro d l ρ s1 hI
        rw [hP] at hI
        obtain ⟨rfl, dn, r, h, st, y3, y6, y10, rfl, hl, hr, w, cy3, cy6, cy10⟩ := hI
        cases r with
        | nil => cases hl
        | cons i r =>
          cases hl
          have hi : i < bs.length := lL i (by rw [← hr]; simp)
          have hin : i ∉ dn := by
            rw [← hr] at nL
            have := (List.nodup_append.mp nL).2.2
            intro q
            exact this i q i List.mem_cons_self rfl
          obtain ⟨k0, hk0, hd0⟩ := w.ex hG hi hin
          have o := bAt_ok hG.ok hi
          have o1 := o.1
          have w1 := w.lo
          have w2 := w.hi
          simp [atI_b hi, pD]
          obtain ⟨P2, hP2⟩ : ∃ P : Nat → En → Sto → Prop, P = fun m ρ s2 => s2 = s1 ∧ ∃ j : Nat, ρ = [some (.loc n), x1, some (.loc t.length), some (.int (i : Int)), x4, some (.lst (bs.map pD)), some (.int (bAt bs i).1), some (.int (h + st * j)), some (.int st), none, some (.int (bAt bs i).2)] ∧ (∀ i' : Nat, i' < j → ¬ (bAt bs i).1 ∣ h + st * i' - (bAt bs i).2) ∧ j ≤ k0 ∧ k0 - j = m := ⟨_, rfl⟩
          refine wps_while P2 ?_ _ _ _ (by rw [hP2]; exact ⟨rfl, 0, by simp [pD], fun i hi => by omega, by omega, rfl⟩)
          intro m ρ s2 hI
          rw [hP2] at hI
          obtain ⟨rfl, j, rfl, hn, hj, hm⟩ := hI
          simp
          refine ⟨by omega, ?_⟩
          by_cases c : (h + st * j - (bAt bs i).2) % (bAt bs i).1 = 0
          · simp [c]
            have o2 := o.2.1
            refine ⟨mok (.inr (by omega)), ?_⟩
            rw [hP]
            exact ⟨rfl, dn ++ [i], r, _, _, _, _, _, rfl, rfl, by simpa using hr, w.step hG hi hin (by omega) (Int.dvd_of_emod_eq_zero c), CA.int, CA.int, CA.int⟩
          · simp [c]
            have hne : j ≠ k0 := fun e => c (by rw [e]; exact Int.emod_eq_zero_of_dvd hd0)
            refine ⟨k0 - (j + 1), by omega, ?_⟩
            rw [hP2]
            refine ⟨rfl, j + 1, by rw [show h + st * (j : Int) + st = h + st * ((j + 1 : Nat) : Int) by push_cast; rw [Int.mul_add, Int.mul_one]; omega], fun i' hi' => ?_, by omega, rfl⟩
            by_cases e : i' = j
            · rw [e]; exact fun q => c (Int.emod_eq_zero_of_dvd q)
            · exact hn i' (by omega)
      · intro ρ s1 hI
        rw [hP] at hI
        obtain ⟨rfl, dn, r, h, st, y3, y6, y10, rfl, hl, hr, w, cy3, cy6, cy10⟩ := hI
        cases r with
        | cons i r => cases hl
        | nil =>
          rw [List.append_nil] at hr
          subst hr
          simp [so s1 f _ hf hd]
          refine ⟨z _ (by omega), ?_⟩
          rw [lc_big hd hf, wp_ok]
          have eB : ((f.filter (big bs)).map fun x => D.int (x.1 : Int)) = ((f.filter (big bs)).map (·.1)).map fun i : Nat => D.int (i : Int) := by rw [List.map_map]; rfl
          rw [eB]
          have ef := pop_all hf (big bs)
          obtain ⟨f', hf'⟩ : ∃ f', f' = f.filter fun x => !big bs x := ⟨_, rfl⟩
          rw [← hf'] at ef
          obtain ⟨P3, hP3⟩ : ∃ P : List D → En → Sto → Prop, P = fun l ρ s3 => ∃ (r : List Nat) (cur : Fl) (z3 : Option D), ρ = [some (.loc n), x1, some (.loc t.length), z3, x4, some (.lst (bs.map pD)), y6, some (.int h), some (.int st), none, y10] ∧ l = (r.map fun i : Nat => D.int (i : Int)) ∧ r.foldl drF cur = f' ∧ FOk bs.length cur ∧ r.Nodup ∧ (∀ k ∈ r, ∃ b, (k, b) ∈ cur) ∧ Bx n g t s3 ∧ s3.length = t.length + 1 ∧ s3[t.length]? = some (.dic (kF cur) (vF cur)) ∧ CA z3 := ⟨_, rfl⟩
          refine wps_forL P3 ?_ ?_ _ _ _ (by rw [hP3]; exact ⟨_, f, _, rfl, rfl, ef, hf, (hf.filter _).nd, fun k hk => by
            obtain ⟨x, hx, rfl⟩ := List.mem_map.mp hk
            exact ⟨x.2, (List.mem_filter.mp hx).1⟩, hx, hlen, hd, cy3⟩)
          · intro d l ρ s3 hI
            rw [hP3] at hI
            obtain ⟨r, cur, z3, rfl, hl, hr, hcur, hnd, hin, hx3, hlen3, hd3, cz3⟩ := hI
            cases r with
            | nil => cases hl
            | cons k r =>
              cases hl
              obtain ⟨b, hb2⟩ := hin k List.mem_cons_self
              obtain ⟨n1, n2⟩ := List.nodup_cons.mp hnd
              simp
              refine ⟨by simp [tyB, hd3], ?_⟩
              refine Eq.mpr (pop_loc (x := (k, b)) hd3 hcur hb2) ?_
              rw [hP3]
              refine ⟨r, drF cur k, _, rfl, rfl, hr, hcur.filter _, n2, fun k' hk' => ?_, hx3.write hlt (Nat.le_refl _), by simp [hlen3], ?_, CA.int⟩
              · obtain ⟨b', hb'⟩ := hin k' (List.mem_cons_of_mem _ hk')
                refine ⟨b', List.mem_filter.mpr ⟨hb', ?_⟩⟩
                have : k' ≠ k := fun e => n1 (by rw [← e]; exact hk')
                simpa using this
              · rw [List.getElem?_set_self (List.getElem?_eq_some_iff.mp hd3).1]
          · intro ρ s3 hI
            rw [hP3] at hI
            obtain ⟨r, cur, z3, rfl, hl, hr, hcur, hnd, hin, hx3, hlen3, hd3, cz3⟩ := hI
            cases r with
            | cons k r => cases hl
            | nil =>
              have hr : cur = f' := hr
              subst hr
              refine hN cur dn h st s3 _ _ _ hcur w (fun i => ?_) hx3 hlen3 hd3 cz3 cy6 cy10
              rw [hf', tru_left hG hf, ← hL0]
end QS.K09
end

section
set_option Elab.async false
set_option linter.all false
set_option maxRecDepth 100000
set_option maxHeartbeats 4000000
/-! strange numbers: the law's part; the law -/
namespace QS.K09
open PySem PySem.Spec PyProof.Rows L2 QS
theorem perm_out {α : Type} : ∀ {l : List α} {i : Nat} (h : i < l.length), (l[i] :: l.eraseIdx i).Perm l
  | x :: r, 0, h => List.Perm.refl _
  | x :: r, i + 1, h => by
    have := perm_out (l := r) (i := i) (by simpa using h)
    exact (List.Perm.swap _ _ _).trans (this.cons x)
theorem er_map : ∀ (l : List Int) (i : Nat), (l.map D.int).eraseIdx i = (l.eraseIdx i).map D.int
  | [], _ => rfl
  | x :: r, 0 => rfl
  | x :: r, i + 1 => by
    show D.int x :: (r.map D.int).eraseIdx i = D.int x :: (r.eraseIdx i).map D.int
    rw [er_map r i]
def n16 : List Int := [4, 9, 25, 49, 121, 169, 17, 19, 23, 29, 31, 37, 41, 43, 999983, 999999937]
theorem n16_cop : n16.Pairwise fun a b => Int.gcd a b = 1 := by decide +kernel
theorem n16_in : ∀ e ∈ n16, 2 ≤ e ∧ e ≠ 1000 ∧ e ≤ 1000000000 := by decide
theorem gt_of {bs : List (Int × Int)} {er : List Int} (hp : (bs.map (·.1) ++ er).Perm n16) (hok : ∀ p ∈ bs, 0 ≤ p.2 ∧ p.2 < p.1) (hl : bs.length ≤ 14) : Gt bs := by
  have hin : ∀ p ∈ bs, p.1 ∈ n16 := fun p hp' => hp.mem_iff.mp (List.mem_append_left _ (List.mem_map.mpr ⟨p, hp', rfl⟩))
  have hw : (bs.map (·.1) ++ er).Pairwise fun a b => Int.gcd a b = 1 := (hp.pairwise_iff (fun h => by rw [Int.gcd_comm]; exact h)).mpr n16_cop
  have hw := (List.pairwise_append.mp hw).1
  rw [List.pairwise_map] at hw
  refine ⟨fun p hp' => ?_, fun p hp' => ?_, fun i j hi hj hne => ?_, hl⟩
  · obtain ⟨a, b, c⟩ := n16_in _ (hin p hp')
    obtain ⟨d, e⟩ := hok p hp'
    exact ⟨by omega, c, d, e⟩
  · obtain ⟨a, b, c⟩ := n16_in _ (hin p hp')
    exact ⟨a, b⟩
  · have e1 : bAt bs i = bs[i] := by
      have := sel_at hi
      rw [List.getElem?_eq_getElem hi] at this
      exact (Option.some.inj this).symm
    have e2 : bAt bs j = bs[j] := by
      have := sel_at hj
      rw [List.getElem?_eq_getElem hj] at this
      exact (Option.some.inj this).symm
    rw [e1, e2]
    have hw := List.pairwise_iff_getElem.mp hw
    rcases Nat.lt_or_gt_of_ne hne with c | c
    · exact hw i j hi hj c
    · rw [Int.gcd_comm]
      exact hw j i hj hi c
theorem closed_intl {k : Nat} : ∀ l : List Int, closedL k (l.map D.int) = true
  | [] => rfl
  | x :: r => by simpa [closedL] using closed_intl r
theorem sp_great {n g : Nat} {s : Sto} (hb : BgAt n g s) : wp (d__law_great_right [.loc n] s) fun d s' => d = .bl true ∧ Bs n g s s' := by
  have hlt := hb.lt
  have h2 : 2 ≤ sizeLine := by decide
  have h16 : 16 ≤ sizeLine := by decide
  have z : ∀ k : Nat, k ≤ 100 → k ≤ sizeLine := fun k hk => Nat.le_trans hk (by decide)
  apply seal_bag hlt
  apply wp_run
  simp only [b__law_great_right]
  rw [wps_sFz]
  simp [gA__law_great_right, h2, h16]
  refine (sp_pick (hb.app _) (by decide) (by decide +kernel)).mono ?_
  rintro d s1 ⟨r, rfl, r0, r1, H1⟩
  simp
  refine ⟨rngOk_of (by omega) (by omega), ?_⟩
  have X1 : Bx n g s s1 := (Bx.app hb _).trans H1.x
  have R1 : s1[s.length]? = some (.lst (n16.map D.int)) := by rw [H1.same _ (by omega) (by omega)]; simp; rfl
  have A1 : s1[s.length + 1]? = some (.lst []) := by rw [H1.same _ (by omega) (by omega)]; simp
  have L1 : s1.length = s.length + 2 := by rw [H1.len]; simp
  obtain ⟨P, hP⟩ : ∃ P : List D → En → Sto → Prop, P = fun l ρ t => ∃ (bs : List (Int × Int)) (er : List Int) (k j : Nat) (x1 x6 : Option D), ρ = [some (.loc n), x1, none, none, some (.loc s.length), some (.loc (s.length + 1)), x6, none, none, none, none] ∧ l = rngD (k : Nat) j ∧ bs.length + j ≤ 14 ∧ (bs.map (·.1) ++ er).Perm n16 ∧ (∀ p ∈ bs, 0 ≤ p.2 ∧ p.2 < p.1) ∧ Bx n g s t ∧ t.length = s.length + 2 ∧ t[s.length]? = some (.lst (er.map D.int)) ∧ t[s.length + 1]? = some (.lst (bs.map pD)) ∧ CA x1 ∧ CA x6 := ⟨_, rfl⟩
  refine wps_forL P ?_ ?_ _ _ _ (by rw [hP]; exact ⟨[], n16, 0, (2 + r).toNat, _, _, rfl, rfl, by simp; omega, by simp, by simp, X1, L1, R1, A1, CA.none, CA.none⟩)
  · intro d l ρ t hI
    rw [hP] at hI
    obtain ⟨bs, er, k, j, x1, x6, rfl, hl, hk, hp, hok, hx, hlen, hr, hd, c1, c6⟩ := hI
    cases j with
    | zero => cases hl
    | succ j =>
      rw [rngD_succ] at hl
      cases hl
      have he : bs.length + er.length = 16 := by
        have := hp.length_eq
        simpa [n16] using this
      simp [hr, tyB_loc hr]
      refine (sp_pick hx.at_ (by omega) (Int.lt_of_le_of_lt (show ((er.length : Nat) : Int) ≤ 16 by omega) (by decide +kernel))).mono ?_
      rintro d t2 ⟨q, rfl, q0, q1, H2⟩
      obtain ⟨i, rfl⟩ := Int.eq_ofNat_of_zero_le q0
      have hi : i < er.length := by omega
      have R2 : t2[s.length]? = some (.lst (er.map D.int)) := by rw [H2.same _ (by omega) (by omega)]; exact hr
      have A2 : t2[s.length + 1]? = some (.lst (bs.map pD)) := by rw [H2.same _ (by omega) (by omega)]; exact hd
      obtain ⟨e, ee⟩ : ∃ e, e = er[i] := ⟨_, rfl⟩
      have hpp : (bs.map (·.1) ++ (e :: er.eraseIdx i)).Perm n16 := ((List.Perm.append_left _ (by rw [ee]; exact perm_out hi)).trans hp)
      have e16 : e ∈ n16 := hpp.mem_iff.mp (by simp)
      obtain ⟨e2, e3, e4⟩ := n16_in e e16
      have hsq : seqIndex? (i : Int) er.length = some i := seqIx hi
      simp [R2, hsq, hi]
      rw [← ee]
      obtain ⟨T, hT⟩ : ∃ T, T = t2.set s.length (.lst ((er.map D.int).eraseIdx i)) := ⟨_, rfl⟩
      rw [← hT]
      have eE : (er.map D.int).eraseIdx i = (er.eraseIdx i).map D.int := er_map er i
      have XT : Bx n g s T := by rw [hT]; exact (hx.trans H2.x).write hlt (Nat.le_refl _)
      have RT : T[s.length]? = some (.lst ((er.eraseIdx i).map D.int)) := by rw [hT, List.getElem?_set_self (List.getElem?_eq_some_iff.mp R2).1, eE]
      have AT : T[s.length + 1]? = some (.lst (bs.map pD)) := by rw [hT, List.getElem?_set_ne (by omega)]; exact A2
      have LT : T.length = s.length + 2 := by rw [hT]; simp [H2.len, hlen]
      refine ⟨by omega, tyB_loc AT, ?_⟩
      refine (sp_pick XT.at_ (by omega) (Int.lt_of_le_of_lt e4 (by decide +kernel))).mono ?_
      rintro d t3 ⟨a, rfl, a0, a1, H3⟩
      have R3 : t3[s.length]? = some (.lst ((er.eraseIdx i).map D.int)) := by rw [H3.same _ (by omega) (by omega)]; exact RT
      have A3 : t3[s.length + 1]? = some (.lst (bs.map pD)) := by rw [H3.same _ (by omega) (by omega)]; exact AT
      have X3 : Bx n g s t3 := XT.trans H3.x
      rw [A3, atO_lst]
      refine ⟨h2, Nat.lt_of_lt_of_le (show (bs.map pD).length < 16 by simp; omega) h16, ?_⟩
      rw [hP]
      refine ⟨bs ++ [(e, a)], er.eraseIdx i, k + 1, j, _, _, rfl, by push_cast; rfl, by simp; omega, by simpa using hpp, fun p hp' => ?_, X3.write hlt (by omega), by simp [H3.len, LT], ?_, ?_, CA.int, CA.int⟩
      · rcases List.mem_append.mp hp' with q | q
        · exact hok p q
        · simp at q; subst q; exact ⟨a0, a1⟩
      · rw [List.getElem?_set_ne (by omega)]; exact R3
      · rw [List.getElem?_set_self (List.getElem?_eq_some_iff.mp A3).1]; simp [pD]
  · intro ρ t hI
    rw [hP] at hI
    obtain ⟨bs, er, k, j, x1, x6, rfl, hl, hk, hp, hok, hx, hlen, hr, hd, c1, c6⟩ := hI
    have hG := gt_of hp hok (by omega)
    refine ⟨_, fz_some (frz_closed (by simpa using hlt.1)) (fz_ca c1 (fz_ca CA.none (fz_ca CA.none (fz_some (frz_lst hr (by omega) (closed_intl er)) (fz_some (frz_lst hd (by omega) (closed_pD bs)) (fz_ca c6 (fz_ca CA.none (fz_ca CA.none (fz_ca CA.none (fz_ca CA.none fz_nil)))))))))), hx.old hlt, ?_⟩
    have B0 := hx.take hlt
    unfold rA__law_great_right
    rw [wps_sFz]
    have hlt2 := B0.at_.lt
    refine sp_gr B0.at_ hG c1 CA.none c6 CA.none CA.none fun f L h st t1 y3 y6 y10 hf w hL hx1 hlen1 hd1 cy3 cy6 cy10 => ?_
    refine ⟨_, fz_some (frz_closed (by simpa using hlt2.1)) (fz_ca c1 (fz_some (frz_dic hd1 (by omega) (closed_vF f)) (fz_ca cy3 (fz_some (frz_closed (by simp only [closed]; exact closed_intl er)) (fz_some (frz_closed (by simp only [closed]; exact closed_pD bs)) (fz_ca cy6 (fz_ca CA.int (fz_ca CA.int (fz_ca CA.none (fz_ca cy10 fz_nil)))))))))), hx1.old hlt2, ?_⟩
    refine sp_last hG hf w hL ?_
    have H := B0.trans (hx1.take hlt2)
    exact ⟨H.x, _, frz_closed (by simp), fun s2 h2 => ⟨rfl, h2⟩⟩
end QS.K09
end

section
set_option Elab.async false
set_option linter.all false
set_option maxRecDepth 100000
set_option maxHeartbeats 4000000
/-! the law -/
namespace QS.K09
open PySem PySem.Spec PyProof.Rows L2 QS
theorem law_ok {ns : List Int} (h : ns.length ≤ 63) : wp (d_law [.scr (ns.map D.int)] []) fun d s => d = .bl true ∧ s = [] := by
  apply wp_seal
  apply wp_run
  simp [b_law]
  refine (wp_bag h).mono ?_
  rintro d s ⟨rfl, hl, hb⟩
  refine (sp_small hb).mono ?_
  rintro d s1 ⟨rfl, H1⟩
  simp
  refine (sp_small H1.at_).mono ?_
  rintro d s2 ⟨rfl, H2⟩
  simp
  refine (sp_great H2.at_).mono ?_
  rintro d s3 ⟨rfl, H3⟩
  simp
  refine (sp_lrefused H3.at_).mono ?_
  rintro d s4 ⟨rfl, H4⟩
  exact ⟨frz_closed (by simp), by simp, fun i hi => absurd hi (by simp)⟩
theorem law_ok2 {ns : List Int} (h : ns.length ≤ 63) : ∃ s, d_law [.scr (ns.map D.int)] [] = .ok (.bl true) s := by
  have k := (law_ok h).run
  revert k
  cases e : d_law [.scr (ns.map D.int)] [] with
  | ok d s => intro k; obtain ⟨rfl, _⟩ := k; exact ⟨s, rfl⟩
  | exn x s => intro k; exact k.elim
  | stuck => intro k; exact k.elim
end QS.K09
end

section
set_option Elab.async false
set_option linter.all false
set_option maxRecDepth 100000
set_option maxHeartbeats 0
namespace QS.K09
open PySem PySem.Spec PyProof.Rows L2 QS
/-! ### the text -/
def top (i : Nat) : Stmt := PySem.Challenge.pw_quiethour_k09_whole_settings.main.body.getD i (.Pass ⟨0, 0, 0, 0⟩)
def meth (i : Nat) (m : Str) : Stmt := match top i with
  | .ClassDef _ _ _ body _ _ _ _ _ _ _ => (body.find? fun s => match s with
    | .FunctionDef n _ _ _ _ _ _ _ _ _ => n == m
    | _ => false).getD (.Pass ⟨0, 0, 0, 0⟩)
  | _ => .Pass ⟨0, 0, 0, 0⟩
def the (i : Nat) : Option Str → Stmt
  | none => top i
  | some m => meth i m
abbrev defScope2 (i : Nat) (m : Option Str) : Scope := defScope (the i m)
def dd__law_bag : He.DefD := ⟨("_law_bag", none), "_law_bag", "_law_bag", defArgs (the 24 none), defBody (the 24 none), defScope (the 24 none), [], []⟩
def dd_is_integer : He.DefD := ⟨("is_integer", none), "is_integer", "is_integer", defArgs (the 1 none), defBody (the 1 none), defScope (the 1 none), [], []⟩
def dd_is_below : He.DefD := ⟨("is_below", none), "is_below", "is_below", defArgs (the 2 none), defBody (the 2 none), defScope (the 2 none), [], []⟩
def dd_is_pair : He.DefD := ⟨("is_pair", none), "is_pair", "is_pair", defArgs (the 10 none), defBody (the 10 none), defScope (the 10 none), [], []⟩
def dd_first_bad : He.DefD := ⟨("first_bad", none), "first_bad", "first_bad", defArgs (the 11 none), defBody (the 11 none), defScope (the 11 none), [], []⟩
def dd_Bells_init : He.DefD := ⟨("Bells", some "__init__"), "__init__", "Bells.__init__", defArgs (the 12 (some "__init__")), defBody (the 12 (some "__init__")), defScope (the 12 (some "__init__")), [], []⟩
def dd__law_agrees : He.DefD := ⟨("_law_agrees", none), "_law_agrees", "_law_agrees", defArgs (the 27 none), defBody (the 27 none), defScope (the 27 none), [], []⟩
def dd__law_pick : He.DefD := ⟨("_law_pick", none), "_law_pick", "_law_pick", defArgs (the 25 none), defBody (the 25 none), defScope (the 25 none), [], []⟩
def dd_common : He.DefD := ⟨("common", none), "common", "common", defArgs (the 14 none), defBody (the 14 none), defScope (the 14 none), [], []⟩
def dd_inverse : He.DefD := ⟨("inverse", none), "inverse", "inverse", defArgs (the 18 none), defBody (the 18 none), defScope (the 18 none), [], []⟩
def dd_least_multiple : He.DefD := ⟨("least_multiple", none), "least_multiple", "least_multiple", defArgs (the 15 none), defBody (the 15 none), defScope (the 15 none), [], []⟩
def dd_common_hours : He.DefD := ⟨("common_hours", none), "common_hours", "common_hours", defArgs (the 19 none), defBody (the 19 none), defScope (the 19 none), [], []⟩
def dd_all_of : He.DefD := ⟨("all_of", none), "all_of", "all_of", defArgs (the 20 none), defBody (the 20 none), defScope (the 20 none), [], []⟩
def dd_Bells_size : He.DefD := ⟨("Bells", some "size"), "size", "Bells.size", defArgs (the 12 (some "size")), defBody (the 12 (some "size")), defScope (the 12 (some "size")), [], []⟩
def dd_check_flags : He.DefD := ⟨("check_flags", none), "check_flags", "check_flags", defArgs (the 21 none), defBody (the 21 none), defScope (the 21 none), [], []⟩
def dd_doubled : He.DefD := ⟨("doubled", none), "doubled", "doubled", defArgs (the 16 none), defBody (the 16 none), defScope (the 16 none), [], []⟩
def dd_rings : He.DefD := ⟨("rings", none), "rings", "rings", defArgs (the 13 none), defBody (the 13 none), defScope (the 13 none), [], []⟩
def dd_setting : He.DefD := ⟨("setting", none), "setting", "setting", defArgs (the 22 none), defBody (the 22 none), defScope (the 22 none), [], []⟩
def dd__law_great_right : He.DefD := ⟨("_law_great_right", none), "_law_great_right", "_law_great_right", defArgs (the 30 none), defBody (the 30 none), defScope (the 30 none), [], []⟩
def dd__law_is_refused : He.DefD := ⟨("_law_is_refused", none), "_law_is_refused", "_law_is_refused", defArgs (the 31 none), defBody (the 31 none), defScope (the 31 none), [], []⟩
def dd__law_some : He.DefD := ⟨("_law_some", none), "_law_some", "_law_some", defArgs (the 26 none), defBody (the 26 none), defScope (the 26 none), [], []⟩
def dd__law_refused_right : He.DefD := ⟨("_law_refused_right", none), "_law_refused_right", "_law_refused_right", defArgs (the 32 none), defBody (the 32 none), defScope (the 32 none), [], []⟩
def dd__law_round : He.DefD := ⟨("_law_round", none), "_law_round", "_law_round", defArgs (the 28 none), defBody (the 28 none), defScope (the 28 none), [], []⟩
def dd__law_small_right : He.DefD := ⟨("_law_small_right", none), "_law_small_right", "_law_small_right", defArgs (the 29 none), defBody (the 29 none), defScope (the 29 none), [], []⟩
def dd_law : He.DefD := ⟨("law", none), "law", "law", defArgs (the 33 none), defBody (the 33 none), defScope (the 33 none), [], []⟩
def fn : List He.DefD := [dd__law_bag, dd_is_integer, dd_is_below, dd_is_pair, dd_first_bad, dd_Bells_init, dd__law_agrees, dd__law_pick, dd_common, dd_inverse, dd_least_multiple, dd_common_hours, dd_all_of, dd_Bells_size, dd_check_flags, dd_doubled, dd_rings, dd_setting, dd__law_great_right, dd__law_is_refused, dd__law_some, dd__law_refused_right, dd__law_round, dd__law_small_right, dd_law]
def fa : List He.Fa := [.free "len", .free "int", .free "abs", .free "sum", .free "isinstance", .free "bool", .glo "is_integer", .free "tuple", .int "MOST_EVERY" 1000000000, .glo "is_below", .int "MOST" 14, .free "enumerate", .glo "is_pair", .glo "first_bad", .glo "BadBells", .cls "Bells", .noat "Bells" "pairs", .free "list", .free "all", .glo "common", .glo "inverse", .glo "least_multiple", .glo "common_hours", .free "dict", .meth "Bells" "size", .exc "NoFlags", .glo "NoFlags", .free "range", .glo "check_flags", .free "sorted", .glo "all_of", .glo "doubled", .glo "rings", .free "any", .glo "_law_pick", .glo "_law_agrees", .mkr "Bells", .glo "Bells", .glo "setting", .free "ValueError", .glo "_law_some", .glo "_law_is_refused", .glo "_law_round", .glo "_law_bag", .glo "_law_small_right", .glo "_law_great_right", .glo "_law_refused_right", .glo "law"]
abbrev PP : Program := PySem.Challenge.pw_quiethour_k09_whole_settings
def ex0 (K : PySem.W.Frag) : Bool := (cls.all (clsB K)) && ((["int", "bool", "str", "tuple", "list", "dict"] : List String).all fun T => isiB K T cls) && (cls.all fun x => isiO K x cls)
abbrev tf : List He.Defn := [("law", none), ("_law_is_refused", none), ("_law_refused_right", none)]
def ex (K : PySem.W.Frag) : Bool := ex0 K && (QS.exB excs [] ["NoFlags"] [] K && ((tf.all fun q => QS.lamB q K) && (true)))
def sd_BadBells : QS.SupD := ⟨"BadBells", "place", ⟨⟨11, 17, 11, 21⟩, ⟨11, 23, 11, 28⟩, ⟨12, 8, 12, 13⟩, ⟨12, 8, 12, 15⟩, ⟨12, 8, 12, 24⟩, ⟨12, 25, 12, 30⟩, ⟨12, 8, 12, 31⟩, ⟨12, 8, 12, 31⟩, ⟨13, 8, 13, 12⟩, ⟨13, 8, 13, 18⟩, ⟨13, 21, 13, 26⟩, ⟨13, 8, 13, 26⟩⟩⟩
def sus : List QS.SupD := [sd_BadBells]
section
variable {w : World} {K : PySem.W.Frag} {mg : Str → Option Value} {h : Heap} (X : K.In h) (G : h.Ns mainGlobals mg) (c : He.SaysD fa fn K) (e : ex K = true) (bs : Heap) (su : ∀ d ∈ sus, QS.fnS K d = d.val ∧ d.ok PP.main.file K = true) (tb : ∀ p ∈ tf, LamX.TabB bs mg (He.cT K p).1 (He.cT K p).2)
include X G c in
theorem f0 : mg "len" = none := He.free_ok X G (c.fact 0 (f := .free "len") rfl)
include X G c in
theorem f1 : mg "int" = none := He.free_ok X G (c.fact 1 (f := .free "int") rfl)
include X G c in
theorem f2 : mg "abs" = none := He.free_ok X G (c.fact 2 (f := .free "abs") rfl)
include X G c in
theorem f3 : mg "sum" = none := He.free_ok X G (c.fact 3 (f := .free "sum") rfl)
include X G c in
theorem f4 : mg "isinstance" = none := He.free_ok X G (c.fact 4 (f := .free "isinstance") rfl)
include X G c in
theorem f5 : mg "bool" = none := He.free_ok X G (c.fact 5 (f := .free "bool") rfl)
include X G c in
theorem f6 : mg "is_integer" = some (.ref (He.ga K "is_integer")) := He.glo_ok X G (c.fact 6 (f := .glo "is_integer") rfl)
include X G c in
theorem f7 : mg "tuple" = none := He.free_ok X G (c.fact 7 (f := .free "tuple") rfl)
include X G c in
theorem f8 : ∃ t, mg "MOST_EVERY" = some (.int 1000000000 t) := He.int_ok X G (c.fact 8 (f := .int "MOST_EVERY" 1000000000) rfl)
include X G c in
theorem f9 : mg "is_below" = some (.ref (He.ga K "is_below")) := He.glo_ok X G (c.fact 9 (f := .glo "is_below") rfl)
include X G c in
theorem f10 : ∃ t, mg "MOST" = some (.int 14 t) := He.int_ok X G (c.fact 10 (f := .int "MOST" 14) rfl)
include X G c in
theorem f11 : mg "enumerate" = none := He.free_ok X G (c.fact 11 (f := .free "enumerate") rfl)
include X G c in
theorem f12 : mg "is_pair" = some (.ref (He.ga K "is_pair")) := He.glo_ok X G (c.fact 12 (f := .glo "is_pair") rfl)
include X G c in
theorem f13 : mg "first_bad" = some (.ref (He.ga K "first_bad")) := He.glo_ok X G (c.fact 13 (f := .glo "first_bad") rfl)
include X G c in
theorem f14 : mg "BadBells" = some (.ref (He.ga K "BadBells")) := He.glo_ok X G (c.fact 14 (f := .glo "BadBells") rfl)
include c in
theorem f15 : Cls K (He.ga K "Bells") := He.cls_ok (c.fact 15 (f := .cls "Bells") rfl)
include c in
theorem f16 : NoAttr K (He.ga K "Bells") "pairs" := He.noat_ok (c.fact 16 (f := .noat "Bells" "pairs") rfl)
include X G c in
theorem f17 : mg "list" = none := He.free_ok X G (c.fact 17 (f := .free "list") rfl)
include X G c in
theorem f18 : mg "all" = none := He.free_ok X G (c.fact 18 (f := .free "all") rfl)
include X G c in
theorem f19 : mg "common" = some (.ref (He.ga K "common")) := He.glo_ok X G (c.fact 19 (f := .glo "common") rfl)
include X G c in
theorem f20 : mg "inverse" = some (.ref (He.ga K "inverse")) := He.glo_ok X G (c.fact 20 (f := .glo "inverse") rfl)
include X G c in
theorem f21 : mg "least_multiple" = some (.ref (He.ga K "least_multiple")) := He.glo_ok X G (c.fact 21 (f := .glo "least_multiple") rfl)
include X G c in
theorem f22 : mg "common_hours" = some (.ref (He.ga K "common_hours")) := He.glo_ok X G (c.fact 22 (f := .glo "common_hours") rfl)
include X G c in
theorem f23 : mg "dict" = none := He.free_ok X G (c.fact 23 (f := .free "dict") rfl)
include c in
theorem f24 : Meth K (He.ga K "Bells") "size" (He.ma K (He.ga K "Bells") "size") := He.meth_ok (c.fact 24 (f := .meth "Bells" "size") rfl)
include c in
theorem f25 : PySem.W.excIn K (He.ga K "NoFlags") He.veBase "ValueError.__new__" = true ∧ PySem.W.keepIn K (.ref (He.ga K "NoFlags")) = true ∧ PySem.W.subIn K (.ref (He.ga K "NoFlags")) (.type "BaseException") = some true ∧ PySem.W.typeIn K (.ref (He.ga K "NoFlags")) = some (.type "type") := He.exc_ok (c.fact 25 (f := .exc "NoFlags") rfl)
include X G c in
theorem f26 : mg "NoFlags" = some (.ref (He.ga K "NoFlags")) := He.glo_ok X G (c.fact 26 (f := .glo "NoFlags") rfl)
include X G c in
theorem f27 : mg "range" = none := He.free_ok X G (c.fact 27 (f := .free "range") rfl)
include X G c in
theorem f28 : mg "check_flags" = some (.ref (He.ga K "check_flags")) := He.glo_ok X G (c.fact 28 (f := .glo "check_flags") rfl)
include X G c in
theorem f29 : mg "sorted" = none := He.free_ok X G (c.fact 29 (f := .free "sorted") rfl)
include X G c in
theorem f30 : mg "all_of" = some (.ref (He.ga K "all_of")) := He.glo_ok X G (c.fact 30 (f := .glo "all_of") rfl)
include X G c in
theorem f31 : mg "doubled" = some (.ref (He.ga K "doubled")) := He.glo_ok X G (c.fact 31 (f := .glo "doubled") rfl)
include X G c in
theorem f32 : mg "rings" = some (.ref (He.ga K "rings")) := He.glo_ok X G (c.fact 32 (f := .glo "rings") rfl)
include X G c in
theorem f33 : mg "any" = none := He.free_ok X G (c.fact 33 (f := .free "any") rfl)
include X G c in
theorem f34 : mg "_law_pick" = some (.ref (He.ga K "_law_pick")) := He.glo_ok X G (c.fact 34 (f := .glo "_law_pick") rfl)
include X G c in
theorem f35 : mg "_law_agrees" = some (.ref (He.ga K "_law_agrees")) := He.glo_ok X G (c.fact 35 (f := .glo "_law_agrees") rfl)
include c in
theorem f36 : Mk K (He.ga K "Bells") (He.ma K (He.ga K "Bells") "__init__") := He.mkr_ok (c.fact 36 (f := .mkr "Bells") rfl)
include X G c in
theorem f37 : mg "Bells" = some (.ref (He.ga K "Bells")) := He.glo_ok X G (c.fact 37 (f := .glo "Bells") rfl)
include X G c in
theorem f38 : mg "setting" = some (.ref (He.ga K "setting")) := He.glo_ok X G (c.fact 38 (f := .glo "setting") rfl)
include X G c in
theorem f39 : mg "ValueError" = none := He.free_ok X G (c.fact 39 (f := .free "ValueError") rfl)
include X G c in
theorem f40 : mg "_law_some" = some (.ref (He.ga K "_law_some")) := He.glo_ok X G (c.fact 40 (f := .glo "_law_some") rfl)
include X G c in
theorem f41 : mg "_law_is_refused" = some (.ref (He.ga K "_law_is_refused")) := He.glo_ok X G (c.fact 41 (f := .glo "_law_is_refused") rfl)
include X G c in
theorem f42 : mg "_law_round" = some (.ref (He.ga K "_law_round")) := He.glo_ok X G (c.fact 42 (f := .glo "_law_round") rfl)
include X G c in
theorem f43 : mg "_law_bag" = some (.ref (He.ga K "_law_bag")) := He.glo_ok X G (c.fact 43 (f := .glo "_law_bag") rfl)
include X G c in
theorem f44 : mg "_law_small_right" = some (.ref (He.ga K "_law_small_right")) := He.glo_ok X G (c.fact 44 (f := .glo "_law_small_right") rfl)
include X G c in
theorem f45 : mg "_law_great_right" = some (.ref (He.ga K "_law_great_right")) := He.glo_ok X G (c.fact 45 (f := .glo "_law_great_right") rfl)
include X G c in
theorem f46 : mg "_law_refused_right" = some (.ref (He.ga K "_law_refused_right")) := He.glo_ok X G (c.fact 46 (f := .glo "_law_refused_right") rfl)
include X G c in
theorem f47 : mg "law" = some (.ref (He.ga K "law")) := He.glo_ok X G (c.fact 47 (f := .glo "law") rfl)
include e in
theorem exb : QS.exB excs [] ["NoFlags"] [] K = true := by
  have e2 := e
  unfold ex at e2
  simp only [Bool.and_eq_true] at e2
  exact e2.2.1
include e in
theorem lam_law : QS.lamB ("law", none) K = true := by
  have e2 := e
  unfold ex at e2
  simp only [Bool.and_eq_true, List.all_eq_true] at e2
  exact e2.2.2.1 _ (by decide)
include e in
theorem lam__law_is_refused : QS.lamB ("_law_is_refused", none) K = true := by
  have e2 := e
  unfold ex at e2
  simp only [Bool.and_eq_true, List.all_eq_true] at e2
  exact e2.2.2.1 _ (by decide)
include e in
theorem lam__law_refused_right : QS.lamB ("_law_refused_right", none) K = true := by
  have e2 := e
  unfold ex at e2
  simp only [Bool.and_eq_true, List.all_eq_true] at e2
  exact e2.2.2.1 _ (by decide)
theorem htop : (PP.main.scope.names.lookup ("super" : Str)).isSome = false := by decide +kernel
include su in
theorem sx_BadBells : QS.SupTxt PP K (He.ga K "BadBells") (He.ma K (He.ga K "BadBells") "__init__") "BadBells" "place" := by
  obtain ⟨h1, h2⟩ := su sd_BadBells (by simp [sus])
  exact QS.sup_ok (prog := PP) (d := sd_BadBells) ⟨by intros; rfl, by intros; exact ⟨_, rfl⟩⟩ h1 h2
include c in
theorem clsAll : ∀ x ∈ cls, Cls K (He.ga K x) := by
  intro x hx
  simp only [cls, List.mem_cons, List.not_mem_nil, or_false] at hx
  subst hx
  exact f15 c
include c e in
theorem hcs : ∀ x ∈ cls, ClsI K x := fun x hx => by
  have e := e
  unfold ex at e
  rw [Bool.and_eq_true] at e
  have e := e.1
  unfold ex0 at e
  simp only [Bool.and_eq_true, List.all_eq_true] at e
  exact clsI_of (e.1.1 x hx) (clsAll c x hx)
include c e in
theorem isB (T : String) (hT : T ∈ (["int", "bool", "str", "tuple", "list", "dict"] : List String) := by decide) (hk : ∀ n ∈ builtinTys, kitB n T = some (n == T || (n == "bool" && T == "int")) := by decide +kernel) : Ans K (.type T) (ansB T cls) := by
  have e2 := e
  unfold ex at e2
  rw [Bool.and_eq_true] at e2
  have e2 := e2.1
  unfold ex0 at e2
  simp only [Bool.and_eq_true, List.all_eq_true] at e2
  exact ans_b (e2.1.2 T hT) (hcs c e) hk
include c e in
theorem isO (x : Str) (hx : x ∈ cls := by decide) : Ans K (.ref (He.ga K x)) (ansO x cls) := by
  have e2 := e
  unfold ex at e2
  rw [Bool.and_eq_true] at e2
  have e2 := e2.1
  unfold ex0 at e2
  simp only [Bool.and_eq_true, List.all_eq_true] at e2
  exact ans_o (e2.2 x hx) (hcs c e)
theorem sc__law_bag : FnScope ["script", "seed", "cell", "great", "always"] ["script"] (defScope2 24 none) := ⟨rfl, rfl, rfl, by decide +kernel, rfl, by decide +kernel, by decide +kernel⟩

include X G c e su tb in
theorem ok__law_bag : OkF PP w K mg bs 1 (He.fAd K ("_law_bag", none)) 1 d__law_bag := by
  obtain ⟨fd, F⟩ := c.def_ 0 (d := dd__law_bag) rfl
  exact (okF_def (N := ["script", "seed", "cell", "great", "always"]) (ps := ["script"]) (n := 1) (b := b__law_bag) F sc__law_bag rfl (fun _ _ _ _ _ _ us hl => match us, hl with | [_], _ => rfl)
    (fun zz cdv A outer s H E hcd hr tk po => have sc := sc__law_bag;
    ss_cons (s_set (i := 1) sc.nd (se_bin (o_add (mu := false)) (se_int) (se_callB c_len (f0 X G c) boot_len (sa_cons (se_var 0) (sa_nil)))))
    (ss_cons (s_for po (si_each (se_slice (l_seq (mu := false)) (se_var 0) (so_none) (so_some (se_int)))) (sg_name (i := 2) sc.nd)
    (ss_one (s_set (i := 1) sc.nd (se_bin o_mod (se_callTy c_int (f1 X G c) boot_int (sa_cons (se_bin (o_add (mu := false)) (se_bin (o_add (mu := false)) (se_bin (o_mul (mu := false)) (se_var 1) (se_int)) (se_callTy c_int (f1 X G c) boot_int (sa_cons (se_var 2) (sa_nil)))) (se_bin o_pow (se_int) (se_int))) (sa_nil))) (se_int)))))
    (ss_cons (s_setLc (i := 3) true [("cell", 2)] sc.nd (si_each (se_slice (l_seq (mu := false)) (se_var 0) (so_none) (so_some (se_int)))) (blkOk_by (by rfl)) (fun _ _ _ _ _ _ => gw_name (i := 2) sc.nd) (fun _ _ _ _ _ _ => sts_one (st_cmp o_ge (se_callB c_abs (f2 X G c) boot_abs (sa_cons (se_callTy c_int (f1 X G c) boot_int (sa_cons (se_var 2) (sa_nil))) (sa_nil))) (se_bin o_pow (se_int) (se_int)) rfl)) (fun _ _ _ _ _ _ => se_callB c_abs (f2 X G c) boot_abs (sa_cons (se_callTy c_int (f1 X G c) boot_int (sa_cons (se_var 2) (sa_nil))) (sa_nil))))
    (ss_cons (s_set (i := 4) sc.nd (se_non))
    (ss_cons (s_if ((sw_or (st_cmp (o_eq (room_u hr (by decide))) (se_callB c_len (f0 X G c) boot_len (sa_cons (se_var 0) (sa_nil))) (se_int) rfl) (sw_or1 ((sw_and (st_cmp (o_eq (room_u hr (by decide))) (se_callB c_len (f0 X G c) boot_len (sa_cons (se_var 0) (sa_nil))) (se_int) rfl) (sw_and1 (st_cmp o_ltI (se_callB c_abs (f2 X G c) boot_abs (sa_cons (se_callTy c_int (f1 X G c) boot_int (sa_cons (se_ix i_seq (se_var 0) (se_int)) (sa_nil))) (sa_nil))) (se_int) rfl))).pt))).pt)
    (ss_one (s_set (i := 4) sc.nd (se_callB c_abs (f2 X G c) boot_abs (sa_cons (se_callB c_sumA (f3 X G c) boot_sum (sa_cons (se_lc false [("cell", 2)] sc.nd (si_each (se_var 0)) (blkOk_by (by rfl)) (fun _ _ _ _ _ _ => gw_name (i := 2) sc.nd) (fun _ _ _ _ _ _ => sts_nil) (fun _ _ _ _ _ _ => se_callTy c_int (f1 X G c) boot_int (sa_cons (se_var 2) (sa_nil)))) (sa_nil))) (sa_nil)))))
    (ss_nil))
    (ss_one (s_ret (se_lst (mu := true) (sa_cons (se_var 1) (sa_cons (se_int) (sa_cons (se_var 3) (sa_cons (se_var 4) (sa_nil))))))))))))))

theorem sc_is_integer : FnScope ["thing"] ["thing"] (defScope2 1 none) := ⟨rfl, rfl, rfl, by decide +kernel, rfl, by decide +kernel, by decide +kernel⟩

include X G c e su tb in
theorem ok_is_integer : OkF PP w K mg bs 1 (He.fAd K ("is_integer", none)) 1 d_is_integer := by
  obtain ⟨fd, F⟩ := c.def_ 1 (d := dd_is_integer) rfl
  exact OkF.seal (okF_def (N := ["thing"]) (ps := ["thing"]) (n := 1) (b := b_is_integer) F sc_is_integer rfl (fun _ _ _ _ _ _ us hl => match us, hl with | [_], _ => rfl)
    (fun zz cdv A outer s H E hcd hr tk po => have sc := sc_is_integer;
    ss_one (s_ret (se_and (se_isi (isB c e "int") (f4 X G c) (se_var 0) (pe_tyN (T := "int") (f1 X G c) boot_int) (.ty "int")) (se_one (se_not (se_isi (isB c e "bool") (f4 X G c) (se_var 0) (pe_tyN (T := "bool") (f5 X G c) (by decide +kernel)) (.ty "bool"))))))))

theorem sc_is_below : FnScope ["thing", "many"] ["thing", "many"] (defScope2 2 none) := ⟨rfl, rfl, rfl, by decide +kernel, rfl, by decide +kernel, by decide +kernel⟩

include X G c e su tb in
theorem ok_is_below : OkF PP w K mg bs 2 (He.fAd K ("is_below", none)) 2 d_is_below := by
  obtain ⟨fd, F⟩ := c.def_ 2 (d := dd_is_below) rfl
  exact OkF.seal (okF_def (N := ["thing", "many"]) (ps := ["thing", "many"]) (n := 2) (b := b_is_below) F sc_is_below rfl (fun _ _ _ _ _ _ us hl => match us, hl with | [_, _], _ => rfl)
    (fun zz cdv A outer s H E hcd hr tk po => have sc := sc_is_below;
    ss_one (s_ret (se_and (se_callO (ok_is_integer X G c e bs su tb) hr (by decide) (f6 X G c) tk (sa_cons (se_var 0) (sa_nil))) (se_one (se_chain o_le o_ltI (se_int) (se_var 0) (se_var 1)))))))

theorem sc_is_pair : FnScope ["thing"] ["thing"] (defScope2 10 none) := ⟨rfl, rfl, rfl, by decide +kernel, rfl, by decide +kernel, by decide +kernel⟩

include X G c e su tb in
theorem ok_is_pair : OkF PP w K mg bs 3 (He.fAd K ("is_pair", none)) 1 d_is_pair := by
  obtain ⟨fd, F⟩ := c.def_ 3 (d := dd_is_pair) rfl
  exact OkF.seal (okF_def (N := ["thing"]) (ps := ["thing"]) (n := 1) (b := b_is_pair) F sc_is_pair rfl (fun _ _ _ _ _ _ us hl => match us, hl with | [_], _ => rfl)
    (fun zz cdv A outer s H E hcd hr tk po => have sc := sc_is_pair;
    ss_cons (s_if ((sw_or (st_not (st_val (se_isi (isB c e "tuple") (f4 X G c) (se_var 0) (pe_tyN (T := "tuple") (f7 X G c) boot_tuple) (.ty "tuple")))) (sw_or1 (st_cmp (o_ne (room_u hr (by decide))) (se_callB c_len (f0 X G c) boot_len (sa_cons (se_var 0) (sa_nil))) (se_int) rfl))).pt)
    (ss_one (s_ret (se_bl)))
    (ss_nil))
    (ss_one (s_ret (se_and (se_callO (ok_is_below X G c e bs su tb) hr (by decide) (f9 X G c) tk (sa_cons (se_ix i_seq (se_var 0) (se_int)) (sa_cons (se_bin (o_add (mu := false)) (se_gint (by rfl) (f8 X G c)) (se_int)) (sa_nil)))) (se_one (se_callO (ok_is_below X G c e bs su tb) hr (by decide) (f9 X G c) tk (sa_cons (se_ix i_seq (se_var 0) (se_int)) (sa_cons (se_ix i_seq (se_var 0) (se_int)) (sa_nil))))))))))

theorem sc_first_bad : FnScope ["pairs", "place", "one"] ["pairs"] (defScope2 11 none) := ⟨rfl, rfl, rfl, by decide +kernel, rfl, by decide +kernel, by decide +kernel⟩

include X G c e su tb in
theorem ok_first_bad : OkF PP w K mg bs 4 (He.fAd K ("first_bad", none)) 1 d_first_bad := by
  obtain ⟨fd, F⟩ := c.def_ 4 (d := dd_first_bad) rfl
  exact OkF.seal (okF_def (N := ["pairs", "place", "one"]) (ps := ["pairs"]) (n := 1) (b := b_first_bad) F sc_first_bad rfl (fun _ _ _ _ _ _ us hl => match us, hl with | [_], _ => rfl)
    (fun zz cdv A outer s H E hcd hr tk po => have sc := sc_first_bad;
    ss_cons (s_if ((sw_or (st_not (st_val (se_isi (isB c e "tuple") (f4 X G c) (se_var 0) (pe_tyN (T := "tuple") (f7 X G c) boot_tuple) (.ty "tuple")))) (sw_or1 (st_cmp o_gt (se_callB c_len (f0 X G c) boot_len (sa_cons (se_var 0) (sa_nil))) (se_gint (by rfl) (f10 X G c)) rfl))).pt)
    (ss_one (s_ret (se_un o_neg (se_int))))
    (ss_nil))
    (ss_cons (s_for po (si_enum (f11 X G c) (sa_cons (se_var 0) (sa_nil))) (sg_tup (sgs_cons (sg_name (i := 1) sc.nd) (sgs_cons (sg_name (i := 2) sc.nd) (sgs_nil))))
    (ss_one (s_if (st_not (st_val (se_callO (ok_is_pair X G c e bs su tb) hr (by decide) (f12 X G c) tk (sa_cons (se_var 2) (sa_nil)))))
    (ss_one (s_ret (se_var 1)))
    (ss_nil))))
    (ss_one (s_ret (se_non))))))

theorem sc_Bells_init : FnScope ["self", "pairs", "place"] ["self", "pairs"] (defScope2 12 (some "__init__")) := ⟨rfl, rfl, rfl, by decide +kernel, rfl, by decide +kernel, by decide +kernel⟩

include X G c e su tb in
theorem ok_Bells_init : OkF PP w K mg bs 5 (He.fAd K ("Bells", some "__init__")) 2 d_Bells_init := by
  obtain ⟨fd, F⟩ := c.def_ 5 (d := dd_Bells_init) rfl
  exact OkF.seal (okF_def (N := ["self", "pairs", "place"]) (ps := ["self", "pairs"]) (n := 2) (b := b_Bells_init) F sc_Bells_init rfl (fun _ _ _ _ _ _ us hl => match us, hl with | [_, _], _ => rfl)
    (fun zz cdv A outer s H E hcd hr tk po => have sc := sc_Bells_init;
    ss_cons (s_set (i := 2) sc.nd (se_callO (ok_first_bad X G c e bs su tb) hr (by decide) (f13 X G c) tk (sa_cons (se_var 1) (sa_nil))))
    (ss_cons (s_if (st_cmp o_isNot (se_var 2) (se_non) rfl)
    (ss_one (s_raise1 (fun ta h => pmk_sup (sx_BadBells su) hr htop (f14 X G c) h rfl (by decide)) (se_var 2) tk))
    (ss_nil))
    (ss_one (s_fld (f15 c) (f16 c) (se_var 1) (se_var 0))))))

theorem sc__law_agrees : FnScope ["pairs", "flags", "hour", "bell"] ["pairs", "flags", "hour"] (defScope2 27 none) := ⟨rfl, rfl, rfl, by decide +kernel, rfl, by decide +kernel, by decide +kernel⟩

include X G c e su tb in
theorem ok__law_agrees : OkF PP w K mg bs 1 (He.fAd K ("_law_agrees", none)) 3 d__law_agrees := by
  obtain ⟨fd, F⟩ := c.def_ 6 (d := dd__law_agrees) rfl
  exact OkF.seal (okF_def (N := ["pairs", "flags", "hour", "bell"]) (ps := ["pairs", "flags", "hour"]) (n := 3) (b := b__law_agrees) F sc__law_agrees rfl (fun _ _ _ _ _ _ us hl => match us, hl with | [_, _, _], _ => rfl)
    (fun zz cdv A outer s H E hcd hr tk po => have sc := sc__law_agrees;
    ss_one (s_ret (se_callB c_all (f18 X G c) boot_all (sa_cons (se_lc false [("bell", 3)] sc.nd (si_each (se_callTy (c_listDk (mu := false)) (f17 X G c) boot_list (sa_cons (se_var 1) (sa_nil)))) (blkOk_by (by rfl)) (fun _ _ _ _ _ _ => gw_name (i := 3) sc.nd) (fun _ _ _ _ _ _ => sts_nil) (fun _ _ _ _ _ _ => se_cmp (o_eq (room_u hr (by decide))) (se_cmp (o_eq (room_u hr (by decide))) (se_bin o_mod (se_callTy c_int (f1 X G c) boot_int (sa_cons (se_bin o_sub (se_var 2) (se_ix i_seq (se_ix i_seq (se_var 0) (se_var 3)) (se_int))) (sa_nil))) (se_ix i_seq (se_ix i_seq (se_var 0) (se_var 3)) (se_int))) (se_int) rfl) (se_ix (i_dic hr) (se_var 1) (se_var 3)) rfl)) (sa_nil))))))

theorem sc__law_pick : FnScope ["bag", "many", "rest", "told"] ["bag", "many"] (defScope2 25 none) := ⟨rfl, rfl, rfl, by decide +kernel, rfl, by decide +kernel, by decide +kernel⟩

include X G c e su tb in
theorem ok__law_pick : OkF PP w K mg bs 1 (He.fAd K ("_law_pick", none)) 2 d__law_pick := by
  obtain ⟨fd, F⟩ := c.def_ 7 (d := dd__law_pick) rfl
  exact OkF.seal (okF_def (N := ["bag", "many", "rest", "told"]) (ps := ["bag", "many"]) (n := 2) (b := b__law_pick) F sc__law_pick rfl (fun _ _ _ _ _ _ us hl => match us, hl with | [_, _], _ => rfl)
    (fun zz cdv A outer s H E hcd hr tk po => have sc := sc__law_pick;
    ss_cons (s_if (st_cmp o_isNot (se_ix i_seq (se_var 0) (se_int)) (se_non) rfl)
    (ss_one (s_ret (se_bin o_mod (se_callTy c_int (f1 X G c) boot_int (sa_cons (se_ix i_seq (se_var 0) (se_int)) (sa_nil))) (se_var 1))))
    (ss_nil))
    (ss_cons (s_if (st_cmp o_gt (se_callB c_len (f0 X G c) boot_len (sa_cons (se_ix i_seq (se_var 0) (se_int)) (sa_nil))) (se_int) rfl)
    (ss_cons (s_set (i := 2) sc.nd (se_ix i_seq (se_ix i_seq (se_var 0) (se_int)) (se_int)))
    (ss_cons (s_set (i := 3) sc.nd (se_bin o_mod (se_callTy c_int (f1 X G c) boot_int (sa_cons (se_var 2) (sa_nil))) (se_var 1)))
    (ss_cons (s_if (st_cmp o_ltI (se_var 2) (se_var 1) rfl)
    (ss_one (s_expr (se_mb PySem.F.plainAttrs_list PySem.F.slot_list_pop PySem.F.type_list_pop m_popAt (se_ix i_seq (se_var 0) (se_int)) (sa_cons (se_int) (sa_nil)))))
    (ss_one (s_sub t_list (se_bin o_div (se_var 2) (se_var 1)) (se_ix i_seq (se_var 0) (se_int)) (se_int))))
    (ss_one (s_ret (se_var 3))))))
    (ss_nil))
    (ss_cons (s_sub t_list (se_bin o_mod (se_callTy c_int (f1 X G c) boot_int (sa_cons (se_bin (o_add (mu := false)) (se_bin (o_mul (mu := false)) (se_callTy c_int (f1 X G c) boot_int (sa_cons (se_ix i_seq (se_var 0) (se_int)) (sa_nil))) (se_int)) (se_ix i_seq (se_var 0) (se_int))) (sa_nil))) (se_int)) (se_var 0) (se_int))
    (ss_cons (s_sub t_list (se_bin (o_add (mu := false)) (se_ix i_seq (se_var 0) (se_int)) (se_int)) (se_var 0) (se_int))
    (ss_one (s_ret (se_bin o_mod (se_callTy c_int (f1 X G c) boot_int (sa_cons (se_bin o_div (se_ix i_seq (se_var 0) (se_int)) (se_int)) (sa_nil))) (se_var 1)))))))))

theorem sc_common : FnScope ["one", "other"] ["one", "other"] (defScope2 14 none) := ⟨rfl, rfl, rfl, by decide +kernel, rfl, by decide +kernel, by decide +kernel⟩

include X G c e su tb in
theorem ok_common : OkF PP w K mg bs 1 (He.fAd K ("common", none)) 2 d_common := by
  obtain ⟨fd, F⟩ := c.def_ 8 (d := dd_common) rfl
  exact OkF.seal (okF_def (N := ["one", "other"]) (ps := ["one", "other"]) (n := 2) (b := b_common) F sc_common rfl (fun _ _ _ _ _ _ us hl => match us, hl with | [_, _], _ => rfl)
    (fun zz cdv A outer s H E hcd hr tk po => have sc := sc_common;
    ss_cons (s_while po (st_cmp o_gt (se_var 1) (se_int) rfl)
    (ss_one (s_par (i := 0) (j := 1) sc.nd (sa_cons (se_var 1) (sa_cons (se_bin o_mod (se_callTy c_int (f1 X G c) boot_int (sa_cons (se_var 0) (sa_nil))) (se_var 1)) (sa_nil))))))
    (ss_one (s_ret (se_var 0)))))

theorem sc_inverse : FnScope ["number", "every", "one", "other", "mine", "theirs", "times"] ["number", "every"] (defScope2 18 none) := ⟨rfl, rfl, rfl, by decide +kernel, rfl, by decide +kernel, by decide +kernel⟩

include X G c e su tb in
theorem ok_inverse : OkF PP w K mg bs 1 (He.fAd K ("inverse", none)) 2 d_inverse := by
  obtain ⟨fd, F⟩ := c.def_ 9 (d := dd_inverse) rfl
  exact OkF.seal (okF_def (N := ["number", "every", "one", "other", "mine", "theirs", "times"]) (ps := ["number", "every"]) (n := 2) (b := b_inverse) F sc_inverse rfl (fun _ _ _ _ _ _ us hl => match us, hl with | [_, _], _ => rfl)
    (fun zz cdv A outer s H E hcd hr tk po => have sc := sc_inverse;
    ss_cons (s_asg (se_tup (sa_cons (se_bin o_mod (se_callTy c_int (f1 X G c) boot_int (sa_cons (se_var 0) (sa_nil))) (se_var 1)) (sa_cons (se_var 1) (sa_cons (se_int) (sa_cons (se_int) (sa_nil)))))) (sg_tup (sgs_cons (sg_name (i := 2) sc.nd) (sgs_cons (sg_name (i := 3) sc.nd) (sgs_cons (sg_name (i := 4) sc.nd) (sgs_cons (sg_name (i := 5) sc.nd) (sgs_nil)))))))
    (ss_cons (s_while po (st_cmp o_gt (se_var 3) (se_int) rfl)
    (ss_cons (s_set (i := 6) sc.nd (se_bin o_div (se_var 2) (se_var 3)))
    (ss_one (s_asg (se_tup (sa_cons (se_var 3) (sa_cons (se_bin o_sub (se_var 2) (se_bin (o_mul (mu := false)) (se_var 6) (se_var 3))) (sa_cons (se_var 5) (sa_cons (se_bin o_sub (se_var 4) (se_bin (o_mul (mu := false)) (se_var 6) (se_var 5))) (sa_nil)))))) (sg_tup (sgs_cons (sg_name (i := 2) sc.nd) (sgs_cons (sg_name (i := 3) sc.nd) (sgs_cons (sg_name (i := 4) sc.nd) (sgs_cons (sg_name (i := 5) sc.nd) (sgs_nil))))))))))
    (ss_one (s_ret (se_bin o_mod (se_callTy c_int (f1 X G c) boot_int (sa_cons (se_var 4) (sa_nil))) (se_var 1)))))))

theorem sc_least_multiple : FnScope ["one", "other"] ["one", "other"] (defScope2 15 none) := ⟨rfl, rfl, rfl, by decide +kernel, rfl, by decide +kernel, by decide +kernel⟩

include X G c e su tb in
theorem ok_least_multiple : OkF PP w K mg bs 2 (He.fAd K ("least_multiple", none)) 2 d_least_multiple := by
  obtain ⟨fd, F⟩ := c.def_ 10 (d := dd_least_multiple) rfl
  exact OkF.seal (okF_def (N := ["one", "other"]) (ps := ["one", "other"]) (n := 2) (b := b_least_multiple) F sc_least_multiple rfl (fun _ _ _ _ _ _ us hl => match us, hl with | [_, _], _ => rfl)
    (fun zz cdv A outer s H E hcd hr tk po => have sc := sc_least_multiple;
    ss_one (s_ret (se_bin (o_mul (mu := false)) (se_bin o_div (se_var 0) (se_callO (ok_common X G c e bs su tb) hr (by decide) (f19 X G c) tk (sa_cons (se_var 0) (sa_cons (se_var 1) (sa_nil))))) (se_var 1)))))

theorem sc_common_hours : FnScope ["one", "other", "same", "less", "steps", "every"] ["one", "other"] (defScope2 19 none) := ⟨rfl, rfl, rfl, by decide +kernel, rfl, by decide +kernel, by decide +kernel⟩

include X G c e su tb in
theorem ok_common_hours : OkF PP w K mg bs 3 (He.fAd K ("common_hours", none)) 2 d_common_hours := by
  obtain ⟨fd, F⟩ := c.def_ 11 (d := dd_common_hours) rfl
  exact OkF.seal (okF_def (N := ["one", "other", "same", "less", "steps", "every"]) (ps := ["one", "other"]) (n := 2) (b := b_common_hours) F sc_common_hours rfl (fun _ _ _ _ _ _ us hl => match us, hl with | [_, _], _ => rfl)
    (fun zz cdv A outer s H E hcd hr tk po => have sc := sc_common_hours;
    ss_cons (s_set (i := 2) sc.nd (se_callO (ok_common X G c e bs su tb) hr (by decide) (f19 X G c) tk (sa_cons (se_ix i_seq (se_var 0) (se_int)) (sa_cons (se_ix i_seq (se_var 1) (se_int)) (sa_nil)))))
    (ss_cons (s_if (st_cmp (o_ne (room_u hr (by decide))) (se_bin o_mod (se_callTy c_int (f1 X G c) boot_int (sa_cons (se_bin o_sub (se_ix i_seq (se_var 1) (se_int)) (se_ix i_seq (se_var 0) (se_int))) (sa_nil))) (se_var 2)) (se_int) rfl)
    (ss_one (s_ret (se_non)))
    (ss_nil))
    (ss_cons (s_set (i := 3) sc.nd (se_bin o_div (se_ix i_seq (se_var 1) (se_int)) (se_var 2)))
    (ss_cons (s_set (i := 4) sc.nd (se_bin o_mod (se_callTy c_int (f1 X G c) boot_int (sa_cons (se_bin (o_mul (mu := false)) (se_bin o_div (se_bin o_sub (se_ix i_seq (se_var 1) (se_int)) (se_ix i_seq (se_var 0) (se_int))) (se_var 2)) (se_callO (ok_inverse X G c e bs su tb) hr (by decide) (f20 X G c) tk (sa_cons (se_bin o_div (se_ix i_seq (se_var 0) (se_int)) (se_var 2)) (sa_cons (se_var 3) (sa_nil))))) (sa_nil))) (se_var 3)))
    (ss_cons (s_set (i := 5) sc.nd (se_callO (ok_least_multiple X G c e bs su tb) hr (by decide) (f21 X G c) tk (sa_cons (se_ix i_seq (se_var 0) (se_int)) (sa_cons (se_ix i_seq (se_var 1) (se_int)) (sa_nil)))))
    (ss_one (s_ret (se_tup (sa_cons (se_var 5) (sa_cons (se_bin o_mod (se_callTy c_int (f1 X G c) boot_int (sa_cons (se_bin (o_add (mu := false)) (se_ix i_seq (se_var 0) (se_int)) (se_bin (o_mul (mu := false)) (se_ix i_seq (se_var 0) (se_int)) (se_var 4))) (sa_nil))) (se_var 5)) (sa_nil))))))))))))

theorem sc_all_of : FnScope ["pairs", "found", "pair"] ["pairs"] (defScope2 20 none) := ⟨rfl, rfl, rfl, by decide +kernel, rfl, by decide +kernel, by decide +kernel⟩

include X G c e su tb in
theorem ok_all_of : OkF PP w K mg bs 4 (He.fAd K ("all_of", none)) 1 d_all_of := by
  obtain ⟨fd, F⟩ := c.def_ 12 (d := dd_all_of) rfl
  exact OkF.seal (okF_def (N := ["pairs", "found", "pair"]) (ps := ["pairs"]) (n := 1) (b := b_all_of) F sc_all_of rfl (fun _ _ _ _ _ _ us hl => match us, hl with | [_], _ => rfl)
    (fun zz cdv A outer s H E hcd hr tk po => have sc := sc_all_of;
    ss_cons (s_set (i := 1) sc.nd (se_tup (sa_cons (se_int) (sa_cons (se_int) (sa_nil)))))
    (ss_cons (s_for po (si_each (se_var 0)) (sg_name (i := 2) sc.nd)
    (ss_one (s_set (i := 1) sc.nd (se_if (st_cmp o_is (se_var 1) (se_non) rfl) (se_non) (se_callO (ok_common_hours X G c e bs su tb) hr (by decide) (f22 X G c) tk (sa_cons (se_var 1) (sa_cons (se_var 2) (sa_nil))))))))
    (ss_one (s_ret (se_var 1))))))

theorem sc_Bells_size : FnScope ["self"] ["self"] (defScope2 12 (some "size")) := ⟨rfl, rfl, rfl, by decide +kernel, rfl, by decide +kernel, by decide +kernel⟩

include X G c e su tb in
theorem ok_Bells_size : OkF PP w K mg bs 1 (He.fAd K ("Bells", some "size")) 1 d_Bells_size := by
  obtain ⟨fd, F⟩ := c.def_ 13 (d := dd_Bells_size) rfl
  exact OkF.seal (okF_def (N := ["self"]) (ps := ["self"]) (n := 1) (b := b_Bells_size) F sc_Bells_size rfl (fun _ _ _ _ _ _ us hl => match us, hl with | [_], _ => rfl)
    (fun zz cdv A outer s H E hcd hr tk po => have sc := sc_Bells_size;
    ss_one (s_ret (se_callB c_len (f0 X G c) boot_len (sa_cons (se_fld (f15 c) (f16 c) (se_var 0)) (sa_nil))))))

theorem sc_check_flags : FnScope ["bells", "flags", "flag", "bell"] ["bells", "flags"] (defScope2 21 none) := ⟨rfl, rfl, rfl, by decide +kernel, rfl, by decide +kernel, by decide +kernel⟩

include X G c e su tb in
theorem ok_check_flags : OkF PP w K mg bs 3 (He.fAd K ("check_flags", none)) 2 d_check_flags := by
  obtain ⟨fd, F⟩ := c.def_ 14 (d := dd_check_flags) rfl
  exact OkF.seal (okF_def (N := ["bells", "flags", "flag", "bell"]) (ps := ["bells", "flags"]) (n := 2) (b := b_check_flags) F sc_check_flags rfl (fun _ _ _ _ _ _ us hl => match us, hl with | [_, _], _ => rfl)
    (fun zz cdv A outer s H E hcd hr tk po => have sc := sc_check_flags;
    ss_cons (s_if ((sw_or (st_not (st_val (se_isi (isB c e "dict") (f4 X G c) (se_var 1) (pe_tyN (T := "dict") (f23 X G c) (by decide +kernel)) (.ty "dict")))) (sw_or1 (st_not (st_val (se_callB c_all (f18 X G c) boot_all (sa_cons (se_lc false [("bell", 3)] sc.nd (si_keysO (se_var 1)) (blkOk_by (by rfl)) (fun _ _ _ _ _ _ => gw_name (i := 3) sc.nd) (fun _ _ _ _ _ _ => sts_nil) (fun _ _ _ _ _ _ => se_callO (ok_is_below X G c e bs su tb) hr (by decide) (f9 X G c) (takes0 _) (sa_cons (se_var 3) (sa_cons (se_methO0 (f15 c) (f24 c) (ok_Bells_size X G c e bs su tb) hr (by decide) (takes0 _) (se_var 0)) (sa_nil))))) (sa_nil))))))).pt)
    (ss_one (s_raise0 (f25 c) (f26 X G c) tk))
    (ss_nil))
    (ss_one (s_if (st_not (st_val (se_callB c_all (f18 X G c) boot_all (sa_cons (se_lc false [("flag", 2)] sc.nd (si_valsD (se_var 1)) (blkOk_by (by rfl)) (fun _ _ _ _ _ _ => gw_name (i := 2) sc.nd) (fun _ _ _ _ _ _ => sts_nil) (fun _ _ _ _ _ _ => se_isi (isB c e "bool") (f4 X G c) (se_var 2) (pe_tyN (T := "bool") (f5 X G c) (by decide +kernel)) (.ty "bool"))) (sa_nil)))))
    (ss_one (s_raise0 (f25 c) (f26 X G c) tk))
    (ss_nil)))))

theorem sc_doubled : FnScope ["many", "found", "one"] ["many"] (defScope2 16 none) := ⟨rfl, rfl, rfl, by decide +kernel, rfl, by decide +kernel, by decide +kernel⟩

include X G c e su tb in
theorem ok_doubled : OkF PP w K mg bs 1 (He.fAd K ("doubled", none)) 1 d_doubled := by
  obtain ⟨fd, F⟩ := c.def_ 15 (d := dd_doubled) rfl
  exact OkF.seal (okF_def (N := ["many", "found", "one"]) (ps := ["many"]) (n := 1) (b := b_doubled) F sc_doubled rfl (fun _ _ _ _ _ _ us hl => match us, hl with | [_], _ => rfl)
    (fun zz cdv A outer s H E hcd hr tk po => have sc := sc_doubled;
    ss_cons (s_set (i := 1) sc.nd (se_int))
    (ss_cons (s_for po (si_rng1 (f27 X G c) (sa_cons (se_var 0) (sa_nil))) (sg_name (i := 2) sc.nd)
    (ss_one (s_aug (i := 1) sc.nd o_addII (se_var 1))))
    (ss_one (s_ret (se_var 1))))))

theorem sc_rings : FnScope ["pair", "hour"] ["pair", "hour"] (defScope2 13 none) := ⟨rfl, rfl, rfl, by decide +kernel, rfl, by decide +kernel, by decide +kernel⟩

include X G c e su tb in
theorem ok_rings : OkF PP w K mg bs 1 (He.fAd K ("rings", none)) 2 d_rings := by
  obtain ⟨fd, F⟩ := c.def_ 16 (d := dd_rings) rfl
  exact OkF.seal (okF_def (N := ["pair", "hour"]) (ps := ["pair", "hour"]) (n := 2) (b := b_rings) F sc_rings rfl (fun _ _ _ _ _ _ us hl => match us, hl with | [_, _], _ => rfl)
    (fun zz cdv A outer s H E hcd hr tk po => have sc := sc_rings;
    ss_one (s_ret (se_cmp (o_eq (room_u hr (by decide))) (se_bin o_mod (se_callTy c_int (f1 X G c) boot_int (sa_cons (se_var 1) (sa_nil))) (se_ix i_seq (se_var 0) (se_int))) (se_ix i_seq (se_var 0) (se_int)) rfl))))

theorem sc_setting : FnScope ["bells", "flags", "told", "silent", "step", "hour", "bell", "pair"] ["bells", "flags"] (defScope2 22 none) := ⟨rfl, rfl, rfl, by decide +kernel, rfl, by decide +kernel, by decide +kernel⟩

include X G c e su tb in
theorem ok_setting : OkF PP w K mg bs 5 (He.fAd K ("setting", none)) 2 d_setting := by
  obtain ⟨fd, F⟩ := c.def_ 17 (d := dd_setting) rfl
  exact OkF.seal (okF_def (N := ["bells", "flags", "told", "silent", "step", "hour", "bell", "pair"]) (ps := ["bells", "flags"]) (n := 2) (b := b_setting) F sc_setting rfl (fun _ _ _ _ _ _ us hl => match us, hl with | [_, _], _ => rfl)
    (fun zz cdv A outer s H E hcd hr tk po => have sc := sc_setting;
    ss_cons (s_expr (se_callO (ok_check_flags X G c e bs su tb) hr (by decide) (f28 X G c) tk (sa_cons (se_var 0) (sa_cons (se_var 1) (sa_nil)))))
    (ss_cons (s_set (i := 2) sc.nd (se_callO (ok_all_of X G c e bs su tb) hr (by decide) (f30 X G c) tk (sa_cons (se_lc false [("bell", 6)] sc.nd (si_each (se_callB (c_sortedDI (mu := false)) (f29 X G c) boot_sorted (sa_cons (se_var 1) (sa_nil)))) (blkOk_by (by rfl)) (fun _ _ _ _ _ _ => gw_name (i := 6) sc.nd) (fun _ _ _ _ _ _ => sts_one (st_val (se_ix (i_dic hr) (se_var 1) (se_var 6)))) (fun _ _ _ _ _ _ => se_ix i_seq (se_fld (f15 c) (f16 c) (se_var 0)) (se_var 6))) (sa_nil))))
    (ss_cons (s_setLc (i := 3) false [("bell", 6)] sc.nd (si_each (se_callB (c_sortedDI (mu := false)) (f29 X G c) boot_sorted (sa_cons (se_var 1) (sa_nil)))) (blkOk_by (by rfl)) (fun _ _ _ _ _ _ => gw_name (i := 6) sc.nd) (fun _ _ _ _ _ _ => sts_one (st_not (st_val (se_ix (i_dic hr) (se_var 1) (se_var 6))))) (fun _ _ _ _ _ _ => se_ix i_seq (se_fld (f15 c) (f16 c) (se_var 0)) (se_var 6)))
    (ss_cons (s_if (st_cmp o_is (se_var 2) (se_non) rfl)
    (ss_one (s_ret (se_non)))
    (ss_nil))
    (ss_cons (s_for po (si_rng1 (f27 X G c) (sa_cons (se_callO (ok_doubled X G c e bs su tb) hr (by decide) (f31 X G c) tk (sa_cons (se_callB c_len (f0 X G c) boot_len (sa_cons (se_var 3) (sa_nil))) (sa_nil))) (sa_nil))) (sg_name (i := 4) sc.nd)
    (ss_cons (s_set (i := 5) sc.nd (se_bin (o_add (mu := false)) (se_ix i_seq (se_var 2) (se_int)) (se_bin (o_mul (mu := false)) (se_ix i_seq (se_var 2) (se_int)) (se_var 4))))
    (ss_one (s_if (st_not (st_val (se_callB c_any (f33 X G c) boot_any (sa_cons (se_lc false [("pair", 7)] sc.nd (si_each (se_var 3)) (blkOk_by (by rfl)) (fun _ _ _ _ _ _ => gw_name (i := 7) sc.nd) (fun _ _ _ _ _ _ => sts_nil) (fun _ _ _ _ _ _ => se_callO (ok_rings X G c e bs su tb) hr (by decide) (f32 X G c) (takes0 _) (sa_cons (se_var 7) (sa_cons (se_var 5) (sa_nil))))) (sa_nil)))))
    (ss_one (s_ret (se_var 5)))
    (ss_nil)))))
    (ss_one (s_ret (se_non)))))))))

theorem sc__law_great_right : FnScope ["bag", "lap", "flags", "bell", "rest", "pairs", "every", "hour", "step", "one", "at"] ["bag"] (defScope2 30 none) := ⟨rfl, rfl, rfl, by decide +kernel, rfl, by decide +kernel, by decide +kernel⟩

include X G c e su tb in
theorem ok__law_great_right : OkF PP w K mg bs 7 (He.fAd K ("_law_great_right", none)) 1 d__law_great_right := by
  obtain ⟨fd, F⟩ := c.def_ 18 (d := dd__law_great_right) rfl
  exact OkF.seal (okF_def (N := ["bag", "lap", "flags", "bell", "rest", "pairs", "every", "hour", "step", "one", "at"]) (ps := ["bag"]) (n := 1) (b := b__law_great_right) F sc__law_great_right rfl (fun _ _ _ _ _ _ us hl => match us, hl with | [_], _ => rfl)
    (fun zz cdv A outer s H E hcd hr tk po => have sc := sc__law_great_right;
    ss_fz2 (s_asg (se_tup (sa_cons (se_lst (mu := true) (sa_cons (se_int) (sa_cons (se_int) (sa_cons (se_int) (sa_cons (se_int) (sa_cons (se_int) (sa_cons (se_int) (sa_cons (se_int) (sa_cons (se_int) (sa_cons (se_int) (sa_cons (se_int) (sa_cons (se_int) (sa_cons (se_int) (sa_cons (se_int) (sa_cons (se_int) (sa_cons (se_int) (sa_cons (se_int) (sa_nil)))))))))))))))))) (sa_cons (se_lst (mu := true) (sa_nil)) (sa_nil)))) (sg_tup (sgs_cons (sg_name (i := 4) sc.nd) (sgs_cons (sg_name (i := 5) sc.nd) (sgs_nil))))) (s_for po (si_rng1 (f27 X G c) (sa_cons (se_bin (o_add (mu := false)) (se_int) (se_callO (ok__law_pick X G c e bs su tb) hr (by decide) (f34 X G c) tk (sa_cons (se_var 0) (sa_cons (se_int) (sa_nil))))) (sa_nil))) (sg_name (i := 1) sc.nd)
    (ss_cons (s_set (i := 6) sc.nd (se_mb PySem.F.plainAttrs_list PySem.F.slot_list_pop PySem.F.type_list_pop m_popAt (se_var 4) (sa_cons (se_callO (ok__law_pick X G c e bs su tb) hr (by decide) (f34 X G c) tk (sa_cons (se_var 0) (sa_cons (se_callB c_len (f0 X G c) boot_len (sa_cons (se_var 4) (sa_nil))) (sa_nil)))) (sa_nil))))
    (ss_one (s_expr (se_mb PySem.F.plainAttrs_list PySem.F.slot_list_append PySem.F.type_list_append m_append (se_var 5) (sa_cons (se_tup (sa_cons (se_var 6) (sa_cons (se_callO (ok__law_pick X G c e bs su tb) hr (by decide) (f34 X G c) tk (sa_cons (se_var 0) (sa_cons (se_var 6) (sa_nil)))) (sa_nil)))) (sa_nil)))))))
    (ss_fz5 (s_set (i := 2) sc.nd (se_dic0 (mu := true))) (s_for po (si_rng1 (f27 X G c) (sa_cons (se_callB c_len (f0 X G c) boot_len (sa_cons (se_var 5) (sa_nil))) (sa_nil))) (sg_name (i := 3) sc.nd)
    (ss_one (s_if (st_cmp o_gt (se_callO (ok__law_pick X G c e bs su tb) hr (by decide) (f34 X G c) tk (sa_cons (se_var 0) (sa_cons (se_int) (sa_nil)))) (se_int) rfl)
    (ss_one (s_sub (t_dict hr) (se_cmp o_gt (se_callO (ok__law_pick X G c e bs su tb) hr (by decide) (f34 X G c) tk (sa_cons (se_var 0) (sa_cons (se_int) (sa_nil)))) (se_int) rfl) (se_var 2) (se_var 3)))
    (ss_nil)))) (s_asg (se_tup (sa_cons (se_int) (sa_cons (se_int) (sa_nil)))) (sg_tup (sgs_cons (sg_name (i := 7) sc.nd) (sgs_cons (sg_name (i := 8) sc.nd) (sgs_nil))))) (s_for po (si_seq (se_lc false [("one", 9)] sc.nd (si_each (se_callB (c_sortedDI (mu := false)) (f29 X G c) boot_sorted (sa_cons (se_var 2) (sa_nil)))) (blkOk_by (by rfl)) (fun _ _ _ _ _ _ => gw_name (i := 9) sc.nd) (fun _ _ _ _ _ _ => sts_one ((sw_and (st_val (se_ix (i_dic hr) (se_var 2) (se_var 9))) (sw_and1 (st_cmp o_ltI (se_ix i_seq (se_ix i_seq (se_var 5) (se_var 9)) (se_int)) (se_int) rfl))).pt)) (fun _ _ _ _ _ _ => se_var 9))) (sg_name (i := 3) sc.nd)
    (ss_cons (s_asg (se_ix i_seq (se_var 5) (se_var 3)) (sg_tup (sgs_cons (sg_name (i := 6) sc.nd) (sgs_cons (sg_name (i := 10) sc.nd) (sgs_nil)))))
    (ss_cons (s_while po (st_cmp (o_ne (room_u hr (by decide))) (se_bin o_mod (se_callTy c_int (f1 X G c) boot_int (sa_cons (se_bin o_sub (se_var 7) (se_var 10)) (sa_nil))) (se_var 6)) (se_int) rfl)
    (ss_one (s_set (i := 7) sc.nd (se_bin (o_add (mu := false)) (se_var 7) (se_var 8)))))
    (ss_one (s_set (i := 8) sc.nd (se_bin (o_mul (mu := false)) (se_var 8) (se_var 6))))))) (s_for po (si_seq (se_lc false [("one", 9)] sc.nd (si_each (se_callB (c_sortedDI (mu := false)) (f29 X G c) boot_sorted (sa_cons (se_var 2) (sa_nil)))) (blkOk_by (by rfl)) (fun _ _ _ _ _ _ => gw_name (i := 9) sc.nd) (fun _ _ _ _ _ _ => sts_one ((sw_and (st_val (se_ix (i_dic hr) (se_var 2) (se_var 9))) (sw_and1 (st_cmp o_gt (se_ix i_seq (se_ix i_seq (se_var 5) (se_var 9)) (se_int)) (se_int) rfl))).pt)) (fun _ _ _ _ _ _ => se_var 9))) (sg_name (i := 3) sc.nd)
    (ss_one (s_expr (se_mb PySem.F.plainAttrs_dict PySem.F.slot_dict_pop PySem.F.type_dict_pop m_popDk (se_var 2) (sa_cons (se_var 3) (sa_nil))))))
    (ss_cons (s_while po (st_not (st_val (se_callO (ok__law_agrees X G c e bs su tb) hr (by decide) (f35 X G c) tk (sa_cons (se_var 5) (sa_cons (se_var 2) (sa_cons (se_var 7) (sa_nil)))))))
    (ss_one (s_set (i := 7) sc.nd (se_bin (o_add (mu := false)) (se_var 7) (se_var 8)))))
    (ss_one (s_ret (se_cmp (o_eq (room_u hr (by decide))) (se_callO (ok_setting X G c e bs su tb) hr (by decide) (f38 X G c) tk (sa_cons (se_seal (se_makeO (f36 c) (ok_Bells_init X G c e bs su tb) hr (by decide) (f37 X G c) tk (sa_cons (se_callTy c_tuple (f7 X G c) boot_tuple (sa_cons (se_var 5) (sa_nil))) (sa_nil)))) (sa_cons (se_var 2) (sa_nil)))) (se_var 7) rfl)))))))

theorem sc__law_is_refused : FnScope ["bells", "thing", "found", "error"] ["bells", "thing"] (defScope2 31 none) := ⟨rfl, rfl, rfl, by decide +kernel, rfl, by decide +kernel, by decide +kernel⟩

include X G c e su tb in
theorem ok__law_is_refused : OkF PP w K mg bs 6 (He.fAd K ("_law_is_refused", none)) 2 d__law_is_refused := by
  obtain ⟨fd, F⟩ := c.def_ 19 (d := dd__law_is_refused) rfl
  exact OkF.seal (okF_def (N := ["bells", "thing", "found", "error"]) (ps := ["bells", "thing"]) (n := 2) (b := b__law_is_refused) F sc__law_is_refused rfl (fun _ _ _ _ _ _ us hl => match us, hl with | [_, _], _ => rfl)
    (fun zz cdv A outer s H E hcd hr tk po => have sc := sc__law_is_refused;
    ss_cons (s_set (i := 2) sc.nd (se_bl))
    (ss_cons (s_try_fst rfl rfl sc.nd ⟨rfl, by decide, .inl (f26 X G c)⟩ (exB_m (exb e) (by decide)) (fun W pn xe tk po => ss_one (s_expr (se_callO (ok_setting X G c e bs su tb) hr (by decide) (f38 X G c) tk (sa_cons (se_var 0) (sa_cons (se_var 1) (sa_nil))))))
    (fun a oe y cv d pn hy0 hcv hz hv => have hy := (mtF_some hy0).2; ss_one (s_set (i := 2) sc.nd (se_isXv (exb e) hy hcv hz hv (f4 X G c) (se_var 3) (f39 X G c)))))
    (ss_one (s_ret (se_var 2))))))

theorem sc__law_some : FnScope ["bag", "rows"] ["bag", "rows"] (defScope2 26 none) := ⟨rfl, rfl, rfl, by decide +kernel, rfl, by decide +kernel, by decide +kernel⟩

include X G c e su tb in
theorem ok__law_some : OkF PP w K mg bs 2 (He.fAd K ("_law_some", none)) 2 d__law_some := by
  obtain ⟨fd, F⟩ := c.def_ 20 (d := dd__law_some) rfl
  exact OkF.seal (okF_def (N := ["bag", "rows"]) (ps := ["bag", "rows"]) (n := 2) (b := b__law_some) F sc__law_some rfl (fun _ _ _ _ _ _ us hl => match us, hl with | [_, _], _ => rfl)
    (fun zz cdv A outer s H E hcd hr tk po => have sc := sc__law_some;
    ss_one (s_ret (se_ix i_seq (se_var 1) (se_callO (ok__law_pick X G c e bs su tb) hr (by decide) (f34 X G c) tk (sa_cons (se_var 0) (sa_cons (se_callB c_len (f0 X G c) boot_len (sa_cons (se_var 1) (sa_nil))) (sa_nil))))))))

theorem sc__law_refused_right : FnScope ["bag", "lap", "odd", "bells", "deep", "thing"] ["bag"] (defScope2 32 none) := ⟨rfl, rfl, rfl, by decide +kernel, rfl, by decide +kernel, by decide +kernel⟩

include X G c e su tb in
theorem ok__law_refused_right : OkF PP w K mg bs 7 (He.fAd K ("_law_refused_right", none)) 1 d__law_refused_right := by
  obtain ⟨fd, F⟩ := c.def_ 21 (d := dd__law_refused_right) rfl
  exact OkF.seal (okF_def (N := ["bag", "lap", "odd", "bells", "deep", "thing"]) (ps := ["bag"]) (n := 1) (b := b__law_refused_right) F sc__law_refused_right rfl (fun _ _ _ _ _ _ us hl => match us, hl with | [_], _ => rfl)
    (fun zz cdv A outer s H E hcd hr tk po => have sc := sc__law_refused_right;
    ss_cons (s_asg (se_tup (sa_cons (se_seal (se_makeO (f36 c) (ok_Bells_init X G c e bs su tb) hr (by decide) (f37 X G c) tk (sa_cons (se_tup (sa_cons (se_tup (sa_cons (se_int) (sa_cons (se_int) (sa_nil)))) (sa_cons (se_tup (sa_cons (se_int) (sa_cons (se_int) (sa_nil)))) (sa_cons (se_tup (sa_cons (se_int) (sa_cons (se_int) (sa_nil)))) (sa_nil))))) (sa_nil)))) (sa_cons (se_str) (sa_nil)))) (sg_tup (sgs_cons (sg_name (i := 3) sc.nd) (sgs_cons (sg_name (i := 4) sc.nd) (sgs_nil)))))
    (ss_cons (s_for po (si_rng1 (f27 X G c) (sa_cons (se_callO (ok__law_pick X G c e bs su tb) hr (by decide) (f34 X G c) tk (sa_cons (se_var 0) (sa_cons (se_int) (sa_nil)))) (sa_nil))) (sg_name (i := 1) sc.nd)
    (ss_one (s_set (i := 4) sc.nd (se_callO (ok__law_some X G c e bs su tb) hr (by decide) (f40 X G c) tk (sa_cons (se_var 0) (sa_cons (se_lst (mu := false) (sa_cons (se_tup (sa_cons (se_var 4) (sa_nil))) (sa_cons (se_lst (mu := false) (sa_cons (se_var 4) (sa_nil))) (sa_cons (se_dic1 pe_str (fun _ => se_var 4)) (sa_nil))))) (sa_nil)))))))
    (ss_cons (s_set (i := 2) sc.nd (se_lst (mu := false) (sa_cons (se_non) (sa_cons (se_tup (sa_nil)) (sa_cons (se_lst (mu := false) (sa_nil)) (sa_cons (se_int) (sa_cons (se_str) (sa_cons (se_bl) (sa_cons (se_lst (mu := false) (sa_cons (se_bl) (sa_nil))) (sa_cons (se_tup (sa_cons (se_tup (sa_cons (se_int) (sa_cons (se_bl) (sa_nil)))) (sa_nil))) (sa_cons (se_var 4) (sa_cons (se_dic1 pe_int (fun _ => se_bl)) (sa_cons (se_dicE (fun zz => se_un o_neg (se_int)) (fun zz => se_bl)) (sa_cons (se_dic1 pe_str (fun _ => se_bl)) (sa_cons (se_dic1 pe_int (fun _ => se_int)) (sa_nil))))))))))))))))
    (ss_cons (s_set (i := 2) sc.nd (se_bin (o_add (mu := false)) (se_var 2) (se_lst (mu := false) (sa_cons (se_dic1 pe_int (fun _ => se_non)) (sa_cons (se_dicC (ks := [.inl 0, .inl 1]) (ds := [.bl true, .int (0)]) (vs := [.bl true, .int (0)]) (pps_cons pe_int pe_bl (pps_cons pe_int pe_int (pps_nil))) rfl (by rfl) (fun _ _ _ => .cons (.bl _) (.cons (.int _) (.nil))) rfl rfl (by simp) (by decide) (by decide)) (sa_cons (se_oddB pe_bl pe_bl) (sa_cons (se_oddN pe_non pe_bl) (sa_cons (se_oddT hr pe_int pe_bl) (sa_cons (se_dicC (ks := [.inl 0, .inl 7]) (ds := [.bl true, .bl true]) (vs := [.bl true, .bl true]) (pps_cons pe_int pe_bl (pps_cons pe_int pe_bl (pps_nil))) rfl (by rfl) (fun _ _ _ => .cons (.bl _) (.cons (.bl _) (.nil))) rfl rfl (by simp) (by decide) (by decide)) (sa_nil))))))))))
    (ss_cons (s_set (i := 2) sc.nd (se_bin (o_add (mu := false)) (se_var 2) (se_lst (mu := false) (sa_cons (se_dic1 pe_int (fun _ => se_var 4)) (sa_cons (se_dic1 pe_int (fun _ => se_str)) (sa_cons (se_var 3) (sa_nil)))))))
    (ss_cons (s_if (st_not (st_val (se_callB c_all (f18 X G c) boot_all (sa_cons (se_lc false [("thing", 5)] sc.nd (si_each (se_var 2)) (blkOk_by (by rfl)) (fun _ _ _ _ _ _ => gw_name (i := 5) sc.nd) (fun _ _ _ _ _ _ => sts_nil) (fun _ _ _ _ _ _ => se_callO (ok__law_is_refused X G c e bs su tb) hr (by decide) (f41 X G c) (takes0 _) (sa_cons (se_var 3) (sa_cons (se_var 5) (sa_nil))))) (sa_nil)))))
    (ss_one (s_ret (se_bl)))
    (ss_nil))
    (ss_one (s_ret (se_and (se_cmp (o_eq (room_u hr (by decide))) (se_callO (ok_setting X G c e bs su tb) hr (by decide) (f38 X G c) tk (sa_cons (se_var 3) (sa_cons (se_dic0 (mu := false)) (sa_nil)))) (se_int) rfl) (se_one (se_cmp (o_eq (room_u hr (by decide))) (se_callO (ok_setting X G c e bs su tb) hr (by decide) (f38 X G c) tk (sa_cons (se_var 3) (sa_cons (se_dicC (ks := [.inl 0, .inl 1, .inl 2]) (ds := [.bl true, .bl true, .bl true]) (vs := [.bl true, .bl true, .bl true]) (pps_cons pe_int pe_bl (pps_cons pe_int pe_bl (pps_cons pe_int pe_bl (pps_nil)))) rfl (by rfl) (fun _ _ _ => .cons (.bl _) (.cons (.bl _) (.cons (.bl _) (.nil)))) rfl rfl (by simp) (by decide) (by decide)) (sa_nil)))) (se_int) rfl))))))))))))

theorem sc__law_round : FnScope ["pairs", "found", "every", "at", "step"] ["pairs"] (defScope2 28 none) := ⟨rfl, rfl, rfl, by decide +kernel, rfl, by decide +kernel, by decide +kernel⟩

include X G c e su tb in
theorem ok__law_round : OkF PP w K mg bs 1 (He.fAd K ("_law_round", none)) 1 d__law_round := by
  obtain ⟨fd, F⟩ := c.def_ 22 (d := dd__law_round) rfl
  exact OkF.seal (okF_def (N := ["pairs", "found", "every", "at", "step"]) (ps := ["pairs"]) (n := 1) (b := b__law_round) F sc__law_round rfl (fun _ _ _ _ _ _ us hl => match us, hl with | [_], _ => rfl)
    (fun zz cdv A outer s H E hcd hr tk po => have sc := sc__law_round;
    ss_cons (s_set (i := 1) sc.nd (se_int))
    (ss_cons (s_for po (si_each (se_var 0)) (sg_tup (sgs_cons (sg_name (i := 2) sc.nd) (sgs_cons (sg_name (i := 3) sc.nd) (sgs_nil))))
    (ss_cons (s_set (i := 4) sc.nd (se_var 1))
    (ss_one (s_while po (st_cmp (o_ne (room_u hr (by decide))) (se_bin o_mod (se_callTy c_int (f1 X G c) boot_int (sa_cons (se_var 1) (sa_nil))) (se_var 2)) (se_int) rfl)
    (ss_one (s_set (i := 1) sc.nd (se_bin (o_add (mu := false)) (se_var 1) (se_var 4))))))))
    (ss_one (s_ret (se_var 1))))))

theorem sc__law_small_right : FnScope ["bag", "pairs", "lap", "every", "bells", "whole", "flags", "bell", "some", "kept", "hour"] ["bag"] (defScope2 29 none) := ⟨rfl, rfl, rfl, by decide +kernel, rfl, by decide +kernel, by decide +kernel⟩

include X G c e su tb in
theorem ok__law_small_right : OkF PP w K mg bs 7 (He.fAd K ("_law_small_right", none)) 1 d__law_small_right := by
  obtain ⟨fd, F⟩ := c.def_ 23 (d := dd__law_small_right) rfl
  exact OkF.seal (okF_def (N := ["bag", "pairs", "lap", "every", "bells", "whole", "flags", "bell", "some", "kept", "hour"]) (ps := ["bag"]) (n := 1) (b := b__law_small_right) F sc__law_small_right rfl (fun _ _ _ _ _ _ us hl => match us, hl with | [_], _ => rfl)
    (fun zz cdv A outer s H E hcd hr tk po => have sc := sc__law_small_right;
    ss_fz2 (s_set (i := 1) sc.nd (se_lst (mu := true) (sa_nil))) (s_for po (si_rng1 (f27 X G c) (sa_cons (se_callO (ok__law_pick X G c e bs su tb) hr (by decide) (f34 X G c) tk (sa_cons (se_var 0) (sa_cons (se_int) (sa_nil)))) (sa_nil))) (sg_name (i := 2) sc.nd)
    (ss_cons (s_set (i := 3) sc.nd (se_callO (ok__law_some X G c e bs su tb) hr (by decide) (f40 X G c) tk (sa_cons (se_var 0) (sa_cons (se_lst (mu := false) (sa_cons (se_int) (sa_cons (se_int) (sa_cons (se_int) (sa_cons (se_int) (sa_cons (se_int) (sa_cons (se_int) (sa_cons (se_int) (sa_cons (se_int) (sa_nil)))))))))) (sa_nil)))))
    (ss_one (s_expr (se_mb PySem.F.plainAttrs_list PySem.F.slot_list_append PySem.F.type_list_append m_append (se_var 1) (sa_cons (se_tup (sa_cons (se_var 3) (sa_cons (se_callO (ok__law_pick X G c e bs su tb) hr (by decide) (f34 X G c) tk (sa_cons (se_var 0) (sa_cons (se_var 3) (sa_nil)))) (sa_nil)))) (sa_nil)))))))
    (ss_cons (s_par (i := 4) (j := 5) sc.nd (sa_cons (se_seal (se_makeO (f36 c) (ok_Bells_init X G c e bs su tb) hr (by decide) (f37 X G c) tk (sa_cons (se_callTy c_tuple (f7 X G c) boot_tuple (sa_cons (se_var 1) (sa_nil))) (sa_nil)))) (sa_cons (se_callO (ok__law_round X G c e bs su tb) hr (by decide) (f42 X G c) tk (sa_cons (se_var 1) (sa_nil))) (sa_nil))))
    (ss_cons (s_for po (si_rng1 (f27 X G c) (sa_cons (se_int) (sa_nil))) (sg_name (i := 2) sc.nd)
    (ss_fz2 (s_set (i := 6) sc.nd (se_dic0 (mu := true))) (s_for po (si_rng1 (f27 X G c) (sa_cons (se_callB c_len (f0 X G c) boot_len (sa_cons (se_var 1) (sa_nil))) (sa_nil))) (sg_name (i := 7) sc.nd)
    (ss_one (s_if (st_cmp o_gt (se_callO (ok__law_pick X G c e bs su tb) hr (by decide) (f34 X G c) tk (sa_cons (se_var 0) (sa_cons (se_int) (sa_nil)))) (se_int) rfl)
    (ss_one (s_sub (t_dict hr) (se_cmp (o_eq (room_u hr (by decide))) (se_callO (ok__law_pick X G c e bs su tb) hr (by decide) (f34 X G c) tk (sa_cons (se_var 0) (sa_cons (se_callO (ok__law_some X G c e bs su tb) hr (by decide) (f40 X G c) tk (sa_cons (se_var 0) (sa_cons (se_lst (mu := false) (sa_cons (se_int) (sa_cons (se_int) (sa_nil)))) (sa_nil)))) (sa_nil)))) (se_int) rfl) (se_var 6) (se_var 7)))
    (ss_nil))))
    (ss_cons (s_setLc (i := 8) false [("hour", 10)] sc.nd (si_rng1 (f27 X G c) (sa_cons (se_var 5) (sa_nil))) (blkOk_by (by rfl)) (fun _ _ _ _ _ _ => gw_name (i := 10) sc.nd) (fun _ _ _ _ _ _ => sts_one (st_val (se_callO (ok__law_agrees X G c e bs su tb) hr (by decide) (f35 X G c) (takes0 _) (sa_cons (se_var 1) (sa_cons (se_var 6) (sa_cons (se_var 10) (sa_nil))))))) (fun _ _ _ _ _ _ => se_var 10))
    (ss_cons (s_set (i := 9) sc.nd (se_callTy (c_dict (mu := false)) (f23 X G c) (by decide +kernel) (sa_cons (se_var 6) (sa_nil))))
    (ss_one (s_if ((sw_or (st_cmp (o_ne (room_u hr (by decide))) (se_callO (ok_setting X G c e bs su tb) hr (by decide) (f38 X G c) tk (sa_cons (se_var 4) (sa_cons (se_var 6) (sa_nil)))) (se_ix i_seq (se_bin (o_add (mu := false)) (se_var 8) (se_lst (mu := false) (sa_cons (se_non) (sa_nil)))) (se_int)) rfl) (sw_or1 (st_cmp (o_neDc hr) (se_var 6) (se_var 9) rfl))).pt)
    (ss_one (s_ret (se_bl)))
    (ss_nil)))))))
    (ss_one (s_ret (se_bl)))))))

theorem sc_law : FnScope ["script", "bag"] ["script"] (defScope2 33 none) := ⟨rfl, rfl, rfl, by decide +kernel, rfl, by decide +kernel, by decide +kernel⟩

include X G c e su tb in
theorem fo_law {fd : FuncData} (F : FunD K dd_law.name dd_law.qual dd_law.params dd_law.body dd_law.scope [] [] (He.fAd K ("law", none)) fd) : FnG PP w K mg bs (L2.CX PP w) 8 (He.fAd K ("law", none)) fd ["script"] (spF K 1 d_law) :=
  ok_seal (ok_def (N := ["script", "bag"]) (ps := ["script"]) (b := b_law) F sc_law
    (fun zz cdv A outer s H E hcd hr tk po => have sc := sc_law;
    ss_cons (s_set (i := 1) sc.nd (se_callO (ok__law_bag X G c e bs su tb) hr (by decide) (f43 X G c) tk (sa_cons (se_var 0) (sa_nil))))
    (ss_cons (s_if ((sw_or (st_not (st_val (se_callO (ok__law_small_right X G c e bs su tb) hr (by decide) (f44 X G c) tk (sa_cons (se_var 1) (sa_nil))))) (sw_or1 (st_not (st_val (se_callO (ok__law_small_right X G c e bs su tb) hr (by decide) (f44 X G c) tk (sa_cons (se_var 1) (sa_nil))))))).pt)
    (ss_one (s_ret (se_bl)))
    (ss_nil))
    (ss_one (s_ret (se_and (se_callO (ok__law_great_right X G c e bs su tb) hr (by decide) (f45 X G c) tk (sa_cons (se_var 1) (sa_nil))) (se_one (se_callO (ok__law_refused_right X G c e bs su tb) hr (by decide) (f46 X G c) tk (sa_cons (se_var 1) (sa_nil))))))))))

end
abbrev R : PySem.W.OpenRow := PySem.W.OpenLaw.row PySem.Challenge.rw_quiethour_k09_whole_settings
abbrev hk : PySem.W.Hook := QS.hookQ PP.main.file 4 fa fn sus tf ex
def ob (s : PySem.W.SharedT) : QS.AlQ := QS.obsQ PP.main.file 4 fa fn sus tf ex (HandSHeadRun.getT s)
theorem ob_eq (s : PySem.W.SharedT) : ob s = hk.obs s.abs := QS.obsQ_eq (HandSHeadRun.getT_eq s)
abbrev loose : List Str := (["is_integer", "is_below", "BellError", "BadBells", "NoFlags", "MOST", "MOST_EVERY", "is_pair", "first_bad", "Bells", "rings", "common"] : List Str) ++ (["least_multiple", "doubled", "inverse", "common_hours", "all_of", "check_flags", "setting", "_law_bag", "_law_pick", "_law_some", "_law_agrees", "_law_round"] : List Str) ++ (["_law_small_right", "_law_great_right", "_law_is_refused", "_law_refused_right"] : List Str)
theorem run (w : World) : HandSHeadRun.RunEq R (PySem.W.view R.prog [33]) hk ob 4000 loose w := by
  intro os
  kernel_rfl
end QS.K09
open PySem PySem.W PySem.Calls PyProof.Rows
theorem QS.K09.holds (hlaw : ∀ ns : List Int, ns.length ≤ 63 → ∃ s, QS.K09.d_law [.scr (ns.map QS.D.int)] [] = .ok (.bl true) s) : PySem.Challenge.rw_quiethour_k09_whole_settings.Holds := by
  w_on; o_law
  refine HandSHeadRun.head_any (r := OpenLaw.row PySem.Challenge.rw_quiethour_k09_whole_settings) (q := view (OpenLaw.row PySem.Challenge.rw_quiethour_k09_whole_settings).prog [33]) (H := QS.K09.hk) (ob := QS.K09.ob) (M := 4000) (loose := QS.K09.loose) (d := HandSHeadRun.topDef (OpenLaw.row PySem.Challenge.rw_quiethour_k09_whole_settings).prog 33) (kwd := []) QS.K09.ob_eq
    (by kernel_rfl) (fun s => by kernel_rfl) QS.K09.run (by kernel_rfl) (by kernel_rfl) (by kernel_rfl) (by rfl) (by first | assumption | decide +kernel) (by decide +kernel) ⟨rfl, rfl, rfl, rfl, rfl, by decide +kernel⟩ ?hw ?hc
  case hw => w_witness2
  case hc =>
    refine QS.walk_end (l := PySem.Challenge.rw_quiethour_k09_whole_settings) (n := 63) (k := 8) (x := "script") (F := QS.K09.d_law) rfl (by decide) (by kernel_rfl) ⟨⟨rfl, by decide, by decide⟩, rfl⟩ ?F hlaw
    intro w mg fa h Y G hmg0
    obtain ⟨K, KX, z⟩ := Y
    have hmg : mg ("law" : PySem.Str) = some (.ref fa) := by
      have e : (HandSHeadRun.topDef (OpenLaw.row PySem.Challenge.rw_quiethour_k09_whole_settings).prog 33).name = ("law" : PySem.Str) := by kernel_rfl
      rw [← e]
      exact hmg0
    have e := z.more
    have c := z.d
    obtain ⟨fd, F⟩ := c.def_ 24 (d := QS.K09.dd_law) rfl
    have e2 := hmg.symm.trans (QS.K09.f47 KX G c)
    cases e2
    have b := L2.FunD.bindsA (ps := ["script"]) F fun _ _ _ _ _ _ us hl => match us, hl with | [_], _ => rfl
    refine ⟨K, fd, QS.K09.tf.map (He.cT K), KX, fun s v => b s [v] rfl, fun p hp => ?_, fun p hp => ?_, fun p hp => ?_, z.tabs, fun base _ _ tb => QS.K09.fo_law (w := w) KX G c e base z.su (fun q hq => tb _ (List.mem_map_of_mem hq)) F⟩
    · obtain ⟨q, h1, rfl⟩ := List.mem_map.mp hp
      exact z.empty q h1
    · obtain ⟨q, h1, rfl⟩ := List.mem_map.mp hp
      exact z.out q h1
    · obtain ⟨q, h1, rfl⟩ := List.mem_map.mp hp
      exact codeHd_of_K KX (z.hd q h1)
end

section
set_option Elab.async false
set_option linter.all false
set_option maxRecDepth 100000
set_option maxHeartbeats 0
theorem QS.K09.k09_holds : PySem.Challenge.rw_quiethour_k09_whole_settings.Holds := QS.K09.holds fun ns h => QS.K09.law_ok2 h
end

theorem PySem.Challenge.cw_quiethour_k09_whole_settings_holds : PySem.Challenge.rw_quiethour_k09_whole_settings.Holds :=
  QS.K09.k09_holds
