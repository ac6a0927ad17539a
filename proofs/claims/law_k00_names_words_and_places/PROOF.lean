import PyProof.Rows.All
import Wide.All
import OpenK.AllK
import Wide.FinOn
import HandS.ForMost
import HandS.ForExc
import HandS.Lambda
import HandS.ExcValue
import HandS.ExcIs
import HandS.RaiseMore
import HandS.Walk
import HandS.IsInst
import HandS.Style
import HandS.Flow
import HandS.TupAny
import HandS.Wide
import HandS.Conv
import HandS.Rev
import HandS.Zip
import PyProof.ReprReads
import HandS.RevTup
import HandS.EndTab
import HandS.Head0
import HandS.Head1
import HandS.Head2
import HandS.HeadEnd
import HandS.HeadHook1
import HandS.HeadHook2
import HandS.HeadHook3
import HandS.HeadHook4
import HandS.HeadNt
import KE.KStrOpen
import PySem.Challenge.RW_ringsapart_k00_names_words_and_places
section
set_option Elab.async false
set_option linter.all false
set_option maxRecDepth 100000
set_option maxHeartbeats 4000000
/-! Fn: defs as functions of data. D: data; O: what stands in the store; Sto: the store; R: what an expression comes to. -/
namespace Fn
open PySem PySem.Spec PyProof.Rows L2 LamX

/-- a lambda without parameters, made in a frame with these cells -/
structure Clo where
  id : Nat
  q : Str
  ps : Arguments
  body : Expr
  sc : Scope
  cells : List (Str × Addr)

inductive D where
  | non | bl (b : Bool) | int (i : Int) | str (x : Str) | tup (ds : List D) | lst (ds : List D) | ref (i : Nat) | exc (c : Str) (ds : List D) | clo (c : Clo)

inductive O where
  | lst (ds : List D) | dict (kvs : List (Key × D)) | ins (c : Str) (fs : List (Str × D))

abbrev Sto := List O
abbrev Ev := List (Option D)
structure Exn where
  c : Str
  ds : List D

inductive R (α : Type) where
  | ok (a : α) (st : Sto) | exc (x : Exn) (st : Sto) | bad
def R.bind {α β : Type} (r : R α) (f : α → Sto → R β) : R β :=
  match r with
  | .ok a st => f a st
  | .exc x st => .exc x st
  | .bad => .bad
@[simp] theorem R.bind_ok {α β : Type} (a : α) (st : Sto) (f : α → Sto → R β) : (R.ok a st).bind f = f a st := rfl
@[simp] theorem R.bind_exc {α β : Type} (x : Exn) (st : Sto) (f : α → Sto → R β) : (R.exc x st : R α).bind f = .exc x st := rfl
@[simp] theorem R.bind_bad {α β : Type} (f : α → Sto → R β) : (R.bad : R α).bind f = .bad := rfl

/-- an exception object that is held as a value: its class, no dict of its own -/
def ExV (cls : Value) (a : Addr) : HO := .ext fun h => ∃ (oe : Obj) (vs : Array Value), h.get? a = some oe ∧ Zc cls none oe ∧ oe.data = .fields vs
/-- a list that stays as it is -/
def SqK (K : PySem.W.Frag) (H : Hp) (p : Addr) (vs : List V) : Prop := (∃ ob, H p = some (.frz ob (.lst vs))) ∨
  ∃ (o : Obj) (its : Array Value) (n : Nat), K.lookup p = some o ∧ o.cls = .type "list" ∧ o.dict = none ∧ o.data = .seq its n ∧ its.size ≤ sizeLine ∧ Vals vs its.toList
theorem SqK.sql {K : PySem.W.Frag} {H : Hp} {p : Addr} {vs : List V} (h : SqK K H p vs) : SqL K H p vs := by
  rcases h with ⟨ob, h⟩ | h
  · exact .inl (.inr ⟨ob, h⟩)
  · exact .inr h
/-- a closure's object -/
def CloV (c : Clo) (c' f : Addr) : HO := .ext fun h => ∃ (pm ctv : Value), h.get? f = some (PySem.W.kla_obj "<lambda>" c.q c.ps c.body c.sc c.cells pm c' ctv)

section
variable (K : PySem.W.Frag) (mg : Str → Option Value)
mutual
inductive RepV (m : List Addr) (H : Hp) : D → V → Prop
  | non : RepV m H .non .non
  | bl (b : Bool) : RepV m H (.bl b) (.bl b)
  | int (i : Int) : RepV m H (.int i) (.int i)
  | str (x : Str) : RepV m H (.str x) (.str x)
  | tup {ds : List D} {vs : List V} {p : Addr} (h : SqT K H p vs) (r : RepVs m H ds vs) : RepV m H (.tup ds) (.ref p)
  | lst {ds : List D} {vs : List V} {p : Addr} (h : SqK K H p vs) (r : RepVs m H ds vs) : RepV m H (.lst ds) (.ref p)
  | ref {i : Nat} {a : Addr} (h : m[i]? = some a) : RepV m H (.ref i) (.ref a)
  | exc {c : Str} {C a : Addr} (h : mg c = some (.ref C)) (g : H a = some (ExV (.ref C) a)) : RepV m H (.exc c []) (.ref a)
  | clo {c : Clo} {c' f : Addr} (h : H f = some (CloV c c' f)) (g : H c' = some (CodeO c' c.q)) : RepV m H (.clo c) (.ref f)
inductive RepVs (m : List Addr) (H : Hp) : List D → List V → Prop
  | nil : RepVs m H [] []
  | cons {d : D} {v : V} {ds : List D} {vs : List V} (r : RepV m H d v) (t : RepVs m H ds vs) : RepVs m H (d :: ds) (v :: vs)
end
/-- what was known of the heap is known further on -/
structure Grow (H H' : Hp) : Prop where
  tup : ∀ p xs, Rd H p (.tup xs) → Rd H' p (.tup xs)
  frz : ∀ p ob u, H p = some (.frz ob u) → H' p = some (.frz ob u)
  ext : ∀ p φ, H p = some (.ext φ) → H' p = some (.ext φ)
end
theorem Grow.refl (H : Hp) : Grow H H := ⟨fun _ _ h => h, fun _ _ _ h => h, fun _ _ h => h⟩
theorem Grow.trans {H H1 H2 : Hp} (a : Grow H H1) (b : Grow H1 H2) : Grow H H2 := ⟨fun p xs h => b.tup p xs (a.tup p xs h), fun p o u h => b.frz p o u (a.frz p o u h), fun p φ h => b.ext p φ (a.ext p φ h)⟩
theorem Grow.new {H : Hp} {p : Addr} {o : HO} (h : H p = none) : Grow H (upd H p o) := by
  refine ⟨fun q xs r => ?_, fun q ob u r => by rw [upd_ne (ne_of_none r h)]; exact r, fun q φ r => by rw [upd_ne (ne_of_none r h)]; exact r⟩
  rcases r with r | ⟨ob, r⟩
  · exact .inl (by rw [upd_ne (ne_of_none r h)]; exact r)
  · exact .inr ⟨ob, by rw [upd_ne (ne_of_none r h)]; exact r⟩
theorem Grow.put {H : Hp} {p : Addr} {o u : HO} (h : H p = some u) (h1 : ∀ xs, u ≠ .tup xs) (h2 : ∀ ob w, u ≠ .frz ob w) (h3 : ∀ φ, u ≠ .ext φ) : Grow H (upd H p o) := by
  have ne : ∀ q w, H q = some w → w ≠ u → q ≠ p := fun q w e n z => by
    rw [z, h] at e
    exact n (Option.some.inj e).symm
  refine ⟨fun q xs r => ?_, fun q ob u r => by rw [upd_ne (ne q _ r (fun z => h2 _ _ z.symm))]; exact r, fun q φ r => by rw [upd_ne (ne q _ r (fun z => h3 φ z.symm))]; exact r⟩
  rcases r with r | ⟨ob, r⟩
  · exact .inl (by rw [upd_ne (ne q _ r (fun z => h1 xs z.symm))]; exact r)
  · exact .inr ⟨ob, by rw [upd_ne (ne q _ r (fun z => h2 _ _ z.symm))]; exact r⟩
theorem Grow.sqt {K : PySem.W.Frag} {H H' : Hp} {p : Addr} {xs : List V} (g : Grow H H') (h : SqT K H p xs) : SqT K H' p xs := by
  rcases h with h | h
  · exact .inl (g.tup p xs h)
  · exact .inr h

theorem Grow.sqk {K : PySem.W.Frag} {H H' : Hp} {p : Addr} {xs : List V} (g : Grow H H') (h : SqK K H p xs) : SqK K H' p xs := by
  rcases h with ⟨ob, h⟩ | h
  · exact .inl ⟨ob, g.frz p ob _ h⟩
  · exact .inr h

section
variable {K : PySem.W.Frag} {mg : Str → Option Value} {m m' : List Addr} {H H' : Hp}
theorem pre_get {m m' : List Addr} {i : Nat} {a : Addr} (p : m <+: m') (h : m[i]? = some a) : m'[i]? = some a := by
  obtain ⟨t, rfl⟩ := p
  have hi : i < m.length := (List.getElem?_eq_some_iff.mp h).1
  rw [List.getElem?_append_left hi]
  exact h
mutual
theorem RepV.mono (p : m <+: m') (g : Grow H H') : ∀ {d : D} {v : V}, RepV K mg m H d v → RepV K mg m' H' d v
  | _, _, .non => .non
  | _, _, .bl b => .bl b
  | _, _, .int i => .int i
  | _, _, .str x => .str x
  | _, _, .tup h r => .tup (g.sqt h) (RepVs.mono p g r)
  | _, _, .lst h r => .lst (g.sqk h) (RepVs.mono p g r)
  | _, _, .ref h => .ref (pre_get p h)
  | _, _, .exc h k => .exc h (g.ext _ _ k)
  | _, _, .clo h k => .clo (g.ext _ _ h) (g.ext _ _ k)
theorem RepVs.mono (p : m <+: m') (g : Grow H H') : ∀ {ds : List D} {vs : List V}, RepVs K mg m H ds vs → RepVs K mg m' H' ds vs
  | _, _, .nil => .nil
  | _, _, .cons r t => .cons (RepV.mono p g r) (RepVs.mono p g t)
end
theorem RepVs.length : ∀ {ds : List D} {vs : List V}, RepVs K mg m H ds vs → ds.length = vs.length
  | _, _, .nil => rfl
  | _, _, .cons _ t => by rw [List.length_cons, List.length_cons, RepVs.length t]
theorem RepVs.get : ∀ {ds : List D} {vs : List V} {i : Nat} {d : D}, RepVs K mg m H ds vs → ds[i]? = some d → ∃ v, vs[i]? = some v ∧ RepV K mg m H d v
  | _, _, _, _, .nil, e => by simp at e
  | _, _, 0, _, .cons r _, e => by
    simp at e
    subst e
    exact ⟨_, rfl, r⟩
  | _, _, i + 1, _, .cons _ t, e => by
    obtain ⟨v, h1, h2⟩ := RepVs.get (i := i) t (by simpa using e)
    exact ⟨v, by simpa using h1, h2⟩
theorem RepVs.getR : ∀ {ds : List D} {vs : List V} {i : Nat} {v : V}, RepVs K mg m H ds vs → vs[i]? = some v → ∃ d, ds[i]? = some d ∧ RepV K mg m H d v
  | _, _, _, _, .nil, e => by simp at e
  | _, _, 0, _, .cons r _, e => by
    simp at e
    subst e
    exact ⟨_, rfl, r⟩
  | _, _, i + 1, _, .cons _ t, e => by
    obtain ⟨v, h1, h2⟩ := RepVs.getR (i := i) t (by simpa using e)
    exact ⟨v, by simpa using h1, h2⟩
theorem RepVs.app : ∀ {ds es : List D} {vs ws : List V}, RepVs K mg m H ds vs → RepVs K mg m H es ws → RepVs K mg m H (ds ++ es) (vs ++ ws)
  | _, _, _, _, .nil, s => s
  | _, _, _, _, .cons r t, s => .cons r (RepVs.app t s)
theorem RepVs.take : ∀ {ds : List D} {vs : List V} (n : Nat), RepVs K mg m H ds vs → RepVs K mg m H (ds.take n) (vs.take n)
  | _, _, 0, _ => .nil
  | _, _, _ + 1, .nil => .nil
  | _, _, n + 1, .cons r t => .cons r (RepVs.take n t)
theorem RepVs.drop : ∀ {ds : List D} {vs : List V} (n : Nat), RepVs K mg m H ds vs → RepVs K mg m H (ds.drop n) (vs.drop n)
  | _, _, 0, r => r
  | _, _, _ + 1, .nil => .nil
  | _, _, n + 1, .cons _ t => RepVs.drop n t
theorem RepVs.set {d : D} {v : V} (r : RepV K mg m H d v) : ∀ {ds : List D} {vs : List V} (i : Nat), RepVs K mg m H ds vs → RepVs K mg m H (ds.set i d) (vs.set i v)
  | _, _, _, .nil => .nil
  | _, _, 0, .cons _ t => .cons r t
  | _, _, i + 1, .cons q t => .cons q (RepVs.set r i t)
theorem RepVs.rev : ∀ {ds : List D} {vs : List V}, RepVs K mg m H ds vs → RepVs K mg m H ds.reverse vs.reverse
  | _, _, .nil => .nil
  | _, _, .cons r t => by
    rw [List.reverse_cons, List.reverse_cons]
    exact (RepVs.rev t).app (.cons r .nil)
theorem RepVs.one {ds : List D} {v : V} (r : RepVs K mg m H ds [v]) : ∃ d, ds = [d] ∧ RepV K mg m H d v := by
  cases r with
  | cons r t => cases t; exact ⟨_, rfl, r⟩
theorem RepVs.two {ds : List D} {v w : V} (r : RepVs K mg m H ds [v, w]) : ∃ d e, ds = [d, e] ∧ RepV K mg m H d v ∧ RepV K mg m H e w := by
  cases r with
  | cons r t =>
    obtain ⟨e, rfl, q⟩ := t.one
    exact ⟨_, _, rfl, r, q⟩
theorem RepVs.ints : ∀ {ns : List Int} {vs : List V}, RepVs K mg m H (ns.map D.int) vs → vs = ns.map V.int
  | [], _, .nil => rfl
  | _ :: _, _, .cons r t => by
    cases r
    rw [RepVs.ints t]
    rfl
theorem RepVs.strs : ∀ {ns : List Str} {vs : List V}, RepVs K mg m H (ns.map D.str) vs → vs = ns.map V.str
  | [], _, .nil => rfl
  | _ :: _, _, .cons r t => by
    cases r
    rw [RepVs.strs t]
    rfl
theorem RepVs.bls : ∀ {ns : List Bool} {vs : List V}, RepVs K mg m H (ns.map D.bl) vs → vs = ns.map V.bl
  | [], _, .nil => rfl
  | _ :: _, _, .cons r t => by
    cases r
    rw [RepVs.bls t]
    rfl
end

/-! ### what stands in the store -/
section
variable (K : PySem.W.Frag) (mg : Str → Option Value)
def RepKV (m : List Addr) (H : Hp) : List (Key × D) → List (Key × V) → Prop := Paired fun p q => p.1 = q.1 ∧ RepV K mg m H p.2 q.2
def RepFV (m : List Addr) (H : Hp) : List (Str × D) → List (Str × V) → Prop := Paired fun p q => p.1 = q.1 ∧ RepV K mg m H p.2 q.2
def RepO (m : List Addr) (H : Hp) (a : Addr) : O → Prop
  | .lst ds => ∃ vs, H a = some (.lst vs) ∧ RepVs K mg m H ds vs
  | .dict kvs => ∃ qs, H a = some (.dK qs) ∧ RepKV K mg m H kvs qs
  | .ins c fs => ∃ C dx qs, mg c = some (.ref C) ∧ H a = some (.ins C dx qs) ∧ RepFV K mg m H fs qs
/-- the tables of code objects; the places and the heap that everything goes on from -/
structure TB where
  tabs : List (Addr × Str)
  m0 : List Addr
  H0 : Hp
/-- the store lies in the heap, its things at m; T: the tables of code objects -/
structure RepS (T : TB) (m : List Addr) (H : Hp) (st : Sto) : Prop where
  len : m.length = st.length
  nd : m.Nodup
  ob : ∀ (i : Nat) (o : O) (a : Addr), st[i]? = some o → m[i]? = some a → RepO K mg m H a o
  tb : Tabs T.tabs H
  pre : T.m0 <+: m
  gr : Grow T.H0 H
/-- the names' values -/
structure RepE (m : List Addr) (H : Hp) (env : Ev) (σ : L2.St) : Prop where
  len : env.length = σ.length
  at_ : ∀ (i : Nat) (d : D), env[i]? = some (some d) → ∃ v, σ[i]? = some (some v) ∧ RepV K mg m H d v
/-- an exception on its way -/
structure RepX (m : List Addr) (H : Hp) (x : Exn) (cls : Value) (dd : Option Addr) : Prop where
  ex : ∃ C, mg x.c = some (.ref C) ∧ cls = .ref C
  at_ : (x.ds = [] ∧ dd = none) ∨ ∃ d f dv v, x.ds = [dv] ∧ dd = some d ∧ H d = some (.xd [(f, v)]) ∧ RepV K mg m H dv v
end
section
variable {K : PySem.W.Frag} {mg : Str → Option Value} {T : TB} {m m' : List Addr} {H H' : Hp} {st : Sto} {env : Ev} {σ : L2.St}
theorem paired_mono {α β : Type} {F G : α → β → Prop} {l₁ : List α} {l₂ : List β} (h : Paired F l₁ l₂) (k : ∀ a b, F a b → G a b) : Paired G l₁ l₂ := Paired.mapP h k
theorem RepO.mono {a : Addr} {o : O} (p : m <+: m') (g : Grow H H') (e : H' a = H a) (h : RepO K mg m H a o) : RepO K mg m' H' a o := by
  cases o with
  | lst ds =>
    obtain ⟨vs, h1, h2⟩ := h
    exact ⟨vs, e.trans h1, h2.mono p g⟩
  | dict kvs =>
    obtain ⟨qs, h1, h2⟩ := h
    exact ⟨qs, e.trans h1, paired_mono h2 fun _ _ z => ⟨z.1, z.2.mono p g⟩⟩
  | ins c fs =>
    obtain ⟨C, dx, qs, h0, h1, h2⟩ := h
    exact ⟨C, dx, qs, h0, e.trans h1, paired_mono h2 fun _ _ z => ⟨z.1, z.2.mono p g⟩⟩
theorem RepO.there {a : Addr} {o : O} (h : RepO K mg m H a o) : ∃ u, H a = some u ∧ (∀ xs, u ≠ .tup xs) ∧ (∀ φ, u ≠ .ext φ) ∧ (∀ ps, u ≠ .tbl ps) := by
  cases o with
  | lst ds => obtain ⟨vs, h1, h2⟩ := h; exact ⟨_, h1, (by intro _ z; cases z), (by intro _ z; cases z), (by intro _ z; cases z)⟩
  | dict kvs => obtain ⟨vs, h1, h2⟩ := h; exact ⟨_, h1, (by intro _ z; cases z), (by intro _ z; cases z), (by intro _ z; cases z)⟩
  | ins c fs => obtain ⟨C, dx, qs, h0, h1, h2⟩ := h; exact ⟨_, h1, (by intro _ z; cases z), (by intro _ z; cases z), (by intro _ z; cases z)⟩
theorem RepE.mono (p : m <+: m') (g : Grow H H') (h : RepE K mg m H env σ) : RepE K mg m' H' env σ := ⟨h.len, fun i d e => by
  obtain ⟨v, h1, h2⟩ := h.at_ i d e
  exact ⟨v, h1, h2.mono p g⟩⟩
theorem RepS.at_ (h : RepS K mg T m H st) {i : Nat} {o : O} (e : st[i]? = some o) : ∃ a, m[i]? = some a ∧ RepO K mg m H a o := by
  have hi : i < m.length := by rw [h.len]; exact (List.getElem?_eq_some_iff.mp e).1
  exact ⟨m[i], by simp [hi], h.ob i o _ e (by simp [hi])⟩
theorem RepS.at' (h : RepS K mg T m H st) {i : Nat} {o : O} {a : Addr} (e : st[i]? = some o) (q : m[i]? = some a) : RepO K mg m H a o := h.ob i o a e q
theorem RepS.ne (h : RepS K mg T m H st) {i j : Nat} {a b : Addr} (ea : m[i]? = some a) (eb : m[j]? = some b) (n : i ≠ j) : a ≠ b := fun z => by
  subst z
  obtain ⟨h1, e1⟩ := List.getElem?_eq_some_iff.mp ea
  obtain ⟨h2, e2⟩ := List.getElem?_eq_some_iff.mp eb
  exact n ((List.getElem_inj h.nd).mp (e1.trans e2.symm))
/-- a new thing -/
theorem RepS.new (h : RepS K mg T m H st) {p : Addr} {u : HO} {o : O} (hp : H p = none) (ho : RepO K mg (m ++ [p]) (upd H p u) p o) : RepS K mg T (m ++ [p]) (upd H p u) (st ++ [o]) := by
  have ne : ∀ (i : Nat) a, m[i]? = some a → a ≠ p := fun i a e => by
    have hi : i < st.length := by rw [← h.len]; exact (List.getElem?_eq_some_iff.mp e).1
    obtain ⟨u, hu, _⟩ := (h.ob i st[i] a (by simp [hi]) e).there
    exact ne_of_none hu hp
  refine ⟨by simp [h.len], ?_, fun i o' a e q => ?_, h.tb.ext fun b w e => by rw [upd_ne (ne_of_none e hp)]; exact e, h.pre.trans (List.prefix_append _ _), h.gr.trans (Grow.new hp)⟩
  · rw [List.nodup_append]
    refine ⟨h.nd, by simp, fun a ha b hb => ?_⟩
    have e : b = p := by simpa using hb
    obtain ⟨i, hi, e'⟩ := List.getElem_of_mem ha
    rw [e]
    exact ne i a (by simp [hi, e'])
  · by_cases hi : i < st.length
    · have hm : i < m.length := by rw [h.len]; exact hi
      rw [List.getElem?_append_left hi] at e
      rw [List.getElem?_append_left hm] at q
      exact (h.ob i o' a e q).mono (List.prefix_append _ _) (Grow.new hp) (upd_ne (ne i a q))
    · have hj : i = st.length := by
        have := (List.getElem?_eq_some_iff.mp e).1
        simp at this
        omega
      subst hj
      rw [List.getElem?_append_right (Nat.le_refl _), Nat.sub_self] at e
      rw [List.getElem?_append_right (by rw [h.len]; exact Nat.le_refl _), h.len, Nat.sub_self] at q
      simp at e q
      subst e q
      exact ho
/-- nothing of the store is changed -/
theorem RepS.keep (h : RepS K mg T m H st) (g : Grow H H') (k : ∀ b o, H b = some o → H' b = some o) : RepS K mg T m H' st :=
  ⟨h.len, h.nd, fun i o a e q => by
    obtain ⟨u, hu, _⟩ := (h.ob i o a e q).there
    exact (h.ob i o a e q).mono (List.prefix_refl _) g ((k _ _ hu).trans hu.symm), h.tb.ext k, h.pre, h.gr.trans g⟩
theorem RepS.newO (h : RepS K mg T m H st) {p : Addr} {u : HO} (hp : H p = none) : RepS K mg T m (upd H p u) st :=
  h.keep (Grow.new hp) fun b o e => by rw [upd_ne (ne_of_none e hp)]; exact e
/-- a thing is changed -/
theorem RepS.put (h : RepS K mg T m H st) {i : Nat} {a : Addr} {u : HO} {o o' : O} (e : st[i]? = some o) (q : m[i]? = some a) (ho : RepO K mg m (upd H a u) a o') : Grow H (upd H a u) ∧ RepS K mg T m (upd H a u) (st.set i o') := by
  obtain ⟨w, hw, w1, w2, w3⟩ := (h.ob i o a e q).there
  have w4 : ∀ ob x, w ≠ .frz ob x := fun ob x z => by
    subst z
    have r := h.ob i o a e q
    cases o with
    | lst ds => obtain ⟨vs, h1, h2⟩ := r; rw [hw] at h1; cases h1
    | dict kvs => obtain ⟨vs, h1, h2⟩ := r; rw [hw] at h1; cases h1
    | ins c fs => obtain ⟨C, dx, qs, h0, h1, h2⟩ := r; rw [hw] at h1; cases h1
  have g : Grow H (upd H a u) := Grow.put hw w1 w4 w2
  refine ⟨g, by simp [h.len], h.nd, fun j o2 b e2 q2 => ?_, ?_, h.pre, h.gr.trans g⟩
  · by_cases hj : j = i
    · subst hj
      have hl : j < st.length := (List.getElem?_eq_some_iff.mp e).1
      rw [List.getElem?_set_self hl] at e2
      rw [q] at q2
      cases e2; cases q2
      exact ho
    · rw [List.getElem?_set_ne (Ne.symm hj)] at e2
      exact (h.ob j o2 b e2 q2).mono (List.prefix_refl _) g (upd_ne (h.ne q2 q hj))
  · intro p hp
    obtain ⟨ps, h1, h2, h3⟩ := h.tb p hp
    have ne : p.1 ≠ a := fun z => by rw [z, hw] at h1; exact w3 ps (Option.some.inj h1)
    refine ⟨ps, by rw [upd_ne ne]; exact h1, h2, fun pos cv hc => ?_⟩
    obtain ⟨c, e1, e3⟩ := h3 pos cv hc
    refine ⟨c, e1, ?_⟩
    rw [upd_ne]
    · exact e3
    · intro z
      rw [z, hw] at e3
      exact w2 _ (Option.some.inj e3)
/-- what came behind n is forgotten -/
theorem RepV.below_mk : True := trivial
end
end Fn
end
section
set_option Elab.async false
set_option linter.all false
set_option maxRecDepth 100000
set_option maxHeartbeats 4000000
namespace Fn
open PySem PySem.Spec PyProof.Rows L2 LamX

/-! ### readings -/
/-- the wish at a state of the names -/
abbrev wAt (W : WX) (σ : L2.St) : XK := fun c d H => W c d σ H
section
variable (K : PySem.W.Frag) (mg : Str → Option Value) (T : TB) (W : XK)
def After {α : Type} (m : List Addr) (H : Hp) (r : R α) (k : List Addr → Hp → α → Sto → Prop) : Prop :=
  match r with
  | .ok a st => ∀ m' H', m <+: m' → Grow H H' → RepS K mg T m' H' st → k m' H' a st
  | .exc x st => ∀ m' H' cls dd, m <+: m' → Grow H H' → RepS K mg T m' H' st → RepX K mg m' H' x cls dd → W cls dd H'
  | .bad => False
abbrev DE := Ev → Sto → R D
abbrev DT := Ev → Sto → R Bool
abbrev DA := Ev → Sto → R (List D)
/-- a state of names, store, heap -/
structure At (m : List Addr) (env : Ev) (st : Sto) (σ : L2.St) (H : Hp) : Prop where
  e : RepE K mg m H env σ
  s : RepS K mg T m H st
def kE (Q : VK) : List Addr → Hp → D → Sto → Prop := fun m H d _ => ∀ v, RepV K mg m H d v → Q v H
def kA (Q : List V → Hp → Prop) : List Addr → Hp → List D → Sto → Prop := fun m H ds _ => ∀ vs, RepVs K mg m H ds vs → Q vs H
def kT (Q : Bool → Hp → Prop) : List Addr → Hp → Bool → Sto → Prop := fun _ H b _ => Q b H
end
section
variable (K : PySem.W.Frag) (mg : Str → Option Value) (T : TB) (W : WX)
def tE (f : DE) : TE := fun σ H Q => ∃ m env st, At K mg T m env st σ H ∧ After K mg T (wAt W σ) m H (f env st) (kE K mg Q)
def tT (f : DT) : TT := fun σ H Q => ∃ m env st, At K mg T m env st σ H ∧ After K mg T (wAt W σ) m H (f env st) (kT Q)
def tA (f : DA) : TA := fun σ H Q => ∃ m env st, At K mg T m env st σ H ∧ After K mg T (wAt W σ) m H (f env st) (kA K mg Q)
end
section
variable (X : Cx) (T : TB) (W : WX)
abbrev FE (e : Expr) (f : DE) : Prop := PE X e (tE X.K X.mg T W f)
abbrev FT (e : Expr) (f : DT) : Prop := PT X e (tT X.K X.mg T W f)
abbrev FA (es : List Expr) (f : DA) : Prop := PA X es (tA X.K X.mg T W f)
/-- what a body's context has -/
structure Ok (k : Nat) : Prop where
  calm : X.calm = true
  nd : X.N.Nodup
  tk : Takes X W
  room : Room k X.A
  own : PassesOwn (model X.prog X.w) X.A X.env X.xe
  gd : X.A.guards = some []
end
section
variable {X : Cx} {T : TB} {W : WX} {E : XK} {m m' : List Addr} {H H' : Hp} {st st' : Sto} {env : Ev} {σ : L2.St}
theorem At.mono (h : At X.K X.mg T m env st σ H) (p : m <+: m') (g : Grow H H') (s : RepS X.K X.mg T m' H' st') : At X.K X.mg T m' env st' σ H' := ⟨h.e.mono p g, s⟩
theorem After.mono {α : Type} {r : R α} {k : List Addr → Hp → α → Sto → Prop} (p : m <+: m') (g : Grow H H') (h : After X.K X.mg T E m H r k) : After X.K X.mg T E m' H' r k := by
  cases r with
  | ok a s => exact fun m2 H2 p2 g2 s2 => h m2 H2 (p.trans p2) (g.trans g2) s2
  | exc x s => exact fun m2 H2 c d p2 g2 s2 x2 => h m2 H2 c d (p.trans p2) (g.trans g2) s2 x2
  | bad => exact h
theorem After.imp {α : Type} {r : R α} {k k' : List Addr → Hp → α → Sto → Prop} (h : After X.K X.mg T E m H r k) (i : ∀ m' H' a s, m <+: m' → Grow H H' → RepS X.K X.mg T m' H' s → k m' H' a s → k' m' H' a s) : After X.K X.mg T E m H r k' := by
  cases r with
  | ok a s => exact fun m2 H2 p2 g2 s2 => i _ _ _ _ p2 g2 s2 (h m2 H2 p2 g2 s2)
  | exc x s => exact h
  | bad => exact h
theorem After.split {α β : Type} {r : R α} {f : α → Sto → R β} {k : List Addr → Hp → β → Sto → Prop} (h : After X.K X.mg T E m H (r.bind f) k) :
    After X.K X.mg T E m H r (fun m1 H1 a st1 => After X.K X.mg T E m1 H1 (f a st1) k) := by
  cases r with
  | ok a s => exact fun m1 H1 p1 g1 s1 => After.mono (r := f a s) p1 g1 h
  | exc x s => exact h
  | bad => exact h
theorem PE.imp {e : Expr} {t t' : TE} (h : PE X e t) (i : ∀ σ H Q, t' σ H Q → t σ H Q) : PE X e t' := ⟨fun pins s σ H Q I w => h.run pins s σ H Q I (i σ H Q w)⟩
theorem PT.imp {e : Expr} {t t' : TT} (h : PT X e t) (i : ∀ σ H Q, t' σ H Q → t σ H Q) : PT X e t' := ⟨fun pins s σ H Q I w => h.run pins s σ H Q I (i σ H Q w)⟩
theorem PW.imp {e : Expr} {t t' : TT} (h : PW X e t) (i : ∀ σ H Q, t' σ H Q → t σ H Q) : PW X e t' := ⟨fun wh pins s σ H Q I w => h.run wh pins s σ H Q I (i σ H Q w)⟩
theorem PA.imp {es : List Expr} {t t' : TA} (h : PA X es t) (i : ∀ σ H Q, t' σ H Q → t σ H Q) : PA X es t' := ⟨fun pos pins s σ H Q I w => h.run pos pins s σ H Q I (i σ H Q w)⟩
theorem PS.imp {e : Stmt} {t t' : TS} (h : PS X e t) (i : ∀ D σ H, t' D σ H → t D σ H) : PS X e t' := ⟨fun pins s σ H D I w => h.run pins s σ H D I (i D σ H w)⟩
theorem PSs.imp {e : List Stmt} {t t' : TS} (h : PSs X e t) (i : ∀ D σ H, t' D σ H → t D σ H) : PSs X e t' := ⟨fun pins s σ H D I w => h.run pins s σ H D I (i D σ H w)⟩
theorem PG.imp {e : Expr} {t t' : TG} (h : PG X e t) (i : ∀ v σ H Q, t' v σ H Q → t v σ H Q) : PG X e t' := ⟨fun pins s σ H v u Q I r w => h.run pins s σ H v u Q I r (i v σ H Q w)⟩
theorem PI.imp {tg e : Expr} {t t' : TI} (h : PI X tg e t) (i : ∀ σ H Q, t' σ H Q → t σ H Q) : PI X tg e t' := ⟨fun pins s σ H Q I w => h.run pins s σ H Q I (i σ H Q w)⟩
theorem PI.or {tg e : Expr} {t t' : TI} (h : PI X tg e t) (h' : PI X tg e t') : PI X tg e (fun σ H R => t σ H R ∨ t' σ H R) := ⟨fun pins s σ H Q I w => w.elim (h.run pins s σ H Q I) (h'.run pins s σ H Q I)⟩
/-- an expression's value, then what follows -/
theorem tE_seq {f : DE} {g : D → Sto → R D} {Q : VK} (a : At X.K X.mg T m env st σ H) (h : After X.K X.mg T (wAt W σ) m H ((f env st).bind g) (kE X.K X.mg Q))
    {Q' : VK} (i : ∀ m1 H1 d st1 v, At X.K X.mg T m1 env st1 σ H1 → m <+: m1 → Grow H H1 → RepV X.K X.mg m1 H1 d v → After X.K X.mg T (wAt W σ) m1 H1 (g d st1) (kE X.K X.mg Q) → Q' v H1) : tE X.K X.mg T W f σ H Q' :=
  ⟨m, env, st, a, h.split.imp fun m1 H1 d s p g s1 q v r => i m1 H1 d s v (a.mono p g s1) p g r q⟩
/-- generally -/
theorem tE_to {β : Type} {f : DE} {g : D → Sto → R β} {k : List Addr → Hp → β → Sto → Prop} (a : At X.K X.mg T m env st σ H) (h : After X.K X.mg T (wAt W σ) m H ((f env st).bind g) k)
    {Q' : VK} (i : ∀ m1 H1 d st1 v, At X.K X.mg T m1 env st1 σ H1 → m <+: m1 → Grow H H1 → RepV X.K X.mg m1 H1 d v → After X.K X.mg T (wAt W σ) m1 H1 (g d st1) k → Q' v H1) : tE X.K X.mg T W f σ H Q' :=
  ⟨m, env, st, a, h.split.imp fun m1 H1 d s p g s1 q v r => i m1 H1 d s v (a.mono p g s1) p g r q⟩
theorem tT_to {β : Type} {f : DT} {g : Bool → Sto → R β} {k : List Addr → Hp → β → Sto → Prop} (a : At X.K X.mg T m env st σ H) (h : After X.K X.mg T (wAt W σ) m H ((f env st).bind g) k)
    {Q' : Bool → Hp → Prop} (i : ∀ m1 H1 d st1, At X.K X.mg T m1 env st1 σ H1 → m <+: m1 → Grow H H1 → After X.K X.mg T (wAt W σ) m1 H1 (g d st1) k → Q' d H1) : tT X.K X.mg T W f σ H Q' :=
  ⟨m, env, st, a, h.split.imp fun m1 H1 d s p g s1 q => i m1 H1 d s (a.mono p g s1) p g q⟩
theorem tA_to {β : Type} {f : DA} {g : List D → Sto → R β} {k : List Addr → Hp → β → Sto → Prop} (a : At X.K X.mg T m env st σ H) (h : After X.K X.mg T (wAt W σ) m H ((f env st).bind g) k)
    {Q' : List V → Hp → Prop} (i : ∀ m1 H1 d st1 v, At X.K X.mg T m1 env st1 σ H1 → m <+: m1 → Grow H H1 → RepVs X.K X.mg m1 H1 d v → After X.K X.mg T (wAt W σ) m1 H1 (g d st1) k → Q' v H1) : tA X.K X.mg T W f σ H Q' :=
  ⟨m, env, st, a, h.split.imp fun m1 H1 d s p g s1 q v r => i m1 H1 d s v (a.mono p g s1) p g r q⟩

/-! ### ends -/
theorem after_same {d : D} {v : V} {Q : VK} (s : RepS X.K X.mg T m H st) (h : After X.K X.mg T E m H (.ok d st) (kE X.K X.mg Q)) (r : RepV X.K X.mg m H d v) : Q v H :=
  h m H (List.prefix_refl _) (Grow.refl _) s v r
theorem after_tup {ds : List D} {vs : List V} {Q : VK} (s : RepS X.K X.mg T m H st) (h : After X.K X.mg T E m H (.ok (.tup ds) st) (kE X.K X.mg Q)) (r : RepVs X.K X.mg m H ds vs) (p : Addr) (hp : H p = none) : Q (.ref p) (upd H p (.tup vs)) :=
  h m _ (List.prefix_refl _) (Grow.new hp) (s.newO hp) _ (.tup (.of upd_same) (r.mono (List.prefix_refl _) (Grow.new hp)))
theorem after_lst {ds : List D} {vs : List V} {Q : VK} (s : RepS X.K X.mg T m H st) (h : After X.K X.mg T E m H (.ok (.ref st.length) (st ++ [.lst ds])) (kE X.K X.mg Q)) (r : RepVs X.K X.mg m H ds vs) (p : Addr) (hp : H p = none) : Q (.ref p) (upd H p (.lst vs)) :=
  h (m ++ [p]) _ (List.prefix_append _ _) (Grow.new hp) (s.new hp ⟨vs, upd_same, r.mono (List.prefix_append _ _) (Grow.new hp)⟩) _ (.ref (by rw [← s.len]; simp))
theorem after_dict {kvs : List (Key × D)} {qs : List (Key × V)} {Q : VK} (s : RepS X.K X.mg T m H st) (h : After X.K X.mg T E m H (.ok (.ref st.length) (st ++ [.dict kvs])) (kE X.K X.mg Q)) (r : RepKV X.K X.mg m H kvs qs) (p : Addr) (hp : H p = none) : Q (.ref p) (upd H p (.dK qs)) :=
  h (m ++ [p]) _ (List.prefix_append _ _) (Grow.new hp) (s.new hp ⟨qs, upd_same, paired_mono r fun _ _ z => ⟨z.1, z.2.mono (List.prefix_append _ _) (Grow.new hp)⟩⟩) _ (.ref (by rw [← s.len]; simp))
theorem after_put {d : D} {v : V} {i : Nat} {a : Addr} {u : HO} {o o' : O} {Q : VK} (s : RepS X.K X.mg T m H st) (h : After X.K X.mg T E m H (.ok d (st.set i o')) (kE X.K X.mg Q)) (e : st[i]? = some o) (q : m[i]? = some a)
    (ho : Grow H (upd H a u) → RepO X.K X.mg m (upd H a u) a o') (r : RepV X.K X.mg m H d v) : Q v (upd H a u) := by
  have g : Grow H (upd H a u) := by
    obtain ⟨w, hw, w1, w2, w3⟩ := (s.ob i o a e q).there
    refine Grow.put hw w1 (fun ob x z => ?_) w2
    subst z
    have r := s.ob i o a e q
    cases o with
    | lst ds => obtain ⟨vs, h1, h2⟩ := r; rw [hw] at h1; cases h1
    | dict kvs => obtain ⟨vs, h1, h2⟩ := r; rw [hw] at h1; cases h1
    | ins c fs => obtain ⟨C, dx, qs, h0, h1, h2⟩ := r; rw [hw] at h1; cases h1
  obtain ⟨_, s'⟩ := s.put e q (ho g)
  exact h m _ (List.prefix_refl _) g s' v (r.mono (List.prefix_refl _) g)

/-! ### names and constants -/
def dVar (i : Nat) : DE := fun env st => match env[i]? with
  | some (some d) => .ok d st
  | _ => .bad
def dC (d : D) : DE := fun _ st => .ok d st
theorem fe_var (i : Nat) {x : Str} {pos : Pos} (hN : X.N[i]? = some x := by rfl) (hv : Vis X.env.scope x := by first | exact Or.inl rfl | exact Or.inr (Or.inl rfl) | exact Or.inr (Or.inr rfl)) (hd : (x == ("__debug__" : Str)) = false := by decide)
    (hcd : (x == ("__classdict__" : Str)) = false := by decide) : FE X T W (.Name x pos) (dVar i) := by
  refine PE.imp (pe_var (i := i) hN hv hd hcd) fun σ H Q ⟨m, env, st, a, h⟩ => ?_
  unfold dVar at h
  split at h
  · rename_i d e
    obtain ⟨v, h1, h2⟩ := a.e.at_ i d e
    exact ⟨v, h1, after_same a.s h h2⟩
  · exact h.elim
theorem fe_c {e : Expr} {d : D} {v : V} (h : PE X e (tC v)) (r : ∀ m H, RepV X.K X.mg m H d v) : FE X T W e (dC d) := PE.imp h fun σ H Q ⟨m, env, st, a, h⟩ => after_same a.s h (r m H)
theorem fe_int {i j pos} : FE X T W (.Constant (.int i) j pos) (dC (.int i)) := fe_c pe_int fun _ _ => .int i
theorem fe_bl {b j pos} : FE X T W (.Constant (.bool b) j pos) (dC (.bl b)) := fe_c pe_bl fun _ _ => .bl b
theorem fe_non {j pos} : FE X T W (.Constant .none j pos) (dC .non) := fe_c pe_non fun _ _ => .non
theorem fe_str {x j pos} : FE X T W (.Constant (.str x) j pos) (dC (.str x)) := fe_c pe_str fun _ _ => .str x
/-- a module's constant -/
structure Gv (K : PySem.W.Frag) (mg : Str → Option Value) (x : Str) (d : D) : Prop where
  ex : ∃ u v, mg x = some u ∧ RelV v u ∧ ∀ m H, RepV K mg m H d v
theorem fe_gv {x : Str} {d : D} {pos : Pos} (h : Gv X.K X.mg x d) (hg : Gl X x := by rfl) (hd : (x == ("__debug__" : Str)) = false := by decide) : FE X T W (.Name x pos) (dC d) := by
  obtain ⟨u, v, h1, h2, h3⟩ := h.ex
  exact fe_c (pe_glob hg h1 h2 hd) h3

/-! ### arguments, displays -/
def aNil : DA := fun _ st => .ok [] st
def aCons (f : DE) (g : DA) : DA := fun env st => (f env st).bind fun d s1 => (g env s1).bind fun ds s2 => .ok (d :: ds) s2
theorem fa_nil : FA X T W [] aNil := PA.imp pa_nil fun σ H Q ⟨m, env, st, a, h⟩ => h m H (List.prefix_refl _) (Grow.refl _) a.s [] .nil
theorem fa_cons {e : Expr} {es : List Expr} {f : DE} {g : DA} (ha : FE X T W e f) (hr : FA X T W es g) (hs : starEach (e :: es) X.env = (false, eval e X.env) :: starEach es X.env := by rfl) : FA X T W (e :: es) (aCons f g) := by
  refine PA.imp (pa_cons ha hr hs) fun σ H Q ⟨m, env, st, a, h⟩ => ?_
  exact tE_to a h fun m1 H1 d st1 v a1 p1 g1 r1 h1 => tA_to a1 h1 fun m2 H2 ds st2 vs a2 p2 g2 r2 h2 => h2 m2 H2 (List.prefix_refl _) (Grow.refl _) a2.s _ (.cons (r1.mono p2 g2) r2)
def lineN : Nat := 16777216
def dTup (f : DA) : DE := fun env st => (f env st).bind fun ds s1 => if ds.length ≤ lineN then .ok (.tup ds) s1 else .bad
def dLst (f : DA) : DE := fun env st => (f env st).bind fun ds s1 => if ds.length ≤ lineN then .ok (.ref s1.length) (s1 ++ [.lst ds]) else .bad
theorem line_eq : sizeLine = lineN := sizeLine_eq
theorem fe_tup {es : List Expr} {f : DA} {x1} {pos : Pos} (h : FA X T W es f) : FE X T W (.Tuple es x1 pos) (dTup f) := by
  refine PE.imp (pe_tup h) fun σ H Q ⟨m, env, st, a, h⟩ => ?_
  refine tA_to a h fun m1 H1 d st1 v a1 p1 g1 r1 h1 => ?_
  split at h1
  · rename_i hl
    exact ⟨by rw [line_eq, ← r1.length]; exact hl, fun p hp => after_tup a1.s h1 r1 p hp⟩
  · exact h1.elim
theorem fe_lst {es : List Expr} {f : DA} {pos : Pos} (h : FA X T W es f) : FE X T W (.List es pos) (dLst f) := by
  refine PE.imp (pe_lst h) fun σ H Q ⟨m, env, st, a, h⟩ => ?_
  refine tA_to a h fun m1 H1 d st1 v a1 p1 g1 r1 h1 => ?_
  split at h1
  · rename_i hl
    exact ⟨by rw [line_eq, ← r1.length]; exact hl, fun p hp => after_lst a1.s h1 r1 p hp⟩
  · exact h1.elim

/-! ### operators by values -/
/-- r, read over data, is g -/
def OpD (X : Cx) (T : TB) (r : R2) (g : D → D → Sto → R D) : Prop :=
  ∀ {E : XK} {m : List Addr} {H : Hp} {st : Sto} {x y : D} {v w : V} {Q : VK}, RepS X.K X.mg T m H st → RepV X.K X.mg m H x v → RepV X.K X.mg m H y w → After X.K X.mg T E m H (g x y st) (kE X.K X.mg Q) → r v w H Q
def d2 (g : D → D → Sto → R D) (fa fb : DE) : DE := fun env st => (fa env st).bind fun x s1 => (fb env s1).bind fun y s2 => g x y s2
variable {a b c : Expr} {fa fb fc : DE} {pos : Pos}
theorem tOp_of {r : R2} {g : D → D → Sto → R D} (hg : OpD X T r g) {Q : VK} (at_ : At X.K X.mg T m env st σ H) (h : After X.K X.mg T (wAt W σ) m H (d2 g fa fb env st) (kE X.K X.mg Q)) : tOp r (tE X.K X.mg T W fa) (tE X.K X.mg T W fb) σ H Q :=
  tE_to at_ h fun m1 H1 d st1 v a1 p1 g1 r1 h1 => tE_to a1 h1 fun m2 H2 ds st2 vs a2 p2 g2 r2 h2 => hg a2.s (r1.mono p2 g2) r2 h2
theorem fe_op {op : Operator} {r : R2} {g : D → D → Sto → R D} (ho : OpR X (binaryOp op) r) (hg : OpD X T r g) (ha : FE X T W a fa) (hb : FE X T W b fb) : FE X T W (.BinOp a op b pos) (d2 g fa fb) :=
  PE.imp (pe_op ho ha hb) fun σ H Q ⟨m, env, st, a, h⟩ => tOp_of hg a h
theorem fe_cmp {op : CmpOp} {r : R2} {g : D → D → Sto → R D} (ho : OpR X (compareOp op) r) (hg : OpD X T r g) (ha : FE X T W a fa) (hb : FE X T W b fb) (hm : behindInMarks op b = false := by with_unfolding_all rfl) : FE X T W (.Compare a [op] [b] pos) (d2 g fa fb) :=
  PE.imp (pe_cmpR ho ha hb hm) fun σ H Q ⟨m, env, st, a, h⟩ => tOp_of hg a h
/-- a value that is True or False -/
def asB (d : D) (st : Sto) : R Bool := match d with
  | .bl b => .ok b st
  | _ => .bad
def dB (f : DE) : DT := fun env st => (f env st).bind asB
theorem asB_ok {d : D} {v : V} {Q : Bool → Hp → Prop} (s : RepS X.K X.mg T m H st) (r : RepV X.K X.mg m H d v) (h : After X.K X.mg T E m H (asB d st) (kT Q)) : ∃ k, v = .bl k ∧ Q k H := by
  cases r with
  | bl b => exact ⟨b, rfl, h m H (List.prefix_refl _) (Grow.refl _) s⟩
  | _ => exact h.elim
theorem ft_val {e : Expr} {f : DE} (h : FE X T W e f) (he : ∀ whole, isTrue e X.env whole = (do let v ← whole; standAt e.pos; holding [v] (truthy v)) := by intro _; rfl) : FT X T W e (dB f) :=
  PT.imp (pt_val h he) fun σ H Q ⟨m, env, st, a, h⟩ => tE_to a h fun m1 H1 d st1 v a1 p1 g1 r1 h1 => asB_ok a1.s r1 h1
theorem After.assoc {α β γ : Type} {r : R α} {f : α → Sto → R β} {g : β → Sto → R γ} {k : List Addr → Hp → γ → Sto → Prop} (h : After X.K X.mg T E m H ((r.bind f).bind g) k) : After X.K X.mg T E m H (r.bind fun a s => (f a s).bind g) k := by
  cases r with
  | ok a s => exact h
  | exc x s => exact h
  | bad => exact h
theorem tOp_ofB {r : R2} {g : D → D → Sto → R D} (hg : OpD X T r g) {Q : Bool → Hp → Prop} (at_ : At X.K X.mg T m env st σ H) (h : After X.K X.mg T (wAt W σ) m H (dB (d2 g fa fb) env st) (kT Q)) : tTest (tOp r (tE X.K X.mg T W fa) (tE X.K X.mg T W fb)) σ H Q := by
  refine tE_to at_ (After.assoc h) fun m1 H1 d st1 v a1 p1 g1 r1 h1 => tE_to a1 (After.assoc h1) fun m2 H2 ds st2 vs a2 p2 g2 r2 h2 => @hg (wAt W σ) _ _ _ _ _ _ _ _ a2.s (r1.mono p2 g2) r2 ?_
  exact h2.split.imp fun m3 H3 dd s3 p3 g3 s3' q v r => asB_ok s3' r q
theorem ft_cmp {op : CmpOp} {r : R2} {g : D → D → Sto → R D} (ho : OpR X (compareOp op) r) (hg : OpD X T r g) (ha : FE X T W a fa) (hb : FE X T W b fb) (hm : behindInMarks op b = false := by with_unfolding_all rfl) : FT X T W (.Compare a [op] [b] pos) (dB (d2 g fa fb)) :=
  PT.imp (pt_cmpR ho ha hb hm) fun σ H Q ⟨m, env, st, a, h⟩ => tOp_ofB hg a h
/-- a op b op' c -/
def d3 (g g' : D → D → Sto → R D) (fa fb fc : DE) : DE := fun env st => (fa env st).bind fun x s1 => (fb env s1).bind fun y s2 => (g x y s2).bind fun z s3 => (asB z s3).bind fun k s4 =>
  if k = true then (fc env s4).bind fun w s5 => g' y w s5 else .ok (.bl false) s4
theorem asB_to {β : Type} {d : D} {v : V} {f : Bool → Sto → R β} {k : List Addr → Hp → β → Sto → Prop} (s : RepS X.K X.mg T m H st) (r : RepV X.K X.mg m H d v) (h : After X.K X.mg T E m H ((asB d st).bind f) k) : ∃ b, d = .bl b ∧ v = .bl b ∧ After X.K X.mg T E m H (f b st) k := by
  cases r with
  | bl b => exact ⟨b, rfl, rfl, h⟩
  | _ => exact h.elim
theorem tChain_of {r r' : R2} {g g' : D → D → Sto → R D} (hg : OpD X T r g) (hg' : OpD X T r' g') {Q : VK} (at_ : At X.K X.mg T m env st σ H) (h : After X.K X.mg T (wAt W σ) m H (d3 g g' fa fb fc env st) (kE X.K X.mg Q)) : tChain r r' (tE X.K X.mg T W fa) (tE X.K X.mg T W fb) (tE X.K X.mg T W fc) σ H Q := by
  refine tE_to at_ h fun m1 H1 d st1 v a1 p1 g1 r1 h1 => tE_to a1 h1 fun m2 H2 ds st2 vs a2 p2 g2 r2 h2 => @hg (wAt W σ) _ _ _ _ _ _ _ _ a2.s (r1.mono p2 g2) r2 ?_
  refine h2.split.imp fun m3 H3 dd s3 p3 g3 s3' q v r => ?_
  obtain ⟨b, e1, e2, q⟩ := asB_to s3' r q
  refine ⟨b, e2, ?_⟩
  cases b with
  | true => exact tE_to (a2.mono p3 g3 s3') q fun m4 H4 d4 st4 v4 a4 p4 g4 r4 h4 => @hg' (wAt W σ) _ _ _ _ _ _ _ _ a4.s ((r2.mono p3 g3).mono p4 g4) r4 h4
  | false => exact q m3 H3 (List.prefix_refl _) (Grow.refl _) s3' _ (.bl false)
theorem fe_chain {op op' : CmpOp} {r r' : R2} {g g' : D → D → Sto → R D} (ho : OpR X (compareOp op) r) (ho' : OpR X (compareOp op') r') (hg : OpD X T r g) (hg' : OpD X T r' g') (ha : FE X T W a fa) (hb : FE X T W b fb) (hc : FE X T W c fc)
    (hm : lastMarks [op, op'] [b, c] = false := by with_unfolding_all rfl) : FE X T W (.Compare a [op, op'] [b, c] pos) (d3 g g' fa fb fc) :=
  PE.imp (pe_chain ho ho' ha hb hc hm) fun σ H Q ⟨m, env, st, a, h⟩ => tChain_of hg hg' a h
theorem tChain_ofB {r r' : R2} {g g' : D → D → Sto → R D} (hg : OpD X T r g) (hg' : OpD X T r' g') {Q : Bool → Hp → Prop} (at_ : At X.K X.mg T m env st σ H) (h : After X.K X.mg T (wAt W σ) m H (dB (d3 g g' fa fb fc) env st) (kT Q)) : tTest (tChain r r' (tE X.K X.mg T W fa) (tE X.K X.mg T W fb) (tE X.K X.mg T W fc)) σ H Q := by
  refine tE_to at_ (After.assoc h) fun m1 H1 d st1 v a1 p1 g1 r1 h1 => tE_to a1 (After.assoc h1) fun m2 H2 ds st2 vs a2 p2 g2 r2 h2 => @hg (wAt W σ) _ _ _ _ _ _ _ _ a2.s (r1.mono p2 g2) r2 ?_
  refine (After.assoc h2).split.imp fun m3 H3 dd s3 p3 g3 s3' q v r => ?_
  obtain ⟨b, e1, e2, q⟩ := asB_to s3' r (After.assoc q)
  refine ⟨b, e2, ?_⟩
  cases b with
  | true =>
    refine tE_to (a2.mono p3 g3 s3') (After.assoc q) fun m4 H4 d4 st4 v4 a4 p4 g4 r4 h4 => @hg' (wAt W σ) _ _ _ _ _ _ _ _ a4.s ((r2.mono p3 g3).mono p4 g4) r4 ?_
    exact h4.split.imp fun m5 H5 d5 s5 p5 g5 s5' q5 v5 r5 => asB_ok s5' r5 q5
  | false => exact ⟨false, rfl, q m3 H3 (List.prefix_refl _) (Grow.refl _) s3'⟩
theorem ft_chain {op op' : CmpOp} {r r' : R2} {g g' : D → D → Sto → R D} (ho : OpR X (compareOp op) r) (ho' : OpR X (compareOp op') r') (hg : OpD X T r g) (hg' : OpD X T r' g') (ha : FE X T W a fa) (hb : FE X T W b fb) (hc : FE X T W c fc)
    (hm : lastMarks [op, op'] [b, c] = false := by with_unfolding_all rfl) : FT X T W (.Compare a [op, op'] [b, c] pos) (dB (d3 g g' fa fb fc)) :=
  PT.imp (pt_chain ho ho' ha hb hc hm) fun σ H Q ⟨m, env, st, a, h⟩ => tChain_ofB hg hg' a h

/-! ### and, or, not, if-else -/
def dAnd (f g : DE) : DE := fun env st => (f env st).bind fun x s1 => (asB x s1).bind fun k s2 => if k = true then g env s2 else .ok (.bl false) s2
def dOr (f g : DE) : DE := fun env st => (f env st).bind fun x s1 => (asB x s1).bind fun k s2 => if k = true then .ok (.bl true) s2 else g env s2
def dNot (f : DE) : DE := fun env st => (f env st).bind fun x s1 => (asB x s1).bind fun k s2 => .ok (.bl (!k)) s2
def dIf (t : DT) (f g : DE) : DE := fun env st => (t env st).bind fun k s1 => if k = true then f env s1 else g env s1
def bAnd (f g : DT) : DT := fun env st => (f env st).bind fun k s1 => if k = true then g env s1 else .ok false s1
def bOr (f g : DT) : DT := fun env st => (f env st).bind fun k s1 => if k = true then .ok true s1 else g env s1
def bNot (f : DT) : DT := fun env st => (f env st).bind fun k s1 => .ok (!k) s1
theorem fe_one {op} (h : FE X T W a fa) : FE X T W (.BoolOp op [a] pos) fa := pe_one h
theorem fe_and {rest : List Expr} (ha : FE X T W a fa) (hb : FE X T W (.BoolOp .And (b :: rest) pos) fb) : FE X T W (.BoolOp .And (a :: b :: rest) pos) (dAnd fa fb) := by
  refine PE.imp (pe_and ha hb) fun σ H Q ⟨m, env, st, a, h⟩ => tE_to a h fun m1 H1 d st1 v a1 p1 g1 r1 h1 => ?_
  obtain ⟨k, _, e, q⟩ := asB_to a1.s r1 h1
  refine ⟨k, e, ?_⟩
  cases k with
  | true => exact ⟨m1, env, st1, a1, q⟩
  | false => exact after_same a1.s q (.bl false)
theorem fe_or {rest : List Expr} (ha : FE X T W a fa) (hb : FE X T W (.BoolOp .Or (b :: rest) pos) fb) : FE X T W (.BoolOp .Or (a :: b :: rest) pos) (dOr fa fb) := by
  refine PE.imp (pe_or ha hb) fun σ H Q ⟨m, env, st, a, h⟩ => tE_to a h fun m1 H1 d st1 v a1 p1 g1 r1 h1 => ?_
  obtain ⟨k, _, e, q⟩ := asB_to a1.s r1 h1
  refine ⟨k, e, ?_⟩
  cases k with
  | false => exact ⟨m1, env, st1, a1, q⟩
  | true => exact after_same a1.s q (.bl true)
theorem fe_not (ha : FE X T W a fa) : FE X T W (.UnaryOp .Not a pos) (dNot fa) := by
  refine PE.imp (pe_not ha) fun σ H Q ⟨m, env, st, a, h⟩ => tE_to a h fun m1 H1 d st1 v a1 p1 g1 r1 h1 => ?_
  obtain ⟨k, _, e, q⟩ := asB_to a1.s r1 h1
  exact ⟨k, e, after_same a1.s q (.bl _)⟩
theorem fe_if {ta : DT} (hc : FT X T W c ta) (ha : FE X T W a fa) (hb : FE X T W b fb) : FE X T W (.IfExp c a b pos) (dIf ta fa fb) := by
  refine PE.imp (pe_ifExp hc ha hb) fun σ H Q ⟨m, env, st, a, h⟩ => tT_to a h fun m1 H1 k st1 a1 p1 g1 h1 => ?_
  cases k with
  | true => exact ⟨m1, env, st1, a1, h1⟩
  | false => exact ⟨m1, env, st1, a1, h1⟩
abbrev FW (X : Cx) (T : TB) (W : WX) (e : Expr) (f : DT) : Prop := PW X e (tT X.K X.mg T W f)
theorem fw_and1 {f : DT} (ha : FT X T W a f) : FW X T W (.BoolOp .And [a] pos) f := pw_and1 ha
theorem fw_or1 {f : DT} (ha : FT X T W a f) : FW X T W (.BoolOp .Or [a] pos) f := pw_or1 ha
theorem fw_and {f g : DT} {rest : List Expr} (ha : FT X T W a f) (hb : FW X T W (.BoolOp .And (b :: rest) pos) g) : FW X T W (.BoolOp .And (a :: b :: rest) pos) (bAnd f g) := by
  refine PW.imp (pw_and ha hb) fun σ H Q ⟨m, env, st, a, h⟩ => tT_to a h fun m1 H1 k st1 a1 p1 g1 h1 => ?_
  cases k with
  | true => exact ⟨m1, env, st1, a1, h1⟩
  | false => exact h1 m1 H1 (List.prefix_refl _) (Grow.refl _) a1.s
theorem fw_or {f g : DT} {rest : List Expr} (ha : FT X T W a f) (hb : FW X T W (.BoolOp .Or (b :: rest) pos) g) : FW X T W (.BoolOp .Or (a :: b :: rest) pos) (bOr f g) := by
  refine PW.imp (pw_or ha hb) fun σ H Q ⟨m, env, st, a, h⟩ => tT_to a h fun m1 H1 k st1 a1 p1 g1 h1 => ?_
  cases k with
  | false => exact ⟨m1, env, st1, a1, h1⟩
  | true => exact h1 m1 H1 (List.prefix_refl _) (Grow.refl _) a1.s
theorem ft_w {e : Expr} {f : DT} (h : FW X T W e f) : FT X T W e f := h.pt
theorem ft_not {f : DT} (ha : FT X T W a f) : FT X T W (.UnaryOp .Not a pos) (bNot f) :=
  PT.imp (pt_not ha) fun σ H Q ⟨m, env, st, a, h⟩ => tT_to a h fun m1 H1 k st1 a1 p1 g1 h1 => h1 m1 H1 (List.prefix_refl _) (Grow.refl _) a1.s

/-! ### calls of built-ins by values -/
def CallD (X : Cx) (T : TB) (r : List V → Hp → VK → Prop) (g : List D → Sto → R D) : Prop :=
  ∀ {E : XK} {m : List Addr} {H : Hp} {st : Sto} {xs : List D} {vs : List V} {Q : VK}, RepS X.K X.mg T m H st → RepVs X.K X.mg m H xs vs → After X.K X.mg T E m H (g xs st) (kE X.K X.mg Q) → r vs H Q
def dCall (g : List D → Sto → R D) (f : DA) : DE := fun env st => (f env st).bind g
theorem fe_callB {id : String} {x : Str} {r : List V → Hp → VK → Prop} {g : List D → Sto → R D} {e : Expr} {es : List Expr} {f : DA} {p : Pos} (hc : CallR X (.builtin id) r) (hd : CallD X T r g) (hm : X.mg x = none) (hv : bootBuiltins x = some (.builtin id)) (ha : FA X T W (e :: es) f)
    (hg : Gl X x := by rfl) (hn : x ≠ "__name__" := by decide) (hdb : (x == ("__debug__" : Str)) = false := by decide) (hst : starEach (e :: es) X.env = (false, eval e X.env) :: starEach es X.env := by rfl) (hpl : (backTo pos (starEach es X.env)).any (·.1) = false := by rfl) :
    FE X T W (.Call (.Name x p) (e :: es) [] pos) (dCall g f) :=
  PE.imp (pe_callB hc hg hm hv ha hn hdb hst hpl) fun σ H Q ⟨m, env, st, a, h⟩ => tA_to a h fun m1 H1 d st1 v a1 p1 g1 r1 h1 => hd a1.s r1 h1
theorem fe_callTy {id : String} {x : Str} {r : List V → Hp → VK → Prop} {g : List D → Sto → R D} {e : Expr} {es : List Expr} {f : DA} {p : Pos} (hc : CallR X (.type id) r) (hd : CallD X T r g) (hm : X.mg x = none) (hv : bootBuiltins x = some (.type id)) (ha : FA X T W (e :: es) f)
    (hg : Gl X x := by rfl) (hn : x ≠ "__name__" := by decide) (hdb : (x == ("__debug__" : Str)) = false := by decide) (hst : starEach (e :: es) X.env = (false, eval e X.env) :: starEach es X.env := by rfl) (hpl : (backTo pos (starEach es X.env)).any (·.1) = false := by rfl) :
    FE X T W (.Call (.Name x p) (e :: es) [] pos) (dCall g f) :=
  PE.imp (pe_callTy hc hg hm hv ha hn hdb hst hpl) fun σ H Q ⟨m, env, st, a, h⟩ => tA_to a h fun m1 H1 d st1 v a1 p1 g1 r1 h1 => hd a1.s r1 h1
end
end Fn
end
section
set_option Elab.async false
set_option linter.all false
set_option maxRecDepth 100000
set_option maxHeartbeats 4000000
namespace Fn
open PySem PySem.Spec PyProof.Rows L2 LamX

inductive SR where
  | next (env : Ev) (st : Sto) | ret (d : D) (st : Sto) | brk (env : Ev) (st : Sto) | cnt (env : Ev) (st : Sto) | exc (env : Ev) (x : Exn) (st : Sto) | bad
abbrev DS := Ev → Sto → SR
/-- a result, then a statement -/
def R.into {α : Type} (r : R α) (env : Ev) (f : α → Sto → SR) : SR :=
  match r with
  | .ok a st => f a st
  | .exc x st => .exc env x st
  | .bad => .bad
@[simp] theorem R.into_ok {α : Type} (a : α) (st : Sto) (env : Ev) (f : α → Sto → SR) : (R.ok a st).into env f = f a st := rfl
@[simp] theorem R.into_exc {α : Type} (x : Exn) (st : Sto) (env : Ev) (f : α → Sto → SR) : (R.exc x st : R α).into env f = .exc env x st := rfl
@[simp] theorem R.into_bad {α : Type} (env : Ev) (f : α → Sto → SR) : (R.bad : R α).into env f = .bad := rfl
/-- a body's result -/
def SR.toR : SR → R D
  | .next _ st => .ok .non st
  | .ret d st => .ok d st
  | .exc _ x st => .exc x st
  | _ => .bad
section
variable (K : PySem.W.Frag) (mg : Str → Option Value) (T : TB) (W : WX)
/-- what a statement comes to -/
def AfterS (m : List Addr) (H : Hp) (r : SR) (N : List Addr → Hp → Ev → Sto → Prop) (Rt : List Addr → Hp → D → Sto → Prop) (B C : List Addr → Hp → Ev → Sto → Prop) : Prop :=
  match r with
  | .next env st => ∀ m' H', m <+: m' → Grow H H' → RepS K mg T m' H' st → N m' H' env st
  | .ret d st => ∀ m' H', m <+: m' → Grow H H' → RepS K mg T m' H' st → Rt m' H' d st
  | .brk env st => ∀ m' H', m <+: m' → Grow H H' → RepS K mg T m' H' st → B m' H' env st
  | .cnt env st => ∀ m' H', m <+: m' → Grow H H' → RepS K mg T m' H' st → C m' H' env st
  | .exc env x st => ∀ m' H' cls dd σ', m <+: m' → Grow H H' → RepS K mg T m' H' st → RepE K mg m' H' env σ' → RepX K mg m' H' x cls dd → W cls dd σ' H'
  | .bad => False
def kS (Q : L2.St → Hp → Prop) : List Addr → Hp → Ev → Sto → Prop := fun m H env _ => ∀ σ, RepE K mg m H env σ → Q σ H
def tS (f : DS) : TS := fun D σ H => ∃ m env st, At K mg T m env st σ H ∧ AfterS K mg T W m H (f env st) (kS K mg D.nx) (kE K mg D.rt) (kS K mg D.bk) (kS K mg D.ct)
end
section
variable (X : Cx) (T : TB) (W : WX)
abbrev FS (s : Stmt) (f : DS) : Prop := PS X s (tS X.K X.mg T W f)
abbrev FSs (s : List Stmt) (f : DS) : Prop := PSs X s (tS X.K X.mg T W f)
end
section
variable {X : Cx} {T : TB} {W : WX} {m m' : List Addr} {H H' : Hp} {st st' : Sto} {env : Ev} {σ : L2.St}
theorem AfterS.mono {K : PySem.W.Frag} {mg : Str → Option Value} {r : SR} {N Rt B C} (p : m <+: m') (g : Grow H H') (h : AfterS K mg T W m H r N Rt B C) : AfterS K mg T W m' H' r N Rt B C := by
  cases r with
  | next a s => exact fun m2 H2 p2 g2 s2 => h m2 H2 (p.trans p2) (g.trans g2) s2
  | ret a s => exact fun m2 H2 p2 g2 s2 => h m2 H2 (p.trans p2) (g.trans g2) s2
  | brk a s => exact fun m2 H2 p2 g2 s2 => h m2 H2 (p.trans p2) (g.trans g2) s2
  | cnt a s => exact fun m2 H2 p2 g2 s2 => h m2 H2 (p.trans p2) (g.trans g2) s2
  | exc e x s => exact fun m2 H2 c d σ2 p2 g2 s2 e2 x2 => h m2 H2 c d σ2 (p.trans p2) (g.trans g2) s2 e2 x2
  | bad => exact h
theorem AfterS.split {K : PySem.W.Frag} {mg : Str → Option Value} {α : Type} {r : R α} {f : α → Sto → SR} {N Rt B C} (e : RepE K mg m H env σ) (h : AfterS K mg T W m H (r.into env f) N Rt B C) :
    After K mg T (wAt W σ) m H r (fun m1 H1 a st1 => AfterS K mg T W m1 H1 (f a st1) N Rt B C) := by
  cases r with
  | ok a s => exact fun m1 H1 p1 g1 s1 => AfterS.mono (r := f a s) p1 g1 h
  | exc x s => exact fun m1 H1 c d p1 g1 s1 x1 => h m1 H1 c d σ p1 g1 s1 (e.mono p1 g1) x1
  | bad => exact h
theorem tE_into {f : DE} {g : D → Sto → SR} {N Rt B C} (a : At X.K X.mg T m env st σ H) (h : AfterS X.K X.mg T W m H ((f env st).into env g) N Rt B C)
    {Q' : VK} (i : ∀ m1 H1 d st1 v, At X.K X.mg T m1 env st1 σ H1 → m <+: m1 → Grow H H1 → RepV X.K X.mg m1 H1 d v → AfterS X.K X.mg T W m1 H1 (g d st1) N Rt B C → Q' v H1) : tE X.K X.mg T W f σ H Q' :=
  ⟨m, env, st, a, (h.split a.e).imp fun m1 H1 d s p g s1 q v r => i m1 H1 d s v (a.mono p g s1) p g r q⟩
theorem tT_into {f : DT} {g : Bool → Sto → SR} {N Rt B C} (a : At X.K X.mg T m env st σ H) (h : AfterS X.K X.mg T W m H ((f env st).into env g) N Rt B C)
    {Q' : Bool → Hp → Prop} (i : ∀ m1 H1 d st1, At X.K X.mg T m1 env st1 σ H1 → m <+: m1 → Grow H H1 → AfterS X.K X.mg T W m1 H1 (g d st1) N Rt B C → Q' d H1) : tT X.K X.mg T W f σ H Q' :=
  ⟨m, env, st, a, (h.split a.e).imp fun m1 H1 d s p g s1 q => i m1 H1 d s (a.mono p g s1) p g q⟩
theorem tA_into {f : DA} {g : List D → Sto → SR} {N Rt B C} (a : At X.K X.mg T m env st σ H) (h : AfterS X.K X.mg T W m H ((f env st).into env g) N Rt B C)
    {Q' : List V → Hp → Prop} (i : ∀ m1 H1 d st1 v, At X.K X.mg T m1 env st1 σ H1 → m <+: m1 → Grow H H1 → RepVs X.K X.mg m1 H1 d v → AfterS X.K X.mg T W m1 H1 (g d st1) N Rt B C → Q' v H1) : tA X.K X.mg T W f σ H Q' :=
  ⟨m, env, st, a, (h.split a.e).imp fun m1 H1 d s p g s1 q v r => i m1 H1 d s v (a.mono p g s1) p g r q⟩

/-! ### blocks -/
def sNil : DS := fun env st => .next env st
def sSeq (f g : DS) : DS := fun env st => match f env st with
  | .next env' st' => g env' st'
  | r => r
def sExpr (f : DE) : DS := fun env st => (f env st).into env fun _ s1 => .next env s1
def sRet (f : DE) : DS := fun env st => (f env st).into env fun d s1 => .ret d s1
def sRetN : DS := fun _ st => .ret .non st
def sIf (c : DT) (f g : DS) : DS := fun env st => (c env st).into env fun k s1 => if k = true then f env s1 else g env s1
def sBrk : DS := fun env st => .brk env st
def sCnt : DS := fun env st => .cnt env st
variable {s : Stmt} {ss : List Stmt} {e : Expr} {pos : Pos} {f g : DS} {fa : DE}
theorem at_next {D : L2.St → Hp → Prop} (a : At X.K X.mg T m env st σ H) (h : ∀ m' H', m <+: m' → Grow H H' → RepS X.K X.mg T m' H' st → kS X.K X.mg D m' H' env st) : D σ H := h m H (List.prefix_refl _) (Grow.refl _) a.s σ a.e
theorem fss_nil : FSs X T W [] sNil := PSs.imp pss_nil fun D σ H ⟨m, env, st, a, h⟩ => at_next a h
theorem seq_of (t : TS) {D : Ends} {g : DS} {r : SR} (h : AfterS X.K X.mg T W m H (match r with | .next env' st' => g env' st' | r => r) (kS X.K X.mg D.nx) (kE X.K X.mg D.rt) (kS X.K X.mg D.bk) (kS X.K X.mg D.ct)) :
    AfterS X.K X.mg T W m H r (kS X.K X.mg (tS X.K X.mg T W g D)) (kE X.K X.mg D.rt) (kS X.K X.mg D.bk) (kS X.K X.mg D.ct) := by
  cases r with
  | next env' st' => exact fun m2 H2 p2 g2 s2 σ2 e2 => ⟨m2, env', st', ⟨e2, s2⟩, AfterS.mono p2 g2 h⟩
  | _ => exact h
theorem fss_cons (h1 : FS X T W s f) (h2 : FSs X T W ss g) : FSs X T W (s :: ss) (sSeq f g) :=
  PSs.imp (pss_cons h1 h2) fun D σ H ⟨m, env, st, a, h⟩ => ⟨m, env, st, a, seq_of (tS X.K X.mg T W g) h⟩
theorem fss_one (h1 : FS X T W s f) : FSs X T W [s] f := pss_one h1
theorem fs_expr (he : FE X T W e fa) (hs : swapsWith e none pos.line X.env = pure false := by rfl) : FS X T W (.Expr e pos) (sExpr fa) :=
  PS.imp (ps_expr he hs) fun D σ H ⟨m, env, st, a, h⟩ => tE_into a h fun m1 H1 d st1 v a1 p1 g1 r1 h1 => at_next a1 h1
theorem fs_ret (he : FE X T W e fa) : FS X T W (.Return (some e) pos) (sRet fa) :=
  PS.imp (ps_ret he) fun D σ H ⟨m, env, st, a, h⟩ => tE_into a h fun m1 H1 d st1 v a1 p1 g1 r1 h1 => h1 m1 H1 (List.prefix_refl _) (Grow.refl _) a1.s v r1
theorem fs_retN : FS X T W (.Return none pos) sRetN := PS.imp ps_retN fun D σ H ⟨m, env, st, a, h⟩ => h m H (List.prefix_refl _) (Grow.refl _) a.s _ .non
theorem fs_if {c : Expr} {x y : List Stmt} {tc : DT} (hc : FT X T W c tc) (ha : FSs X T W x f) (hb : FSs X T W y g) : FS X T W (.If c x y pos) (sIf tc f g) := by
  refine PS.imp (ps_if hc ha hb) fun D σ H ⟨m, env, st, a, h⟩ => tT_into a h fun m1 H1 k st1 a1 p1 g1 h1 => ?_
  cases k with
  | true => exact ⟨m1, env, st1, a1, h1⟩
  | false => exact ⟨m1, env, st1, a1, h1⟩
theorem fs_pass : FS X T W (.Pass pos) sNil := PS.imp ps_pass fun D σ H ⟨m, env, st, a, h⟩ => at_next a h
theorem fs_brk : FS X T W (.Break pos) sBrk := PS.imp ps_break fun D σ H ⟨m, env, st, a, h⟩ => at_next a h
theorem fs_cnt : FS X T W (.Continue pos) sCnt := PS.imp ps_continue fun D σ H ⟨m, env, st, a, h⟩ => at_next a h

/-! ### targets -/
inductive Pat where
  | nm (i : Nat) | tp (ps : List Pat)
mutual
def Pat.slots : Pat → List Nat
  | .nm i => [i]
  | .tp ps => slotsL ps
def slotsL : List Pat → List Nat
  | [] => []
  | p :: ps => p.slots ++ slotsL ps
end
mutual
def vG (K : PySem.W.Frag) : Pat → V → L2.St → Hp → (L2.St → Hp → Prop) → Prop
  | .nm i, v, σ, H, Q => Q (σ.set i (some v)) H
  | .tp ps, v, σ, H, Q => ∃ a xs, v = .ref a ∧ SqT K H a xs ∧ xs.length = ps.length ∧ vGs K ps xs σ H Q
def vGs (K : PySem.W.Frag) : List Pat → List V → L2.St → Hp → (L2.St → Hp → Prop) → Prop
  | [], vs, σ, H, Q => vs = [] ∧ Q σ H
  | p :: ps, vs, σ, H, Q => ∃ v r, vs = v :: r ∧ vG K p v σ H fun σ' H' => vGs K ps r σ' H' Q
end
mutual
def dG : Pat → D → Ev → Option Ev
  | .nm i, d, env => some (env.set i (some d))
  | .tp ps, d, env => match d with
    | .tup ds => if ds.length = ps.length then dGs ps ds env else none
    | _ => none
def dGs : List Pat → List D → Ev → Option Ev
  | [], ds, env => match ds with
    | [] => some env
    | _ => none
  | p :: ps, ds, env => match ds with
    | d :: r => match dG p d env with
      | some env1 => dGs ps r env1
      | none => none
    | [] => none
end
theorem RepE.set {K : PySem.W.Frag} {mg : Str → Option Value} (h : RepE K mg m H env σ) {i : Nat} {d : D} {v : V} (r : RepV K mg m H d v) : RepE K mg m H (env.set i (some d)) (σ.set i (some v)) := by
  refine ⟨by simp [h.len], fun j d' e => ?_⟩
  by_cases hj : i = j
  · subst hj
    by_cases hl : i < env.length
    · rw [List.getElem?_set_self hl] at e
      cases e
      exact ⟨v, List.getElem?_set_self (by rw [← h.len]; exact hl), r⟩
    · rw [List.getElem?_eq_none (by simpa using hl)] at e
      cases e
  · rw [List.getElem?_set_ne hj] at e
    rw [List.getElem?_set_ne hj]
    exact h.at_ j d' e
theorem wipe_in {σ : L2.St} {j : Nat} : ∀ {vs : List Nat}, j ∈ vs → (L2.wipe σ vs)[j]? = if j < σ.length then some none else none
  | [], h => by cases h
  | v :: vs, h => by
    unfold L2.wipe
    by_cases e : v = j
    · subst e
      by_cases hl : v < σ.length
      · rw [List.getElem?_set_self (by rw [L2.wipe_length]; exact hl), if_pos hl]
      · rw [List.getElem?_eq_none (by simp [L2.wipe_length]; omega), if_neg hl]
    · rw [List.getElem?_set_ne e]
      exact wipe_in (by
        rcases List.mem_cons.mp h with z | z
        · exact (e z.symm).elim
        · exact z)
theorem wipe_set {σ : L2.St} {i : Nat} {x : Option V} {vs : List Nat} (h : i ∈ vs) : L2.wipe (σ.set i x) vs = L2.wipe σ vs := by
  refine List.ext_getElem? fun j => ?_
  by_cases hj : j ∈ vs
  · rw [wipe_in hj, wipe_in hj, List.length_set]
  · rw [L2.wipe_out hj, L2.wipe_out hj, List.getElem?_set_ne (fun e => hj (by rw [← e]; exact h))]
mutual
theorem vG_of {K : PySem.W.Frag} {mg : Str → Option Value} : ∀ (p : Pat) {d : D} {v : V} {env env' : Ev} {σ : L2.St} {Q : L2.St → Hp → Prop}, RepE K mg m H env σ → RepV K mg m H d v → dG p d env = some env' →
    (∀ σ', RepE K mg m H env' σ' → (∀ own : List Nat, (∀ i ∈ p.slots, i ∈ own) → L2.wipe σ' own = L2.wipe σ own) → Q σ' H) → vG K p v σ H Q
  | .nm i, d, v, env, env', σ, Q, e, r, h, q => by
    have z : env.set i (some d) = env' := by simpa [dG] using h
    subst z
    exact q _ (e.set r) fun own ho => wipe_set (ho i (by simp [Pat.slots]))
  | .tp ps, d, v, env, env', σ, Q, e, r, h, q => by
    cases r with
    | tup hp r =>
      simp only [dG] at h
      split at h
      · rename_i hl
        exact ⟨_, _, rfl, hp, by rw [← r.length]; exact hl, vGs_of ps e r h fun σ' e' w => q σ' e' fun own ho => w own fun i hi => ho i (by simpa [Pat.slots] using hi)⟩
      · cases h
    | _ => simp [dG] at h
theorem vGs_of {K : PySem.W.Frag} {mg : Str → Option Value} : ∀ (ps : List Pat) {ds : List D} {vs : List V} {env env' : Ev} {σ : L2.St} {Q : L2.St → Hp → Prop}, RepE K mg m H env σ → RepVs K mg m H ds vs → dGs ps ds env = some env' →
    (∀ σ', RepE K mg m H env' σ' → (∀ own : List Nat, (∀ i ∈ slotsL ps, i ∈ own) → L2.wipe σ' own = L2.wipe σ own) → Q σ' H) → vGs K ps vs σ H Q
  | [], ds, vs, env, env', σ, Q, e, r, h, q => by
    cases r with
    | nil =>
      have z : env = env' := by simpa [dGs] using h
      subst z
      exact ⟨rfl, q σ e fun _ _ => rfl⟩
    | cons _ _ => simp [dGs] at h
  | p :: ps, ds, vs, env, env', σ, Q, e, r, h, q => by
    cases r with
    | nil => simp [dGs] at h
    | cons r t =>
      simp only [dGs] at h
      split at h
      · rename_i env1 h1
        refine ⟨_, _, rfl, vG_of p e r h1 fun σ1 e1 w1 => vGs_of ps e1 t h fun σ2 e2 w2 => q σ2 e2 fun own ho => ?_⟩
        rw [w2 own fun i hi => ho i (by simp [slotsL, hi]), w1 own fun i hi => ho i (by simp [slotsL, hi])]
      · cases h
end
abbrev FG (X : Cx) (e : Expr) (p : Pat) : Prop := PG X e (vG X.K p)
abbrev FGs (X : Cx) (es : List Expr) (ps : List Pat) : Prop := PGs X es (vGs X.K ps)
theorem PGs.imp {es : List Expr} {t t' : TGs} (h : PGs X es t) (i : ∀ vs σ H Q, t' vs σ H Q → t vs σ H Q) : PGs X es t' := ⟨fun pins s σ H vs us Q I r w => h.run pins s σ H vs us Q I r (i vs σ H Q w)⟩
theorem fg_name {i : Nat} {x : Str} (hN : X.N.Nodup) (hi : X.N[i]? = some x := by rfl) (hx : Loc X.env.scope x := by first | exact Or.inl rfl | exact Or.inr rfl) (hf : X.fn x = true ∨ X.env.scope.names.lookup x = some .local := by first | exact .inl rfl | exact .inr rfl) : FG X (.Name x pos) (.nm i) :=
  PG.imp (pg_name hN hi hx hf) fun v σ H Q h => by unfold vG at h; exact h
theorem fgs_nil : FGs X [] [] := PGs.imp pgs_nil fun vs σ H Q h => by unfold vGs at h; exact h
theorem fgs_cons {es : List Expr} {p : Pat} {ps : List Pat} (h1 : FG X e p) (h2 : FGs X es ps) (hs : (assignEach (e :: es) X.env).map (·.2) = assign e X.env :: (assignEach es X.env).map (·.2) := by rfl) : FGs X (e :: es) (p :: ps) :=
  PGs.imp (pgs_cons h1 h2 hs) fun vs σ H Q h => by unfold vGs at h; exact h
/-- a, b, .. = a tuple -/
theorem fg_tup {es : List Expr} {kk : Nat} {ps : List Pat} (hc : X.calm = true) (h : FGs X es ps) (hn : (assignEach es X.env).length = ps.length := by rfl) (hst : (assignEach es X.env).findIdx? (·.1) = none := by rfl) : FG X (.Tuple es kk pos) (.tp ps) :=
  PG.imp (pg_tup hc h hn hst) fun v σ H Q h => by unfold vG at h; exact h
def sAsg (f : DE) (p : Pat) : DS := fun env st => (f env st).into env fun d s1 => match dG p d env with
  | some env1 => .next env1 s1
  | none => .bad
theorem fs_asg {tg : Expr} {p : Pat} (he : FE X T W e fa) (hg : FG X tg p) (hs : swapsWithSole [tg] e pos.line X.env = pure false := by rfl) (hw : swappedStores [tg] e X.env = pure none := by rfl)
    (h1 : (assignEach [tg] X.env).map (·.2) = [assign tg X.env] := by rfl) : FS X T W (.Assign [tg] e pos) (sAsg fa p) :=
  PS.imp (ps_asg he hg hs hw h1) fun D σ H ⟨m, env, st, a, h⟩ => tE_into a h fun m1 H1 d st1 v a1 p1 g1 r1 h1 => by
    cases q : dG p d env with
    | none =>
      rw [q] at h1
      exact h1.elim
    | some env1 =>
      rw [q] at h1
      exact vG_of p a1.e r1 q fun σ2 e2 _ => at_next ⟨e2, a1.s⟩ h1
theorem fs_set {i : Nat} {x : Str} {pos' : Pos} (hN : X.N.Nodup) (he : FE X T W e fa) (hi : X.N[i]? = some x := by rfl) (hx : Loc X.env.scope x := by first | exact Or.inl rfl | exact Or.inr rfl) (hs : swapsWith e (some (.Name x pos')) pos.line X.env = pure false := by rfl)
    (hf : X.fn x = true ∨ X.env.scope.names.lookup x = some .local := by first | exact .inl rfl | exact .inr rfl) : FS X T W (.Assign [.Name x pos'] e pos) (sAsg fa (.nm i)) :=
  PS.imp (ps_set hN hi hx he hs hf) fun D σ H ⟨m, env, st, a, h⟩ => tE_into a h fun m1 H1 d st1 v a1 p1 g1 r1 h1 => by
    simp only [dG] at h1
    exact h1 m1 H1 (List.prefix_refl _) (Grow.refl _) a1.s _ (a1.e.set r1)
/-- a, b = x, y, both sides written -/
def sPar (is_ : List Nat) (f : DA) : DS := fun env st => (f env st).into env fun ds s1 => if ds.length = is_.length then .next ((is_.zip ds).foldl (fun e p => e.set p.1 (some p.2)) env) s1 else .bad
theorem fs_par {i j : Nat} {x y : Str} {a b : Expr} {ga : DA} {px py pt : Pos} {kt k2 pt2} (hc : X.calm = true) (hN : X.N.Nodup) (ha : FA X T W [a, b] ga) (hi : X.N[i]? = some x := by rfl) (hj : X.N[j]? = some y := by rfl) (hij : i ≠ j := by decide)
    (hx : X.env.scope.names.lookup x = some .local := by rfl) (hy : X.env.scope.names.lookup y = some .local := by rfl)
    (hw : swappedStores [.Tuple [.Name x px, .Name y py] kt pt] (.Tuple [a, b] k2 pt2) X.env = pure (some [x, y]) := by rfl)
    (hs : swapsWithSole [.Tuple [.Name x px, .Name y py] kt pt] (.Tuple [a, b] k2 pt2) pos.line X.env = pure false := by rfl) :
    FS X T W (.Assign [.Tuple [.Name x px, .Name y py] kt pt] (.Tuple [a, b] k2 pt2) pos) (sPar [i, j] ga) := by
  refine PS.imp (ps_par hc hN hi hj hij hx hy ha hw hs) fun D σ H ⟨m, env, st, a, h⟩ => tA_into a h fun m1 H1 ds st1 vs a1 p1 g1 r1 h1 => ?_
  split at h1
  · rename_i hl
    match ds, hl, r1, h1 with
    | [d1, d2], _, .cons q1 (.cons q2 .nil), h1 => exact ⟨_, _, rfl, h1 m1 H1 (List.prefix_refl _) (Grow.refl _) a1.s _ ((a1.e.set q1).set q2)⟩
  · exact h1.elim

/-! ### what is walked -/
/-- the things walked, and what must stand in the store meanwhile -/
structure IT where
  ds : List D
  watch : List (Nat × O)
def IT.live (it : IT) (st : Sto) : Prop := ∀ p ∈ it.watch, st[p.1]? = some p.2
structure WalkD (K : PySem.W.Frag) (mg : Str → Option Value) (T : TB) (J : It) (m : List Addr) (H : Hp) (it : IT) : Prop where
  go : ∀ i m' H' st', m <+: m' → Grow H H' → RepS K mg T m' H' st' → it.live st' → i < it.ds.length → J.go i H'
  stop : ∀ m' H' st', m <+: m' → Grow H H' → RepS K mg T m' H' st' → it.live st' → J.stop it.ds.length H'
  yld : ∀ i m' H' st' x H'', m <+: m' → Grow H H' → RepS K mg T m' H' st' → it.live st' → i < it.ds.length → J.yld i H' x H'' → ∃ d, it.ds[i]? = some d ∧ Grow H' H'' ∧ RepS K mg T m' H'' st' ∧ RepV K mg m' H'' d x
abbrev DI := Ev → Sto → R IT
def tI (K : PySem.W.Frag) (mg : Str → Option Value) (T : TB) (W : WX) (f : DI) : TI := fun σ H Q => ∃ m env st, At K mg T m env st σ H ∧ After K mg T (wAt W σ) m H (f env st) (fun m' H' it _ => ∀ J, WalkD K mg T J m' H' it → Q J H')
abbrev FI (X : Cx) (T : TB) (W : WX) (tg e : Expr) (f : DI) : Prop := PI X tg e (tI X.K X.mg T W f)
open Classical in
/-- a for's turns -/
noncomputable def loopS (live : Sto → Prop) (tg : Pat) (body : DS) : List D → Ev → Sto → SR
  | [], env, st => if live st then .next env st else .bad
  | d :: ds, env, st => if live st then (match dG tg d env with
    | some env1 => (match body env1 st with
      | .next e s => loopS live tg body ds e s
      | .cnt e s => loopS live tg body ds e s
      | .brk e s => .next e s
      | r => r)
    | none => .bad) else .bad
noncomputable def sFor (fi : DI) (tg : Pat) (body : DS) : DS := fun env st => (fi env st).into env fun it s1 => loopS it.live tg body it.ds env s1
theorem tI_into {f : DI} {g : IT → Sto → SR} {N Rt B C} (a : At X.K X.mg T m env st σ H) (h : AfterS X.K X.mg T W m H ((f env st).into env g) N Rt B C)
    {Q' : It → Hp → Prop} (i : ∀ m1 H1 it st1 J, At X.K X.mg T m1 env st1 σ H1 → m <+: m1 → Grow H H1 → WalkD X.K X.mg T J m1 H1 it → AfterS X.K X.mg T W m1 H1 (g it st1) N Rt B C → Q' J H1) : tI X.K X.mg T W f σ H Q' :=
  ⟨m, env, st, a, (h.split a.e).imp fun m1 H1 d s p g s1 q J w => i m1 H1 d s J (a.mono p g s1) p g w q⟩
theorem loop_of {tg : Pat} {body : DS} {J : It} {it : IT} {m0 : List Addr} {H0 : Hp} (w : WalkD X.K X.mg T J m0 H0 it) {D : Ends} (p0 : m0 <+: m) (g0 : Grow H0 H) (a : At X.K X.mg T m env st σ H)
    (h : AfterS X.K X.mg T W m H (loopS it.live tg body it.ds env st) (kS X.K X.mg D.nx) (kE X.K X.mg D.rt) (kS X.K X.mg D.bk) (kS X.K X.mg D.ct)) :
    ∃ Wv : Nat → Nat → L2.St → Hp → Prop, (∃ n, Wv 0 n σ H) ∧ ∀ i n σ H, Wv i n σ H →
      (J.stop i H ∧ D.nx σ H) ∨ (J.go i H ∧ ∃ N : L2.St → Hp → Prop, (∀ σ' H', N σ' H' → ∃ n', n' < n ∧ Wv (i + 1) n' σ' H') ∧ ∀ x H', J.yld i H x H' → vG X.K tg x σ H' fun σ2 H2 => tS X.K X.mg T W body { D with nx := N, ct := N, bk := D.nx } σ2 H2) := by
  refine ⟨fun i n σ H => n = it.ds.length - i ∧ i ≤ it.ds.length ∧ ∃ m env st, m0 <+: m ∧ Grow H0 H ∧ At X.K X.mg T m env st σ H ∧ AfterS X.K X.mg T W m H (loopS it.live tg body (it.ds.drop i) env st) (kS X.K X.mg D.nx) (kE X.K X.mg D.rt) (kS X.K X.mg D.bk) (kS X.K X.mg D.ct),
    ⟨_, rfl, Nat.zero_le _, m, env, st, p0, g0, a, h⟩, ?_⟩
  rintro i n σ H ⟨rfl, hi, m, env, st, p, g, a, h⟩
  by_cases hlt : i < it.ds.length
  · obtain ⟨d, hd⟩ : ∃ d, it.ds[i]? = some d := ⟨it.ds[i], by simp [hlt]⟩
    have ed : it.ds.drop i = d :: it.ds.drop (i + 1) := by
      rw [List.drop_eq_getElem_cons hlt]
      have := List.getElem?_eq_some_iff.mp hd
      rw [this.2]
    rw [ed] at h
    unfold loopS at h
    split at h
    · rename_i hlive
      refine .inr ⟨w.go i m H st p g a.s hlive hlt, fun σ' H' => ∃ m env st, m0 <+: m ∧ Grow H0 H' ∧ At X.K X.mg T m env st σ' H' ∧ AfterS X.K X.mg T W m H' (loopS it.live tg body (it.ds.drop (i + 1)) env st) (kS X.K X.mg D.nx) (kE X.K X.mg D.rt) (kS X.K X.mg D.bk) (kS X.K X.mg D.ct), fun σ' H' q => ⟨_, by omega, rfl, hlt, q⟩, fun x H' y => ?_⟩
      obtain ⟨d', hd', g', s', r'⟩ := w.yld i m H st x H' p g a.s hlive hlt y
      rw [hd] at hd'
      cases hd'
      cases et : dG tg d env with
      | none =>
        rw [et] at h
        exact h.elim
      | some env1 =>
      rw [et] at h
      refine vG_of tg (a.e.mono (List.prefix_refl _) g') r' et fun σ1 e1 _ => ⟨m, env1, st, ⟨e1, s'⟩, ?_⟩
      have q := AfterS.mono (List.prefix_refl _) g' h
      clear h
      dsimp only at q
      cases eb : body env1 st with
      | next e2 s2 =>
        rw [eb] at q
        exact fun m2 H2 p2 g2 s2' σ2 e2 => ⟨m2, _, _, p.trans p2, (g.trans g').trans g2, ⟨e2, s2'⟩, AfterS.mono p2 g2 q⟩
      | cnt e2 s2 =>
        rw [eb] at q
        exact fun m2 H2 p2 g2 s2' σ2 e2 => ⟨m2, _, _, p.trans p2, (g.trans g').trans g2, ⟨e2, s2'⟩, AfterS.mono p2 g2 q⟩
      | brk e2 s2 =>
        rw [eb] at q
        exact q
      | ret d2 s2 =>
        rw [eb] at q
        exact q
      | exc e2 x2 s2 =>
        rw [eb] at q
        exact q
      | bad =>
        rw [eb] at q
        exact q
    · exact h.elim
  · have e : i = it.ds.length := by omega
    subst e
    rw [List.drop_length] at h
    unfold loopS at h
    split at h
    · rename_i hlive
      exact .inl ⟨w.stop m H st p g a.s hlive, at_next a h⟩
    · exact h.elim
theorem fs_for {tg it : Expr} {body : List Stmt} {fi : DI} {gd : Pat} {fb : DS} (hp : PassesOwn (model X.prog X.w) X.A X.env X.xe) (hc : X.calm = true) (hi : FI X T W tg it fi) (hg : FG X tg gd) (hb : FSs X T W body fb)
    (hs : ∀ x, foldedSetIterable it X.env x = pure x := by intro _; rfl) : FS X T W (.For tg it body [] pos) (sFor fi gd fb) :=
  PS.imp (ps_for hp hc hi hg hb hs) fun D σ H ⟨m, env, st, a, h⟩ => tI_into a h fun m1 H1 it st1 J a1 p1 g1 w h1 => loop_of w (List.prefix_refl _) (Grow.refl _) a1 h1
end
end Fn
end
section
set_option Elab.async false
set_option linter.all false
set_option maxRecDepth 100000
set_option maxHeartbeats 4000000
namespace Fn
open PySem PySem.Spec PyProof.Rows L2 LamX
/-- a result that must be no exception -/
def R.nox {α : Type} : R α → R α
  | .ok a s => .ok a s
  | _ => .bad
@[simp] theorem R.nox_ok {α : Type} (a : α) (st : Sto) : (R.ok a st).nox = .ok a st := rfl
/-- no exception -/
abbrev W0 : WX := fun _ _ _ _ => False
section
variable {X : Cx} {T : TB} {W : WX} {m m' : List Addr} {H H' : Hp} {st st' : Sto} {env : Ev} {σ : L2.St} {pos : Pos}
def wipeE (env : Ev) : List Nat → Ev
  | [] => env
  | v :: vs => (wipeE env vs).set v none
theorem RepE.wipe {K : PySem.W.Frag} {mg : Str → Option Value} (h : RepE K mg m H env σ) : ∀ vs : List Nat, RepE K mg m H (wipeE env vs) (L2.wipe σ vs)
  | [] => h
  | v :: vs => by
    have q := RepE.wipe h vs
    unfold wipeE L2.wipe
    refine ⟨by simp [q.len], fun j d e => ?_⟩
    by_cases hj : v = j
    · subst hj
      by_cases hl : v < (wipeE env vs).length
      · rw [List.getElem?_set_self hl] at e
        cases e
      · rw [List.getElem?_eq_none (by simpa using hl)] at e
        cases e
    · rw [List.getElem?_set_ne hj] at e
      rw [List.getElem?_set_ne hj]
      exact q.at_ j d e
open Classical in
/-- a comprehension's turns: i0 the new list; the target stores at the own slots alone -/
noncomputable def loopC (live : Sto → Prop) (i0 : Nat) (tg : Pat) (test : DT) (elt : DE) (env : Ev) : List D → Sto → R Unit
  | [], st => if live st then .ok () st else .bad
  | d :: ds, st => if live st then (match dG tg d env with
      | some env1 => (test env1 st).nox.bind fun k s2 => if k = true then (elt env1 s2).nox.bind fun y s3 => (match s3[i0]? with
          | some (.lst acc) => if acc.length < lineN then loopC live i0 tg test elt env ds (s3.set i0 (.lst (acc ++ [y]))) else .bad
          | _ => .bad) else loopC live i0 tg test elt env ds s2
      | none => .bad) else .bad
noncomputable def dLc (own : List Nat) (fi : DI) (tg : Pat) (test : DT) (elt : DE) : DE := fun env st => (fi env st).bind fun it s1 => (loopC it.live s1.length tg test elt (wipeE env own) it.ds (s1 ++ [.lst []])).bind fun _ s2 => .ok (.ref s1.length) s2
theorem tI_to {β : Type} {f : DI} {g : IT → Sto → R β} {k : List Addr → Hp → β → Sto → Prop} (a : At X.K X.mg T m env st σ H) (h : After X.K X.mg T (wAt W σ) m H ((f env st).bind g) k)
    {Q' : It → Hp → Prop} (i : ∀ m1 H1 it st1 J, At X.K X.mg T m1 env st1 σ H1 → m <+: m1 → Grow H H1 → WalkD X.K X.mg T J m1 H1 it → After X.K X.mg T (wAt W σ) m1 H1 (g it st1) k → Q' J H1) : tI X.K X.mg T W f σ H Q' :=
  ⟨m, env, st, a, h.split.imp fun m1 H1 d s p g s1 q J w => i m1 H1 d s J (a.mono p g s1) p g w q⟩
theorem After.unnox {α : Type} {K : PySem.W.Frag} {mg : Str → Option Value} {r : R α} {k : List Addr → Hp → α → Sto → Prop} {E E' : XK} (h : After K mg T E m H r.nox k) : After K mg T E' m H r k := by
  cases r with
  | ok a s => exact h
  | exc x s => exact h.elim
  | bad => exact h.elim
abbrev FTs (X : Cx) (T : TB) (W : WX) (ifs : List Expr) (f : DT) : Prop := PTs X ifs (tT X.K X.mg T W f)
def bYes : DT := fun _ st => .ok true st
theorem fts_nil : FTs X T W [] bYes := ⟨fun pins s σ H Q I ⟨m, env, st, a, h⟩ => pts_nil.run pins s σ H Q I (h m H (List.prefix_refl _) (Grow.refl _) a.s)⟩
theorem fts_one {c : Expr} {f : DT} (h : FT X T W c f) : FTs X T W [c] f := pts_one h
theorem lc_of {tg : Pat} {test : DT} {elt : DE} {own : List Nat} {J : It} {it : IT} {m0 : List Addr} {H0 : Hp} {D : Addr} {i0 : Nat} {st0 : Sto} (w : WalkD X.K X.mg T J m0 H0 it) (hown : ∀ i ∈ tg.slots, i ∈ own) {Q : VK}
    (e0 : RepE X.K X.mg m0 H0 env σ) (s0 : RepS X.K X.mg T m0 H0 st0) (hi0 : i0 = st0.length) (hD : H0 D = none)
    (h : After X.K X.mg T (wAt W σ) (m0 ++ [D]) (upd H0 D (.lst [])) (loopC it.live i0 tg test elt (wipeE env own) it.ds (st0 ++ [.lst []])) (fun m H _ st => kE X.K X.mg Q m H (.ref i0) st)) :
    ∃ Wv : Nat → Nat → Hp → Prop, (∃ n, Wv 0 n (upd H0 D (.lst []))) ∧ ∀ i n H, Wv i n H →
      (J.stop i H ∧ Q (.ref D) H) ∨ (J.go i H ∧ ∃ Nx : Hp → Prop, (∀ H', Nx H' → ∃ n', n' < n ∧ Wv (i + 1) n' H') ∧ ∀ x H', J.yld i H x H' → vG X.K tg x (L2.wipe σ own) H' fun σ2 H2 => L2.wipe σ2 own = L2.wipe σ own ∧ tT X.K X.mg T W0 test σ2 H2 fun b H3 =>
        if b = true then tE X.K X.mg T W0 elt σ2 H3 fun y H4 => ∃ acc, H4 D = some (.lst acc) ∧ acc.length < sizeLine ∧ Nx (upd H4 D (.lst (acc ++ [y]))) else Nx H3) := by
  subst hi0
  have g0 : Grow H0 (upd H0 D (.lst [])) := Grow.new hD
  have s1 : RepS X.K X.mg T (m0 ++ [D]) (upd H0 D (.lst [])) (st0 ++ [.lst []]) := s0.new hD ⟨[], upd_same, .nil⟩
  have ww : ∀ σ : L2.St, L2.wipe (L2.wipe σ own) own = L2.wipe σ own := fun σ => by
    refine List.ext_getElem? fun j => ?_
    by_cases hj : j ∈ own
    · rw [wipe_in hj, wipe_in hj, L2.wipe_length]
    · rw [L2.wipe_out hj]
  refine ⟨fun i n H => n = it.ds.length - i ∧ i ≤ it.ds.length ∧ ∃ m st, m0 ++ [D] <+: m ∧ Grow H0 H ∧ RepS X.K X.mg T m H st ∧ After X.K X.mg T (wAt W σ) m H (loopC it.live st0.length tg test elt (wipeE env own) (it.ds.drop i) st) (fun m H _ st => kE X.K X.mg Q m H (.ref st0.length) st),
    ⟨_, rfl, Nat.zero_le _, m0 ++ [D], _, List.prefix_refl _, g0, s1, h⟩, ?_⟩
  rintro i n H ⟨rfl, hi, m, st, p, g, s, h⟩
  have pm : m0 <+: m := (List.prefix_append _ _).trans p
  have hmD : m[st0.length]? = some D := pre_get p (by rw [← s0.len]; simp)
  by_cases hlt : i < it.ds.length
  · obtain ⟨d, hd⟩ : ∃ d, it.ds[i]? = some d := ⟨it.ds[i], by simp [hlt]⟩
    have ed : it.ds.drop i = d :: it.ds.drop (i + 1) := by
      rw [List.drop_eq_getElem_cons hlt]
      have := List.getElem?_eq_some_iff.mp hd
      rw [this.2]
    rw [ed] at h
    unfold loopC at h
    split at h
    · rename_i hlive
      refine .inr ⟨w.go i m H st pm g s hlive hlt, fun H' => ∃ m st, m0 ++ [D] <+: m ∧ Grow H0 H' ∧ RepS X.K X.mg T m H' st ∧ After X.K X.mg T (wAt W σ) m H' (loopC it.live st0.length tg test elt (wipeE env own) (it.ds.drop (i + 1)) st) (fun m H _ st => kE X.K X.mg Q m H (.ref st0.length) st), fun H' q => ⟨_, by omega, rfl, hlt, q⟩, fun x H' y => ?_⟩
      obtain ⟨d', hd', g', s', r'⟩ := w.yld i m H st x H' pm g s hlive hlt y
      rw [hd] at hd'
      cases hd'
      cases et : dG tg d (wipeE env own) with
      | none =>
        rw [et] at h
        exact h.elim
      | some env1 =>
      rw [et] at h
      dsimp only at h
      refine vG_of tg ((e0.mono pm (g.trans g')).wipe own) r' et fun σ1 e1 w1 => ⟨by rw [w1 own hown, ww], m, env1, st, ⟨e1, s'⟩, ?_⟩
      refine (After.unnox ((After.mono (List.prefix_refl _) g' h).split)).imp fun m2 H2 k s2 p2 g2 s2' q2 => ?_
      cases k with
      | false => exact ⟨m2, s2, p.trans p2, (g.trans g').trans g2, s2', q2⟩
      | true =>
        refine ⟨m2, env1, s2, ⟨e1.mono p2 g2, s2'⟩, (After.unnox (After.split q2)).imp fun m3 H3 yd s3 p3 g3 s3' q3 v r3 => ?_⟩
        have hm3 : m3[st0.length]? = some D := pre_get (p2.trans p3) hmD
        split at q3
        · rename_i acc hacc
          split at q3
          · rename_i hsz
            obtain ⟨vs, hv, rv⟩ := s3'.at' hacc hm3
            have hput := s3'.put (u := .lst (vs ++ [v])) (o' := .lst (acc ++ [yd])) hacc hm3
            have gput : Grow H3 (upd H3 D (.lst (vs ++ [v]))) := Grow.put hv (by intro xs z; cases z) (by intro a b z; cases z) (by intro a z; cases z)
            obtain ⟨_, s4⟩ := hput ⟨_, upd_same, (rv.mono (List.prefix_refl _) gput).app (.cons (r3.mono (List.prefix_refl _) gput) .nil)⟩
            exact ⟨vs, hv, by rw [line_eq, ← rv.length]; exact hsz, m3, _, (p.trans p2).trans p3, (((g.trans g').trans g2).trans g3).trans gput, s4, After.mono (List.prefix_refl _) gput q3⟩
          · exact q3.elim
        · exact q3.elim
    · exact h.elim
  · have e : i = it.ds.length := by omega
    subst e
    rw [List.drop_length] at h
    unfold loopC at h
    split at h
    · rename_i hlive
      exact .inl ⟨w.stop m H st pm g s hlive, h m H (List.prefix_refl _) (Grow.refl _) s _ (.ref hmD)⟩
    · exact h.elim
theorem tLc_of {tg : Pat} {test : DT} {elt : DE} {fi : DI} {own : List Nat} (hown : ∀ i ∈ tg.slots, i ∈ own) {Q : VK} (a : At X.K X.mg T m env st σ H) (h : After X.K X.mg T (wAt W σ) m H (dLc own fi tg test elt env st) (kE X.K X.mg Q)) :
    tLc (tI X.K X.mg T W fi) (vG X.K tg) (tT X.K X.mg T W0 test) (tE X.K X.mg T W0 elt) own σ H Q := by
  refine tI_to a h fun m1 H1 it st1 J a1 p1 g1 w1 h1 D hD => ?_
  refine lc_of (W := W) w1 hown a1.e a1.s rfl hD ?_
  exact (After.mono (List.prefix_append _ _) (Grow.new hD) h1).split.imp fun m2 H2 _ s2 p2 g2 s2' q v r => q m2 H2 (List.prefix_refl _) (Grow.refl _) s2' v r
theorem fe_lc {elt tg iter : Expr} {ifs : List Expr} {scope : Scope} {own : List (Str × Nat)} {fi : DI} {p : Pat} {tt : DT} {te : DE} (hc : X.calm = true) (hN : X.N.Nodup) (hi : FI X T W tg iter fi) (ok : BlkOk X.N X.env.scope scope own)
    (hg : ∀ (s : Shared) (H : Hp) (C : Addr) (cl : List (Str × Addr)) (fp : List Addr), FG (X.blk s H scope (compEnvC scope cl C X.env) fp) tg p)
    (ht : ∀ (s : Shared) (H : Hp) (C : Addr) (cl : List (Str × Addr)) (fp : List Addr), FTs (X.blk s H scope (compEnvC scope cl C X.env) fp) T W0 ifs tt)
    (he : ∀ (s : Shared) (H : Hp) (C : Addr) (cl : List (Str × Addr)) (fp : List Addr), FE (X.blk s H scope (compEnvC scope cl C X.env) fp) T W0 elt te)
    (hown : ∀ i ∈ p.slots, i ∈ own.map (·.2) := by decide) (hs : ∀ x, foldedSetIterable iter X.env x = pure x := by intro _; rfl) :
    FE X T W (.ListComp elt [⟨tg, iter, ifs, 0⟩] scope pos) (dLc (own.map (·.2)) fi p tt te) :=
  PE.imp (pe_lc hc hN hi ok hg ht he hs) fun σ H Q ⟨m, env, st, a, h⟩ => tLc_of hown a h
theorem fs_setLc {i : Nat} {y : Str} {py : Pos} {elt tg iter : Expr} {ifs : List Expr} {scope : Scope} {own : List (Str × Nat)} {spos : Pos} {fi : DI} {p : Pat} {tt : DT} {te : DE} (hc : X.calm = true) (hN : X.N.Nodup)
    (hsw : swapsWith (.ListComp elt [⟨tg, iter, ifs, 0⟩] scope pos) (some (.Name y py)) spos.line X.env = pure true) (hi : FI X T W tg iter fi) (ok : BlkOk X.N X.env.scope scope own)
    (hg : ∀ (s : Shared) (H : Hp) (C : Addr) (cl : List (Str × Addr)) (fp : List Addr), FG (X.blk s H scope (compEnvC scope cl C X.env) fp) tg p)
    (ht : ∀ (s : Shared) (H : Hp) (C : Addr) (cl : List (Str × Addr)) (fp : List Addr), FTs (X.blk s H scope (compEnvC scope cl C X.env) fp) T W0 ifs tt)
    (he : ∀ (s : Shared) (H : Hp) (C : Addr) (cl : List (Str × Addr)) (fp : List Addr), FE (X.blk s H scope (compEnvC scope cl C X.env) fp) T W0 elt te)
    (hy : X.N[i]? = some y := by rfl) (hyl : X.env.scope.names.lookup y = some .local := by rfl) (hown : ∀ i ∈ p.slots, i ∈ own.map (·.2) := by decide) (hs : ∀ x, foldedSetIterable iter X.env x = pure x := by intro _; rfl) :
    FS X T W (.Assign [.Name y py] (.ListComp elt [⟨tg, iter, ifs, 0⟩] scope pos) spos) (sAsg (dLc (own.map (·.2)) fi p tt te) (.nm i)) :=
  PS.imp (ps_setLc hc hN hy hyl hsw hi ok hg ht he hs) fun D σ H ⟨m, env, st, a, h⟩ => by
    refine tLc_of hown a (After.imp (AfterS.split a.e h) fun m1 H1 d st1 p1 g1 s1 h1 v r1 => ?_)
    simp only [dG] at h1
    exact h1 m1 H1 (List.prefix_refl _) (Grow.refl _) s1 _ ((a.e.mono p1 g1).set r1)
/-- within a block -/
theorem Ok.blk {k : Nat} (o : Ok X W k) (s : Shared) (H : Hp) (scope : Scope) (cenv : Env) (fp : List Addr) : Ok (X.blk s H scope cenv fp) W0 k := ⟨o.calm, o.nd, L2.takes0, o.room, PassesOwn.never, o.gd⟩
end
end Fn
end
section
set_option Elab.async false
set_option linter.all false
set_option maxRecDepth 100000
set_option maxHeartbeats 4000000
namespace Fn
open PySem PySem.Spec PyProof.Rows L2 LamX
/-! ### a def's promise -/
/-- a def (or closure) called where U holds of the state: no repr is going on -/
structure FnG (P : Program) (w : World) (K : PySem.W.Frag) (mg : Str → Option Value) (base : Heap) (k : Nat) (f : Addr) (fd : FuncData) (ps : List Str) (U : List Env → Shared → Hp → Prop) (sp : Sp) : Prop where
  len : ∀ vs H Q E, sp vs H Q E → vs.length = ps.length
  run : ∀ (A : Around) (outer : List Env) (s : Shared) (H : Hp) (args : Args) (us : List Value) (vs : List V) (Q : VK) (E : XK), Room k A → A.guards = some [] → Env0 P w K mg base A outer s H → BindsTo s fd args (ps.zip us) → Vals vs us → U outer s H → sp vs H Q E →
    codeAny (model P w) A (.call (.ref f) args) (CR (L2.CX P w) outer P w H s Q E) s
/-- any state -/
abbrev U0 : List Env → Shared → Hp → Prop := fun _ _ _ => True
def spOf (K : PySem.W.Frag) (mg : Str → Option Value) (T : TB) (n : Nat) (g : List D → Sto → R D) : Sp := fun vs H Q E => vs.length = n ∧ ∃ m ds st, RepVs K mg m H ds vs ∧ RepS K mg T m H st ∧ After K mg T E m H (g ds st) (kE K mg Q)
structure DefOk (P : Program) (w : World) (K : PySem.W.Frag) (mg : Str → Option Value) (base : Heap) (T : TB) (k : Nat) (x : Str) (f : Addr) (fd : FuncData) (ps : List Str) (U : List Env → Shared → Hp → Prop) (g : List D → Sto → R D) : Prop where
  at_ : mg x = some (.ref f)
  kp : PySem.W.keepIn K (.ref f) = true
  bd : Binds K fd ps []
  ok : FnG P w K mg base k f fd ps U (spOf K mg T ps.length g)
/-- r comes to no more than r' -/
def Ref (K : PySem.W.Frag) (mg : Str → Option Value) (T : TB) (n : Nat) (r r' : R D) : Prop := ∀ (W : XK) (m : List Addr) (H : Hp) (Q : VK), m.length = n → T.m0 <+: m → After K mg T W m H r' (kE K mg Q) → After K mg T W m H r (kE K mg Q)
section
variable {P : Program} {w : World} {K : PySem.W.Frag} {mg : Str → Option Value} {base : Heap} {T : TB}
theorem DefOk.imp {k : Nat} {x : Str} {f : Addr} {fd : FuncData} {ps : List Str} {U : List Env → Shared → Hp → Prop} {g g' : List D → Sto → R D} (F : DefOk P w K mg base T k x f fd ps U g) (h : ∀ ds st, ds.length = ps.length → Ref K mg T st.length (g ds st) (g' ds st)) : DefOk P w K mg base T k x f fd ps U g' :=
  ⟨F.at_, F.kp, F.bd, fun vs H Q E z => z.1, fun A outer s H args us vs Q E hr hg he hb hv hu ⟨hl, m, ds, st, rv, rs, q⟩ => F.ok.run A outer s H args us vs Q E hr hg he hb hv hu ⟨hl, m, ds, st, rv, rs, h ds st (by rw [rv.length]; exact hl) E m H Q rs.len rs.pre q⟩⟩
theorem DefOk.mono {j k : Nat} {x : Str} {f : Addr} {fd : FuncData} {ps : List Str} {U : List Env → Shared → Hp → Prop} {g : List D → Sto → R D} (F : DefOk P w K mg base T j x f fd ps U g) (h : j ≤ k) : DefOk P w K mg base T k x f fd ps U g :=
  ⟨F.at_, F.kp, F.bd, F.ok.len, fun A outer s H args us vs Q E hr => F.ok.run A outer s H args us vs Q E (hr.mono h)⟩
theorem Ref.refl {n : Nat} {r : R D} : Ref K mg T n r r := fun _ _ _ _ _ _ h => h
theorem Ref.of_eq {n : Nat} {r r' : R D} (h : r = r') : Ref K mg T n r r' := h ▸ Ref.refl
theorem Ref.bad {n : Nat} {r : R D} : Ref K mg T n r .bad := fun _ _ _ _ _ _ h => h.elim
/-- the start of a body -/
def ev0 (N : List Str) (ds : List D) : Ev := ds.map some ++ List.replicate (N.length - ds.length) none
theorem repE_start {m : List Addr} {H : Hp} {N : List Str} {ds : List D} {vs : List V} (r : RepVs K mg m H ds vs) : RepE K mg m H (ev0 N ds) (L2.start N vs) := by
  refine ⟨by simp [ev0, L2.start, r.length], fun i d e => ?_⟩
  unfold ev0 at e
  unfold L2.start
  by_cases hi : i < ds.length
  · rw [List.getElem?_append_left (by simpa using hi)] at e
    rw [List.getElem?_map] at e
    cases q : ds[i]? with
    | none => rw [q] at e; cases e
    | some d' =>
      rw [q] at e
      cases e
      obtain ⟨v, h1, h2⟩ := r.get q
      exact ⟨v, by rw [List.getElem?_append_left (by simpa [← r.length] using hi), List.getElem?_map, h1]; rfl, h2⟩
  · rw [List.getElem?_append_right (by simpa using hi), List.getElem?_replicate] at e
    split at e <;> cases e
theorem toR_of {m : List Addr} {H : Hp} {E : XK} {r : SR} {Q : VK} (h : After K mg T E m H r.toR (kE K mg Q)) :
    AfterS K mg T (fun c d _ H => E c d H) m H r (kS K mg fun _ H' => Q .non H') (kE K mg Q) (kS K mg fun _ _ => False) (kS K mg fun _ _ => False) := by
  cases r with
  | next env st => exact fun m' H' p g s σ _ => h m' H' p g s _ .non
  | ret d st => exact h
  | brk env st => exact h.elim
  | cnt env st => exact h.elim
  | exc e x st => exact fun m' H' c d σ p g s _ x => h m' H' c d p g s x
  | bad => exact h
/-- THE RULE for a def -/
theorem def_okU {x qual : Str} {sd : Stmt} {f : Addr} {fd : FuncData} {N ps : List Str} {k : Nat} {U : List Env → Shared → Hp → Prop} {fb : DS} (F : Fun K x qual sd f fd) (S : FnScope N ps (defScope sd)) (hx : mg x = some (.ref f)) (bd : Binds K fd ps [])
    (body : ∀ (cdv : Value) (A : Around) (outer : List Env) (s : Shared) (H : Hp) (E : XK), U outer s H → Ok (cxOf (L2.CX P w) P w K mg base N qual (defScope sd) f cdv A outer s H E) (fun c d _ H => E c d H) k →
      FSs (cxOf (L2.CX P w) P w K mg base N qual (defScope sd) f cdv A outer s H E) T (fun c d _ H => E c d H) (defBody sd) fb) : DefOk P w K mg base T (k + 1) x f fd ps U (fun ds st => (fb (ev0 N ds) st).toR) := by
  refine ⟨hx, F.kp, bd, fun vs H Q E h => h.1, fun A outer s H args us vs Q E hr hg he hb hv hu ⟨hl, m, ds, st, rv, rs, q⟩ => ?_⟩
  obtain ⟨oc, od, kV, doc, pm, an, cdv, ct, osl, rfl, lk, hcd⟩ := F.ex
  refine run_ofS (N := N) (ps := ps) (us := us) (vs := vs) lk hcd S hr he hb hv hl fun hr' => ?_
  have tk : Takes (cxOf (L2.CX P w) P w K mg base N qual (defScope sd) f cdv A outer s H E) (fun cls d _ H => E cls d H) := takes_of rfl rfl rfl rfl
  exact ⟨_, body cdv A outer s H E hu ⟨rfl, S.nd, tk, hr', passes_of rfl, hg⟩, m, ev0 N ds, st, ⟨repE_start rv, rs⟩, toR_of q⟩
theorem def_ok {x qual : Str} {sd : Stmt} {f : Addr} {fd : FuncData} {N ps : List Str} {k : Nat} {fb : DS} (F : Fun K x qual sd f fd) (S : FnScope N ps (defScope sd)) (hx : mg x = some (.ref f)) (bd : Binds K fd ps [])
    (body : ∀ (cdv : Value) (A : Around) (outer : List Env) (s : Shared) (H : Hp) (E : XK), Ok (cxOf (L2.CX P w) P w K mg base N qual (defScope sd) f cdv A outer s H E) (fun c d _ H => E c d H) k →
      FSs (cxOf (L2.CX P w) P w K mg base N qual (defScope sd) f cdv A outer s H E) T (fun c d _ H => E c d H) (defBody sd) fb) : DefOk P w K mg base T (k + 1) x f fd ps U0 (fun ds st => (fb (ev0 N ds) st).toR) := def_okU F S hx bd fun cdv A outer s H E _ => body cdv A outer s H E
end
/-! ### a call -/
section
variable {X : Cx} {T : TB} {W : WX} {m m' : List Addr} {H H' : Hp} {st st' : Sto} {env : Ev} {σ : L2.St} {pos : Pos}
theorem run_g {k k' : Nat} {f : Addr} {fd : FuncData} {ps : List Str} {U : List Env → Shared → Hp → Prop} {sp : Sp} {pins : List (Addr × Obj)} {s : Shared} {Q : VK} {us : List Value} {vs : List V} (F : FnG X.prog X.w X.K X.mg X.base k f fd ps U sp) (o : Ok X W k') (hk : k ≤ k') (bd : Binds X.K fd ps [])
    (I : Inv X pins σ H s) (r : Vals vs us) (hu : U X.stack s H) (h : sp vs H Q (wAt W σ)) : wpAny (model X.prog X.w) X.A (call (.ref f) us) (EP X pins σ Q) X.xe s := by
  have hl : us.length = ps.length := by rw [← r.length]; exact F.len _ _ _ _ h
  have hb := bd s us I.kIn (by rw [List.append_nil]; exact hl)
  rw [List.append_nil] at hb
  refine wpAny_call (codeAny_mono (F.run X.A X.stack s H ⟨us, []⟩ us vs Q (wAt W σ) (o.room.mono hk) o.gd I.env0 hb r hu h) fun r s' hq => ?_)
  match r, hq with
  | .error e, hq => exact o.tk e s' (XE.of_call I (fun _ _ _ h => h) hq)
  | .ok (.ret u), hq => exact I.after hq
theorem call_of {k k' n : Nat} {f : Addr} {fd : FuncData} {ps : List Str} {U : List Env → Shared → Hp → Prop} {g : List D → Sto → R D} {pins : List (Addr × Obj)} {Q : VK} {fa : DA} (F : FnG X.prog X.w X.K X.mg X.base k f fd ps U (spOf X.K X.mg T n g)) (o : Ok X W k') (hk : k ≤ k') (bd : Binds X.K fd ps [])
    (hn : ∀ env st ds st', fa env st = .ok ds st' → ds.length = n) (hu : ∀ H s, Inv X pins σ H s → U X.stack s H) (a : At X.K X.mg T m env st σ H) (h : After X.K X.mg T (wAt W σ) m H ((fa env st).bind g) (kE X.K X.mg Q)) :
    tA X.K X.mg T W fa σ H fun vs H1 => ∀ us s1, Inv X pins σ H1 s1 → Vals vs us → wpAny (model X.prog X.w) X.A (call (.ref f) us) (EP X pins σ Q) X.xe s1 := by
  refine ⟨m, env, st, a, ?_⟩
  have hn := hn env st
  cases e : fa env st with
  | ok ds s1 =>
    rw [e] at h
    exact fun m1 H1 p1 g1 s1' vs r1 us s2 I2 r2 => run_g F o hk bd I2 r2 (hu _ _ I2) ⟨by rw [← r1.length]; exact hn ds s1 e, m1, ds, s1, r1, s1', After.mono (r := g ds s1) p1 g1 h⟩
  | exc x s1 => rw [e] at h; exact h
  | bad => rw [e] at h; exact h
theorem aNil_len : ∀ (env : Ev) (st : Sto) (ds : List D) (st' : Sto), aNil env st = .ok ds st' → ds.length = 0 := fun env st ds st' h => by
  unfold aNil at h
  cases h
  rfl
theorem aCons_len {f : DE} {g : DA} {n : Nat} (hg : ∀ env st ds st', g env st = .ok ds st' → ds.length = n) : ∀ (env : Ev) (st : Sto) (ds : List D) (st' : Sto), aCons f g env st = .ok ds st' → ds.length = n + 1 := fun env st ds st' h => by
  unfold aCons at h
  cases e1 : f env st with
  | ok d s1 =>
    rw [e1] at h
    simp only [R.bind_ok] at h
    cases e2 : g env s1 with
    | ok r s2 =>
      rw [e2] at h
      simp only [R.bind_ok] at h
      cases h
      rw [List.length_cons, hg env s1 r st' e2]
    | exc x s2 => rw [e2] at h; cases h
    | bad => rw [e2] at h; cases h
  | exc x s1 => rw [e1] at h; cases h
  | bad => rw [e1] at h; cases h
theorem fe_callU {k k' : Nat} {x : Str} {f : Addr} {fd : FuncData} {ps : List Str} {U : List Env → Shared → Hp → Prop} {g : List D → Sto → R D} {e : Expr} {es : List Expr} {fa : DA} {p : Pos} (F : DefOk X.prog X.w X.K X.mg X.base T k x f fd ps U g) (o : Ok X W k') (hu : ∀ pins σ H s, Inv X pins σ H s → U X.stack s H) (ha : FA X T W (e :: es) fa)
    (hk : k ≤ k' := by decide) (hn : ∀ env st ds st', fa env st = .ok ds st' → ds.length = ps.length := by exact aCons_len (by first | exact aNil_len | exact aCons_len (by first | exact aNil_len | exact aCons_len (by first | exact aNil_len | exact aCons_len (by first | exact aNil_len | exact aCons_len (by first | exact aNil_len | exact aCons_len (by exact aNil_len)))))))
    (hg : Gl X x := by rfl) (hdb : (x == ("__debug__" : Str)) = false := by decide) (he : starEach (e :: es) X.env = (false, eval e X.env) :: starEach es X.env := by rfl) (hpl : (backTo pos (starEach es X.env)).any (·.1) = false := by rfl) :
    FE X T W (.Call (.Name x p) (e :: es) [] pos) (dCall g fa) := by
  refine ⟨fun pins s σ H Q I ⟨m, env, st, a, h⟩ => ?_⟩
  refine wpAny_Call_Name_kw (ld_glob I hg F.at_ ?_ hdb)
  exact PySem.W.callWith_K (h₀ := X.base) I.ok.mod.kin F.kp (thn (ha.run pos pins s σ H _ I (call_of F.ok o hk F.bd hn (fun H s I => hu pins σ H s I) a h)) fun us s1 ⟨vs, H1, I1, r, q⟩ => ⟨I1.kIn, q us s1 I1 r⟩) he hpl
theorem fe_call {k k' : Nat} {x : Str} {f : Addr} {fd : FuncData} {ps : List Str} {g : List D → Sto → R D} {e : Expr} {es : List Expr} {fa : DA} {p : Pos} (F : DefOk X.prog X.w X.K X.mg X.base T k x f fd ps U0 g) (o : Ok X W k') (ha : FA X T W (e :: es) fa)
    (hk : k ≤ k' := by decide) (hn : ∀ env st ds st', fa env st = .ok ds st' → ds.length = ps.length := by exact aCons_len (by first | exact aNil_len | exact aCons_len (by first | exact aNil_len | exact aCons_len (by first | exact aNil_len | exact aCons_len (by first | exact aNil_len | exact aCons_len (by first | exact aNil_len | exact aCons_len (by exact aNil_len)))))))
    (hg : Gl X x := by rfl) (hdb : (x == ("__debug__" : Str)) = false := by decide) (he : starEach (e :: es) X.env = (false, eval e X.env) :: starEach es X.env := by rfl) (hpl : (backTo pos (starEach es X.env)).any (·.1) = false := by rfl) :
    FE X T W (.Call (.Name x p) (e :: es) [] pos) (dCall g fa) := fe_callU F o (fun _ _ _ _ _ => trivial) ha hk hn hg hdb he hpl
theorem fe_call0 {k k' : Nat} {x : Str} {f : Addr} {fd : FuncData} {g : List D → Sto → R D} {p : Pos} (F : DefOk X.prog X.w X.K X.mg X.base T k x f fd [] U0 g) (o : Ok X W k')
    (hk : k ≤ k' := by decide) (hg : Gl X x := by rfl) (hdb : (x == ("__debug__" : Str)) = false := by decide) : FE X T W (.Call (.Name x p) [] [] pos) (dCall g aNil) := by
  refine ⟨fun pins s σ H Q I ⟨m, env, st, a, h⟩ => ?_⟩
  refine wpAny_Call_Name_kw (ld_glob I hg F.at_ ?_ hdb)
  exact PySem.W.callWith_K0 I.kIn F.kp (run_g (us := []) F.ok o hk F.bd I .nil trivial ⟨rfl, m, [], st, .nil, a.s, h⟩)

/-! ### forgetting what came since -/
mutual
/-- a value without a place in the store from n on -/
def D.low (n : Nat) : D → Bool
  | .ref i => decide (i < n)
  | .tup ds => lowL n ds
  | .lst ds => lowL n ds
  | _ => true
def lowL (n : Nat) : List D → Bool
  | [] => true
  | d :: ds => d.low n && lowL n ds
end
mutual
theorem RepV.low {K : PySem.W.Frag} {mg : Str → Option Value} {n : Nat} : ∀ {d : D} {v : V}, d.low n = true → RepV K mg m H d v → RepV K mg (m.take n) H d v
  | _, _, _, .non => .non
  | _, _, _, .bl b => .bl b
  | _, _, _, .int i => .int i
  | _, _, _, .str x => .str x
  | _, _, h, .tup q r => .tup q (RepVs.low (by simpa [D.low] using h) r)
  | _, _, h, .lst q r => .lst q (RepVs.low (by simpa [D.low] using h) r)
  | .ref i, .ref a, h, .ref q => .ref (by
    have hi : i < n := by simpa [D.low] using h
    rw [List.getElem?_take_of_lt hi]
    exact q)
  | _, _, _, .exc h k => .exc h k
  | _, _, _, .clo h k => .clo h k
theorem RepVs.low {K : PySem.W.Frag} {mg : Str → Option Value} {n : Nat} : ∀ {ds : List D} {vs : List V}, lowL n ds = true → RepVs K mg m H ds vs → RepVs K mg (m.take n) H ds vs
  | _, _, _, .nil => .nil
  | _, _, h, .cons r t => by
    simp only [lowL, Bool.and_eq_true] at h
    exact .cons (RepV.low h.1 r) (RepVs.low h.2 t)
end
def O.low (n : Nat) : O → Bool
  | .lst ds => lowL n ds
  | .dict kvs => kvs.all fun p => p.2.low n
  | .ins _ fs => fs.all fun p => p.2.low n
theorem paired_low {κ : Type} {K : PySem.W.Frag} {mg : Str → Option Value} {n : Nat} {kvs : List (κ × D)} {qs : List (κ × V)} (r : Paired (fun p q => p.1 = q.1 ∧ RepV K mg m H p.2 q.2) kvs qs) (h : (kvs.all fun p => p.2.low n) = true) : Paired (fun p q => p.1 = q.1 ∧ RepV K mg (m.take n) H p.2 q.2) kvs qs := by
  induction r with
  | nil => exact .nil
  | cons a t ih =>
    simp only [List.all_cons, Bool.and_eq_true] at h
    exact .cons ⟨a.1, a.2.low h.1⟩ (ih h.2)
theorem RepO.low {K : PySem.W.Frag} {mg : Str → Option Value} {n : Nat} {a : Addr} {o : O} (h : o.low n = true) (r : RepO K mg m H a o) : RepO K mg (m.take n) H a o := by
  cases o with
  | lst ds =>
    obtain ⟨vs, h1, h2⟩ := r
    exact ⟨vs, h1, h2.low h⟩
  | dict kvs =>
    obtain ⟨qs, h1, h2⟩ := r
    exact ⟨qs, h1, paired_low h2 h⟩
  | ins c fs =>
    obtain ⟨C, dx, qs, h0, h1, h2⟩ := r
    exact ⟨C, dx, qs, h0, h1, paired_low h2 h⟩
/-- a store whose first n things speak of the first n alone -/
def lowS (n : Nat) (st : Sto) : Prop := n ≤ st.length ∧ ∀ (i : Nat) (o : O), i < n → st[i]? = some o → o.low n = true
theorem RepS.low {K : PySem.W.Frag} {mg : Str → Option Value} {n : Nat} (h : lowS n st) (hn : T.m0.length ≤ n) (r : RepS K mg T m H st) : RepS K mg T (m.take n) H (st.take n) := by
  refine ⟨by simp [r.len], r.nd.sublist (List.take_sublist _ _), fun i o a e q => ?_, r.tb, ?_, r.gr⟩
  · by_cases hi : i < n
    · rw [List.getElem?_take_of_lt hi] at e q
      exact (r.ob i o a e q).low (h.2 i o hi e)
    · rw [List.getElem?_take, if_neg hi] at e
      cases e
  · exact List.prefix_of_prefix_length_le r.pre (List.take_prefix _ _) (by
      have := r.len
      have := h.1
      rw [List.length_take]
      omega)
theorem pre_take {m m' : List Addr} {n : Nat} (p : m <+: m') (h : m.length = n) : m <+: m'.take n := by
  obtain ⟨t, rfl⟩ := p
  rw [List.take_append_of_le_length (by omega)]
  rw [← h, List.take_length]
  exact List.prefix_refl _
theorem after_low {K : PySem.W.Frag} {mg : Str → Option Value} {n : Nat} {d : D} {E : XK} {Q : VK} (hm : m.length = n) (hp : T.m0 <+: m) (hd : d.low n = true) (hs : lowS n st) (h : After K mg T E m H (.ok d (st.take n)) (kE K mg Q)) : After K mg T E m H (.ok d st) (kE K mg Q) :=
  fun m' H' p g s v r => h (m'.take n) H' (pre_take p hm) g (s.low hs (hm ▸ hp.length_le)) v (r.low hd)
/-- what a pure value leaves -/
theorem Ref.low {K : PySem.W.Frag} {mg : Str → Option Value} {n : Nat} {d : D} {st st' : Sto} (hd : d.low n = true) (hs : lowS n st) (e : st.take n = st') : Ref K mg T n (.ok d st) (.ok d st') := fun W m H Q hm hp h => by
  subst e
  exact after_low hm hp hd hs h
end
end Fn
end
section
set_option Elab.async false
set_option linter.all false
set_option maxRecDepth 100000
set_option maxHeartbeats 4000000
namespace Fn
open PySem PySem.Spec PyProof.Rows L2 LamX
section
variable {X : Cx} {T : TB} {W : WX} {E : XK}

/-! ### + - * // % ** -/
def gAdd : D → D → Sto → R D
  | .int i, .int j, st => .ok (.int (i + j)) st
  | .str x, .str y, st => if x.length + y.length ≤ lineN then .ok (.str (x ++ y)) st else .bad
  | .tup xs, .tup ys, st => if xs.length + ys.length ≤ lineN then .ok (.tup (xs ++ ys)) st else .bad
  | .ref i, .ref j, st => match st[i]?, st[j]? with
    | some (.lst xs), some (.lst ys) => if xs.length + ys.length ≤ lineN then .ok (.ref st.length) (st ++ [.lst (xs ++ ys)]) else .bad
    | _, _ => .bad
  | _, _, _ => .bad
def rAddA (K : PySem.W.Frag) : R2 := fun x y H Q => rI0 (fun i j => .int (i + j)) x y H Q ∨ ((∃ i j, x = .str i ∧ y = .str j ∧ i.length + j.length ≤ sizeLine ∧ Q (.str (i ++ j)) H) ∨ (rCatA K x y H Q ∨ rCat x y H Q))
theorem op_addA : OpR X (binaryOp .Add) (rAddA X.K) := op_add.or (op_add_str.or (op_catA.or op_cat))
theorem repVs_nil_r {K : PySem.W.Frag} {mg : Str → Option Value} {m : List Addr} {H : Hp} {ds : List D} (r : RepVs K mg m H ds []) : ds = [] := by cases r; rfl
theorem od_add : OpD X T (rAddA X.K) gAdd := by
  intro E m H st x y v w Q s rx ry h
  cases rx with
  | int i => cases ry with
    | int j => exact .inl ⟨i, j, rfl, rfl, after_same s h (.int _)⟩
    | _ => exact h.elim
  | str i => cases ry with
    | str j =>
      simp only [gAdd] at h
      split at h
      · rename_i hl
        exact .inr (.inl ⟨i, j, rfl, rfl, by rw [line_eq]; exact hl, after_same s h (.str _)⟩)
      · exact h.elim
    | _ => exact h.elim
  | tup hp r => cases ry with
    | tup hq q =>
      simp only [gAdd] at h
      split at h
      · rename_i hl
        refine .inr (.inr (.inl ⟨_, _, _, _, rfl, rfl, hp, hq, by rw [line_eq, ← r.length, ← q.length]; exact hl, fun e => ?_, fun _ e => ?_, fun _ _ p np => after_tup s h (r.app q) p np⟩))
        · subst e
          have := repVs_nil_r r
          subst this
          exact after_same s h (.tup hq q)
        · subst e
          have := repVs_nil_r q
          subst this
          rw [List.append_nil] at h
          exact after_same s h (.tup hp r)
      · exact h.elim
    | _ => exact h.elim
  | ref hi => cases ry with
    | ref hj =>
      simp only [gAdd] at h
      split at h
      · rename_i xs ys e1 e2
        split at h
        · rename_i hl
          obtain ⟨vs, h1, r1⟩ := s.at' e1 hi
          obtain ⟨ws, h2, r2⟩ := s.at' e2 hj
          exact .inr (.inr (.inr ⟨_, _, vs, ws, rfl, rfl, h1, h2, by rw [line_eq, ← r1.length, ← r2.length]; exact hl, fun p np => after_lst s h (r1.app r2) p np⟩))
        · exact h.elim
      · exact h.elim
    | _ => exact h.elim
  | _ => exact h.elim
/-- two ints -/
def gInt (c : Int → Int → Bool) (f : Int → Int → D) : D → D → Sto → R D
  | .int i, .int j, st => if c i j = true then .ok (f i j) st else .bad
  | _, _, _ => .bad
theorem od_int {C : Int → Int → Prop} {c : Int → Int → Bool} {f : Int → Int → D} {g : Int → Int → V} (hc : ∀ i j, c i j = true → C i j) (hf : ∀ i j m H, RepV X.K X.mg m H (f i j) (g i j)) : OpD X T (rI C g) (gInt c f) := by
  intro E m H st x y v w Q s rx ry h
  cases rx with
  | int i => cases ry with
    | int j =>
      simp only [gInt] at h
      split at h
      · rename_i q
        exact ⟨i, j, rfl, rfl, hc i j q, after_same s h (hf i j m H)⟩
      · exact h.elim
    | _ => exact h.elim
  | _ => exact h.elim
def gInt0 (f : Int → Int → D) : D → D → Sto → R D
  | .int i, .int j, st => .ok (f i j) st
  | _, _, _ => .bad
theorem od_int0 {f : Int → Int → D} {g : Int → Int → V} (hf : ∀ i j m H, RepV X.K X.mg m H (f i j) (g i j)) : OpD X T (rI0 g) (gInt0 f) := by
  intro E m H st x y v w Q s rx ry h
  cases rx with
  | int i => cases ry with
    | int j => exact ⟨i, j, rfl, rfl, after_same s h (hf i j m H)⟩
    | _ => exact h.elim
  | _ => exact h.elim
def gSub : D → D → Sto → R D := gInt0 fun i j => .int (i - j)
theorem od_sub : OpD X T (rI0 fun i j => V.int (i - j)) gSub := od_int0 fun i j m H => .int _
def cDiv (_ j : Int) : Bool := decide (0 < j) && decide (j.natAbs.log2 < 9000)
def gFdiv : D → D → Sto → R D := gInt cDiv fun i j => .int (i / j)
theorem od_fdiv : OpD X T (rI CDivW fun i j => V.int (i / j)) gFdiv := od_int (fun i j h => by simp [cDiv] at h; exact h) fun i j m H => .int _
def gMod : D → D → Sto → R D := gInt (fun _ j => decide (0 < j)) fun i j => .int (i % j)
theorem od_mod : OpD X T (rI (fun _ j => 0 < j) fun i j => V.int (i % j)) gMod := od_int (fun i j h => by simpa using h) fun i j m H => .int _
def cPow (i j : Int) : Bool := decide (0 ≤ j) && decide (j ≤ 1000000) && decide (i.natAbs < 2 ^ 64)
def gPow : D → D → Sto → R D := gInt cPow fun i j => .int (i ^ j.toNat)
theorem od_pow : OpD X T (rI CPow fun i j => V.int (i ^ j.toNat)) gPow := od_int (fun i j h => by
  simp only [cPow, Bool.and_eq_true, decide_eq_true_eq] at h
  exact ⟨h.1.1, h.1.2, h.2⟩) fun i j m H => .int _

/-! ### order -/
def gLt : D → D → Sto → R D
  | .int i, .int j, st => .ok (.bl (decide (i < j))) st
  | .str x, .str y, st => .ok (.bl (decide (x.cps.toList < y.cps.toList))) st
  | _, _, _ => .bad
theorem op_ltA : OpR X (compareOp .Lt) (fun x y H Q => rI0 (fun i j => V.bl (decide (i < j))) x y H Q ∨ ∃ i j, x = .str i ∧ y = .str j ∧ Q (.bl (decide (i.cps.toList < j.cps.toList))) H) := op_lt.or op_lt_str
theorem od_lt : OpD X T (fun x y H Q => rI0 (fun i j => V.bl (decide (i < j))) x y H Q ∨ ∃ i j, x = .str i ∧ y = .str j ∧ Q (.bl (decide (i.cps.toList < j.cps.toList))) H) gLt := by
  intro E m H st x y v w Q s rx ry h
  cases rx with
  | int i => cases ry with
    | int j => exact .inl ⟨i, j, rfl, rfl, after_same s h (.bl _)⟩
    | _ => exact h.elim
  | str i => cases ry with
    | str j => exact .inr ⟨i, j, rfl, rfl, after_same s h (.bl _)⟩
    | _ => exact h.elim
  | _ => exact h.elim
def gLe : D → D → Sto → R D := gInt0 fun i j => .bl (decide (i ≤ j))
def gGt : D → D → Sto → R D := gInt0 fun i j => .bl (decide (j < i))
def gGe : D → D → Sto → R D := gInt0 fun i j => .bl (decide (j ≤ i))
theorem od_le : OpD X T (rI0 fun i j => V.bl (decide (i ≤ j))) gLe := od_int0 fun i j m H => .bl _
theorem od_gt : OpD X T (rI0 fun i j => V.bl (decide (j < i))) gGt := od_int0 fun i j m H => .bl _
theorem od_ge : OpD X T (rI0 fun i j => V.bl (decide (j ≤ i))) gGe := od_int0 fun i j m H => .bl _

/-! ### == and != of data -/
mutual
def datN (st : Sto) : Nat → D → Option PyData
  | _, .non => some .none
  | _, .bl b => some (.bool b)
  | _, .int i => some (.int i)
  | _, .str x => some (.str x)
  | n + 1, .tup ds => (datL st n ds).map .tuple
  | n + 1, .lst ds => (datL st n ds).map .list
  | n + 1, .ref i => match st[i]? with
    | some (.lst ds) => (datL st n ds).map .list
    | _ => none
  | _, _ => none
termination_by n d => (n, 0, sizeOf d)
def datL (st : Sto) : Nat → List D → Option (List PyData)
  | _, [] => some []
  | n, d :: ds => match datN st n d, datL st n ds with
    | some p, some ps => some (p :: ps)
    | _, _ => none
termination_by n ds => (n, 1, sizeOf ds)
end
theorem repO_lst {K : PySem.W.Frag} {mg : Str → Option Value} {m : List Addr} {H : Hp} {a : Addr} {ds : List D} (h : RepO K mg m H a (.lst ds)) : ∃ vs, SqL K H a vs ∧ RepVs K mg m H ds vs := by
  obtain ⟨vs, h1, r⟩ := h
  exact ⟨vs, .of h1, r⟩
mutual
theorem datN_of {K : PySem.W.Frag} {mg : Str → Option Value} {m : List Addr} {H : Hp} {st : Sto} (s : RepS K mg T m H st) : ∀ (n : Nat) (d : D) (p : PyData) (v : V), datN st n d = some p → RepV K mg m H d v → Dp K H v p
  | n, d, p, v, h, r => by
    cases r with
    | non => rw [datN] at h; cases h; exact .non
    | bl b => rw [datN] at h; cases h; exact .bl b
    | int i => rw [datN] at h; cases h; exact .int i
    | str x => rw [datN] at h; cases h; exact .str x
    | tup hp r =>
      cases n with
      | zero => rw [datN] at h <;> first | cases h | (intros; simp_all)
      | succ n =>
        rw [datN] at h
        obtain ⟨ps, e, rfl⟩ := Option.map_eq_some_iff.mp h
        exact .tup hp (datL_of s n _ _ _ e r)
    | lst hp r =>
      cases n with
      | zero => rw [datN] at h <;> first | cases h | (intros; simp_all)
      | succ n =>
        rw [datN] at h
        obtain ⟨ps, e, rfl⟩ := Option.map_eq_some_iff.mp h
        exact .lst hp.sql (datL_of s n _ _ _ e r)
    | ref hi =>
      cases n with
      | zero => rw [datN] at h <;> first | cases h | (intros; simp_all)
      | succ n =>
        rw [datN] at h
        split at h
        · rename_i ds e1
          obtain ⟨ps, e, rfl⟩ := Option.map_eq_some_iff.mp h
          obtain ⟨vs, h1, r1⟩ := s.at' e1 hi
          exact .lst (.of h1) (datL_of s n _ _ _ e r1)
        · cases h
    | exc _ _ => cases n <;> (rw [datN] at h <;> first | cases h | (intros; simp_all))
    | clo _ _ => cases n <;> (rw [datN] at h <;> first | cases h | (intros; simp_all))
termination_by n d => (n, 0, sizeOf d)
theorem datL_of {K : PySem.W.Frag} {mg : Str → Option Value} {m : List Addr} {H : Hp} {st : Sto} (s : RepS K mg T m H st) : ∀ (n : Nat) (ds : List D) (ps : List PyData) (vs : List V), datL st n ds = some ps → RepVs K mg m H ds vs → DpAll K H vs ps
  | n, [], ps, vs, h, r => by
    rw [datL] at h
    cases h
    cases r
    exact .nil
  | n, d :: ds, ps, vs, h, r => by
    rw [datL] at h
    split at h
    · rename_i p qs e1 e2
      cases h
      cases r with
      | cons r1 r2 => exact .cons (datN_of s n d p _ e1 r1) (datL_of s n ds qs _ e2 r2)
    · cases h
termination_by n ds => (n, 1, sizeOf ds)
end
def gEqv (neg : Bool) (x y : D) (st : Sto) : R D := match datN st 9 x, datN st 9 y with
  | some p, some q => if SeqAt.shaped p = true ∧ SeqAt.shaped q = true then .ok (.bl (if neg then !PyData.eqv p q else PyData.eqv p q)) st else .bad
  | _, _ => .bad
theorem od_eq : OpD X T (rEqD X.K) (gEqv false) := by
  intro E m H st x y v w Q s rx ry h
  unfold gEqv at h
  split at h
  · rename_i p q e1 e2
    split at h
    · rename_i hs
      exact ⟨p, q, datN_of s 9 x p v e1 rx, datN_of s 9 y q w e2 ry, hs.1, hs.2, after_same s h (.bl _)⟩
    · exact h.elim
  · exact h.elim
theorem od_ne : OpD X T (rNeD X.K) (gEqv true) := by
  intro E m H st x y v w Q s rx ry h
  unfold gEqv at h
  split at h
  · rename_i p q e1 e2
    split at h
    · rename_i hs
      exact ⟨p, q, datN_of s 9 x p v e1 rx, datN_of s 9 y q w e2 ry, hs.1, hs.2, after_same s h (.bl _)⟩
    · exact h.elim
  · exact h.elim
/-- is None -/
def isNon : D → Bool
  | .non => true
  | _ => false
theorem repV_non {K : PySem.W.Frag} {mg : Str → Option Value} {m : List Addr} {H : Hp} {d : D} {v : V} (r : RepV K mg m H d v) : decide (v = .non) = isNon d := by
  cases r <;> rfl
def gIsN (x y : D) (st : Sto) : R D := match y with
  | .non => .ok (.bl (isNon x)) st
  | _ => .bad
def gNotN (x y : D) (st : Sto) : R D := match y with
  | .non => .ok (.bl (!isNon x)) st
  | _ => .bad
theorem od_isN : OpD X T (fun x y H Q => y = .non ∧ Q (.bl (decide (x = .non))) H) gIsN := by
  intro E m H st x y v w Q s rx ry h
  cases ry with
  | non => exact ⟨rfl, by rw [repV_non rx]; exact after_same s h (.bl _)⟩
  | _ => exact h.elim
theorem od_notN : OpD X T (fun x y H Q => y = .non ∧ Q (.bl (!decide (x = .non))) H) gNotN := by
  intro E m H st x y v w Q s rx ry h
  cases ry with
  | non => exact ⟨rfl, by rw [repV_non rx]; exact after_same s h (.bl _)⟩
  | _ => exact h.elim
end
end Fn
end
section
set_option Elab.async false
set_option linter.all false
set_option maxRecDepth 100000
set_option maxHeartbeats 4000000
namespace Fn
open PySem PySem.Spec PyProof.Rows L2 LamX
section
variable {X : Cx} {T : TB} {W : WX} {E : XK}
/-- the things of a list or tuple -/
def seqD (d : D) (st : Sto) : Option (List D) := match d with
  | .tup ds => some ds
  | .lst ds => some ds
  | .ref i => match st[i]? with
    | some (.lst ds) => some ds
    | _ => none
  | _ => none
theorem seqD_of {K : PySem.W.Frag} {mg : Str → Option Value} {m : List Addr} {H : Hp} {st : Sto} {d : D} {ds : List D} {v : V} (s : RepS K mg T m H st) (r : RepV K mg m H d v) (h : seqD d st = some ds) :
    ∃ p vs, v = .ref p ∧ (SqL K H p vs ∨ SqT K H p vs) ∧ RepVs K mg m H ds vs := by
  cases r with
  | tup hp r =>
    cases h
    exact ⟨_, _, rfl, .inr hp, r⟩
  | lst hp r =>
    cases h
    exact ⟨_, _, rfl, .inl hp.sql, r⟩
  | ref hi =>
    simp only [seqD] at h
    split at h
    · rename_i es e
      cases h
      obtain ⟨vs, h1, r1⟩ := s.at' e hi
      exact ⟨_, _, rfl, .inl (.of h1), r1⟩
    · cases h
  | _ => cases h

/-! ### in -/
def toV : D → Option V
  | .non => some .non
  | .bl b => some (.bl b)
  | .int i => some (.int i)
  | .str x => some (.str x)
  | _ => none
def toVs : List D → Option (List V)
  | [] => some []
  | d :: ds => match toV d, toVs ds with
    | some v, some vs => some (v :: vs)
    | _, _ => none
theorem toV_of {K : PySem.W.Frag} {mg : Str → Option Value} {m : List Addr} {H : Hp} {d : D} {v w : V} (r : RepV K mg m H d v) (h : toV d = some w) : v = w ∧ flatV w = true := by
  cases r <;> first | (cases h; exact ⟨rfl, rfl⟩) | cases h
theorem toVs_of {K : PySem.W.Frag} {mg : Str → Option Value} {m : List Addr} {H : Hp} : ∀ {ds : List D} {vs ws : List V}, RepVs K mg m H ds vs → toVs ds = some ws → vs = ws ∧ ws.all flatV = true
  | _, _, _, .nil, h => by
    cases h
    exact ⟨rfl, rfl⟩
  | _, _, _, .cons r t, h => by
    simp only [toVs] at h
    split at h
    · rename_i v vs e1 e2
      cases h
      obtain ⟨h1, f1⟩ := toV_of r e1
      obtain ⟨h2, f2⟩ := toVs_of t e2
      subst h1 h2
      exact ⟨rfl, by simp [f1, f2]⟩
    · cases h
def gIn (neg : Bool) (x y : D) (st : Sto) : R D := match x, y with
  | .str ⟨⟨[c]⟩⟩, .str z => .ok (.bl (if neg then !decide (c ∈ z.cps.toList) else decide (c ∈ z.cps.toList))) st
  | _, _ => match toV x, (seqD y st).bind toVs with
    | some v, some vs => .ok (.bl (if neg then !inV v vs else inV v vs)) st
    | _, _ => .bad
theorem op_inA : OpR X (compareOp .In) (fun x y H Q => (∃ (c : Nat) (z : Str), x = .str ⟨#[c]⟩ ∧ y = .str z ∧ Q (.bl (decide (c ∈ z.cps.toList))) H) ∨ rIn X.K false x y H Q) := op_in_sign.or op_in_seq
theorem op_notInA : OpR X (compareOp .NotIn) (fun x y H Q => (∃ (c : Nat) (z : Str), x = .str ⟨#[c]⟩ ∧ y = .str z ∧ Q (.bl (!decide (c ∈ z.cps.toList))) H) ∨ rIn X.K true x y H Q) := op_notIn_sign.or op_notIn_seq
theorem od_inG {neg : Bool} : OpD X T (fun x y H Q => (∃ (c : Nat) (z : Str), x = .str ⟨#[c]⟩ ∧ y = .str z ∧ Q (.bl (if neg then !decide (c ∈ z.cps.toList) else decide (c ∈ z.cps.toList))) H) ∨ rIn X.K neg x y H Q) (gIn neg) := by
  intro E m H st x y v w Q s rx ry h
  unfold gIn at h
  split at h
  · rename_i c z
    cases rx
    cases ry
    exact .inl ⟨c, z, rfl, rfl, after_same s h (.bl _)⟩
  · split at h
    · rename_i v' vs e1 e2
      obtain ⟨ds, hd, e3⟩ := Option.bind_eq_some_iff.mp e2
      obtain ⟨rfl, f1⟩ := toV_of rx e1
      obtain ⟨p, ws, rfl, hp, r⟩ := seqD_of s ry hd
      obtain ⟨rfl, f2⟩ := toVs_of r e3
      exact .inr ⟨p, _, rfl, hp, f1, f2, after_same s h (.bl _)⟩
    · exact h.elim
theorem od_in : OpD X T (fun x y H Q => (∃ (c : Nat) (z : Str), x = .str ⟨#[c]⟩ ∧ y = .str z ∧ Q (.bl (decide (c ∈ z.cps.toList))) H) ∨ rIn X.K false x y H Q) (gIn false) := od_inG (neg := false)
theorem od_notIn : OpD X T (fun x y H Q => (∃ (c : Nat) (z : Str), x = .str ⟨#[c]⟩ ∧ y = .str z ∧ Q (.bl (!decide (c ∈ z.cps.toList))) H) ∨ rIn X.K true x y H Q) (gIn true) := od_inG (neg := true)

/-! ### calls: len, abs, max, min, int, str, all, any, tuple, list -/
theorem s_len {s : Sto} : True := trivial
def gLen (xs : List D) (st : Sto) : R D := match xs with
  | [.str x] => if x.length ≤ lineN then .ok (.int x.length) st else .bad
  | [d] => match seqD d st with
    | some ds => .ok (.int ds.length) st
    | none => .bad
  | _ => .bad
theorem cd_len : CallD X T (fun xs H Q => ∃ x n, xs = [x] ∧ LenV X.K x H n ∧ Q (.int n) H) gLen := by
  intro E m H st xs vs Q s r h
  unfold gLen at h
  split at h
  · rename_i x
    cases r with
    | cons r t =>
      cases t
      cases r
      split at h
      · rename_i hl
        exact ⟨_, _, rfl, ⟨by rw [line_eq]; exact hl, rfl⟩, after_same s h (.int _)⟩
      · exact h.elim
  · rename_i d _
    cases r with
    | cons r t =>
      cases t
      split at h
      · rename_i ds e
        obtain ⟨p, ws, rfl, hp, q⟩ := seqD_of s r e
        refine ⟨_, ws.length, rfl, ?_, by rw [← q.length]; exact after_same s h (.int _)⟩
        rcases hp with hp | hp
        · exact .inl ⟨ws, hp, rfl⟩
        · exact .inr ⟨ws, hp, rfl⟩
      · exact h.elim
  · exact h.elim
/-- one int -/
def gI1 (f : Int → D) (xs : List D) (st : Sto) : R D := match xs with
  | [.int i] => .ok (f i) st
  | _ => .bad
def gAbs : List D → Sto → R D := gI1 fun i => .int (if i < 0 then -i else i)
theorem cd_abs : CallD X T (fun xs H Q => ∃ i, xs = [.int i] ∧ Q (.int (if i < 0 then -i else i)) H) gAbs := by
  intro E m H st xs vs Q s r h
  unfold gAbs gI1 at h
  split at h
  · rename_i i
    cases r with
    | cons r t =>
      cases t
      cases r
      exact ⟨i, rfl, after_same s h (.int _)⟩
  · exact h.elim
def gI2 (f : Int → Int → D) (xs : List D) (st : Sto) : R D := match xs with
  | [.int i, .int j] => .ok (f i j) st
  | _ => .bad
def gMax2 : List D → Sto → R D := gI2 fun i j => .int (if j > i then j else i)
def gMin2 : List D → Sto → R D := gI2 fun i j => .int (if j < i then j else i)
theorem cd_max2 : CallD X T (fun xs H Q => ∃ i j, xs = [.int i, .int j] ∧ Q (.int (if j > i then j else i)) H) gMax2 := by
  intro E m H st xs vs Q s r h
  unfold gMax2 gI2 at h
  split at h
  · rename_i i j
    cases r with
    | cons r t => cases t with
      | cons r2 t =>
        cases t
        cases r
        cases r2
        exact ⟨i, j, rfl, after_same s h (.int _)⟩
  · exact h.elim
theorem cd_min2 : CallD X T (fun xs H Q => ∃ i j, xs = [.int i, .int j] ∧ Q (.int (if j < i then j else i)) H) gMin2 := by
  intro E m H st xs vs Q s r h
  unfold gMin2 gI2 at h
  split at h
  · rename_i i j
    cases r with
    | cons r t => cases t with
      | cons r2 t =>
        cases t
        cases r
        cases r2
        exact ⟨i, j, rfl, after_same s h (.int _)⟩
  · exact h.elim
def gInt1 (xs : List D) (st : Sto) : R D := match xs with
  | [.int i] => .ok (.int i) st
  | [.bl k] => .ok (.int (if k then 1 else 0)) st
  | _ => .bad
theorem cd_int : CallD X T (fun xs H Q => (∃ i, xs = [.int i] ∧ Q (.int i) H) ∨ ∃ k, xs = [.bl k] ∧ Q (.int (if k then 1 else 0)) H) gInt1 := by
  intro E m H st xs vs Q s r h
  unfold gInt1 at h
  split at h
  · rename_i i
    cases r with
    | cons r t =>
      cases t
      cases r
      exact .inl ⟨i, rfl, after_same s h (.int _)⟩
  · rename_i k
    cases r with
    | cons r t =>
      cases t
      cases r
      exact .inr ⟨k, rfl, after_same s h (.int _)⟩
  · exact h.elim
def gStr1 (xs : List D) (st : Sto) : R D := match xs with
  | [.int i] => if i.natAbs.log2 < 1920 then .ok (.str (toString i)) st else .bad
  | [.str x] => .ok (.str x) st
  | _ => .bad
theorem call_strA : CallR X (.type "str") (fun xs H Q => (∃ i, xs = [.int i] ∧ i.natAbs.log2 < 1920 ∧ Q (.str (toString i)) H) ∨ ∃ a, xs = [.str a] ∧ Q (.str a) H) := call_str_int.or SkE.call_str_str
theorem cd_str : CallD X T (fun xs H Q => (∃ i, xs = [.int i] ∧ i.natAbs.log2 < 1920 ∧ Q (.str (toString i)) H) ∨ ∃ a, xs = [.str a] ∧ Q (.str a) H) gStr1 := by
  intro E m H st xs vs Q s r h
  unfold gStr1 at h
  split at h
  · rename_i i
    cases r with
    | cons r t =>
      cases t
      cases r
      split at h
      · rename_i hl
        exact .inl ⟨i, rfl, hl, after_same s h (.str _)⟩
      · exact h.elim
  · rename_i x
    cases r with
    | cons r t =>
      cases t
      cases r
      exact .inr ⟨x, rfl, after_same s h (.str _)⟩
  · exact h.elim
def bools : List D → Option (List Bool)
  | [] => some []
  | .bl b :: ds => (bools ds).map (b :: ·)
  | _ => none
theorem bools_of : ∀ {ds : List D} {bs : List Bool}, bools ds = some bs → ds = bs.map .bl
  | [], bs, h => by
    cases h
    rfl
  | d :: ds, bs, h => by
    cases d <;> first
      | (simp only [bools] at h
         obtain ⟨cs, e, rfl⟩ := Option.map_eq_some_iff.mp h
         rw [bools_of e]
         rfl)
      | (simp [bools] at h)
def gAllAny (all : Bool) (xs : List D) (st : Sto) : R D := match xs with
  | [.ref i] => match (seqD (.ref i) st).bind bools with
    | some bs => .ok (.bl (if all then bs.all id else bs.any id)) st
    | none => .bad
  | _ => .bad
theorem seqD_ref {K : PySem.W.Frag} {mg : Str → Option Value} {m : List Addr} {H : Hp} {st : Sto} {i : Nat} {ds : List D} {v : V} (s : RepS K mg T m H st) (r : RepV K mg m H (.ref i) v) (h : seqD (.ref i) st = some ds) :
    ∃ p vs, v = .ref p ∧ H p = some (.lst vs) ∧ RepVs K mg m H ds vs := by
  cases r with
  | ref hi =>
    simp only [seqD] at h
    split at h
    · rename_i es e
      cases h
      obtain ⟨vs, h1, r1⟩ := s.at' e hi
      exact ⟨_, _, rfl, h1, r1⟩
    · cases h
theorem cd_all : CallD X T (rAll X.K) (gAllAny true) := by
  intro E m H st xs vs Q s r h
  unfold gAllAny at h
  split at h
  · rename_i i
    split at h
    · rename_i bs e
      obtain ⟨ds, hd, e3⟩ := Option.bind_eq_some_iff.mp e
      obtain ⟨d, rfl, q⟩ : ∃ v, vs = [v] ∧ RepV X.K X.mg m H (.ref i) v := by
        cases r with
        | cons r t => cases t; exact ⟨_, rfl, r⟩
      obtain ⟨p, ws, rfl, hp, q⟩ := seqD_ref s q hd
      have e4 := bools_of e3
      subst e4
      have e5 := q.bls
      subst e5
      exact ⟨p, bs, rfl, .of hp, after_same s h (.bl _)⟩
    · exact h.elim
  · exact h.elim
theorem cd_any : CallD X T (rAny X.K) (gAllAny false) := by
  intro E m H st xs vs Q s r h
  unfold gAllAny at h
  split at h
  · rename_i i
    split at h
    · rename_i bs e
      obtain ⟨ds, hd, e3⟩ := Option.bind_eq_some_iff.mp e
      obtain ⟨d, rfl, q⟩ : ∃ v, vs = [v] ∧ RepV X.K X.mg m H (.ref i) v := by
        cases r with
        | cons r t => cases t; exact ⟨_, rfl, r⟩
      obtain ⟨p, ws, rfl, hp, q⟩ := seqD_ref s q hd
      have e4 := bools_of e3
      subst e4
      have e5 := q.bls
      subst e5
      exact ⟨p, bs, rfl, .of hp, after_same s h (.bl _)⟩
    · exact h.elim
  · exact h.elim
theorem RepVs.oneL {K : PySem.W.Frag} {mg : Str → Option Value} {m : List Addr} {H : Hp} {d : D} {vs : List V} (r : RepVs K mg m H [d] vs) : ∃ v, vs = [v] ∧ RepV K mg m H d v := by
  cases r with
  | cons r t => cases t; exact ⟨_, rfl, r⟩
def gList1 (xs : List D) (st : Sto) : R D := match xs with
  | [d] => match seqD d st with
    | some ds => .ok (.ref st.length) (st ++ [.lst ds])
    | none => .bad
  | _ => .bad
theorem cd_list : CallD X T (fun xs H Q => ∃ p ys, xs = [.ref p] ∧ (SqL X.K H p ys ∨ SqT X.K H p ys) ∧ ∀ l, H l = none → Q (.ref l) (upd H l (.lst ys))) gList1 := by
  intro E m H st xs vs Q s r h
  unfold gList1 at h
  split at h
  · obtain ⟨v, rfl, r'⟩ := r.oneL
    split at h
    · rename_i ds e
      obtain ⟨p, ws, rfl, hp, q⟩ := seqD_of s r' e
      exact ⟨p, ws, rfl, hp, fun l nl => after_lst s h q l nl⟩
    · exact h.elim
  · exact h.elim
def gTuple1 (xs : List D) (st : Sto) : R D := match xs with
  | [.tup ds] => .ok (.tup ds) st
  | [d] => match seqD d st with
    | some ds => .ok (.tup ds) st
    | none => .bad
  | _ => .bad
theorem cd_tuple : CallD X T (fun xs H Q => ∃ p ys, xs = [.ref p] ∧ ((SqL X.K H p ys ∧ ∀ l, H l = none → Q (.ref l) (upd H l (.tup ys))) ∨ (SqT X.K H p ys ∧ Q (.ref p) H))) gTuple1 := by
  intro E m H st xs vs Q s r h
  unfold gTuple1 at h
  split at h
  · obtain ⟨v, rfl, r'⟩ := r.oneL
    cases r' with
    | tup hp q => exact ⟨_, _, rfl, .inr ⟨hp, after_same s h (.tup hp q)⟩⟩
  · rename_i d hd
    obtain ⟨v, rfl, r'⟩ := r.oneL
    split at h
    · rename_i ds e
      cases r' with
      | tup hp r => exact (hd _ rfl).elim
      | lst hp q =>
        cases e
        exact ⟨_, _, rfl, .inl ⟨hp.sql, fun l nl => after_tup s h q l nl⟩⟩
      | ref hi =>
        obtain ⟨p, ws, e1, hp, q⟩ := seqD_ref s (.ref hi) e
        cases e1
        exact ⟨_, _, rfl, .inl ⟨.of hp, fun l nl => after_tup s h q l nl⟩⟩
      | _ => cases e
    · exact h.elim
  · exact h.elim

/-! ### subscripts -/
def ixD {α : Type} (xs : List α) (i : Int) : Option α := atI xs i
def valD (kvs : List (Key × D)) (k : Key) : Option D := (kvs.find? fun kv => decide (kv.1 = k)).map (·.2)
def keyD : D → Option Key
  | .int i => some (.inl i)
  | .str x => some (.inr x)
  | _ => none
def gIx (x y : D) (st : Sto) : R D := match x, y with
  | .str z, .int i => if z.length ≤ lineN then (match atI z.cps.toList i with
    | some c => .ok (.str ⟨#[c]⟩) st
    | none => .bad) else .bad
  | .ref n, y => match st[n]? with
    | some (.dict kvs) => match (keyD y).bind (valD kvs) with
      | some d => .ok d st
      | none => .bad
    | some (.lst ds) => match y with
      | .int i => match atI ds i with
        | some d => .ok d st
        | none => .bad
      | _ => .bad
    | _ => .bad
  | x, .int i => match seqD x st with
    | some ds => match atI ds i with
      | some d => .ok d st
      | none => .bad
    | none => .bad
  | _, _ => .bad
theorem atI_rep {K : PySem.W.Frag} {mg : Str → Option Value} {m : List Addr} {H : Hp} {ds : List D} {vs : List V} {i : Int} {d : D} (r : RepVs K mg m H ds vs) (h : atI ds i = some d) : ∃ v, atI vs i = some v ∧ RepV K mg m H d v := by
  unfold atI at h ⊢
  rw [← r.length]
  obtain ⟨j, e, h⟩ := Option.bind_eq_some_iff.mp h
  obtain ⟨v, h1, h2⟩ := r.get h
  exact ⟨v, by rw [e]; exact h1, h2⟩
theorem valD_rep {K : PySem.W.Frag} {mg : Str → Option Value} {m : List Addr} {H : Hp} {k : Key} : ∀ {kvs : List (Key × D)} {qs : List (Key × V)}, RepKV K mg m H kvs qs →
    (valD kvs k = none ∧ valV qs k = none) ∨ ∃ d v, valD kvs k = some d ∧ valV qs k = some v ∧ RepV K mg m H d v := by
  intro kvs qs r
  induction r with
  | nil => exact .inl ⟨rfl, rfl⟩
  | @cons p q kvs qs a t ih =>
    by_cases hk : p.1 = k
    · refine .inr ⟨p.2, q.2, by simp [valD, List.find?_cons, hk], valV_pos (a.1.symm.trans hk), a.2⟩
    · have hq : ¬ q.1 = k := fun e => hk (a.1.trans e)
      rw [valV_neg hq]
      have e1 : valD (p :: kvs) k = valD kvs k := by simp [valD, List.find?_cons, hk]
      rw [e1]
      exact ih
theorem keyD_rep {K : PySem.W.Frag} {mg : Str → Option Value} {m : List Addr} {H : Hp} {d : D} {v : V} {k : Key} (r : RepV K mg m H d v) (h : keyD d = some k) : v = kV k := by
  cases r <;> first | (cases h; rfl) | cases h
def rDGet : R2 := fun x y H Q => ∃ a v, x = .ref a ∧ DGet H a y (some v) ∧ Q v H
theorem ix_dict (hu : X.A.units + 1 < cLine) : IxR X rDGet := by
  intro value slice pins s σ H x y v u Q I rx ry h hs
  obtain ⟨a, w, rfl, g, q⟩ := h
  obtain rfl : v = Value.ref a := rx
  exact tail_any (dict_typeIs I g) PySem.F.slot_dict_getitem.lookup (d_getItem hu I g ry fun w' s3 I3 rw' => ⟨w, H, I3, rw', q⟩) hs
def rIxA (K : PySem.W.Frag) : R2 := fun x y H Q => rIx K x y H Q ∨ rDGet x y H Q
theorem ix_any (hu : X.A.units + 1 < cLine) : IxR X (rIxA X.K) := ix_seq.or (ix_dict hu)
theorem od_ix : OpD X T (rIxA X.K) gIx := by
  intro E m H st x y v w Q s rx ry h
  cases rx with
  | str z => cases ry with
    | int i =>
      simp only [gIx] at h
      split at h
      · rename_i hl
        split at h
        · rename_i c hc
          exact .inl (.inr (.inr ⟨z, i, c, rfl, rfl, by rw [line_eq]; exact hl, hc, after_same s h (.str _)⟩))
        · exact h.elim
      · exact h.elim
    | _ => exact h.elim
  | ref hi =>
    simp only [gIx] at h
    split at h
    · rename_i kvs e
      split at h
      · rename_i d hd
        obtain ⟨k, hk, hv⟩ := Option.bind_eq_some_iff.mp hd
        obtain ⟨qs, h1, r1⟩ := s.at' e hi
        have ev := keyD_rep ry hk
        subst ev
        rcases valD_rep (k := k) r1 with ⟨z, _⟩ | ⟨d', v', z1, z2, z3⟩
        · rw [hv] at z; cases z
        · rw [hv] at z1
          cases z1
          exact .inr ⟨_, v', rfl, by have g := DGet.k (k := k) h1; rw [z2] at g; exact g, after_same s h z3⟩
      · exact h.elim
    · rename_i ds e
      cases ry with
      | int i =>
        dsimp only at h
        split at h
        · rename_i d hd
          obtain ⟨vs, h1, r1⟩ := s.at' e hi
          obtain ⟨w, h2, r2⟩ := atI_rep r1 hd
          exact .inl (.inl ⟨_, vs, i, w, rfl, rfl, .of h1, h2, after_same s h r2⟩)
        · exact h.elim
      | _ => exact h.elim
    · exact h.elim
  | tup hp r => cases ry with
    | int i =>
      simp only [gIx, seqD] at h
      split at h
      · rename_i d hd
        obtain ⟨w, h2, r2⟩ := atI_rep r hd
        exact .inl (.inr (.inl ⟨_, _, i, w, rfl, rfl, hp, h2, after_same s h r2⟩))
      · exact h.elim
    | _ => exact h.elim
  | lst hp r => cases ry with
    | int i =>
      simp only [gIx, seqD] at h
      split at h
      · rename_i d hd
        obtain ⟨w, h2, r2⟩ := atI_rep r hd
        exact .inl (.inl ⟨_, _, i, w, rfl, rfl, hp.sql, h2, after_same s h r2⟩)
      · exact h.elim
    | _ => exact h.elim
  | _ => cases ry <;> exact h.elim
theorem fe_ix {k : Nat} {a b : Expr} {fa fb : DE} {pos : Pos} (o : Ok X W k) (ha : FE X T W a fa) (hb : FE X T W b fb) (hs : PlainIx b := by intro _ _; rfl) : FE X T W (.Subscript a b pos) (d2 gIx fa fb) :=
  PE.imp (pe_ix (ix_any (hu_of o.room)) ha hb hs) fun σ H Q ⟨m, env, st, a, h⟩ => tOp_of od_ix a h
end
end Fn
end
section
set_option Elab.async false
set_option linter.all false
set_option maxRecDepth 100000
set_option maxHeartbeats 4000000
namespace Fn
open PySem PySem.Spec PyProof.Rows L2 LamX
section
variable {X : Cx} {T : TB} {W : WX} {E : XK} {m m' : List Addr} {H H' : Hp} {st st' : Sto} {env : Ev} {σ : L2.St} {pos : Pos}

/-! ### slices -/
abbrev DO := Ev → Sto → R (Option Int)
def oNone : DO := fun _ st => .ok none st
def oSome (f : DE) : DO := fun env st => (f env st).bind fun d s1 => match d with
  | .int i => .ok (some i) s1
  | _ => .bad
def tO (K : PySem.W.Frag) (mg : Str → Option Value) (T : TB) (W : WX) (f : DO) : TO := fun σ H Q => ∃ m env st, At K mg T m env st σ H ∧ After K mg T (wAt W σ) m H (f env st) (fun _ H' o _ => Q o H')
abbrev FO (X : Cx) (T : TB) (W : WX) (e : Option Expr) (f : DO) : Prop := PO X e (tO X.K X.mg T W f)
theorem PO.imp {e : Option Expr} {t t' : TO} (h : PO X e t) (i : ∀ σ H Q, t' σ H Q → t σ H Q) : PO X e t' := ⟨fun pins s σ H Q I w => h.run pins s σ H Q I (i σ H Q w)⟩
theorem fo_none : FO X T W none oNone := PO.imp po_none fun σ H Q ⟨m, env, st, a, h⟩ => h m H (List.prefix_refl _) (Grow.refl _) a.s
theorem fo_some {e : Expr} {f : DE} (he : FE X T W e f) : FO X T W (some e) (oSome f) := by
  refine PO.imp (po_some he) fun σ H Q ⟨m, env, st, a, h⟩ => tE_to a h fun m1 H1 d st1 v a1 p1 g1 r1 h1 => ?_
  cases r1 with
  | int i => exact ⟨i, rfl, h1 m1 H1 (List.prefix_refl _) (Grow.refl _) a1.s⟩
  | _ => exact h1.elim
def cutD (xs : List D) (lo hi : Option Int) : List D := (xs.drop (HT.sIx xs.length 0 lo)).take (HT.sIx xs.length xs.length hi - HT.sIx xs.length 0 lo)
theorem cut_rep {K : PySem.W.Frag} {mg : Str → Option Value} {ds : List D} {vs : List V} {lo hi : Option Int} (r : RepVs K mg m H ds vs) : RepVs K mg m H (cutD ds lo hi) (cutV vs lo hi) := by
  unfold cutD cutV
  rw [← r.length]
  exact (r.drop _).take _
theorem cut_whole {ds : List D} {lo hi : Option Int} (h : HT.sIx ds.length 0 lo = 0 ∧ HT.sIx ds.length ds.length hi = ds.length) : cutD ds lo hi = ds := by
  unfold cutD
  rw [h.1, h.2]
  simp
def gCut (d : D) (lo hi : Option Int) (st : Sto) : R D := match d with
  | .str z => if z.length ≤ lineN then .ok (.str (cutS z lo hi)) st else .bad
  | .tup ds => .ok (.tup (cutD ds lo hi)) st
  | d => match seqD d st with
    | some ds => .ok (.ref st.length) (st ++ [.lst (cutD ds lo hi)])
    | none => .bad
def dCut (f : DE) (lo hi : DO) : DE := fun env st => (f env st).bind fun d s1 => (lo env s1).bind fun l s2 => (hi env s2).bind fun h s3 => gCut d l h s3
def rSlAny (K : PySem.W.Frag) : V → Option Int → Option Int → Hp → VK → Prop := fun x lo hi H Q => rSlS x lo hi H Q ∨ (rSlA K x lo hi H Q ∨ rSlL K x lo hi H Q)
theorem sl_any : SlR X (rSlAny X.K) := sl_str.or (sl_tupA.or sl_list)
theorem cut_of {d : D} {v : V} {lo hi : Option Int} {Q : VK} (s : RepS X.K X.mg T m H st) (r : RepV X.K X.mg m H d v) (h : After X.K X.mg T E m H (gCut d lo hi st) (kE X.K X.mg Q)) : rSlAny X.K v lo hi H Q := by
  cases r with
  | str z =>
    simp only [gCut] at h
    split at h
    · rename_i hl
      exact .inl ⟨z, rfl, by rw [line_eq]; exact hl, after_same s h (.str _)⟩
    · exact h.elim
  | tup hp r =>
    refine .inr (.inl ⟨_, _, rfl, hp, fun e => ?_, fun _ p np => after_tup s h (cut_rep r) p np⟩)
    simp only [gCut] at h
    rw [← r.length] at e
    rw [cut_whole e] at h
    exact after_same s h (.tup hp r)
  | lst hp r => exact .inr (.inr ⟨_, _, rfl, hp.sql, fun p np => after_lst s h (cut_rep r) p np⟩)
  | ref hi =>
    simp only [gCut] at h
    split at h
    · rename_i ds e
      obtain ⟨p, ws, e1, hp, q⟩ := seqD_ref s (.ref hi) e
      cases e1
      exact .inr (.inr ⟨_, _, rfl, .of hp, fun p np => after_lst s h (cut_rep q) p np⟩)
    · exact h.elim
  | _ => exact h.elim
theorem tO_to {β : Type} {f : DO} {g : Option Int → Sto → R β} {k : List Addr → Hp → β → Sto → Prop} (a : At X.K X.mg T m env st σ H) (h : After X.K X.mg T (wAt W σ) m H ((f env st).bind g) k)
    {Q' : Option Int → Hp → Prop} (i : ∀ m1 H1 d st1, At X.K X.mg T m1 env st1 σ H1 → m <+: m1 → Grow H H1 → After X.K X.mg T (wAt W σ) m1 H1 (g d st1) k → Q' d H1) : tO X.K X.mg T W f σ H Q' :=
  ⟨m, env, st, a, h.split.imp fun m1 H1 d s p g s1 q => i m1 H1 d s (a.mono p g s1) p g q⟩
theorem fe_cut {e : Expr} {lo hi : Option Expr} {f : DE} {fl fh : DO} {p2 : Pos} (he : FE X T W e f) (hl : FO X T W lo fl) (hh : FO X T W hi fh) : FE X T W (.Subscript e (.Slice lo hi none p2) pos) (dCut f fl fh) := by
  refine PE.imp (pe_slice sl_any he hl hh) fun σ H Q ⟨m, env, st, a, h⟩ => tE_to a h fun m1 H1 d st1 v a1 p1 g1 r1 h1 => ?_
  refine tO_to a1 h1 fun m2 H2 l st2 a2 p2 g2 h2 => tO_to a2 h2 fun m3 H3 u st3 a3 p3 g3 h3 => ?_
  exact cut_of (E := wAt W σ) a3.s ((r1.mono p2 g2).mono p3 g3) h3

/-! ### methods of built-in types -/
def tyB (T : String) (d : D) (st : Sto) : Bool := match d with
  | .str _ => T == "str"
  | .int _ => T == "int"
  | .lst _ => T == "list"
  | .ref i => match st[i]? with
    | some (.lst _) => T == "list"
    | some (.dict _) => T == "dict"
    | _ => false
  | _ => false
theorem tyB_of {d : D} {v : V} {n : String} (s : RepS X.K X.mg T m H st) (r : RepV X.K X.mg m H d v) (h : tyB n d st = true) : tyV X.K n v H := by
  cases r with
  | str z => exact beq_iff_eq.mp h
  | int z => exact beq_iff_eq.mp h
  | lst hp r => exact .inl ⟨beq_iff_eq.mp h, _, hp.sql⟩
  | ref hi =>
    simp only [tyB] at h
    split at h
    · rename_i ds e
      obtain ⟨vs, h1, _⟩ := s.at' e hi
      exact .inl ⟨beq_iff_eq.mp h, _, .of h1⟩
    · rename_i kvs e
      obtain ⟨vs, h1, _⟩ := s.at' e hi
      exact .inr (.inr (.inl ⟨beq_iff_eq.mp h, .inl ⟨_, h1⟩⟩))
    · cases h
  | _ => cases h
def MtD (X : Cx) (T : TB) (r : V → List V → Hp → VK → Prop) (g : D → List D → Sto → R D) : Prop :=
  ∀ {E : XK} {m : List Addr} {H : Hp} {st : Sto} {x : D} {xs : List D} {v : V} {vs : List V} {Q : VK}, RepS X.K X.mg T m H st → RepV X.K X.mg m H x v → RepVs X.K X.mg m H xs vs → After X.K X.mg T E m H (g x xs st) (kE X.K X.mg Q) → r v vs H Q
def dM (n : String) (g : D → List D → Sto → R D) (f : DE) (fa : DA) : DE := fun env st => (f env st).bind fun x s1 => if tyB n x s1 = true then (fa env s1).bind fun xs s2 => g x xs s2 else .bad
theorem fe_m {o e : Expr} {es : List Expr} {f : DE} {fa : DA} {name : Str} {apos cpos : Pos} {n id : String} {r : V → List V → Hp → VK → Prop} {g : D → List D → Sto → R D}
    (pa : PlainAttrs n) (slot : Slot n name id) (hty : typeOf (.builtin id) = pure (.type "method_descriptor")) (hm : MtR X id r) (hd : MtD X T r g) (ho : FE X T W o f) (ha : FA X T W (e :: es) fa)
    (hbase : attributeBase o name X.env (eval o X.env) = eval o X.env := by rfl)
    (hfew : ((backTo cpos (starEach (e :: es) X.env)).all (fun x => !x.1) && (backToKw cpos (keywordEach [] X.env)).all (fun x => x.1.isSome)
      && decide ((e :: es).length + ([] : List Keyword).length + (if ([] : List Keyword).isEmpty then 0 else 1) < 30)) = true := by rfl)
    (hline : (apos.endLine == cpos.line) = true := by rfl) (hs : starEach (e :: es) X.env = (false, eval e X.env) :: starEach es X.env := by rfl) (hplain : (backTo cpos (starEach es X.env)).any (·.1) = false := by rfl) :
    FE X T W (.Call (.Attribute o name apos) (e :: es) [] cpos) (dM n g f fa) := by
  refine PE.imp (pe_bm pa slot hty hm ho ha hbase hfew hline hs hplain) fun σ H Q ⟨m, env, st, a, h⟩ => tE_to a h fun m1 H1 d st1 v a1 p1 g1 r1 h1 => ?_
  split at h1
  · rename_i ht
    exact ⟨tyB_of a1.s r1 ht, tA_to a1 h1 fun m2 H2 ds st2 vs a2 p2 g2 r2 h2 => hd a2.s (r1.mono p2 g2) r2 h2⟩
  · exact h1.elim
theorem fe_m0 {o : Expr} {f : DE} {name : Str} {apos cpos : Pos} {n id : String} {r : V → List V → Hp → VK → Prop} {g : D → List D → Sto → R D}
    (pa : PlainAttrs n) (slot : Slot n name id) (hty : typeOf (.builtin id) = pure (.type "method_descriptor")) (hm : MtR X id r) (hd : MtD X T r g) (ho : FE X T W o f)
    (hbase : attributeBase o name X.env (eval o X.env) = eval o X.env := by rfl) (hline : (apos.endLine == cpos.line) = true := by rfl) :
    FE X T W (.Call (.Attribute o name apos) [] [] cpos) (dM n g f aNil) := by
  refine PE.imp (pe_bm0 pa slot hty hm ho hbase hline) fun σ H Q ⟨m, env, st, a, h⟩ => tE_to a h fun m1 H1 d st1 v a1 p1 g1 r1 h1 => ?_
  split at h1
  · rename_i ht
    exact ⟨tyB_of a1.s r1 ht, hd a1.s r1 .nil h1⟩
  · exact h1.elim
/-- a method of a list in the store -/
def onL (k : Nat → List D → Sto → R D) (x : D) (st : Sto) : R D := match x with
  | .ref i => match st[i]? with
    | some (.lst ds) => k i ds st
    | _ => .bad
  | _ => .bad
theorem onL_of {x : D} {v : V} {k : Nat → List D → Sto → R D} {K' : List Addr → Hp → D → Sto → Prop} (s : RepS X.K X.mg T m H st) (r : RepV X.K X.mg m H x v) (h : After X.K X.mg T E m H (onL k x st) K') :
    ∃ i ds a vs, st[i]? = some (.lst ds) ∧ m[i]? = some a ∧ v = .ref a ∧ H a = some (.lst vs) ∧ RepVs X.K X.mg m H ds vs ∧ After X.K X.mg T E m H (k i ds st) K' := by
  cases r with
  | ref hi =>
    simp only [onL] at h
    split at h
    · rename_i ds e
      obtain ⟨vs, h1, q⟩ := s.at' e hi
      exact ⟨_, ds, _, vs, e, hi, rfl, h1, q, h⟩
    · exact h.elim
  | _ => exact h.elim
def gAppend (x : D) (xs : List D) (st : Sto) : R D := match xs with
  | [d] => onL (fun i ds st => if ds.length < lineN then .ok .non (st.set i (.lst (ds ++ [d]))) else .bad) x st
  | _ => .bad
theorem md_append : MtD X T rAppend gAppend := by
  intro E m H st x xs v vs Q s rx rs h
  unfold gAppend at h
  split at h
  · obtain ⟨y, rfl, ry⟩ := rs.oneL
    obtain ⟨i, ds, a, ws, e, hi, rfl, ha, q, h⟩ := onL_of s rx h
    split at h
    · rename_i hl
      exact ⟨a, ws, y, rfl, rfl, ha, by rw [line_eq, ← q.length]; exact hl, after_put s h e hi (fun g => ⟨_, upd_same, (q.mono (List.prefix_refl _) g).app (.cons (ry.mono (List.prefix_refl _) g) .nil)⟩) .non⟩
    · exact h.elim
  · exact h.elim
def gExtend (x : D) (xs : List D) (st : Sto) : R D := match xs with
  | [y] => onL (fun i ds st => onL (fun _ es st => if ds.length + es.length ≤ lineN then .ok .non (st.set i (.lst (ds ++ es))) else .bad) y st) x st
  | _ => .bad
theorem md_extend : MtD X T rExtend gExtend := by
  intro E m H st x xs v vs Q s rx rs h
  unfold gExtend at h
  split at h
  · obtain ⟨y, rfl, ry⟩ := rs.oneL
    obtain ⟨i, ds, a, ws, e, hi, rfl, ha, q, h⟩ := onL_of s rx h
    obtain ⟨j, es, b, us, e2, hj, rfl, hb, q2, h⟩ := onL_of s ry h
    split at h
    · rename_i hl
      exact ⟨a, b, ws, us, rfl, rfl, ha, hb, by rw [line_eq, ← q.length, ← q2.length]; exact hl, after_put s h e hi (fun g => ⟨_, upd_same, (q.app q2).mono (List.prefix_refl _) g⟩) .non⟩
    · exact h.elim
  · exact h.elim
def gPop (x : D) (xs : List D) (st : Sto) : R D := match xs with
  | [] => onL (fun i ds st => match ds[ds.length - 1]? with
    | some d => .ok d (st.set i (.lst ds.dropLast))
    | none => .bad) x st
  | _ => .bad
theorem RepVs.dropLast {K : PySem.W.Frag} {mg : Str → Option Value} {ds : List D} {vs : List V} (r : RepVs K mg m H ds vs) : RepVs K mg m H ds.dropLast vs.dropLast := by
  rw [List.dropLast_eq_take, List.dropLast_eq_take, r.length]
  exact r.take _
theorem RepVs.eraseIdx {K : PySem.W.Frag} {mg : Str → Option Value} : ∀ {ds : List D} {vs : List V} (k : Nat), RepVs K mg m H ds vs → RepVs K mg m H (ds.eraseIdx k) (vs.eraseIdx k)
  | _, _, _, .nil => .nil
  | _, _, 0, .cons _ t => t
  | _, _, k + 1, .cons r t => .cons r (RepVs.eraseIdx k t)
theorem md_pop : MtD X T rPop gPop := by
  intro E m H st x xs v vs Q s rx rs h
  unfold gPop at h
  split at h
  · cases rs
    obtain ⟨i, ds, a, ws, e, hi, rfl, ha, q, h⟩ := onL_of s rx h
    split at h
    · rename_i d hd
      obtain ⟨y, h1, ry⟩ := q.get hd
      exact ⟨a, ws, y, rfl, rfl, ha, by rw [← q.length]; exact h1, after_put s h e hi (fun g => ⟨_, upd_same, (q.mono (List.prefix_refl _) g).dropLast⟩) ry⟩
    · exact h.elim
  · exact h.elim
def gPopAt (x : D) (xs : List D) (st : Sto) : R D := match xs with
  | [.int j] => if -(2 ^ 63) ≤ j ∧ j < 2 ^ 63 then onL (fun i ds st => match (seqIndex? j ds.length) with
    | some k => match ds[k]? with
      | some d => .ok d (st.set i (.lst (ds.eraseIdx k)))
      | none => .bad
    | none => .bad) x st else .bad
  | _ => .bad
theorem md_popAt : MtD X T rPopAt gPopAt := by
  intro E m H st x xs v vs Q s rx rs h
  unfold gPopAt at h
  split at h
  · rename_i j
    split at h
    · rename_i hj
      obtain ⟨y, rfl, ry⟩ := rs.oneL
      cases ry
      obtain ⟨i, ds, a, ws, e, hi, rfl, ha, q, h⟩ := onL_of s rx h
      split at h
      · rename_i k hk
        split at h
        · rename_i d hd
          obtain ⟨y, h1, ry⟩ := q.get hd
          exact ⟨a, ws, j, k, y, rfl, rfl, ha, hj.1, hj.2, by rw [← q.length]; exact hk, h1, after_put s h e hi (fun g => ⟨_, upd_same, (q.mono (List.prefix_refl _) g).eraseIdx k⟩) ry⟩
        · exact h.elim
      · exact h.elim
    · exact h.elim
  · exact h.elim
def gSplit (x : D) (xs : List D) (st : Sto) : R D := match x, xs with
  | .str a, [.str b] => if (b.length == 0) = false ∧ a.length + 2 ≤ lineN then .ok (.ref st.length) (st ++ [.lst ((Txt.split a b).map .str)]) else .bad
  | _, _ => .bad
theorem repStrs {K : PySem.W.Frag} {mg : Str → Option Value} : ∀ xs : List Str, RepVs K mg m H (xs.map D.str) (xs.map V.str)
  | [] => .nil
  | x :: xs => .cons (.str x) (repStrs xs)
theorem repInts {K : PySem.W.Frag} {mg : Str → Option Value} : ∀ xs : List Int, RepVs K mg m H (xs.map D.int) (xs.map V.int)
  | [] => .nil
  | x :: xs => .cons (.int x) (repInts xs)
theorem md_split : MtD X T (fun x xs H Q => ∃ a b, x = .str a ∧ xs = [.str b] ∧ (b.length == 0) = false ∧ a.length + 2 ≤ sizeLine ∧ rNewStrs (Txt.split a b) H Q) gSplit := by
  intro E m H st x xs v vs Q s rx rs h
  unfold gSplit at h
  split at h
  · rename_i a b
    obtain ⟨y, rfl, ry⟩ := rs.oneL
    cases rx
    cases ry
    split at h
    · rename_i hl
      exact ⟨a, b, rfl, rfl, hl.1, by rw [line_eq]; exact hl.2, fun p np => after_lst s h (repStrs _) p np⟩
    · exact h.elim
  · exact h.elim
def strsD : List D → Option (List Str)
  | [] => some []
  | .str x :: ds => (strsD ds).map (x :: ·)
  | _ => none
theorem strsD_of : ∀ {ds : List D} {xs : List Str}, strsD ds = some xs → ds = xs.map .str
  | [], bs, h => by
    cases h
    rfl
  | d :: ds, bs, h => by
    cases d <;> first
      | (simp only [strsD] at h
         obtain ⟨cs, e, rfl⟩ := Option.map_eq_some_iff.mp h
         rw [strsD_of e]
         rfl)
      | (simp [strsD] at h)
def gJoin (x : D) (xs : List D) (st : Sto) : R D := match x, xs with
  | .str a, [y] => match (seqD y st).bind strsD with
    | some ys => if (ys.map (·.length)).sum + ys.length * a.length ≤ 16777216 then .ok (.str (Txt.join a ys)) st else .bad
    | none => .bad
  | _, _ => .bad
theorem md_join : MtD X T (fun x xs H Q => ∃ a p, ∃ ys : List Str, x = .str a ∧ xs = [.ref p] ∧ (SqL X.K H p (ys.map V.str) ∨ SqT X.K H p (ys.map V.str)) ∧
      (ys.map (·.length)).sum + ys.length * a.length ≤ 16777216 ∧ Q (.str (Txt.join a ys)) H) gJoin := by
  intro E m H st x xs v vs Q s rx rs h
  unfold gJoin at h
  split at h
  · rename_i a y
    obtain ⟨y, rfl, ry⟩ := rs.oneL
    cases rx
    split at h
    · rename_i ys e
      obtain ⟨ds, hd, e3⟩ := Option.bind_eq_some_iff.mp e
      have e4 := strsD_of e3
      subst e4
      obtain ⟨p, ws, rfl, hp, q⟩ := seqD_of s ry hd
      have e5 := q.strs
      subst e5
      split at h
      · rename_i hl
        exact ⟨a, p, ys, rfl, rfl, hp, hl, after_same s h (.str _)⟩
      · exact h.elim
    · exact h.elim
  · exact h.elim
def gUpper (x : D) (xs : List D) (st : Sto) : R D := match x, xs with
  | .str a, [] => if a.length ≤ 5592405 then .ok (.str (Txt.upper a)) st else .bad
  | _, _ => .bad
theorem md_upper : MtD X T (fun x xs H Q => ∃ a, x = .str a ∧ xs = [] ∧ a.length ≤ 5592405 ∧ Q (.str (Txt.upper a)) H) gUpper := by
  intro E m H st x xs v vs Q s rx rs h
  unfold gUpper at h
  split at h
  · rename_i a
    cases rs
    cases rx
    split at h
    · rename_i hl
      exact ⟨a, rfl, rfl, hl, after_same s h (.str _)⟩
    · exact h.elim
  · exact h.elim

/-! ### what is walked -/
/-- a list, a tuple, a text -/
def itD (d : D) (st : Sto) : R IT := match d with
  | .str z => .ok ⟨z.cps.toList.map fun c => .str ⟨#[c]⟩, []⟩ st
  | .tup ds => .ok ⟨ds, []⟩ st
  | .lst ds => .ok ⟨ds, []⟩ st
  | .ref i => match st[i]? with
    | some (.lst ds) => .ok ⟨ds, [(i, .lst ds)]⟩ st
    | _ => .bad
  | _ => .bad
def dIter (f : DE) : DI := fun env st => (f env st).bind itD
theorem walkD_list {a : Addr} {i : Nat} {ds : List D} {m : List Addr} {H : Hp} (hi : m[i]? = some a) : WalkD X.K X.mg T (Itl X.K a) m H ⟨ds, [(i, .lst ds)]⟩ := by
  have key : ∀ {m' H' st'}, m <+: m' → RepS X.K X.mg T m' H' st' → IT.live ⟨ds, [(i, .lst ds)]⟩ st' → ∃ vs, H' a = some (.lst vs) ∧ RepVs X.K X.mg m' H' ds vs := fun p s l => s.at' (l (i, .lst ds) (by simp)) (pre_get p hi)
  refine ⟨fun k m' H' st' p g s l hk => ?_, fun m' H' st' p g s l => ?_, fun k m' H' st' x H'' p g s l hk y => ?_⟩
  · obtain ⟨vs, h1, r⟩ := key p s l
    exact ⟨vs, vs[k]'(by rw [← r.length]; exact hk), .of h1, by simp⟩
  · obtain ⟨vs, h1, r⟩ := key p s l
    exact ⟨vs, .of h1, by rw [← r.length]; exact Nat.le_refl _⟩
  · obtain ⟨vs, h1, r⟩ := key p s l
    obtain ⟨rfl, y⟩ := y
    obtain ⟨d, hd, rd⟩ := r.getR (y vs (.of h1))
    exact ⟨d, hd, Grow.refl _, s, rd⟩
theorem walkD_tup {a : Addr} {ds : List D} {vs : List V} {m : List Addr} {H : Hp} (hp : SqT X.K H a vs) (r : RepVs X.K X.mg m H ds vs) : WalkD X.K X.mg T (Itt X.K a) m H ⟨ds, []⟩ := by
  refine ⟨fun k m' H' st' p g s l hk => ?_, fun m' H' st' p g s l => ?_, fun k m' H' st' x H'' p g s l hk y => ?_⟩
  · exact ⟨vs, vs[k]'(by rw [← r.length]; exact hk), g.sqt hp, by simp⟩
  · exact ⟨vs, g.sqt hp, by rw [← r.length]; exact Nat.le_refl _⟩
  · obtain ⟨rfl, y⟩ := y
    obtain ⟨d, hd, rd⟩ := r.getR (y vs (g.sqt hp))
    exact ⟨d, hd, Grow.refl _, s, rd.mono p g⟩
theorem walkD_lst {a : Addr} {ds : List D} {vs : List V} {m : List Addr} {H : Hp} (hp : SqK X.K H a vs) (r : RepVs X.K X.mg m H ds vs) : WalkD X.K X.mg T (Itl X.K a) m H ⟨ds, []⟩ := by
  refine ⟨fun k m' H' st' p g s l hk => ?_, fun m' H' st' p g s l => ?_, fun k m' H' st' x H'' p g s l hk y => ?_⟩
  · exact ⟨vs, vs[k]'(by rw [← r.length]; exact hk), (g.sqk hp).sql, by simp⟩
  · exact ⟨vs, (g.sqk hp).sql, by rw [← r.length]; exact Nat.le_refl _⟩
  · obtain ⟨rfl, y⟩ := y
    obtain ⟨d, hd, rd⟩ := r.getR (y vs (g.sqk hp).sql)
    exact ⟨d, hd, Grow.refl _, s, rd.mono p g⟩
theorem walkD_str {z : Str} {m : List Addr} {H : Hp} : WalkD X.K X.mg T (Its z) m H ⟨z.cps.toList.map fun c => .str ⟨#[c]⟩, []⟩ := by
  have hl : (z.cps.toList.map fun c => D.str ⟨#[c]⟩).length = z.cps.size := by simp
  refine ⟨fun k m' H' st' p g s l hk => ?_, fun m' H' st' p g s l => ?_, fun k m' H' st' x H'' p g s l hk y => ?_⟩
  · show k < z.cps.size
    rw [← hl]
    exact hk
  · show z.cps.size ≤ _
    rw [← hl]
    exact Nat.le_refl _
  · obtain ⟨rfl, c, hc, rfl⟩ := y
    exact ⟨_, by simp [List.getElem?_map, hc], Grow.refl _, s, .str _⟩
theorem fi_seq {tg e : Expr} {f : DE} (he : FE X T W e f) : FI X T W tg e (dIter f) := by
  refine PI.imp (PI.or (pi_str he) (PI.or (pi_tup he) (pi_list he))) fun σ H R ⟨m, env, st, a, h⟩ => ?_
  unfold dIter at h
  have key : ∀ (Q : V → Hp → Prop), (∀ m1 H1 d st1 v, At X.K X.mg T m1 env st1 σ H1 → m <+: m1 → Grow H H1 → f env st = .ok d st1 → RepV X.K X.mg m1 H1 d v → After X.K X.mg T (wAt W σ) m1 H1 (itD d st1) (fun m' H' it _ => ∀ J, WalkD X.K X.mg T J m' H' it → R J H') → Q v H1) → tE X.K X.mg T W f σ H Q := fun Q i => by
    refine ⟨m, env, st, a, ?_⟩
    cases e : f env st with
    | ok d s1 =>
      rw [e] at h
      exact fun m1 H1 p1 g1 s1' v r1 => i m1 H1 d s1 v (a.mono p1 g1 s1') p1 g1 e r1 (After.mono (r := itD d s1) p1 g1 h)
    | exc x s1 => rw [e] at h; exact h
    | bad => rw [e] at h; exact h
  cases ef : f env st with
  | ok d s1 =>
    cases d with
    | str z =>
      refine .inl (key _ fun m1 H1 d st1 v a1 p1 g1 e1 r1 h1 => ?_)
      rw [ef] at e1
      cases e1
      cases r1
      exact ⟨z, rfl, h1 m1 H1 (List.prefix_refl _) (Grow.refl _) a1.s _ walkD_str⟩
    | tup ds =>
      refine .inr (.inl (key _ fun m1 H1 d st1 v a1 p1 g1 e1 r1 h1 => ?_))
      rw [ef] at e1
      cases e1
      cases r1 with
      | tup hp r => exact ⟨_, rfl, ⟨_, hp⟩, h1 m1 H1 (List.prefix_refl _) (Grow.refl _) a1.s _ (walkD_tup hp r)⟩
    | lst ds =>
      refine .inr (.inr (key _ fun m1 H1 d st1 v a1 p1 g1 e1 r1 h1 => ?_))
      rw [ef] at e1
      cases e1
      cases r1 with
      | lst hp r => exact ⟨_, rfl, ⟨_, hp.sql⟩, h1 m1 H1 (List.prefix_refl _) (Grow.refl _) a1.s _ (walkD_lst hp r)⟩
    | ref i =>
      refine .inr (.inr (key _ fun m1 H1 d st1 v a1 p1 g1 e1 r1 h1 => ?_))
      rw [ef] at e1
      cases e1
      cases r1 with
      | ref hi =>
        simp only [itD] at h1
        split at h1
        · rename_i ds e
          obtain ⟨vs, h2, r⟩ := a1.s.at' e hi
          exact ⟨_, rfl, ⟨_, .of h2⟩, h1 m1 H1 (List.prefix_refl _) (Grow.refl _) a1.s _ (walkD_list hi)⟩
        · exact h1.elim
    | _ => rw [ef] at h; exact h.elim
  | exc x s1 =>
    refine .inl ⟨m, env, st, a, ?_⟩
    rw [ef] at h ⊢
    exact h
  | bad => rw [ef] at h; exact h.elim
/-- range -/
def rngD (lo : Int) (n : Nat) : List D := (List.range n).map fun k : Nat => D.int (lo + k)
def gRange1 (xs : List D) (st : Sto) : R IT := match xs with
  | [.int j] => if -(2 ^ 62) ≤ j ∧ j < 2 ^ 62 then .ok ⟨rngD 0 j.toNat, []⟩ st else .bad
  | _ => .bad
def gRange2 (xs : List D) (st : Sto) : R IT := match xs with
  | [.int i, .int j] => if -(2 ^ 62) ≤ i ∧ i < 2 ^ 62 ∧ -(2 ^ 62) ≤ j ∧ j < 2 ^ 62 then .ok ⟨rngD i (j - i).toNat, []⟩ st else .bad
  | _ => .bad
def dIt (g : List D → Sto → R IT) (f : DA) : DI := fun env st => (f env st).bind g
theorem walkD_range {lo : Int} {n : Nat} {m : List Addr} {H : Hp} {ds : List D} (hd : ds = (List.range n).map fun (k : Nat) => D.int (lo + k)) : WalkD X.K X.mg T (Itr lo n) m H ⟨ds, []⟩ := by
  subst hd
  have hl : ((List.range n).map fun (k : Nat) => D.int (lo + k)).length = n := by simp
  refine ⟨fun k m' H' st' p g s l hk => ?_, fun m' H' st' p g s l => ?_, fun k m' H' st' x H'' p g s l hk y => ?_⟩
  · show k < n
    rw [← hl]
    exact hk
  · show n ≤ _
    rw [hl]
    exact Nat.le_refl _
  · obtain ⟨rfl, rfl⟩ := y
    have hk' : k < n := by rw [← hl]; exact hk
    exact ⟨_, by simp [List.getElem?_map, List.getElem?_range hk'], Grow.refl _, s, .int _⟩
theorem fi_range1 {tg a : Expr} {f : DA} {p : Pos} (hm : X.mg "range" = none) (ha : FA X T W [a] f) (hg : Gl X "range" := by rfl) (hs : starEach [a] X.env = [(false, eval a X.env)] := by rfl) : FI X T W tg (.Call (.Name "range" p) [a] [] pos) (dIt gRange1 f) := by
  refine PI.imp (pi_range1 hg hm ha hs) fun σ H R ⟨m, env, st, a, h⟩ => ?_
  refine ⟨m, env, st, a, (After.split h).imp fun m1 H1 ds s1 p1 g1 s1' q vs r => ?_⟩
  unfold gRange1 at q
  split at q
  · rename_i j
    obtain ⟨v, rfl, rv⟩ := r.oneL
    cases rv
    split at q
    · rename_i hl
      exact ⟨j, rfl, hl.1, hl.2, q m1 H1 (List.prefix_refl _) (Grow.refl _) s1' _ (walkD_range rfl)⟩
    · exact q.elim
  · exact q.elim
theorem fi_range2 {tg a b : Expr} {f : DA} {p : Pos} (hm : X.mg "range" = none) (ha : FA X T W [a, b] f) (hg : Gl X "range" := by rfl) (hs : starEach [a, b] X.env = [(false, eval a X.env), (false, eval b X.env)] := by rfl) (hs2 : starEach [b] X.env = [(false, eval b X.env)] := by rfl) : FI X T W tg (.Call (.Name "range" p) [a, b] [] pos) (dIt gRange2 f) := by
  refine PI.imp (pi_range2 hg hm ha hs hs2) fun σ H R ⟨m, env, st, a, h⟩ => ?_
  refine ⟨m, env, st, a, (After.split h).imp fun m1 H1 ds s1 p1 g1 s1' q vs r => ?_⟩
  unfold gRange2 at q
  split at q
  · rename_i i j
    cases r with
    | cons r1 t => cases t with
      | cons r2 t =>
        cases t
        cases r1
        cases r2
        split at q
        · rename_i hl
          exact ⟨i, j, rfl, hl, q m1 H1 (List.prefix_refl _) (Grow.refl _) s1' _ (walkD_range rfl)⟩
        · exact q.elim
  · exact q.elim
/-- zip of two lists, of two tuples -/
def seqW (d : D) (st : Sto) : Option (Bool × List D × List (Nat × O)) := match d with
  | .tup ds => some (true, ds, [])
  | .lst ds => some (false, ds, [])
  | .ref i => match st[i]? with
    | some (.lst ds) => some (false, ds, [(i, .lst ds)])
    | _ => none
  | _ => none
def gZip (xs : List D) (st : Sto) : R IT := match xs with
  | [x, y] => match seqW x st, seqW y st with
    | some (k, ds, w), some (k', es, w') => if k = k' then .ok ⟨(ds.zip es).map fun p => .tup [p.1, p.2], w ++ w'⟩ st else .bad
    | _, _ => .bad
  | _ => .bad
/-- what stands while the watch holds -/
def Stay (K : PySem.W.Frag) (mg : Str → Option Value) (T : TB) (k : Bool) (m : List Addr) (H : Hp) (a : Addr) (ds : List D) (w : List (Nat × O)) : Prop :=
  ∀ m' H' st', m <+: m' → Grow H H' → RepS K mg T m' H' st' → (∀ p ∈ w, st'[p.1]? = some p.2) → ∃ vs, (if k = true then SqT K H' a vs else SqL K H' a vs) ∧ RepVs K mg m' H' ds vs
theorem seqW_of {d : D} {st : Sto} {k : Bool} {ds : List D} {w : List (Nat × O)} {v : V} (s : RepS X.K X.mg T m H st) (r : RepV X.K X.mg m H d v) (h : seqW d st = some (k, ds, w)) :
    ∃ a, v = .ref a ∧ Stay X.K X.mg T k m H a ds w ∧ ∃ vs, (if k = true then SqT X.K H a vs else SqL X.K H a vs) := by
  cases r with
  | tup hp r =>
    cases h
    exact ⟨_, rfl, fun m' H' st' p g s' l => ⟨_, g.sqt hp, r.mono p g⟩, _, hp⟩
  | lst hp r =>
    cases h
    exact ⟨_, rfl, fun m' H' st' p g s' l => ⟨_, (g.sqk hp).sql, r.mono p g⟩, _, hp.sql⟩
  | ref hi =>
    simp only [seqW] at h
    split at h
    · rename_i es e
      cases h
      obtain ⟨vs, h1, q⟩ := s.at' e hi
      exact ⟨_, rfl, fun m' H' st' p g s' l => by
        obtain ⟨vs, h1, q⟩ := s'.at' (l _ (List.mem_singleton.mpr rfl)) (pre_get p hi)
        exact ⟨vs, .of h1, q⟩, vs, .of h1⟩
    · cases h
  | _ => cases h
theorem walkD_zip {k : Bool} {a b : Addr} {ds es : List D} {w w' : List (Nat × O)} (h1 : Stay X.K X.mg T k m H a ds w) (h2 : Stay X.K X.mg T k m H b es w') :
    WalkD X.K X.mg T (if k = true then RZ.ItzT X.K a b else Itz X.K a b) m H ⟨(ds.zip es).map fun p => .tup [p.1, p.2], w ++ w'⟩ := by
  have hl : ((ds.zip es).map fun p => D.tup [p.1, p.2]).length = min ds.length es.length := by simp
  refine ⟨fun i m' H' st' p g s l hk => ?_, fun m' H' st' p g s l => ?_, fun i m' H' st' x H'' p g s l hk y => ?_⟩
  all_goals
    obtain ⟨vs, q1, r1⟩ := h1 m' H' st' p g s fun z hz => l z (List.mem_append_left _ hz)
    obtain ⟨ws, q2, r2⟩ := h2 m' H' st' p g s fun z hz => l z (List.mem_append_right _ hz)
  · have hk' : i < min ds.length es.length := by rw [← hl]; exact hk
    have e1 : i < vs.length := by rw [← r1.length]; omega
    have e2 : i < ws.length := by rw [← r2.length]; omega
    cases k with
    | true => exact ⟨vs, ws, vs[i], ws[i], q1, q2, by simp [e1], by simp [e2]⟩
    | false => exact ⟨vs, ws, vs[i], ws[i], q1, q2, by simp [e1], by simp [e2]⟩
  · have e1 := r1.length
    have e2 := r2.length
    cases k with
    | true => exact ⟨vs, ws, q1, q2, by rw [hl]; omega⟩
    | false => exact ⟨vs, ws, q1, q2, by rw [hl]; omega⟩
  · have fin : ∀ (Tq : Addr) (u z : V), x = .ref Tq → H' Tq = none → H'' = upd H' Tq (.tup [u, z]) → vs[i]? = some u → ws[i]? = some z → ∃ d, ((ds.zip es).map fun p => D.tup [p.1, p.2])[i]? = some d ∧ Grow H' H'' ∧ RepS X.K X.mg T m' H'' st' ∧ RepV X.K X.mg m' H'' d x := by
      intro Tq u z ex hn eH eu ez
      subst ex eH
      obtain ⟨d, hd, rd⟩ := r1.getR eu
      obtain ⟨e, he, re⟩ := r2.getR ez
      have g' : Grow H' (upd H' Tq (.tup [u, z])) := Grow.new hn
      exact ⟨.tup [d, e], by simp [List.getElem?_map, List.getElem?_zip_eq_some, hd, he], g', s.newO hn, .tup (.of upd_same) (.cons (rd.mono (List.prefix_refl _) g') (.cons (re.mono (List.prefix_refl _) g') .nil))⟩
    cases k with
    | true =>
      obtain ⟨Tq, u, z, ex, hn, eH, eu, ez⟩ := y
      exact fin Tq u z ex hn eH (eu vs q1) (ez ws q2)
    | false =>
      obtain ⟨Tq, u, z, ex, hn, eH, eu, ez⟩ := y
      exact fin Tq u z ex hn eH (eu vs q1) (ez ws q2)
theorem fi_zip {e e2 : Expr} {f : DA} {p tpos : Pos} {elts : List Expr} {kk : Nat} (hm : X.mg "zip" = none) (ha : FA X T W [e, e2] f) (hg : Gl X "zip" := by rfl)
    (hs : starEach [e, e2] X.env = (false, eval e X.env) :: starEach [e2] X.env := by rfl) (hpl : (backTo pos (starEach [e2] X.env)).any (·.1) = false := by rfl) :
    FI X T W (.Tuple elts kk tpos) (.Call (.Name "zip" p) [e, e2] [] pos) (dIt gZip f) := by
  refine PI.imp (RZ.pi_zipA hg hm ha hs hpl) fun σ H R ⟨m, env, st, a, h⟩ => ?_
  refine ⟨m, env, st, a, (After.split h).imp fun m1 H1 ds s1 p1 g1 s1' q vs r => ?_⟩
  unfold gZip at q
  split at q
  · rename_i x y
    cases r with
    | cons r1 t => cases t with
      | cons r2 t =>
        cases t
        split at q
        · rename_i k ds w k' es w' e1 e2
          split at q
          · rename_i hk
            subst hk
            obtain ⟨a, rfl, S1, vs1, q1⟩ := seqW_of s1' r1 e1
            obtain ⟨b, rfl, S2, vs2, q2⟩ := seqW_of s1' r2 e2
            have z := q m1 H1 (List.prefix_refl _) (Grow.refl _) s1' _ (walkD_zip S1 S2)
            cases k with
            | true => exact ⟨a, b, vs1, vs2, rfl, .inr ⟨q1, q2, z⟩⟩
            | false => exact ⟨a, b, vs1, vs2, rfl, .inl ⟨q1, q2, z⟩⟩
          · exact q.elim
        · exact q.elim
  · exact q.elim
end
end Fn
end
section
set_option Elab.async false
set_option linter.all false
set_option maxRecDepth 100000
set_option maxHeartbeats 4000000
namespace Fn
open PySem PySem.Spec PyProof.Rows L2 LamX
/-- a text, n times -/
def repS (z : Str) (n : Nat) : Str := ⟨(List.replicate n z.cps).foldl (· ++ ·) #[]⟩
theorem foldl_len : ∀ (l : List (Array Nat)) (acc : Array Nat), (l.foldl (· ++ ·) acc).size = acc.size + (l.map (·.size)).sum
  | [], acc => by simp
  | x :: l, acc => by
    rw [List.foldl_cons, foldl_len l, Array.size_append, List.map_cons, List.sum_cons]
    omega
theorem foldl_toList : ∀ (l : List (Array Nat)) (acc : Array Nat), (l.foldl (· ++ ·) acc).toList = acc.toList ++ (l.map (·.toList)).flatten
  | [], acc => by simp
  | x :: l, acc => by
    rw [List.foldl_cons, foldl_toList l, Array.toList_append, List.map_cons, List.flatten_cons, List.append_assoc]
theorem repS_toList (z : Str) (n : Nat) : (repS z n).cps.toList = (List.replicate n z.cps.toList).flatten := by
  unfold repS
  rw [foldl_toList]
  simp
theorem sum_rep (a : Nat) : ∀ n : Nat, (List.replicate n a).sum = a * n
  | 0 => rfl
  | n + 1 => by
    rw [List.replicate_succ, List.sum_cons, sum_rep a n, Nat.mul_succ, Nat.add_comm]
theorem repS_len (z : Str) (n : Nat) : (repS z n).length = z.length * n := by
  show (repS z n).cps.size = z.cps.size * n
  unfold repS
  rw [foldl_len]
  simp [sum_rep, Nat.mul_comm]
section
variable {X : Cx} {T : TB} {W : WX} {E : XK} {m m' : List Addr} {H H' : Hp} {st st' : Sto} {env : Ev} {σ : L2.St} {pos : Pos}
theorem op_mulS : OpR X (binaryOp .Mult) (fun x y H Q => ∃ (z : Str) (n : Int), x = .str z ∧ y = .int n ∧ -(2 ^ 63) ≤ n ∧ n < 2 ^ 63 ∧ z.length * n.toNat ≤ sizeLine ∧ Q (.str (repS z n.toNat)) H) := by
  intro pins s σ H x y v u Q I rx ry h
  obtain ⟨z, n, rfl, rfl, h1, h2, hl, q⟩ := h
  obtain ⟨t, rfl⟩ := rx
  obtain ⟨t', rfl⟩ := ry
  have hs : sizeLine = 16777216 := sizeLine_eq
  refine PySem.P.mul_str ?_ (fun hn hz => ?_) (fun hn hz => ?_) ?_
  · rw [decide_eq_false (by omega), decide_eq_false (by omega)]
    rfl
  · have hn1 : 1 ≤ n := by omega
    have e : (n.toNat : Int) = n := by omega
    have q1 : (z.length : Int) * n ≤ 16777216 := by
      have : ((z.length * n.toNat : Nat) : Int) ≤ 16777216 := by omega
      rw [Int.natCast_mul, e] at this
      exact this
    intro hgt
    have q2 : (z.length : Int) ≤ (2 ^ 63 - 1) / n := by
      rw [Int.le_ediv_iff_mul_le (by omega)]
      omega
    omega
  · exact decide_eq_false (by omega)
  · split
    · rename_i hn
      have e : n.toNat = 0 := by omega
      rw [e] at q
      refine ⟨by decide, ⟨.str (repS z 0), H, I.tok _, ⟨s.toks, ?_⟩, q⟩⟩
      rfl
    · rename_i hn
      split
      · rename_i hz
        refine ⟨.str (repS z n.toNat), H, I, ⟨t, ?_⟩, q⟩
        have : repS z n.toNat = z := by
          have e : (repS z n.toNat).cps.toList = z.cps.toList := by
            rw [repS_toList]
            rcases Bool.or_eq_true_iff.mp hz with k | k
            · have : n = 1 := by simpa using k
              subst this
              simp
            · have k0 : z.cps.size = 0 := by simpa [Str.length] using k
              have k1 : z.cps.toList = [] := by
                apply List.eq_nil_of_length_eq_zero
                simpa using k0
              rw [k1]
              simp
          cases hz2 : repS z n.toNat with
          | mk c =>
            rw [hz2] at e
            cases z with
            | mk c2 =>
              congr 1
              exact Array.toList_inj.mp e
        rw [this]
      · refine ⟨?_, ⟨.str (repS z n.toNat), H, I.tok _, ⟨s.toks, rfl⟩, q⟩⟩
        have := repS_len z n.toNat
        show (repS z n.toNat).length ≤ sizeLine
        rw [this]
        exact hl
def gMul : D → D → Sto → R D
  | .int i, .int j, st => if i.natAbs.log2 + j.natAbs.log2 < 1000000 then .ok (.int (i * j)) st else .bad
  | .str z, .int n, st => if -(2 ^ 63) ≤ n ∧ n < 2 ^ 63 ∧ z.length * n.toNat ≤ lineN then .ok (.str (repS z n.toNat)) st else .bad
  | .ref i, .int n, st => match st[i]? with
    | some (.lst ds) => if -(2 ^ 63) ≤ n ∧ n < 2 ^ 63 ∧ ds.length * n.toNat ≤ lineN then .ok (.ref st.length) (st ++ [.lst (List.replicate n.toNat ds).flatten]) else .bad
    | _ => .bad
  | _, _, _ => .bad
def rMulA : R2 := fun x y H Q => rI CMulW (fun i j => V.int (i * j)) x y H Q ∨ ((∃ (z : Str) (n : Int), x = .str z ∧ y = .int n ∧ -(2 ^ 63) ≤ n ∧ n < 2 ^ 63 ∧ z.length * n.toNat ≤ sizeLine ∧ Q (.str (repS z n.toNat)) H) ∨ rRep x y H Q)
theorem op_mulA : OpR X (binaryOp .Mult) rMulA := op_mulW.or (op_mulS.or op_rep)
theorem RepVs.rep {K : PySem.W.Frag} {mg : Str → Option Value} {ds : List D} {vs : List V} (r : RepVs K mg m H ds vs) : ∀ n : Nat, RepVs K mg m H (List.replicate n ds).flatten (List.replicate n vs).flatten
  | 0 => .nil
  | n + 1 => by
    rw [List.replicate_succ, List.replicate_succ, List.flatten_cons, List.flatten_cons]
    exact r.app (RepVs.rep r n)
theorem od_mul : OpD X T rMulA gMul := by
  intro E m H st x y v w Q s rx ry h
  cases rx with
  | int i => cases ry with
    | int j =>
      simp only [gMul] at h
      split at h
      · rename_i hl
        exact .inl ⟨i, j, rfl, rfl, hl, after_same s h (.int _)⟩
      · exact h.elim
    | _ => exact h.elim
  | str z => cases ry with
    | int n =>
      simp only [gMul] at h
      split at h
      · rename_i hl
        exact .inr (.inl ⟨z, n, rfl, rfl, hl.1, hl.2.1, by rw [line_eq]; exact hl.2.2, after_same s h (.str _)⟩)
      · exact h.elim
    | _ => exact h.elim
  | ref hi => cases ry with
    | int n =>
      simp only [gMul] at h
      split at h
      · rename_i ds e
        split at h
        · rename_i hl
          obtain ⟨vs, h1, q⟩ := s.at' e hi
          exact .inr (.inr ⟨_, n, vs, rfl, rfl, h1, hl.1, hl.2.1, by rw [line_eq, ← q.length]; exact hl.2.2, fun p np => after_lst s h (q.rep _) p np⟩)
        · exact h.elim
      · exact h.elim
    | _ => exact h.elim
  | _ => cases ry <;> exact h.elim

/-! ### repr -/
def rRepr (K : PySem.W.Frag) : List V → Hp → VK → Prop := fun xs H Q => ∃ x p, xs = [x] ∧ Dp K H x p ∧ p.showable = true ∧ p.hasDict = false ∧ p.depth ≤ 60 ∧ p.shown.length ≤ sizeLine ∧ Q (.str p.shown) H
theorem call_reprA {k : Nat} (o : Ok X W k) : CallR X (.builtin "repr") (rRepr X.K) := by
  intro pins s σ H xs us Q I r h
  obtain ⟨x, p, rfl, hd, hs, hn, hp, hl, q⟩ := h
  obtain ⟨u, rfl, rx⟩ := vals1 r
  have hu := o.room.units
  have go : ∀ (a : Addr), u = .ref a → wpAny (model X.prog X.w) X.A (call (.builtin "repr") [u]) (EP X pins σ Q) X.xe s := fun a e => by
    obtain ⟨as, rd⟩ := Dp.reads I p x u hd rx
    subst e
    exact repr_of_reads' rd hs (PyData.noDict_hsm hn) o.gd (by omega) (fun _ _ e => e) (fun h' u tk hk => ⟨.str p.shown, H, I.kept hk, ⟨u, rfl⟩, q⟩) hl
  cases hd with
  | non => cases rx; exact PySem.P.repr_of_none ⟨.str "None", H, I.tok _, ⟨_, rfl⟩, q⟩
  | bl b => cases rx; exact PySem.P.repr_of_bool ⟨.str (if b then "True" else "False"), H, I.tok _, ⟨_, rfl⟩, q⟩
  | int i =>
    obtain ⟨t, rfl⟩ := rx
    exact PySem.P.repr_of_int (by simpa [PyData.showable] using hs) ⟨.str (toString i), H, I.tok _, ⟨_, rfl⟩, q⟩
  | str z =>
    obtain ⟨t, rfl⟩ := rx
    exact PySem.P.repr_of_str ⟨.str (reprText z), H, I.tok _, ⟨_, rfl⟩, q⟩ hl
  | lst _ _ => exact go _ rx
  | tup _ _ => exact go _ rx
def gRepr (xs : List D) (st : Sto) : R D := match xs with
  | [d] => match datN st 9 d with
    | some p => if p.showable = true ∧ p.hasDict = false ∧ p.depth ≤ 60 ∧ p.shown.length ≤ lineN then .ok (.str p.shown) st else .bad
    | none => .bad
  | _ => .bad
theorem cd_repr : CallD X T (rRepr X.K) gRepr := by
  intro E m H st xs vs Q s r h
  unfold gRepr at h
  split at h
  · rename_i d
    obtain ⟨v, rfl, rv⟩ := r.oneL
    split at h
    · rename_i p e
      split at h
      · rename_i hh
        exact ⟨v, p, rfl, datN_of s 9 d p v e rv, hh.1, hh.2.1, hh.2.2.1, by rw [line_eq]; exact hh.2.2.2, after_same s h (.str _)⟩
      · exact h.elim
    · exact h.elim
  · exact h.elim

/-! ### isinstance of a built-in type -/
def tyName (d : D) (st : Sto) : Option String := match d with
  | .non => some "NoneType"
  | .bl _ => some "bool"
  | .int _ => some "int"
  | .str _ => some "str"
  | .tup _ => some "tuple"
  | .lst _ => some "list"
  | .ref i => match st[i]? with
    | some (.lst _) => some "list"
    | some (.dict _) => some "dict"
    | _ => none
  | _ => none
theorem tyName_of {d : D} {v : V} {n : String} (s : RepS X.K X.mg T m H st) (r : RepV X.K X.mg m H d v) (h : tyName d st = some n) : TyX X.K H v (.type n) := by
  cases r with
  | non => cases h; exact .base .non
  | bl b => cases h; exact .base (.bl b)
  | int b => cases h; exact .base (.int b)
  | str b => cases h; exact .base (.str b)
  | tup hp r =>
    cases h
    rcases hp with (hp | ⟨o, hp⟩) | ⟨o, its, n, h1, h2, _⟩
    · exact .base (.tup hp)
    · exact .fTuple hp
    · exact .kTuple h1 h2
  | lst hp r =>
    cases h
    rcases hp with ⟨o, hp⟩ | ⟨o, its, n, h1, h2, _⟩
    · exact .base (.frz hp)
    · exact .kList h1 h2
  | ref hi =>
    simp only [tyName] at h
    split at h
    · rename_i ds e
      cases h
      obtain ⟨vs, h1, _⟩ := s.at' e hi
      exact .base (.lst h1)
    · rename_i ds e
      cases h
      obtain ⟨vs, h1, _⟩ := s.at' e hi
      exact .base (.dK h1)
    · cases h
  | exc _ _ => cases h
  | clo _ _ => cases h
def isTyB (a b : String) : Bool := a == b || (a == "bool" && b == "int")
def names1 : List String := ["NoneType", "bool", "int", "str", "tuple", "list", "dict"]
theorem kitB_tab : (names1.all fun a => ["bool", "int", "str", "tuple", "list", "dict"].all fun b => kitB a b == some (isTyB a b)) = true := by decide +kernel
theorem tyName_in {d : D} {n : String} (h : tyName d st = some n) : n ∈ names1 := by
  unfold tyName at h
  split at h <;> first | (cases h; decide) | (split at h <;> first | (cases h; decide) | cases h) | cases h
def dIsTy (b : String) (f : DE) : DE := fun env st => (f env st).bind fun d s1 => match tyName d s1 with
  | some n => .ok (.bl (isTyB n b)) s1
  | none => .bad
theorem fe_isTy {b : String} {x : Str} {e : Expr} {f : DE} {p p2 : Pos} (hm : X.mg "isinstance" = none) (hmT : X.mg x = none) (hvT : bootBuiltins x = some (.type b)) (hb : b ∈ ["bool", "int", "str", "tuple", "list", "dict"]) (he : FE X T W e f)
    (hg : Gl X "isinstance" := by rfl) (hgT : Gl X x := by rfl) (hn : x ≠ "__name__" := by decide) (hdb : (x == ("__debug__" : Str)) = false := by decide)
    (hs : starEach [e, .Name x p2] X.env = (false, eval e X.env) :: starEach [.Name x p2] X.env := by rfl) (hs2 : starEach [.Name x p2] X.env = (false, eval (.Name x p2) X.env) :: starEach [] X.env := by rfl)
    (hpl : (backTo pos (starEach [.Name x p2] X.env)).any (·.1) = false := by rfl) :
    FE X T W (.Call (.Name "isinstance" p) [e, .Name x p2] [] pos) (dIsTy b f) := by
  have hc : PE X (.Name x p2) (tC (.ty b)) := pe_bltn hgT hmT hvT rfl hn hdb
  refine PE.imp (pe_callB call_isi hg hm (by decide +kernel) (pa_cons he (pa_cons hc pa_nil hs2) hs) (by decide) (by decide) hs hpl) fun σ H Q ⟨m, env, st, a, h⟩ => ?_
  refine tE_to a h fun m1 H1 d st1 v a1 p1 g1 r1 h1 => ?_
  split at h1
  · rename_i n e1
    have q1 := kitB_tab
    rw [List.all_eq_true] at q1
    have q2 := q1 n (tyName_in e1)
    rw [List.all_eq_true] at q2
    have q3 := q2 b hb
    exact ⟨v, .ty b, .type n, .type b, isTyB n b, rfl, .ty b, tyName_of a1.s r1 e1, kit_ty (beq_iff_eq.mp q3), after_same a1.s h1 (.bl _)⟩
  · exact h1.elim
end
end Fn
end
section
set_option Elab.async false
set_option linter.all false
set_option maxRecDepth 100000
set_option maxHeartbeats 4000000
namespace Fn
open PySem PySem.Spec PyProof.Rows L2 LamX
section
variable {X : Cx} {T : TB} {W : WX} {E : XK} {m m' : List Addr} {H H' : Hp} {st st' : Sto} {env : Ev} {σ : L2.St} {pos : Pos}
/-! ### forgetting -/
open Classical in
noncomputable def dForget (f : DE) : DE := fun env st => match f env st with
  | .ok d st' => if d.low st.length = true ∧ lowS st.length st' then .ok d (st'.take st.length) else .ok d st'
  | r => r
theorem fe_forget {e : Expr} {f : DE} (h : FE X T W e f) : FE X T W e (dForget f) := by
  refine PE.imp h fun σ H Q ⟨m, env, st, a, h⟩ => ⟨m, env, st, a, ?_⟩
  unfold dForget at h
  cases e : f env st with
  | ok d st' =>
    rw [e] at h
    dsimp only at h
    split at h
    · rename_i hh
      exact after_low a.s.len a.s.pre hh.1 hh.2 h
    · exact h
  | exc x s => rw [e] at h; exact h
  | bad => rw [e] at h; exact h

/-! ### {k: v, ..} -/
def DPs := List (DE × DE)
def pairsD : List (DE × DE) → Ev → Sto → R (List (D × D))
  | [], _, st => .ok [] st
  | (f, g) :: r, env, st => (f env st).bind fun k s1 => (g env s1).bind fun v s2 => (pairsD r env s2).bind fun ps s3 => .ok ((k, v) :: ps) s3
def putD (kvs : List (Key × D)) (k : Key) (v : D) : List (Key × D) := if kvs.any (fun kv => decide (kv.1 = k)) then kvs.map (fun kv => if kv.1 = k then (kv.1, v) else kv) else kvs ++ [(k, v)]
def keysD : List (D × D) → Option (List (Key × D))
  | [] => some []
  | (k, v) :: r => match keyD k, keysD r with
    | some k', some r' => some ((k', v) :: r')
    | _, _ => none
def mergeD (kvs more : List (Key × D)) : List (Key × D) := more.foldl (fun acc kv => putD acc kv.1 kv.2) kvs
def dDisp (ps : List (DE × DE)) : DE := fun env st => (pairsD ps env (st ++ [.dict []])).bind fun qs s2 => match s2[st.length]?, keysD qs with
  | some (.dict []), some kvs => if kvs.length ≤ 15 then .ok (.ref st.length) (s2.set st.length (.dict (mergeD [] kvs))) else .bad
  | _, _ => .bad
theorem put_rep {K : PySem.W.Frag} {mg : Str → Option Value} {k : Key} {d : D} {v : V} {kvs : List (Key × D)} {qs : List (Key × V)} (r : RepKV K mg m H kvs qs) (q : RepV K mg m H d v) : RepKV K mg m H (putD kvs k d) (putK qs k v) := by
  have e1 : kvs.any (fun kv => decide (kv.1 = k)) = qs.any (fun kv => decide (kv.1 = k)) := by
    unfold RepKV at r
    induction r with
    | nil => rfl
    | cons a t ih => rw [List.any_cons, List.any_cons, ih, a.1]
  unfold putD putK
  rw [e1]
  split
  · rename_i hh
    unfold RepKV at r ⊢
    clear e1 hh
    induction r with
    | nil => exact .nil
    | @cons p z l1 l2 a t ih =>
      rw [List.map_cons, List.map_cons]
      refine .cons ?_ ih
      by_cases hk : p.1 = k
      · rw [if_pos hk, if_pos (a.1.symm.trans hk)]
        exact ⟨a.1, q⟩
      · rw [if_neg hk, if_neg (fun e => hk (a.1.trans e))]
        exact a
  · rename_i hh
    unfold RepKV at r ⊢
    clear e1 hh
    induction r with
    | nil => exact .cons ⟨rfl, q⟩ .nil
    | cons a t ih => exact .cons a ih
theorem merge_rep {K : PySem.W.Frag} {mg : Str → Option Value} : ∀ {more : List (Key × D)} {qs : List (Key × V)} {kvs : List (Key × D)} {rs : List (Key × V)}, RepKV K mg m H more qs → RepKV K mg m H kvs rs → RepKV K mg m H (mergeD kvs more) (mergeK rs qs) := by
  intro more qs kvs rs r
  unfold RepKV at r
  induction r generalizing kvs rs with
  | nil => exact fun h => h
  | @cons p z l1 l2 a t ih =>
    intro h
    unfold mergeD mergeK
    rw [List.foldl_cons, List.foldl_cons]
    refine ih ?_
    rw [a.1]
    exact put_rep h a.2
def RepPs (K : PySem.W.Frag) (mg : Str → Option Value) (m : List Addr) (H : Hp) : List (D × D) → List (V × V) → Prop := Paired fun p q => RepV K mg m H p.1 q.1 ∧ RepV K mg m H p.2 q.2
theorem RepPs.mono {K : PySem.W.Frag} {mg : Str → Option Value} {ps : List (D × D)} {qs : List (V × V)} (r : RepPs K mg m H ps qs) (p : m <+: m') (g : Grow H H') : RepPs K mg m' H' ps qs := paired_mono r fun _ _ z => ⟨z.1.mono p g, z.2.mono p g⟩
theorem pairs_of : ∀ (ps : List (DE × DE)) {m : List Addr} {H : Hp} {st : Sto} {k : List Addr → Hp → List (D × D) → Sto → Prop} {Q : List (V × V) → Hp → Prop}, At X.K X.mg T m env st σ H → After X.K X.mg T (wAt W σ) m H (pairsD ps env st) k →
    (∀ m1 H1 qs st1 vs, At X.K X.mg T m1 env st1 σ H1 → m <+: m1 → Grow H H1 → RepPs X.K X.mg m1 H1 qs vs → After X.K X.mg T (wAt W σ) m1 H1 (.ok qs st1) k → Q vs H1) → tPairs (ps.map fun p => (tE X.K X.mg T W p.1, tE X.K X.mg T W p.2)) σ H Q
  | [], m, H, st, k, Q, a, h, i => i m H [] st [] a (List.prefix_refl _) (Grow.refl _) .nil h
  | (f, g) :: r, m, H, st, k, Q, a, h, i => by
    refine tE_to a h fun m1 H1 d st1 v a1 p1 g1 r1 h1 => tE_to a1 h1 fun m2 H2 e st2 w a2 p2 g2 r2 h2 => pairs_of r (k := fun m' H' ps st' => After X.K X.mg T (wAt W σ) m' H' (.ok ((d, e) :: ps) st') k) a2 h2.split fun m3 H3 qs st3 vs a3 p3 g3 r3 h3 => ?_
    refine i m3 H3 ((d, e) :: qs) st3 ((v, w) :: vs) a3 ((p1.trans p2).trans p3) ((g1.trans g2).trans g3) (.cons ⟨(r1.mono p2 g2).mono p3 g3, r2.mono p3 g3⟩ r3) ?_
    exact h3 m3 H3 (List.prefix_refl _) (Grow.refl _) a3.s
theorem keysD_of {K : PySem.W.Frag} {mg : Str → Option Value} : ∀ {qs : List (D × D)} {vs : List (V × V)} {kvs : List (Key × D)}, RepPs K mg m H qs vs → keysD qs = some kvs → ∃ ws : List (Key × V), vs = ws.map (fun kv => (kV kv.1, kv.2)) ∧ RepKV K mg m H kvs ws := by
  intro qs vs kvs r
  unfold RepPs at r
  induction r generalizing kvs with
  | nil =>
    intro h
    cases h
    exact ⟨[], rfl, .nil⟩
  | @cons p z l1 l2 a t ih =>
    intro h
    obtain ⟨k, d⟩ := p
    obtain ⟨kv, dv⟩ := z
    simp only [keysD] at h
    split at h
    · rename_i k' r' e1 e2
      cases h
      obtain ⟨ws, e3, q⟩ := ih e2
      have e4 := keyD_rep a.1 e1
      dsimp only at e4
      subst e3 e4
      exact ⟨(k', dv) :: ws, rfl, .cons ⟨rfl, a.2⟩ q⟩
    · cases h
def FPs (X : Cx) (T : TB) (W : WX) (pos : Pos) (ks : List (Option Expr)) (vs : List Expr) (ps : List (DE × DE)) : Prop := PPs X pos ks vs (ps.map fun p => (tE X.K X.mg T W p.1, tE X.K X.mg T W p.2))
theorem fps_nil : FPs X T W pos [] [] [] := pps_nil
theorem fps_cons {k v : Expr} {ks : List (Option Expr)} {vs : List Expr} {f g : DE} {ps : List (DE × DE)} (hk : FE X T W k f) (hv : FE X T W v g) (hr : FPs X T W pos ks vs ps) : FPs X T W pos (some k :: ks) (v :: vs) ((f, g) :: ps) := pps_cons hk hv hr
theorem fe_disp {ks : List (Option Expr)} {vs : List Expr} {ps : List (DE × DE)} (h : FPs X T W pos ks vs ps) (hall : ks.all (·.isSome) = true := by rfl) (hl : ks.length = vs.length := by rfl) (h0 : ks ≠ [] := by intro z; cases z) (h15 : ks.length ≤ 15 := by decide) : FE X T W (.Dict ks vs pos) (dDisp ps) := by
  refine PE.imp (pe_disp h hall hl h0 h15) fun σ H Q ⟨m, env, st, a, h⟩ p hp => ?_
  have g0 : Grow H (upd H p (.dK [])) := Grow.new hp
  have s1 : RepS X.K X.mg T (m ++ [p]) (upd H p (.dK [])) (st ++ [.dict []]) := a.s.new hp ⟨[], upd_same, .nil⟩
  have pm := List.prefix_append m [p]
  refine pairs_of ps (⟨a.e.mono pm g0, s1⟩ : At X.K X.mg T (m ++ [p]) env (st ++ [.dict []]) σ _) (After.mono pm g0 (After.split h)) fun m1 H1 qs st1 ws a1 p1 g1 r1 h1 => ?_
  have h1' := h1 m1 H1 (List.prefix_refl _) (Grow.refl _) a1.s
  dsimp only at h1'
  have hmp : m1[st.length]? = some p := pre_get p1 (by rw [← a.s.len]; simp)
  split at h1'
  · rename_i kvs e1 e2
    obtain ⟨rs, hH, rr⟩ := a1.s.at' e1 hmp
    cases rr
    obtain ⟨us, e3, r3⟩ := keysD_of r1 e2
    split at h1'
    · rename_i hl
      refine ⟨hH, us, e3, by rw [← Paired.length r3]; exact hl, ?_⟩
      exact after_put a1.s h1' e1 hmp (fun g => ⟨_, upd_same, merge_rep (paired_mono r3 fun _ _ z => ⟨z.1, z.2.mono (List.prefix_refl _) g⟩) .nil⟩) (.ref hmp)
    · exact h1'.elim
  · exact h1'.elim

/-! ### o[i] = e -/
def rSetDk : TSet := fun o i v H Q => ∃ a H', o = .ref a ∧ DPut H a i v H' ∧ Q H'
theorem set_dict (hu : X.A.units + 1 < cLine) : PSet X rSetDk := by
  intro pins s σ H o i v ov iv u Q I ro ri rv h
  obtain ⟨a, H', rfl, g, q⟩ := h
  obtain rfl : ov = Value.ref a := ro
  exact d_setItem hu I g ri rv fun s4 I4 => ⟨H', I4, q⟩
theorem psetOr {t t' : TSet} (h : PSet X t) (h' : PSet X t') : PSet X (fun o i v H Q => t o i v H Q ∨ t' o i v H Q) := by
  intro pins s σ H o i v ov iv u Q I ro ri rv q
  rcases q with q | q
  · exact h pins s σ H o i v ov iv u Q I ro ri rv q
  · exact h' pins s σ H o i v ov iv u Q I ro ri rv q
def gSetI (o i v : D) (st : Sto) : R Unit := match o with
  | .ref n => match st[n]? with
    | some (.dict kvs) => match keyD i with
      | some k => if kvs.length < lineN then .ok () (st.set n (.dict (putD kvs k v))) else .bad
      | none => .bad
    | some (.lst ds) => match i with
      | .int j => match ixN ds.length j with
        | some q => .ok () (st.set n (.lst (ds.set q v)))
        | none => .bad
      | _ => .bad
    | _ => .bad
  | _ => .bad
def sSub (fv fo fi : DE) : DS := fun env st => (fv env st).into env fun v s1 => (fo env s1).into env fun o s2 => (fi env s2).into env fun i s3 => (gSetI o i v s3).into env fun _ s4 => .next env s4
theorem afterS_put {i : Nat} {a : Addr} {u : HO} {o o' : O} {D : L2.St → Hp → Prop} {Rt B C} (at_ : At X.K X.mg T m env st σ H) (h : AfterS X.K X.mg T W m H (.next env (st.set i o')) (kS X.K X.mg D) Rt B C) (e : st[i]? = some o) (q : m[i]? = some a)
    (ho : Grow H (upd H a u) → RepO X.K X.mg m (upd H a u) a o') : D σ (upd H a u) := by
  have key : kE X.K X.mg (fun _ H' => D σ H') m (upd H a u) .non [] → D σ (upd H a u) := fun z => z _ .non
  have := after_put (Q := fun _ H' => D σ H') (d := .non) (v := .non) (E := wAt W σ) at_.s (fun m' H' p g s' v r => h m' H' p g s' σ (at_.e.mono p g)) e q ho .non
  exact this
theorem fs_sub {k : Nat} {o i e : Expr} {fv fo fi : DE} {pos' : Pos} (ok : Ok X W k) (hv : FE X T W e fv) (ho : FE X T W o fo) (hi : FE X T W i fi)
    (hs : swapsWithSole [.Subscript o i pos'] e pos.line X.env = pure false := by rfl) (hw : swappedStores [.Subscript o i pos'] e X.env = pure none := by rfl)
    (h1 : (assignEach [.Subscript o i pos'] X.env).map (·.2) = [assign (.Subscript o i pos') X.env] := by rfl)
    (ha : ∀ v, assign (.Subscript o i pos') X.env v = (do
      let ov ← holding [v] (eval o X.env)
      let iv ← holding [v, ov] (eval i X.env)
      standAt pos'
      holding [v, ov, iv] (setItem ov iv v)
      release [v, ov, iv] []) := by intro _; rfl) : FS X T W (.Assign [.Subscript o i pos'] e pos) (sSub fv fo fi) := by
  refine PS.imp (ps_asg hv (pg_sub ho hi (psetOr (set_dict (hu_of ok.room)) set_list) ha) hs hw h1) fun D σ H ⟨m, env, st, a, h⟩ => ?_
  refine tE_into a h fun m1 H1 v st1 vv a1 p1 g1 r1 h1 => tE_into a1 h1 fun m2 H2 o st2 ov a2 p2 g2 r2 h2 => tE_into a2 h2 fun m3 H3 i st3 iv a3 p3 g3 r3 h3 => ?_
  have rv := (r1.mono p2 g2).mono p3 g3
  have ro := r2.mono p3 g3
  unfold gSetI at h3
  split at h3
  · rename_i n
    cases ro with
    | ref hn =>
      split at h3
      · rename_i kvs e1
        obtain ⟨qs, hH, rr⟩ := a3.s.at' e1 hn
        split at h3
        · rename_i k hk
          have ek := keyD_rep r3 hk
          subst ek
          split at h3
          · rename_i hl
            refine .inl ⟨_, _, rfl, DPut.k hH (by rw [line_eq, ← Paired.length rr]; exact hl), ?_⟩
            exact afterS_put a3 h3 e1 hn fun g => ⟨_, upd_same, put_rep (paired_mono rr fun _ _ z => ⟨z.1, z.2.mono (List.prefix_refl _) g⟩) (rv.mono (List.prefix_refl _) g)⟩
          · exact h3.elim
        · exact h3.elim
      · rename_i ds e1
        obtain ⟨vs, hH, rr⟩ := a3.s.at' e1 hn
        split at h3
        · rename_i j
          cases r3
          split at h3
          · rename_i q hq
            refine .inr ⟨_, vs, j, q, rfl, rfl, hH, by rw [← rr.length]; exact hq, ?_⟩
            exact afterS_put a3 h3 e1 hn fun g => ⟨_, upd_same, (rr.mono (List.prefix_refl _) g).set (rv.mono (List.prefix_refl _) g) q⟩
          · exact h3.elim
        · exact h3.elim
      · exact h3.elim
  · exact h3.elim

/-! ### max, min of ints -/
def intsD : List D → Option (List Int)
  | [] => some []
  | .int x :: ds => (intsD ds).map (x :: ·)
  | _ => none
theorem intsD_of : ∀ {ds : List D} {xs : List Int}, intsD ds = some xs → ds = xs.map .int
  | [], bs, h => by
    cases h
    rfl
  | d :: ds, bs, h => by
    cases d <;> first
      | (simp only [intsD] at h
         obtain ⟨cs, e, rfl⟩ := Option.map_eq_some_iff.mp h
         rw [intsD_of e]
         rfl)
      | (simp [intsD] at h)
def maxI : List Int → Int
  | [] => 0
  | [x] => x
  | x :: y :: r => max x (maxI (y :: r))
theorem maxI_is : ∀ {l : List Int} {m : Int}, m ∈ l → (∀ y, y ∈ l → y ≤ m) → m = maxI l
  | [x], m, h, _ => by
    show m = x
    simpa using h
  | x :: y :: r, m, h, ha => by
    show m = max x (maxI (y :: r))
    have up : ∀ (l : List Int), (∀ z ∈ l, z ≤ m) → l ≠ [] → maxI l ≤ m := by
      intro l
      induction l with
      | nil => intro _ h; exact absurd rfl h
      | cons a t ih =>
        intro h1 _
        cases t with
        | nil => exact h1 a (by simp)
        | cons b t' =>
          show max a (maxI (b :: t')) ≤ m
          have q1 := h1 a (by simp)
          have q2 := ih (fun z hz => h1 z (List.mem_cons_of_mem _ hz)) (by simp)
          omega
    have q2 := up (y :: r) (fun z hz => ha z (List.mem_cons_of_mem _ hz)) (by simp)
    have q1 := ha x (by simp)
    rcases List.mem_cons.mp h with e | e
    · subst e
      omega
    · have := maxI_is e (fun z hz => ha z (List.mem_cons_of_mem _ hz))
      omega
def rMaxA (K : PySem.W.Frag) : List V → Hp → VK → Prop := fun vs H Q => ∃ (a : Addr) (ns : List Int), vs = [V.ref a] ∧ (SqL K H a (ns.map V.int) ∨ SqT K H a (ns.map V.int)) ∧ 0 < ns.length ∧ ∀ m, m ∈ ns → (∀ y, y ∈ ns → y ≤ m) → Q (.int m) H
theorem max_tup {prog : Program} {w : World} {A : Around} {E : Value → Shared → Prop} {s : Shared} {l : Addr} {its : List Value} {ns : List Int} {Q : Value → Shared → Prop} (hh : A.handled = none) (hl : s.heap.IsTuple l its.toArray) (hi : IntsAre its ns) (hne : 0 < ns.length)
    (h : ∀ h' tk M t', (∀ b o, s.heap.get? b = some o → h'.get? b = some o) → M ∈ ns → (∀ a, a ∈ ns → a ≤ M) → Q (.int M t') { s with heap := h', toks := tk }) : wpAny (model prog w) A (call (.builtin "max") [.ref l]) Q E s := by
  obtain ⟨xs, e⟩ := hi.allInts.items
  have hn : numsOf (intItems xs).toList = ns := by rw [← e]; exact hi.numsOf
  rw [nums_intItems] at hn
  subst hn
  rw [e] at hl
  have hsz : 0 < xs.size := by simpa using hne
  have hlt : l < s.heap.objs.size := by obtain ⟨_, e, _⟩ := hl; exact Heap.lt_size e
  refine PySem.call_max_walk (wpAny_pyIter_tuple hl ?_)
  have hI : (s.heap.push { cls := .type "tuple_iterator", data := .fields #[.ref l, .int 0 0] }).IsTupleIter s.heap.objs.size l 0 := ⟨_, Heap.get?_push_size _ rfl, rfl, rfl⟩
  have hT : (s.heap.push { cls := .type "tuple_iterator", data := .fields #[.ref l, .int 0 0] }).IsTuple l (intItems xs) := by
    obtain ⟨o, e1, e2⟩ := hl
    exact ⟨o, Heap.get?_push_of_some _ e1, e2⟩
  refine ⟨_, _, _, _, _, _, _, rfl, Walks.tuple (A := A.in1) hh _ l (Nat.ne_of_lt hlt) (intItems xs), ⟨hI, hT⟩, fun b hb => ?_, by simpa [intItems] using hsz, CmpOf.ints_gt (numAt xs) (fun _ _ => intItems_at), fun v h' tk hP hk => ?_⟩
  · show b < (s.heap.push _).objs.size
    rw [Heap.size_push]
    rcases List.mem_cons.mp hb with rfl | hb
    · exact Nat.lt_succ_self _
    · rcases List.mem_cons.mp hb with rfl | hb
      · exact Nat.lt_succ_of_lt hlt
      · cases hb
  · obtain ⟨t, rfl⟩ := intItems_at (by simpa [intItems] using hP)
    obtain ⟨h1, h2⟩ := argBest_gt (numAt xs) (xs.size - 1)
    refine h h' tk _ t (fun b o e => hk b o (fun hm => ?_) (Heap.get?_push_of_some _ e)) ?_ fun a ha => ?_
    · rcases List.mem_cons.mp hm with e1 | hm
      · exact absurd (e1 ▸ Heap.lt_size e) (Nat.lt_irrefl _)
      · cases hm
    · rw [numAt_eq]; exact PySem.getD_mem (by rw [List.length_map, Array.length_toList]; exact Nat.lt_of_le_of_lt h1 (by omega))
    · obtain ⟨j, hj, rfl⟩ := mem_getD ha
      rw [List.length_map, Array.length_toList] at hj
      rw [← numAt_eq]; exact h2 j (by omega)
theorem call_maxA {k : Nat} (o : Ok X W k) : CallR X (.builtin "max") (rMaxA X.K) := by
  intro pins s σ H xs us Q I r h
  obtain ⟨a, ns, rfl, hq, hne, q⟩ := h
  rcases hq with hq | hq
  · exact cr_max o.calm pins s σ H [.ref a] us Q I r ⟨a, ns, rfl, hq, hne, q⟩
  · have e := r.ref1
    subst e
    obtain ⟨its, rv, p, hz⟩ := I.tuple hq
    exact max_tup (I.ok.hd o.calm) p rv.ints hne fun h' tk M t' hk h1 h2 => ⟨.int M, H, I.kept hk, ⟨_, rfl⟩, q M h1 h2⟩
def gMaxS (xs : List D) (st : Sto) : R D := match xs with
  | [d] => match (seqD d st).bind intsD with
    | some (x :: ns) => .ok (.int (maxI (x :: ns))) st
    | _ => .bad
  | _ => .bad
theorem cd_maxS : CallD X T (rMaxA X.K) gMaxS := by
  intro E m H st xs vs Q s r h
  unfold gMaxS at h
  split at h
  · obtain ⟨v, rfl, rv⟩ := r.oneL
    split at h
    · rename_i x ns e
      obtain ⟨ds, hd, e3⟩ := Option.bind_eq_some_iff.mp e
      have e4 := intsD_of e3
      subst e4
      obtain ⟨p, ws, rfl, hp, q⟩ := seqD_of s rv hd
      have e5 := q.ints
      subst e5
      exact ⟨p, x :: ns, rfl, hp, by simp, fun m h1 h2 => by rw [maxI_is h1 h2]; exact after_same s h (.int _)⟩
    · exact h.elim
  · exact h.elim
end
end Fn
end
section
set_option Elab.async false
set_option linter.all false
set_option maxRecDepth 100000
set_option maxHeartbeats 4000000
namespace Fn
open PySem PySem.Spec PyProof.Rows L2 LamX
/-! ### an own class of errors, without an __init__ of its own -/
structure ExcK (K : PySem.W.Frag) (mg : Str → Option Value) (c : Str) : Prop where
  ex : ∃ C, mg c = some (.ref C) ∧ PySem.W.excIn K C HandSPX.veTail "ValueError.__new__" = true ∧ PySem.W.keepIn K (.ref C) = true ∧ PySem.W.subIn K (.ref C) (.type "BaseException") = some true ∧ PySem.W.typeIn K (.ref C) = some (.type "type")
def sRaise (c : Str) (f : DE) : DS := fun env st => (f env st).into env fun _ s1 => .exc env ⟨c, []⟩ s1
section
variable {X : Cx} {T : TB} {W : WX} {m m' : List Addr} {H H' : Hp} {st st' : Sto} {env : Ev} {σ : L2.St} {pos : Pos} {a : Expr} {fa : DE} {k : Nat}
theorem fs_raise {c : Str} {p pos2 : Pos} (h : ExcK X.K X.mg c) (o : Ok X W k) (he : FE X T W a fa) (hg : Gl X c := by rfl) (hs : starEach [a] X.env = (false, eval a X.env) :: starEach [] X.env := by rfl) (hdb : (c == ("__debug__" : Str)) = false := by decide) :
    FS X T W (.Raise (some (.Call (.Name c p) [a] [] pos)) none pos2) (sRaise c fa) := by
  obtain ⟨C, h1, h2, h3, h4, h5⟩ := h.ex
  refine PS.imp (ps_raise o.calm o.tk (SkE.pmk_own1 PySem.F.excBase_ValueError h2 h1 h3 (raises_own h4 h5) hg he hs hdb)) fun D σ H ⟨m, env, st, a, h⟩ => ?_
  exact tE_into a h fun m1 H1 d st1 v a1 p1 g1 r1 q1 => q1 m1 H1 _ _ σ (List.prefix_refl _) (Grow.refl _) a1.s a1.e ⟨⟨C, h1, rfl⟩, .inl ⟨rfl, rfl⟩⟩
end
section
variable {X : Cx} {pins : List (Addr × Obj)} {σ : L2.St} {H : Hp} {s : Shared}
theorem exV_ok {P : Program} {w : World} {H : Hp} {h : Heap} {a : Addr} {cls : Value} {oe : Obj} {vs : Array Value} (e : h.get? a = some oe) (z : Zc cls none oe) (d : oe.data = .fields vs) : ObjOk P w H h a (ExV cls a) :=
  ⟨⟨oe, vs, e, z, d⟩, ⟨oe, e⟩, fun _ _ ⟨o, v, q, r⟩ k => ⟨o, v, k o q, r⟩⟩
/-- an exception that is caught is tracked from here on -/
theorem track (I : Inv X pins σ H s) {a : Addr} {cls : Value} {oe : Obj} {vs : Array Value} (e : s.heap.get? a = some oe) (z : Zc cls none oe) (d : oe.data = .fields vs) (na : H a = none) (n0 : X.s_0.heap.get? a = none) (nL : a ≠ X.env.locals) (np : ∀ p ∈ X.pn ++ pins, p.1 ≠ a) :
    Inv X pins σ (upd H a (ExV cls a)) s := by
  refine ⟨I.ok, I.os, I.bare, ⟨I.base.keep, I.base.slot, fun b o q n hx => ?_, I.base.there, fun b xs q => ?_, fun b o u q => ?_, fun b ps q => ?_⟩, I.loc, I.cell, ?_, fun x c q => ?_, fun p hp => ?_, I.hok.laidN (fun _ _ q => q) na (exV_ok e z d), I.len⟩
  · rw [upd_ne (fun z => by rw [z, n0] at q; cases q)]
    exact I.base.free b o q n hx
  · have q' := I.base.tups b xs q
    rw [upd_ne (ne_of_none q' na)]
    exact q'
  · have q' := I.base.frzs b o u q
    rw [upd_ne (ne_of_none q' na)]
    exact q'
  · obtain ⟨more, q'⟩ := I.base.tbls b ps q
    exact ⟨more, by rw [upd_ne (ne_of_none q' na)]; exact q'⟩
  · rw [upd_ne (Ne.symm nL)]
    exact I.free
  · obtain ⟨v, o, ho, hd⟩ := I.cell x c q
    rw [upd_ne (fun z => by rw [z, e] at ho; cases ho; rw [d] at hd; cases hd)]
    exact I.freeC x c q
  · obtain ⟨h1, h2, h3, h4, h5⟩ := I.pin p hp
    exact ⟨h1, by rw [upd_ne (np p hp)]; exact h2, h3, h4, h5⟩
theorem suite0 (I : Inv X pins σ H s) (a : Addr) : Inv (X.suite a (X.pn ++ pins)) [] σ H s :=
  ⟨I.ok.suite _ _, I.os, I.bare, I.base, I.loc, I.cell, I.free, I.freeC, fun p hp => I.pin p (by rw [List.append_nil] at hp; exact hp), I.hok, I.len⟩
theorem unsuite0 {a : Addr} (I : Inv (X.suite a (X.pn ++ pins)) [] σ H s) (ok : X.Ok) : Inv X pins σ H s :=
  ⟨ok, I.os, I.bare, I.base, I.loc, I.cell, I.free, I.freeC, fun p hp => I.pin p (by rw [List.append_nil]; exact hp), I.hok, I.len⟩
end
/-- the clause's wish: the exception is tracked and lies in slot i -/
def wAsT (K : PySem.W.Frag) (c : Value) (i : Nat) (ts : TS) (Wout : WX) (D : Ends) : WX := fun cls d σ H =>
  ∃ b, PySem.W.exmOne K cls c = some b ∧ (b = true → d = none ∧ ∀ a, H a = none → ts { nx := fun σ' H' => D.nx (σ'.set i none) H', rt := D.rt, bk := fun σ' H' => D.bk (σ'.set i none) H', ct := fun σ' H' => D.ct (σ'.set i none) H' } (σ.set i (some (.ref a))) (upd H a (ExV cls a))) ∧
    (b = false → Wout cls d σ H)
section
variable {X : Cx} {x n : Str} {c : Value} {i : Nat} {body suite : List Stmt} {b₀ : Stmt} {np pos pos' : Pos} {tb : WX → TS} {ts : TS} {Wout : WX}
theorem ps_try_track (hs : X.stack = X.env :: X.outer) (hf : X.env.frame = some X.env.locals) (hex : X.ex = []) (hN : X.N.Nodup) (hi : X.N[i]? = some n) (hln : X.env.kindOf n = some .local) (hc : Names X x c) (tk : Takes X Wout)
    (hb : ∀ (W : WX) (pn : List (Addr × Obj)) (xe : Value → Shared → Prop), Takes (X.tr pn xe) W → PassesOwn (model X.prog X.w) X.A X.env xe → PSs (X.tr pn xe) body (tb W))
    (hsu : ∀ (a : Addr) (pn : List (Addr × Obj)), PSs (X.suite a pn) (b₀ :: suite) ts) :
    PS X (.Try body [.ExceptHandler (some (.Name x np)) (some n) (b₀ :: suite) pos'] [] [] pos) (fun D σ H => tb (wAsT X.K c i ts Wout D) D σ H) := by
  refine ⟨fun pins s σ H D I h => ?_⟩
  have ok := I.ok
  have hfr : X.A.frames = some (X.env :: X.outer) := by rw [ok.frames, hs]
  have hloc : Loc X.env.scope n := .inl hln
  refine wpAny_Try_except ?_
  refine wpAny_mono ((hb (wAsT X.K c i ts Wout D) (X.pn ++ pins) (fun e s₁ => wpAny (model X.prog X.w) X.A (noteFrame e X.env) (fun _ s₂ => wpAny (model X.prog X.w) X.A (setFlight e none) (fun _ s₃ =>
    wpAny (model X.prog X.w) X.A (handleBy e X.env [.ExceptHandler (some (.Name x np)) (some n) (b₀ :: suite) pos']) (SP X pins D) X.xe s₃) X.xe s₂) X.xe s₁) (fun u s' xx => ?_) PassesOwn.looking).run [] s σ H D (I.toTry _) h) (fun f s1 hsp => ?_) (fun e s1 he => he)
  · obtain ⟨a, B, sI, pins', σ', H', cls, d, rfl, J', nb, up, sky, na, os, ag, b, hb1, hyes, hno⟩ := xx
    have J : Inv X pins σ' H' sI := J'.ofTry ok
    have sky' : Sky B (X.env :: X.outer) a (Zc cls d) X.env.locals s'.heap := by rw [← hs]; exact sky
    show wpAny (model X.prog X.w) X.A (noteFrame (.ref a) X.env) _ _ _
    refine Sky.land Zc.steady hfr hf sky' fun h3 fl3 up3 => ?_
    have J3 : Inv X pins σ' H' { s' with heap := h3 } := J.landed nb fl3.1 (up.trans up3) os ag
    obtain ⟨oe3, vs3, he3, hz3, hd3⟩ := fl3.there
    have notFr : ∀ {h : Heap} {o : Obj} {vs : Array Value}, h.FunFrames B (X.env :: X.outer) → h.get? a = some o → o.data = .fields vs → a ∉ frs (X.env :: X.outer) := fun {h o vs} ff e dd hm => by
      obtain ⟨_, o', e', hnf⟩ := ff.mem hm
      rw [e] at e'; cases e'
      exact hnf _ dd
    have nfr := notFr fl3.2.2.1 he3 hd3
    have nL : a ≠ X.env.locals := fun z => nfr (List.mem_filterMap.mpr ⟨X.env, List.mem_cons_self, by rw [hf, z]⟩)
    have nF : a ∉ X.fs := fun hm => by
      obtain ⟨e, he, q⟩ := List.mem_filterMap.mp hm
      exact nfr (List.mem_filterMap.mpr ⟨e, List.mem_cons_of_mem _ he, q⟩)
    have nI : sI.heap.get? a = none := by
      cases e : sI.heap.get? a with
      | none => rfl
      | some o =>
        have z := nb a o e (by rw [hs]; exact nfr)
        rw [fl3.2.1] at z
        cases z
    have n0 : X.s_0.heap.get? a = none := by
      cases e : X.s_0.heap.get? a with
      | none => rfl
      | some o =>
        obtain ⟨o', z⟩ := J.base.there a o e (by rw [hex]; exact fun z => nomatch z)
        rw [nI] at z
        cases z
    have npn : ∀ p ∈ X.pn ++ pins, p.1 ≠ a := fun p hp z => by
      have q := (J.pin p hp).1
      rw [z, nI] at q
      cases q
    have S3 := J3.suite he3 hd3 na nL nF
    refine wpAny_handleBy_cons (codeAny_handlers_test ?_) (by intro q; cases q)
    have LT : PySem.W.Looks (model X.prog X.w) h3 (typeOf (.ref a)) cls := fun A Q E s k q => wpAny_typeOf_ref (k _ _ he3) (by rw [hz3.1]; exact q)
    have LM := PySem.W.exm_one (M := model X.prog X.w) (J3.kIn) LT hb1
    have test : ∀ {Q : Value → Shared → Prop} {E : Value → Shared → Prop}, Q c { s' with heap := h3 } → wpAny (model X.prog X.w) (X.A.mark (some (.ref a))) (eval (.Name x np) X.env) Q E { s' with heap := h3 } := fun {Q E} q => by
      obtain ⟨hg, hdbg, hm | ⟨hm, hv, hnn⟩⟩ := hc
      · exact ld_glob (X := X.suite a ((a, oe3) :: (X.pn ++ pins))) S3 hg hm q hdbg
      · exact ld_blt (X := X.suite a ((a, oe3) :: (X.pn ++ pins))) S3 hg hm hv q hnn hdbg
    refine test (LM.here ?_)
    cases b with
    | true =>
      refine codeAny_handlers_suite_as ?_
      refine HandSPX.lands_againZ fl3 fun h4 fl4 up4 => ?_
      have J4 : Inv X pins σ' H' { s' with heap := h4 } := J.landed nb fl4.1 ((up.trans up3).trans up4) os ag
      obtain ⟨oe4, vs4, he4, hz4, hd4⟩ := fl4.there
      obtain ⟨dn, hys⟩ := hyes rfl
      subst dn
      have S4 := track (suite0 J4 a) he4 hz4 hd4 na n0 nL (fun p hp => npn p (by rw [List.append_nil] at hp; exact hp))
      refine store_ok (X := X.suite a (X.pn ++ pins)) (v := .ref a) S4 hN hi hloc rfl (fun s5 S5 => ?_) (.inr hln)
      refine wpAny_mono ((hsu a (X.pn ++ pins)).run [] s5 _ _ _ S5 (hys a na)) (fun f s6 hsp => ?_) (fun _ _ z => False.elim z)
      have end_ : ∀ {σ6 : L2.St} {H6 : Hp} {Q : Shared → Prop}, Inv (X.suite a (X.pn ++ pins)) [] σ6 H6 s6 → (∀ s7, Inv X pins (σ6.set i none) H6 s7 → Q s7) →
          wpAny (model X.prog X.w) X.A (do bindName X.env n .none; unbindBehindTheSuite X.env n pos') (fun _ s7 => Q s7) X.xe s6 := fun {σ6 H6 Q} S6 hq => gone_ok (unsuite0 S6 ok) hN hi hln hq
      cases f with
      | next =>
        obtain ⟨σ6, H6, S6, q6⟩ := hsp
        exact end_ S6 fun s7 J7 => ⟨_, _, J7, q6⟩
      | brk =>
        obtain ⟨σ6, H6, S6, q6⟩ := hsp
        exact end_ S6 fun s7 J7 => ⟨_, _, J7, q6⟩
      | cont =>
        obtain ⟨σ6, H6, S6, q6⟩ := hsp
        exact end_ S6 fun s7 J7 => ⟨_, _, J7, q6⟩
      | ret u =>
        obtain ⟨v6, σ6, H6, S6, r6, q6⟩ := hsp
        exact end_ S6 fun s7 J7 => ⟨_, _, _, J7, r6, q6⟩
    | false =>
      show wpAny _ X.A (handleBy (.ref a) X.env []) _ _ _
      refine wpAny_handleBy_nil ?_
      obtain ⟨k1, k2, k3, oe, vs, T, oT, ts', he, hz, hd, h1, hr⟩ := id fl3
      unfold PySem.passOn
      refine wpAny_bind (wpAny_field he hd h1 ?_)
      rw [if_neg (show ¬ ((Value.ref T == Value.none) = true) from by simp)]
      have fin : wpAny (model X.prog X.w) X.A (setFlight (.ref a) X.env.frame) (fun _ s4 => wpAny (model X.prog X.w) X.A (throw (.ref a) : Sem Flow) (SP X pins D) X.xe s4) X.xe { s' with heap := h3 } := by
        rw [hf]
        refine HandSPX.setFlight_upZ fl3 fun h4 hh4 up4 => wpAny_throw (tk _ _ ?_)
        exact ⟨a, B, sI, pins, σ', H', cls, d, rfl, J, nb, (up.trans up3).trans up4, .inr (.inr (by rw [hs]; exact hh4)), na, os, ag, hno rfl⟩
      first
        | exact wpAny_bind (wpAny_pure (wpAny_bind fin))
        | exact wpAny_bind fin
  · cases f with
    | next =>
      obtain ⟨σ', H', J', q⟩ := hsp
      exact wpAny_execs_nil ⟨σ', H', J'.ofTry ok, q⟩
    | brk =>
      obtain ⟨σ', H', J', q⟩ := hsp
      exact ⟨σ', H', J'.ofTry ok, q⟩
    | cont =>
      obtain ⟨σ', H', J', q⟩ := hsp
      exact ⟨σ', H', J'.ofTry ok, q⟩
    | ret u =>
      obtain ⟨v, σ', H', J', r, q⟩ := hsp
      exact ⟨v, σ', H', J'.ofTry ok, r, q⟩
end
/-! ### try .. except C as n: suite -/
def SR.gone (i : Nat) : SR → SR
  | .next e s => .next (e.set i none) s
  | .brk e s => .brk (e.set i none) s
  | .cnt e s => .cnt (e.set i none) s
  | .ret d s => .ret d s
  | _ => .bad
def sCaught (sub : Str → Option Bool) (i : Nat) (fb fs : DS) : DS := fun env st => match fb env st with
  | .exc e x s => (match sub x.c with
    | some true => if x.ds = [] then (fs (e.set i (some (.exc x.c []))) s).gone i else .bad
    | some false => .exc e x s
    | none => .bad)
  | r => r
section
variable {X : Cx} {T : TB} {W : WX} {m m' : List Addr} {H H' : Hp} {st st' : Sto} {env : Ev} {σ : L2.St} {pos : Pos} {k : Nat}
theorem RepE.gone {K : PySem.W.Frag} {mg : Str → Option Value} (h : RepE K mg m H env σ) {i : Nat} : RepE K mg m H (env.set i none) (σ.set i none) := by
  refine ⟨by simp [h.len], fun j d e => ?_⟩
  by_cases hj : i = j
  · subst hj
    by_cases hl : i < env.length
    · rw [List.getElem?_set_self hl] at e
      cases e
    · rw [List.getElem?_eq_none (by simpa using hl)] at e
      cases e
  · rw [List.getElem?_set_ne hj] at e
    rw [List.getElem?_set_ne hj]
    exact h.at_ j d e
theorem afterS_gone {K : PySem.W.Frag} {mg : Str → Option Value} {i : Nat} {r : SR} {nx bk ct : L2.St → Hp → Prop} {Rt : List Addr → Hp → D → Sto → Prop} (h : AfterS K mg T W m H (r.gone i) (kS K mg nx) Rt (kS K mg bk) (kS K mg ct)) :
    AfterS K mg T W0 m H r (kS K mg fun σ H => nx (σ.set i none) H) Rt (kS K mg fun σ H => bk (σ.set i none) H) (kS K mg fun σ H => ct (σ.set i none) H) := by
  cases r with
  | next e s => exact fun m1 H1 p g s1 σ re => h m1 H1 p g s1 _ re.gone
  | brk e s => exact fun m1 H1 p g s1 σ re => h m1 H1 p g s1 _ re.gone
  | cnt e s => exact fun m1 H1 p g s1 σ re => h m1 H1 p g s1 _ re.gone
  | ret d s => exact h
  | exc e x s => exact h.elim
  | bad => exact h.elim
theorem Ok.tr {W' : WX} (o : Ok X W k) {pn : List (Addr × Obj)} {xe : Value → Shared → Prop} (tk : Takes (X.tr pn xe) W') (p : PassesOwn (model X.prog X.w) X.A X.env xe) : Ok (X.tr pn xe) W' k := ⟨o.calm, o.nd, tk, o.room, p, o.gd⟩
theorem fs_caught {x n : Str} {c : Value} {i : Nat} {body suite : List Stmt} {b₀ : Stmt} {np pos' : Pos} {sub : Str → Option Bool} {fb fs : DS} (o : Ok X W k) (hc : Names X x c) (hsub : ∀ cn C b, X.mg cn = some (.ref C) → sub cn = some b → PySem.W.exmOne X.K (.ref C) c = some b)
    (hb : ∀ (W' : WX) (pn : List (Addr × Obj)) (xe : Value → Shared → Prop), Ok (X.tr pn xe) W' k → FSs (X.tr pn xe) T W' body fb) (hsu : ∀ (a : Addr) (pn : List (Addr × Obj)), FSs (X.suite a pn) T W0 (b₀ :: suite) fs)
    (hs : X.stack = X.env :: X.outer := by rfl) (hf : X.env.frame = some X.env.locals := by rfl) (hex : X.ex = [] := by rfl) (hi : X.N[i]? = some n := by rfl) (hln : X.env.kindOf n = some .local := by rfl) :
    FS X T W (.Try body [.ExceptHandler (some (.Name x np)) (some n) (b₀ :: suite) pos'] [] [] pos) (sCaught sub i fb fs) := by
  refine PS.imp (ps_try_track (tb := fun W' => tS X.K X.mg T W' fb) (ts := tS X.K X.mg T W0 fs) hs hf hex o.nd hi hln hc o.tk (fun W' pn xe tk p => hb W' pn xe (o.tr tk p)) hsu) fun D σ H ⟨m, env, st, a, h⟩ => ?_
  refine ⟨m, env, st, a, ?_⟩
  unfold sCaught at h
  cases e : fb env st with
  | next e1 s1 => rw [e] at h; exact h
  | ret e1 s1 => rw [e] at h; exact h
  | brk e1 s1 => rw [e] at h; exact h
  | cnt e1 s1 => rw [e] at h; exact h
  | bad => rw [e] at h; exact h
  | exc e1 x1 s1 =>
    rw [e] at h
    dsimp only at h
    intro m1 H1 cls dd σ1 p1 g1 rs re rx
    obtain ⟨C, hC, rfl⟩ := rx.ex
    cases es : sub x1.c with
    | none => rw [es] at h; exact h.elim
    | some b =>
      rw [es] at h
      refine ⟨b, hsub _ C b hC es, ?_, ?_⟩
      · rintro rfl
        dsimp only at h
        split at h
        · rename_i hd
          have hdd : dd = none := by
            rcases rx.at_ with ⟨_, z⟩ | ⟨_, _, _, _, z, _⟩
            · exact z
            · rw [hd] at z; cases z
          refine ⟨hdd, fun a1 n1 => ?_⟩
          have g2 : Grow H1 (upd H1 a1 (ExV (.ref C) a1)) := Grow.new n1
          refine ⟨m1, e1.set i (some (.exc x1.c [])), s1, ⟨(re.mono (List.prefix_refl _) g2).set (.exc hC upd_same), rs.newO n1⟩, ?_⟩
          exact AfterS.mono p1 (g1.trans g2) (afterS_gone h)
        · exact h.elim
      · rintro rfl
        exact h m1 H1 _ _ σ1 p1 g1 rs re rx
end
end Fn
end
section
set_option Elab.async false
set_option linter.all false
set_option maxRecDepth 100000
set_option maxHeartbeats 4000000
namespace Fn
open PySem PySem.Spec PyProof.Rows L2 LamX
/-! ### isinstance of a caught error, or None -/
def rIsX (K : PySem.W.Frag) : List V → Hp → VK → Prop := fun xs H Q => ∃ (a D : Addr) (c : V) (u : Value) (b : Bool), xs = [.ref a, c] ∧ ClsV c u ∧ H a = some (ExV (.ref D) a) ∧ ExcC K D ∧ PySem.W.kitOne K (.ref D) u = some b ∧ Q (.bl b) H
section
variable {X : Cx} {T : TB} {W : WX} {m m' : List Addr} {H H' : Hp} {st st' : Sto} {env : Ev} {σ : L2.St} {pos : Pos} {k : Nat}
theorem call_isX : CallR X (.builtin "isinstance") (rIsX X.K) := by
  intro pins s σ H xs us Q I r h
  obtain ⟨a, D, c, u, b, rfl, kc, ha, C, e, q⟩ := h
  obtain ⟨u1, u2, rfl, r1, r2⟩ := vals2 r
  have e2 := kc.eq r2
  subst e2
  cases (show u1 = Value.ref a from r1)
  obtain ⟨⟨oe, vs, he, hz, hd⟩, _⟩ := (show ObjOk X.prog X.w H s.heap a (ExV (.ref D) a) from I.hok a _ ha)
  have J : PySem.W.InstAt s.heap a oe D none := by
    obtain ⟨oc, od, oda, osl⟩ := oe
    obtain ⟨h1, h2⟩ := hz
    dsimp only at h1 h2 hd
    subst h1 h2 hd
    exact ⟨he, rfl, rfl, trivial⟩
  exact PySem.W.kia_one (PySem.W.handS_kitx_exc C.hg C.hk C.hs C.hd C.ha C.hn C.ht C.hm) I.kIn J e (fun z => nomatch z) fun tk => ⟨.bl b, H, I.tok tk, rfl, q⟩
/-- what a class says of None and of the errors -/
structure IsTab (K : PySem.W.Frag) (mg : Str → Option Value) (u : Value) (tab : Str → Option Bool) : Prop where
  non : PySem.W.kitOne K (.type "NoneType") u = some false
  ex : ∀ cn D b, mg cn = some (.ref D) → tab cn = some b → ExcC K D ∧ PySem.W.kitOne K (.ref D) u = some b
def dIsX (tab : Str → Option Bool) (f : DE) : DE := fun env st => (f env st).bind fun d s1 => match d with
  | .non => .ok (.bl false) s1
  | .exc c [] => (match tab c with
    | some b => .ok (.bl b) s1
    | none => .bad)
  | _ => .bad
theorem fe_isX {x : Str} {c : V} {u : Value} {tab : Str → Option Bool} {e : Expr} {f : DE} {p p2 : Pos} (hm : X.mg "isinstance" = none) (hc : PE X (.Name x p2) (tC c)) (kc : ClsV c u) (t : IsTab X.K X.mg u tab) (he : FE X T W e f)
    (hg : Gl X "isinstance" := by rfl)
    (hs : starEach [e, .Name x p2] X.env = (false, eval e X.env) :: starEach [.Name x p2] X.env := by rfl) (hs2 : starEach [.Name x p2] X.env = (false, eval (.Name x p2) X.env) :: starEach [] X.env := by rfl)
    (hpl : (backTo pos (starEach [.Name x p2] X.env)).any (·.1) = false := by rfl) :
    FE X T W (.Call (.Name "isinstance" p) [e, .Name x p2] [] pos) (dIsX tab f) := by
  have hr : CallR X (.builtin "isinstance") (fun xs H Q => rIsi X.K xs H Q ∨ rIsX X.K xs H Q) := fun pins s σ H xs us Q I r h => h.elim (call_isi pins s σ H xs us Q I r) (call_isX pins s σ H xs us Q I r)
  refine PE.imp (pe_callB hr hg hm (by decide +kernel) (pa_cons he (pa_cons hc pa_nil hs2) hs) (by decide) (by decide) hs hpl) fun σ H Q ⟨m, env, st, a, h⟩ => ?_
  refine tE_to a h fun m1 H1 d st1 v a1 p1 g1 r1 h1 => ?_
  cases r1 with
  | non => exact .inl ⟨.non, c, _, u, false, rfl, kc, .base .non, t.non, after_same a1.s h1 (.bl _)⟩
  | @exc cn D a2 hC hx =>
    dsimp only at h1
    cases e : tab cn with
    | none => rw [e] at h1; exact h1.elim
    | some b =>
      rw [e] at h1
      obtain ⟨q1, q2⟩ := t.ex cn D b hC e
      exact .inr ⟨a2, D, c, u, b, rfl, kc, hx, q1, q2, after_same a1.s h1 (.bl _)⟩
  | _ => exact h1.elim
/-- an own class by its name -/
theorem pe_cls {x : Str} {C : Addr} {pos : Pos} (h : X.mg x = some (.ref C)) (hg : Gl X x := by rfl) (hd : (x == ("__debug__" : Str)) = false := by decide) : PE X (.Name x pos) (tC (.ref C)) := pe_glob hg h rfl hd
/-- a built-in class by its name -/
theorem pe_clsB {x : Str} {b : String} {pos : Pos} (hmT : X.mg x = none) (hvT : bootBuiltins x = some (.type b)) (hgT : Gl X x := by rfl) (hn : x ≠ "__name__" := by decide) (hdb : (x == ("__debug__" : Str)) = false := by decide) : PE X (.Name x pos) (tC (.ty b)) := pe_bltn hgT hmT hvT rfl hn hdb
end
end Fn
end
section
set_option Elab.async false
set_option linter.all false
set_option maxRecDepth 100000
set_option maxHeartbeats 4000000
namespace Fn
open PySem PySem.Spec PyProof.Rows L2 LamX
/-! ### closures: a lambda without parameters as a value; a def that is given one and calls it -/
section
variable {X : Cx} {pins : List (Addr × Obj)} {σ : L2.St} {H : Hp} {s : Shared}
/-- a thing of the heap is tracked from here on -/
theorem trackO (I : Inv X pins σ H s) {a : Addr} {u : HO} (ob : ObjOk X.prog X.w (upd H a u) s.heap a u) (na : H a = none) (n0 : X.s_0.heap.get? a = none) (nL : a ≠ X.env.locals) (nc : ∀ x c, X.env.cells.lookup x = some c → c ≠ a) (np : ∀ p ∈ X.pn ++ pins, p.1 ≠ a) :
    Inv X pins σ (upd H a u) s := by
  refine ⟨I.ok, I.os, I.bare, ⟨I.base.keep, I.base.slot, fun b o q n hx => ?_, I.base.there, fun b xs q => ?_, fun b o u q => ?_, fun b ps q => ?_⟩, I.loc, I.cell, ?_, fun x c q => ?_, fun p hp => ?_, I.hok.laidN (fun _ _ q => q) na ob, I.len⟩
  · rw [upd_ne (fun z => by rw [z, n0] at q; cases q)]
    exact I.base.free b o q n hx
  · have q' := I.base.tups b xs q
    rw [upd_ne (ne_of_none q' na)]
    exact q'
  · have q' := I.base.frzs b o u q
    rw [upd_ne (ne_of_none q' na)]
    exact q'
  · obtain ⟨more, q'⟩ := I.base.tbls b ps q
    exact ⟨more, by rw [upd_ne (ne_of_none q' na)]; exact q'⟩
  · rw [upd_ne (Ne.symm nL)]
    exact I.free
  · rw [upd_ne (nc x c q)]
    exact I.freeC x c q
  · obtain ⟨h1, h2, h3, h4, h5⟩ := I.pin p hp
    exact ⟨h1, by rw [upd_ne (np p hp)]; exact h2, h3, h4, h5⟩
theorem grow_extN {H H' : Hp} (e : ExtN H H') : Grow H H' := by
  refine ⟨fun p xs h => ?_, fun p ob u h => e _ _ h (fun _ z => nomatch z), fun p φ h => e _ _ h (fun _ z => nomatch z)⟩
  rcases h with h | ⟨ob, h⟩
  · exact .inl (e _ _ h fun _ z => nomatch z)
  · exact .inr ⟨ob, e _ _ h fun _ z => nomatch z⟩
theorem cloV_ok {P : Program} {w : World} {H : Hp} {h : Heap} {c : Clo} {c' f : Addr} (x : ∃ (pm ctv : Value), h.get? f = some (PySem.W.kla_obj "<lambda>" c.q c.ps c.body c.sc c.cells pm c' ctv)) : ObjOk P w H h f (CloV c c' f) := by
  obtain ⟨pm, ctv, h1⟩ := x
  exact ⟨⟨pm, ctv, h1⟩, ⟨_, h1⟩, fun _ _ ⟨pm, ctv, h1⟩ k => ⟨pm, ctv, k _ h1⟩⟩
/-- a lambda is made -/
theorem lam_made {T : List (Addr × Str)} {id : Nat} {c P : Addr} {params : Arguments} {body : Expr} {scope : Scope} {pos : Pos} {E : Value → Shared → Prop} {Q : Value → Shared → Prop} (I : Inv X pins σ H s) (TB : TabB X.base X.mg c P) (hcode : X.env.code = .ref c)
    (hm : (P, X.env.qual ++ "<lambda>") ∈ T) (hu : ∀ p ∈ T, p.1 = P → p.2 = X.env.qual ++ "<lambda>") (hT : Tabs T H) (hdef : defaultsOf params X.env = ([], [])) (hfree : ∀ y ∈ scope.names, y.2 = .free → ∃ c, X.env.cells.lookup y.1 = some c)
    (h : ∀ (f c' : Addr) (H1 : Hp) (s' : Shared), Inv X pins σ (upd H1 f (CloV ⟨id, X.env.qual ++ "<lambda>", params, body, scope, cloFrom X.env.cells scope.names []⟩ c' f)) s' → ExtN H H1 → Tabs T H1 → H1 f = none → H1 c' = some (CodeO c' (X.env.qual ++ "<lambda>")) → Q (.ref f) s') :
    wpAny (model X.prog X.w) X.A (eval (.Lambda params body scope pos) X.env) Q E s := by
  obtain ⟨ps, hP, ht, ha⟩ := hT _ hm
  refine PySem.W.kla_eval hdef ?_
  have bP : s.heap.BuiltinsAt X.mg P := TB.bm.keeps I.bk
  have hP' : s.heap.get? P = some { cls := .none, data := .fields ps } := I.hok P _ hP
  -- what is laid last lies above all that the state spoke of
  have fin : ∀ {f : Addr} {H1 : Hp} {s' : Shared} {u : HO}, s.heap.objs.size ≤ f → H1 f = none → Inv X pins σ H1 s' → ObjOk X.prog X.w (upd H1 f u) s'.heap f u → Inv X pins σ (upd H1 f u) s' := fun {f H1 s' u} hf n1 I1 ob => by
    refine trackO I1 ob n1 ?_ ?_ (fun x c q => ?_) fun p hp => ?_
    · cases e : X.s_0.heap.get? f with
      | none => rfl
      | some o => exact absurd (Nat.lt_of_lt_of_le (Heap.lt_size e) (Nat.le_trans I.sz hf)) (Nat.lt_irrefl _)
    · exact Nat.ne_of_gt (Nat.lt_of_lt_of_le I.lt hf)
    · obtain ⟨v, o, ho, _⟩ := I.cell x c q
      exact Nat.ne_of_lt (Nat.lt_of_lt_of_le (Heap.lt_size ho) hf)
    · exact Nat.ne_of_lt (Nat.lt_of_lt_of_le (Heap.lt_size (I.pin p hp).1) hf)
  cases hc : codeAmong pos ps.toList with
  | none =>
    refine PySem.W.kla_makeFunction (mg := X.mg) (c := c) (P := P) (ps := ps) (closure_ok hfree) I.ok.glob (I.mod.glob.keeps I.bk) hcode (TB.code.keeps I.bk) hP' ht hc TB.gP bP fun c' ctv h' tk hx hge hlt hrec htb => ?_
    obtain ⟨c2, oc, vs, t, e2, hoc, hd, hv⟩ := hrec
    cases e2
    have hsz : s.heap.objs.size ≤ h'.objs.size := Nat.le_trans hge (Nat.le_of_lt hlt)
    have nC : H c' = none := I.hok.fresh hge
    have I1 := inv_table (t' := tk) (more := #[rawInt pos.line, rawInt pos.col, .ref c']) (h' := h'.push (PySem.W.kla_obj "<lambda>" (X.env.qual ++ "<lambda>") params body scope (cloFrom X.env.cells scope.names []) ((X.mg "__name__").getD .none) c' ctv)) I hP
      (fun b o hb e => Heap.get?_push_of_some _ (hx b o hb e)) (Heap.get?_push_of_some _ htb) hge ⟨oc, vs, t, Heap.get?_push_of_some _ hoc, hd, hv⟩
    have hE : ExtN H (upd (upd H P (.tbl (ps ++ #[rawInt pos.line, rawInt pos.col, .ref c']))) c' (CodeO c' (X.env.qual ++ "<lambda>"))) := fun b o e n => by
      rw [upd_ne (ne_of_none e nC), upd_ne (fun z => n ps (Option.some.inj (e.symm.trans (by rw [z]; exact hP))))]
      exact e
    have eL : (ps ++ #[rawInt pos.line, rawInt pos.col, .ref c']).toList = ps.toList ++ [rawInt pos.line, rawInt pos.col, .ref c'] := by simp
    have n1 : h'.objs.size ≠ c' := Nat.ne_of_gt hlt
    have n2 : h'.objs.size ≠ P := Nat.ne_of_gt (Nat.lt_of_lt_of_le (Heap.lt_size hP') hsz)
    have nf : (upd (upd H P (.tbl (ps ++ #[rawInt pos.line, rawInt pos.col, .ref c']))) c' (CodeO c' (X.env.qual ++ "<lambda>"))) h'.objs.size = none := by
      rw [upd_ne n1, upd_ne n2]
      exact I.hok.fresh hsz
    refine h h'.objs.size c' _ _ (fin hsz nf I1 (cloV_ok ⟨_, ctv, Heap.get?_push_size _ rfl⟩)) hE (fun p hp => ?_) nf upd_same
    by_cases hb : p.1 = P
    · rw [hu p hp hb, hb]
      refine ⟨_, by rw [upd_ne (ne_of_none hP nC), upd_same], by rw [eL]; exact PySem.TriplesOk_snoc _ _ _ _ ht, fun p' cv hcv => ?_⟩
      rw [eL] at hcv
      rcases among_app _ ht hcv with z | z
      · obtain ⟨c0, e1, e2⟩ := ha p' cv z
        exact ⟨c0, e1, hE _ _ e2 codeO_ne⟩
      · exact ⟨c', z, upd_same⟩
    · obtain ⟨ps', a1, a2, a3⟩ := hT p hp
      refine ⟨ps', by rw [upd_ne (ne_of_none a1 nC), upd_ne hb]; exact a1, a2, fun p' cv hcv => ?_⟩
      obtain ⟨c0, e1, e2⟩ := a3 p' cv hcv
      exact ⟨c0, e1, hE _ _ e2 codeO_ne⟩
  | some cv =>
    obtain ⟨c', e, hco⟩ := ha pos cv hc
    subst e
    refine PySem.W.kla_makeFunctionHit (mg := X.mg) (c := c) (P := P) (ps := ps) (closure_ok hfree) I.ok.glob (I.mod.glob.keeps I.bk) hcode (TB.code.keeps I.bk) hP' ht hc bP fun ctv h' tk hx hsz => ?_
    have I1 : Inv X pins σ H { s with heap := h'.push (PySem.W.kla_obj "<lambda>" (X.env.qual ++ "<lambda>") params body scope (cloFrom X.env.cells scope.names []) ((X.mg "__name__").getD .none) c' ctv), toks := tk } := I.kept fun b o e => Heap.get?_push_of_some _ (hx b o e)
    have nf := I.hok.fresh hsz
    exact h h'.objs.size c' H _ (fin hsz nf I1 (cloV_ok ⟨_, ctv, Heap.get?_push_size _ rfl⟩)) (ExtN.refl H) hT nf hco
end
/-- the value -/
def cloOf (id : Nat) (X : Cx) (params : Arguments) (body : Expr) (scope : Scope) : Clo := ⟨id, X.env.qual ++ "<lambda>", params, body, scope, cloFrom X.env.cells scope.names []⟩
/-- what the maker's def has for making lambdas -/
structure Mk (X : Cx) (T : TB) : Prop where
  ex : ∃ c P, TabB X.base X.mg c P ∧ X.env.code = .ref c ∧ (P, X.env.qual ++ "<lambda>") ∈ T.tabs ∧ ∀ p ∈ T.tabs, p.1 = P → p.2 = X.env.qual ++ "<lambda>"
section
variable {X : Cx} {T : TB} {W : WX} {m m' : List Addr} {H H' : Hp} {st st' : Sto} {env : Ev} {σ : L2.St} {pos : Pos}
theorem fe_lam (id : Nat) {params : Arguments} {body : Expr} {scope : Scope} (M : Mk X T) (L : LamS X.env.scope scope) (hdef : defaultsOf params X.env = ([], []) := by rfl) : FE X T W (.Lambda params body scope pos) (dC (.clo (cloOf id X params body scope))) := by
  refine ⟨fun pins s σ H Q I ⟨m, env, st, a, h⟩ => ?_⟩
  obtain ⟨c, P, TB, hcode, hm, hu⟩ := M.ex
  refine lam_made (id := id) I TB hcode hm hu a.s.tb hdef (L.has I.ok) fun f c' H1 s' I1 eN T1 nf hco => ?_
  have g : Grow H (upd H1 f (CloV (cloOf id X params body scope) c' f)) := (grow_extN eN).trans (Grow.new nf)
  refine ⟨.ref f, _, I1, rfl, h m _ (List.prefix_refl _) g ?_ (.ref f) (.clo upd_same ((Grow.new nf).ext _ _ hco))⟩
  refine RepS.newO ⟨a.s.len, a.s.nd, fun i o b e q => ?_, T1, a.s.pre, a.s.gr.trans (grow_extN eN)⟩ nf
  obtain ⟨u, hu, _, _, n3⟩ := (a.s.ob i o b e q).there
  exact (a.s.ob i o b e q).mono (List.prefix_refl _) (grow_extN eN) ((eN _ _ hu n3).trans hu.symm)
end
end Fn
end
section
set_option Elab.async false
set_option linter.all false
set_option maxRecDepth 100000
set_option maxHeartbeats 4000000
namespace Fn
open PySem PySem.Spec PyProof.Rows L2 LamX
/-- what is known of the frames and the heap while a maker's frame stands below -/
abbrev UP := List Env → Shared → Hp → Prop
/-- U goes on into each state of a frame that was entered where U held -/
structure USt (U : UP) : Prop where
  step : ∀ {X : Cx} {pins : List (Addr × Obj)} {σ : L2.St} {H : Hp} {s : Shared}, Inv X pins σ H s → X.ex = [] → X.stack = X.env :: X.outer → X.env.frame = some X.env.locals → U X.outer X.s_0 X.H_0 → U X.stack s H
/-- the maker's state s stands below -/
def Uc (X : Cx) (Hm : Hp) (sm : Shared) : UP := fun outer s H => Un (frs X.stack) [] Hm H sm.heap s.heap ∧ ∀ L ∈ frs outer, L ∈ frs X.stack ∨ sm.heap.get? L = none
theorem uc_step (Y : Cx) (Hm : Hp) (sm : Shared) : USt (Uc Y Hm sm) := by
  refine ⟨fun {X pins σ H s} I hex hs hf ⟨u, hc⟩ => ?_⟩
  have nx : ∀ b, b ∉ X.ex := fun b z => by rw [hex] at z; cases z
  have nfs : ∀ b o, sm.heap.get? b = some o → b ∉ frs Y.stack → b ∉ X.fs := fun b o e n z => by
    rcases hc b z with q | q
    · exact n q
    · rw [q] at e; cases e
  refine ⟨⟨fun b o e n hb hx => ?_, fun b o e n hb hx => ?_, fun b o e n hx => ?_, fun b o e hx => ?_, fun b xs e => ?_, fun b o v e => ?_, fun b ps e => ?_⟩, fun L hL => ?_⟩
  · exact I.base.keep b o (u.keep b o e n hb hx) (u.free b o e n hx) (nfs b o e hb) (nx b)
  · obtain ⟨sl, e1⟩ := u.slot b o e n hb hx
    obtain ⟨sl', e2⟩ := I.base.any e1 (u.free b o e n hx) (nx b)
    exact ⟨sl', e2⟩
  · obtain ⟨o', e1⟩ := u.there b o e hx
    exact I.base.free b o' e1 (u.free b o e n hx) (nx b)
  · obtain ⟨o', e1⟩ := u.there b o e hx
    exact I.base.there b o' e1 (nx b)
  · exact I.base.tups b xs (u.tups b xs e)
  · exact I.base.frzs b o v (u.frzs b o v e)
  · obtain ⟨m1, e1⟩ := u.tbls b ps e
    obtain ⟨m2, e2⟩ := I.base.tbls b _ e1
    exact ⟨m1 ++ m2, by rw [e2, Array.append_assoc]⟩
  · rw [hs] at hL
    unfold frs at hL
    rw [List.filterMap_cons, hf] at hL
    rcases List.mem_cons.mp hL with z | z
    · refine .inr ?_
      cases e : sm.heap.get? L with
      | none => rfl
      | some o =>
        obtain ⟨o', e1⟩ := u.there L o e (by simp)
        have h1 := Heap.lt_size e1
        have h2 := I.ok.above
        rw [z] at h1
        exact absurd (Nat.lt_of_lt_of_le h1 h2) (Nat.lt_irrefl _)
    · exact hc L z
/-- a closure's promise, in the frames above the maker's: it comes to cl -/
def CloOK1 (P : Program) (w : World) (K : PySem.W.Frag) (mg : Str → Option Value) (base : Heap) (k : Nat) (T : TB) (U : UP) (c : Clo) (cl : Sto → R D) : Prop :=
  ∀ (A : Around) (outer : List Env) (s : Shared) (H : Hp) (Q : VK) (E : XK) (f c' : Addr) (m : List Addr) (st : Sto), Room k A → A.guards = some [] → Env0 P w K mg base A outer s H → U outer s H → H f = some (CloV c c' f) → H c' = some (CodeO c' c.q) → RepS K mg T m H st →
    After K mg T E m H (cl st) (kE K mg Q) → codeAny (model P w) A (.call (.ref f) ⟨[], []⟩) (CR (L2.CX P w) outer P w H s Q E) s
section
variable {X : Cx} {T : TB} {W : WX} {m m' : List Addr} {H H' : Hp} {st st' : Sto} {env : Ev} {σ : L2.St} {pos : Pos}
open Classical in
noncomputable def dAct (c : Clo) (cl : Sto → R D) (i : Nat) : DE := fun env st => match env[i]? with
  | some (some (.clo c')) => if c' = c then cl st else .bad
  | _ => .bad
/-- x(), x a parameter that holds the closure -/
theorem fe_act {k k' : Nat} {U : UP} {c : Clo} {cl : Sto → R D} {i : Nat} {x : Str} {p : Pos} (F : CloOK1 X.prog X.w X.K X.mg X.base k T U c cl) (o : Ok X W k') (S : USt U) (hU : U X.outer X.s_0 X.H_0) (hk : k ≤ k' := by decide)
    (hN : X.N[i]? = some x := by rfl) (hv : Vis X.env.scope x := by first | exact Or.inl rfl | exact Or.inr (Or.inl rfl) | exact Or.inr (Or.inr rfl)) (hd : (x == ("__debug__" : Str)) = false := by decide) (hcd : (x == ("__classdict__" : Str)) = false := by decide)
    (hex : X.ex = [] := by rfl) (hs : X.stack = X.env :: X.outer := by rfl) (hf : X.env.frame = some X.env.locals := by rfl) : FE X T W (.Call (.Name x p) [] [] pos) (dAct c cl i) := by
  refine ⟨fun pins s σ H Q I ⟨m, env, st, a, h⟩ => ?_⟩
  unfold dAct at h
  split at h
  · rename_i c1 e1
    split at h
    · rename_i ec
      subst ec
      obtain ⟨v, hv1, hv2⟩ := a.e.at_ i _ e1
      cases hv2 with
      | @clo _ c' f hcf hcc =>
      refine wpAny_Call_Name_kw (thn ((pe_var (pos := p) (i := i) hN hv hd hcd).run pins s σ H (fun v H1 => v = .ref f ∧ H1 = H) I ⟨.ref f, hv1, rfl, rfl⟩) fun u s1 ⟨v, H1, I1, r1, q1⟩ => ?_)
      obtain ⟨ev, eH⟩ := q1
      subst ev eH
      obtain rfl : u = Value.ref f := r1
      obtain ⟨⟨pm, ctv, of1⟩, _⟩ := I1.hok f _ hcf
      refine PySem.W.callWith_F0 ⟨_, _, _, _, of1⟩ ?_
      refine wpAny_call (codeAny_mono (F X.A X.stack s1 H1 Q (wAt W σ) f c' m st (o.room.mono hk) o.gd I1.env0 (S.step I1 hex hs hf hU) hcf hcc a.s h) fun r s' hq => ?_)
      match r, hq with
      | .error e, hq => exact o.tk e s' (XE.of_call I1 (fun _ _ _ h => h) hq)
      | .ok (.ret u), hq => exact I1.after hq
    · exact h.elim
  · exact h.elim
/-- a lambda of the maker X, and its body as a function of X's names -/
structure LamOk (X : Cx) (tabs : List (Addr × Str)) (k : Nat) (c : Clo) (fl : DE) : Prop where
  ex : ∃ id params body scope, c = cloOf id X params body scope ∧ LamS X.env.scope scope ∧ (∀ (q : Str) (cl : List (Str × Addr)) (pm cv ctv : Value), bindArgs (PySem.W.kla_fn "<lambda>" q params body scope cl pm cv ctv) ⟨[], []⟩ = pure []) ∧
    ∀ (T : TB) (A : Around) (outer : List Env) (s : Shared) (H : Hp) (E : XK) (f c' : Addr), T.tabs = tabs → Ok (lamCx X A outer s H E scope f c') (fun c d _ H => E c d H) k → FE (lamCx X A outer s H E scope f c') T (fun c d _ H => E c d H) body fl
theorem lam_ok (id : Nat) {tabs : List (Addr × Str)} {k : Nat} {params : Arguments} {body : Expr} {scope : Scope} {fl : DE} (L : LamS X.env.scope scope)
    (hb : ∀ (T : TB) (A : Around) (outer : List Env) (s : Shared) (H : Hp) (E : XK) (f c' : Addr), T.tabs = tabs → Ok (lamCx X A outer s H E scope f c') (fun c d _ H => E c d H) k → FE (lamCx X A outer s H E scope f c') T (fun c d _ H => E c d H) body fl)
    (hbind : ∀ (q : Str) (cl : List (Str × Addr)) (pm cv ctv : Value), bindArgs (PySem.W.kla_fn "<lambda>" q params body scope cl pm cv ctv) ⟨[], []⟩ = pure [] := by intro _ _ _ _ _; rfl) : LamOk X tabs k (cloOf id X params body scope) fl := ⟨id, params, body, scope, rfl, L, hbind, hb⟩
theorem LamOk.clo {pins : List (Addr × Obj)} {s : Shared} {k k' : Nat} {c : Clo} {fl : DE} (L : LamOk X T.tabs k c fl) (o : Ok X W k') (I : Inv X pins σ H s) (a : At X.K X.mg T m env st σ H) : CloOK1 X.prog X.w X.K X.mg X.base (k + 1) ⟨T.tabs, m, H⟩ (Uc X H s) c (fun st => fl env st) := by
  obtain ⟨id, params, body, scope, rfl, LS, hbind, hb⟩ := L.ex
  intro A outer s1 H1 Q E f c' m1 st1 hr hg e0 hu hf hc rs q
  obtain ⟨⟨pm, ctv, of1⟩, _⟩ := e0.hok f _ hf
  obtain ⟨⟨oc, vs, t, hoc, hdc, hvc⟩, _, _⟩ := e0.hok c' _ hc
  have lim : s1.heap.NoLimit := e0.mod.nolimit.keeps fun b o e => (e0.bs b o e).1
  refine PySem.W.kla_callFunE hr.depth of1 rfl LS.co LS.gen rfl ⟨c', oc, vs, t, rfl, hoc, hdc, hvc⟩ ?_
  rw [show bindArgs (PySem.W.kla_fn "<lambda>" (cloOf id X params body scope).q (cloOf id X params body scope).ps (cloOf id X params body scope).body (cloOf id X params body scope).sc (cloOf id X params body scope).cells pm (.ref c') ctv) ⟨[], []⟩ = pure [] from hbind _ _ _ _ _]
  refine wpAny_pure (wpAny_newFunctionEnv (fun y hy => (LS.own y hy).2) (fun y hy => absurd hy (by simp)) (fun h₁ hns hsb => ⟨lim.fresh _ hsb, ?_⟩) LS.kind)
  show codeAny _ _ (.expr body (lamEnv X scope s1.heap.objs.size f c')) _ _
  have kp : ∀ b o, s1.heap.get? b = some o → h₁.get? b = some o := fun b o e => hsb.extBut b o (Nat.ne_of_lt (Heap.lt_size e)) (Heap.get?_push_of_some _ e)
  have J : Inv (lamCx X A outer s1 H1 E scope f c') [] σ H1 { s1 with heap := h₁, toks := s1.toks + ([] : List (Str × Value)).length } := lam_start2 I LS e0 hr.hd hu.1 hns kp
  have tk : Takes (lamCx X A outer s1 H1 E scope f c') (fun cls d _ H => E cls d H) := takes_of rfl rfl rfl rfl
  refine PySem.W.kla_codeExpr (wpAny_mono ((hb ⟨T.tabs, m, H⟩ A outer s1 H1 E f c' rfl ⟨rfl, o.nd, tk, hr.deeper _, passes_of rfl, hg⟩).run [] _ _ H1 Q J ⟨m1, env, st1, ⟨a.e.mono rs.pre rs.gr, rs⟩, q⟩) (fun v s' hq => ?_) fun e s' hq => hq)
  obtain ⟨w', H', J', rv, q⟩ := hq
  exact ⟨w', H', J'.os, J'.bare, J'.base, J'.hok, rv, q⟩
/-! ### a call that hands a closure over -/
open Classical in
noncomputable def gC (c : Clo) (r : Sto → R D) (ds : List D) (st : Sto) : R D := match ds with
  | [.clo c'] => if c' = c then r st else .bad
  | _ => .bad
open Classical in
noncomputable def pick (Ls : List (Clo × DE)) (c : Clo) (env : Ev) (st : Sto) : R D := match Ls with
  | [] => .bad
  | (c', fl) :: r => if c' = c then fl env st else pick r c env st
open Classical in
noncomputable def dClo (g : (Sto → R D) → Sto → R D) (Ls : List (Clo × DE)) (fa : DA) : DE := fun env st => (fa env st).bind fun ds s1 => match ds with
  | [.clo c] => if (∃ fl, (c, fl) ∈ Ls) then g (fun s => pick Ls c env s) s1 else .bad
  | _ => .bad
theorem pick_in : ∀ {Ls : List (Clo × DE)} {c : Clo}, (∃ fl, (c, fl) ∈ Ls) → ∃ fl, (c, fl) ∈ Ls ∧ ∀ env st, pick Ls c env st = fl env st
  | [], c, h => by obtain ⟨fl, h⟩ := h; cases h
  | (c1, f1) :: r, c, h => by
    by_cases e : c1 = c
    · subst e
      exact ⟨f1, List.mem_cons_self, fun env st => by unfold pick; rw [if_pos rfl]⟩
    · obtain ⟨fl, h⟩ := h
      have h' : (c, fl) ∈ r := by
        rcases List.mem_cons.mp h with z | z
        · exact absurd (congrArg Prod.fst z).symm e
        · exact z
      obtain ⟨fl', h1, h2⟩ := pick_in ⟨fl, h'⟩
      exact ⟨fl', List.mem_cons_of_mem _ h1, fun env st => by
        have q := h2 env st
        unfold pick
        rw [if_neg e]
        exact q⟩
theorem After.tb {K : PySem.W.Frag} {mg : Str → Option Value} {E : XK} {T' : TB} {r : R D} {k : List Addr → Hp → D → Sto → Prop} (ht : T'.tabs = T.tabs) (pre : T.m0 <+: m) (gr : Grow T.H0 H) (h : After K mg T E m H r k) : After K mg T' E m H r k := by
  cases r with
  | ok a s => exact fun m' H' p g s' => h m' H' p g ⟨s'.len, s'.nd, s'.ob, ht ▸ s'.tb, pre.trans p, gr.trans g⟩
  | exc x s => exact fun m' H' c d p g s' => h m' H' c d p g ⟨s'.len, s'.nd, s'.ob, ht ▸ s'.tb, pre.trans p, gr.trans g⟩
  | bad => exact h
open Classical in
theorem fe_callClo {k kc k' : Nat} {x : Str} {f : Addr} {fd : FuncData} {y : Str} {g : (Sto → R D) → Sto → R D} {e : Expr} {fa : DA} {p : Pos} {Ls : List (Clo × DE)}
    (F : ∀ (T' : TB) (U : UP) (c : Clo) (cl : Sto → R D), T'.tabs = T.tabs → USt U → CloOK1 X.prog X.w X.K X.mg X.base (kc + 1) T' U c cl → DefOk X.prog X.w X.K X.mg X.base T' k x f fd [y] U (gC c (g cl)))
    (o : Ok X W k') (hL : ∀ q ∈ Ls, LamOk X T.tabs kc q.1 q.2) (ha : FA X T W [e] fa) (hk : k ≤ k' := by decide)
    (hg : Gl X x := by rfl) (hdb : (x == ("__debug__" : Str)) = false := by decide) (he : starEach [e] X.env = (false, eval e X.env) :: starEach [] X.env := by rfl) (hpl : (backTo pos (starEach [] X.env)).any (·.1) = false := by rfl) :
    FE X T W (.Call (.Name x p) [e] [] pos) (dClo g Ls fa) := by
  -- the def's facts that don't hang on the closure
  have F0 := F T (fun _ _ _ => False) ⟨0, "", ⟨[], [], none, [], [], none, []⟩, .Name "" ⟨0, 0, 0, 0⟩, X.env.scope, []⟩ (fun _ => .bad) rfl ⟨fun _ _ _ _ h => h.elim⟩ (fun _ _ _ _ _ _ _ _ _ _ _ _ _ h => h.elim)
  refine ⟨fun pins s σ H Q I ⟨m, env, st, a, h⟩ => ?_⟩
  refine wpAny_Call_Name_kw (ld_glob I hg F0.at_ ?_ hdb)
  refine PySem.W.callWith_K (h₀ := X.base) I.ok.mod.kin F0.kp (thn (ha.run pos pins s σ H (fun vs H1 => ∃ m1 ds st1, At X.K X.mg T m1 env st1 σ H1 ∧ RepVs X.K X.mg m1 H1 ds vs ∧ After X.K X.mg T (wAt W σ) m1 H1 (match ds with
      | [.clo c] => if (∃ fl, (c, fl) ∈ Ls) then g (fun s => pick Ls c env s) st1 else .bad
      | _ => .bad) (kE X.K X.mg Q)) I (tA_to a h fun m1 H1 ds st1 vs a1 p1 g1 r1 h1 => ⟨m1, ds, st1, a1, r1, h1⟩)) fun us s1 ⟨vs, H1, I1, rv, m1, ds, st1, a1, r1, h1⟩ => ⟨I1.kIn, ?_⟩) he hpl
  split at h1
  · rename_i c
    split at h1
    · rename_i hc
      obtain ⟨fl, hm, hp⟩ := pick_in hc
      have ep : (fun s => pick Ls c env s) = fun s => fl env s := funext fun s => hp env s
      rw [ep] at h1
      have G := F ⟨T.tabs, m1, H1⟩ (Uc X H1 s1) c (fun s => fl env s) rfl (uc_step X H1 s1) ((hL _ hm).clo o I1 a1)
      refine run_g G.ok o hk G.bd I1 rv ⟨⟨fun b o e _ _ _ => e, fun b o e _ _ _ => ⟨o.slots, e⟩, fun b o e n _ => n, fun b o e _ => ⟨o, e⟩, fun _ _ e => e, fun _ _ _ e => e, fun b ps e => ⟨#[], by rw [e]; simp⟩⟩, fun L hL => .inl hL⟩ ⟨by rw [← r1.length]; rfl, m1, [.clo c], st1, r1, ⟨a1.s.len, a1.s.nd, a1.s.ob, a1.s.tb, List.prefix_refl _, Grow.refl _⟩, ?_⟩
      have z : gC c (g fun s => fl env s) [.clo c] st1 = g (fun s => fl env s) st1 := by unfold gC; exact if_pos rfl
      rw [z]
      exact After.tb (T := T) (T' := ⟨T.tabs, m1, H1⟩) rfl a1.s.pre a1.s.gr h1
    · exact h1.elim
  · exact h1.elim
end
/-! ### a def whose body's reading hangs on the frame -/
section
variable {P : Program} {w : World} {K : PySem.W.Frag} {mg : Str → Option Value} {base : Heap} {T : TB}
theorem def_okC {x qual : Str} {sd : Stmt} {f : Addr} {fd : FuncData} {N ps : List Str} {k : Nat} {U : UP} {g : List D → Sto → R D} (F : Fun K x qual sd f fd) (S : FnScope N ps (defScope sd)) (hx : mg x = some (.ref f)) (bd : Binds K fd ps [])
    (body : ∀ (A : Around) (outer : List Env) (s : Shared) (H : Hp) (E : XK), U outer s H → Ok (cxOf (L2.CX P w) P w K mg base N qual (defScope sd) f fd.code A outer s H E) (fun c d _ H => E c d H) k →
      ∃ fb, FSs (cxOf (L2.CX P w) P w K mg base N qual (defScope sd) f fd.code A outer s H E) T (fun c d _ H => E c d H) (defBody sd) fb ∧ ∀ ds st, ds.length = ps.length → Ref K mg T st.length (fb (ev0 N ds) st).toR (g ds st)) : DefOk P w K mg base T (k + 1) x f fd ps U g := by
  refine ⟨hx, F.kp, bd, fun vs H Q E h => h.1, fun A outer s H args us vs Q E hr hg he hb hv hu ⟨hl, m, ds, st, rv, rs, q⟩ => ?_⟩
  obtain ⟨oc, od, kV, doc, pm, an, cdv, ct, osl, rfl, lk, hcd⟩ := F.ex
  refine run_ofS (N := N) (ps := ps) (us := us) (vs := vs) lk hcd S hr he hb hv hl fun hr' => ?_
  have tk : Takes (cxOf (L2.CX P w) P w K mg base N qual (defScope sd) f cdv A outer s H E) (fun cls d _ H => E cls d H) := takes_of rfl rfl rfl rfl
  obtain ⟨fb, h1, h2⟩ := body A outer s H E hu ⟨rfl, S.nd, tk, hr', passes_of rfl, hg⟩
  exact ⟨_, h1, m, ev0 N ds, st, ⟨repE_start rv, rs⟩, toR_of (h2 ds st (by rw [rv.length]; exact hl) E m H Q rs.len rs.pre q)⟩
end
end Fn
end
section
set_option Elab.async false
set_option linter.all false
set_option maxRecDepth 100000
set_option maxHeartbeats 4000000
/-! list(text); tuple(reversed(a tuple)): at the library's level. -/
namespace Fn
open PySem PySem.Spec PyProof.Rows
open RT
section
variable {prog : Program} {w : World} {A : Around} {E : Value → Shared → Prop} {s : Shared}
/-- a list that is empty takes a text's signs -/
theorem extend_text {R : Result → Shared → Prop} {x : Str} {t : Tok} (hh : A.handled = none) (hn : x.cps.size ≤ sizeLine) (S : Addr) (res : Value) (c₀ : Nat) (hS : s.heap.get? S = some { cls := .type "list", data := .seq #[] c₀ })
    (hR : ∀ h' tk acc' c', (∀ b o, b ≠ S → s.heap.get? b = some o → h'.get? b = some o) → h'.get? S = some { cls := .type "list", dict := none, data := .seq acc' c', slots := #[] } →
      ItemsOf (SignAt x) acc' x.cps.size → R (.ok (.ret res)) { s with heap := h', toks := tk }) :
    wpAny (model prog w) A.in1 (Builtin.List.listExtendWith (.ref S) (.str x t) res)
      (fun fin s' => match fin with | .done f => R (.ok f) s' | .again c' => c'.quiet = true ∧ codeAny (model prog w) A c' R s') (fun e s' => R (.error e) s') s := by
  have hSlt : S < s.heap.objs.size := Heap.lt_size hS
  have hSf : S ∉ [s.heap.objs.size] := fun hm => Nat.ne_of_lt hSlt (List.mem_singleton.mp hm)
  unfold Builtin.List.listExtendWith
  refine wpAny_bind (wpAny_typeOf (T := "str") (v := .str x t) rfl ?_)
  have h1 : Builtin.List.listSameRef (.ref S) (.str x t) = false := rfl
  have h2 : (Value.type "str" == Value.type "list") = false := by decide
  have h3 : (Value.type "str" == Value.type "tuple") = false := by decide
  simp only [h1, h2, h3, Bool.or_false, Bool.false_eq_true, if_false]
  refine wpAny_bind (wpAny_pyIter_str fun o St W hst => ?_)
  refine wpAny_bind (wpAny_holding ?_)
  unfold Builtin.List.listLengthHint
  refine wpAny_bind (wpAny_specialOf (T := "str") (v := .str x t) rfl F.str_len ?_)
  wp_delta
  refine wpAny_bind (wpAny_isInstance (T := "str") (v := .str x t) (b := true) rfl (by rw [isSubtype_type]; kernel_rfl) ?_)
  show wpAny _ A.in1 (typeOf (Value.str x t) >>= _) _ _ _
  refine wpAny_bind (wpAny_typeOf (T := "str") (v := .str x t) rfl ?_)
  refine wpAny_pure ?_
  rw [if_neg (by decide)]
  have hS1 := Heap.get?_push_of_some o hS
  refine wpAny_pure ⟨plainId_quiet F.plain_extend_loop _, codeAny_extend_loopS (W A.in1 hh).toS hn _ hSf _ x.cps.size 0 _ _ _ rfl (Nat.zero_le _) hst hS1 (ItemsOf.nil _) fun s' acc' c' hm hS' hacc => ?_⟩
  rw [Moved.eq_with hm]
  refine hR s'.heap s'.toks acc' c' (fun b ob hb e => hm.heap b ob (fun hmem => ?_) (Heap.get?_push_of_some _ e)) hS' hacc
  rcases List.mem_cons.mp hmem with e' | hmem
  · exact hb e'
  · exact absurd (Heap.lt_size e) (by rw [List.mem_singleton.mp hmem]; exact Nat.lt_irrefl _)
theorem list_init_text {R : Result → Shared → Prop} {x : Str} {t : Tok} (hh : A.handled = none) (hn : x.cps.size ≤ sizeLine) (S : Addr) (hS : s.heap.get? S = some { cls := .type "list", data := .seq #[] })
    (hR : ∀ h' tk acc' c', (∀ b o, b ≠ S → s.heap.get? b = some o → h'.get? b = some o) → h'.get? S = some { cls := .type "list", dict := none, data := .seq acc' c', slots := #[] } →
      ItemsOf (SignAt x) acc' x.cps.size → R (.ok (.ret .none)) { s with heap := h', toks := tk }) :
    wpAny (model prog w) A.in1 (Builtin.«list.__init__» ⟨[.ref S, .str x t], []⟩)
      (fun fin s' => match fin with | .done f => R (.ok f) s' | .again c' => c'.quiet = true ∧ codeAny (model prog w) A c' R s') (fun e s' => R (.error e) s') s := by
  show wpAny _ _ (do let old ← Builtin.List.listItems (.ref S); Builtin.List.listUpdate (.ref S) (fun _ => #[]); letGo old.toList.reverse; Builtin.List.listExtendWith (.ref S) (.str x t) .none) _ _ s
  refine wpAny_bind ?_
  unfold Builtin.List.listItems
  refine wpAny_bind (wpAny_seqItems hS rfl (wpAny_pure ?_))
  show wpAny _ _ (updateSeq S (fun _ => #[]) >>= fun _ => letGo (#[] : Array Value).toList.reverse >>= fun _ => Builtin.List.listExtendWith (.ref S) (.str x t) .none) _ _ s
  refine wpAny_bind (wpAny_updateSeq hS rfl ?_)
  have hS₂ := Heap.get?_update_self (Obj.mapSeq (fun _ => (#[] : Array Value))) hS rfl
  have oth : ∀ b o, b ≠ S → s.heap.get? b = some o → (s.heap.update S (Obj.mapSeq (fun _ => (#[] : Array Value)))).get? b = some o :=
    fun b o hb e => (Heap.get?_update_other _ _ (Ne.symm hb)).trans e
  refine wpAny_bind (wpAny_letGo ?_)
  refine extend_text hh hn S .none _ hS₂ fun h' tk acc' c' hk hS' hacc => ?_
  exact hR h' tk acc' c' (fun b o hb e => hk b o hb (oth b o hb e)) hS' hacc
theorem call_list_text {Q : Value → Shared → Prop} {x : Str} {t : Tok} (hh : A.handled = none) (hn : x.cps.size ≤ sizeLine)
    (hQ : ∀ h' tk acc' c', (∀ b o, s.heap.get? b = some o → h'.get? b = some o) →
      h'.get? s.heap.objs.size = some { cls := .type "list", dict := none, data := .seq acc' c', slots := #[] } → ItemsOf (SignAt x) acc' x.cps.size → Q (.ref s.heap.objs.size) { s with heap := h', toks := tk }) :
    wpAny (model prog w) A (call (.type "list") [.str x t]) Q E s := by
  refine callType_codes (Q₁ := fun obj s₁ => obj = .ref s.heap.objs.size ∧ s₁ = { s with heap := s.heap.push { cls := .type "list", data := .seq #[] } }) F.called_list (F.typeCall_list_1 _) F.entry_list_init
    (code_list_new _ ⟨rfl, rfl⟩) fun obj s₁ h₁ => ?_
  obtain ⟨rfl, rfl⟩ := h₁
  have hS : (s.heap.push { cls := .type "list", data := .seq #[] }).get? s.heap.objs.size = some { cls := .type "list", data := .seq #[] } := Heap.get?_push_size _ rfl
  refine ⟨⟨_, hS, rfl⟩, F.args_list_init_2 _ _, list_init_text (A := A.in1) hh hn _ hS fun h' tk acc' c' hk hS' hacc => ?_⟩
  exact ⟨rfl, hQ h' tk acc' c' (fun b o e => hk b o (Nat.ne_of_lt (Heap.lt_size e)) (Heap.get?_push_of_some _ e)) hS' hacc⟩
/-! ### tuple(reversed(a tuple)) -/
theorem nolen_rt : typeLookup (.type "reversed") "__len__" = pure none := by rw [typeLookup_type, builtinLookup_eq_fast]; kernel_rfl
theorem hint_rt : typeLookup (.type "reversed") "__length_hint__" = pure (some (.builtin "reversed.__length_hint__")) := by rw [typeLookup_type, builtinLookup_eq_fast]; kernel_rfl
theorem slot_rt_hint : Slot "reversed" "__length_hint__" "reversed.__length_hint__" :=
  .of (owner := "reversed") (n := "__length_hint__") hint_rt (by decide +kernel) (by decide +kernel) (by decide +kernel)
    (by first | exact .inl (by decide +kernel) | exact .inr (by decide +kernel)) (by rw [isSubtype_type]; kernel_rfl)
theorem entry_rt_hint : entryFor table "reversed.__length_hint__" = some Builtin.«reversed.__length_hint__» := entryFor_of_tree (by kernel_rfl)
theorem args_rt_hint (a : Value) : argsOk "reversed.__length_hint__" ⟨[a], []⟩ := by
  unfold argsOk; rw [signature?_of (id := "reversed.__length_hint__") (n := ['_', '_', 't', 'n', 'i', 'h', '_', 'h', 't', 'g', 'n', 'e', 'l', '_', '_']) (o := ['d', 'e', 's', 'r', 'e', 'v', 'e', 'r']) (by kernel_rfl) owner_rt]; kernel_rfl
theorem call_rt_hint {it l : Addr} {items : Array Value} {Q : Value → Shared → Prop} (hit : IsRt s.heap it l ((items.size : Int) - 1)) (hl : IsTup s.heap l items) (hn : items.size ≤ sizeLine)
    (hQ : ∀ t tk, Q (.int items.size t) { s with toks := tk }) : wpAny (model prog w) A (call (.builtin "reversed.__length_hint__") [.ref it]) Q E s := by
  obtain ⟨o, ho, hc, hd⟩ := id hit
  rw [sizeLine_eq] at hn
  refine wpAny_call_entry slot_rt_hint hit.typeIs entry_rt_hint ?_ (args_rt_hint _)
  unfold Builtin.«reversed.__length_hint__»
  refine wpAny_bind (wpAny_of_eq (a := Value.ref it) rfl ?_)
  refine wpAny_bind (wpAny_field ho hd (x := .ref l) rfl ?_)
  rw [if_neg (show ¬ ((Value.ref l == Value.none) = true) from by simp)]
  refine wpAny_bind (len_tuple hl (by omega) ?_)
  refine wpAny_bind (wpAny_of_eq (a := some ((items.size : Nat) : Int)) rfl ?_)
  refine wpAny_bind (wpAny_field (s := { s with toks := s.toks + 1 + 1 }) ho hd (x := rawInt ((items.size : Int) - 1)) rfl ?_)
  show wpAny _ _ (if ((items.size : Nat) : Int) < (items.size : Int) - 1 + 1 then _ else _) _ _ _
  rw [if_neg (by omega)]
  show wpAny _ _ (mkInt ((items.size : Int) - 1 + 1) >>= fun v => ret v) _ _ _
  refine wpAny_bind (wpAny_mkInt ?_)
  rw [show (items.size : Int) - 1 + 1 = items.size from by omega]
  exact wpAny_pure ⟨_, rfl, hQ _ _⟩
theorem hint_rt_ok {it l : Addr} {items : Array Value} {Q : Bool → Shared → Prop} (hit : IsRt s.heap it l ((items.size : Int) - 1)) (hl : IsTup s.heap l items) (hn : items.size ≤ sizeLine)
    (h : ∀ b tk, Q b { s with toks := tk }) : wpAny (model prog w) A (Builtin.List.listLengthHint (.ref it)) Q E s := by
  have hT : s.TypeIs (.ref it) "reversed" := hit.typeIs
  unfold Builtin.List.listLengthHint
  refine wpAny_bind (wpAny_specialOf hT nolen_rt ?_)
  show wpAny _ A (specialOf (Value.ref it) (Str.ofString "__length_hint__") >>= _) _ _ _
  refine wpAny_bind (wpAny_specialOf hT hint_rt ?_)
  generalize hid : ("reversed.__length_hint__" : String) = id0
  wp_delta
  rw [show splitId id0 = some ("reversed", "__length_hint__") from by subst hid; decide +kernel]
  subst hid
  refine wpAny_bind (wpAny_isInstance (b := true) hT (by rw [isSubtype_type]; kernel_rfl) ?_)
  rw [if_neg (by decide)]
  refine wpAny_ite_split (fun hab => absurd hab (by decide +kernel)) (fun _ => ?_)
  refine wpAny_bind (wpAny_rule ?_)
  refine wpAny_bind (wpAny_of_eq (slot_rt_hint.bind _) ?_)
  refine wpAny_bind (wpAny_attempt (call_rt_hint hit hl hn fun t tk => ?_))
  rw [sizeLine_eq] at hn
  have hfi : Builtin.List.listFitsIndex ((items.size : Nat) : Int) = true := by
    simp [Builtin.List.listFitsIndex]
    omega
  have htl : Builtin.List.listTooLong ((items.size : Int).toNat) = false := by
    unfold Builtin.List.listTooLong
    rw [sizeLine_eq]
    exact decide_eq_false (by omega)
  have hai : asInt? (Value.int ((items.size : Nat) : Int) t) = pure (some ((items.size : Nat) : Int)) := rfl
  have hle : ¬ ((items.size : Nat) : Int) < 0 := by omega
  generalize ((items.size : Nat) : Int) = n at hai hfi htl hle ⊢
  dsimp only
  rw [hai]
  refine wpAny_bind (wpAny_pure ?_)
  dsimp only
  rw [hfi, if_neg (by decide), if_neg hle, htl, if_neg (by decide)]
  exact wpAny_pure (h _ _)
theorem walks_rt {prog : Program} {w : World} {A : Around} (hh : A.handled = none) (I l : Addr) (hne : l ≠ I) (items : Array Value) (hn : items.size ≤ sizeLine) :
    Walks prog w A I [I, l] [I] items.size (fun i v => items[items.size - 1 - i]? = some v) (fun i h => i ≤ items.size ∧ IsRt h I l ((items.size : Int) - 1 - (i : Int)) ∧ IsTup h l items) where
  sub := fun b hb => by simp at hb; simp [hb]
  frame := fun _ _ _ x hk => ⟨x.1, x.2.1.at fun o e => hk I (by simp) o e, let ⟨o, ho, r⟩ := x.2.2; ⟨o, hk l (by simp) o ho, r⟩⟩
  item := fun i s Q E hi x hQ => by
    have e : (items.size : Int) - 1 - (i : Int) = ((items.size - 1 - i : Nat) : Int) := by omega
    have hit := x.2.1
    rw [e] at hit
    have hx : items[items.size - 1 - i]? = some (items[items.size - 1 - i]'(by omega)) := Array.getElem?_eq_getElem (by omega)
    refine next_rt_item hit x.2.2 hx hn fun h' hit' hs' => ?_
    have e2 : ((items.size - 1 - i : Nat) : Int) - 1 = (items.size : Int) - 1 - ((i + 1 : Nat) : Int) := by omega
    rw [e2] at hit'
    exact hQ _ h' (s.toks + 1) hx ⟨hi, hit', let ⟨o, ho, r⟩ := x.2.2; ⟨o, (hs'.2 l hne).trans ho, r⟩⟩ fun b o hb eo => hs'.extBut b o (fun h => hb (by simp [h])) eo
  done := fun s Q E x hQ => by
    have e : (items.size : Int) - 1 - (items.size : Int) = -1 := by omega
    have hit := x.2.1
    rw [e] at hit
    exact next_rt_end hh hit fun h' hx => hQ h' s.toks fun b o hb eo => hx b o (fun h => hb (by simp [h])) eo
  self := fun i s Q E x hq => iter_rt x.2.1 hq
theorem collect_rt {it l : Addr} {items : Array Value} {Q : List Value → Shared → Prop} (hh : A.handled = none) (hit : IsRt s.heap it l ((items.size : Int) - 1)) (hl : IsTup s.heap l items) (hne : l ≠ it) (hn : items.size ≤ sizeLine)
    (hQ : ∀ (h' : Heap) (tk : Nat) (acc : Array Value), (∀ b o, b ≠ it → s.heap.get? b = some o → h'.get? b = some o) → ItemsOf (fun i v => items[items.size - 1 - i]? = some v) acc items.size → Q acc.toList { s with heap := h', toks := tk }) :
    wpAny (model prog w) A (collect (.ref it)) Q E s := by
  have W := (walks_rt (prog := prog) (w := w) (A := A.in1) hh it l hne items hn).toS
  obtain ⟨oi, hoi, _⟩ := id hit
  obtain ⟨ol, hol, _⟩ := id hl
  have hSi : s.heap.objs.size ≠ it := Nat.ne_of_gt (Heap.lt_size hoi)
  have hSl : s.heap.objs.size ≠ l := Nat.ne_of_gt (Heap.lt_size hol)
  have hSf : s.heap.objs.size ∉ [it, l] := by simp only [List.mem_cons, List.not_mem_nil, or_false, not_or]; exact ⟨hSi, hSl⟩
  unfold collect
  refine wpAny_bind (wpAny_runValue (codeAny_builtin F.entry_proto_collect ?_))
  rw [Around.under_plainId F.plain_proto_collect _]
  show wpAny _ A.in1 (newList [] >>= fun l' => again (.builtin "list.__iadd__" ⟨[l', .ref it], []⟩)) _ _ s
  refine wpAny_bind (wpAny_newObj_type ?_)
  refine wpAny_pure ⟨plainId_quiet F.plain_list_iadd _, codeAny_builtin F.entry_list_iadd ?_⟩
  rw [Around.under_plainId F.plain_list_iadd _]
  have hS₁ : (s.heap.push { cls := .type "list", data := .seq ([] : List Value).toArray }).get? s.heap.objs.size = some { cls := .type "list", data := .seq ([] : List Value).toArray } := Heap.get?_push_size _ rfl
  have hit1 : IsRt (s.heap.push { cls := .type "list", data := .seq ([] : List Value).toArray }) it l ((items.size : Int) - 1) := hit.at fun o e => Heap.get?_push_of_some _ e
  have hl1 : IsTup (s.heap.push { cls := .type "list", data := .seq ([] : List Value).toArray }) l items := let ⟨o, ho, r⟩ := hl; ⟨o, Heap.get?_push_of_some _ ho, r⟩
  have hT : ({ s with heap := s.heap.push { cls := .type "list", data := .seq ([] : List Value).toArray } } : Shared).TypeIs (.ref it) "reversed" := IsRt.typeIs (s := { s with heap := s.heap.push { cls := .type "list", data := .seq ([] : List Value).toArray } }) hit1
  have h1 : Builtin.List.listSameRef (.ref s.heap.objs.size) (.ref it) = false := by simp [Builtin.List.listSameRef, hSi]
  show wpAny _ A.in1 (Builtin.List.listExtendWith (.ref s.heap.objs.size) (.ref it) (.ref s.heap.objs.size)) _ _ _
  unfold Builtin.List.listExtendWith
  refine wpAny_bind (wpAny_typeOf hT ?_)
  rw [if_neg (by rw [h1]; decide)]
  refine wpAny_bind (iter_rt (s := { s with heap := s.heap.push { cls := .type "list", data := .seq ([] : List Value).toArray } }) hit1 ?_)
  refine wpAny_bind (wpAny_holding ?_)
  refine hint_rt_ok (s := { s with heap := s.heap.push { cls := .type "list", data := .seq ([] : List Value).toArray } }) hit1 hl1 hn fun bb tk => ?_
  have e0 : ((items.size : Nat) : Int) - 1 - ((0 : Nat) : Int) = (items.size : Int) - 1 := by omega
  have go : ∀ (h : Heap) (c₁ : Nat) (R : Result → Shared → Prop), IsRt h it l ((items.size : Int) - 1) → IsTup h l items → (∀ b o, b ≠ s.heap.objs.size → (s.heap.push { cls := .type "list", data := .seq ([] : List Value).toArray }).get? b = some o → h.get? b = some o) →
      h.get? s.heap.objs.size = some { cls := .type "list", data := .seq #[] c₁ } →
      (∀ (h' : Heap) (tk' : Nat) (acc' : Array Value) (c' : Nat), (∀ b o, b ≠ it → s.heap.get? b = some o → h'.get? b = some o) → h'.get? s.heap.objs.size = some { cls := .type "list", dict := none, data := .seq acc' c', slots := #[] } → ItemsOf (fun i v => items[items.size - 1 - i]? = some v) acc' items.size →
        R (.ok (.ret (.ref s.heap.objs.size))) { s with heap := h', toks := tk' }) →
      codeAny (model prog w) A (.builtin "list.extend.loop" ⟨[.ref s.heap.objs.size, .ref it, .ref s.heap.objs.size], []⟩) R { s with heap := h, toks := tk } := by
    intro h c₁ R x1 x2 k x3 hR
    refine codeAny_extend_loopS W hn _ hSf _ items.size 0 _ _ _ rfl (Nat.zero_le _) ⟨Nat.zero_le _, by rw [e0]; exact x1, x2⟩ x3 (ItemsOf.nil _) fun s' acc' c' hm hS' hacc => ?_
    rw [Moved.eq_with hm]
    refine hR s'.heap s'.toks acc' c' (fun b o hb e => ?_) hS' hacc
    have hbS : b ≠ s.heap.objs.size := Nat.ne_of_lt (Heap.lt_size e)
    refine hm.heap b o (fun hmem => ?_) (k b o hbS (Heap.get?_push_of_some _ e))
    rcases List.mem_cons.mp hmem with e' | hmem
    · exact hbS e'
    · exact hb (List.mem_singleton.mp hmem)
  have fin : ∀ (h' : Heap) (tk' : Nat) (acc' : Array Value) (c' : Nat), (∀ b o, b ≠ it → s.heap.get? b = some o → h'.get? b = some o) → h'.get? s.heap.objs.size = some { cls := .type "list", dict := none, data := .seq acc' c', slots := #[] } → ItemsOf (fun i v => items[items.size - 1 - i]? = some v) acc' items.size →
      wpAny (model prog w) A (do
        let __do_lift ← load s.heap.objs.size
        match __do_lift.data with
          | Data.seq xs epoch => pure xs.toList
          | x => unsupported "internal:collect") Q E { s with heap := h', toks := tk' } := fun h' tk' acc' c' hk hS' hacc => wpAny_bind (wpAny_load hS' (wpAny_pure (hQ h' tk' acc' hk hacc)))
  refine wpAny_ite_split (fun _ => ?_) (fun _ => wpAny_pure ⟨plainId_quiet F.plain_extend_loop _, go _ _ _ hit1 hl1 (fun b o _ e => e) hS₁ fin⟩)
  refine wpAny_bind (wpAny_rule ?_)
  refine wpAny_bind ?_
  show wpAny _ _ (updateSeq s.heap.objs.size (·.push .none) >>= fun _ => updateSeq s.heap.objs.size (·.pop)) _ _ _
  refine wpAny_bind (wpAny_updateSeq hS₁ rfl ?_)
  have hS₂ := Heap.get?_update_self (Obj.mapSeq (·.push Value.none)) hS₁ rfl
  refine wpAny_updateSeq (hz := by seq_fits) hS₂ rfl ?_
  have hS₃ := Heap.get?_update_self (Obj.mapSeq (·.pop)) hS₂ rfl
  have other : ∀ b o, b ≠ s.heap.objs.size → (s.heap.push { cls := .type "list", data := .seq ([] : List Value).toArray }).get? b = some o → (((s.heap.push { cls := .type "list", data := .seq ([] : List Value).toArray }).update s.heap.objs.size (Obj.mapSeq (·.push Value.none))).update s.heap.objs.size (Obj.mapSeq (·.pop))).get? b = some o := fun b o hb e => (Heap.get?_update_other _ _ (Ne.symm hb)).trans ((Heap.get?_update_other _ _ (Ne.symm hb)).trans e)
  exact wpAny_pure ⟨plainId_quiet F.plain_extend_loop _, go _ _ _ (hit1.at fun o e => other it o (Ne.symm hSi) e) (let ⟨o, ho, r⟩ := hl1; ⟨o, other l o (Ne.symm hSl) ho, r⟩) other hS₃ fin⟩
theorem code_tuple_new_rt {it l : Addr} {items : Array Value} {Q₁ : Value → Shared → Prop} (hh : A.handled = none) (hit : IsRt s.heap it l ((items.size : Int) - 1)) (hl : IsTup s.heap l items) (hne : l ≠ it) (hn : items.size ≤ sizeLine)
    (h : ∀ (h' : Heap) (tk : Nat) (acc : Array Value), (∀ b o, b ≠ it → s.heap.get? b = some o → h'.get? b = some o) → ItemsOf (fun i v => items[items.size - 1 - i]? = some v) acc items.size →
      Q₁ (.ref h'.objs.size) { s with heap := h'.push { cls := .type "tuple", data := .seq acc }, toks := tk }) :
    codeAny (model prog w) A (.call (.builtin "tuple.__new__") ⟨[.type "tuple", .ref it], []⟩) (wants Q₁ E) s := by
  refine codeAny_of_tree ?_
  show wpAny _ A.in1 (do checkBuiltinCall "tuple.__new__" ⟨[.type "tuple", .ref it], []⟩; again (.builtin "tuple.__new__" ⟨[.type "tuple", .ref it], []⟩)) _ _ s
  refine wpAny_bind (wpAny_of_eq (F.newCall_tuple_1 _) (wpAny_pure ⟨plainId_quiet F.plain_tuple_new _, codeAny_builtin F.entry_tuple_new ?_⟩))
  rw [Around.under_plainId F.plain_tuple_new _]
  have hsub := sub_tuple_self
  have hinit := init_tuple_lookup
  have hmh := madeHere_tuple
  have hTI : s.TypeIs (.ref it) "reversed" := hit.typeIs
  have hh1 : A.in1.handled = none := hh
  wp_walk using wpAny_typeOf hTI, collect_rt (A := A.in1) hh1 hit hl hne hn
  intro h' tk acc hk hacc
  show wpAny _ _ (Builtin.Tuple.tupleExact acc.toList.toArray >>= fun v => ret v) _ _ _
  unfold Builtin.Tuple.tupleExact
  refine wpAny_bind (wpAny_newObj_type ?_ (by show acc.toList.toArray.size ≤ sizeLine; simp only [Array.toArray_toList]; rw [hacc.1]; exact hn))
  refine wpAny_pure ?_
  have e : acc.toList.toArray = acc := by simp
  rw [e]
  exact h h' tk acc hk hacc
theorem call_tuple_rt {it l : Addr} {items : Array Value} {Q : Value → Shared → Prop} (hh : A.handled = none) (hit : IsRt s.heap it l ((items.size : Int) - 1)) (hl : IsTup s.heap l items) (hne : l ≠ it) (hn : items.size ≤ sizeLine)
    (hQ : ∀ (h' : Heap) (tk : Nat) (acc : Array Value), (∀ b o, b ≠ it → s.heap.get? b = some o → h'.get? b = some o) → ItemsOf (fun i v => items[items.size - 1 - i]? = some v) acc items.size →
      Q (.ref h'.objs.size) { s with heap := h'.push { cls := .type "tuple", data := .seq acc }, toks := tk }) :
    wpAny (model prog w) A (call (.type "tuple") [.ref it]) Q E s := by
  refine callType_codes (Q₁ := fun obj s₁ => s₁.TypeIs obj "tuple" ∧ Q obj s₁) F.called_tuple (F.typeCall_tuple_1 _) F.entry_object_init
    (code_tuple_new_rt (A := A.in1) hh hit hl hne hn fun h' tk acc hk hacc => ⟨⟨_, Heap.get?_push_size _ rfl, rfl⟩, hQ h' tk acc hk hacc⟩) fun obj s₁ h₁ => ?_
  exact ⟨h₁.1, F.args_object_init_2 obj _, object_init_meets F.called_tuple.init.lookup F.called_tuple.made (by decide) prog w A.in1 _ s₁ ⟨h₁.1, rfl, h₁.2⟩⟩
end
end Fn
end
section
set_option Elab.async false
set_option linter.all false
set_option maxRecDepth 100000
set_option maxHeartbeats 4000000
namespace Fn
open PySem PySem.Spec PyProof.Rows L2 LamX
/-! ### list(text), tuple(text), list(range(n)), tuple(reversed(t)) -/
def signsV (z : Str) : List V := z.cps.toList.map fun c => V.str ⟨#[c]⟩
def signsD (z : Str) : List D := z.cps.toList.map fun c => D.str ⟨#[c]⟩
theorem vals_signs {z : Str} {acc : Array Value} (h : ItemsOf (SignAt z) acc z.cps.size) : Vals (signsV z) acc.toList := by
  have hs : acc.toList.length = z.cps.toList.length := by rw [Array.length_toList, Array.length_toList]; exact h.1
  have key : ∀ (cs : List Nat) (us : List Value), us.length = cs.length → (∀ (i : Nat) (u : Value), us[i]? = some u → ∃ (c : Nat) (t : Tok), cs[i]? = some c ∧ u = Value.str ⟨#[c]⟩ t) → Vals (cs.map fun c => V.str ⟨#[c]⟩) us := by
    intro cs
    induction cs with
    | nil =>
      intro us hl _
      cases us with
      | nil => exact .nil
      | cons _ _ => simp at hl
    | cons c cs ih =>
      intro us hl hu
      cases us with
      | nil => simp at hl
      | cons u us =>
        obtain ⟨c', t, e1, e2⟩ := hu 0 u rfl
        cases e1
        refine .cons ⟨t, e2⟩ (ih us (by simpa using hl) fun i u' e => ?_)
        obtain ⟨c', t, e1, e2⟩ := hu (i + 1) u' (by simpa using e)
        exact ⟨c', t, by simpa using e1, e2⟩
  refine key _ _ hs fun i u e => ?_
  obtain ⟨c, t, e1, e2⟩ := h.2 i u (by rw [← e, Array.getElem?_toList])
  exact ⟨c, t, by rw [← e1, Array.getElem?_toList], e2⟩
section
variable {X : Cx} {T : TB} {W : WX} {m m' : List Addr} {H H' : Hp} {st st' : Sto} {env : Ev} {σ : L2.St} {pos : Pos}
theorem rep_signs {K : PySem.W.Frag} {mg : Str → Option Value} {z : Str} : RepVs K mg m H (signsD z) (signsV z) := by
  unfold signsD signsV
  induction z.cps.toList with
  | nil => exact .nil
  | cons c r ih => exact .cons (.str _) ih
theorem call_listS (hc : X.calm = true) : CallR X (.type "list") (fun xs H Q => ∃ z, xs = [.str z] ∧ z.cps.size ≤ sizeLine ∧ ∀ l, H l = none → Q (.ref l) (upd H l (.lst (signsV z)))) := by
  intro pins s σ H xs us Q I r h
  obtain ⟨z, rfl, hz, q⟩ := h
  obtain ⟨u, rfl, t, rfl⟩ := vals1 r
  refine call_list_text (I.ok.hd hc) hz fun h' tk acc c hk hS hi => ?_
  refine ⟨.ref s.heap.objs.size, upd H s.heap.objs.size (.lst (signsV z)), I.laid hk (Nat.le_refl _) (show ObjOk X.prog X.w _ _ _ (.lst (signsV z)) from ⟨?_, acc.toList, c, vals_signs hi, by rw [Array.toArray_toList]; exact hS⟩), rfl, q _ (I.hok.fresh (Nat.le_refl _))⟩
  unfold signsV
  rw [List.length_map, Array.length_toList]
  exact hz
theorem call_tupleS (hc : X.calm = true) : CallR X (.type "tuple") (fun xs H Q => ∃ z, xs = [.str z] ∧ z.cps.size ≤ sizeLine ∧ ∀ l, H l = none → Q (.ref l) (upd H l (.tup (signsV z)))) := by
  intro pins s σ H xs us Q I r h
  obtain ⟨z, rfl, hz, q⟩ := h
  obtain ⟨u, rfl, t, rfl⟩ := vals1 r
  refine call_tuple_str (I.ok.hd hc) z t (fun h' tk acc hk hi => ?_) hz
  have I1 : Inv X pins σ H { s with heap := h', toks := tk } := I.kept hk
  refine ⟨.ref h'.objs.size, upd H h'.objs.size (.tup (signsV z)), I1.laid (t' := tk) (fun b o e => Heap.get?_push_of_some _ e) (Nat.le_refl _) (show ObjOk X.prog X.w _ _ _ (.tup (signsV z)) from ⟨?_, acc.toList, vals_signs hi, by rw [Array.toArray_toList]; exact IsTup.new _ _⟩), rfl, q _ (I1.hok.fresh (Nat.le_refl _))⟩
  unfold signsV
  rw [List.length_map, Array.length_toList]
  exact hz
def gListA (xs : List D) (st : Sto) : R D := match xs with
  | [.str z] => if z.cps.size ≤ lineN then .ok (.ref st.length) (st ++ [.lst (signsD z)]) else .bad
  | xs => gList1 xs st
def gTupleA (xs : List D) (st : Sto) : R D := match xs with
  | [.str z] => if z.cps.size ≤ lineN then .ok (.tup (signsD z)) st else .bad
  | xs => gTuple1 xs st
theorem callR_or {f : Value} {r r' : List V → Hp → VK → Prop} (h : CallR X f r) (h' : CallR X f r') : CallR X f (fun xs H Q => r xs H Q ∨ r' xs H Q) := fun pins s σ H xs us Q I v q => q.elim (h pins s σ H xs us Q I v) (h' pins s σ H xs us Q I v)
theorem cd_listA : CallD X T (fun xs H Q => (∃ z, xs = [.str z] ∧ z.cps.size ≤ sizeLine ∧ ∀ l, H l = none → Q (.ref l) (upd H l (.lst (signsV z)))) ∨ ∃ p ys, xs = [.ref p] ∧ (SqL X.K H p ys ∨ SqT X.K H p ys) ∧ ∀ l, H l = none → Q (.ref l) (upd H l (.lst ys))) gListA := by
  intro E m H st xs vs Q s r h
  unfold gListA at h
  split at h
  · rename_i z
    obtain ⟨v, rfl, rv⟩ := r.oneL
    cases rv
    split at h
    · rename_i hl
      exact .inl ⟨z, rfl, by rw [line_eq]; exact hl, fun l nl => after_lst s h rep_signs l nl⟩
    · exact h.elim
  · exact .inr (cd_list s r h)
theorem cd_tupleA : CallD X T (fun xs H Q => (∃ z, xs = [.str z] ∧ z.cps.size ≤ sizeLine ∧ ∀ l, H l = none → Q (.ref l) (upd H l (.tup (signsV z)))) ∨ ∃ p ys, xs = [.ref p] ∧ ((SqL X.K H p ys ∧ ∀ l, H l = none → Q (.ref l) (upd H l (.tup ys))) ∨ (SqT X.K H p ys ∧ Q (.ref p) H))) gTupleA := by
  intro E m H st xs vs Q s r h
  unfold gTupleA at h
  split at h
  · rename_i z
    obtain ⟨v, rfl, rv⟩ := r.oneL
    cases rv
    split at h
    · rename_i hl
      exact .inl ⟨z, rfl, by rw [line_eq]; exact hl, fun l nl => after_tup s h rep_signs l nl⟩
    · exact h.elim
  · exact .inr (cd_tuple s r h)
theorem call_listB (hc : X.calm = true) : CallR X (.type "list") (fun xs H Q => (∃ z, xs = [.str z] ∧ z.cps.size ≤ sizeLine ∧ ∀ l, H l = none → Q (.ref l) (upd H l (.lst (signsV z)))) ∨ ∃ p ys, xs = [.ref p] ∧ (SqL X.K H p ys ∨ SqT X.K H p ys) ∧ ∀ l, H l = none → Q (.ref l) (upd H l (.lst ys))) := callR_or (call_listS (X := X) hc) call_list_of
theorem call_tupleB (hc : X.calm = true) : CallR X (.type "tuple") (fun xs H Q => (∃ z, xs = [.str z] ∧ z.cps.size ≤ sizeLine ∧ ∀ l, H l = none → Q (.ref l) (upd H l (.tup (signsV z)))) ∨ ∃ p ys, xs = [.ref p] ∧ ((SqL X.K H p ys ∧ ∀ l, H l = none → Q (.ref l) (upd H l (.tup ys))) ∨ (SqT X.K H p ys ∧ Q (.ref p) H))) := callR_or (call_tupleS (X := X) hc) call_tuple_of
/-! ### list(range(n)) -/
def gListRg (d : D) (st : Sto) : R D := match d with
  | .int n => if n ≤ 16777216 ∧ -16777216 ≤ n then .ok (.ref st.length) (st ++ [.lst (rngD 0 n.toNat)]) else .bad
  | _ => .bad
def gTupRg (d : D) (st : Sto) : R D := match d with
  | .int n => if n ≤ 16777216 ∧ -16777216 ≤ n then .ok (.tup (rngD 0 n.toNat)) st else .bad
  | _ => .bad
def d1 (g : D → Sto → R D) (f : DE) : DE := fun env st => (f env st).bind g
theorem rep_rng {K : PySem.W.Frag} {mg : Str → Option Value} {n : Int} : RepVs K mg m H (rngD 0 n.toNat) (rgV 0 n) := by
  unfold rngD rgV
  rw [Int.sub_zero]
  induction List.range n.toNat with
  | nil => exact .nil
  | cons c r ih => exact .cons (.int _) ih
theorem fe_listRg {e : Expr} {f : DE} {k : Nat} {p p2 pos2 : Pos} (o : Ok X W k) (hm : X.mg "list" = none) (hm2 : X.mg "range" = none) (he : FE X T W e f) (hg : Gl X "list" := by rfl) (hg2 : Gl X "range" := by rfl)
    (hs2 : starEach [e] X.env = (false, eval e X.env) :: starEach [] X.env := by rfl)
    (hs : starEach [.Call (.Name "range" p2) [e] [] pos2] X.env = (false, eval (.Call (.Name "range" p2) [e] [] pos2) X.env) :: starEach [] X.env := by rfl) : FE X T W (.Call (.Name "list" p) [.Call (.Name "range" p2) [e] [] pos2] [] pos) (d1 gListRg f) := by
  refine PE.imp (pe_listRg o.calm hg hm (prg_1 hg2 hm2 he hs2) hs) fun σ H Q ⟨m, env, st, a, h⟩ => tE_to a h fun m1 H1 d st1 v a1 p1 g1 r1 h1 => ?_
  cases r1 with
  | int n =>
    simp only [gListRg] at h1
    split at h1
    · rename_i hl
      exact ⟨n, rfl, ⟨by omega, by omega, by omega, by omega, by omega⟩, fun q hq => after_lst a1.s h1 rep_rng q hq⟩
    · exact h1.elim
  | _ => exact h1.elim
theorem fe_tupRg {e : Expr} {f : DE} {k : Nat} {p p2 pos2 : Pos} (o : Ok X W k) (hm : X.mg "tuple" = none) (hm2 : X.mg "range" = none) (he : FE X T W e f) (hg : Gl X "tuple" := by rfl) (hg2 : Gl X "range" := by rfl)
    (hs2 : starEach [e] X.env = (false, eval e X.env) :: starEach [] X.env := by rfl)
    (hs : starEach [.Call (.Name "range" p2) [e] [] pos2] X.env = (false, eval (.Call (.Name "range" p2) [e] [] pos2) X.env) :: starEach [] X.env := by rfl) : FE X T W (.Call (.Name "tuple" p) [.Call (.Name "range" p2) [e] [] pos2] [] pos) (d1 gTupRg f) := by
  refine PE.imp (pe_tupRg o.calm hg hm (prg_1 hg2 hm2 he hs2) hs) fun σ H Q ⟨m, env, st, a, h⟩ => tE_to a h fun m1 H1 d st1 v a1 p1 g1 r1 h1 => ?_
  cases r1 with
  | int n =>
    simp only [gTupRg] at h1
    split at h1
    · rename_i hl
      exact ⟨n, rfl, ⟨by omega, by omega, by omega, by omega, by omega⟩, fun q hq => after_tup a1.s h1 rep_rng q hq⟩
    · exact h1.elim
  | _ => exact h1.elim
/-! ### tuple(reversed(t)), t a tuple -/
theorem pe_tupRevT {e : Expr} {te : TE} {p p2 pos pos2 : Pos} (hc : X.calm = true) (hg : Gl X "tuple") (hm : X.mg "tuple" = none) (hg2 : Gl X "reversed") (hm2 : X.mg "reversed" = none) (he : PE X e te)
    (hs : starEach [e] X.env = (false, eval e X.env) :: starEach [] X.env := by rfl)
    (hs2 : starEach [.Call (.Name "reversed" p2) [e] [] pos2] X.env = (false, eval (.Call (.Name "reversed" p2) [e] [] pos2) X.env) :: starEach [] X.env := by rfl) :
    PE X (.Call (.Name "tuple" p) [.Call (.Name "reversed" p2) [e] [] pos2] [] pos) (fun σ H Q => te σ H fun v H1 => ∃ (a : Addr) (xs : List V), v = .ref a ∧ SqT X.K H1 a xs ∧ ∀ q, H1 q = none → Q (.ref q) (upd H1 q (.tup xs.reverse))) := by
  refine ⟨fun pins s σ H Q I h => ?_⟩
  refine Call_ (ld_blt I hg hm boot_tuple (PyProof.Rows.callWith_type1 (args_cons (Call_ (ld_blt I hg2 hm2 PyProof.Rows.boot_reversed (PyProof.Rows.callWith_type1 (args_cons (thn (he.run pins s σ H _ I h) fun u s1 ⟨v, H1, I1, r1, q1⟩ => args_nil ?_) hs) hs rfl))) hs2) hs2 rfl))
  obtain ⟨a, xs, ev, hq, q⟩ := q1
  subst ev
  obtain rfl : u = Value.ref a := r1
  obtain ⟨its, rv, p', hz⟩ := I1.tuple hq
  have hl := rv.length
  have hn63 := line63
  have hn : its.toArray.size ≤ sizeLine := by rw [List.size_toArray, ← hl]; exact hz
  refine RT.call_reversed_tup p' (fun A E Q k => len_tuple p' (by simp only [List.size_toArray] <;> omega) k) (args_nil ?_)
  have k0 : ∀ b o, s1.heap.get? b = some o → (s1.heap.push (RT.rtObj a ((its.toArray.size : Int) - 1))).get? b = some o := fun b o e => Heap.get?_push_of_some _ e
  have I2 : Inv X pins σ H1 { s1 with heap := s1.heap.push (RT.rtObj a ((its.toArray.size : Int) - 1)), toks := s1.toks + 1 + 1 } := I1.kept (t' := s1.toks + 1 + 1) k0
  obtain ⟨f0, f1, f2, f3, f4, f5⟩ := I1.fpOk (H' := H1) (b := s1.heap.objs.size) (Nat.le_refl _) (I1.hok.fresh (Nat.le_refl _))
  obtain ⟨ol, hol, _⟩ := id p'
  have hne : a ≠ s1.heap.objs.size := Nat.ne_of_lt (Heap.lt_size hol)
  refine call_tuple_rt (s := { s1 with heap := s1.heap.push (RT.rtObj a ((its.toArray.size : Int) - 1)), toks := s1.toks + 1 + 1 }) (I1.ok.hd hc) ⟨_, Heap.get?_push_size _ rfl, rfl, rfl⟩ (let ⟨o, ho, r⟩ := p'; ⟨o, k0 _ _ ho, r⟩) hne hn fun h' tk acc hk hi => ?_
  have I3 : Inv X pins σ H1 { s1 with heap := h', toks := tk } := I2.turned (t' := tk) (fun b o hb e => hk b o hb e) f0 f1 f3 f4 f5
  refine ⟨.ref h'.objs.size, upd H1 h'.objs.size (.tup xs.reverse), I3.laid (t' := tk) (fun c o e => Heap.get?_push_of_some _ e) (Nat.le_refl _) (show ObjOk X.prog X.w _ _ _ (.tup xs.reverse) from ⟨by rw [List.length_reverse]; exact hz, acc.toList, RT.vals_rev rv hi, ?_⟩), rfl, q _ (I3.hok.fresh (Nat.le_refl _))⟩
  rw [Array.toArray_toList]
  exact IsTup.new _ _
def gTupRev (d : D) (st : Sto) : R D := match d with
  | .tup ds => .ok (.tup ds.reverse) st
  | _ => .bad
theorem fe_tupRev {e : Expr} {f : DE} {k : Nat} {p p2 pos2 : Pos} (o : Ok X W k) (hm : X.mg "tuple" = none) (hm2 : X.mg "reversed" = none) (he : FE X T W e f) (hg : Gl X "tuple" := by rfl) (hg2 : Gl X "reversed" := by rfl)
    (hs : starEach [e] X.env = (false, eval e X.env) :: starEach [] X.env := by rfl)
    (hs2 : starEach [.Call (.Name "reversed" p2) [e] [] pos2] X.env = (false, eval (.Call (.Name "reversed" p2) [e] [] pos2) X.env) :: starEach [] X.env := by rfl) : FE X T W (.Call (.Name "tuple" p) [.Call (.Name "reversed" p2) [e] [] pos2] [] pos) (d1 gTupRev f) := by
  refine PE.imp (pe_tupRevT o.calm hg hm hg2 hm2 he hs hs2) fun σ H Q ⟨m, env, st, a, h⟩ => tE_to a h fun m1 H1 d st1 v a1 p1 g1 r1 h1 => ?_
  cases r1 with
  | tup hp r => exact ⟨_, _, rfl, hp, fun q hq => after_tup a1.s h1 r.rev q hq⟩
  | _ => exact h1.elim
/-! ### -e, the ints' sign; three names at once; keyword calls -/
def gNeg (d : D) (st : Sto) : R D := match d with
  | .int n => .ok (.int (-n)) st
  | _ => .bad
theorem fe_neg {e : Expr} {f : DE} (he : FE X T W e f) : FE X T W (.UnaryOp .USub e pos) (d1 gNeg f) := by
  refine PE.imp (pe_un un_neg he) fun σ H Q ⟨m, env, st, a, h⟩ => tE_to a h fun m1 H1 d st1 v a1 p1 g1 r1 h1 => ?_
  cases r1 with
  | int n => exact ⟨n, rfl, after_same a1.s h1 (.int _)⟩
  | _ => exact h1.elim
theorem fs_par3 {i j l : Nat} {x y z : Str} {a b c : Expr} {ga : DA} {px py pz pt : Pos} {kt k2 pt2} (hc : X.calm = true) (hN : X.N.Nodup) (ha : FA X T W [a, b, c] ga) (hi : X.N[i]? = some x := by rfl) (hj : X.N[j]? = some y := by rfl) (hl : X.N[l]? = some z := by rfl)
    (hij : i ≠ j := by decide) (hil : i ≠ l := by decide) (hjl : j ≠ l := by decide)
    (hx : X.env.scope.names.lookup x = some .local := by rfl) (hy : X.env.scope.names.lookup y = some .local := by rfl) (hz : X.env.scope.names.lookup z = some .local := by rfl)
    (hw : swappedStores [.Tuple [.Name x px, .Name y py, .Name z pz] kt pt] (.Tuple [a, b, c] k2 pt2) X.env = pure (some [x, y, z]) := by rfl)
    (hs : swapsWithSole [.Tuple [.Name x px, .Name y py, .Name z pz] kt pt] (.Tuple [a, b, c] k2 pt2) pos.line X.env = pure false := by rfl) :
    FS X T W (.Assign [.Tuple [.Name x px, .Name y py, .Name z pz] kt pt] (.Tuple [a, b, c] k2 pt2) pos) (sPar [i, j, l] ga) := by
  refine PS.imp (ps_par3 hc hN hi hj hl hij hil hjl hx hy hz ha hw hs) fun D σ H ⟨m, env, st, a, h⟩ => tA_into a h fun m1 H1 ds st1 vs a1 p1 g1 r1 h1 => ?_
  split at h1
  · rename_i hl
    match ds, hl, r1, h1 with
    | [d1, d2, d3], _, .cons q1 (.cons q2 (.cons q3 .nil)), h1 => exact ⟨_, _, _, rfl, h1 m1 H1 (List.prefix_refl _) (Grow.refl _) a1.s _ (((a1.e.set q1).set q2).set q3)⟩
  · exact h1.elim
/-- f(k = v, ..), no positional values; the parameters' order out of the keywords' -/
def FK (X : Cx) (T : TB) (W : WX) (kws : List Keyword) (f : DA) : Prop := PK X kws (tA X.K X.mg T W f)
theorem pk_imp {kws : List Keyword} {t t' : TA} (h : PK X kws t) (i : ∀ σ H Q, t' σ H Q → t σ H Q) : PK X kws t' := ⟨fun pos pins s σ H Q I w => h.run pos pins s σ H Q I (i σ H Q w)⟩
theorem fk_nil : FK X T W [] aNil := pk_imp pk_nil fun σ H Q ⟨m, env, st, a, h⟩ => h m H (List.prefix_refl _) (Grow.refl _) a.s [] .nil
theorem fk_cons {nm : Option Str} {e : Expr} {kpos : Pos} {kws : List Keyword} {f : DE} {g : DA} (ha : FE X T W e f) (hr : FK X T W kws g) : FK X T W (⟨nm, e, kpos⟩ :: kws) (aCons f g) := by
  refine pk_imp (pk_cons ha hr) fun σ H Q ⟨m, env, st, a, h⟩ => ?_
  exact tE_to a h fun m1 H1 d st1 v a1 p1 g1 r1 h1 => tA_to a1 h1 fun m2 H2 ds st2 vs a2 p2 g2 r2 h2 => h2 m2 H2 (List.prefix_refl _) (Grow.refl _) a2.s _ (.cons (r1.mono p2 g2) r2)
/-- the keyword values' places in the parameters' order -/
structure KwB (K : PySem.W.Frag) (fd : FuncData) (ps ks : List Str) (perm : List Nat) : Prop where
  to : ∀ (s : Shared) (ws : List Value), K.In s.heap → ws.length = ks.length → BindsTo s fd ⟨[], ks.zip ws⟩ (ps.zip (perm.filterMap fun i => ws[i]?))
def permD (perm : List Nat) (ds : List D) : List D := perm.filterMap fun i => ds[i]?
theorem perm_rep {K : PySem.W.Frag} {mg : Str → Option Value} {ds : List D} {vs : List V} (r : RepVs K mg m H ds vs) : ∀ perm : List Nat, RepVs K mg m H (permD perm ds) (perm.filterMap fun i => vs[i]?)
  | [] => .nil
  | i :: p => by
    unfold permD
    rw [List.filterMap_cons, List.filterMap_cons]
    cases e : ds[i]? with
    | none =>
      have hl := r.length
      rw [List.getElem?_eq_none_iff] at e
      rw [show vs[i]? = none from List.getElem?_eq_none_iff.mpr (by omega)]
      exact perm_rep r p
    | some d =>
      obtain ⟨v, h1, h2⟩ := r.get e
      rw [h1]
      exact .cons h2 (perm_rep r p)
theorem perm_vals {vs : List V} {us : List Value} (r : Vals vs us) : ∀ perm : List Nat, Vals (perm.filterMap fun i => vs[i]?) (perm.filterMap fun i => us[i]?)
  | [] => .nil
  | i :: p => by
    rw [List.filterMap_cons, List.filterMap_cons]
    have hl := r.length
    cases e : vs[i]? with
    | none =>
      rw [List.getElem?_eq_none_iff] at e
      rw [show us[i]? = none from List.getElem?_eq_none_iff.mpr (by omega)]
      exact perm_vals r p
    | some v =>
      obtain ⟨u, h1, h2⟩ : ∃ u, us[i]? = some u ∧ RelV v u := by
        clear hl
        induction r generalizing i with
        | nil => simp at e
        | cons a t ih =>
          cases i with
          | zero => simp at e; subst e; exact ⟨_, rfl, a⟩
          | succ i => exact ih i (by simpa using e)
      rw [h1]
      exact .cons h2 (perm_vals r p)
theorem fe_callKw {k k' : Nat} {x : Str} {f : Addr} {fd : FuncData} {ps ks : List Str} {perm : List Nat} {g : List D → Sto → R D} {kws : List Keyword} {fa : DA} {p : Pos} (F : DefOk X.prog X.w X.K X.mg X.base T k x f fd ps U0 g) (o : Ok X W k') (B : KwB X.K fd ps ks perm) (hkw : FK X T W kws fa)
    (hn : ∀ env st ds st', fa env st = .ok ds st' → ds.length = ks.length) (hp : ∀ ds : List D, ds.length = ks.length → (permD perm ds).length = ps.length) (hk : k ≤ k' := by decide)
    (hall : (backToKw pos (keywordEach kws X.env)).all (·.1.isSome) = true := by rfl) (hks : (backToKw pos (keywordEach kws X.env)).filterMap (·.1) = ks := by rfl) (hg : Gl X x := by rfl) (hdb : (x == ("__debug__" : Str)) = false := by decide)
    (hpl : ((backTo pos (starEach [] X.env)).any (·.1) || (backToKw pos (keywordEach kws X.env)).any (·.1.isNone)) = false := by rfl) :
    FE X T W (.Call (.Name x p) [] kws pos) (fun env st => (fa env st).bind fun ds s1 => g (permD perm ds) s1) := by
  refine ⟨fun pins s σ H Q I ⟨m, env, st, a, h⟩ => ?_⟩
  refine wpAny_Call_Name_kw (ld_glob I hg F.at_ ?_ hdb)
  refine PySem.W.callWith_KW0 (h₀ := X.base) I.ok.mod.kin F.kp hall ?_ hpl
  have e1 := hn env st
  refine thn (hkw.run pos pins s σ H (fun vs H1 => ∃ m1 ds st1, fa env st = .ok ds st1 ∧ At X.K X.mg T m1 env st1 σ H1 ∧ RepVs X.K X.mg m1 H1 ds vs ∧ After X.K X.mg T (wAt W σ) m1 H1 (g (permD perm ds) st1) (kE X.K X.mg Q)) I ⟨m, env, st, a, ?_⟩) fun ws s2 ⟨zs, H2, I2, rz, m1, ds, st1, ef, a1, r1, h1⟩ => ⟨I2.kIn, ?_⟩
  · dsimp only at h
    cases ef : fa env st with
    | ok ds s1 =>
      rw [ef] at h
      exact fun m1 H1 p1 g1 s1' vs r1 => ⟨m1, ds, s1, rfl, a.mono p1 g1 s1', r1, After.mono (r := g (permD perm ds) s1) p1 g1 h⟩
    | exc x s1 => rw [ef] at h; exact h
    | bad => rw [ef] at h; exact h
  · rw [hks]
    have hl := e1 ds st1 ef
    have hlw : ws.length = ks.length := by rw [← rz.length, ← r1.length]; exact hl
    have hl2 := hp ds hl
    refine wpAny_call (codeAny_mono (F.ok.run X.A X.stack s2 H2 ⟨[], ks.zip ws⟩ _ _ Q (wAt W σ) (o.room.mono hk) o.gd I2.env0 (B.to s2 ws I2.kIn hlw) (perm_vals rz perm) trivial ⟨by rw [← (perm_rep r1 perm).length]; exact hl2, m1, permD perm ds, st1, perm_rep r1 perm, a1.s, h1⟩) fun r s' hq => ?_)
    match r, hq with
    | .error e, hq => exact o.tk e s' (XE.of_call I2 (fun _ _ _ h => h) hq)
    | .ok (.ret u), hq => exact I2.after hq
end
end Fn
end
section
set_option Elab.async false
set_option linter.all false
set_option maxRecDepth 100000
set_option maxHeartbeats 4000000
namespace Fn
open PySem PySem.Spec PyProof.Rows L2 LamX
/-! ### == of two texts, of whatever length and signs; of data -/
def rEqW (K : PySem.W.Frag) : R2 := fun x y H Q => (∃ a b : Str, x = .str a ∧ y = .str b ∧ Q (.bl (decide (a = b))) H) ∨ rEqD K x y H Q
def rNeW (K : PySem.W.Frag) : R2 := fun x y H Q => (∃ a b : Str, x = .str a ∧ y = .str b ∧ Q (.bl (!decide (a = b))) H) ∨ rNeD K x y H Q
def gEqW (neg : Bool) (x y : D) (st : Sto) : R D := match x, y with
  | .str a, .str b => .ok (.bl (if neg then !decide (a = b) else decide (a = b))) st
  | x, y => gEqv neg x y st
section
variable {X : Cx} {T : TB}
theorem dec_st (a b : Str) : decide (V.str a = V.str b) = decide (a = b) := by
  rw [Bool.eq_iff_iff]
  simp
theorem op_eqW (hu : X.A.units + 64 < cLine) : OpR X (compareOp .Eq) (rEqW X.K) := by
  intro pins s σ H x y v u Q I rx ry h
  rcases h with ⟨a, b, rfl, rfl, q⟩ | h
  · exact op_eq pins s σ H _ _ v u Q I rx ry ⟨rfl, by rw [dec_st]; exact q⟩
  · exact op_eqD hu pins s σ H x y v u Q I rx ry h
theorem op_neW (hu : X.A.units + 64 < cLine) : OpR X (compareOp .NotEq) (rNeW X.K) := by
  intro pins s σ H x y v u Q I rx ry h
  rcases h with ⟨a, b, rfl, rfl, q⟩ | h
  · exact op_ne pins s σ H _ _ v u Q I rx ry ⟨rfl, by rw [dec_st]; exact q⟩
  · exact op_neD hu pins s σ H x y v u Q I rx ry h
theorem od_eqW : OpD X T (rEqW X.K) (gEqW false) := by
  intro E m H st x y v w Q s rx ry h
  unfold gEqW at h
  split at h
  · cases rx
    cases ry
    exact .inl ⟨_, _, rfl, rfl, after_same s h (.bl _)⟩
  · exact .inr (od_eq s rx ry h)
theorem od_neW : OpD X T (rNeW X.K) (gEqW true) := by
  intro E m H st x y v w Q s rx ry h
  unfold gEqW at h
  split at h
  · cases rx
    cases ry
    exact .inl ⟨_, _, rfl, rfl, after_same s h (.bl _)⟩
  · exact .inr (od_ne s rx ry h)
end
end Fn
end
section
set_option Elab.async false
set_option linter.all false
set_option maxRecDepth 100000
set_option maxHeartbeats 4000000
/-! The end of a law row for a promise of data (DefOk) that asks that no repr is going on. -/
namespace Fn
open PySem PySem.Spec PyProof.Rows L2 LamX
theorem grow_none (H : Hp) : Grow (fun _ => none) H := by
  refine ⟨fun p xs h => ?_, fun p ob u h => ?_, fun p φ h => ?_⟩
  · rcases h with h | ⟨o, h⟩ <;> cases h
  · cases h
  · cases h
theorem repVs_ints {K : PySem.W.Frag} {mg : Str → Option Value} {m : List Addr} {H : Hp} : ∀ ns : List Int, RepVs K mg m H (ns.map D.int) (ns.map V.int)
  | [] => .nil
  | n :: r => .cons (.int n) (repVs_ints r)
/-- the law comes to True -/
def LawTrue (gl : List D → Sto → R D) (ns : List Int) : Prop := ∃ st, gl [.lst (ns.map .int)] [] = .ok (.bl true) st
section
variable {P : Program} {w : World} {K : PySem.W.Frag} {mg mb : Str → Option Value} {k : Nat} {fa a : Addr} {cs : List (Addr × Addr)} {tb : List (Addr × Str)} {fd : FuncData} {x : Str} {s₁ : Shared} {vs : List Value} {ns : List Int} {gl : List D → Sto → R D}
theorem spec_law {H : Hp} (hgl : LawTrue gl ns) (hs : SqK K H a (ns.map V.int)) (ht : Tabs tb H) : spOf K mg ⟨tb, [], fun _ => none⟩ 1 gl [.ref a] H (fun v _ => v = .bl true) fun _ _ _ => False := by
  obtain ⟨st, e⟩ := hgl
  have rv : RepVs K mg [] H [D.lst (ns.map .int)] [V.ref a] := .cons (.lst hs (repVs_ints ns)) .nil
  refine ⟨rfl, [], [.lst (ns.map .int)], [], rv, ⟨rfl, List.nodup_nil, fun i o b z => by simp at z, ht, List.prefix_refl _, grow_none H⟩, ?_⟩
  rw [e]
  intro m' H' p g s v r
  cases r
  rfl
/-- what may be tracked as the law is entered: the tables, and the script (frozen) where it's no part of the written heap -/
structure Ent (K : PySem.W.Frag) (s₁ : Shared) (cs : List (Addr × Addr)) (a : Addr) (vs : List Value) (ns : List Int) (H : Hp) : Prop where
  tab : ∀ p ∈ cs, H p.2 = some (.tbl #[])
  only : ∀ b u, H b = some u → b ∈ cs.map (·.2) ∨ (b = a ∧ K.lookup a = none ∧ u = .frz { cls := .type "list", data := .seq vs.toArray } (.lst (ns.map V.int)))
  seq : SqK K H a (ns.map V.int)
theorem ent_ex (KX : K.In s₁.heap) (hT : ∀ p ∈ cs, s₁.heap.get? p.2 = some { cls := .none, data := .fields #[] }) (ha : s₁.heap.get? a = some { cls := .type "list", data := .seq vs.toArray }) (hi : IntsAre vs ns) (hl : ns.length ≤ sizeLine) : ∃ H, Ent K s₁ cs a vs ns H := by
  have aT : a ∉ cs.map (·.2) := fun z => by
    obtain ⟨p, hp, e⟩ := List.mem_map.mp z
    have q := hT p hp
    rw [e, ha] at q
    cases congrArg Obj.data (Option.some.inj q)
  have mem : ∀ p ∈ cs, p.2 ∈ cs.map (·.2) := fun p hp => List.mem_map.mpr ⟨p, hp, rfl⟩
  cases hk : K.lookup a with
  | some o =>
    have e := KX a o hk
    rw [ha] at e
    cases e
    refine ⟨fun b => if b ∈ cs.map (·.2) then some (.tbl #[]) else none, fun p hp => if_pos (mem p hp), fun b u z => ?_, .inr ⟨_, vs.toArray, _, hk, rfl, rfl, rfl, by rw [List.size_toArray, hi.length]; exact hl, by simpa using vals_ints hi⟩⟩
    by_cases hb : b ∈ cs.map (·.2)
    · exact .inl hb
    · cases (if_neg hb).symm.trans z
  | none =>
    refine ⟨fun b => if b = a then some (.frz { cls := .type "list", data := .seq vs.toArray } (.lst (ns.map V.int))) else if b ∈ cs.map (·.2) then some (.tbl #[]) else none,
      fun p hp => (if_neg (show ¬ p.2 = a from fun z => aT (by rw [← z]; exact mem p hp))).trans (if_pos (mem p hp)), fun b u z => ?_, .inl ⟨_, if_pos rfl⟩⟩
    by_cases hb : b = a
    · exact .inr ⟨hb, hk, (Option.some.inj ((if_pos hb).symm.trans z)).symm⟩
    · have z1 := (if_neg hb).symm.trans z
      by_cases hb2 : b ∈ cs.map (·.2)
      · exact .inl hb2
      · cases (if_neg hb2).symm.trans z1
theorem law_callG (KX : K.In s₁.heap) (hns : s₁.heap.Ns mainGlobals mg) (hb : s₁.heap.Ns builtinsNs mb) (hbb : ∀ x : Str, x ≠ "__name__" → mb x = bootBuiltins x) (hlim : s₁.heap.NoLimit) (hg : s₁.gens = #[])
    (hT : ∀ p ∈ cs, s₁.heap.get? p.2 = some { cls := .none, data := .fields #[] }) (nT : ∀ p ∈ cs, K.lookup p.2 = none) (C : ∀ p ∈ cs, PySem.W.CodeHd s₁.heap p.1 p.2)
    (hbm : ∃ (bm : Addr) (ob : Obj), mg "__builtins__" = some (.ref bm) ∧ bm ≠ builtinsNs ∧ s₁.heap.get? bm = some ob ∧ ob.cls = .type "module" ∧ ob.dict = some builtinsNs ∧ ob.data = .plain)
    (ha : s₁.heap.get? a = some { cls := .type "list", data := .seq vs.toArray }) (hi : IntsAre vs ns) (hl : ns.length ≤ sizeLine) (hr : Room k callerA)
    (F : ∀ base : Heap, K.In base → base.Ns mainGlobals mg → (∀ p ∈ cs, TabB base mg p.1 p.2) → FnG P w K mg base k fa fd [x] U0 (spOf K mg ⟨tb, [], fun _ => none⟩ 1 gl)) (hbind : ∀ (s : Shared) (u : Value), BindsTo s fd ⟨[u], []⟩ [(x, u)])
    (htb : ∀ q ∈ tb, ∃ p ∈ cs, q.1 = p.2) (hgl : LawTrue gl ns) :
    codeAny (model P w) callerA (.call (.ref fa) ⟨[.ref a], []⟩) (fun r s' => r = .ok (.ret (.bool true)) ∧ OldK s₁.heap s'.heap ∧ s'.os = s₁.os ∧ AllBare s'.gens) s₁ := by
  obtain ⟨H, E⟩ := ent_ex (cs := cs) KX hT ha hi hl
  have isT : ∀ b ∈ cs.map (·.2), s₁.heap.get? b = some { cls := .none, data := .fields #[] } := fun b hb => by
    obtain ⟨p, hp, e⟩ := List.mem_map.mp hb
    rw [← e]
    exact hT p hp
  -- an object that is neither a list nor an empty table isn't tracked
  have noD : ∀ {b : Addr} {o : Obj}, s₁.heap.get? b = some o → (∀ vs n, o.data ≠ .seq vs n) → o.data ≠ .fields #[] → H b = none := fun {b o} e h1 h2 => by
    cases q : H b with
    | none => rfl
    | some u =>
      rcases E.only b u q with z | ⟨z, _⟩
      · rw [isT b z] at e
        cases e
        exact (h2 rfl).elim
      · rw [z, ha] at e
        cases e
        exact (h1 _ _ rfl).elim
  have noA : ∀ {b : Addr} {o : Obj} {es : Array DictEntry} {ep : Nat}, s₁.heap.get? b = some o → o.data = .dict es ep → H b = none := fun {b o es ep} e d => noD e (fun vs n z => by rw [d] at z; cases z) fun z => by rw [d] at z; cases z
  have nsK : ∀ {b : Addr} {m : Str → Option Value}, s₁.heap.Ns b m → (hidT s₁.heap H).Ns b m := fun {b m} ⟨o, es, ep, e, d, r⟩ => ⟨o, es, ep, hidT_get e (noA e d), d, r⟩
  have hKb : K.In (hidT s₁.heap H) := fun b o e => hidT_get (KX b o e) (by
    cases q : H b with
    | none => rfl
    | some u =>
      rcases E.only b u q with z | ⟨z, z2, _⟩
      · obtain ⟨p, hp, ep⟩ := List.mem_map.mp z
        rw [← ep, nT p hp] at e
        cases e
      · rw [z, z2] at e
        cases e)
  have hok : HOk P w H s₁.heap := fun b u e => by
    rcases E.only b u e with z | ⟨z, _, z3⟩
    · obtain ⟨p, hp, ep⟩ := List.mem_map.mp z
      rw [← ep] at e
      have e' := (E.tab p hp).symm.trans e
      cases e'
      exact isT b z
    · subst z z3
      exact ⟨ha, by rw [List.length_map]; exact hl, vs, _, vals_ints hi, ha⟩
  have hM : L2.Mod K mg (hidT s₁.heap H) := ⟨hKb, nsK hns, ⟨mb, nsK hb, hbb⟩, let ⟨mc, h1, h2⟩ := hlim; ⟨mc, nsK h1, h2⟩⟩
  have TB : ∀ p ∈ cs, TabB (hidT s₁.heap H) mg p.1 p.2 := fun p hp => by
    have hTp := hT p hp
    refine ⟨?_, ?_, fun z => ?_⟩
    · obtain ⟨o, us, file, tf, flags, tg, inF, text, tt, e1, r1, r2, r3, r4, r5, r6, r7, r8, hne⟩ := C p hp
      exact ⟨o, us, file, tf, flags, tg, inF, text, tt, hidT_get e1 (noD e1 (fun vs n z => by rw [r2] at z; cases z) fun z => by rw [r2] at z; cases z; simp at r3), r1, r2, r3, r4, r5, r6, r7, r8, hne⟩
    · obtain ⟨bm, ob, b1, b2, b3, b4, b5, b6⟩ := hbm
      refine ⟨bm, ob, b1, b2, fun q => ?_, fun q => ?_, hidT_get b3 (noD b3 (fun vs n z => by rw [b6] at z; cases z) fun z => by rw [b6] at z; cases z), b4, b5, b6⟩
      · obtain ⟨o, es, ep, e, hd, _⟩ := hns
        rw [q, e] at b3
        cases b3
        rw [hd] at b6
        cases b6
      · rw [q, hTp] at b3
        cases b3
        cases b6
    · obtain ⟨o, es, ep, e, hd, _⟩ := hns
      rw [z, hTp] at e
      cases e
      cases hd
  have e0 : Env0 P w K mg (hidT s₁.heap H) callerA [] s₁ H := ⟨rfl, hM, fun b o e => of_hidT e, Nat.le_of_eq (hidT_size _ _), trivial, fun b hb => (List.not_mem_nil (show b ∈ ([] : List Addr) from hb)).elim, hok, .of_eq hg⟩
  have ht : Tabs tb H := fun q hq => by
    obtain ⟨p, hp, e⟩ := htb q hq
    rw [e]
    exact TabS.nil (E.tab p hp)
  refine codeAny_mono ((F _ hKb (nsK hns) TB).run callerA [] s₁ H ⟨[.ref a], []⟩ [.ref a] [.ref a] _ _ hr rfl e0 (hbind s₁ (.ref a)) (.cons rfl .nil) trivial (spec_law hgl E.seq ht)) fun r s' h => ?_
  match r, h with
  | .error e, h => obtain ⟨_, _, _, _, _, _, _, _, _, _, _, _, z⟩ := h; exact z.elim
  | .ok (.ret u), h =>
    obtain ⟨v, H', os, bare, un, hok', r', q⟩ := h
    subst q
    obtain rfl : u = Value.bool true := r'
    have key : ∀ b o, b ∉ cs.map (·.2) → s₁.heap.get? b = some o → s'.heap.get? b = some o := fun b o nb e => by
      cases q : H b with
      | none => exact un.keep b o e q (fun z => (List.not_mem_nil (show b ∈ ([] : List Addr) from z)).elim) (by simp)
      | some u =>
        rcases E.only b u q with z | ⟨_, _, z⟩
        · exact absurd z nb
        · subst z
          obtain ⟨e1, _⟩ := hok b _ q
          obtain ⟨e2, _⟩ := hok' b _ (un.frzs b _ _ q)
          rw [e] at e1
          cases e1
          exact e2
    have grown : ∀ p ∈ cs, ∃ more : Array Value, s'.heap.get? p.2 = some { cls := .none, data := .fields more } := fun p hp => by
      obtain ⟨more, z⟩ := un.tbls p.2 #[] (E.tab p hp)
      exact ⟨_, hok' p.2 _ z⟩
    refine ⟨rfl, ⟨fun b o e => ?_, fun b o e => ?_⟩, os, bare⟩
    · by_cases hb : b ∈ cs.map (·.2)
      · obtain ⟨p, hp, ep⟩ := List.mem_map.mp hb
        obtain ⟨more, hm⟩ := grown p hp
        rw [← ep] at e ⊢
        rw [hT p hp] at e
        cases e
        exact .inr (.inl ⟨((C p hp).tab (hT p hp)).isCodeTable, rfl, #[], more, rfl, by rw [Array.empty_append]; exact hm⟩)
      · exact .inl (key b o hb e)
    · by_cases hb : b ∈ cs.map (·.2)
      · obtain ⟨p, hp, ep⟩ := List.mem_map.mp hb
        obtain ⟨more, hm⟩ := grown p hp
        rw [← ep]
        exact ⟨_, hm⟩
      · exact ⟨o, key b o hb e⟩
/-- what is known of the law's promise at the head's heap h -/
def LawAtG (l : PySem.W.OpenLaw) (w : World) (K : PySem.W.Frag) (k n : Nat) (x : Str) (mg : Str → Option Value) (fa : Addr) (h : Heap) : Prop :=
  ∃ (fd : FuncData) (cs : List (Addr × Addr)) (tb : List (Addr × Str)) (gl : List D → Sto → R D), (∀ p ∈ cs, h.get? p.2 = some { cls := .none, data := .fields #[] }) ∧ (∀ p ∈ cs, K.lookup p.2 = none) ∧ (∀ p ∈ cs, PySem.W.CodeHd h p.1 p.2) ∧ (∀ (s : Shared) (u : Value), BindsTo s fd ⟨[u], []⟩ [(x, u)]) ∧
    (∀ q ∈ tb, ∃ p ∈ cs, q.1 = p.2) ∧ (∀ ns : List Int, ns.length ≤ n → (∀ z ∈ ns, Builtin.Int.intBits z ≤ 1048576) → LawTrue gl ns) ∧
    ∀ base : Heap, K.In base → base.Ns mainGlobals mg → (∀ p ∈ cs, TabB base mg p.1 p.2) → FnG l.prog w K mg base k fa fd [x] U0 (spOf K mg ⟨tb, [], fun _ => none⟩ 1 gl)
theorem walk_ofG {l : PySem.W.OpenLaw} {n k : Nat} {q : Program} {loose : List Str} {XP : (Str → Option Value) → Heap → Prop} {YP : World → Heap → Prop} {d : DefRec} {K : Params → PySem.W.Frag} {x : Str}
    (hn : l.most = some n) (hn2 : n ≤ sizeLine) (hdf : d.params.defaults = []) (hr : Room k callerA) (hY : ∀ (w : World) (h : Heap), YP w h → (K w.params).In h)
    (F : ∀ (w : World) (mg : Str → Option Value) (fa : Addr) (h : Heap), YP w h → (K w.params).In h → h.Ns mainGlobals mg → mg d.name = some (.ref fa) → LawAtG l w (K w.params) k n x mg fa h) :
    PySem.W.WalkO q loose XP YP l.row.toRowW d [] (fun f vs => PySem.call f vs) := by
  refine Att.attach_callB hn hdf fun w s₀ s₁ mg mb fa o pm cd doc a vs ns G Y ho hd hcd hmg hobj hints hlen hbits hg => ?_
  obtain ⟨fd, cs, tb, gl, hT, nT, C, hb, htb, hgl, hF⟩ := F w mg fa _ Y (hY w _ Y) G.T.g hmg
  exact law_callG (hY w _ Y) G.T.g G.T.b G.T.builtins G.T.nolimit hg hT nT C G.T.bmain hobj hints (Nat.le_trans hlen hn2) hr hF hb htb (hgl ns hlen hbits)
end
end Fn
end
section
set_option Elab.async false
set_option linter.all false
set_option maxRecDepth 100000
set_option maxHeartbeats 4000000
/-! The head's facts, by names, as the layer takes them. -/
namespace Fn
open PySem PySem.Spec PyProof.Rows L2 LamX He
def dOf (x : Str) (st : Stmt) : DefD := ⟨(x, none), x, x, defArgs st, defBody st, defScope st, [], []⟩
/-- what isinstance asks of an error's class -/
def excCB (K : PySem.W.Frag) (D : Addr) : Bool :=
  decide (PySem.W.findIn K (.ref D) "__getattribute__" = some (some (.builtin "BaseException.__getattribute__"))) && (decide (PySem.W.findIn K (.ref D) "__getattr__" = some none) && (decide (PySem.W.subIn K (.ref D) (.type "BaseException") = some true) &&
  (PySem.W.hasDictIn K D && (decide (PySem.W.findIn K (.ref D) "__class__" = some (some (.builtin "object.__class__"))) && (decide (PySem.W.specialIn K (.builtin "object.__class__") "__get__" = some (some (.builtin "getset_descriptor.__get__"))) &&
  (decide (PySem.W.takesIn K (.builtin "object.__class__") = some true) && decide (PySem.W.mroIn K D (.type "object") = some true)))))))
theorem excCB_ok {K : PySem.W.Frag} {D : Addr} (h : excCB K D = true) : ExcC K D := by
  unfold excCB at h
  simp only [Bool.and_eq_true, decide_eq_true_eq] at h
  obtain ⟨h1, h2, h3, h4, h5, h6, h7, h8⟩ := h
  exact ⟨h1, h2, h3, h4, h5, h6, h7, h8⟩
/-- a class, asked about None and about the errors -/
def isTabB (K : PySem.W.Frag) (raised : List Str) (u : Value) (t : Str → Bool) : Bool :=
  decide (PySem.W.kitOne K (.type "NoneType") u = some false) && raised.all fun c => excCB K (ga K c) && decide (PySem.W.kitOne K (.ref (ga K c)) u = some (t c))
theorem isTabB_ok {K : PySem.W.Frag} {mg : Str → Option Value} {raised : List Str} {u : Value} {t : Str → Bool} {tab : Str → Option Bool} (h : isTabB K raised u t = true) (hg : ∀ c ∈ raised, mg c = some (.ref (ga K c))) (ht : ∀ c b, tab c = some b → c ∈ raised ∧ b = t c) : IsTab K mg u tab := by
  unfold isTabB at h
  simp only [Bool.and_eq_true, decide_eq_true_eq, List.all_eq_true] at h
  obtain ⟨h1, h2⟩ := h
  refine ⟨h1, fun cn D b hm hb => ?_⟩
  obtain ⟨hc, rfl⟩ := ht cn b hb
  rw [hg cn hc] at hm
  cases hm
  obtain ⟨q1, q2⟩ := h2 cn hc
  exact ⟨excCB_ok q1, q2⟩
/-- a module's tuple of texts -/
def strsB : List Value → List Str → Bool
  | [], [] => true
  | .str y _ :: r, z :: s => decide (y = z) && strsB r s
  | _, _ => false
theorem strsB_ok : ∀ {us : List Value} {zs : List Str}, strsB us zs = true → Vals (zs.map V.str) us
  | [], [], _ => .nil
  | .str y t :: r, z :: s, h => by
    simp only [strsB, Bool.and_eq_true, decide_eq_true_eq] at h
    obtain ⟨rfl, h2⟩ := h
    exact .cons ⟨t, rfl⟩ (strsB_ok h2)
  | [], _ :: _, h => by cases h
  | .str _ _ :: _, [], h => by cases h
def tupStrB (K : PySem.W.Frag) (x : Str) (zs : List Str) : Bool := match PySem.W.nsIn K mainGlobals x with
  | some (some (.ref p)) => (match K.lookup p with
    | some ⟨.type c, _, .seq its _, _⟩ => decide (c = "tuple") && (decide (its.size ≤ 16777216) && strsB its.toList zs)
    | _ => false)
  | _ => false
theorem repVs_strs {K : PySem.W.Frag} {mg : Str → Option Value} {m : List Addr} {H : Hp} : ∀ zs : List Str, RepVs K mg m H (zs.map D.str) (zs.map V.str)
  | [] => .nil
  | n :: r => .cons (.str n) (repVs_strs r)
theorem tupStrB_ok {K : PySem.W.Frag} {h : Heap} {mg : Str → Option Value} {x : Str} {zs : List Str} (X : K.In h) (G : h.Ns mainGlobals mg) (e : tupStrB K x zs = true) : Gv K mg x (.tup (zs.map .str)) := by
  unfold tupStrB at e
  split at e
  · rename_i p e1
    split at e
    · rename_i c od its n sl e2
      simp only [Bool.and_eq_true, decide_eq_true_eq] at e
      obtain ⟨rfl, h2, h3⟩ := e
      exact ⟨.ref p, .ref p, PySem.W.mg_of X G e1, rfl, fun m H => .tup (.inr ⟨_, its, n, e2, rfl, rfl, by rw [line_eq]; exact h2, strsB_ok h3⟩) (repVs_strs zs)⟩
    · cases e
  · cases e
section
variable {fa : List Fa} {fn : List DefD} {tf : List Defn} {ex : PySem.W.Frag → Bool} {w : World} {h : Heap} {K : PySem.W.Frag} {mg : Str → Option Value}
theorem hd_glo (c : SaysX fa fn [] tf ex w h K) (X : K.In h) (G : h.Ns mainGlobals mg) (i : Nat) {x : Str} (e : fa[i]? = some (.glo x) := by rfl) : mg x = some (.ref (ga K x)) := glo_ok X G (c.t.d.fact i e)
theorem hd_free (c : SaysX fa fn [] tf ex w h K) (X : K.In h) (G : h.Ns mainGlobals mg) (i : Nat) {x : Str} (e : fa[i]? = some (.free x) := by rfl) : mg x = none := free_ok X G (c.t.d.fact i e)
theorem hd_int (c : SaysX fa fn [] tf ex w h K) (X : K.In h) (G : h.Ns mainGlobals mg) (i : Nat) {x : Str} {n : Int} (e : fa[i]? = some (.int x n) := by rfl) : Gv K mg x (.int n) := by
  obtain ⟨t, h1⟩ := int_ok X G (c.t.d.fact i e)
  exact ⟨_, .int n, h1, ⟨t, rfl⟩, fun _ _ => .int n⟩
theorem hd_str (c : SaysX fa fn [] tf ex w h K) (X : K.In h) (G : h.Ns mainGlobals mg) (i : Nat) {x z : Str} (e : fa[i]? = some (.str x z) := by rfl) : Gv K mg x (.str z) := by
  obtain ⟨t, h1⟩ := str_ok X G (c.t.d.fact i e)
  exact ⟨_, .str z, h1, ⟨t, rfl⟩, fun _ _ => .str z⟩
theorem hd_exc (c : SaysX fa fn [] tf ex w h K) {x : Str} (hg : mg x = some (.ref (ga K x))) (i : Nat) (e : fa[i]? = some (.exc x) := by rfl) : ExcK K mg x := by
  obtain ⟨h1, h2, h3, h4⟩ := exc_ok (c.t.d.fact i e)
  exact ⟨_, hg, h1, h2, h3, h4⟩
theorem hd_fun (c : SaysX fa fn [] tf ex w h K) (i : Nat) {x : Str} {st : Stmt} (e : fn[i]? = some (dOf x st) := by rfl) : ∃ fd, Fun K x x st (ga K x) fd := by
  obtain ⟨fd, F⟩ := c.t.d.def_ i (d := dOf x st) e
  exact ⟨fd, He5.fun_of F⟩
end
/-! ### the tables of the defs that make lambdas -/
structure MkD (base : Heap) (mg : Str → Option Value) (fd : FuncData) (tb : List (Addr × Str)) (q : Str) : Prop where
  ex : ∃ c P, TabB base mg c P ∧ fd.code = .ref c ∧ (P, q) ∈ tb ∧ ∀ p ∈ tb, p.1 = P → p.2 = q
theorem MkD.to {base : Heap} {mg : Str → Option Value} {fd : FuncData} {tb : List (Addr × Str)} {q : Str} (M : MkD base mg fd tb q) {X : Cx} {T : TB} (hT : T.tabs = tb) (h1 : X.base = base) (h2 : X.mg = mg) (h3 : X.env.code = fd.code) (h4 : X.env.qual ++ "<lambda>" = q) : Mk X T := by
  obtain ⟨c, P, a, b, d, e⟩ := M.ex
  exact ⟨c, P, by rw [h1, h2]; exact a, h3.trans b, by rw [hT, h4]; exact d, by rw [hT, h4]; exact e⟩
def lamQ (x : Str) : Str := x ++ (".<locals>." : Str) ++ ("<lambda>" : Str)
def tbOf (K : PySem.W.Frag) (tf : List Defn) : List (Addr × Str) := tf.map fun p => ((cT K p).2, lamQ p.1)
theorem nodup_map {α β : Type} {f : α → β} : ∀ {l : List α}, (l.map f).Nodup → ∀ {a b : α}, a ∈ l → b ∈ l → f a = f b → a = b
  | [], _, _, _, h, _, _ => by cases h
  | x :: l, hn, a, b, ha, hb, e => by
    rw [List.map_cons, List.nodup_cons] at hn
    obtain ⟨h1, h2⟩ := hn
    rcases List.mem_cons.mp ha with ea | ha'
    · rcases List.mem_cons.mp hb with eb | hb'
      · rw [ea, eb]
      · exact absurd (show f x ∈ l.map f from List.mem_map.mpr ⟨b, hb', by rw [← e, ea]⟩) h1
    · rcases List.mem_cons.mp hb with eb | hb'
      · exact absurd (show f x ∈ l.map f from List.mem_map.mpr ⟨a, ha', by rw [e, eb]⟩) h1
      · exact nodup_map h2 ha' hb' e
theorem hd_mkd {K : PySem.W.Frag} {base : Heap} {mg : Str → Option Value} {tf : List Defn} {x : Str} {st : Stmt} {fd : FuncData} (F : Fun K x x st (ga K x) fd) (hp : (x, none) ∈ tf) (TB : ∀ q ∈ tf.map (cT K), TabB base mg q.1 q.2) (nd : (tf.map fun p => (cT K p).2).Nodup) : MkD base mg fd (tbOf K tf) (lamQ x) := by
  obtain ⟨oc, od, kV, doc, pm, an, cdv, ct, osl, rfl, lk, hcd⟩ := F.ex
  obtain ⟨c, rfl⟩ := codeIn_ref hcd
  have ec : codeOf K (x, none) = c := codeOf_eq (p := (x, none)) lk rfl
  refine ⟨c, (cT K (x, none)).2, ?_, rfl, List.mem_map.mpr ⟨(x, none), hp, rfl⟩, fun p hm e => ?_⟩
  · have z := TB _ (List.mem_map.mpr ⟨(x, none), hp, rfl⟩)
    have e2 : (cT K (x, none)).1 = c := ec
    rw [e2] at z
    exact z
  · obtain ⟨q, hq, rfl⟩ := List.mem_map.mp hm
    have e3 : q = (x, none) := nodup_map nd hq hp e
    rw [e3]
end Fn
end
section
set_option Elab.async false
set_option linter.all false
set_option maxRecDepth 100000
set_option maxHeartbeats 4000000
/-! Readings evaluated: plain Lean. -/
namespace Fn
open PySem PySem.Spec PyProof.Rows L2 LamX
/-- r comes to a; the store has grown behind -/
def Yl {α : Type} (r : R α) (s : Sto) (a : α) : Prop := ∃ t, r = .ok a (s ++ t)
theorem Yl.of {α : Type} {a : α} {s : Sto} : Yl (.ok a s) s a := ⟨[], by simp⟩
theorem Yl.of_eq {α : Type} {r : R α} {a : α} {s : Sto} (h : r = .ok a s) : Yl r s a := h ▸ .of
theorem Yl.bind {α β : Type} {r : R α} {f : α → Sto → R β} {s : Sto} {a : α} {b : β} (h : Yl r s a) (k : ∀ t, Yl (f a (s ++ t)) (s ++ t) b) : Yl (r.bind f) s b := by
  obtain ⟨t, rfl⟩ := h
  obtain ⟨t', e⟩ := k t
  exact ⟨t ++ t', by rw [R.bind_ok, e, List.append_assoc]⟩
theorem get_ext {s : Sto} {i : Nat} {o : O} (t : Sto) (h : s[i]? = some o) : (s ++ t)[i]? = some o := by
  rw [List.getElem?_append_left (List.getElem?_eq_some_iff.mp h).1]
  exact h
theorem get_pre {s s' : Sto} {i : Nat} {o : O} (p : s <+: s') (h : s[i]? = some o) : s'[i]? = some o := by
  obtain ⟨t, rfl⟩ := p
  exact get_ext t h
theorem set_mid {s t : Sto} {o o' : O} : (s ++ o :: t).set s.length o' = s ++ o' :: t := by simp
theorem get_mid {s t : Sto} {o : O} : (s ++ o :: t)[s.length]? = some o := by simp
/-- a comprehension whose test and element are pure -/
theorem loopC_pure {live : Sto → Prop} {tg : Pat} {test : DT} {elt : DE} {env : Ev} {st1 : Sto} (hw : ∀ s, st1 <+: s → live s) (p : D → Bool) (e : D → D) : ∀ (ds : List D) (acc : List D) (t : Sto), acc.length + ds.length ≤ lineN →
    (∀ d ∈ ds, ∃ env1, dG tg d env = some env1 ∧ ∀ s, st1 <+: s → Yl (test env1 s) s (p d) ∧ (p d = true → Yl (elt env1 s) s (e d))) →
    ∃ t', loopC live st1.length tg test elt env ds (st1 ++ .lst acc :: t) = .ok () (st1 ++ .lst (acc ++ (ds.filter p).map e) :: t')
  | [], acc, t, _, _ => ⟨t, by unfold loopC; rw [if_pos (hw _ (List.prefix_append _ _))]; simp⟩
  | d :: ds, acc, t, hl, h => by
    obtain ⟨env1, h1, h2⟩ := h d List.mem_cons_self
    have hl' : acc.length + (ds.length + 1) ≤ lineN := by simpa using hl
    obtain ⟨⟨t1, q1⟩, q2⟩ := h2 (st1 ++ .lst acc :: t) (List.prefix_append _ _)
    unfold loopC
    rw [if_pos (hw _ (List.prefix_append _ _)), h1]
    dsimp only
    rw [q1, R.nox_ok, R.bind_ok, List.append_assoc, List.cons_append]
    cases hp : p d with
    | false =>
      rw [if_neg Bool.false_ne_true]
      obtain ⟨t', q⟩ := loopC_pure hw p e ds acc (t ++ t1) (by omega) fun d' hd => h d' (List.mem_cons_of_mem _ hd)
      exact ⟨t', by rw [q, List.filter_cons_of_neg (by simp [hp])]⟩
    | true =>
      rw [if_pos rfl]
      obtain ⟨_, q3⟩ := h2 (st1 ++ .lst acc :: (t ++ t1)) (List.prefix_append _ _)
      obtain ⟨t2, q4⟩ := q3 hp
      rw [q4, R.nox_ok, R.bind_ok, List.append_assoc, List.cons_append, get_mid]
      dsimp only
      rw [if_pos (by omega), set_mid]
      obtain ⟨t', q⟩ := loopC_pure hw p e ds (acc ++ [e d]) ((t ++ t1) ++ t2) (by simp; omega) fun d' hd => h d' (List.mem_cons_of_mem _ hd)
      exact ⟨t', by rw [q, List.filter_cons_of_pos (by simp [hp])]; simp⟩
theorem lc_pure {own : List Nat} {fi : DI} {tg : Pat} {test : DT} {elt : DE} {env : Ev} {st st1 : Sto} {it : IT} (hi : fi env st = .ok it st1) (hw : ∀ q ∈ it.watch, st1[q.1]? = some q.2) (p : D → Bool) (e : D → D) (hl : it.ds.length ≤ lineN)
    (h : ∀ d ∈ it.ds, ∃ env1, dG tg d (wipeE env own) = some env1 ∧ ∀ s, st1 <+: s → Yl (test env1 s) s (p d) ∧ (p d = true → Yl (elt env1 s) s (e d))) :
    ∃ t, dLc own fi tg test elt env st = .ok (.ref st1.length) (st1 ++ .lst ((it.ds.filter p).map e) :: t) := by
  obtain ⟨t, q⟩ := loopC_pure (live := it.live) (fun s ps q hq => get_pre ps (hw q hq)) p e it.ds [] [] (by simpa using hl) h
  refine ⟨t, ?_⟩
  unfold dLc
  rw [hi, R.bind_ok]
  have q' := q
  rw [List.nil_append] at q'
  rw [show st1 ++ [O.lst []] = st1 ++ .lst [] :: [] from rfl, q', R.bind_ok]
theorem lc_map {own : List Nat} {fi : DI} {tg : Pat} {elt : DE} {env : Ev} {st st1 : Sto} {it : IT} (hi : fi env st = .ok it st1) (hw : ∀ q ∈ it.watch, st1[q.1]? = some q.2) (e : D → D) (hl : it.ds.length ≤ lineN)
    (h : ∀ d ∈ it.ds, ∃ env1, dG tg d (wipeE env own) = some env1 ∧ ∀ s, st1 <+: s → Yl (elt env1 s) s (e d)) :
    ∃ t, dLc own fi tg bYes elt env st = .ok (.ref st1.length) (st1 ++ .lst (it.ds.map e) :: t) := by
  obtain ⟨t, q⟩ := lc_pure (test := bYes) hi hw (fun _ => true) e hl fun d hd => by
    obtain ⟨env1, h1, h2⟩ := h d hd
    exact ⟨env1, h1, fun s p => ⟨.of, fun _ => h2 s p⟩⟩
  exact ⟨t, by rw [q, List.filter_eq_self.mpr fun _ _ => rfl]⟩
/-- what a statement comes to -/
def SO (r : SR) (N : Ev → Sto → Prop) (Rt : D → Sto → Prop) : Prop := match r with
  | .next e s => N e s
  | .ret d s => Rt d s
  | _ => False
theorem SO.seq {f g : DS} {env : Ev} {st : Sto} {N : Ev → Sto → Prop} {Rt : D → Sto → Prop} (h : SO (f env st) (fun e s => SO (g e s) N Rt) Rt) : SO (sSeq f g env st) N Rt := by
  unfold sSeq
  cases e : f env st <;> rw [e] at h <;> exact h
theorem SO.imp {r : SR} {N N' : Ev → Sto → Prop} {Rt Rt' : D → Sto → Prop} (h : SO r N Rt) (i : ∀ e s, N e s → N' e s) (j : ∀ d s, Rt d s → Rt' d s) : SO r N' Rt' := by
  cases r with
  | next e s => exact i _ _ h
  | ret d s => exact j _ _ h
  | _ => exact h
theorem loop_so {live : Sto → Prop} {tg : Pat} {body : DS} {Rt : D → Sto → Prop} (I : List D → Ev → Sto → Prop) (hl : ∀ ds e s, I ds e s → live s)
    (step : ∀ d ds e s, I (d :: ds) e s → ∃ e1, dG tg d e = some e1 ∧ SO (body e1 s) (fun e s => I ds e s) Rt) : ∀ (ds : List D) (e : Ev) (s : Sto), I ds e s → SO (loopS live tg body ds e s) (fun e s => I [] e s) Rt
  | [], e, s, h => by
    unfold loopS
    rw [if_pos (hl _ _ _ h)]
    exact h
  | d :: ds, e, s, h => by
    unfold loopS
    rw [if_pos (hl _ _ _ h)]
    obtain ⟨e1, h1, h2⟩ := step d ds e s h
    rw [h1]
    dsimp only
    cases eb : body e1 s with
    | next e2 s2 =>
      rw [eb] at h2
      exact loop_so I hl step ds e2 s2 h2
    | ret d2 s2 => rw [eb] at h2; exact h2
    | brk e2 s2 => rw [eb] at h2; exact h2.elim
    | cnt e2 s2 => rw [eb] at h2; exact h2.elim
    | exc e2 x s2 => rw [eb] at h2; exact h2.elim
    | bad => rw [eb] at h2; exact h2.elim
/-- what an expression comes to -/
def Out {α : Type} (r : R α) (P : α → Sto → Prop) : Prop := match r with
  | .ok a s => P a s
  | _ => False
@[simp] theorem Out_ok {α : Type} {a : α} {s : Sto} {P : α → Sto → Prop} : Out (.ok a s) P = P a s := rfl
theorem Out.bind {α β : Type} {r : R α} {f : α → Sto → R β} {P : β → Sto → Prop} (h : Out r fun a s => Out (f a s) P) : Out (r.bind f) P := by
  cases r <;> exact h
theorem Out.into {α : Type} {r : R α} {env : Ev} {f : α → Sto → SR} {N : Ev → Sto → Prop} {Rt : D → Sto → Prop} (h : Out r fun a s => SO (f a s) N Rt) : SO (r.into env f) N Rt := by
  cases r <;> exact h
theorem Out.imp {α : Type} {r : R α} {P P' : α → Sto → Prop} (h : Out r P) (i : ∀ a s, P a s → P' a s) : Out r P' := by
  cases r with
  | ok a s => exact i _ _ h
  | _ => exact h
theorem Out.toR {r : SR} {P : D → Sto → Prop} (h : SO r (fun _ s => P .non s) P) : Out r.toR P := by
  cases r <;> exact h
theorem Out.ex {α : Type} {r : R α} {P : α → Sto → Prop} (h : Out r P) : ∃ a s, r = .ok a s ∧ P a s := by
  cases r with
  | ok a s => exact ⟨a, s, rfl, h⟩
  | _ => exact h.elim
theorem Yl.out {α : Type} {r : R α} {s : Sto} {a : α} {P : α → Sto → Prop} (h : Yl r s a) (k : ∀ t, P a (s ++ t)) : Out r P := by
  obtain ⟨t, rfl⟩ := h
  exact k t
/-! ### the words, applied -/
section
variable {f g h : DE} {t t' : DT} {fa ga : DA} {a b : DS} {env : Ev} {st : Sto} {G : List D → Sto → R D} {g2 g3 : D → D → Sto → R D} {g1 : D → Sto → R D}
@[simp] theorem a_dCall : dCall G fa env st = (fa env st).bind G := rfl
@[simp] theorem a_aCons : aCons f fa env st = (f env st).bind fun d s1 => (fa env s1).bind fun ds s2 => .ok (d :: ds) s2 := rfl
@[simp] theorem a_aNil : aNil env st = .ok [] st := rfl
@[simp] theorem a_dC {d : D} : dC d env st = .ok d st := rfl
@[simp] theorem a_d1 : d1 g1 f env st = (f env st).bind g1 := rfl
@[simp] theorem a_d2 : d2 g2 f g env st = (f env st).bind fun x s1 => (g env s1).bind fun y s2 => g2 x y s2 := rfl
@[simp] theorem a_dB : dB f env st = (f env st).bind asB := rfl
@[simp] theorem a_dAnd : dAnd f g env st = (f env st).bind fun x s1 => (asB x s1).bind fun k s2 => if k = true then g env s2 else .ok (.bl false) s2 := rfl
@[simp] theorem a_dOr : dOr f g env st = (f env st).bind fun x s1 => (asB x s1).bind fun k s2 => if k = true then .ok (.bl true) s2 else g env s2 := rfl
@[simp] theorem a_dNot : dNot f env st = (f env st).bind fun x s1 => (asB x s1).bind fun k s2 => .ok (.bl (!k)) s2 := rfl
@[simp] theorem a_dIf : dIf t f g env st = (t env st).bind fun k s1 => if k = true then f env s1 else g env s1 := rfl
@[simp] theorem a_bAnd : bAnd t t' env st = (t env st).bind fun k s1 => if k = true then t' env s1 else .ok false s1 := rfl
@[simp] theorem a_bOr : bOr t t' env st = (t env st).bind fun k s1 => if k = true then .ok true s1 else t' env s1 := rfl
@[simp] theorem a_bNot : bNot t env st = (t env st).bind fun k s1 => .ok (!k) s1 := rfl
@[simp] theorem a_dTup : dTup fa env st = (fa env st).bind fun ds s1 => if ds.length ≤ lineN then .ok (.tup ds) s1 else .bad := rfl
@[simp] theorem a_dLst : dLst fa env st = (fa env st).bind fun ds s1 => if ds.length ≤ lineN then .ok (.ref s1.length) (s1 ++ [.lst ds]) else .bad := rfl
theorem a_sSeq {e : Ev} {s : Sto} (q : a env st = .next e s) : sSeq a b env st = b e s := by
  unfold sSeq
  rw [q]
theorem a_sSeqR {d : D} {s : Sto} (q : a env st = .ret d s) : sSeq a b env st = .ret d s := by
  unfold sSeq
  rw [q]
theorem a_sSeqX {e : Ev} {x : Exn} {s : Sto} (q : a env st = .exc e x s) : sSeq a b env st = .exc e x s := by
  unfold sSeq
  rw [q]
@[simp] theorem a_sIf : sIf t a b env st = (t env st).into env fun k s1 => if k = true then a env s1 else b env s1 := rfl
@[simp] theorem a_sRet : sRet f env st = (f env st).into env fun d s1 => .ret d s1 := rfl
@[simp] theorem a_sExpr : sExpr f env st = (f env st).into env fun _ s1 => .next env s1 := rfl
@[simp] theorem a_sRaise {c : Str} : sRaise c f env st = (f env st).into env fun _ s1 => .exc env ⟨c, []⟩ s1 := rfl
@[simp] theorem a_sNil : sNil env st = .next env st := rfl
@[simp] theorem a_sSet {i : Nat} : sAsg f (.nm i) env st = (f env st).into env fun d s1 => .next (env.set i (some d)) s1 := rfl
@[simp] theorem a_dCut {fl fh : DO} : dCut f fl fh env st = (f env st).bind fun x s1 => (fl env s1).bind fun lo s2 => (fh env s2).bind fun hi s3 => gCut x lo hi s3 := rfl
@[simp] theorem a_dM {n : String} {gm : D → List D → Sto → R D} : dM n gm f fa env st = (f env st).bind fun x s1 => if tyB n x s1 = true then (fa env s1).bind fun xs s2 => gm x xs s2 else .bad := rfl
@[simp] theorem a_dVar {i : Nat} {d : D} (h : env[i]? = some (some d)) : dVar i env st = .ok d st := by
  unfold dVar
  rw [h]
end
end Fn
end
section
set_option Elab.async false
set_option linter.all false
set_option maxRecDepth 100000
set_option maxHeartbeats 4000000
namespace Fn
namespace K00
open PySem PySem.Spec PyProof.Rows L2 LamX
def pw : Program := PySem.Challenge.pw_ringsapart_k00_names_words_and_places
def top (i : Nat) : Stmt := PySem.Challenge.pw_ringsapart_k00_names_words_and_places.main.body.getD i (.Pass ⟨0, 0, 0, 0⟩)
def bnames : List Str := ["ValueError", "abs", "all", "bool", "int", "isinstance", "len", "list", "max", "min", "range", "repr", "reversed", "str", "tuple", "zip"]
/-- the errors that are raised -/
def raisedN : List Str := ["BadWord", "BadPlaces", "BadMany"]
def subT (D c : Str) : Bool := c == D || D == "DescentError" || D == "ValueError"
def tabE (D c : Str) : Option Bool := if c ∈ raisedN then some (subT D c) else none
def subE (D c : Str) : Option Bool := tabE D c
structure ClsI (K : PySem.W.Frag) (mg : Str → Option Value) (D : Str) (C : Addr) : Prop where
  at_ : mg D = some (.ref C)
  tab : IsTab K mg (.ref C) (tabE D)
structure Catch (K : PySem.W.Frag) (mg : Str → Option Value) (D : Str) (A : Addr) : Prop where
  at_ : mg D = some (.ref A)
  sub : ∀ cn C b, mg cn = some (.ref C) → subE D cn = some b → PySem.W.exmOne K (.ref C) (.ref A) = some b
def cv_MOST : D := (.int 24)
def cv_KEPT : D := (.tup [(.str "add"), (.str "apart"), (.str "cannot"), (.str "clash"), (.str "done"), (.str "drop"), (.str "first"), (.str "flip"), (.str "join"), (.str "journal"), (.str "least"), (.str "life"), (.str "line"), (.str "live"), (.str "mark"), (.str "mix"), (.str "mixed"), (.str "name"), (.str "no"), (.str "none"), (.str "nothing"), (.str "part"), (.str "place"), (.str "record"), (.str "redo"), (.str "ring"), (.str "row"), (.str "strict"), (.str "table"), (.str "undo"), (.str "weave"), (.str "web"), (.str "what"), (.str "yes")])
def cv_LETTERS : D := (.str "abcdefghijklmnopqrstuvwxyz")
/-! ### _law_begun -/
abbrev s__law_begun : Stmt := top 47
abbrev N__law_begun : List Str := ["script", "large", "grain"]
theorem sc__law_begun : FnScope N__law_begun ["script"] (defScope s__law_begun) := ⟨rfl, rfl, rfl, by decide +kernel, rfl, by decide +kernel, by decide +kernel⟩
noncomputable def fb__law_begun : DS :=
 (sSeq (sAsg (dLc [2] (dIter (dVar 0)) (.nm 2) (dB (d2 gGe (dCall gAbs (aCons (dVar 2) aNil)) (d2 gPow (dC (.int 10)) (dC (.int 18))))) (d2 gSub (dCall gAbs (aCons (dVar 2) aNil)) (d2 gPow (dC (.int 10)) (dC (.int 18))))) (.nm 1))
 (sRet (dDisp [((dC (.str "large")), (dVar 1)), ((dC (.str "cells")), (dLc [2] (dIter (dVar 0)) (.nm 2) bYes (d2 gMod (dCall gInt1 (aCons (dCall gAbs (aCons (dVar 2) aNil)) aNil)) (dC (.int 2147483629))))), ((dC (.str "rest")), (dC (.int 0))), ((dC (.str "turn")), (dC (.int 0)))])))
theorem raw__law_begun {P : Program} {w : World} {K : PySem.W.Frag} {mg : Str → Option Value} {base : Heap} {tb : List (Addr × Str)} {f : Addr} {fd : FuncData} (F : Fun K "_law_begun" "_law_begun" s__law_begun f fd) (hx : mg "_law_begun" = some (.ref f)) (bd : Binds K fd ["script"] []) (B : ∀ x ∈ bnames, mg x = none) (T : TB) (hT : T.tabs = tb) :
  DefOk P w K mg base T 3 "_law_begun" f fd ["script"] U0 (fun ds st => (fb__law_begun (ev0 N__law_begun ds) st).toR) :=
 def_ok (k := 2) (fb := fb__law_begun) F sc__law_begun hx bd fun cdv A outer s H E o => (fss_cons (fs_setLc o.calm o.nd (by rfl) (fi_seq (fe_var 0)) (blkOk_by (N := N__law_begun) (sc := defScope s__law_begun) (own := [("grain", 2)]) (by decide +kernel)) (fun s H C cl fp => (fg_name (i := 2) (Ok.blk o s H _ _ fp).nd)) (fun s H C cl fp => (fts_one (ft_cmp  op_ge od_ge (fe_callB call_abs cd_abs (B _ (by decide : ("abs" : Str) ∈ bnames)) (by decide +kernel) (fa_cons (fe_var 2) fa_nil)) (fe_op op_pow od_pow fe_int fe_int)))) (fun s H C cl fp => (fe_op op_sub od_sub (fe_callB call_abs cd_abs (B _ (by decide : ("abs" : Str) ∈ bnames)) (by decide +kernel) (fa_cons (fe_var 2) fa_nil)) (fe_op op_pow od_pow fe_int fe_int))) (i := 1))
 (fss_one (fs_ret (fe_disp (fps_cons fe_str (fe_var 1) (fps_cons fe_str (fe_lc o.calm o.nd (fi_seq (fe_var 0)) (blkOk_by (N := N__law_begun) (sc := defScope s__law_begun) (own := [("grain", 2)]) (by decide +kernel)) (fun s H C cl fp => (fg_name (i := 2) (Ok.blk o s H _ _ fp).nd)) (fun s H C cl fp => fts_nil) (fun s H C cl fp => (fe_op op_mod od_mod (fe_callTy call_int1 cd_int (B _ (by decide : ("int" : Str) ∈ bnames)) (by decide +kernel) (fa_cons (fe_callB call_abs cd_abs (B _ (by decide : ("abs" : Str) ∈ bnames)) (by decide +kernel) (fa_cons (fe_var 2) fa_nil)) fa_nil)) fe_int))) (fps_cons fe_str fe_int (fps_cons fe_str fe_int fps_nil))))))))
/-! ### _law_mixed -/
abbrev s__law_mixed : Stmt := top 48
abbrev N__law_mixed : List Str := ["draw", "turn", "blended", "prime", "blend", "grain"]
theorem sc__law_mixed : FnScope N__law_mixed ["draw"] (defScope s__law_mixed) := ⟨rfl, rfl, rfl, by decide +kernel, rfl, by decide +kernel, by decide +kernel⟩
noncomputable def fb__law_mixed : DS :=
 (sSeq (sPar [1, 2] (aCons (d2 gAdd (d2 gIx (dVar 0) (dC (.str "turn"))) (dC (.int 1))) (aCons (dC (.int 0)) aNil)))
 (sSeq (sSub (dVar 1) (dVar 0) (dC (.str "turn")))
 (sSeq (sFor (dIter (dLst (aCons (dC (.int 2147483647)) (aCons (dC (.int 2147483629)) (aCons (dC (.int 2147483587)) (aCons (dC (.int 2147483579)) aNil)))))) (.nm 3) (sSeq (sAsg (d2 gAdd (d2 gMul (dC (.int 48271)) (dVar 1)) (d2 gFdiv (dVar 3) (dC (.int 37)))) (.nm 4))
 (sSeq (sFor (dIter (d2 gIx (dVar 0) (dC (.str "cells")))) (.nm 5) (sAsg (d2 gMod (dCall gInt1 (aCons (d2 gAdd (d2 gAdd (d2 gMul (dVar 4) (dC (.int 69621))) (dVar 5)) (dVar 1)) aNil)) (dVar 3)) (.nm 4)))
 (sAsg (d2 gAdd (d2 gMul (dVar 2) (dC (.int 2147483647))) (d2 gMod (dCall gInt1 (aCons (d2 gPow (dVar 4) (dC (.int 5))) aNil)) (dVar 3))) (.nm 2)))))
 (sRet (dVar 2)))))
theorem raw__law_mixed {P : Program} {w : World} {K : PySem.W.Frag} {mg : Str → Option Value} {base : Heap} {tb : List (Addr × Str)} {f : Addr} {fd : FuncData} (F : Fun K "_law_mixed" "_law_mixed" s__law_mixed f fd) (hx : mg "_law_mixed" = some (.ref f)) (bd : Binds K fd ["draw"] []) (B : ∀ x ∈ bnames, mg x = none) (T : TB) (hT : T.tabs = tb) :
  DefOk P w K mg base T 3 "_law_mixed" f fd ["draw"] U0 (fun ds st => (fb__law_mixed (ev0 N__law_mixed ds) st).toR) :=
 def_ok (k := 2) (fb := fb__law_mixed) F sc__law_mixed hx bd fun cdv A outer s H E o => (fss_cons (fs_par (i := 1) (j := 2) o.calm o.nd (fa_cons (fe_op op_addA od_add (fe_ix o (fe_var 0) fe_str) fe_int) (fa_cons fe_int fa_nil)))
 (fss_cons (fs_sub o (fe_var 1) (fe_var 0) fe_str)
 (fss_cons (fs_for o.own o.calm (fi_seq (fe_lst (fa_cons fe_int (fa_cons fe_int (fa_cons fe_int (fa_cons fe_int fa_nil)))))) (fg_name (i := 3) o.nd) (fss_cons (fs_set (i := 4) o.nd (fe_op op_addA od_add (fe_op op_mulA od_mul fe_int (fe_var 1)) (fe_op op_fdivW od_fdiv (fe_var 3) fe_int)))
 (fss_cons (fs_for o.own o.calm (fi_seq (fe_ix o (fe_var 0) fe_str)) (fg_name (i := 5) o.nd) (fss_one (fs_set (i := 4) o.nd (fe_op op_mod od_mod (fe_callTy call_int1 cd_int (B _ (by decide : ("int" : Str) ∈ bnames)) (by decide +kernel) (fa_cons (fe_op op_addA od_add (fe_op op_addA od_add (fe_op op_mulA od_mul (fe_var 4) fe_int) (fe_var 5)) (fe_var 1)) fa_nil)) (fe_var 3)))))
 (fss_one (fs_set (i := 2) o.nd (fe_op op_addA od_add (fe_op op_mulA od_mul (fe_var 2) fe_int) (fe_op op_mod od_mod (fe_callTy call_int1 cd_int (B _ (by decide : ("int" : Str) ∈ bnames)) (by decide +kernel) (fa_cons (fe_op op_pow od_pow (fe_var 4) fe_int) fa_nil)) (fe_var 3))))))))
 (fss_one (fs_ret (fe_var 2))))))
/-! ### _law_take -/
abbrev s__law_take : Stmt := top 49
abbrev N__law_take : List Str := ["draw", "many", "told"]
theorem sc__law_take : FnScope N__law_take ["draw", "many"] (defScope s__law_take) := ⟨rfl, rfl, rfl, by decide +kernel, rfl, by decide +kernel, by decide +kernel⟩
noncomputable def fb__law_take (g__law_mixed : List D → Sto → R D) : DS :=
 (sSeq (sIf (dB (d2 (gEqW false) (d2 gIx (dVar 0) (dC (.str "rest"))) (dC (.int 0)))) (sSub (dIf (dB (d2 (gEqW true) (d2 gIx (dVar 0) (dC (.str "large"))) (dLst aNil))) (dM "list" gPopAt (d2 gIx (dVar 0) (dC (.str "large"))) (aCons (dC (.int 0)) aNil)) (dCall g__law_mixed (aCons (dVar 0) aNil))) (dVar 0) (dC (.str "rest"))) sNil)
 (sSeq (sAsg (d2 gMod (dCall gInt1 (aCons (d2 gIx (dVar 0) (dC (.str "rest"))) aNil)) (dVar 1)) (.nm 2))
 (sSeq (sSub (d2 gFdiv (dCall gInt1 (aCons (d2 gIx (dVar 0) (dC (.str "rest"))) aNil)) (dVar 1)) (dVar 0) (dC (.str "rest")))
 (sRet (dVar 2)))))
theorem raw__law_take {P : Program} {w : World} {K : PySem.W.Frag} {mg : Str → Option Value} {base : Heap} {tb : List (Addr × Str)} {f : Addr} {fd : FuncData} (F : Fun K "_law_take" "_law_take" s__law_take f fd) (hx : mg "_law_take" = some (.ref f)) (bd : Binds K fd ["draw", "many"] []) (B : ∀ x ∈ bnames, mg x = none)
  {f__law_mixed : Addr} {fd__law_mixed : FuncData} {g__law_mixed : List D → Sto → R D} (H__law_mixed : ∀ T : TB, T.tabs = tb → DefOk P w K mg base T 3 "_law_mixed" f__law_mixed fd__law_mixed ["draw"] U0 g__law_mixed) (T : TB) (hT : T.tabs = tb) :
  DefOk P w K mg base T 4 "_law_take" f fd ["draw", "many"] U0 (fun ds st => (fb__law_take g__law_mixed (ev0 N__law_take ds) st).toR) :=
 def_ok (k := 3) (fb := fb__law_take g__law_mixed) F sc__law_take hx bd fun cdv A outer s H E o => (fss_cons (fs_if (ft_cmp  (op_eqW o.room.units) od_eqW (fe_ix o (fe_var 0) fe_str) fe_int) (fss_one (fs_sub o (fe_if (ft_cmp  (op_neW o.room.units) od_neW (fe_ix o (fe_var 0) fe_str) (fe_lst fa_nil)) (fe_m PySem.F.plainAttrs_list PySem.F.slot_list_pop PySem.F.type_list_pop mt_popAt md_popAt (fe_ix o (fe_var 0) fe_str) (fa_cons fe_int fa_nil)) (fe_call (H__law_mixed _ hT) o (fa_cons (fe_var 0) fa_nil))) (fe_var 0) fe_str)) fss_nil)
 (fss_cons (fs_set (i := 2) o.nd (fe_op op_mod od_mod (fe_callTy call_int1 cd_int (B _ (by decide : ("int" : Str) ∈ bnames)) (by decide +kernel) (fa_cons (fe_ix o (fe_var 0) fe_str) fa_nil)) (fe_var 1)))
 (fss_cons (fs_sub o (fe_op op_fdivW od_fdiv (fe_callTy call_int1 cd_int (B _ (by decide : ("int" : Str) ∈ bnames)) (by decide +kernel) (fa_cons (fe_ix o (fe_var 0) fe_str) fa_nil)) (fe_var 1)) (fe_var 0) fe_str)
 (fss_one (fs_ret (fe_var 2))))))
/-! ### _law_pick -/
abbrev s__law_pick : Stmt := top 50
abbrev N__law_pick : List Str := ["draw", "some"]
theorem sc__law_pick : FnScope N__law_pick ["draw", "some"] (defScope s__law_pick) := ⟨rfl, rfl, rfl, by decide +kernel, rfl, by decide +kernel, by decide +kernel⟩
noncomputable def fb__law_pick (g__law_take : List D → Sto → R D) : DS :=
 (sRet (d2 gIx (dVar 1) (dCall g__law_take (aCons (dVar 0) (aCons (dCall gLen (aCons (dVar 1) aNil)) aNil)))))
theorem raw__law_pick {P : Program} {w : World} {K : PySem.W.Frag} {mg : Str → Option Value} {base : Heap} {tb : List (Addr × Str)} {f : Addr} {fd : FuncData} (F : Fun K "_law_pick" "_law_pick" s__law_pick f fd) (hx : mg "_law_pick" = some (.ref f)) (bd : Binds K fd ["draw", "some"] []) (B : ∀ x ∈ bnames, mg x = none)
  {f__law_take : Addr} {fd__law_take : FuncData} {g__law_take : List D → Sto → R D} (H__law_take : ∀ T : TB, T.tabs = tb → DefOk P w K mg base T 4 "_law_take" f__law_take fd__law_take ["draw", "many"] U0 g__law_take) (T : TB) (hT : T.tabs = tb) :
  DefOk P w K mg base T 5 "_law_pick" f fd ["draw", "some"] U0 (fun ds st => (fb__law_pick g__law_take (ev0 N__law_pick ds) st).toR) :=
 def_ok (k := 4) (fb := fb__law_pick g__law_take) F sc__law_pick hx bd fun cdv A outer s H E o => (fss_one (fs_ret (fe_ix o (fe_var 1) (fe_call (H__law_take _ hT) o (fa_cons (fe_var 0) (fa_cons (fe_callB call_len cd_len (B _ (by decide : ("len" : Str) ∈ bnames)) (by decide +kernel) (fa_cons (fe_var 1) fa_nil)) fa_nil))))))
/-! ### _law_caught -/
abbrev s__law_caught : Stmt := top 51
abbrev N__law_caught : List Str := ["work", "error", "caught"]
theorem sc__law_caught : FnScope N__law_caught ["work"] (defScope s__law_caught) := ⟨rfl, rfl, rfl, by decide +kernel, rfl, by decide +kernel, by decide +kernel⟩
noncomputable def fb__law_caught (c0 : Clo) (cl : Sto → R D) : DS :=
 (sSeq (sAsg (dC .non) (.nm 1))
 (sSeq (sCaught (subE "DescentError") 2 (sExpr (dAct c0 cl 0)) (sAsg (dVar 2) (.nm 1)))
 (sRet (dVar 1))))
theorem raw__law_caught {P : Program} {w : World} {K : PySem.W.Frag} {mg : Str → Option Value} {base : Heap} {tb : List (Addr × Str)} {f : Addr} {fd : FuncData} (F : Fun K "_law_caught" "_law_caught" s__law_caught f fd) (hx : mg "_law_caught" = some (.ref f)) (bd : Binds K fd ["work"] []) {B_DescentError : Addr} (C_DescentError : Catch K mg "DescentError" B_DescentError) (T : TB) (U : UP) (c0 : Clo) (cl : Sto → R D) (hT : T.tabs = tb) (S : USt U) (HC : CloOK1 P w K mg base 6 T U c0 cl) :
  DefOk P w K mg base T 7 "_law_caught" f fd ["work"] U (fun ds st => (fb__law_caught c0 cl (ev0 N__law_caught ds) st).toR) :=
 def_okU (k := 6) (fb := fb__law_caught c0 cl) F sc__law_caught hx bd fun cdv A outer s H E hU o => (fss_cons (fs_set (i := 1) o.nd fe_non)
 (fss_cons (fs_caught (i := 2) o ⟨rfl, by decide, .inl C_DescentError.at_⟩ C_DescentError.sub (fun W' pn xe o1 => (fss_one (fs_expr (fe_act HC (o1) S hU)))) (fun a pn => (fss_one (fs_set (i := 1) o.nd (fe_var 2)))))
 (fss_one (fs_ret (fe_var 1)))))
/-! ### ones_told -/
abbrev s_ones_told : Stmt := top 40
abbrev N_ones_told : List Str := ["word", "k"]
theorem sc_ones_told : FnScope N_ones_told ["word"] (defScope s_ones_told) := ⟨rfl, rfl, rfl, by decide +kernel, rfl, by decide +kernel, by decide +kernel⟩
noncomputable def fb_ones_told : DS :=
 (sRet (dCall gTupleA (aCons (dLc [1] (dIt gRange1 (aCons (dCall gLen (aCons (dVar 0) aNil)) aNil)) (.nm 1) (dB (d2 (gEqW false) (d2 gIx (dVar 0) (dVar 1)) (dC (.str "1")))) (d2 gAdd (dVar 1) (dC (.int 1)))) aNil)))
theorem raw_ones_told {P : Program} {w : World} {K : PySem.W.Frag} {mg : Str → Option Value} {base : Heap} {tb : List (Addr × Str)} {f : Addr} {fd : FuncData} (F : Fun K "ones_told" "ones_told" s_ones_told f fd) (hx : mg "ones_told" = some (.ref f)) (bd : Binds K fd ["word"] []) (B : ∀ x ∈ bnames, mg x = none) (T : TB) (hT : T.tabs = tb) :
  DefOk P w K mg base T 3 "ones_told" f fd ["word"] U0 (fun ds st => (fb_ones_told (ev0 N_ones_told ds) st).toR) :=
 def_ok (k := 2) (fb := fb_ones_told) F sc_ones_told hx bd fun cdv A outer s H E o => (fss_one (fs_ret (fe_callTy (call_tupleB o.calm) cd_tupleA (B _ (by decide : ("tuple" : Str) ∈ bnames)) (by decide +kernel) (fa_cons (fe_lc o.calm o.nd (fi_range1 (B _ (by decide : ("range" : Str) ∈ bnames)) (fa_cons (fe_callB call_len cd_len (B _ (by decide : ("len" : Str) ∈ bnames)) (by decide +kernel) (fa_cons (fe_var 0) fa_nil)) fa_nil)) (blkOk_by (N := N_ones_told) (sc := defScope s_ones_told) (own := [("k", 1)]) (by decide +kernel)) (fun s H C cl fp => (fg_name (i := 1) (Ok.blk o s H _ _ fp).nd)) (fun s H C cl fp => (fts_one (ft_cmp  (op_eqW (Ok.blk o s H _ _ fp).room.units) od_eqW (fe_ix (Ok.blk o s H _ _ fp) (fe_var 0) (fe_var 1)) fe_str))) (fun s H C cl fp => (fe_op op_addA od_add (fe_var 1) fe_int))) fa_nil))))
/-! ### is_word_of -/
abbrev s_is_word_of : Stmt := top 37
abbrev N_is_word_of : List Str := ["thing", "many", "sign"]
theorem sc_is_word_of : FnScope N_is_word_of ["thing", "many"] (defScope s_is_word_of) := ⟨rfl, rfl, rfl, by decide +kernel, rfl, by decide +kernel, by decide +kernel⟩
noncomputable def fb_is_word_of : DS :=
 (sRet (dAnd (dIsTy "str" (dVar 0)) (dAnd (d2 (gEqW false) (dCall gLen (aCons (dVar 0) aNil)) (dVar 1)) (dCall (gAllAny true) (aCons (dLc [2] (dIter (dVar 0)) (.nm 2) bYes (d2 (gIn false) (dVar 2) (dC (.str "01")))) aNil)))))
theorem raw_is_word_of {P : Program} {w : World} {K : PySem.W.Frag} {mg : Str → Option Value} {base : Heap} {tb : List (Addr × Str)} {f : Addr} {fd : FuncData} (F : Fun K "is_word_of" "is_word_of" s_is_word_of f fd) (hx : mg "is_word_of" = some (.ref f)) (bd : Binds K fd ["thing", "many"] []) (B : ∀ x ∈ bnames, mg x = none) (T : TB) (hT : T.tabs = tb) :
  DefOk P w K mg base T 3 "is_word_of" f fd ["thing", "many"] U0 (fun ds st => (fb_is_word_of (ev0 N_is_word_of ds) st).toR) :=
 def_ok (k := 2) (fb := fb_is_word_of) F sc_is_word_of hx bd fun cdv A outer s H E o => (fss_one (fs_ret (fe_and (fe_isTy (B _ (by decide : ("isinstance" : Str) ∈ bnames)) (B _ (by decide : ("str" : Str) ∈ bnames)) (by decide +kernel) (by decide) (fe_var 0)) (fe_and (fe_cmp  (op_eqW o.room.units) od_eqW (fe_callB call_len cd_len (B _ (by decide : ("len" : Str) ∈ bnames)) (by decide +kernel) (fa_cons (fe_var 0) fa_nil)) (fe_var 1)) (fe_one (fe_callB (cr_all o.calm) cd_all (B _ (by decide : ("all" : Str) ∈ bnames)) (by decide +kernel) (fa_cons (fe_lc o.calm o.nd (fi_seq (fe_var 0)) (blkOk_by (N := N_is_word_of) (sc := defScope s_is_word_of) (own := [("sign", 2)]) (by decide +kernel)) (fun s H C cl fp => (fg_name (i := 2) (Ok.blk o s H _ _ fp).nd)) (fun s H C cl fp => fts_nil) (fun s H C cl fp => (fe_cmp  op_inA od_in (fe_var 2) fe_str))) fa_nil)))))))
/-! ### is_any_word -/
abbrev s_is_any_word : Stmt := top 39
abbrev N_is_any_word : List Str := ["thing"]
theorem sc_is_any_word : FnScope N_is_any_word ["thing"] (defScope s_is_any_word) := ⟨rfl, rfl, rfl, by decide +kernel, rfl, by decide +kernel, by decide +kernel⟩
noncomputable def fb_is_any_word (g_is_word_of : List D → Sto → R D) : DS :=
 (sRet (dAnd (dIsTy "str" (dVar 0)) (dAnd (d2 gLe (dCall gLen (aCons (dVar 0) aNil)) (dC cv_MOST)) (dCall g_is_word_of (aCons (dVar 0) (aCons (dCall gLen (aCons (dVar 0) aNil)) aNil))))))
theorem raw_is_any_word {P : Program} {w : World} {K : PySem.W.Frag} {mg : Str → Option Value} {base : Heap} {tb : List (Addr × Str)} {f : Addr} {fd : FuncData} (F : Fun K "is_any_word" "is_any_word" s_is_any_word f fd) (hx : mg "is_any_word" = some (.ref f)) (bd : Binds K fd ["thing"] []) (B : ∀ x ∈ bnames, mg x = none) (G_MOST : Gv K mg "MOST" cv_MOST)
  {f_is_word_of : Addr} {fd_is_word_of : FuncData} {g_is_word_of : List D → Sto → R D} (H_is_word_of : ∀ T : TB, T.tabs = tb → DefOk P w K mg base T 3 "is_word_of" f_is_word_of fd_is_word_of ["thing", "many"] U0 g_is_word_of) (T : TB) (hT : T.tabs = tb) :
  DefOk P w K mg base T 4 "is_any_word" f fd ["thing"] U0 (fun ds st => (fb_is_any_word g_is_word_of (ev0 N_is_any_word ds) st).toR) :=
 def_ok (k := 3) (fb := fb_is_any_word g_is_word_of) F sc_is_any_word hx bd fun cdv A outer s H E o => (fss_one (fs_ret (fe_and (fe_isTy (B _ (by decide : ("isinstance" : Str) ∈ bnames)) (B _ (by decide : ("str" : Str) ∈ bnames)) (by decide +kernel) (by decide) (fe_var 0)) (fe_and (fe_cmp  op_le od_le (fe_callB call_len cd_len (B _ (by decide : ("len" : Str) ∈ bnames)) (by decide +kernel) (fa_cons (fe_var 0) fa_nil)) (fe_gv G_MOST)) (fe_one (fe_call (H_is_word_of _ hT) o (fa_cons (fe_var 0) (fa_cons (fe_callB call_len cd_len (B _ (by decide : ("len" : Str) ∈ bnames)) (by decide +kernel) (fa_cons (fe_var 0) fa_nil)) fa_nil))))))))
/-! ### ones -/
abbrev s_ones : Stmt := top 41
abbrev N_ones : List Str := ["word"]
theorem sc_ones : FnScope N_ones ["word"] (defScope s_ones) := ⟨rfl, rfl, rfl, by decide +kernel, rfl, by decide +kernel, by decide +kernel⟩
noncomputable def fb_ones (g_is_any_word : List D → Sto → R D) (g_ones_told : List D → Sto → R D) : DS :=
 (sSeq (sIf (bNot (dB (dCall g_is_any_word (aCons (dVar 0) aNil)))) (sRaise "BadWord" (dVar 0)) sNil)
 (sRet (dCall g_ones_told (aCons (dVar 0) aNil))))
theorem raw_ones {P : Program} {w : World} {K : PySem.W.Frag} {mg : Str → Option Value} {base : Heap} {tb : List (Addr × Str)} {f : Addr} {fd : FuncData} (F : Fun K "ones" "ones" s_ones f fd) (hx : mg "ones" = some (.ref f)) (bd : Binds K fd ["word"] []) (E_BadWord : ExcK K mg "BadWord")
  {f_is_any_word : Addr} {fd_is_any_word : FuncData} {g_is_any_word : List D → Sto → R D} (H_is_any_word : ∀ T : TB, T.tabs = tb → DefOk P w K mg base T 4 "is_any_word" f_is_any_word fd_is_any_word ["thing"] U0 g_is_any_word)
  {f_ones_told : Addr} {fd_ones_told : FuncData} {g_ones_told : List D → Sto → R D} (H_ones_told : ∀ T : TB, T.tabs = tb → DefOk P w K mg base T 3 "ones_told" f_ones_told fd_ones_told ["word"] U0 g_ones_told) (T : TB) (hT : T.tabs = tb) :
  DefOk P w K mg base T 5 "ones" f fd ["word"] U0 (fun ds st => (fb_ones g_is_any_word g_ones_told (ev0 N_ones ds) st).toR) :=
 def_ok (k := 4) (fb := fb_ones g_is_any_word g_ones_told) F sc_ones hx bd fun cdv A outer s H E o => (fss_cons (fs_if (ft_not (ft_val (fe_call (H_is_any_word _ hT) o (fa_cons (fe_var 0) fa_nil)))) (fss_one (fs_raise E_BadWord o (fe_var 0))) fss_nil)
 (fss_one (fs_ret (fe_call (H_ones_told _ hT) o (fa_cons (fe_var 0) fa_nil)))))
/-! ### word_told -/
abbrev s_word_told : Stmt := top 44
abbrev N_word_told : List Str := ["places", "many", "k"]
theorem sc_word_told : FnScope N_word_told ["places", "many"] (defScope s_word_told) := ⟨rfl, rfl, rfl, by decide +kernel, rfl, by decide +kernel, by decide +kernel⟩
noncomputable def fb_word_told : DS :=
 (sRet (dM "str" gJoin (dC (.str "")) (aCons (dLc [2] (dIt gRange1 (aCons (dVar 1) aNil)) (.nm 2) bYes (dIf (dB (d2 (gIn false) (d2 gAdd (dVar 2) (dC (.int 1))) (dVar 0))) (dC (.str "1")) (dC (.str "0")))) aNil)))
theorem raw_word_told {P : Program} {w : World} {K : PySem.W.Frag} {mg : Str → Option Value} {base : Heap} {tb : List (Addr × Str)} {f : Addr} {fd : FuncData} (F : Fun K "word_told" "word_told" s_word_told f fd) (hx : mg "word_told" = some (.ref f)) (bd : Binds K fd ["places", "many"] []) (B : ∀ x ∈ bnames, mg x = none) (T : TB) (hT : T.tabs = tb) :
  DefOk P w K mg base T 3 "word_told" f fd ["places", "many"] U0 (fun ds st => (fb_word_told (ev0 N_word_told ds) st).toR) :=
 def_ok (k := 2) (fb := fb_word_told) F sc_word_told hx bd fun cdv A outer s H E o => (fss_one (fs_ret (fe_m PySem.F.plainAttrs_str PySem.F.slot_str_join PySem.F.type_str_join mt_join md_join fe_str (fa_cons (fe_lc o.calm o.nd (fi_range1 (B _ (by decide : ("range" : Str) ∈ bnames)) (fa_cons (fe_var 1) fa_nil)) (blkOk_by (N := N_word_told) (sc := defScope s_word_told) (own := [("k", 2)]) (by decide +kernel)) (fun s H C cl fp => (fg_name (i := 2) (Ok.blk o s H _ _ fp).nd)) (fun s H C cl fp => fts_nil) (fun s H C cl fp => (fe_if (ft_cmp  op_inA od_in (fe_op op_addA od_add (fe_var 2) fe_int) (fe_var 0)) fe_str fe_str))) fa_nil))))
/-! ### are_ascending -/
abbrev s_are_ascending : Stmt := top 42
abbrev N_are_ascending : List Str := ["some", "one", "other"]
theorem sc_are_ascending : FnScope N_are_ascending ["some"] (defScope s_are_ascending) := ⟨rfl, rfl, rfl, by decide +kernel, rfl, by decide +kernel, by decide +kernel⟩
noncomputable def fb_are_ascending : DS :=
 (sRet (dCall (gAllAny true) (aCons (dLc [1, 2] (dIt gZip (aCons (dVar 0) (aCons (dCut (dVar 0) (oSome (dC (.int 1))) oNone) aNil))) (.tp [(.nm 1), (.nm 2)]) bYes (d2 gLt (dVar 1) (dVar 2))) aNil)))
theorem raw_are_ascending {P : Program} {w : World} {K : PySem.W.Frag} {mg : Str → Option Value} {base : Heap} {tb : List (Addr × Str)} {f : Addr} {fd : FuncData} (F : Fun K "are_ascending" "are_ascending" s_are_ascending f fd) (hx : mg "are_ascending" = some (.ref f)) (bd : Binds K fd ["some"] []) (B : ∀ x ∈ bnames, mg x = none) (T : TB) (hT : T.tabs = tb) :
  DefOk P w K mg base T 3 "are_ascending" f fd ["some"] U0 (fun ds st => (fb_are_ascending (ev0 N_are_ascending ds) st).toR) :=
 def_ok (k := 2) (fb := fb_are_ascending) F sc_are_ascending hx bd fun cdv A outer s H E o => (fss_one (fs_ret (fe_callB (cr_all o.calm) cd_all (B _ (by decide : ("all" : Str) ∈ bnames)) (by decide +kernel) (fa_cons (fe_lc o.calm o.nd (fi_zip (B _ (by decide : ("zip" : Str) ∈ bnames)) (fa_cons (fe_var 0) (fa_cons (fe_cut (fe_var 0) (fo_some fe_int) fo_none) fa_nil))) (blkOk_by (N := N_are_ascending) (sc := defScope s_are_ascending) (own := [("one", 1), ("other", 2)]) (by decide +kernel)) (fun s H C cl fp => (fg_tup (Ok.blk o s H _ _ fp).calm (fgs_cons (fg_name (i := 1) (Ok.blk o s H _ _ fp).nd) (fgs_cons (fg_name (i := 2) (Ok.blk o s H _ _ fp).nd) fgs_nil)))) (fun s H C cl fp => fts_nil) (fun s H C cl fp => (fe_cmp  op_ltA od_lt (fe_var 1) (fe_var 2)))) fa_nil))))
/-! ### is_number -/
abbrev s_is_number : Stmt := top 35
abbrev N_is_number : List Str := ["thing", "low", "high"]
theorem sc_is_number : FnScope N_is_number ["thing", "low", "high"] (defScope s_is_number) := ⟨rfl, rfl, rfl, by decide +kernel, rfl, by decide +kernel, by decide +kernel⟩
noncomputable def fb_is_number : DS :=
 (sRet (dAnd (dIsTy "int" (dVar 0)) (dAnd (dNot (dIsTy "bool" (dVar 0))) (d3 gLe gLe (dVar 1) (dVar 0) (dVar 2)))))
theorem raw_is_number {P : Program} {w : World} {K : PySem.W.Frag} {mg : Str → Option Value} {base : Heap} {tb : List (Addr × Str)} {f : Addr} {fd : FuncData} (F : Fun K "is_number" "is_number" s_is_number f fd) (hx : mg "is_number" = some (.ref f)) (bd : Binds K fd ["thing", "low", "high"] []) (B : ∀ x ∈ bnames, mg x = none) (T : TB) (hT : T.tabs = tb) :
  DefOk P w K mg base T 3 "is_number" f fd ["thing", "low", "high"] U0 (fun ds st => (fb_is_number (ev0 N_is_number ds) st).toR) :=
 def_ok (k := 2) (fb := fb_is_number) F sc_is_number hx bd fun cdv A outer s H E o => (fss_one (fs_ret (fe_and (fe_isTy (B _ (by decide : ("isinstance" : Str) ∈ bnames)) (B _ (by decide : ("int" : Str) ∈ bnames)) (by decide +kernel) (by decide) (fe_var 0)) (fe_and (fe_not (fe_isTy (B _ (by decide : ("isinstance" : Str) ∈ bnames)) (B _ (by decide : ("bool" : Str) ∈ bnames)) (by decide +kernel) (by decide) (fe_var 0))) (fe_one (fe_chain  op_le  op_le od_le od_le (fe_var 1) (fe_var 0) (fe_var 2)))))))
/-! ### are_places -/
abbrev s_are_places : Stmt := top 43
abbrev N_are_places : List Str := ["thing", "many", "place"]
theorem sc_are_places : FnScope N_are_places ["thing", "many"] (defScope s_are_places) := ⟨rfl, rfl, rfl, by decide +kernel, rfl, by decide +kernel, by decide +kernel⟩
noncomputable def fb_are_places (g_is_number : List D → Sto → R D) (g_are_ascending : List D → Sto → R D) : DS :=
 (sSeq (sIf (bOr (bNot (dB (dIsTy "tuple" (dVar 0)))) (bNot (dB (dCall (gAllAny true) (aCons (dLc [2] (dIter (dVar 0)) (.nm 2) bYes (dCall g_is_number (aCons (dVar 2) (aCons (dC (.int 1)) (aCons (dVar 1) aNil))))) aNil))))) (sRet (dC (.bl false))) sNil)
 (sRet (dCall g_are_ascending (aCons (dVar 0) aNil))))
theorem raw_are_places {P : Program} {w : World} {K : PySem.W.Frag} {mg : Str → Option Value} {base : Heap} {tb : List (Addr × Str)} {f : Addr} {fd : FuncData} (F : Fun K "are_places" "are_places" s_are_places f fd) (hx : mg "are_places" = some (.ref f)) (bd : Binds K fd ["thing", "many"] []) (B : ∀ x ∈ bnames, mg x = none)
  {f_is_number : Addr} {fd_is_number : FuncData} {g_is_number : List D → Sto → R D} (H_is_number : ∀ T : TB, T.tabs = tb → DefOk P w K mg base T 3 "is_number" f_is_number fd_is_number ["thing", "low", "high"] U0 g_is_number)
  {f_are_ascending : Addr} {fd_are_ascending : FuncData} {g_are_ascending : List D → Sto → R D} (H_are_ascending : ∀ T : TB, T.tabs = tb → DefOk P w K mg base T 3 "are_ascending" f_are_ascending fd_are_ascending ["some"] U0 g_are_ascending) (T : TB) (hT : T.tabs = tb) :
  DefOk P w K mg base T 4 "are_places" f fd ["thing", "many"] U0 (fun ds st => (fb_are_places g_is_number g_are_ascending (ev0 N_are_places ds) st).toR) :=
 def_ok (k := 3) (fb := fb_are_places g_is_number g_are_ascending) F sc_are_places hx bd fun cdv A outer s H E o => (fss_cons (fs_if (ft_w (fw_or (ft_not (ft_val (fe_isTy (B _ (by decide : ("isinstance" : Str) ∈ bnames)) (B _ (by decide : ("tuple" : Str) ∈ bnames)) (by decide +kernel) (by decide) (fe_var 0)))) (fw_or1 (ft_not (ft_val (fe_callB (cr_all o.calm) cd_all (B _ (by decide : ("all" : Str) ∈ bnames)) (by decide +kernel) (fa_cons (fe_lc o.calm o.nd (fi_seq (fe_var 0)) (blkOk_by (N := N_are_places) (sc := defScope s_are_places) (own := [("place", 2)]) (by decide +kernel)) (fun s H C cl fp => (fg_name (i := 2) (Ok.blk o s H _ _ fp).nd)) (fun s H C cl fp => fts_nil) (fun s H C cl fp => (fe_call (H_is_number _ hT) (Ok.blk o s H _ _ fp) (fa_cons (fe_var 2) (fa_cons fe_int (fa_cons (fe_var 1) fa_nil)))))) fa_nil))))))) (fss_one (fs_ret fe_bl)) fss_nil)
 (fss_one (fs_ret (fe_call (H_are_ascending _ hT) o (fa_cons (fe_var 0) fa_nil)))))
/-! ### word_of -/
abbrev s_word_of : Stmt := top 45
abbrev N_word_of : List Str := ["places", "many"]
theorem sc_word_of : FnScope N_word_of ["places", "many"] (defScope s_word_of) := ⟨rfl, rfl, rfl, by decide +kernel, rfl, by decide +kernel, by decide +kernel⟩
noncomputable def fb_word_of (g_are_places : List D → Sto → R D) (g_is_number : List D → Sto → R D) (g_word_told : List D → Sto → R D) : DS :=
 (sSeq (sIf (bNot (dB (dCall g_are_places (aCons (dVar 0) (aCons (dC cv_MOST) aNil))))) (sRaise "BadPlaces" (dVar 0)) sNil)
 (sSeq (sIf (bNot (dB (dCall g_is_number (aCons (dVar 1) (aCons (dCall gMaxS (aCons (d2 gAdd (dTup (aCons (dC (.int 0)) aNil)) (dVar 0)) aNil)) (aCons (dC cv_MOST) aNil)))))) (sRaise "BadMany" (dVar 1)) sNil)
 (sRet (dCall g_word_told (aCons (dVar 0) (aCons (dVar 1) aNil))))))
theorem raw_word_of {P : Program} {w : World} {K : PySem.W.Frag} {mg : Str → Option Value} {base : Heap} {tb : List (Addr × Str)} {f : Addr} {fd : FuncData} (F : Fun K "word_of" "word_of" s_word_of f fd) (hx : mg "word_of" = some (.ref f)) (bd : Binds K fd ["places", "many"] []) (B : ∀ x ∈ bnames, mg x = none) (G_MOST : Gv K mg "MOST" cv_MOST) (E_BadPlaces : ExcK K mg "BadPlaces") (E_BadMany : ExcK K mg "BadMany")
  {f_are_places : Addr} {fd_are_places : FuncData} {g_are_places : List D → Sto → R D} (H_are_places : ∀ T : TB, T.tabs = tb → DefOk P w K mg base T 4 "are_places" f_are_places fd_are_places ["thing", "many"] U0 g_are_places)
  {f_is_number : Addr} {fd_is_number : FuncData} {g_is_number : List D → Sto → R D} (H_is_number : ∀ T : TB, T.tabs = tb → DefOk P w K mg base T 3 "is_number" f_is_number fd_is_number ["thing", "low", "high"] U0 g_is_number)
  {f_word_told : Addr} {fd_word_told : FuncData} {g_word_told : List D → Sto → R D} (H_word_told : ∀ T : TB, T.tabs = tb → DefOk P w K mg base T 3 "word_told" f_word_told fd_word_told ["places", "many"] U0 g_word_told) (T : TB) (hT : T.tabs = tb) :
  DefOk P w K mg base T 5 "word_of" f fd ["places", "many"] U0 (fun ds st => (fb_word_of g_are_places g_is_number g_word_told (ev0 N_word_of ds) st).toR) :=
 def_ok (k := 4) (fb := fb_word_of g_are_places g_is_number g_word_told) F sc_word_of hx bd fun cdv A outer s H E o => (fss_cons (fs_if (ft_not (ft_val (fe_call (H_are_places _ hT) o (fa_cons (fe_var 0) (fa_cons (fe_gv G_MOST) fa_nil))))) (fss_one (fs_raise E_BadPlaces o (fe_var 0))) fss_nil)
 (fss_cons (fs_if (ft_not (ft_val (fe_call (H_is_number _ hT) o (fa_cons (fe_var 1) (fa_cons (fe_callB (call_maxA o) cd_maxS (B _ (by decide : ("max" : Str) ∈ bnames)) (by decide +kernel) (fa_cons (fe_op op_addA od_add (fe_tup (fa_cons fe_int fa_nil)) (fe_var 0)) fa_nil)) (fa_cons (fe_gv G_MOST) fa_nil)))))) (fss_one (fs_raise E_BadMany o (fe_var 1))) fss_nil)
 (fss_one (fs_ret (fe_call (H_word_told _ hT) o (fa_cons (fe_var 0) (fa_cons (fe_var 1) fa_nil)))))))
/-! ### is_word -/
abbrev s_is_word : Stmt := top 38
abbrev N_is_word : List Str := ["thing", "many"]
theorem sc_is_word : FnScope N_is_word ["thing", "many"] (defScope s_is_word) := ⟨rfl, rfl, rfl, by decide +kernel, rfl, by decide +kernel, by decide +kernel⟩
noncomputable def fb_is_word (g_is_number : List D → Sto → R D) (g_is_word_of : List D → Sto → R D) : DS :=
 (sSeq (sIf (bNot (dB (dCall g_is_number (aCons (dVar 1) (aCons (dC (.int 0)) (aCons (dC cv_MOST) aNil)))))) (sRaise "BadMany" (dVar 1)) sNil)
 (sRet (dCall g_is_word_of (aCons (dVar 0) (aCons (dVar 1) aNil)))))
theorem raw_is_word {P : Program} {w : World} {K : PySem.W.Frag} {mg : Str → Option Value} {base : Heap} {tb : List (Addr × Str)} {f : Addr} {fd : FuncData} (F : Fun K "is_word" "is_word" s_is_word f fd) (hx : mg "is_word" = some (.ref f)) (bd : Binds K fd ["thing", "many"] []) (G_MOST : Gv K mg "MOST" cv_MOST) (E_BadMany : ExcK K mg "BadMany")
  {f_is_number : Addr} {fd_is_number : FuncData} {g_is_number : List D → Sto → R D} (H_is_number : ∀ T : TB, T.tabs = tb → DefOk P w K mg base T 3 "is_number" f_is_number fd_is_number ["thing", "low", "high"] U0 g_is_number)
  {f_is_word_of : Addr} {fd_is_word_of : FuncData} {g_is_word_of : List D → Sto → R D} (H_is_word_of : ∀ T : TB, T.tabs = tb → DefOk P w K mg base T 3 "is_word_of" f_is_word_of fd_is_word_of ["thing", "many"] U0 g_is_word_of) (T : TB) (hT : T.tabs = tb) :
  DefOk P w K mg base T 4 "is_word" f fd ["thing", "many"] U0 (fun ds st => (fb_is_word g_is_number g_is_word_of (ev0 N_is_word ds) st).toR) :=
 def_ok (k := 3) (fb := fb_is_word g_is_number g_is_word_of) F sc_is_word hx bd fun cdv A outer s H E o => (fss_cons (fs_if (ft_not (ft_val (fe_call (H_is_number _ hT) o (fa_cons (fe_var 1) (fa_cons fe_int (fa_cons (fe_gv G_MOST) fa_nil)))))) (fss_one (fs_raise E_BadMany o (fe_var 1))) fss_nil)
 (fss_one (fs_ret (fe_call (H_is_word_of _ hT) o (fa_cons (fe_var 0) (fa_cons (fe_var 1) fa_nil))))))
/-! ### _law_kinds -/
abbrev s__law_kinds : Stmt := top 52
abbrev N__law_kinds : List Str := ["error", "told"]
theorem sc__law_kinds : FnScope N__law_kinds ["error"] (defScope s__law_kinds) := ⟨rfl, rfl, rfl, by decide +kernel, rfl, by decide +kernel, by decide +kernel⟩
noncomputable def fb__law_kinds : DS :=
 (sSeq (sAsg (dLst aNil) (.nm 1))
 (sSeq (sExpr (dM "list" gExtend (dVar 1) (aCons (d2 gMul (dLst (aCons (dC (.str "BadDeeds")) aNil)) (dCall gInt1 (aCons (dIsX (tabE "BadDeeds") (dVar 0)) aNil))) aNil)))
 (sSeq (sExpr (dM "list" gExtend (dVar 1) (aCons (d2 gMul (dLst (aCons (dC (.str "BadKind")) aNil)) (dCall gInt1 (aCons (dIsX (tabE "BadKind") (dVar 0)) aNil))) aNil)))
 (sSeq (sExpr (dM "list" gExtend (dVar 1) (aCons (d2 gMul (dLst (aCons (dC (.str "BadLife")) aNil)) (dCall gInt1 (aCons (dIsX (tabE "BadLife") (dVar 0)) aNil))) aNil)))
 (sSeq (sExpr (dM "list" gExtend (dVar 1) (aCons (d2 gMul (dLst (aCons (dC (.str "BadLine")) aNil)) (dCall gInt1 (aCons (dIsX (tabE "BadLine") (dVar 0)) aNil))) aNil)))
 (sSeq (sExpr (dM "list" gExtend (dVar 1) (aCons (d2 gMul (dLst (aCons (dC (.str "BadLot")) aNil)) (dCall gInt1 (aCons (dIsX (tabE "BadLot") (dVar 0)) aNil))) aNil)))
 (sSeq (sExpr (dM "list" gExtend (dVar 1) (aCons (d2 gMul (dLst (aCons (dC (.str "BadMany")) aNil)) (dCall gInt1 (aCons (dIsX (tabE "BadMany") (dVar 0)) aNil))) aNil)))
 (sSeq (sExpr (dM "list" gExtend (dVar 1) (aCons (d2 gMul (dLst (aCons (dC (.str "BadName")) aNil)) (dCall gInt1 (aCons (dIsX (tabE "BadName") (dVar 0)) aNil))) aNil)))
 (sSeq (sExpr (dM "list" gExtend (dVar 1) (aCons (d2 gMul (dLst (aCons (dC (.str "BadNew")) aNil)) (dCall gInt1 (aCons (dIsX (tabE "BadNew") (dVar 0)) aNil))) aNil)))
 (sSeq (sExpr (dM "list" gExtend (dVar 1) (aCons (d2 gMul (dLst (aCons (dC (.str "BadOne")) aNil)) (dCall gInt1 (aCons (dIsX (tabE "BadOne") (dVar 0)) aNil))) aNil)))
 (sSeq (sExpr (dM "list" gExtend (dVar 1) (aCons (d2 gMul (dLst (aCons (dC (.str "BadOther")) aNil)) (dCall gInt1 (aCons (dIsX (tabE "BadOther") (dVar 0)) aNil))) aNil)))
 (sSeq (sExpr (dM "list" gExtend (dVar 1) (aCons (d2 gMul (dLst (aCons (dC (.str "BadPairs")) aNil)) (dCall gInt1 (aCons (dIsX (tabE "BadPairs") (dVar 0)) aNil))) aNil)))
 (sSeq (sExpr (dM "list" gExtend (dVar 1) (aCons (d2 gMul (dLst (aCons (dC (.str "BadPlace")) aNil)) (dCall gInt1 (aCons (dIsX (tabE "BadPlace") (dVar 0)) aNil))) aNil)))
 (sSeq (sExpr (dM "list" gExtend (dVar 1) (aCons (d2 gMul (dLst (aCons (dC (.str "BadPlaces")) aNil)) (dCall gInt1 (aCons (dIsX (tabE "BadPlaces") (dVar 0)) aNil))) aNil)))
 (sSeq (sExpr (dM "list" gExtend (dVar 1) (aCons (d2 gMul (dLst (aCons (dC (.str "BadRecord")) aNil)) (dCall gInt1 (aCons (dIsX (tabE "BadRecord") (dVar 0)) aNil))) aNil)))
 (sSeq (sExpr (dM "list" gExtend (dVar 1) (aCons (d2 gMul (dLst (aCons (dC (.str "BadSecond")) aNil)) (dCall gInt1 (aCons (dIsX (tabE "BadSecond") (dVar 0)) aNil))) aNil)))
 (sSeq (sExpr (dM "list" gExtend (dVar 1) (aCons (d2 gMul (dLst (aCons (dC (.str "BadSome")) aNil)) (dCall gInt1 (aCons (dIsX (tabE "BadSome") (dVar 0)) aNil))) aNil)))
 (sSeq (sExpr (dM "list" gExtend (dVar 1) (aCons (d2 gMul (dLst (aCons (dC (.str "BadState")) aNil)) (dCall gInt1 (aCons (dIsX (tabE "BadState") (dVar 0)) aNil))) aNil)))
 (sSeq (sExpr (dM "list" gExtend (dVar 1) (aCons (d2 gMul (dLst (aCons (dC (.str "BadStrict")) aNil)) (dCall gInt1 (aCons (dIsX (tabE "BadStrict") (dVar 0)) aNil))) aNil)))
 (sSeq (sExpr (dM "list" gExtend (dVar 1) (aCons (d2 gMul (dLst (aCons (dC (.str "BadTable")) aNil)) (dCall gInt1 (aCons (dIsX (tabE "BadTable") (dVar 0)) aNil))) aNil)))
 (sSeq (sExpr (dM "list" gExtend (dVar 1) (aCons (d2 gMul (dLst (aCons (dC (.str "BadText")) aNil)) (dCall gInt1 (aCons (dIsX (tabE "BadText") (dVar 0)) aNil))) aNil)))
 (sSeq (sExpr (dM "list" gExtend (dVar 1) (aCons (d2 gMul (dLst (aCons (dC (.str "BadWeb")) aNil)) (dCall gInt1 (aCons (dIsX (tabE "BadWeb") (dVar 0)) aNil))) aNil)))
 (sSeq (sExpr (dM "list" gExtend (dVar 1) (aCons (d2 gMul (dLst (aCons (dC (.str "BadWord")) aNil)) (dCall gInt1 (aCons (dIsX (tabE "BadWord") (dVar 0)) aNil))) aNil)))
 (sSeq (sExpr (dM "list" gExtend (dVar 1) (aCons (d2 gMul (dLst (aCons (dC (.str "BadWork")) aNil)) (dCall gInt1 (aCons (dIsX (tabE "BadWork") (dVar 0)) aNil))) aNil)))
 (sSeq (sExpr (dM "list" gExtend (dVar 1) (aCons (d2 gMul (dLst (aCons (dC (.str "NoName")) aNil)) (dCall gInt1 (aCons (dIsX (tabE "NoName") (dVar 0)) aNil))) aNil)))
 (sSeq (sExpr (dM "list" gExtend (dVar 1) (aCons (d2 gMul (dLst (aCons (dC (.str "NotApart")) aNil)) (dCall gInt1 (aCons (dIsX (tabE "NotApart") (dVar 0)) aNil))) aNil)))
 (sSeq (sExpr (dM "list" gExtend (dVar 1) (aCons (d2 gMul (dLst (aCons (dC (.str "NotNow")) aNil)) (dCall gInt1 (aCons (dIsX (tabE "NotNow") (dVar 0)) aNil))) aNil)))
 (sSeq (sExpr (dM "list" gExtend (dVar 1) (aCons (d2 gMul (dLst (aCons (dC (.str "NoWeb")) aNil)) (dCall gInt1 (aCons (dIsX (tabE "NoWeb") (dVar 0)) aNil))) aNil)))
 (sSeq (sExpr (dM "list" gExtend (dVar 1) (aCons (d2 gMul (dLst (aCons (dC (.str "TooMany")) aNil)) (dCall gInt1 (aCons (dIsX (tabE "TooMany") (dVar 0)) aNil))) aNil)))
 (sSeq (sExpr (dM "list" gExtend (dVar 1) (aCons (d2 gMul (dLst (aCons (dC (.str "Twice")) aNil)) (dCall gInt1 (aCons (dIsX (tabE "Twice") (dVar 0)) aNil))) aNil)))
 (sRet (dVar 1))))))))))))))))))))))))))))))))
theorem raw__law_kinds {P : Program} {w : World} {K : PySem.W.Frag} {mg : Str → Option Value} {base : Heap} {tb : List (Addr × Str)} {f : Addr} {fd : FuncData} (F : Fun K "_law_kinds" "_law_kinds" s__law_kinds f fd) (hx : mg "_law_kinds" = some (.ref f)) (bd : Binds K fd ["error"] []) (B : ∀ x ∈ bnames, mg x = none) {A_BadDeeds : Addr} (I_BadDeeds : ClsI K mg "BadDeeds" A_BadDeeds) {A_BadKind : Addr} (I_BadKind : ClsI K mg "BadKind" A_BadKind) {A_BadLife : Addr} (I_BadLife : ClsI K mg "BadLife" A_BadLife) {A_BadLine : Addr} (I_BadLine : ClsI K mg "BadLine" A_BadLine) {A_BadLot : Addr} (I_BadLot : ClsI K mg "BadLot" A_BadLot) {A_BadMany : Addr} (I_BadMany : ClsI K mg "BadMany" A_BadMany) {A_BadName : Addr} (I_BadName : ClsI K mg "BadName" A_BadName) {A_BadNew : Addr} (I_BadNew : ClsI K mg "BadNew" A_BadNew) {A_BadOne : Addr} (I_BadOne : ClsI K mg "BadOne" A_BadOne) {A_BadOther : Addr} (I_BadOther : ClsI K mg "BadOther" A_BadOther) {A_BadPairs : Addr} (I_BadPairs : ClsI K mg "BadPairs" A_BadPairs) {A_BadPlace : Addr} (I_BadPlace : ClsI K mg "BadPlace" A_BadPlace) {A_BadPlaces : Addr} (I_BadPlaces : ClsI K mg "BadPlaces" A_BadPlaces) {A_BadRecord : Addr} (I_BadRecord : ClsI K mg "BadRecord" A_BadRecord) {A_BadSecond : Addr} (I_BadSecond : ClsI K mg "BadSecond" A_BadSecond) {A_BadSome : Addr} (I_BadSome : ClsI K mg "BadSome" A_BadSome) {A_BadState : Addr} (I_BadState : ClsI K mg "BadState" A_BadState) {A_BadStrict : Addr} (I_BadStrict : ClsI K mg "BadStrict" A_BadStrict) {A_BadTable : Addr} (I_BadTable : ClsI K mg "BadTable" A_BadTable) {A_BadText : Addr} (I_BadText : ClsI K mg "BadText" A_BadText) {A_BadWeb : Addr} (I_BadWeb : ClsI K mg "BadWeb" A_BadWeb) {A_BadWord : Addr} (I_BadWord : ClsI K mg "BadWord" A_BadWord) {A_BadWork : Addr} (I_BadWork : ClsI K mg "BadWork" A_BadWork) {A_NoName : Addr} (I_NoName : ClsI K mg "NoName" A_NoName) {A_NotApart : Addr} (I_NotApart : ClsI K mg "NotApart" A_NotApart) {A_NotNow : Addr} (I_NotNow : ClsI K mg "NotNow" A_NotNow) {A_NoWeb : Addr} (I_NoWeb : ClsI K mg "NoWeb" A_NoWeb) {A_TooMany : Addr} (I_TooMany : ClsI K mg "TooMany" A_TooMany) {A_Twice : Addr} (I_Twice : ClsI K mg "Twice" A_Twice) (T : TB) (hT : T.tabs = tb) :
  DefOk P w K mg base T 3 "_law_kinds" f fd ["error"] U0 (fun ds st => (fb__law_kinds (ev0 N__law_kinds ds) st).toR) :=
 def_ok (k := 2) (fb := fb__law_kinds) F sc__law_kinds hx bd fun cdv A outer s H E o => (fss_cons (fs_set (i := 1) o.nd (fe_lst fa_nil))
 (fss_cons (fs_expr (fe_m PySem.F.plainAttrs_list PySem.F.slot_list_extend PySem.F.type_list_extend mt_extend md_extend (fe_var 1) (fa_cons (fe_op op_mulA od_mul (fe_lst (fa_cons fe_str fa_nil)) (fe_callTy call_int1 cd_int (B _ (by decide : ("int" : Str) ∈ bnames)) (by decide +kernel) (fa_cons (fe_isX (B _ (by decide : ("isinstance" : Str) ∈ bnames)) (pe_cls (I_BadDeeds).at_) (.own _) (I_BadDeeds).tab (fe_var 0)) fa_nil))) fa_nil)))
 (fss_cons (fs_expr (fe_m PySem.F.plainAttrs_list PySem.F.slot_list_extend PySem.F.type_list_extend mt_extend md_extend (fe_var 1) (fa_cons (fe_op op_mulA od_mul (fe_lst (fa_cons fe_str fa_nil)) (fe_callTy call_int1 cd_int (B _ (by decide : ("int" : Str) ∈ bnames)) (by decide +kernel) (fa_cons (fe_isX (B _ (by decide : ("isinstance" : Str) ∈ bnames)) (pe_cls (I_BadKind).at_) (.own _) (I_BadKind).tab (fe_var 0)) fa_nil))) fa_nil)))
 (fss_cons (fs_expr (fe_m PySem.F.plainAttrs_list PySem.F.slot_list_extend PySem.F.type_list_extend mt_extend md_extend (fe_var 1) (fa_cons (fe_op op_mulA od_mul (fe_lst (fa_cons fe_str fa_nil)) (fe_callTy call_int1 cd_int (B _ (by decide : ("int" : Str) ∈ bnames)) (by decide +kernel) (fa_cons (fe_isX (B _ (by decide : ("isinstance" : Str) ∈ bnames)) (pe_cls (I_BadLife).at_) (.own _) (I_BadLife).tab (fe_var 0)) fa_nil))) fa_nil)))
 (fss_cons (fs_expr (fe_m PySem.F.plainAttrs_list PySem.F.slot_list_extend PySem.F.type_list_extend mt_extend md_extend (fe_var 1) (fa_cons (fe_op op_mulA od_mul (fe_lst (fa_cons fe_str fa_nil)) (fe_callTy call_int1 cd_int (B _ (by decide : ("int" : Str) ∈ bnames)) (by decide +kernel) (fa_cons (fe_isX (B _ (by decide : ("isinstance" : Str) ∈ bnames)) (pe_cls (I_BadLine).at_) (.own _) (I_BadLine).tab (fe_var 0)) fa_nil))) fa_nil)))
 (fss_cons (fs_expr (fe_m PySem.F.plainAttrs_list PySem.F.slot_list_extend PySem.F.type_list_extend mt_extend md_extend (fe_var 1) (fa_cons (fe_op op_mulA od_mul (fe_lst (fa_cons fe_str fa_nil)) (fe_callTy call_int1 cd_int (B _ (by decide : ("int" : Str) ∈ bnames)) (by decide +kernel) (fa_cons (fe_isX (B _ (by decide : ("isinstance" : Str) ∈ bnames)) (pe_cls (I_BadLot).at_) (.own _) (I_BadLot).tab (fe_var 0)) fa_nil))) fa_nil)))
 (fss_cons (fs_expr (fe_m PySem.F.plainAttrs_list PySem.F.slot_list_extend PySem.F.type_list_extend mt_extend md_extend (fe_var 1) (fa_cons (fe_op op_mulA od_mul (fe_lst (fa_cons fe_str fa_nil)) (fe_callTy call_int1 cd_int (B _ (by decide : ("int" : Str) ∈ bnames)) (by decide +kernel) (fa_cons (fe_isX (B _ (by decide : ("isinstance" : Str) ∈ bnames)) (pe_cls (I_BadMany).at_) (.own _) (I_BadMany).tab (fe_var 0)) fa_nil))) fa_nil)))
 (fss_cons (fs_expr (fe_m PySem.F.plainAttrs_list PySem.F.slot_list_extend PySem.F.type_list_extend mt_extend md_extend (fe_var 1) (fa_cons (fe_op op_mulA od_mul (fe_lst (fa_cons fe_str fa_nil)) (fe_callTy call_int1 cd_int (B _ (by decide : ("int" : Str) ∈ bnames)) (by decide +kernel) (fa_cons (fe_isX (B _ (by decide : ("isinstance" : Str) ∈ bnames)) (pe_cls (I_BadName).at_) (.own _) (I_BadName).tab (fe_var 0)) fa_nil))) fa_nil)))
 (fss_cons (fs_expr (fe_m PySem.F.plainAttrs_list PySem.F.slot_list_extend PySem.F.type_list_extend mt_extend md_extend (fe_var 1) (fa_cons (fe_op op_mulA od_mul (fe_lst (fa_cons fe_str fa_nil)) (fe_callTy call_int1 cd_int (B _ (by decide : ("int" : Str) ∈ bnames)) (by decide +kernel) (fa_cons (fe_isX (B _ (by decide : ("isinstance" : Str) ∈ bnames)) (pe_cls (I_BadNew).at_) (.own _) (I_BadNew).tab (fe_var 0)) fa_nil))) fa_nil)))
 (fss_cons (fs_expr (fe_m PySem.F.plainAttrs_list PySem.F.slot_list_extend PySem.F.type_list_extend mt_extend md_extend (fe_var 1) (fa_cons (fe_op op_mulA od_mul (fe_lst (fa_cons fe_str fa_nil)) (fe_callTy call_int1 cd_int (B _ (by decide : ("int" : Str) ∈ bnames)) (by decide +kernel) (fa_cons (fe_isX (B _ (by decide : ("isinstance" : Str) ∈ bnames)) (pe_cls (I_BadOne).at_) (.own _) (I_BadOne).tab (fe_var 0)) fa_nil))) fa_nil)))
 (fss_cons (fs_expr (fe_m PySem.F.plainAttrs_list PySem.F.slot_list_extend PySem.F.type_list_extend mt_extend md_extend (fe_var 1) (fa_cons (fe_op op_mulA od_mul (fe_lst (fa_cons fe_str fa_nil)) (fe_callTy call_int1 cd_int (B _ (by decide : ("int" : Str) ∈ bnames)) (by decide +kernel) (fa_cons (fe_isX (B _ (by decide : ("isinstance" : Str) ∈ bnames)) (pe_cls (I_BadOther).at_) (.own _) (I_BadOther).tab (fe_var 0)) fa_nil))) fa_nil)))
 (fss_cons (fs_expr (fe_m PySem.F.plainAttrs_list PySem.F.slot_list_extend PySem.F.type_list_extend mt_extend md_extend (fe_var 1) (fa_cons (fe_op op_mulA od_mul (fe_lst (fa_cons fe_str fa_nil)) (fe_callTy call_int1 cd_int (B _ (by decide : ("int" : Str) ∈ bnames)) (by decide +kernel) (fa_cons (fe_isX (B _ (by decide : ("isinstance" : Str) ∈ bnames)) (pe_cls (I_BadPairs).at_) (.own _) (I_BadPairs).tab (fe_var 0)) fa_nil))) fa_nil)))
 (fss_cons (fs_expr (fe_m PySem.F.plainAttrs_list PySem.F.slot_list_extend PySem.F.type_list_extend mt_extend md_extend (fe_var 1) (fa_cons (fe_op op_mulA od_mul (fe_lst (fa_cons fe_str fa_nil)) (fe_callTy call_int1 cd_int (B _ (by decide : ("int" : Str) ∈ bnames)) (by decide +kernel) (fa_cons (fe_isX (B _ (by decide : ("isinstance" : Str) ∈ bnames)) (pe_cls (I_BadPlace).at_) (.own _) (I_BadPlace).tab (fe_var 0)) fa_nil))) fa_nil)))
 (fss_cons (fs_expr (fe_m PySem.F.plainAttrs_list PySem.F.slot_list_extend PySem.F.type_list_extend mt_extend md_extend (fe_var 1) (fa_cons (fe_op op_mulA od_mul (fe_lst (fa_cons fe_str fa_nil)) (fe_callTy call_int1 cd_int (B _ (by decide : ("int" : Str) ∈ bnames)) (by decide +kernel) (fa_cons (fe_isX (B _ (by decide : ("isinstance" : Str) ∈ bnames)) (pe_cls (I_BadPlaces).at_) (.own _) (I_BadPlaces).tab (fe_var 0)) fa_nil))) fa_nil)))
 (fss_cons (fs_expr (fe_m PySem.F.plainAttrs_list PySem.F.slot_list_extend PySem.F.type_list_extend mt_extend md_extend (fe_var 1) (fa_cons (fe_op op_mulA od_mul (fe_lst (fa_cons fe_str fa_nil)) (fe_callTy call_int1 cd_int (B _ (by decide : ("int" : Str) ∈ bnames)) (by decide +kernel) (fa_cons (fe_isX (B _ (by decide : ("isinstance" : Str) ∈ bnames)) (pe_cls (I_BadRecord).at_) (.own _) (I_BadRecord).tab (fe_var 0)) fa_nil))) fa_nil)))
 (fss_cons (fs_expr (fe_m PySem.F.plainAttrs_list PySem.F.slot_list_extend PySem.F.type_list_extend mt_extend md_extend (fe_var 1) (fa_cons (fe_op op_mulA od_mul (fe_lst (fa_cons fe_str fa_nil)) (fe_callTy call_int1 cd_int (B _ (by decide : ("int" : Str) ∈ bnames)) (by decide +kernel) (fa_cons (fe_isX (B _ (by decide : ("isinstance" : Str) ∈ bnames)) (pe_cls (I_BadSecond).at_) (.own _) (I_BadSecond).tab (fe_var 0)) fa_nil))) fa_nil)))
 (fss_cons (fs_expr (fe_m PySem.F.plainAttrs_list PySem.F.slot_list_extend PySem.F.type_list_extend mt_extend md_extend (fe_var 1) (fa_cons (fe_op op_mulA od_mul (fe_lst (fa_cons fe_str fa_nil)) (fe_callTy call_int1 cd_int (B _ (by decide : ("int" : Str) ∈ bnames)) (by decide +kernel) (fa_cons (fe_isX (B _ (by decide : ("isinstance" : Str) ∈ bnames)) (pe_cls (I_BadSome).at_) (.own _) (I_BadSome).tab (fe_var 0)) fa_nil))) fa_nil)))
 (fss_cons (fs_expr (fe_m PySem.F.plainAttrs_list PySem.F.slot_list_extend PySem.F.type_list_extend mt_extend md_extend (fe_var 1) (fa_cons (fe_op op_mulA od_mul (fe_lst (fa_cons fe_str fa_nil)) (fe_callTy call_int1 cd_int (B _ (by decide : ("int" : Str) ∈ bnames)) (by decide +kernel) (fa_cons (fe_isX (B _ (by decide : ("isinstance" : Str) ∈ bnames)) (pe_cls (I_BadState).at_) (.own _) (I_BadState).tab (fe_var 0)) fa_nil))) fa_nil)))
 (fss_cons (fs_expr (fe_m PySem.F.plainAttrs_list PySem.F.slot_list_extend PySem.F.type_list_extend mt_extend md_extend (fe_var 1) (fa_cons (fe_op op_mulA od_mul (fe_lst (fa_cons fe_str fa_nil)) (fe_callTy call_int1 cd_int (B _ (by decide : ("int" : Str) ∈ bnames)) (by decide +kernel) (fa_cons (fe_isX (B _ (by decide : ("isinstance" : Str) ∈ bnames)) (pe_cls (I_BadStrict).at_) (.own _) (I_BadStrict).tab (fe_var 0)) fa_nil))) fa_nil)))
 (fss_cons (fs_expr (fe_m PySem.F.plainAttrs_list PySem.F.slot_list_extend PySem.F.type_list_extend mt_extend md_extend (fe_var 1) (fa_cons (fe_op op_mulA od_mul (fe_lst (fa_cons fe_str fa_nil)) (fe_callTy call_int1 cd_int (B _ (by decide : ("int" : Str) ∈ bnames)) (by decide +kernel) (fa_cons (fe_isX (B _ (by decide : ("isinstance" : Str) ∈ bnames)) (pe_cls (I_BadTable).at_) (.own _) (I_BadTable).tab (fe_var 0)) fa_nil))) fa_nil)))
 (fss_cons (fs_expr (fe_m PySem.F.plainAttrs_list PySem.F.slot_list_extend PySem.F.type_list_extend mt_extend md_extend (fe_var 1) (fa_cons (fe_op op_mulA od_mul (fe_lst (fa_cons fe_str fa_nil)) (fe_callTy call_int1 cd_int (B _ (by decide : ("int" : Str) ∈ bnames)) (by decide +kernel) (fa_cons (fe_isX (B _ (by decide : ("isinstance" : Str) ∈ bnames)) (pe_cls (I_BadText).at_) (.own _) (I_BadText).tab (fe_var 0)) fa_nil))) fa_nil)))
 (fss_cons (fs_expr (fe_m PySem.F.plainAttrs_list PySem.F.slot_list_extend PySem.F.type_list_extend mt_extend md_extend (fe_var 1) (fa_cons (fe_op op_mulA od_mul (fe_lst (fa_cons fe_str fa_nil)) (fe_callTy call_int1 cd_int (B _ (by decide : ("int" : Str) ∈ bnames)) (by decide +kernel) (fa_cons (fe_isX (B _ (by decide : ("isinstance" : Str) ∈ bnames)) (pe_cls (I_BadWeb).at_) (.own _) (I_BadWeb).tab (fe_var 0)) fa_nil))) fa_nil)))
 (fss_cons (fs_expr (fe_m PySem.F.plainAttrs_list PySem.F.slot_list_extend PySem.F.type_list_extend mt_extend md_extend (fe_var 1) (fa_cons (fe_op op_mulA od_mul (fe_lst (fa_cons fe_str fa_nil)) (fe_callTy call_int1 cd_int (B _ (by decide : ("int" : Str) ∈ bnames)) (by decide +kernel) (fa_cons (fe_isX (B _ (by decide : ("isinstance" : Str) ∈ bnames)) (pe_cls (I_BadWord).at_) (.own _) (I_BadWord).tab (fe_var 0)) fa_nil))) fa_nil)))
 (fss_cons (fs_expr (fe_m PySem.F.plainAttrs_list PySem.F.slot_list_extend PySem.F.type_list_extend mt_extend md_extend (fe_var 1) (fa_cons (fe_op op_mulA od_mul (fe_lst (fa_cons fe_str fa_nil)) (fe_callTy call_int1 cd_int (B _ (by decide : ("int" : Str) ∈ bnames)) (by decide +kernel) (fa_cons (fe_isX (B _ (by decide : ("isinstance" : Str) ∈ bnames)) (pe_cls (I_BadWork).at_) (.own _) (I_BadWork).tab (fe_var 0)) fa_nil))) fa_nil)))
 (fss_cons (fs_expr (fe_m PySem.F.plainAttrs_list PySem.F.slot_list_extend PySem.F.type_list_extend mt_extend md_extend (fe_var 1) (fa_cons (fe_op op_mulA od_mul (fe_lst (fa_cons fe_str fa_nil)) (fe_callTy call_int1 cd_int (B _ (by decide : ("int" : Str) ∈ bnames)) (by decide +kernel) (fa_cons (fe_isX (B _ (by decide : ("isinstance" : Str) ∈ bnames)) (pe_cls (I_NoName).at_) (.own _) (I_NoName).tab (fe_var 0)) fa_nil))) fa_nil)))
 (fss_cons (fs_expr (fe_m PySem.F.plainAttrs_list PySem.F.slot_list_extend PySem.F.type_list_extend mt_extend md_extend (fe_var 1) (fa_cons (fe_op op_mulA od_mul (fe_lst (fa_cons fe_str fa_nil)) (fe_callTy call_int1 cd_int (B _ (by decide : ("int" : Str) ∈ bnames)) (by decide +kernel) (fa_cons (fe_isX (B _ (by decide : ("isinstance" : Str) ∈ bnames)) (pe_cls (I_NotApart).at_) (.own _) (I_NotApart).tab (fe_var 0)) fa_nil))) fa_nil)))
 (fss_cons (fs_expr (fe_m PySem.F.plainAttrs_list PySem.F.slot_list_extend PySem.F.type_list_extend mt_extend md_extend (fe_var 1) (fa_cons (fe_op op_mulA od_mul (fe_lst (fa_cons fe_str fa_nil)) (fe_callTy call_int1 cd_int (B _ (by decide : ("int" : Str) ∈ bnames)) (by decide +kernel) (fa_cons (fe_isX (B _ (by decide : ("isinstance" : Str) ∈ bnames)) (pe_cls (I_NotNow).at_) (.own _) (I_NotNow).tab (fe_var 0)) fa_nil))) fa_nil)))
 (fss_cons (fs_expr (fe_m PySem.F.plainAttrs_list PySem.F.slot_list_extend PySem.F.type_list_extend mt_extend md_extend (fe_var 1) (fa_cons (fe_op op_mulA od_mul (fe_lst (fa_cons fe_str fa_nil)) (fe_callTy call_int1 cd_int (B _ (by decide : ("int" : Str) ∈ bnames)) (by decide +kernel) (fa_cons (fe_isX (B _ (by decide : ("isinstance" : Str) ∈ bnames)) (pe_cls (I_NoWeb).at_) (.own _) (I_NoWeb).tab (fe_var 0)) fa_nil))) fa_nil)))
 (fss_cons (fs_expr (fe_m PySem.F.plainAttrs_list PySem.F.slot_list_extend PySem.F.type_list_extend mt_extend md_extend (fe_var 1) (fa_cons (fe_op op_mulA od_mul (fe_lst (fa_cons fe_str fa_nil)) (fe_callTy call_int1 cd_int (B _ (by decide : ("int" : Str) ∈ bnames)) (by decide +kernel) (fa_cons (fe_isX (B _ (by decide : ("isinstance" : Str) ∈ bnames)) (pe_cls (I_TooMany).at_) (.own _) (I_TooMany).tab (fe_var 0)) fa_nil))) fa_nil)))
 (fss_cons (fs_expr (fe_m PySem.F.plainAttrs_list PySem.F.slot_list_extend PySem.F.type_list_extend mt_extend md_extend (fe_var 1) (fa_cons (fe_op op_mulA od_mul (fe_lst (fa_cons fe_str fa_nil)) (fe_callTy call_int1 cd_int (B _ (by decide : ("int" : Str) ∈ bnames)) (by decide +kernel) (fa_cons (fe_isX (B _ (by decide : ("isinstance" : Str) ∈ bnames)) (pe_cls (I_Twice).at_) (.own _) (I_Twice).tab (fe_var 0)) fa_nil))) fa_nil)))
 (fss_one (fs_ret (fe_var 1)))))))))))))))))))))))))))))))))
/-! ### _law_stand_right -/
abbrev s__law_stand_right : Stmt := top 66
abbrev N__law_stand_right : List Str := ["draw", "thing", "works", "work", "word", "error"]
theorem sc__law_stand_right : FnScope N__law_stand_right ["draw"] (defScope s__law_stand_right) := ⟨rfl, rfl, rfl, by decide +kernel, rfl, by decide +kernel, by decide +kernel⟩
noncomputable def fl__law_stand_right_0 (g__law_pick : List D → Sto → R D) (g_is_word : List D → Sto → R D) (g_word_of : List D → Sto → R D) (g_ones : List D → Sto → R D) (g__law_caught : (Sto → R D) → Sto → R D) (g__law_kinds : List D → Sto → R D) : DE := (dCall g_is_word (aCons (dVar 1) (aCons (d1 gNeg (dC (.int 1))) aNil)))
noncomputable def fl__law_stand_right_1 (g__law_pick : List D → Sto → R D) (g_is_word : List D → Sto → R D) (g_word_of : List D → Sto → R D) (g_ones : List D → Sto → R D) (g__law_caught : (Sto → R D) → Sto → R D) (g__law_kinds : List D → Sto → R D) : DE := (dCall g_word_of (aCons (dVar 1) (aCons (dC (.int 24)) aNil)))
noncomputable def fl__law_stand_right_2 (g__law_pick : List D → Sto → R D) (g_is_word : List D → Sto → R D) (g_word_of : List D → Sto → R D) (g_ones : List D → Sto → R D) (g__law_caught : (Sto → R D) → Sto → R D) (g__law_kinds : List D → Sto → R D) : DE := (dCall g_ones (aCons (dVar 1) aNil))
noncomputable def fb__law_stand_right (g__law_pick : List D → Sto → R D) (g_is_word : List D → Sto → R D) (g_word_of : List D → Sto → R D) (g_ones : List D → Sto → R D) (g__law_caught : (Sto → R D) → Sto → R D) (g__law_kinds : List D → Sto → R D) (c0 : Clo) (c1 : Clo) (c2 : Clo) : DS :=
 (sSeq (sAsg (dCall g__law_pick (aCons (dVar 0) (aCons (dLst (aCons (dC .non) (aCons (dC (.str "2")) (aCons (dC (.int 5)) (aCons (d2 gMul (dC (.str "0")) (dC (.int 25))) (aCons (dTup (aCons (dC (.str "0")) aNil)) aNil)))))) aNil))) (.nm 1))
 (sSeq (sAsg (dLst (aCons (dC (.clo c2)) (aCons (dC (.clo c1)) (aCons (dC (.clo c0)) aNil)))) (.nm 2))
 (sSeq (sFor (dIt gZip (aCons (dVar 2) (aCons (dLst (aCons (dC (.str "BadWord")) (aCons (dC (.str "BadPlaces")) (aCons (dC (.str "BadMany")) aNil)))) aNil))) (.tp [(.nm 3), (.nm 4)]) (sSeq (sAsg (dClo g__law_caught [(c0, fl__law_stand_right_0 g__law_pick g_is_word g_word_of g_ones g__law_caught g__law_kinds), (c1, fl__law_stand_right_1 g__law_pick g_is_word g_word_of g_ones g__law_caught g__law_kinds), (c2, fl__law_stand_right_2 g__law_pick g_is_word g_word_of g_ones g__law_caught g__law_kinds)] (aCons (dVar 3) aNil)) (.nm 5))
 (sIf (bOr (bNot (dB (dIsX (tabE "ValueError") (dVar 5)))) (bOr (bNot (dB (dIsX (tabE "DescentError") (dVar 5)))) (dB (d2 (gEqW true) (dCall g__law_kinds (aCons (dVar 5) aNil)) (dLst (aCons (dVar 4) aNil)))))) (sRet (dC (.bl false))) sNil)))
 (sRet (dC (.bl true))))))
theorem raw__law_stand_right {P : Program} {w : World} {K : PySem.W.Frag} {mg : Str → Option Value} {base : Heap} {tb : List (Addr × Str)} {f : Addr} {fd : FuncData} (F : Fun K "_law_stand_right" "_law_stand_right" s__law_stand_right f fd) (hx : mg "_law_stand_right" = some (.ref f)) (bd : Binds K fd ["draw"] []) (B : ∀ x ∈ bnames, mg x = none) (J_ValueError : IsTab K mg (.type "ValueError") (tabE "ValueError")) {A_DescentError : Addr} (I_DescentError : ClsI K mg "DescentError" A_DescentError)
  {f__law_pick : Addr} {fd__law_pick : FuncData} {g__law_pick : List D → Sto → R D} (H__law_pick : ∀ T : TB, T.tabs = tb → DefOk P w K mg base T 5 "_law_pick" f__law_pick fd__law_pick ["draw", "some"] U0 g__law_pick)
  {f_is_word : Addr} {fd_is_word : FuncData} {g_is_word : List D → Sto → R D} (H_is_word : ∀ T : TB, T.tabs = tb → DefOk P w K mg base T 4 "is_word" f_is_word fd_is_word ["thing", "many"] U0 g_is_word)
  {f_word_of : Addr} {fd_word_of : FuncData} {g_word_of : List D → Sto → R D} (H_word_of : ∀ T : TB, T.tabs = tb → DefOk P w K mg base T 5 "word_of" f_word_of fd_word_of ["places", "many"] U0 g_word_of)
  {f_ones : Addr} {fd_ones : FuncData} {g_ones : List D → Sto → R D} (H_ones : ∀ T : TB, T.tabs = tb → DefOk P w K mg base T 5 "ones" f_ones fd_ones ["word"] U0 g_ones)
  {f__law_caught : Addr} {fd__law_caught : FuncData} {g__law_caught : (Sto → R D) → Sto → R D} (H__law_caught : ∀ (T : TB) (U : UP) (c : Clo) (cl : Sto → R D), T.tabs = tb → USt U → CloOK1 P w K mg base 6 T U c cl → DefOk P w K mg base T 7 "_law_caught" f__law_caught fd__law_caught ["work"] U (gC c (g__law_caught cl)))
  {f__law_kinds : Addr} {fd__law_kinds : FuncData} {g__law_kinds : List D → Sto → R D} (H__law_kinds : ∀ T : TB, T.tabs = tb → DefOk P w K mg base T 3 "_law_kinds" f__law_kinds fd__law_kinds ["error"] U0 g__law_kinds) (Mm : MkD base mg fd tb (lamQ "_law_stand_right")) (T : TB) (hT : T.tabs = tb) {gg : List D → Sto → R D}
  (hr : ∀ (c0 c1 c2 : Clo), (c0.id = 0) → (c1.id = 1) → (c2.id = 2) → ∀ ds st, ds.length = 1 → Ref K mg T st.length (fb__law_stand_right g__law_pick g_is_word g_word_of g_ones g__law_caught g__law_kinds c0 c1 c2 (ev0 N__law_stand_right ds) st).toR (gg ds st)) :
  DefOk P w K mg base T 8 "_law_stand_right" f fd ["draw"] U0 gg := by
 refine def_okC (k := 7) F sc__law_stand_right hx bd fun A outer s H E _ o => ?_
 have M : Mk (cxOf (L2.CX P w) P w K mg base N__law_stand_right "_law_stand_right" (defScope s__law_stand_right) f fd.code A outer s H E) T := Mm.to hT rfl rfl rfl rfl
 exact ⟨fb__law_stand_right g__law_pick g_is_word g_word_of g_ones g__law_caught g__law_kinds _ _ _, (fss_cons (fs_set (i := 1) o.nd (fe_call (H__law_pick _ hT) o (fa_cons (fe_var 0) (fa_cons (fe_lst (fa_cons fe_non (fa_cons fe_str (fa_cons fe_int (fa_cons (fe_op op_mulA od_mul fe_str fe_int) (fa_cons (fe_tup (fa_cons fe_str fa_nil)) fa_nil)))))) fa_nil))))
 (fss_cons (fs_set (i := 2) o.nd (fe_lst (fa_cons (fe_lam 2 M (lamS_by (sc := defScope s__law_stand_right) (by decide +kernel))) (fa_cons (fe_lam 1 M (lamS_by (sc := defScope s__law_stand_right) (by decide +kernel))) (fa_cons (fe_lam 0 M (lamS_by (sc := defScope s__law_stand_right) (by decide +kernel))) fa_nil)))))
 (fss_cons (fs_for o.own o.calm (fi_zip (B _ (by decide : ("zip" : Str) ∈ bnames)) (fa_cons (fe_var 2) (fa_cons (fe_lst (fa_cons fe_str (fa_cons fe_str (fa_cons fe_str fa_nil)))) fa_nil))) (fg_tup o.calm (fgs_cons (fg_name (i := 3) o.nd) (fgs_cons (fg_name (i := 4) o.nd) fgs_nil))) (fss_cons (fs_set (i := 5) o.nd (fe_callClo (fun T' U c cl hT' => H__law_caught T' U c cl (hT'.trans hT)) o (by intro q hq; simp only [List.mem_cons, List.not_mem_nil, or_false] at hq; rcases hq with rfl | rfl | rfl; exact lam_ok 0 (lamS_by (sc := defScope s__law_stand_right) (by decide +kernel)) (fun T0 A outer s H E f c' hT0 o => by have hT' : T0.tabs = tb := hT0.trans hT; exact (fe_call (H_is_word _ hT') o (fa_cons (fe_var 1) (fa_cons (fe_neg fe_int) fa_nil)))); exact lam_ok 1 (lamS_by (sc := defScope s__law_stand_right) (by decide +kernel)) (fun T0 A outer s H E f c' hT0 o => by have hT' : T0.tabs = tb := hT0.trans hT; exact (fe_call (H_word_of _ hT') o (fa_cons (fe_var 1) (fa_cons fe_int fa_nil)))); exact lam_ok 2 (lamS_by (sc := defScope s__law_stand_right) (by decide +kernel)) (fun T0 A outer s H E f c' hT0 o => by have hT' : T0.tabs = tb := hT0.trans hT; exact (fe_call (H_ones _ hT') o (fa_cons (fe_var 1) fa_nil)))) (fa_cons (fe_var 3) fa_nil)))
 (fss_one (fs_if (ft_w (fw_or (ft_not (ft_val (fe_isX (B _ (by decide : ("isinstance" : Str) ∈ bnames)) (pe_clsB (B _ (by decide : ("ValueError" : Str) ∈ bnames)) (by decide +kernel)) (.ty _) J_ValueError (fe_var 5)))) (fw_or (ft_not (ft_val (fe_isX (B _ (by decide : ("isinstance" : Str) ∈ bnames)) (pe_cls (I_DescentError).at_) (.own _) (I_DescentError).tab (fe_var 5)))) (fw_or1 (ft_cmp  (op_neW o.room.units) od_neW (fe_call (H__law_kinds _ hT) o (fa_cons (fe_var 5) fa_nil)) (fe_lst (fa_cons (fe_var 4) fa_nil))))))) (fss_one (fs_ret fe_bl)) fss_nil))))
 (fss_one (fs_ret fe_bl))))), hr _ _ _ rfl rfl rfl⟩
/-! ### _law_same -/
abbrev s__law_same : Stmt := top 55
abbrev N__law_same : List Str := ["told", "due"]
theorem sc__law_same : FnScope N__law_same ["told", "due"] (defScope s__law_same) := ⟨rfl, rfl, rfl, by decide +kernel, rfl, by decide +kernel, by decide +kernel⟩
noncomputable def fb__law_same : DS :=
 (sRet (d2 (gEqW false) (dCall gRepr (aCons (dVar 0) aNil)) (dCall gRepr (aCons (dVar 1) aNil))))
theorem raw__law_same {P : Program} {w : World} {K : PySem.W.Frag} {mg : Str → Option Value} {base : Heap} {tb : List (Addr × Str)} {f : Addr} {fd : FuncData} (F : Fun K "_law_same" "_law_same" s__law_same f fd) (hx : mg "_law_same" = some (.ref f)) (bd : Binds K fd ["told", "due"] []) (B : ∀ x ∈ bnames, mg x = none) (T : TB) (hT : T.tabs = tb) :
  DefOk P w K mg base T 3 "_law_same" f fd ["told", "due"] U0 (fun ds st => (fb__law_same (ev0 N__law_same ds) st).toR) :=
 def_ok (k := 2) (fb := fb__law_same) F sc__law_same hx bd fun cdv A outer s H E o => (fss_one (fs_ret (fe_cmp  (op_eqW o.room.units) od_eqW (fe_callB (call_reprA o) cd_repr (B _ (by decide : ("repr" : Str) ∈ bnames)) (by decide +kernel) (fa_cons (fe_var 0) fa_nil)) (fe_callB (call_reprA o) cd_repr (B _ (by decide : ("repr" : Str) ∈ bnames)) (by decide +kernel) (fa_cons (fe_var 1) fa_nil)))))
/-! ### _law_kept -/
abbrev s__law_kept : Stmt := top 56
abbrev N__law_kept : List Str := ["words"]
theorem sc__law_kept : FnScope N__law_kept [] (defScope s__law_kept) := ⟨rfl, rfl, rfl, by decide +kernel, rfl, by decide +kernel, by decide +kernel⟩
noncomputable def fb__law_kept : DS :=
 (sSeq (sAsg (dC (.str "add apart cannot clash done drop first flip join journal least life line live mark mix mixed name no none")) (.nm 0))
 (sRet (dM "str" gSplit (d2 gAdd (dVar 0) (dC (.str " nothing part place record redo ring row strict table undo weave web what yes"))) (aCons (dC (.str " ")) aNil))))
theorem raw__law_kept {P : Program} {w : World} {K : PySem.W.Frag} {mg : Str → Option Value} {base : Heap} {tb : List (Addr × Str)} {f : Addr} {fd : FuncData} (F : Fun K "_law_kept" "_law_kept" s__law_kept f fd) (hx : mg "_law_kept" = some (.ref f)) (bd : Binds K fd [] []) (T : TB) (hT : T.tabs = tb) :
  DefOk P w K mg base T 3 "_law_kept" f fd [] U0 (fun ds st => (fb__law_kept (ev0 N__law_kept ds) st).toR) :=
 def_ok (k := 2) (fb := fb__law_kept) F sc__law_kept hx bd fun cdv A outer s H E o => (fss_cons (fs_set (i := 0) o.nd fe_str)
 (fss_one (fs_ret (fe_m PySem.F.plainAttrs_str PySem.F.slot_str_split PySem.F.type_str_split mt_split md_split (fe_op op_addA od_add (fe_var 0) fe_str) (fa_cons fe_str fa_nil)))))
/-! ### _law_near_names -/
abbrev s__law_near_names : Stmt := top 63
abbrev N__law_near_names : List Str := ["draw", "called", "letter", "kept", "some", "at", "sign"]
theorem sc__law_near_names : FnScope N__law_near_names ["draw", "called"] (defScope s__law_near_names) := ⟨rfl, rfl, rfl, by decide +kernel, rfl, by decide +kernel, by decide +kernel⟩
noncomputable def fb__law_near_names (g__law_pick : List D → Sto → R D) (g__law_kept : List D → Sto → R D) (g__law_take : List D → Sto → R D) : DS :=
 (sSeq (sPar [2, 3] (aCons (dCall g__law_pick (aCons (dVar 0) (aCons (dCall gListA (aCons (dC (.str "abcdefghijklmnopqrstuvwxyz")) aNil)) aNil))) (aCons (dCall g__law_pick (aCons (dVar 0) (aCons (dCall g__law_kept aNil) aNil))) aNil)))
 (sSeq (sAsg (dLst (aCons (dVar 1) (aCons (d2 gAdd (dVar 1) (dVar 2)) (aCons (dCut (dVar 1) (oSome (dC (.int 1))) oNone) (aCons (dVar 2) (aCons (dCut (d2 gMul (dVar 1) (dC (.int 8))) oNone (oSome (dC (.int 8)))) (aCons (dCut (d2 gMul (dVar 1) (dC (.int 9))) oNone (oSome (dC (.int 9)))) (aCons (dVar 3) (aCons (d2 gAdd (dVar 3) (dVar 2)) (aCons (dCut (dVar 3) oNone (oSome (d1 gNeg (dC (.int 1))))) aNil)))))))))) (.nm 4))
 (sSeq (sAsg (dCall g__law_take (aCons (dVar 0) (aCons (d2 gAdd (dCall gLen (aCons (dVar 1) aNil)) (dC (.int 1))) aNil))) (.nm 5))
 (sSeq (sExpr (dM "list" gExtend (dVar 4) (aCons (dLc [6] (dIter (dLst (aCons (dC (.str "A")) (aCons (dC (.str "0")) (aCons (dC (.str " ")) (aCons (dC (.str "_")) (aCons (dC (.str "-")) (aCons (dC (.str "\n")) (aCons (dC (.str "~")) aNil))))))))) (.nm 6) bYes (d2 gAdd (d2 gAdd (dCut (dVar 1) oNone (oSome (dVar 5))) (dVar 6)) (dCut (dVar 1) (oSome (dVar 5)) oNone))) aNil)))
 (sRet (d2 gAdd (dVar 4) (dLst (aCons (dC (.str "")) (aCons (dC .non) (aCons (dC (.int 5)) (aCons (dC (.bl true)) (aCons (dTup (aCons (dVar 1) aNil)) (aCons (dLst (aCons (dVar 1) aNil)) (aCons (dM "str" gUpper (dVar 1) aNil) (aCons (dDisp [((dVar 1), (dC (.bl true)))]) aNil)))))))))))))))
theorem raw__law_near_names {P : Program} {w : World} {K : PySem.W.Frag} {mg : Str → Option Value} {base : Heap} {tb : List (Addr × Str)} {f : Addr} {fd : FuncData} (F : Fun K "_law_near_names" "_law_near_names" s__law_near_names f fd) (hx : mg "_law_near_names" = some (.ref f)) (bd : Binds K fd ["draw", "called"] []) (B : ∀ x ∈ bnames, mg x = none)
  {f__law_pick : Addr} {fd__law_pick : FuncData} {g__law_pick : List D → Sto → R D} (H__law_pick : ∀ T : TB, T.tabs = tb → DefOk P w K mg base T 5 "_law_pick" f__law_pick fd__law_pick ["draw", "some"] U0 g__law_pick)
  {f__law_kept : Addr} {fd__law_kept : FuncData} {g__law_kept : List D → Sto → R D} (H__law_kept : ∀ T : TB, T.tabs = tb → DefOk P w K mg base T 3 "_law_kept" f__law_kept fd__law_kept [] U0 g__law_kept)
  {f__law_take : Addr} {fd__law_take : FuncData} {g__law_take : List D → Sto → R D} (H__law_take : ∀ T : TB, T.tabs = tb → DefOk P w K mg base T 4 "_law_take" f__law_take fd__law_take ["draw", "many"] U0 g__law_take) (T : TB) (hT : T.tabs = tb) :
  DefOk P w K mg base T 6 "_law_near_names" f fd ["draw", "called"] U0 (fun ds st => (fb__law_near_names g__law_pick g__law_kept g__law_take (ev0 N__law_near_names ds) st).toR) :=
 def_ok (k := 5) (fb := fb__law_near_names g__law_pick g__law_kept g__law_take) F sc__law_near_names hx bd fun cdv A outer s H E o => (fss_cons (fs_par (i := 2) (j := 3) o.calm o.nd (fa_cons (fe_call (H__law_pick _ hT) o (fa_cons (fe_var 0) (fa_cons (fe_callTy (call_listB o.calm) cd_listA (B _ (by decide : ("list" : Str) ∈ bnames)) (by decide +kernel) (fa_cons fe_str fa_nil)) fa_nil))) (fa_cons (fe_call (H__law_pick _ hT) o (fa_cons (fe_var 0) (fa_cons (fe_call0 (H__law_kept _ hT) o) fa_nil))) fa_nil)))
 (fss_cons (fs_set (i := 4) o.nd (fe_lst (fa_cons (fe_var 1) (fa_cons (fe_op op_addA od_add (fe_var 1) (fe_var 2)) (fa_cons (fe_cut (fe_var 1) (fo_some fe_int) fo_none) (fa_cons (fe_var 2) (fa_cons (fe_cut (fe_op op_mulA od_mul (fe_var 1) fe_int) fo_none (fo_some fe_int)) (fa_cons (fe_cut (fe_op op_mulA od_mul (fe_var 1) fe_int) fo_none (fo_some fe_int)) (fa_cons (fe_var 3) (fa_cons (fe_op op_addA od_add (fe_var 3) (fe_var 2)) (fa_cons (fe_cut (fe_var 3) fo_none (fo_some (fe_neg fe_int))) fa_nil)))))))))))
 (fss_cons (fs_set (i := 5) o.nd (fe_call (H__law_take _ hT) o (fa_cons (fe_var 0) (fa_cons (fe_op op_addA od_add (fe_callB call_len cd_len (B _ (by decide : ("len" : Str) ∈ bnames)) (by decide +kernel) (fa_cons (fe_var 1) fa_nil)) fe_int) fa_nil))))
 (fss_cons (fs_expr (fe_m PySem.F.plainAttrs_list PySem.F.slot_list_extend PySem.F.type_list_extend mt_extend md_extend (fe_var 4) (fa_cons (fe_lc o.calm o.nd (fi_seq (fe_lst (fa_cons fe_str (fa_cons fe_str (fa_cons fe_str (fa_cons fe_str (fa_cons fe_str (fa_cons fe_str (fa_cons fe_str fa_nil))))))))) (blkOk_by (N := N__law_near_names) (sc := defScope s__law_near_names) (own := [("sign", 6)]) (by decide +kernel)) (fun s H C cl fp => (fg_name (i := 6) (Ok.blk o s H _ _ fp).nd)) (fun s H C cl fp => fts_nil) (fun s H C cl fp => (fe_op op_addA od_add (fe_op op_addA od_add (fe_cut (fe_var 1) fo_none (fo_some (fe_var 5))) (fe_var 6)) (fe_cut (fe_var 1) (fo_some (fe_var 5)) fo_none)))) fa_nil)))
 (fss_one (fs_ret (fe_op op_addA od_add (fe_var 4) (fe_lst (fa_cons fe_str (fa_cons fe_non (fa_cons fe_int (fa_cons fe_bl (fa_cons (fe_tup (fa_cons (fe_var 1) fa_nil)) (fa_cons (fe_lst (fa_cons (fe_var 1) fa_nil)) (fa_cons (fe_m0 PySem.F.plainAttrs_str PySem.F.slot_str_upper PySem.F.type_str_upper mt_upper md_upper (fe_var 1)) (fa_cons (fe_disp (fps_cons (fe_var 1) fe_bl fps_nil)) fa_nil))))))))))))))))
/-! ### _law_word -/
abbrev s__law_word : Stmt := top 62
abbrev N__law_word : List Str := ["draw", "many", "way", "number", "second", "word", "k", "one", "other"]
theorem sc__law_word : FnScope N__law_word ["draw", "many"] (defScope s__law_word) := ⟨rfl, rfl, rfl, by decide +kernel, rfl, by decide +kernel, by decide +kernel⟩
noncomputable def fb__law_word (g__law_take : List D → Sto → R D) : DS :=
 (sSeq (sAsg (dTup (aCons (dCall g__law_take (aCons (dVar 0) (aCons (dC (.int 7)) aNil))) (aCons (dCall g__law_take (aCons (dVar 0) (aCons (d2 gPow (dC (.int 2)) (dC (.int 24))) aNil))) (aCons (dCall g__law_take (aCons (dVar 0) (aCons (d2 gPow (dC (.int 2)) (dC (.int 24))) aNil))) (aCons (dC (.str "")) aNil))))) (.tp [(.nm 2), (.nm 3), (.nm 4), (.nm 5)]))
 (sSeq (sFor (dIt gRange1 (aCons (dVar 1) aNil)) (.nm 6) (sSeq (sPar [7, 8] (aCons (d2 gMod (dCall gInt1 (aCons (dVar 3) aNil)) (dC (.int 2))) (aCons (d2 gMod (dCall gInt1 (aCons (dVar 4) aNil)) (dC (.int 2))) aNil)))
 (sSeq (sPar [3, 4] (aCons (d2 gFdiv (dVar 3) (dC (.int 2))) (aCons (d2 gFdiv (dVar 4) (dC (.int 2))) aNil)))
 (sAsg (d2 gAdd (dVar 5) (dIf (dB (d2 (gEqW false) (dVar 2) (dC (.int 0)))) (dC (.str "0")) (dIf (dB (d2 gLt (dVar 2) (dC (.int 3)))) (dCall gStr1 (aCons (d2 gMul (dVar 7) (dVar 8)) aNil)) (dIf (dB (d2 (gEqW false) (dVar 2) (dC (.int 3)))) (dCall gStr1 (aCons (dCall gMax2 (aCons (dVar 7) (aCons (dVar 8) aNil))) aNil)) (dCall gStr1 (aCons (dVar 7) aNil)))))) (.nm 5)))))
 (sRet (dVar 5))))
theorem raw__law_word {P : Program} {w : World} {K : PySem.W.Frag} {mg : Str → Option Value} {base : Heap} {tb : List (Addr × Str)} {f : Addr} {fd : FuncData} (F : Fun K "_law_word" "_law_word" s__law_word f fd) (hx : mg "_law_word" = some (.ref f)) (bd : Binds K fd ["draw", "many"] []) (B : ∀ x ∈ bnames, mg x = none)
  {f__law_take : Addr} {fd__law_take : FuncData} {g__law_take : List D → Sto → R D} (H__law_take : ∀ T : TB, T.tabs = tb → DefOk P w K mg base T 4 "_law_take" f__law_take fd__law_take ["draw", "many"] U0 g__law_take) (T : TB) (hT : T.tabs = tb) :
  DefOk P w K mg base T 5 "_law_word" f fd ["draw", "many"] U0 (fun ds st => (fb__law_word g__law_take (ev0 N__law_word ds) st).toR) :=
 def_ok (k := 4) (fb := fb__law_word g__law_take) F sc__law_word hx bd fun cdv A outer s H E o => (fss_cons (fs_asg (fe_tup (fa_cons (fe_call (H__law_take _ hT) o (fa_cons (fe_var 0) (fa_cons fe_int fa_nil))) (fa_cons (fe_call (H__law_take _ hT) o (fa_cons (fe_var 0) (fa_cons (fe_op op_pow od_pow fe_int fe_int) fa_nil))) (fa_cons (fe_call (H__law_take _ hT) o (fa_cons (fe_var 0) (fa_cons (fe_op op_pow od_pow fe_int fe_int) fa_nil))) (fa_cons fe_str fa_nil))))) (fg_tup o.calm (fgs_cons (fg_name (i := 2) o.nd) (fgs_cons (fg_name (i := 3) o.nd) (fgs_cons (fg_name (i := 4) o.nd) (fgs_cons (fg_name (i := 5) o.nd) fgs_nil))))))
 (fss_cons (fs_for o.own o.calm (fi_range1 (B _ (by decide : ("range" : Str) ∈ bnames)) (fa_cons (fe_var 1) fa_nil)) (fg_name (i := 6) o.nd) (fss_cons (fs_par (i := 7) (j := 8) o.calm o.nd (fa_cons (fe_op op_mod od_mod (fe_callTy call_int1 cd_int (B _ (by decide : ("int" : Str) ∈ bnames)) (by decide +kernel) (fa_cons (fe_var 3) fa_nil)) fe_int) (fa_cons (fe_op op_mod od_mod (fe_callTy call_int1 cd_int (B _ (by decide : ("int" : Str) ∈ bnames)) (by decide +kernel) (fa_cons (fe_var 4) fa_nil)) fe_int) fa_nil)))
 (fss_cons (fs_par (i := 3) (j := 4) o.calm o.nd (fa_cons (fe_op op_fdivW od_fdiv (fe_var 3) fe_int) (fa_cons (fe_op op_fdivW od_fdiv (fe_var 4) fe_int) fa_nil)))
 (fss_one (fs_set (i := 5) o.nd (fe_op op_addA od_add (fe_var 5) (fe_if (ft_cmp  (op_eqW o.room.units) od_eqW (fe_var 2) fe_int) fe_str (fe_if (ft_cmp  op_ltA od_lt (fe_var 2) fe_int) (fe_callTy call_strA cd_str (B _ (by decide : ("str" : Str) ∈ bnames)) (by decide +kernel) (fa_cons (fe_op op_mulA od_mul (fe_var 7) (fe_var 8)) fa_nil)) (fe_if (ft_cmp  (op_eqW o.room.units) od_eqW (fe_var 2) fe_int) (fe_callTy call_strA cd_str (B _ (by decide : ("str" : Str) ∈ bnames)) (by decide +kernel) (fa_cons (fe_callB (call_max2 o.calm) cd_max2 (B _ (by decide : ("max" : Str) ∈ bnames)) (by decide +kernel) (fa_cons (fe_var 7) (fa_cons (fe_var 8) fa_nil))) fa_nil)) (fe_callTy call_strA cd_str (B _ (by decide : ("str" : Str) ∈ bnames)) (by decide +kernel) (fa_cons (fe_var 7) fa_nil)))))))))))
 (fss_one (fs_ret (fe_var 5)))))
/-! ### _law_near_words -/
abbrev s__law_near_words : Stmt := top 64
abbrev N__law_near_words : List Str := ["draw", "word", "at", "some", "sign"]
theorem sc__law_near_words : FnScope N__law_near_words ["draw", "word"] (defScope s__law_near_words) := ⟨rfl, rfl, rfl, by decide +kernel, rfl, by decide +kernel, by decide +kernel⟩
noncomputable def fb__law_near_words (g__law_take : List D → Sto → R D) : DS :=
 (sSeq (sAsg (dCall g__law_take (aCons (dVar 0) (aCons (d2 gAdd (dCall gLen (aCons (dVar 1) aNil)) (dC (.int 1))) aNil))) (.nm 2))
 (sSeq (sAsg (dLst (aCons (dVar 1) (aCons (dCut (dVar 1) (oSome (dC (.int 1))) oNone) (aCons (d2 gAdd (dVar 1) (dC (.str "0"))) (aCons (d2 gAdd (dC (.str "1")) (dVar 1)) (aCons (d2 gAdd (dVar 1) (d2 gMul (dC (.str "01")) (dC (.int 13)))) aNil)))))) (.nm 3))
 (sSeq (sExpr (dM "list" gExtend (dVar 3) (aCons (dLc [4] (dIter (dLst (aCons (dC (.str "2")) (aCons (dC (.str " ")) (aCons (dC (.str "O")) (aCons (dC (.str "\n")) (aCons (dC (.str "-")) aNil))))))) (.nm 4) bYes (d2 gAdd (d2 gAdd (dCut (dVar 1) oNone (oSome (dVar 2))) (dVar 4)) (dCut (dVar 1) (oSome (d2 gAdd (dVar 2) (dC (.int 1)))) oNone))) aNil)))
 (sRet (d2 gAdd (dVar 3) (dLst (aCons (d2 gAdd (dVar 1) (dC (.str "\n"))) (aCons (dC .non) (aCons (dC (.int 0)) (aCons (dC (.bl true)) (aCons (dC (.int 10)) (aCons (dCall gListA (aCons (dVar 1) aNil)) (aCons (dCall gTupleA (aCons (dVar 1) aNil)) (aCons (dLst (aCons (dC (.str "0")) aNil)) (aCons (dTup (aCons (dC (.str "1")) aNil)) aNil)))))))))))))))
theorem raw__law_near_words {P : Program} {w : World} {K : PySem.W.Frag} {mg : Str → Option Value} {base : Heap} {tb : List (Addr × Str)} {f : Addr} {fd : FuncData} (F : Fun K "_law_near_words" "_law_near_words" s__law_near_words f fd) (hx : mg "_law_near_words" = some (.ref f)) (bd : Binds K fd ["draw", "word"] []) (B : ∀ x ∈ bnames, mg x = none)
  {f__law_take : Addr} {fd__law_take : FuncData} {g__law_take : List D → Sto → R D} (H__law_take : ∀ T : TB, T.tabs = tb → DefOk P w K mg base T 4 "_law_take" f__law_take fd__law_take ["draw", "many"] U0 g__law_take) (T : TB) (hT : T.tabs = tb) :
  DefOk P w K mg base T 5 "_law_near_words" f fd ["draw", "word"] U0 (fun ds st => (fb__law_near_words g__law_take (ev0 N__law_near_words ds) st).toR) :=
 def_ok (k := 4) (fb := fb__law_near_words g__law_take) F sc__law_near_words hx bd fun cdv A outer s H E o => (fss_cons (fs_set (i := 2) o.nd (fe_call (H__law_take _ hT) o (fa_cons (fe_var 0) (fa_cons (fe_op op_addA od_add (fe_callB call_len cd_len (B _ (by decide : ("len" : Str) ∈ bnames)) (by decide +kernel) (fa_cons (fe_var 1) fa_nil)) fe_int) fa_nil))))
 (fss_cons (fs_set (i := 3) o.nd (fe_lst (fa_cons (fe_var 1) (fa_cons (fe_cut (fe_var 1) (fo_some fe_int) fo_none) (fa_cons (fe_op op_addA od_add (fe_var 1) fe_str) (fa_cons (fe_op op_addA od_add fe_str (fe_var 1)) (fa_cons (fe_op op_addA od_add (fe_var 1) (fe_op op_mulA od_mul fe_str fe_int)) fa_nil)))))))
 (fss_cons (fs_expr (fe_m PySem.F.plainAttrs_list PySem.F.slot_list_extend PySem.F.type_list_extend mt_extend md_extend (fe_var 3) (fa_cons (fe_lc o.calm o.nd (fi_seq (fe_lst (fa_cons fe_str (fa_cons fe_str (fa_cons fe_str (fa_cons fe_str (fa_cons fe_str fa_nil))))))) (blkOk_by (N := N__law_near_words) (sc := defScope s__law_near_words) (own := [("sign", 4)]) (by decide +kernel)) (fun s H C cl fp => (fg_name (i := 4) (Ok.blk o s H _ _ fp).nd)) (fun s H C cl fp => fts_nil) (fun s H C cl fp => (fe_op op_addA od_add (fe_op op_addA od_add (fe_cut (fe_var 1) fo_none (fo_some (fe_var 2))) (fe_var 4)) (fe_cut (fe_var 1) (fo_some (fe_op op_addA od_add (fe_var 2) fe_int)) fo_none)))) fa_nil)))
 (fss_one (fs_ret (fe_op op_addA od_add (fe_var 3) (fe_lst (fa_cons (fe_op op_addA od_add (fe_var 1) fe_str) (fa_cons fe_non (fa_cons fe_int (fa_cons fe_bl (fa_cons fe_int (fa_cons (fe_callTy (call_listB o.calm) cd_listA (B _ (by decide : ("list" : Str) ∈ bnames)) (by decide +kernel) (fa_cons (fe_var 1) fa_nil)) (fa_cons (fe_callTy (call_tupleB o.calm) cd_tupleA (B _ (by decide : ("tuple" : Str) ∈ bnames)) (by decide +kernel) (fa_cons (fe_var 1) fa_nil)) (fa_cons (fe_lst (fa_cons fe_str fa_nil)) (fa_cons (fe_tup (fa_cons fe_str fa_nil)) fa_nil))))))))))))))))
/-! ### _law_near_places -/
abbrev s__law_near_places : Stmt := top 65
abbrev N__law_near_places : List Str := ["draw", "places", "at", "some", "thing"]
theorem sc__law_near_places : FnScope N__law_near_places ["draw", "places"] (defScope s__law_near_places) := ⟨rfl, rfl, rfl, by decide +kernel, rfl, by decide +kernel, by decide +kernel⟩
noncomputable def fb__law_near_places (g__law_take : List D → Sto → R D) : DS :=
 (sSeq (sAsg (dCall g__law_take (aCons (dVar 0) (aCons (d2 gAdd (dCall gLen (aCons (dVar 1) aNil)) (dC (.int 1))) aNil))) (.nm 2))
 (sSeq (sAsg (dLst (aCons (dVar 1) (aCons (dCut (dVar 1) (oSome (dC (.int 1))) oNone) (aCons (dCall gListA (aCons (dVar 1) aNil)) (aCons (d2 gAdd (dCut (dVar 1) oNone (oSome (dVar 2))) (dCut (dVar 1) oNone (oSome (dVar 2)))) (aCons (d1 gTupRev (dVar 1)) (aCons (d2 gAdd (dTup (aCons (dC (.int 0)) aNil)) (dVar 1)) (aCons (d2 gAdd (dVar 1) (dTup (aCons (dC (.int 25)) aNil))) (aCons (d2 gAdd (dVar 1) (dTup (aCons (dC (.int 24)) aNil))) aNil))))))))) (.nm 3))
 (sSeq (sExpr (dM "list" gExtend (dVar 3) (aCons (dLc [4] (dIter (dLst (aCons (dC (.bl true)) (aCons (dC .non) (aCons (dC (.str "3")) (aCons (dTup (aCons (dC (.int 1)) aNil)) (aCons (d1 gNeg (dC (.int 1))) (aCons (dC (.int 7)) (aCons (dC (.int 12)) aNil))))))))) (.nm 4) bYes (d2 gAdd (d2 gAdd (dCut (dVar 1) oNone (oSome (dVar 2))) (dTup (aCons (dVar 4) aNil))) (dCut (dVar 1) (oSome (dVar 2)) oNone))) aNil)))
 (sRet (d2 gAdd (dVar 3) (dLst (aCons (dC .non) (aCons (dC (.int 3)) (aCons (dC (.str "123")) (aCons (dC (.str "")) (aCons (dTup aNil) (aCons (dLst (aCons (dC (.int 1)) aNil)) aNil))))))))))))
theorem raw__law_near_places {P : Program} {w : World} {K : PySem.W.Frag} {mg : Str → Option Value} {base : Heap} {tb : List (Addr × Str)} {f : Addr} {fd : FuncData} (F : Fun K "_law_near_places" "_law_near_places" s__law_near_places f fd) (hx : mg "_law_near_places" = some (.ref f)) (bd : Binds K fd ["draw", "places"] []) (B : ∀ x ∈ bnames, mg x = none)
  {f__law_take : Addr} {fd__law_take : FuncData} {g__law_take : List D → Sto → R D} (H__law_take : ∀ T : TB, T.tabs = tb → DefOk P w K mg base T 4 "_law_take" f__law_take fd__law_take ["draw", "many"] U0 g__law_take) (T : TB) (hT : T.tabs = tb) :
  DefOk P w K mg base T 5 "_law_near_places" f fd ["draw", "places"] U0 (fun ds st => (fb__law_near_places g__law_take (ev0 N__law_near_places ds) st).toR) :=
 def_ok (k := 4) (fb := fb__law_near_places g__law_take) F sc__law_near_places hx bd fun cdv A outer s H E o => (fss_cons (fs_set (i := 2) o.nd (fe_call (H__law_take _ hT) o (fa_cons (fe_var 0) (fa_cons (fe_op op_addA od_add (fe_callB call_len cd_len (B _ (by decide : ("len" : Str) ∈ bnames)) (by decide +kernel) (fa_cons (fe_var 1) fa_nil)) fe_int) fa_nil))))
 (fss_cons (fs_set (i := 3) o.nd (fe_lst (fa_cons (fe_var 1) (fa_cons (fe_cut (fe_var 1) (fo_some fe_int) fo_none) (fa_cons (fe_callTy (call_listB o.calm) cd_listA (B _ (by decide : ("list" : Str) ∈ bnames)) (by decide +kernel) (fa_cons (fe_var 1) fa_nil)) (fa_cons (fe_op op_addA od_add (fe_cut (fe_var 1) fo_none (fo_some (fe_var 2))) (fe_cut (fe_var 1) fo_none (fo_some (fe_var 2)))) (fa_cons (fe_tupRev o (B _ (by decide : ("tuple" : Str) ∈ bnames)) (B _ (by decide : ("reversed" : Str) ∈ bnames)) (fe_var 1)) (fa_cons (fe_op op_addA od_add (fe_tup (fa_cons fe_int fa_nil)) (fe_var 1)) (fa_cons (fe_op op_addA od_add (fe_var 1) (fe_tup (fa_cons fe_int fa_nil))) (fa_cons (fe_op op_addA od_add (fe_var 1) (fe_tup (fa_cons fe_int fa_nil))) fa_nil))))))))))
 (fss_cons (fs_expr (fe_m PySem.F.plainAttrs_list PySem.F.slot_list_extend PySem.F.type_list_extend mt_extend md_extend (fe_var 3) (fa_cons (fe_lc o.calm o.nd (fi_seq (fe_lst (fa_cons fe_bl (fa_cons fe_non (fa_cons fe_str (fa_cons (fe_tup (fa_cons fe_int fa_nil)) (fa_cons (fe_neg fe_int) (fa_cons fe_int (fa_cons fe_int fa_nil))))))))) (blkOk_by (N := N__law_near_places) (sc := defScope s__law_near_places) (own := [("thing", 4)]) (by decide +kernel)) (fun s H C cl fp => (fg_name (i := 4) (Ok.blk o s H _ _ fp).nd)) (fun s H C cl fp => fts_nil) (fun s H C cl fp => (fe_op op_addA od_add (fe_op op_addA od_add (fe_cut (fe_var 1) fo_none (fo_some (fe_var 2))) (fe_tup (fa_cons (fe_var 4) fa_nil))) (fe_cut (fe_var 1) (fo_some (fe_var 2)) fo_none)))) fa_nil)))
 (fss_one (fs_ret (fe_op op_addA od_add (fe_var 3) (fe_lst (fa_cons fe_non (fa_cons fe_int (fa_cons fe_str (fa_cons fe_str (fa_cons (fe_tup fa_nil) (fa_cons (fe_lst (fa_cons fe_int fa_nil)) fa_nil)))))))))))))
/-! ### _law_is_name -/
abbrev s__law_is_name : Stmt := top 57
abbrev N__law_is_name : List Str := ["thing", "sign"]
theorem sc__law_is_name : FnScope N__law_is_name ["thing"] (defScope s__law_is_name) := ⟨rfl, rfl, rfl, by decide +kernel, rfl, by decide +kernel, by decide +kernel⟩
noncomputable def fb__law_is_name (g__law_kept : List D → Sto → R D) : DS :=
 (sSeq (sIf (bOr (bNot (dB (dIsTy "str" (dVar 0)))) (bOr (bNot (dB (d3 gLe gLe (dC (.int 1)) (dCall gLen (aCons (dVar 0) aNil)) (dC (.int 8))))) (dB (d2 (gIn false) (dVar 0) (dCall g__law_kept aNil))))) (sRet (dC (.bl false))) sNil)
 (sRet (d2 (gEqW false) (dLc [1] (dIter (dVar 0)) (.nm 1) (dB (d2 (gIn true) (dVar 1) (dC (.str "abcdefghijklmnopqrstuvwxyz")))) (dVar 1)) (dLst aNil))))
theorem raw__law_is_name {P : Program} {w : World} {K : PySem.W.Frag} {mg : Str → Option Value} {base : Heap} {tb : List (Addr × Str)} {f : Addr} {fd : FuncData} (F : Fun K "_law_is_name" "_law_is_name" s__law_is_name f fd) (hx : mg "_law_is_name" = some (.ref f)) (bd : Binds K fd ["thing"] []) (B : ∀ x ∈ bnames, mg x = none)
  {f__law_kept : Addr} {fd__law_kept : FuncData} {g__law_kept : List D → Sto → R D} (H__law_kept : ∀ T : TB, T.tabs = tb → DefOk P w K mg base T 3 "_law_kept" f__law_kept fd__law_kept [] U0 g__law_kept) (T : TB) (hT : T.tabs = tb) :
  DefOk P w K mg base T 4 "_law_is_name" f fd ["thing"] U0 (fun ds st => (fb__law_is_name g__law_kept (ev0 N__law_is_name ds) st).toR) :=
 def_ok (k := 3) (fb := fb__law_is_name g__law_kept) F sc__law_is_name hx bd fun cdv A outer s H E o => (fss_cons (fs_if (ft_w (fw_or (ft_not (ft_val (fe_isTy (B _ (by decide : ("isinstance" : Str) ∈ bnames)) (B _ (by decide : ("str" : Str) ∈ bnames)) (by decide +kernel) (by decide) (fe_var 0)))) (fw_or (ft_not (ft_chain  op_le  op_le od_le od_le fe_int (fe_callB call_len cd_len (B _ (by decide : ("len" : Str) ∈ bnames)) (by decide +kernel) (fa_cons (fe_var 0) fa_nil)) fe_int)) (fw_or1 (ft_cmp  op_inA od_in (fe_var 0) (fe_call0 (H__law_kept _ hT) o)))))) (fss_one (fs_ret fe_bl)) fss_nil)
 (fss_one (fs_ret (fe_cmp  (op_eqW o.room.units) od_eqW (fe_lc o.calm o.nd (fi_seq (fe_var 0)) (blkOk_by (N := N__law_is_name) (sc := defScope s__law_is_name) (own := [("sign", 1)]) (by decide +kernel)) (fun s H C cl fp => (fg_name (i := 1) (Ok.blk o s H _ _ fp).nd)) (fun s H C cl fp => (fts_one (ft_cmp  op_notInA od_notIn (fe_var 1) fe_str))) (fun s H C cl fp => (fe_var 1))) (fe_lst fa_nil)))))
/-! ### _law_name -/
abbrev s__law_name : Stmt := top 58
abbrev N__law_name : List Str := ["draw", "used", "letters", "way", "size", "number", "word", "k"]
theorem sc__law_name : FnScope N__law_name ["draw", "used"] (defScope s__law_name) := ⟨rfl, rfl, rfl, by decide +kernel, rfl, by decide +kernel, by decide +kernel⟩
noncomputable def fb__law_name (g__law_take : List D → Sto → R D) (g__law_pick : List D → Sto → R D) (g__law_kept : List D → Sto → R D) (g__law_is_name : List D → Sto → R D) : DS :=
 (sSeq (sPar [2, 3, 4] (aCons (dC (.str "abcdefghijklmnopqrstuvwxyz")) (aCons (dCall g__law_take (aCons (dVar 0) (aCons (dC (.int 7)) aNil))) (aCons (d2 gAdd (dC (.int 1)) (dCall g__law_take (aCons (dVar 0) (aCons (dC (.int 8)) aNil)))) aNil))))
 (sSeq (sPar [5, 6] (aCons (dCall g__law_take (aCons (dVar 0) (aCons (d2 gPow (dC (.int 26)) (dC (.int 8))) aNil))) (aCons (dC (.str "")) aNil)))
 (sSeq (sIf (dB (d2 (gEqW false) (dVar 3) (dC (.int 0)))) (sPar [6, 4] (aCons (dCall g__law_pick (aCons (dVar 0) (aCons (dCall g__law_kept aNil) aNil))) (aCons (dC (.int 1)) aNil))) sNil)
 (sSeq (sFor (dIt gRange1 (aCons (dVar 4) aNil)) (.nm 7) (sPar [6, 5] (aCons (d2 gAdd (dVar 6) (d2 gIx (dVar 2) (d2 gMod (dCall gInt1 (aCons (dVar 5) aNil)) (dC (.int 26))))) (aCons (d2 gFdiv (dVar 5) (dC (.int 26))) aNil))))
 (sSeq (sIf (bAnd (dB (dCall g__law_is_name (aCons (dVar 6) aNil))) (dB (d2 (gIn true) (dVar 6) (dVar 1)))) (sRet (dVar 6)) sNil)
 (sSeq (sFor (dIt gRange1 (aCons (dC (.int 676)) aNil)) (.nm 7) (sSeq (sAsg (d2 gAdd (d2 gAdd (dC (.str "q")) (d2 gIx (dVar 2) (d2 gFdiv (dVar 7) (dC (.int 26))))) (d2 gIx (dVar 2) (d2 gMod (dCall gInt1 (aCons (dVar 7) aNil)) (dC (.int 26))))) (.nm 6))
 (sIf (dB (d2 (gIn true) (dVar 6) (dVar 1))) (sRet (dVar 6)) sNil)))
 (sRet (dVar 6))))))))
theorem raw__law_name {P : Program} {w : World} {K : PySem.W.Frag} {mg : Str → Option Value} {base : Heap} {tb : List (Addr × Str)} {f : Addr} {fd : FuncData} (F : Fun K "_law_name" "_law_name" s__law_name f fd) (hx : mg "_law_name" = some (.ref f)) (bd : Binds K fd ["draw", "used"] []) (B : ∀ x ∈ bnames, mg x = none)
  {f__law_take : Addr} {fd__law_take : FuncData} {g__law_take : List D → Sto → R D} (H__law_take : ∀ T : TB, T.tabs = tb → DefOk P w K mg base T 4 "_law_take" f__law_take fd__law_take ["draw", "many"] U0 g__law_take)
  {f__law_pick : Addr} {fd__law_pick : FuncData} {g__law_pick : List D → Sto → R D} (H__law_pick : ∀ T : TB, T.tabs = tb → DefOk P w K mg base T 5 "_law_pick" f__law_pick fd__law_pick ["draw", "some"] U0 g__law_pick)
  {f__law_kept : Addr} {fd__law_kept : FuncData} {g__law_kept : List D → Sto → R D} (H__law_kept : ∀ T : TB, T.tabs = tb → DefOk P w K mg base T 3 "_law_kept" f__law_kept fd__law_kept [] U0 g__law_kept)
  {f__law_is_name : Addr} {fd__law_is_name : FuncData} {g__law_is_name : List D → Sto → R D} (H__law_is_name : ∀ T : TB, T.tabs = tb → DefOk P w K mg base T 4 "_law_is_name" f__law_is_name fd__law_is_name ["thing"] U0 g__law_is_name) (T : TB) (hT : T.tabs = tb) :
  DefOk P w K mg base T 6 "_law_name" f fd ["draw", "used"] U0 (fun ds st => (fb__law_name g__law_take g__law_pick g__law_kept g__law_is_name (ev0 N__law_name ds) st).toR) :=
 def_ok (k := 5) (fb := fb__law_name g__law_take g__law_pick g__law_kept g__law_is_name) F sc__law_name hx bd fun cdv A outer s H E o => (fss_cons (fs_par3 (i := 2) (j := 3) (l := 4) o.calm o.nd (fa_cons fe_str (fa_cons (fe_call (H__law_take _ hT) o (fa_cons (fe_var 0) (fa_cons fe_int fa_nil))) (fa_cons (fe_op op_addA od_add fe_int (fe_call (H__law_take _ hT) o (fa_cons (fe_var 0) (fa_cons fe_int fa_nil)))) fa_nil))))
 (fss_cons (fs_par (i := 5) (j := 6) o.calm o.nd (fa_cons (fe_call (H__law_take _ hT) o (fa_cons (fe_var 0) (fa_cons (fe_op op_pow od_pow fe_int fe_int) fa_nil))) (fa_cons fe_str fa_nil)))
 (fss_cons (fs_if (ft_cmp  (op_eqW o.room.units) od_eqW (fe_var 3) fe_int) (fss_one (fs_par (i := 6) (j := 4) o.calm o.nd (fa_cons (fe_call (H__law_pick _ hT) o (fa_cons (fe_var 0) (fa_cons (fe_call0 (H__law_kept _ hT) o) fa_nil))) (fa_cons fe_int fa_nil)))) fss_nil)
 (fss_cons (fs_for o.own o.calm (fi_range1 (B _ (by decide : ("range" : Str) ∈ bnames)) (fa_cons (fe_var 4) fa_nil)) (fg_name (i := 7) o.nd) (fss_one (fs_par (i := 6) (j := 5) o.calm o.nd (fa_cons (fe_op op_addA od_add (fe_var 6) (fe_ix o (fe_var 2) (fe_op op_mod od_mod (fe_callTy call_int1 cd_int (B _ (by decide : ("int" : Str) ∈ bnames)) (by decide +kernel) (fa_cons (fe_var 5) fa_nil)) fe_int))) (fa_cons (fe_op op_fdivW od_fdiv (fe_var 5) fe_int) fa_nil)))))
 (fss_cons (fs_if (ft_w (fw_and (ft_val (fe_call (H__law_is_name _ hT) o (fa_cons (fe_var 6) fa_nil))) (fw_and1 (ft_cmp  op_notInA od_notIn (fe_var 6) (fe_var 1))))) (fss_one (fs_ret (fe_var 6))) fss_nil)
 (fss_cons (fs_for o.own o.calm (fi_range1 (B _ (by decide : ("range" : Str) ∈ bnames)) (fa_cons fe_int fa_nil)) (fg_name (i := 7) o.nd) (fss_cons (fs_set (i := 6) o.nd (fe_op op_addA od_add (fe_op op_addA od_add fe_str (fe_ix o (fe_var 2) (fe_op op_fdivW od_fdiv (fe_var 7) fe_int))) (fe_ix o (fe_var 2) (fe_op op_mod od_mod (fe_callTy call_int1 cd_int (B _ (by decide : ("int" : Str) ∈ bnames)) (by decide +kernel) (fa_cons (fe_var 7) fa_nil)) fe_int))))
 (fss_one (fs_if (ft_cmp  op_notInA od_notIn (fe_var 6) (fe_var 1)) (fss_one (fs_ret (fe_var 6))) fss_nil))))
 (fss_one (fs_ret (fe_var 6)))))))))
/-! ### _law_refused -/
abbrev s__law_refused : Stmt := top 53
abbrev N__law_refused : List Str := ["work"]
theorem sc__law_refused : FnScope N__law_refused ["work"] (defScope s__law_refused) := ⟨rfl, rfl, rfl, by decide +kernel, rfl, by decide +kernel, by decide +kernel⟩
noncomputable def fb__law_refused (g__law_kinds : List D → Sto → R D) (g__law_caught : (Sto → R D) → Sto → R D) (c0 : Clo) (cl : Sto → R D) : DS :=
 (sRet (dCall g__law_kinds (aCons (dCall (gC c0 (g__law_caught cl)) (aCons (dVar 0) aNil)) aNil)))
theorem raw__law_refused {P : Program} {w : World} {K : PySem.W.Frag} {mg : Str → Option Value} {base : Heap} {tb : List (Addr × Str)} {f : Addr} {fd : FuncData} (F : Fun K "_law_refused" "_law_refused" s__law_refused f fd) (hx : mg "_law_refused" = some (.ref f)) (bd : Binds K fd ["work"] [])
  {f__law_kinds : Addr} {fd__law_kinds : FuncData} {g__law_kinds : List D → Sto → R D} (H__law_kinds : ∀ T : TB, T.tabs = tb → DefOk P w K mg base T 3 "_law_kinds" f__law_kinds fd__law_kinds ["error"] U0 g__law_kinds)
  {f__law_caught : Addr} {fd__law_caught : FuncData} {g__law_caught : (Sto → R D) → Sto → R D} (H__law_caught : ∀ (T : TB) (U : UP) (c : Clo) (cl : Sto → R D), T.tabs = tb → USt U → CloOK1 P w K mg base 6 T U c cl → DefOk P w K mg base T 7 "_law_caught" f__law_caught fd__law_caught ["work"] U (gC c (g__law_caught cl))) (T : TB) (U : UP) (c0 : Clo) (cl : Sto → R D) (hT : T.tabs = tb) (S : USt U) (HC : CloOK1 P w K mg base 6 T U c0 cl) :
  DefOk P w K mg base T 8 "_law_refused" f fd ["work"] U (fun ds st => (fb__law_refused g__law_kinds g__law_caught c0 cl (ev0 N__law_refused ds) st).toR) :=
 def_okU (k := 7) (fb := fb__law_refused g__law_kinds g__law_caught c0 cl) F sc__law_refused hx bd fun cdv A outer s H E hU o => (fss_one (fs_ret (fe_call (H__law_kinds _ hT) o (fa_cons (fe_callU (H__law_caught T U c0 cl hT S HC) o (fun pins σ H s I => S.step I rfl rfl rfl hU) (fa_cons (fe_var 0) fa_nil)) fa_nil))))
/-! ### _law_is -/
abbrev s__law_is : Stmt := top 54
abbrev N__law_is : List Str := ["told", "due"]
theorem sc__law_is : FnScope N__law_is ["told", "due"] (defScope s__law_is) := ⟨rfl, rfl, rfl, by decide +kernel, rfl, by decide +kernel, by decide +kernel⟩
noncomputable def fb__law_is : DS :=
 (sRet (dAnd (dIsTy "bool" (dVar 0)) (d2 (gEqW false) (dVar 0) (dVar 1))))
theorem raw__law_is {P : Program} {w : World} {K : PySem.W.Frag} {mg : Str → Option Value} {base : Heap} {tb : List (Addr × Str)} {f : Addr} {fd : FuncData} (F : Fun K "_law_is" "_law_is" s__law_is f fd) (hx : mg "_law_is" = some (.ref f)) (bd : Binds K fd ["told", "due"] []) (B : ∀ x ∈ bnames, mg x = none) (T : TB) (hT : T.tabs = tb) :
  DefOk P w K mg base T 3 "_law_is" f fd ["told", "due"] U0 (fun ds st => (fb__law_is (ev0 N__law_is ds) st).toR) :=
 def_ok (k := 2) (fb := fb__law_is) F sc__law_is hx bd fun cdv A outer s H E o => (fss_one (fs_ret (fe_and (fe_isTy (B _ (by decide : ("isinstance" : Str) ∈ bnames)) (B _ (by decide : ("bool" : Str) ∈ bnames)) (by decide +kernel) (by decide) (fe_var 0)) (fe_one (fe_cmp  (op_eqW o.room.units) od_eqW (fe_var 0) (fe_var 1))))))
/-! ### _law_is_word -/
abbrev s__law_is_word : Stmt := top 61
abbrev N__law_is_word : List Str := ["thing", "many", "sign"]
theorem sc__law_is_word : FnScope N__law_is_word ["thing", "many"] (defScope s__law_is_word) := ⟨rfl, rfl, rfl, by decide +kernel, rfl, by decide +kernel, by decide +kernel⟩
noncomputable def fb__law_is_word : DS :=
 (sRet (dAnd (dIsTy "str" (dVar 0)) (dAnd (d2 (gEqW false) (dCall gLen (aCons (dVar 0) aNil)) (dVar 1)) (d2 (gEqW false) (dLc [2] (dIter (dVar 0)) (.nm 2) (dB (d2 (gIn true) (dVar 2) (dC (.str "01")))) (dVar 2)) (dLst aNil)))))
theorem raw__law_is_word {P : Program} {w : World} {K : PySem.W.Frag} {mg : Str → Option Value} {base : Heap} {tb : List (Addr × Str)} {f : Addr} {fd : FuncData} (F : Fun K "_law_is_word" "_law_is_word" s__law_is_word f fd) (hx : mg "_law_is_word" = some (.ref f)) (bd : Binds K fd ["thing", "many"] []) (B : ∀ x ∈ bnames, mg x = none) (T : TB) (hT : T.tabs = tb) :
  DefOk P w K mg base T 3 "_law_is_word" f fd ["thing", "many"] U0 (fun ds st => (fb__law_is_word (ev0 N__law_is_word ds) st).toR) :=
 def_ok (k := 2) (fb := fb__law_is_word) F sc__law_is_word hx bd fun cdv A outer s H E o => (fss_one (fs_ret (fe_and (fe_isTy (B _ (by decide : ("isinstance" : Str) ∈ bnames)) (B _ (by decide : ("str" : Str) ∈ bnames)) (by decide +kernel) (by decide) (fe_var 0)) (fe_and (fe_cmp  (op_eqW o.room.units) od_eqW (fe_callB call_len cd_len (B _ (by decide : ("len" : Str) ∈ bnames)) (by decide +kernel) (fa_cons (fe_var 0) fa_nil)) (fe_var 1)) (fe_one (fe_cmp  (op_eqW o.room.units) od_eqW (fe_lc o.calm o.nd (fi_seq (fe_var 0)) (blkOk_by (N := N__law_is_word) (sc := defScope s__law_is_word) (own := [("sign", 2)]) (by decide +kernel)) (fun s H C cl fp => (fg_name (i := 2) (Ok.blk o s H _ _ fp).nd)) (fun s H C cl fp => (fts_one (ft_cmp  op_notInA od_notIn (fe_var 2) fe_str))) (fun s H C cl fp => (fe_var 2))) (fe_lst fa_nil)))))))
/-! ### is_name -/
abbrev s_is_name : Stmt := top 36
abbrev N_is_name : List Str := ["thing", "sign"]
theorem sc_is_name : FnScope N_is_name ["thing"] (defScope s_is_name) := ⟨rfl, rfl, rfl, by decide +kernel, rfl, by decide +kernel, by decide +kernel⟩
noncomputable def fb_is_name : DS :=
 (sSeq (sIf (bOr (bNot (dB (dIsTy "str" (dVar 0)))) (bOr (bNot (dB (d3 gLe gLe (dC (.int 1)) (dCall gLen (aCons (dVar 0) aNil)) (dC (.int 8))))) (dB (d2 (gIn false) (dVar 0) (dC cv_KEPT))))) (sRet (dC (.bl false))) sNil)
 (sRet (dCall (gAllAny true) (aCons (dLc [1] (dIter (dVar 0)) (.nm 1) bYes (d2 (gIn false) (dVar 1) (dC cv_LETTERS))) aNil))))
theorem raw_is_name {P : Program} {w : World} {K : PySem.W.Frag} {mg : Str → Option Value} {base : Heap} {tb : List (Addr × Str)} {f : Addr} {fd : FuncData} (F : Fun K "is_name" "is_name" s_is_name f fd) (hx : mg "is_name" = some (.ref f)) (bd : Binds K fd ["thing"] []) (B : ∀ x ∈ bnames, mg x = none) (G_KEPT : Gv K mg "KEPT" cv_KEPT) (G_LETTERS : Gv K mg "LETTERS" cv_LETTERS) (T : TB) (hT : T.tabs = tb) :
  DefOk P w K mg base T 3 "is_name" f fd ["thing"] U0 (fun ds st => (fb_is_name (ev0 N_is_name ds) st).toR) :=
 def_ok (k := 2) (fb := fb_is_name) F sc_is_name hx bd fun cdv A outer s H E o => (fss_cons (fs_if (ft_w (fw_or (ft_not (ft_val (fe_isTy (B _ (by decide : ("isinstance" : Str) ∈ bnames)) (B _ (by decide : ("str" : Str) ∈ bnames)) (by decide +kernel) (by decide) (fe_var 0)))) (fw_or (ft_not (ft_chain  op_le  op_le od_le od_le fe_int (fe_callB call_len cd_len (B _ (by decide : ("len" : Str) ∈ bnames)) (by decide +kernel) (fa_cons (fe_var 0) fa_nil)) fe_int)) (fw_or1 (ft_cmp  op_inA od_in (fe_var 0) (fe_gv G_KEPT)))))) (fss_one (fs_ret fe_bl)) fss_nil)
 (fss_one (fs_ret (fe_callB (cr_all o.calm) cd_all (B _ (by decide : ("all" : Str) ∈ bnames)) (by decide +kernel) (fa_cons (fe_lc o.calm o.nd (fi_seq (fe_var 0)) (blkOk_by (N := N_is_name) (sc := defScope s_is_name) (own := [("sign", 1)]) (by decide +kernel)) (fun s H C cl fp => (fg_name (i := 1) (Ok.blk o s H _ _ fp).nd)) (fun s H C cl fp => fts_nil) (fun s H C cl fp => (fe_cmp  op_inA od_in (fe_var 1) (fe_gv G_LETTERS)))) fa_nil)))))
/-! ### _law_is_number -/
abbrev s__law_is_number : Stmt := top 59
abbrev N__law_is_number : List Str := ["thing", "low", "high"]
theorem sc__law_is_number : FnScope N__law_is_number ["thing", "low", "high"] (defScope s__law_is_number) := ⟨rfl, rfl, rfl, by decide +kernel, rfl, by decide +kernel, by decide +kernel⟩
noncomputable def fb__law_is_number : DS :=
 (sRet (dAnd (dIsTy "int" (dVar 0)) (dAnd (dNot (dIsTy "bool" (dVar 0))) (d3 gLe gLe (dVar 1) (dVar 0) (dVar 2)))))
theorem raw__law_is_number {P : Program} {w : World} {K : PySem.W.Frag} {mg : Str → Option Value} {base : Heap} {tb : List (Addr × Str)} {f : Addr} {fd : FuncData} (F : Fun K "_law_is_number" "_law_is_number" s__law_is_number f fd) (hx : mg "_law_is_number" = some (.ref f)) (bd : Binds K fd ["thing", "low", "high"] []) (B : ∀ x ∈ bnames, mg x = none) (T : TB) (hT : T.tabs = tb) :
  DefOk P w K mg base T 3 "_law_is_number" f fd ["thing", "low", "high"] U0 (fun ds st => (fb__law_is_number (ev0 N__law_is_number ds) st).toR) :=
 def_ok (k := 2) (fb := fb__law_is_number) F sc__law_is_number hx bd fun cdv A outer s H E o => (fss_one (fs_ret (fe_and (fe_isTy (B _ (by decide : ("isinstance" : Str) ∈ bnames)) (B _ (by decide : ("int" : Str) ∈ bnames)) (by decide +kernel) (by decide) (fe_var 0)) (fe_and (fe_not (fe_isTy (B _ (by decide : ("isinstance" : Str) ∈ bnames)) (B _ (by decide : ("bool" : Str) ∈ bnames)) (by decide +kernel) (by decide) (fe_var 0))) (fe_one (fe_chain  op_le  op_le od_le od_le (fe_var 1) (fe_var 0) (fe_var 2)))))))
/-! ### _law_are_places -/
abbrev s__law_are_places : Stmt := top 60
abbrev N__law_are_places : List Str := ["thing", "many", "place", "one", "other"]
theorem sc__law_are_places : FnScope N__law_are_places ["thing", "many"] (defScope s__law_are_places) := ⟨rfl, rfl, rfl, by decide +kernel, rfl, by decide +kernel, by decide +kernel⟩
noncomputable def fb__law_are_places (g__law_is_number : List D → Sto → R D) : DS :=
 (sSeq (sIf (bOr (bNot (dB (dIsTy "tuple" (dVar 0)))) (dB (d2 (gEqW true) (dLc [2] (dIter (dVar 0)) (.nm 2) (bNot (dB (dCall g__law_is_number (aCons (dVar 2) (aCons (dC (.int 1)) (aCons (dVar 1) aNil)))))) (dVar 2)) (dLst aNil)))) (sRet (dC (.bl false))) sNil)
 (sRet (d2 (gEqW false) (dLc [3, 4] (dIt gZip (aCons (dVar 0) (aCons (dCut (dVar 0) (oSome (dC (.int 1))) oNone) aNil))) (.tp [(.nm 3), (.nm 4)]) (bNot (dB (d2 gLt (dVar 3) (dVar 4)))) (dC (.int 1))) (dLst aNil))))
theorem raw__law_are_places {P : Program} {w : World} {K : PySem.W.Frag} {mg : Str → Option Value} {base : Heap} {tb : List (Addr × Str)} {f : Addr} {fd : FuncData} (F : Fun K "_law_are_places" "_law_are_places" s__law_are_places f fd) (hx : mg "_law_are_places" = some (.ref f)) (bd : Binds K fd ["thing", "many"] []) (B : ∀ x ∈ bnames, mg x = none)
  {f__law_is_number : Addr} {fd__law_is_number : FuncData} {g__law_is_number : List D → Sto → R D} (H__law_is_number : ∀ T : TB, T.tabs = tb → DefOk P w K mg base T 3 "_law_is_number" f__law_is_number fd__law_is_number ["thing", "low", "high"] U0 g__law_is_number) (T : TB) (hT : T.tabs = tb) :
  DefOk P w K mg base T 4 "_law_are_places" f fd ["thing", "many"] U0 (fun ds st => (fb__law_are_places g__law_is_number (ev0 N__law_are_places ds) st).toR) :=
 def_ok (k := 3) (fb := fb__law_are_places g__law_is_number) F sc__law_are_places hx bd fun cdv A outer s H E o => (fss_cons (fs_if (ft_w (fw_or (ft_not (ft_val (fe_isTy (B _ (by decide : ("isinstance" : Str) ∈ bnames)) (B _ (by decide : ("tuple" : Str) ∈ bnames)) (by decide +kernel) (by decide) (fe_var 0)))) (fw_or1 (ft_cmp  (op_neW o.room.units) od_neW (fe_lc o.calm o.nd (fi_seq (fe_var 0)) (blkOk_by (N := N__law_are_places) (sc := defScope s__law_are_places) (own := [("place", 2)]) (by decide +kernel)) (fun s H C cl fp => (fg_name (i := 2) (Ok.blk o s H _ _ fp).nd)) (fun s H C cl fp => (fts_one (ft_not (ft_val (fe_call (H__law_is_number _ hT) (Ok.blk o s H _ _ fp) (fa_cons (fe_var 2) (fa_cons fe_int (fa_cons (fe_var 1) fa_nil)))))))) (fun s H C cl fp => (fe_var 2))) (fe_lst fa_nil))))) (fss_one (fs_ret fe_bl)) fss_nil)
 (fss_one (fs_ret (fe_cmp  (op_eqW o.room.units) od_eqW (fe_lc o.calm o.nd (fi_zip (B _ (by decide : ("zip" : Str) ∈ bnames)) (fa_cons (fe_var 0) (fa_cons (fe_cut (fe_var 0) (fo_some fe_int) fo_none) fa_nil))) (blkOk_by (N := N__law_are_places) (sc := defScope s__law_are_places) (own := [("one", 3), ("other", 4)]) (by decide +kernel)) (fun s H C cl fp => (fg_tup (Ok.blk o s H _ _ fp).calm (fgs_cons (fg_name (i := 3) (Ok.blk o s H _ _ fp).nd) (fgs_cons (fg_name (i := 4) (Ok.blk o s H _ _ fp).nd) fgs_nil)))) (fun s H C cl fp => (fts_one (ft_not (ft_cmp  op_ltA od_lt (fe_var 3) (fe_var 4))))) (fun s H C cl fp => fe_int)) (fe_lst fa_nil)))))
/-! ### law -/
abbrev s_law : Stmt := top 67
abbrev N_law : List Str := ["script", "draw", "turn", "thing", "many", "word", "places", "wide", "size", "is_right", "wrong", "due", "k"]
theorem sc_law : FnScope N_law ["script"] (defScope s_law) := ⟨rfl, rfl, rfl, by decide +kernel, rfl, by decide +kernel, by decide +kernel⟩
noncomputable def fl_law_0 (g__law_begun : List D → Sto → R D) (g__law_stand_right : List D → Sto → R D) (g__law_same : List D → Sto → R D) (g__law_kept : List D → Sto → R D) (g__law_near_names : List D → Sto → R D) (g__law_name : List D → Sto → R D) (g__law_is : List D → Sto → R D) (g__law_is_name : List D → Sto → R D) (g_is_name : List D → Sto → R D) (g__law_take : List D → Sto → R D) (g__law_word : List D → Sto → R D) (g_ones : List D → Sto → R D) (g_word_of : List D → Sto → R D) (g__law_near_words : List D → Sto → R D) (g__law_is_word : List D → Sto → R D) (g_is_word : List D → Sto → R D) (g__law_refused : (Sto → R D) → Sto → R D) (g__law_pick : List D → Sto → R D) (g__law_near_places : List D → Sto → R D) (g__law_are_places : List D → Sto → R D) : DE := (fun env st => ((aCons (dVar 3) aNil) env st).bind fun ds s1 => g_ones (permD [0] ds) s1)
noncomputable def fl_law_1 (g__law_begun : List D → Sto → R D) (g__law_stand_right : List D → Sto → R D) (g__law_same : List D → Sto → R D) (g__law_kept : List D → Sto → R D) (g__law_near_names : List D → Sto → R D) (g__law_name : List D → Sto → R D) (g__law_is : List D → Sto → R D) (g__law_is_name : List D → Sto → R D) (g_is_name : List D → Sto → R D) (g__law_take : List D → Sto → R D) (g__law_word : List D → Sto → R D) (g_ones : List D → Sto → R D) (g_word_of : List D → Sto → R D) (g__law_near_words : List D → Sto → R D) (g__law_is_word : List D → Sto → R D) (g_is_word : List D → Sto → R D) (g__law_refused : (Sto → R D) → Sto → R D) (g__law_pick : List D → Sto → R D) (g__law_near_places : List D → Sto → R D) (g__law_are_places : List D → Sto → R D) : DE := (dCall g_is_word (aCons (dCall g__law_pick (aCons (dVar 1) (aCons (dLst (aCons (dVar 5) (aCons (dC .non) aNil))) aNil))) (aCons (dVar 8) aNil)))
noncomputable def fl_law_2 (g__law_begun : List D → Sto → R D) (g__law_stand_right : List D → Sto → R D) (g__law_same : List D → Sto → R D) (g__law_kept : List D → Sto → R D) (g__law_near_names : List D → Sto → R D) (g__law_name : List D → Sto → R D) (g__law_is : List D → Sto → R D) (g__law_is_name : List D → Sto → R D) (g_is_name : List D → Sto → R D) (g__law_take : List D → Sto → R D) (g__law_word : List D → Sto → R D) (g_ones : List D → Sto → R D) (g_word_of : List D → Sto → R D) (g__law_near_words : List D → Sto → R D) (g__law_is_word : List D → Sto → R D) (g_is_word : List D → Sto → R D) (g__law_refused : (Sto → R D) → Sto → R D) (g__law_pick : List D → Sto → R D) (g__law_near_places : List D → Sto → R D) (g__law_are_places : List D → Sto → R D) : DE := (dCall g_word_of (aCons (dVar 3) (aCons (dVar 8) aNil)))
noncomputable def fl_law_3 (g__law_begun : List D → Sto → R D) (g__law_stand_right : List D → Sto → R D) (g__law_same : List D → Sto → R D) (g__law_kept : List D → Sto → R D) (g__law_near_names : List D → Sto → R D) (g__law_name : List D → Sto → R D) (g__law_is : List D → Sto → R D) (g__law_is_name : List D → Sto → R D) (g_is_name : List D → Sto → R D) (g__law_take : List D → Sto → R D) (g__law_word : List D → Sto → R D) (g_ones : List D → Sto → R D) (g_word_of : List D → Sto → R D) (g__law_near_words : List D → Sto → R D) (g__law_is_word : List D → Sto → R D) (g_is_word : List D → Sto → R D) (g__law_refused : (Sto → R D) → Sto → R D) (g__law_pick : List D → Sto → R D) (g__law_near_places : List D → Sto → R D) (g__law_are_places : List D → Sto → R D) : DE := (dCall g_word_of (aCons (dVar 3) (aCons (dC (.int 24)) aNil)))
noncomputable def fb_law (g__law_begun : List D → Sto → R D) (g__law_stand_right : List D → Sto → R D) (g__law_same : List D → Sto → R D) (g__law_kept : List D → Sto → R D) (g__law_near_names : List D → Sto → R D) (g__law_name : List D → Sto → R D) (g__law_is : List D → Sto → R D) (g__law_is_name : List D → Sto → R D) (g_is_name : List D → Sto → R D) (g__law_take : List D → Sto → R D) (g__law_word : List D → Sto → R D) (g_ones : List D → Sto → R D) (g_word_of : List D → Sto → R D) (g__law_near_words : List D → Sto → R D) (g__law_is_word : List D → Sto → R D) (g_is_word : List D → Sto → R D) (g__law_refused : (Sto → R D) → Sto → R D) (g__law_pick : List D → Sto → R D) (g__law_near_places : List D → Sto → R D) (g__law_are_places : List D → Sto → R D) (c0 : Clo) (c1 : Clo) (c2 : Clo) (c3 : Clo) : DS :=
 (sSeq (sAsg (dCall g__law_begun (aCons (dVar 0) aNil)) (.nm 1))
 (sSeq (sIf (bNot (dB (dCall g__law_stand_right (aCons (dVar 1) aNil)))) (sRet (dC (.bl false))) sNil)
 (sSeq (sIf (bNot (dB (dCall g__law_same (aCons (dC cv_KEPT) (aCons (dCall gTupleA (aCons (dCall g__law_kept aNil) aNil)) aNil))))) (sRet (dC (.bl false))) sNil)
 (sSeq (sFor (dIt gRange1 (aCons (d2 gAdd (dC (.int 3)) (dCall gMin2 (aCons (dCall gLen (aCons (dVar 0) aNil)) (aCons (dC (.int 5)) aNil)))) aNil)) (.nm 2) (sSeq (sFor (dIter (dCall g__law_near_names (aCons (dVar 1) (aCons (dCall g__law_name (aCons (dVar 1) (aCons (dLst aNil) aNil))) aNil)))) (.nm 3) (sIf (bNot (dB (dCall g__law_is (aCons (dCall g_is_name (aCons (dVar 3) aNil)) (aCons (dCall g__law_is_name (aCons (dVar 3) aNil)) aNil))))) (sRet (dC (.bl false))) sNil))
 (sSeq (sAsg (dCall g__law_take (aCons (dVar 1) (aCons (dC (.int 25)) aNil))) (.nm 4))
 (sSeq (sAsg (dCall g__law_word (aCons (dVar 1) (aCons (dVar 4) aNil))) (.nm 5))
 (sSeq (sPar [6, 7] (aCons (dCall gTupleA (aCons (dLc [12] (dIt gRange1 (aCons (dVar 4) aNil)) (.nm 12) (dB (d2 (gEqW false) (d2 gIx (dVar 5) (dVar 12)) (dC (.str "1")))) (d2 gAdd (dVar 12) (dC (.int 1)))) aNil)) (aCons (d2 gAdd (dVar 4) (dCall g__law_take (aCons (dVar 1) (aCons (d2 gSub (dC (.int 25)) (dVar 4)) aNil)))) aNil)))
 (sSeq (sIf (bOr (bNot (dB (dCall g__law_same (aCons (dCall g_ones (aCons (dVar 5) aNil)) (aCons (dVar 6) aNil))))) (bNot (dB (dCall g__law_same (aCons (dCall g_word_of (aCons (dVar 6) (aCons (dVar 4) aNil))) (aCons (dVar 5) aNil)))))) (sRet (dC (.bl false))) sNil)
 (sSeq (sIf (bNot (dB (dCall g__law_same (aCons (fun env st => ((aCons (dVar 7) (aCons (dVar 6) aNil)) env st).bind fun ds s1 => g_word_of (permD [1, 0] ds) s1) (aCons (d2 gAdd (dVar 5) (d2 gMul (dC (.str "0")) (d2 gSub (dVar 7) (dVar 4)))) aNil))))) (sRet (dC (.bl false))) sNil)
 (sSeq (sFor (dIter (dCall g__law_near_words (aCons (dVar 1) (aCons (dVar 5) aNil)))) (.nm 3) (sSeq (sFor (dIter (dLst (aCons (dVar 4) (aCons (dVar 7) (aCons (dCall gMax2 (aCons (d2 gSub (dVar 4) (dC (.int 1))) (aCons (dC (.int 0)) aNil))) (aCons (dCall gMin2 (aCons (d2 gAdd (dVar 4) (dC (.int 1))) (aCons (dC (.int 24)) aNil))) aNil)))))) (.nm 8) (sIf (bNot (dB (dCall g__law_is (aCons (fun env st => ((aCons (dVar 8) (aCons (dVar 3) aNil)) env st).bind fun ds s1 => g_is_word (permD [1, 0] ds) s1) (aCons (dCall g__law_is_word (aCons (dVar 3) (aCons (dVar 8) aNil))) aNil))))) (sRet (dC (.bl false))) sNil))
 (sSeq (sAsg (dAnd (dIsTy "str" (dVar 3)) (dAnd (d2 gLt (dCall gLen (aCons (dVar 3) aNil)) (dC (.int 25))) (dCall g__law_is_word (aCons (dVar 3) (aCons (dCall gLen (aCons (dVar 3) aNil)) aNil))))) (.nm 9))
 (sIf (dB (d2 (gEqW true) (dClo g__law_refused [(c0, fl_law_0 g__law_begun g__law_stand_right g__law_same g__law_kept g__law_near_names g__law_name g__law_is g__law_is_name g_is_name g__law_take g__law_word g_ones g_word_of g__law_near_words g__law_is_word g_is_word g__law_refused g__law_pick g__law_near_places g__law_are_places)] (aCons (dC (.clo c0)) aNil)) (dIf (dB (dVar 9)) (dLst aNil) (dLst (aCons (dC (.str "BadWord")) aNil))))) (sRet (dC (.bl false))) sNil))))
 (sSeq (sAsg (dLst (aCons (d1 gNeg (dC (.int 1))) (aCons (dC (.int 25)) (aCons (dC .non) (aCons (dC (.bl true)) (aCons (dC (.bl false)) (aCons (dC (.str "3")) (aCons (dTup (aCons (dC (.int 3)) aNil)) (aCons (dLst (aCons (dC (.int 3)) aNil)) (aCons (d2 gPow (dC (.int 10)) (dC (.int 30))) (aCons (d1 gNeg (d2 gPow (dC (.int 10)) (dC (.int 30)))) (aCons (d2 gAdd (d2 gAdd (dC (.int 24)) (dCall g__law_take (aCons (dVar 1) (aCons (d2 gPow (dC (.int 10)) (dC (.int 9))) aNil)))) (dC (.int 1))) aNil)))))))))))) (.nm 10))
 (sSeq (sAsg (dCall g__law_pick (aCons (dVar 1) (aCons (dVar 10) aNil))) (.nm 8))
 (sSeq (sIf (dB (d2 (gEqW true) (dClo g__law_refused [(c1, fl_law_1 g__law_begun g__law_stand_right g__law_same g__law_kept g__law_near_names g__law_name g__law_is g__law_is_name g_is_name g__law_take g__law_word g_ones g_word_of g__law_near_words g__law_is_word g_is_word g__law_refused g__law_pick g__law_near_places g__law_are_places)] (aCons (dC (.clo c1)) aNil)) (dLst (aCons (dC (.str "BadMany")) aNil)))) (sRet (dC (.bl false))) sNil)
 (sFor (dIter (dCall g__law_near_places (aCons (dVar 1) (aCons (dVar 6) aNil)))) (.nm 3) (sSeq (sAsg (dIf (bNot (dB (dCall g__law_are_places (aCons (dVar 3) (aCons (dC (.int 24)) aNil))))) (dLst (aCons (dC (.str "BadPlaces")) aNil)) (dLst (aCons (dC (.str "BadMany")) aNil))) (.nm 11))
 (sSeq (sFor (dIter (d2 gAdd (dVar 10) (dIf (bAnd (dB (d2 (gEqW false) (dVar 11) (dLst (aCons (dC (.str "BadMany")) aNil)))) (dB (d2 (gEqW true) (dVar 3) (dTup aNil)))) (d1 gListRg (dCall gMaxS (aCons (dVar 3) aNil))) (dLst aNil)))) (.nm 8) (sIf (dB (d2 (gEqW true) (dClo g__law_refused [(c2, fl_law_2 g__law_begun g__law_stand_right g__law_same g__law_kept g__law_near_names g__law_name g__law_is g__law_is_name g_is_name g__law_take g__law_word g_ones g_word_of g__law_near_words g__law_is_word g_is_word g__law_refused g__law_pick g__law_near_places g__law_are_places)] (aCons (dC (.clo c2)) aNil)) (dVar 11))) (sRet (dC (.bl false))) sNil))
 (sIf (dB (d2 (gEqW false) (dVar 11) (dLst (aCons (dC (.str "BadMany")) aNil)))) (sSeq (sAsg (dCall gMaxS (aCons (d2 gAdd (dTup (aCons (dC (.int 0)) aNil)) (dVar 3)) aNil)) (.nm 8))
 (sIf (bNot (dB (dCall g__law_same (aCons (dCall g_word_of (aCons (dVar 3) (aCons (dVar 8) aNil))) (aCons (dM "str" gJoin (dC (.str "")) (aCons (dLc [12] (dIt gRange1 (aCons (dVar 8) aNil)) (.nm 12) bYes (dCall gStr1 (aCons (dCall gInt1 (aCons (d2 (gIn false) (d2 gAdd (dVar 12) (dC (.int 1))) (dVar 3)) aNil)) aNil))) aNil)) aNil))))) (sRet (dC (.bl false))) sNil)) (sIf (dB (d2 (gEqW true) (dClo g__law_refused [(c3, fl_law_3 g__law_begun g__law_stand_right g__law_same g__law_kept g__law_near_names g__law_name g__law_is g__law_is_name g_is_name g__law_take g__law_word g_ones g_word_of g__law_near_words g__law_is_word g_is_word g__law_refused g__law_pick g__law_near_places g__law_are_places)] (aCons (dC (.clo c3)) aNil)) (dVar 11))) (sRet (dC (.bl false))) sNil))))))))))))))))
 (sRet (dC (.bl true)))))))
theorem raw_law {P : Program} {w : World} {K : PySem.W.Frag} {mg : Str → Option Value} {base : Heap} {tb : List (Addr × Str)} {f : Addr} {fd : FuncData} (F : Fun K "law" "law" s_law f fd) (hx : mg "law" = some (.ref f)) (bd : Binds K fd ["script"] []) (B : ∀ x ∈ bnames, mg x = none) (G_KEPT : Gv K mg "KEPT" cv_KEPT)
  {f__law_begun : Addr} {fd__law_begun : FuncData} {g__law_begun : List D → Sto → R D} (H__law_begun : ∀ T : TB, T.tabs = tb → DefOk P w K mg base T 3 "_law_begun" f__law_begun fd__law_begun ["script"] U0 g__law_begun)
  {f__law_stand_right : Addr} {fd__law_stand_right : FuncData} {g__law_stand_right : List D → Sto → R D} (H__law_stand_right : ∀ T : TB, T.tabs = tb → DefOk P w K mg base T 8 "_law_stand_right" f__law_stand_right fd__law_stand_right ["draw"] U0 g__law_stand_right)
  {f__law_same : Addr} {fd__law_same : FuncData} {g__law_same : List D → Sto → R D} (H__law_same : ∀ T : TB, T.tabs = tb → DefOk P w K mg base T 3 "_law_same" f__law_same fd__law_same ["told", "due"] U0 g__law_same)
  {f__law_kept : Addr} {fd__law_kept : FuncData} {g__law_kept : List D → Sto → R D} (H__law_kept : ∀ T : TB, T.tabs = tb → DefOk P w K mg base T 3 "_law_kept" f__law_kept fd__law_kept [] U0 g__law_kept)
  {f__law_near_names : Addr} {fd__law_near_names : FuncData} {g__law_near_names : List D → Sto → R D} (H__law_near_names : ∀ T : TB, T.tabs = tb → DefOk P w K mg base T 6 "_law_near_names" f__law_near_names fd__law_near_names ["draw", "called"] U0 g__law_near_names)
  {f__law_name : Addr} {fd__law_name : FuncData} {g__law_name : List D → Sto → R D} (H__law_name : ∀ T : TB, T.tabs = tb → DefOk P w K mg base T 6 "_law_name" f__law_name fd__law_name ["draw", "used"] U0 g__law_name)
  {f__law_is : Addr} {fd__law_is : FuncData} {g__law_is : List D → Sto → R D} (H__law_is : ∀ T : TB, T.tabs = tb → DefOk P w K mg base T 3 "_law_is" f__law_is fd__law_is ["told", "due"] U0 g__law_is)
  {f__law_is_name : Addr} {fd__law_is_name : FuncData} {g__law_is_name : List D → Sto → R D} (H__law_is_name : ∀ T : TB, T.tabs = tb → DefOk P w K mg base T 4 "_law_is_name" f__law_is_name fd__law_is_name ["thing"] U0 g__law_is_name)
  {f_is_name : Addr} {fd_is_name : FuncData} {g_is_name : List D → Sto → R D} (H_is_name : ∀ T : TB, T.tabs = tb → DefOk P w K mg base T 3 "is_name" f_is_name fd_is_name ["thing"] U0 g_is_name)
  {f__law_take : Addr} {fd__law_take : FuncData} {g__law_take : List D → Sto → R D} (H__law_take : ∀ T : TB, T.tabs = tb → DefOk P w K mg base T 4 "_law_take" f__law_take fd__law_take ["draw", "many"] U0 g__law_take)
  {f__law_word : Addr} {fd__law_word : FuncData} {g__law_word : List D → Sto → R D} (H__law_word : ∀ T : TB, T.tabs = tb → DefOk P w K mg base T 5 "_law_word" f__law_word fd__law_word ["draw", "many"] U0 g__law_word)
  {f_ones : Addr} {fd_ones : FuncData} {g_ones : List D → Sto → R D} (H_ones : ∀ T : TB, T.tabs = tb → DefOk P w K mg base T 5 "ones" f_ones fd_ones ["word"] U0 g_ones)
  {f_word_of : Addr} {fd_word_of : FuncData} {g_word_of : List D → Sto → R D} (H_word_of : ∀ T : TB, T.tabs = tb → DefOk P w K mg base T 5 "word_of" f_word_of fd_word_of ["places", "many"] U0 g_word_of)
  {f__law_near_words : Addr} {fd__law_near_words : FuncData} {g__law_near_words : List D → Sto → R D} (H__law_near_words : ∀ T : TB, T.tabs = tb → DefOk P w K mg base T 5 "_law_near_words" f__law_near_words fd__law_near_words ["draw", "word"] U0 g__law_near_words)
  {f__law_is_word : Addr} {fd__law_is_word : FuncData} {g__law_is_word : List D → Sto → R D} (H__law_is_word : ∀ T : TB, T.tabs = tb → DefOk P w K mg base T 3 "_law_is_word" f__law_is_word fd__law_is_word ["thing", "many"] U0 g__law_is_word)
  {f_is_word : Addr} {fd_is_word : FuncData} {g_is_word : List D → Sto → R D} (H_is_word : ∀ T : TB, T.tabs = tb → DefOk P w K mg base T 4 "is_word" f_is_word fd_is_word ["thing", "many"] U0 g_is_word)
  {f__law_refused : Addr} {fd__law_refused : FuncData} {g__law_refused : (Sto → R D) → Sto → R D} (H__law_refused : ∀ (T : TB) (U : UP) (c : Clo) (cl : Sto → R D), T.tabs = tb → USt U → CloOK1 P w K mg base 6 T U c cl → DefOk P w K mg base T 8 "_law_refused" f__law_refused fd__law_refused ["work"] U (gC c (g__law_refused cl)))
  {f__law_pick : Addr} {fd__law_pick : FuncData} {g__law_pick : List D → Sto → R D} (H__law_pick : ∀ T : TB, T.tabs = tb → DefOk P w K mg base T 5 "_law_pick" f__law_pick fd__law_pick ["draw", "some"] U0 g__law_pick)
  {f__law_near_places : Addr} {fd__law_near_places : FuncData} {g__law_near_places : List D → Sto → R D} (H__law_near_places : ∀ T : TB, T.tabs = tb → DefOk P w K mg base T 5 "_law_near_places" f__law_near_places fd__law_near_places ["draw", "places"] U0 g__law_near_places)
  {f__law_are_places : Addr} {fd__law_are_places : FuncData} {g__law_are_places : List D → Sto → R D} (H__law_are_places : ∀ T : TB, T.tabs = tb → DefOk P w K mg base T 4 "_law_are_places" f__law_are_places fd__law_are_places ["thing", "many"] U0 g__law_are_places)
  (KB_word_of_many_places : KwB K fd_word_of ["places", "many"] ["many", "places"] [1, 0])
  (KB_is_word_many_thing : KwB K fd_is_word ["thing", "many"] ["many", "thing"] [1, 0])
  (KB_ones_word : KwB K fd_ones ["word"] ["word"] [0]) (Mm : MkD base mg fd tb (lamQ "law")) (T : TB) (hT : T.tabs = tb) {gg : List D → Sto → R D}
  (hr : ∀ (c0 c1 c2 c3 : Clo), (c0.id = 0) → (c1.id = 1) → (c2.id = 2) → (c3.id = 3) → ∀ ds st, ds.length = 1 → Ref K mg T st.length (fb_law g__law_begun g__law_stand_right g__law_same g__law_kept g__law_near_names g__law_name g__law_is g__law_is_name g_is_name g__law_take g__law_word g_ones g_word_of g__law_near_words g__law_is_word g_is_word g__law_refused g__law_pick g__law_near_places g__law_are_places c0 c1 c2 c3 (ev0 N_law ds) st).toR (gg ds st)) :
  DefOk P w K mg base T 9 "law" f fd ["script"] U0 gg := by
 refine def_okC (k := 8) F sc_law hx bd fun A outer s H E _ o => ?_
 have M : Mk (cxOf (L2.CX P w) P w K mg base N_law "law" (defScope s_law) f fd.code A outer s H E) T := Mm.to hT rfl rfl rfl rfl
 exact ⟨fb_law g__law_begun g__law_stand_right g__law_same g__law_kept g__law_near_names g__law_name g__law_is g__law_is_name g_is_name g__law_take g__law_word g_ones g_word_of g__law_near_words g__law_is_word g_is_word g__law_refused g__law_pick g__law_near_places g__law_are_places _ _ _ _, (fss_cons (fs_set (i := 1) o.nd (fe_call (H__law_begun _ hT) o (fa_cons (fe_var 0) fa_nil)))
 (fss_cons (fs_if (ft_not (ft_val (fe_call (H__law_stand_right _ hT) o (fa_cons (fe_var 1) fa_nil)))) (fss_one (fs_ret fe_bl)) fss_nil)
 (fss_cons (fs_if (ft_not (ft_val (fe_call (H__law_same _ hT) o (fa_cons (fe_gv G_KEPT) (fa_cons (fe_callTy (call_tupleB o.calm) cd_tupleA (B _ (by decide : ("tuple" : Str) ∈ bnames)) (by decide +kernel) (fa_cons (fe_call0 (H__law_kept _ hT) o) fa_nil)) fa_nil))))) (fss_one (fs_ret fe_bl)) fss_nil)
 (fss_cons (fs_for o.own o.calm (fi_range1 (B _ (by decide : ("range" : Str) ∈ bnames)) (fa_cons (fe_op op_addA od_add fe_int (fe_callB (call_min2 o.calm) cd_min2 (B _ (by decide : ("min" : Str) ∈ bnames)) (by decide +kernel) (fa_cons (fe_callB call_len cd_len (B _ (by decide : ("len" : Str) ∈ bnames)) (by decide +kernel) (fa_cons (fe_var 0) fa_nil)) (fa_cons fe_int fa_nil)))) fa_nil)) (fg_name (i := 2) o.nd) (fss_cons (fs_for o.own o.calm (fi_seq (fe_call (H__law_near_names _ hT) o (fa_cons (fe_var 1) (fa_cons (fe_call (H__law_name _ hT) o (fa_cons (fe_var 1) (fa_cons (fe_lst fa_nil) fa_nil))) fa_nil)))) (fg_name (i := 3) o.nd) (fss_one (fs_if (ft_not (ft_val (fe_call (H__law_is _ hT) o (fa_cons (fe_call (H_is_name _ hT) o (fa_cons (fe_var 3) fa_nil)) (fa_cons (fe_call (H__law_is_name _ hT) o (fa_cons (fe_var 3) fa_nil)) fa_nil))))) (fss_one (fs_ret fe_bl)) fss_nil)))
 (fss_cons (fs_set (i := 4) o.nd (fe_call (H__law_take _ hT) o (fa_cons (fe_var 1) (fa_cons fe_int fa_nil))))
 (fss_cons (fs_set (i := 5) o.nd (fe_call (H__law_word _ hT) o (fa_cons (fe_var 1) (fa_cons (fe_var 4) fa_nil))))
 (fss_cons (fs_par (i := 6) (j := 7) o.calm o.nd (fa_cons (fe_callTy (call_tupleB o.calm) cd_tupleA (B _ (by decide : ("tuple" : Str) ∈ bnames)) (by decide +kernel) (fa_cons (fe_lc o.calm o.nd (fi_range1 (B _ (by decide : ("range" : Str) ∈ bnames)) (fa_cons (fe_var 4) fa_nil)) (blkOk_by (N := N_law) (sc := defScope s_law) (own := [("k", 12)]) (by decide +kernel)) (fun s H C cl fp => (fg_name (i := 12) (Ok.blk o s H _ _ fp).nd)) (fun s H C cl fp => (fts_one (ft_cmp  (op_eqW (Ok.blk o s H _ _ fp).room.units) od_eqW (fe_ix (Ok.blk o s H _ _ fp) (fe_var 5) (fe_var 12)) fe_str))) (fun s H C cl fp => (fe_op op_addA od_add (fe_var 12) fe_int))) fa_nil)) (fa_cons (fe_op op_addA od_add (fe_var 4) (fe_call (H__law_take _ hT) o (fa_cons (fe_var 1) (fa_cons (fe_op op_sub od_sub fe_int (fe_var 4)) fa_nil)))) fa_nil)))
 (fss_cons (fs_if (ft_w (fw_or (ft_not (ft_val (fe_call (H__law_same _ hT) o (fa_cons (fe_call (H_ones _ hT) o (fa_cons (fe_var 5) fa_nil)) (fa_cons (fe_var 6) fa_nil))))) (fw_or1 (ft_not (ft_val (fe_call (H__law_same _ hT) o (fa_cons (fe_call (H_word_of _ hT) o (fa_cons (fe_var 6) (fa_cons (fe_var 4) fa_nil))) (fa_cons (fe_var 5) fa_nil)))))))) (fss_one (fs_ret fe_bl)) fss_nil)
 (fss_cons (fs_if (ft_not (ft_val (fe_call (H__law_same _ hT) o (fa_cons (fe_callKw (H_word_of _ hT) o KB_word_of_many_places (fk_cons (fe_var 7) (fk_cons (fe_var 6) fk_nil)) (aCons_len (aCons_len aNil_len)) (fun ds hl => match ds, hl with | [_, _], _ => rfl)) (fa_cons (fe_op op_addA od_add (fe_var 5) (fe_op op_mulA od_mul fe_str (fe_op op_sub od_sub (fe_var 7) (fe_var 4)))) fa_nil))))) (fss_one (fs_ret fe_bl)) fss_nil)
 (fss_cons (fs_for o.own o.calm (fi_seq (fe_call (H__law_near_words _ hT) o (fa_cons (fe_var 1) (fa_cons (fe_var 5) fa_nil)))) (fg_name (i := 3) o.nd) (fss_cons (fs_for o.own o.calm (fi_seq (fe_lst (fa_cons (fe_var 4) (fa_cons (fe_var 7) (fa_cons (fe_callB (call_max2 o.calm) cd_max2 (B _ (by decide : ("max" : Str) ∈ bnames)) (by decide +kernel) (fa_cons (fe_op op_sub od_sub (fe_var 4) fe_int) (fa_cons fe_int fa_nil))) (fa_cons (fe_callB (call_min2 o.calm) cd_min2 (B _ (by decide : ("min" : Str) ∈ bnames)) (by decide +kernel) (fa_cons (fe_op op_addA od_add (fe_var 4) fe_int) (fa_cons fe_int fa_nil))) fa_nil)))))) (fg_name (i := 8) o.nd) (fss_one (fs_if (ft_not (ft_val (fe_call (H__law_is _ hT) o (fa_cons (fe_callKw (H_is_word _ hT) o KB_is_word_many_thing (fk_cons (fe_var 8) (fk_cons (fe_var 3) fk_nil)) (aCons_len (aCons_len aNil_len)) (fun ds hl => match ds, hl with | [_, _], _ => rfl)) (fa_cons (fe_call (H__law_is_word _ hT) o (fa_cons (fe_var 3) (fa_cons (fe_var 8) fa_nil))) fa_nil))))) (fss_one (fs_ret fe_bl)) fss_nil)))
 (fss_cons (fs_set (i := 9) o.nd (fe_and (fe_isTy (B _ (by decide : ("isinstance" : Str) ∈ bnames)) (B _ (by decide : ("str" : Str) ∈ bnames)) (by decide +kernel) (by decide) (fe_var 3)) (fe_and (fe_cmp  op_ltA od_lt (fe_callB call_len cd_len (B _ (by decide : ("len" : Str) ∈ bnames)) (by decide +kernel) (fa_cons (fe_var 3) fa_nil)) fe_int) (fe_one (fe_call (H__law_is_word _ hT) o (fa_cons (fe_var 3) (fa_cons (fe_callB call_len cd_len (B _ (by decide : ("len" : Str) ∈ bnames)) (by decide +kernel) (fa_cons (fe_var 3) fa_nil)) fa_nil)))))))
 (fss_one (fs_if (ft_cmp  (op_neW o.room.units) od_neW (fe_callClo (fun T' U c cl hT' => H__law_refused T' U c cl (hT'.trans hT)) o (by intro q hq; rw [List.mem_singleton] at hq; subst hq; exact lam_ok 0 (lamS_by (sc := defScope s_law) (by decide +kernel)) (fun T0 A outer s H E f c' hT0 o => by have hT' : T0.tabs = tb := hT0.trans hT; exact (fe_callKw (H_ones _ hT') o KB_ones_word (fk_cons (fe_var 3) fk_nil) (aCons_len aNil_len) (fun ds hl => match ds, hl with | [_], _ => rfl)))) (fa_cons (fe_lam 0 M (lamS_by (sc := defScope s_law) (by decide +kernel))) fa_nil)) (fe_if (ft_val (fe_var 9)) (fe_lst fa_nil) (fe_lst (fa_cons fe_str fa_nil)))) (fss_one (fs_ret fe_bl)) fss_nil)))))
 (fss_cons (fs_set (i := 10) o.nd (fe_lst (fa_cons (fe_neg fe_int) (fa_cons fe_int (fa_cons fe_non (fa_cons fe_bl (fa_cons fe_bl (fa_cons fe_str (fa_cons (fe_tup (fa_cons fe_int fa_nil)) (fa_cons (fe_lst (fa_cons fe_int fa_nil)) (fa_cons (fe_op op_pow od_pow fe_int fe_int) (fa_cons (fe_neg (fe_op op_pow od_pow fe_int fe_int)) (fa_cons (fe_op op_addA od_add (fe_op op_addA od_add fe_int (fe_call (H__law_take _ hT) o (fa_cons (fe_var 1) (fa_cons (fe_op op_pow od_pow fe_int fe_int) fa_nil)))) fe_int) fa_nil)))))))))))))
 (fss_cons (fs_set (i := 8) o.nd (fe_call (H__law_pick _ hT) o (fa_cons (fe_var 1) (fa_cons (fe_var 10) fa_nil))))
 (fss_cons (fs_if (ft_cmp  (op_neW o.room.units) od_neW (fe_callClo (fun T' U c cl hT' => H__law_refused T' U c cl (hT'.trans hT)) o (by intro q hq; rw [List.mem_singleton] at hq; subst hq; exact lam_ok 1 (lamS_by (sc := defScope s_law) (by decide +kernel)) (fun T0 A outer s H E f c' hT0 o => by have hT' : T0.tabs = tb := hT0.trans hT; exact (fe_call (H_is_word _ hT') o (fa_cons (fe_call (H__law_pick _ hT') o (fa_cons (fe_var 1) (fa_cons (fe_lst (fa_cons (fe_var 5) (fa_cons fe_non fa_nil))) fa_nil))) (fa_cons (fe_var 8) fa_nil))))) (fa_cons (fe_lam 1 M (lamS_by (sc := defScope s_law) (by decide +kernel))) fa_nil)) (fe_lst (fa_cons fe_str fa_nil))) (fss_one (fs_ret fe_bl)) fss_nil)
 (fss_one (fs_for o.own o.calm (fi_seq (fe_call (H__law_near_places _ hT) o (fa_cons (fe_var 1) (fa_cons (fe_var 6) fa_nil)))) (fg_name (i := 3) o.nd) (fss_cons (fs_set (i := 11) o.nd (fe_if (ft_not (ft_val (fe_call (H__law_are_places _ hT) o (fa_cons (fe_var 3) (fa_cons fe_int fa_nil))))) (fe_lst (fa_cons fe_str fa_nil)) (fe_lst (fa_cons fe_str fa_nil))))
 (fss_cons (fs_for o.own o.calm (fi_seq (fe_op op_addA od_add (fe_var 10) (fe_if (ft_w (fw_and (ft_cmp  (op_eqW o.room.units) od_eqW (fe_var 11) (fe_lst (fa_cons fe_str fa_nil))) (fw_and1 (ft_cmp  (op_neW o.room.units) od_neW (fe_var 3) (fe_tup fa_nil))))) (fe_listRg o (B _ (by decide : ("list" : Str) ∈ bnames)) (B _ (by decide : ("range" : Str) ∈ bnames)) (fe_callB (call_maxA o) cd_maxS (B _ (by decide : ("max" : Str) ∈ bnames)) (by decide +kernel) (fa_cons (fe_var 3) fa_nil))) (fe_lst fa_nil)))) (fg_name (i := 8) o.nd) (fss_one (fs_if (ft_cmp  (op_neW o.room.units) od_neW (fe_callClo (fun T' U c cl hT' => H__law_refused T' U c cl (hT'.trans hT)) o (by intro q hq; rw [List.mem_singleton] at hq; subst hq; exact lam_ok 2 (lamS_by (sc := defScope s_law) (by decide +kernel)) (fun T0 A outer s H E f c' hT0 o => by have hT' : T0.tabs = tb := hT0.trans hT; exact (fe_call (H_word_of _ hT') o (fa_cons (fe_var 3) (fa_cons (fe_var 8) fa_nil))))) (fa_cons (fe_lam 2 M (lamS_by (sc := defScope s_law) (by decide +kernel))) fa_nil)) (fe_var 11)) (fss_one (fs_ret fe_bl)) fss_nil)))
 (fss_one (fs_if (ft_cmp  (op_eqW o.room.units) od_eqW (fe_var 11) (fe_lst (fa_cons fe_str fa_nil))) (fss_cons (fs_set (i := 8) o.nd (fe_callB (call_maxA o) cd_maxS (B _ (by decide : ("max" : Str) ∈ bnames)) (by decide +kernel) (fa_cons (fe_op op_addA od_add (fe_tup (fa_cons fe_int fa_nil)) (fe_var 3)) fa_nil)))
 (fss_one (fs_if (ft_not (ft_val (fe_call (H__law_same _ hT) o (fa_cons (fe_call (H_word_of _ hT) o (fa_cons (fe_var 3) (fa_cons (fe_var 8) fa_nil))) (fa_cons (fe_m PySem.F.plainAttrs_str PySem.F.slot_str_join PySem.F.type_str_join mt_join md_join fe_str (fa_cons (fe_lc o.calm o.nd (fi_range1 (B _ (by decide : ("range" : Str) ∈ bnames)) (fa_cons (fe_var 8) fa_nil)) (blkOk_by (N := N_law) (sc := defScope s_law) (own := [("k", 12)]) (by decide +kernel)) (fun s H C cl fp => (fg_name (i := 12) (Ok.blk o s H _ _ fp).nd)) (fun s H C cl fp => fts_nil) (fun s H C cl fp => (fe_callTy call_strA cd_str (B _ (by decide : ("str" : Str) ∈ bnames)) (by decide +kernel) (fa_cons (fe_callTy call_int1 cd_int (B _ (by decide : ("int" : Str) ∈ bnames)) (by decide +kernel) (fa_cons (fe_cmp  op_inA od_in (fe_op op_addA od_add (fe_var 12) fe_int) (fe_var 3)) fa_nil)) fa_nil)))) fa_nil)) fa_nil))))) (fss_one (fs_ret fe_bl)) fss_nil))) (fss_one (fs_if (ft_cmp  (op_neW o.room.units) od_neW (fe_callClo (fun T' U c cl hT' => H__law_refused T' U c cl (hT'.trans hT)) o (by intro q hq; rw [List.mem_singleton] at hq; subst hq; exact lam_ok 3 (lamS_by (sc := defScope s_law) (by decide +kernel)) (fun T0 A outer s H E f c' hT0 o => by have hT' : T0.tabs = tb := hT0.trans hT; exact (fe_call (H_word_of _ hT') o (fa_cons (fe_var 3) (fa_cons fe_int fa_nil))))) (fa_cons (fe_lam 3 M (lamS_by (sc := defScope s_law) (by decide +kernel))) fa_nil)) (fe_var 11)) (fss_one (fs_ret fe_bl)) fss_nil)))))))))))))))))))
 (fss_one (fs_ret fe_bl)))))), hr _ _ _ _ rfl rfl rfl rfl⟩
/-! ### the readings put together -/
noncomputable def G__law_begun (ds : List D) (st : Sto) : R D := (fb__law_begun (ev0 N__law_begun ds) st).toR
noncomputable def G__law_mixed (ds : List D) (st : Sto) : R D := (fb__law_mixed (ev0 N__law_mixed ds) st).toR
noncomputable def G__law_take (ds : List D) (st : Sto) : R D := (fb__law_take G__law_mixed (ev0 N__law_take ds) st).toR
noncomputable def G__law_pick (ds : List D) (st : Sto) : R D := (fb__law_pick G__law_take (ev0 N__law_pick ds) st).toR
noncomputable def G_ones_told (ds : List D) (st : Sto) : R D := (fb_ones_told (ev0 N_ones_told ds) st).toR
noncomputable def G_is_word_of (ds : List D) (st : Sto) : R D := (fb_is_word_of (ev0 N_is_word_of ds) st).toR
noncomputable def G_is_any_word (ds : List D) (st : Sto) : R D := (fb_is_any_word G_is_word_of (ev0 N_is_any_word ds) st).toR
noncomputable def G_ones (ds : List D) (st : Sto) : R D := (fb_ones G_is_any_word G_ones_told (ev0 N_ones ds) st).toR
noncomputable def G_word_told (ds : List D) (st : Sto) : R D := (fb_word_told (ev0 N_word_told ds) st).toR
noncomputable def G_are_ascending (ds : List D) (st : Sto) : R D := (fb_are_ascending (ev0 N_are_ascending ds) st).toR
noncomputable def G_is_number (ds : List D) (st : Sto) : R D := (fb_is_number (ev0 N_is_number ds) st).toR
noncomputable def G_are_places (ds : List D) (st : Sto) : R D := (fb_are_places G_is_number G_are_ascending (ev0 N_are_places ds) st).toR
noncomputable def G_word_of (ds : List D) (st : Sto) : R D := (fb_word_of G_are_places G_is_number G_word_told (ev0 N_word_of ds) st).toR
noncomputable def G_is_word (ds : List D) (st : Sto) : R D := (fb_is_word G_is_number G_is_word_of (ev0 N_is_word ds) st).toR
noncomputable def G__law_kinds (ds : List D) (st : Sto) : R D := (fb__law_kinds (ev0 N__law_kinds ds) st).toR
noncomputable def G__law_same (ds : List D) (st : Sto) : R D := (fb__law_same (ev0 N__law_same ds) st).toR
noncomputable def G__law_kept (ds : List D) (st : Sto) : R D := (fb__law_kept (ev0 N__law_kept ds) st).toR
noncomputable def G__law_near_names (ds : List D) (st : Sto) : R D := (fb__law_near_names G__law_pick G__law_kept G__law_take (ev0 N__law_near_names ds) st).toR
noncomputable def G__law_word (ds : List D) (st : Sto) : R D := (fb__law_word G__law_take (ev0 N__law_word ds) st).toR
noncomputable def G__law_near_words (ds : List D) (st : Sto) : R D := (fb__law_near_words G__law_take (ev0 N__law_near_words ds) st).toR
noncomputable def G__law_near_places (ds : List D) (st : Sto) : R D := (fb__law_near_places G__law_take (ev0 N__law_near_places ds) st).toR
noncomputable def G__law_is_name (ds : List D) (st : Sto) : R D := (fb__law_is_name G__law_kept (ev0 N__law_is_name ds) st).toR
noncomputable def G__law_name (ds : List D) (st : Sto) : R D := (fb__law_name G__law_take G__law_pick G__law_kept G__law_is_name (ev0 N__law_name ds) st).toR
noncomputable def G__law_is (ds : List D) (st : Sto) : R D := (fb__law_is (ev0 N__law_is ds) st).toR
noncomputable def G__law_is_word (ds : List D) (st : Sto) : R D := (fb__law_is_word (ev0 N__law_is_word ds) st).toR
noncomputable def G_is_name (ds : List D) (st : Sto) : R D := (fb_is_name (ev0 N_is_name ds) st).toR
noncomputable def G__law_is_number (ds : List D) (st : Sto) : R D := (fb__law_is_number (ev0 N__law_is_number ds) st).toR
noncomputable def G__law_are_places (ds : List D) (st : Sto) : R D := (fb__law_are_places G__law_is_number (ev0 N__law_are_places ds) st).toR
end K00
end Fn
end
section
set_option Elab.async false
set_option linter.all false
set_option maxRecDepth 100000
set_option maxHeartbeats 0
namespace Fn
namespace K00
open PySem PySem.Spec PyProof.Rows L2 LamX
open He
def fa0 : List Fa := [.glo "_law_begun", .glo "_law_mixed", .glo "_law_take", .glo "_law_pick", .glo "_law_caught", .glo "ones_told", .glo "is_word_of", .glo "is_any_word", .glo "ones", .glo "word_told", .glo "are_ascending", .glo "is_number", .glo "are_places", .glo "word_of", .glo "is_word", .glo "_law_kinds", .glo "_law_stand_right", .glo "_law_same", .glo "_law_kept", .glo "_law_near_names", .glo "_law_word", .glo "_law_near_words", .glo "_law_near_places", .glo "_law_is_name", .glo "_law_name", .glo "_law_refused", .glo "_law_is", .glo "_law_is_word", .glo "is_name", .glo "_law_is_number"]
def fa1 : List Fa := [.glo "_law_are_places", .glo "law", .glo "BadWord", .glo "BadPlaces", .glo "BadMany", .glo "DescentError", .glo "BadDeeds", .glo "BadKind", .glo "BadLife", .glo "BadLine", .glo "BadLot", .glo "BadName", .glo "BadNew", .glo "BadOne", .glo "BadOther", .glo "BadPairs", .glo "BadPlace", .glo "BadRecord", .glo "BadSecond", .glo "BadSome", .glo "BadState", .glo "BadStrict", .glo "BadTable", .glo "BadText", .glo "BadWeb", .glo "BadWork", .glo "NoName", .glo "NotApart", .glo "NotNow", .glo "NoWeb"]
def fa2 : List Fa := [.glo "TooMany", .glo "Twice", .free "ValueError", .free "abs", .free "all", .free "bool", .free "int", .free "isinstance", .free "len", .free "list", .free "max", .free "min", .free "range", .free "repr", .free "reversed", .free "str", .free "tuple", .free "zip", .int "MOST" 24, .str "LETTERS" "abcdefghijklmnopqrstuvwxyz", .exc "BadWord", .exc "BadPlaces", .exc "BadMany", .exm "BadWord" "DescentError" (subT "DescentError" "BadWord"), .exm "BadPlaces" "DescentError" (subT "DescentError" "BadPlaces"), .exm "BadMany" "DescentError" (subT "DescentError" "BadMany")]
def fa : List Fa := fa0 ++ fa1 ++ fa2
def fn0 : List DefD := [dOf "_law_begun" s__law_begun, dOf "_law_mixed" s__law_mixed, dOf "_law_take" s__law_take, dOf "_law_pick" s__law_pick, dOf "_law_caught" s__law_caught, dOf "ones_told" s_ones_told, dOf "is_word_of" s_is_word_of, dOf "is_any_word" s_is_any_word, dOf "ones" s_ones, dOf "word_told" s_word_told, dOf "are_ascending" s_are_ascending, dOf "is_number" s_is_number, dOf "are_places" s_are_places, dOf "word_of" s_word_of, dOf "is_word" s_is_word, dOf "_law_kinds" s__law_kinds, dOf "_law_stand_right" s__law_stand_right, dOf "_law_same" s__law_same, dOf "_law_kept" s__law_kept, dOf "_law_near_names" s__law_near_names, dOf "_law_word" s__law_word, dOf "_law_near_words" s__law_near_words, dOf "_law_near_places" s__law_near_places, dOf "_law_is_name" s__law_is_name, dOf "_law_name" s__law_name, dOf "_law_refused" s__law_refused, dOf "_law_is" s__law_is, dOf "_law_is_word" s__law_is_word, dOf "is_name" s_is_name, dOf "_law_is_number" s__law_is_number]
def fn1 : List DefD := [dOf "_law_are_places" s__law_are_places, dOf "law" s_law]
def fn : List DefD := fn0 ++ fn1
def tf : List Defn := [("_law_stand_right", none), ("law", none)]
def zs_KEPT0 : List Str := ["add", "apart", "cannot", "clash", "done", "drop", "first", "flip", "join", "journal", "least", "life", "line", "live", "mark", "mix", "mixed", "name", "no", "none", "nothing", "part", "place", "record", "redo", "ring", "row", "strict", "table", "undo"]
def zs_KEPT1 : List Str := ["weave", "web", "what", "yes"]
def zs_KEPT : List Str := zs_KEPT0 ++ zs_KEPT1
def ex0 (K : PySem.W.Frag) : Bool := isTabB K raisedN (.ref (ga K "BadDeeds")) (subT "BadDeeds")
def ex1 (K : PySem.W.Frag) : Bool := isTabB K raisedN (.ref (ga K "BadKind")) (subT "BadKind")
def ex2 (K : PySem.W.Frag) : Bool := isTabB K raisedN (.ref (ga K "BadLife")) (subT "BadLife")
def ex3 (K : PySem.W.Frag) : Bool := isTabB K raisedN (.ref (ga K "BadLine")) (subT "BadLine")
def ex4 (K : PySem.W.Frag) : Bool := isTabB K raisedN (.ref (ga K "BadLot")) (subT "BadLot")
def ex5 (K : PySem.W.Frag) : Bool := isTabB K raisedN (.ref (ga K "BadMany")) (subT "BadMany")
def ex6 (K : PySem.W.Frag) : Bool := isTabB K raisedN (.ref (ga K "BadName")) (subT "BadName")
def ex7 (K : PySem.W.Frag) : Bool := isTabB K raisedN (.ref (ga K "BadNew")) (subT "BadNew")
def ex8 (K : PySem.W.Frag) : Bool := isTabB K raisedN (.ref (ga K "BadOne")) (subT "BadOne")
def ex9 (K : PySem.W.Frag) : Bool := isTabB K raisedN (.ref (ga K "BadOther")) (subT "BadOther")
def ex10 (K : PySem.W.Frag) : Bool := isTabB K raisedN (.ref (ga K "BadPairs")) (subT "BadPairs")
def ex11 (K : PySem.W.Frag) : Bool := isTabB K raisedN (.ref (ga K "BadPlace")) (subT "BadPlace")
def ex12 (K : PySem.W.Frag) : Bool := isTabB K raisedN (.ref (ga K "BadPlaces")) (subT "BadPlaces")
def ex13 (K : PySem.W.Frag) : Bool := isTabB K raisedN (.ref (ga K "BadRecord")) (subT "BadRecord")
def ex14 (K : PySem.W.Frag) : Bool := isTabB K raisedN (.ref (ga K "BadSecond")) (subT "BadSecond")
def ex15 (K : PySem.W.Frag) : Bool := isTabB K raisedN (.ref (ga K "BadSome")) (subT "BadSome")
def ex16 (K : PySem.W.Frag) : Bool := isTabB K raisedN (.ref (ga K "BadState")) (subT "BadState")
def ex17 (K : PySem.W.Frag) : Bool := isTabB K raisedN (.ref (ga K "BadStrict")) (subT "BadStrict")
def ex18 (K : PySem.W.Frag) : Bool := isTabB K raisedN (.ref (ga K "BadTable")) (subT "BadTable")
def ex19 (K : PySem.W.Frag) : Bool := isTabB K raisedN (.ref (ga K "BadText")) (subT "BadText")
def ex20 (K : PySem.W.Frag) : Bool := isTabB K raisedN (.ref (ga K "BadWeb")) (subT "BadWeb")
def ex21 (K : PySem.W.Frag) : Bool := isTabB K raisedN (.ref (ga K "BadWord")) (subT "BadWord")
def ex22 (K : PySem.W.Frag) : Bool := isTabB K raisedN (.ref (ga K "BadWork")) (subT "BadWork")
def ex23 (K : PySem.W.Frag) : Bool := isTabB K raisedN (.ref (ga K "NoName")) (subT "NoName")
def ex24 (K : PySem.W.Frag) : Bool := isTabB K raisedN (.ref (ga K "NotApart")) (subT "NotApart")
def ex25 (K : PySem.W.Frag) : Bool := isTabB K raisedN (.ref (ga K "NotNow")) (subT "NotNow")
def ex26 (K : PySem.W.Frag) : Bool := isTabB K raisedN (.ref (ga K "NoWeb")) (subT "NoWeb")
def ex27 (K : PySem.W.Frag) : Bool := isTabB K raisedN (.ref (ga K "TooMany")) (subT "TooMany")
def ex28 (K : PySem.W.Frag) : Bool := isTabB K raisedN (.ref (ga K "Twice")) (subT "Twice")
def ex29 (K : PySem.W.Frag) : Bool := isTabB K raisedN (.type "ValueError") (subT "ValueError")
def ex30 (K : PySem.W.Frag) : Bool := isTabB K raisedN (.ref (ga K "DescentError")) (subT "DescentError")
def ex31 (K : PySem.W.Frag) : Bool := tupStrB K "KEPT" zs_KEPT
def ex32 (K : PySem.W.Frag) : Bool := decide ((tf.map fun p => (cT K p).2).Nodup)
def ex (K : PySem.W.Frag) : Bool := ex0 K && (ex1 K && (ex2 K && (ex3 K && (ex4 K && (ex5 K && (ex6 K && (ex7 K && (ex8 K && (ex9 K && (ex10 K && (ex11 K && (ex12 K && (ex13 K && (ex14 K && (ex15 K && (ex16 K && (ex17 K && (ex18 K && (ex19 K && (ex20 K && (ex21 K && (ex22 K && (ex23 K && (ex24 K && (ex25 K && (ex26 K && (ex27 K && (ex28 K && (ex29 K && (ex30 K && (ex31 K && (ex32 K))))))))))))))))))))))))))))))))
def loose0 : List PySem.Str := ["__name__", "DescentError", "BadDeeds", "BadKind", "BadLife", "BadLine", "BadLot", "BadMany", "BadName", "BadNew", "BadOne", "BadOther", "BadPairs", "BadPlace", "BadPlaces", "BadRecord", "BadSecond", "BadSome", "BadState", "BadStrict", "BadTable", "BadWeb", "BadWord", "BadWork", "NoName", "NotApart", "NotNow", "Twice", "BadText", "NoWeb"]
def loose1 : List PySem.Str := ["TooMany", "KEPT", "LETTERS", "MOST", "is_number", "is_name", "is_word_of", "is_word", "is_any_word", "ones_told", "ones", "are_ascending", "are_places", "word_told", "word_of", "_law_begun", "_law_mixed", "_law_take", "_law_pick", "_law_caught", "_law_kinds", "_law_refused", "_law_is", "_law_same", "_law_kept", "_law_is_name", "_law_name", "_law_is_number", "_law_are_places", "_law_is_word"]
def loose2 : List PySem.Str := ["_law_word", "_law_near_names", "_law_near_words", "_law_near_places", "_law_stand_right"]
def loose : List PySem.Str := loose0 ++ loose1 ++ loose2
abbrev RR : PySem.W.OpenRow := PySem.W.OpenLaw.row PySem.Challenge.rw_ringsapart_k00_names_words_and_places
abbrev hk : PySem.W.Hook := He.hookX 5 fa fn [] tf ex
def ob (s : PySem.W.SharedT) : He.AlX := He.obsX 5 fa fn [] tf ex (HandSHeadRun.getT s)
theorem ob_eq (s : PySem.W.SharedT) : ob s = hk.obs s.abs := He.obsX_eq (HandSHeadRun.getT_eq s)
theorem run (w : World) : HandSHeadRun.RunEq RR (PySem.W.view RR.prog [67]) hk ob 16000 loose w := by
  intro os
  kernel_rfl
end K00
end Fn
end
section
set_option Elab.async false
set_option linter.all false
set_option maxRecDepth 100000
set_option maxHeartbeats 4000000
namespace Fn
namespace K00
open PySem PySem.Spec PyProof.Rows L2 LamX
theorem tyName_ref {i : Nat} {st : Sto} {n : String} (h : tyName (.ref i) st = some n) : n = "list" ∨ n = "dict" := by
  simp only [tyName] at h
  split at h
  · exact .inl (Option.some.inj h).symm
  · exact .inr (Option.some.inj h).symm
  · cases h
theorem tyName_ext {d : D} {st : Sto} {n : String} (h : tyName d st = some n) (t : Sto) : tyName d (st ++ t) = some n := by
  cases d with
  | ref i =>
    simp only [tyName] at h ⊢
    split at h
    · rename_i ds e
      rw [get_ext t e]
      exact h
    · rename_i ds e
      rw [get_ext t e]
      exact h
    · cases h
  | _ => exact h
/-- isinstance of a value whose type is known -/
theorem isTy_eq {b : String} {f : DE} {env : Ev} {st st1 : Sto} {d : D} {n : String} (e : f env st = .ok d st1) (h : tyName d st1 = some n) : dIsTy b f env st = .ok (.bl (isTyB n b)) st1 := by
  unfold dIsTy
  rw [e, R.bind_ok, h]
/-! ### numbers -/
def numB (d : D) (lo hi : Int) : Bool := match d with
  | .int i => decide (lo ≤ i) && decide (i ≤ hi)
  | _ => false
theorem isTy_int {d : D} {st : Sto} {n : String} (h : tyName d st = some n) : isTyB n "int" = match d with | .int _ => true | .bl _ => true | _ => false := by
  cases d with
  | ref i => rcases tyName_ref h with rfl | rfl <;> rfl
  | exc _ _ => cases h
  | clo _ => cases h
  | _ => cases h; rfl
theorem isTy_str {d : D} {st : Sto} {n : String} (h : tyName d st = some n) : isTyB n "str" = match d with | .str _ => true | _ => false := by
  cases d with
  | ref i => rcases tyName_ref h with rfl | rfl <;> rfl
  | exc _ _ => cases h
  | clo _ => cases h
  | _ => cases h; rfl
theorem isTy_tup {d : D} {st : Sto} {n : String} (h : tyName d st = some n) : isTyB n "tuple" = match d with | .tup _ => true | _ => false := by
  cases d with
  | ref i => rcases tyName_ref h with rfl | rfl <;> rfl
  | exc _ _ => cases h
  | clo _ => cases h
  | _ => cases h; rfl
theorem isTy_bool {d : D} {st : Sto} {n : String} (h : tyName d st = some n) : isTyB n "bool" = match d with | .bl _ => true | _ => false := by
  cases d with
  | ref i => rcases tyName_ref h with rfl | rfl <;> rfl
  | exc _ _ => cases h
  | clo _ => cases h
  | _ => cases h; rfl
theorem is_number_eq {d : D} {lo hi : Int} {st : Sto} {n : String} (h : tyName d st = some n) : G_is_number [d, .int lo, .int hi] st = .ok (.bl (numB d lo hi)) st := by
  have e1 : dIsTy "int" (dVar 0) (ev0 N_is_number [d, .int lo, .int hi]) st = .ok (.bl (isTyB n "int")) st := isTy_eq rfl h
  have e2 : dIsTy "bool" (dVar 0) (ev0 N_is_number [d, .int lo, .int hi]) st = .ok (.bl (isTyB n "bool")) st := isTy_eq rfl h
  unfold G_is_number fb_is_number sRet dAnd dNot
  rw [e1, isTy_int h]
  rw [isTy_bool h] at e2
  cases d with
  | int i =>
    simp only [R.bind_ok, asB, if_true]
    rw [e2]
    by_cases hlo : lo ≤ i <;> by_cases hhi : i ≤ hi <;> simp [dVar, ev0, d3, asB, gLe, gInt0, SR.toR, numB, hlo, hhi]
  | bl b =>
    simp only [R.bind_ok, asB, if_true]
    rw [e2]
    simp [asB, SR.toR, numB]
  | _ => simp [asB, SR.toR, numB]
theorem law_is_number_eq {d : D} {lo hi : Int} {st : Sto} {n : String} (h : tyName d st = some n) : G__law_is_number [d, .int lo, .int hi] st = .ok (.bl (numB d lo hi)) st := is_number_eq h
/-! ### words -/
theorem seq_mid {s t : Sto} {ds : List D} : seqD (.ref s.length) (s ++ .lst ds :: t) = some ds := by
  show (match (s ++ .lst ds :: t)[s.length]? with
    | some (.lst ds) => some ds
    | _ => none) = some ds
  rw [get_mid]
theorem bools_map {α : Type} (q : α → Bool) : ∀ l : List α, bools (l.map fun d => D.bl (q d)) = some (l.map q)
  | [] => rfl
  | a :: l => by
    rw [List.map_cons, List.map_cons, bools, bools_map q l]
    rfl
theorem all_mid {α : Type} {s t : Sto} {l : List α} {q : α → Bool} : gAllAny true [.ref s.length] (s ++ .lst (l.map fun d => D.bl (q d)) :: t) = .ok (.bl (l.all q)) (s ++ .lst (l.map fun d => D.bl (q d)) :: t) := by
  have e : (seqD (.ref s.length) (s ++ .lst (l.map fun d => D.bl (q d)) :: t)).bind bools = some (l.map q) := by rw [seq_mid, Option.bind_some, bools_map]
  show (match (seqD (.ref s.length) (s ++ .lst (l.map fun d => D.bl (q d)) :: t)).bind bools with
    | some bs => R.ok (D.bl (if true then bs.all id else bs.any id)) _
    | none => .bad) = _
  rw [e]
  simp [List.all_map, Function.comp_def]
/-- the signs of a text, one by one -/
theorem signs_mem {z : Str} {d : D} (h : d ∈ signsD z) : ∃ c, d = .str ⟨#[c]⟩ := by
  unfold signsD at h
  obtain ⟨c, _, rfl⟩ := List.mem_map.mp h
  exact ⟨c, rfl⟩
def inS (a : Str) (d : D) : Bool := match d with
  | .str ⟨⟨[c]⟩⟩ => decide (c ∈ a.cps.toList)
  | _ => false
theorem in_sign {a : Str} {c : Nat} {st : Sto} : gIn false (.str ⟨#[c]⟩) (.str a) st = .ok (.bl (inS a (.str ⟨#[c]⟩))) st := rfl
theorem notIn_sign {a : Str} {c : Nat} {st : Sto} : gIn true (.str ⟨#[c]⟩) (.str a) st = .ok (.bl (!inS a (.str ⟨#[c]⟩))) st := rfl
def allIn (a z : Str) : Bool := (signsD z).all (inS a)
/-- [sign in a for sign in z] -/
theorem lc_in {j k : Nat} {own : List Nat} {a z : Str} {env : Ev} {st : Sto} (hz : z.length ≤ lineN) (hv : env[j]? = some (some (.str z))) (fk : DE) (hk : ∀ d s, fk ((wipeE env own).set k (some d)) s = .ok (.str a) s) (hl : k < (wipeE env own).length) :
    ∃ t, dLc own (dIter (dVar j)) (.nm k) bYes (d2 (gIn false) (dVar k) fk) env st = .ok (.ref st.length) (st ++ .lst ((signsD z).map fun d => .bl (inS a d)) :: t) := by
  have hi : dIter (dVar j) env st = .ok ⟨signsD z, []⟩ st := by
    unfold dIter dVar
    rw [hv]
    rfl
  obtain ⟨t, e⟩ := lc_map (own := own) (tg := .nm k) (elt := d2 (gIn false) (dVar k) fk) hi (by intro q hq; cases hq) (fun d => .bl (inS a d)) (by simpa [signsD, Str.length] using hz) fun d hd => by
    obtain ⟨c, rfl⟩ := signs_mem hd
    refine ⟨_, rfl, fun s _ => ?_⟩
    unfold d2 dVar
    rw [List.getElem?_set_self hl]
    dsimp only
    rw [R.bind_ok, hk, R.bind_ok, in_sign]
    exact .of
  exact ⟨t, e⟩
def wordB (d : D) (n : Int) : Bool := match d with
  | .str z => decide ((z.length : Int) = n) && allIn "01" z
  | _ => false
/-- a value that may be handed to the predicates: its type is known, a text is not too long -/
def Nice (d : D) (st : Sto) : Prop := (∃ n, tyName d st = some n) ∧ ∀ z, d = .str z → z.length ≤ lineN
theorem sh_int (i : Int) : SeqAt.shaped (.int i) = true := by simp [SeqAt.shaped, PyData.canLay0, PyData.depth]
theorem eqv_int {i j : Int} {st : Sto} : gEqW false (.int i) (.int j) st = .ok (.bl (decide (i = j))) st := by
  show gEqv false (.int i) (.int j) st = _
  unfold gEqv
  simp only [datN]
  rw [if_pos ⟨sh_int i, sh_int j⟩, if_neg Bool.false_ne_true, PyData.eqv]
  rfl
theorem eqv_bl {i j : Bool} {st : Sto} : gEqW false (.bl i) (.bl j) st = .ok (.bl (i == j)) st := by
  show gEqv false (.bl i) (.bl j) st = _
  unfold gEqv
  simp only [datN]
  rw [if_pos ⟨by simp [SeqAt.shaped, PyData.canLay0, PyData.depth], by simp [SeqAt.shaped, PyData.canLay0, PyData.depth]⟩, if_neg Bool.false_ne_true, PyData.eqv]
theorem len_str {z : Str} {st : Sto} (h : z.length ≤ lineN) : gLen [.str z] st = .ok (.int z.length) st := by
  exact if_pos h
theorem is_word_of_yl {d : D} {n : Int} {st : Sto} (h : Nice d st) : Yl (G_is_word_of [d, .int n] st) st (.bl (wordB d n)) := by
  obtain ⟨⟨k, hk⟩, hz⟩ := h
  have e1 : dIsTy "str" (dVar 0) (ev0 N_is_word_of [d, .int n]) st = .ok (.bl (isTyB k "str")) st := isTy_eq rfl hk
  unfold G_is_word_of fb_is_word_of sRet
  rw [dAnd, e1, isTy_str hk]
  cases d with
  | str z =>
    have hl := hz z rfl
    have e2 : d2 (gEqW false) (dCall gLen (aCons (dVar 0) aNil)) (dVar 1) (ev0 N_is_word_of [.str z, .int n]) st = .ok (.bl (decide ((z.length : Int) = n))) st := by
      simp [d2, dCall, aCons, aNil, dVar, ev0, len_str hl, eqv_int]
    obtain ⟨t, e3⟩ := lc_in (j := 0) (k := 2) (own := [2]) (a := "01") (z := z) (env := ev0 N_is_word_of [.str z, .int n]) (st := st) hl rfl (dC (.str "01")) (fun _ _ => rfl) (by simp [ev0, wipeE])
    simp only [R.bind_ok, asB, if_true, dAnd]
    rw [e2]
    simp only [R.bind_ok, asB]
    by_cases hn : (z.length : Int) = n
    · rw [decide_eq_true hn, if_pos rfl]
      simp only [dCall, aCons, aNil]
      rw [e3]
      simp only [R.bind_ok, R.into_ok, SR.toR]
      rw [all_mid (q := inS "01")]
      exact ⟨.lst ((signsD z).map fun d => .bl (inS "01" d)) :: t, by simp [SR.toR, wordB, hn, allIn]⟩
    · rw [decide_eq_false hn, if_neg Bool.false_ne_true]
      exact ⟨[], by simp [SR.toR, wordB, hn]⟩
  | _ => exact ⟨[], by simp [asB, SR.toR, wordB]⟩
/-! ### data that may be compared -/
def flatD : D → Bool
  | .non => true
  | .bl _ => true
  | .int _ => true
  | .str z => PyData.strOk z
  | _ => false
def flat2 : D → Bool
  | .tup ds => ds.all flatD
  | d => flatD d
theorem flat_dat {d : D} (h : flatD d = true) (st : Sto) (n : Nat) : ∃ p, datN st n d = some p ∧ p.canLay0 = true ∧ p.depth = 0 := by
  cases d with
  | str z => exact ⟨.str z, by rw [datN], by rw [PyData.canLay0]; exact h, by simp [PyData.depth]⟩
  | non => exact ⟨_, by rw [datN], by simp [PyData.canLay0], by simp [PyData.depth]⟩
  | bl b => exact ⟨_, by rw [datN], by simp [PyData.canLay0], by simp [PyData.depth]⟩
  | int b => exact ⟨_, by rw [datN], by simp [PyData.canLay0], by simp [PyData.depth]⟩
  | _ => cases h
theorem flats_dat : ∀ {ds : List D}, ds.all flatD = true → ∀ (st : Sto) (n : Nat), ∃ ps, datL st n ds = some ps ∧ PyData.canLayAll0 ps = true ∧ PyData.depthAll ps = 0 ∧ ps.length = ds.length
  | [], _, st, n => ⟨[], by rw [datL], by simp [PyData.canLayAll0], by simp [PyData.depthAll], rfl⟩
  | d :: ds, h, st, n => by
    rw [List.all_cons, Bool.and_eq_true] at h
    obtain ⟨p, h1, h2, h3⟩ := flat_dat h.1 st n
    obtain ⟨ps, h4, h5, h6, h7⟩ := flats_dat h.2 st n
    exact ⟨p :: ps, by rw [datL, h1, h4], by simp [PyData.canLayAll0, h2, h5], by simp [PyData.depthAll, h3, h6], by simp [h7]⟩
theorem flat2_dat {d : D} (h : flat2 d = true) (st : Sto) (n : Nat) : ∃ p, datN st (n + 1) d = some p ∧ p.canLay0 = true ∧ p.depth ≤ 1 := by
  cases d with
  | tup ds =>
    obtain ⟨ps, h1, h2, h3, _⟩ := flats_dat (show ds.all flatD = true from h) st n
    exact ⟨.tuple ps, by rw [datN, h1]; rfl, by simpa [PyData.canLay0] using h2, by simp [PyData.depth, h3]⟩
  | non => obtain ⟨p, h1, h2, h3⟩ := flat_dat (d := .non) h st (n + 1); exact ⟨p, h1, h2, by omega⟩
  | bl b => obtain ⟨p, h1, h2, h3⟩ := flat_dat (d := .bl b) h st (n + 1); exact ⟨p, h1, h2, by omega⟩
  | int b => obtain ⟨p, h1, h2, h3⟩ := flat_dat (d := .int b) h st (n + 1); exact ⟨p, h1, h2, by omega⟩
  | str b => obtain ⟨p, h1, h2, h3⟩ := flat_dat (d := .str b) h st (n + 1); exact ⟨p, h1, h2, by omega⟩
  | _ => cases h
theorem flat2s_dat : ∀ {ds : List D}, ds.all flat2 = true → ∀ (st : Sto) (n : Nat), ∃ ps, datL st (n + 1) ds = some ps ∧ PyData.canLayAll0 ps = true ∧ PyData.depthAll ps ≤ 1 ∧ ps.length = ds.length
  | [], _, st, n => ⟨[], by rw [datL], by simp [PyData.canLayAll0], by simp [PyData.depthAll], rfl⟩
  | d :: ds, h, st, n => by
    rw [List.all_cons, Bool.and_eq_true] at h
    obtain ⟨p, h1, h2, h3⟩ := flat2_dat h.1 st n
    obtain ⟨ps, h4, h5, h6, h7⟩ := flat2s_dat h.2 st n
    exact ⟨p :: ps, by rw [datL, h1, h4], by simp [PyData.canLayAll0, h2, h5], by simp [PyData.depthAll]; omega, by simp [h7]⟩
theorem eqvAll_nil (ps : List PyData) : PyData.eqvAll ps [] = ps.isEmpty := by
  cases ps <;> simp [PyData.eqvAll]
/-- a list against [] -/
theorem eq_nil {neg : Bool} {st : Sto} {i j : Nat} {ds : List D} (hi : st[i]? = some (.lst ds)) (hj : st[j]? = some (.lst [])) (h : ds.all flat2 = true) : gEqW neg (.ref i) (.ref j) st = .ok (.bl (if neg then !ds.isEmpty else ds.isEmpty)) st := by
  show gEqv neg (.ref i) (.ref j) st = _
  obtain ⟨ps, h1, h2, h3, h4⟩ := flat2s_dat h st 7
  have e1 : datN st 9 (.ref i) = some (.list ps) := by rw [datN, hi]; simp only; rw [h1]; rfl
  have e2 : datN st 9 (.ref j) = some (.list []) := by rw [datN, hj]; simp only; rw [datL]; rfl
  unfold gEqv
  rw [e1, e2]
  dsimp only
  have s1 : SeqAt.shaped (.list ps) = true := by simp [SeqAt.shaped, PyData.canLay0, PyData.depth, h2]; omega
  have s2 : SeqAt.shaped (.list []) = true := by simp [SeqAt.shaped, PyData.canLay0, PyData.canLayAll0, PyData.depth, PyData.depthAll]
  rw [if_pos ⟨s1, s2⟩, PyData.eqv, eqvAll_nil]
  have : ps.isEmpty = ds.isEmpty := by cases ps <;> cases ds <;> simp at h4 ⊢
  rw [this]
theorem eqvAll_strs : ∀ xs ys : List Str, PyData.eqvAll (xs.map .str) (ys.map .str) = decide (xs = ys)
  | [], [] => by simp [PyData.eqvAll]
  | [], _ :: _ => by simp [PyData.eqvAll]
  | _ :: _, [] => by simp [PyData.eqvAll]
  | x :: xs, y :: ys => by
    rw [List.map_cons, List.map_cons, PyData.eqvAll, eqvAll_strs xs ys, PyData.eqv]
    rw [Bool.eq_iff_iff]
    simp
theorem strs_dat (st : Sto) (n : Nat) : ∀ xs : List Str, datL st n (xs.map .str) = some (xs.map .str)
  | [] => by rw [List.map_nil, datL]; rfl
  | x :: xs => by rw [List.map_cons, datL, datN, strs_dat st n xs]; rfl
theorem lay_strs : ∀ {xs : List Str}, xs.all PyData.strOk = true → PyData.canLayAll0 (xs.map .str) = true
  | [], _ => by simp [PyData.canLayAll0]
  | x :: xs, h => by
    rw [List.all_cons, Bool.and_eq_true] at h
    simp [PyData.canLayAll0, PyData.canLay0, h.1, lay_strs h.2]
theorem dep_strs : ∀ xs : List Str, PyData.depthAll (xs.map .str) = 0
  | [] => by simp [PyData.depthAll]
  | x :: xs => by simp [PyData.depthAll, PyData.depth, dep_strs xs]
/-- two lists of texts -/
theorem eq_strs {neg : Bool} {st : Sto} {i j : Nat} {xs ys : List Str} (hi : st[i]? = some (.lst (xs.map .str))) (hj : st[j]? = some (.lst (ys.map .str))) (hx : xs.all PyData.strOk = true) (hy : ys.all PyData.strOk = true) :
    gEqW neg (.ref i) (.ref j) st = .ok (.bl (if neg then !decide (xs = ys) else decide (xs = ys))) st := by
  show gEqv neg (.ref i) (.ref j) st = _
  have e1 : datN st 9 (.ref i) = some (.list (xs.map .str)) := by rw [datN, hi]; simp only; rw [strs_dat]; rfl
  have e2 : datN st 9 (.ref j) = some (.list (ys.map .str)) := by rw [datN, hj]; simp only; rw [strs_dat]; rfl
  unfold gEqv
  rw [e1, e2]
  dsimp only
  have sh : ∀ {zs : List Str}, zs.all PyData.strOk = true → SeqAt.shaped (.list (zs.map .str)) = true := fun {zs} h => by simp [SeqAt.shaped, PyData.canLay0, PyData.depth, lay_strs h, dep_strs]
  rw [if_pos ⟨sh hx, sh hy⟩, PyData.eqv, eqvAll_strs]
theorem out_empty {α : Type} (q : α → Bool) : ∀ l : List α, (l.filter fun d => !q d).isEmpty = l.all q
  | [] => rfl
  | a :: l => by
    cases h : q a with
    | true => rw [List.filter_cons_of_neg (by simp [h]), out_empty q l, List.all_cons, h, Bool.true_and]
    | false => rw [List.filter_cons_of_pos (by simp [h]), List.all_cons, h]; rfl
/-! ### what is handed over stays nice -/
theorem Nice.ext {d : D} {st : Sto} (h : Nice d st) (t : Sto) : Nice d (st ++ t) := by
  obtain ⟨⟨n, h1⟩, h2⟩ := h
  exact ⟨⟨n, tyName_ext h1 t⟩, h2⟩
theorem law_is_eq {a b : Bool} {st : Sto} : G__law_is [.bl a, .bl b] st = .ok (.bl (a == b)) st := by
  unfold G__law_is fb__law_is sRet
  have e1 : dIsTy "bool" (dVar 0) (ev0 N__law_is [.bl a, .bl b]) st = .ok (.bl true) st := isTy_eq (n := "bool") rfl rfl
  have e2 : d2 (gEqW false) (dVar 0) (dVar 1) (ev0 N__law_is [.bl a, .bl b]) st = .ok (.bl (a == b)) st := eqv_bl
  rw [dAnd, e1]
  simp only [R.bind_ok, asB, if_true]
  rw [e2]
  rfl
/-- the signs that are not in a -/
theorem lc_out {j k : Nat} {own : List Nat} {a z : Str} {env : Ev} {st : Sto} (hz : z.length ≤ lineN) (hv : env[j]? = some (some (.str z))) (fk : DE) (hk : ∀ d s, fk ((wipeE env own).set k (some d)) s = .ok (.str a) s) (hl : k < (wipeE env own).length) :
    ∃ t, dLc own (dIter (dVar j)) (.nm k) (dB (d2 (gIn true) (dVar k) fk)) (dVar k) env st = .ok (.ref st.length) (st ++ .lst ((signsD z).filter fun d => !inS a d) :: t) := by
  have hi : dIter (dVar j) env st = .ok ⟨signsD z, []⟩ st := by
    unfold dIter dVar
    rw [hv]
    rfl
  obtain ⟨t, e⟩ := lc_pure (own := own) (tg := .nm k) (test := dB (d2 (gIn true) (dVar k) fk)) (elt := dVar k) hi (by intro q hq; cases hq) (fun d => !inS a d) (fun d => d) (by simpa [signsD, Str.length] using hz) fun d hd => by
    obtain ⟨c, rfl⟩ := signs_mem hd
    refine ⟨_, rfl, fun s _ => ⟨?_, fun _ => ?_⟩⟩
    · unfold dB d2 dVar
      rw [List.getElem?_set_self hl]
      dsimp only
      rw [R.bind_ok, hk, R.bind_ok, notIn_sign]
      exact .of
    · unfold dVar
      rw [List.getElem?_set_self hl]
      exact .of
  exact ⟨t, by rw [e]; simp⟩
theorem signs_flat {z : Str} (h : PyData.strOk z = true) : ∀ d ∈ signsD z, flatD d = true := by
  intro d hd
  unfold signsD at hd
  obtain ⟨c, hc, rfl⟩ := List.mem_map.mp hd
  unfold PyData.strOk at h
  rw [← Array.all_toList, List.all_eq_true] at h
  have := h c hc
  simp [flatD, PyData.strOk]
  simpa using this
/-- texts are readable too -/
structure Fine (d : D) (st : Sto) : Prop where
  nice : Nice d st
  ok : ∀ z, d = .str z → PyData.strOk z = true
theorem Fine.ext {d : D} {st : Sto} (h : Fine d st) (t : Sto) : Fine d (st ++ t) := ⟨h.nice.ext t, h.ok⟩
theorem law_is_word_yl {d : D} {n : Int} {st : Sto} (h : Fine d st) : Yl (G__law_is_word [d, .int n] st) st (.bl (wordB d n)) := by
  obtain ⟨⟨⟨k, hk⟩, hz⟩, hok⟩ := h
  have e1 : dIsTy "str" (dVar 0) (ev0 N__law_is_word [d, .int n]) st = .ok (.bl (isTyB k "str")) st := isTy_eq rfl hk
  unfold G__law_is_word fb__law_is_word sRet
  rw [dAnd, e1, isTy_str hk]
  cases d with
  | str z =>
    have hl := hz z rfl
    have e2 : d2 (gEqW false) (dCall gLen (aCons (dVar 0) aNil)) (dVar 1) (ev0 N__law_is_word [.str z, .int n]) st = .ok (.bl (decide ((z.length : Int) = n))) st := by
      simp [d2, dCall, aCons, aNil, dVar, ev0, len_str hl, eqv_int]
    obtain ⟨t, e3⟩ := lc_out (j := 0) (k := 2) (own := [2]) (a := "01") (z := z) (env := ev0 N__law_is_word [.str z, .int n]) (st := st) hl rfl (dC (.str "01")) (fun _ _ => rfl) (by simp [ev0, wipeE])
    simp only [R.bind_ok, asB, if_true, dAnd]
    rw [e2]
    simp only [R.bind_ok, asB]
    by_cases hn : (z.length : Int) = n
    · rw [decide_eq_true hn, if_pos rfl]
      have e4 : dLst aNil (ev0 N__law_is_word [.str z, .int n]) (st ++ .lst ((signsD z).filter fun d => !inS "01" d) :: t) = .ok (.ref (st ++ .lst ((signsD z).filter fun d => !inS "01" d) :: t).length) ((st ++ .lst ((signsD z).filter fun d => !inS "01" d) :: t) ++ [.lst []]) := rfl
      rw [d2, e3, R.bind_ok, e4, R.bind_ok, eq_nil (neg := false) (get_ext _ get_mid) get_mid]
      · refine ⟨.lst ((signsD z).filter fun d => !inS "01" d) :: t ++ [.lst []], ?_⟩
        simp [SR.toR, wordB, hn, allIn, out_empty]
      · rw [List.all_eq_true]
        intro d hd
        have h1 := signs_flat (hok z rfl) d (List.mem_filter.mp hd).1
        cases d <;> first | exact h1 | cases h1
    · rw [decide_eq_false hn, if_neg Bool.false_ne_true]
      exact ⟨[], by simp [SR.toR, wordB, hn]⟩
  | _ => exact ⟨[], by simp [asB, SR.toR, wordB]⟩
def anyB (d : D) : Bool := match d with
  | .str z => decide (z.length ≤ 24) && allIn "01" z
  | _ => false
theorem is_any_word_yl {d : D} {st : Sto} (h : Nice d st) : Yl (G_is_any_word [d] st) st (.bl (anyB d)) := by
  have h0 := h
  obtain ⟨⟨k, hk⟩, hz⟩ := h
  have e1 : dIsTy "str" (dVar 0) (ev0 N_is_any_word [d]) st = .ok (.bl (isTyB k "str")) st := isTy_eq rfl hk
  unfold G_is_any_word fb_is_any_word sRet
  rw [dAnd, e1, isTy_str hk]
  cases d with
  | str z =>
    have hl := hz z rfl
    have e2 : d2 gLe (dCall gLen (aCons (dVar 0) aNil)) (dC cv_MOST) (ev0 N_is_any_word [.str z]) st = .ok (.bl (decide (z.length ≤ 24))) st := by
      simp [d2, dCall, aCons, aNil, dVar, ev0, len_str hl, dC, cv_MOST, gLe, gInt0]
      omega
    simp only [R.bind_ok, asB, if_true, dAnd]
    rw [e2]
    simp only [R.bind_ok, asB]
    by_cases hn : z.length ≤ 24
    · rw [decide_eq_true hn, if_pos rfl]
      obtain ⟨t, e3⟩ := is_word_of_yl (d := .str z) (n := z.length) (st := st) h0
      have e4 : dCall G_is_word_of (aCons (dVar 0) (aCons (dCall gLen (aCons (dVar 0) aNil)) aNil)) (ev0 N_is_any_word [.str z]) st = G_is_word_of [.str z, .int z.length] st := by
        simp [dCall, aCons, aNil, dVar, ev0, len_str hl]
      rw [e4, e3]
      exact ⟨t, by simp [SR.toR, anyB, hn, wordB]⟩
    · rw [decide_eq_false hn, if_neg Bool.false_ne_true]
      exact ⟨[], by simp [SR.toR, anyB, hn]⟩
  | _ => exact ⟨[], by simp [asB, SR.toR, anyB]⟩
end K00
end Fn
end
section
set_option Elab.async false
set_option linter.all false
set_option maxRecDepth 100000
set_option maxHeartbeats 4000000
namespace Fn
namespace K00
open PySem PySem.Spec PyProof.Rows L2 LamX
/-- r raises c; the store has grown -/
def Rx {α : Type} (r : R α) (s : Sto) (c : Str) : Prop := ∃ t, r = .exc ⟨c, []⟩ (s ++ t)
/-! ### the ones of a word -/
def oneP (w : Str) (d : D) : Bool := match d with
  | .int k => decide (w.cps.toList[k.toNat]? = some 49)
  | _ => false
def succD (d : D) : D := match d with
  | .int k => .int (k + 1)
  | d => d
def onesL (w : Str) (n : Nat) : List D := ((rngD 0 n).filter (oneP w)).map succD
theorem rng_mem {n : Nat} {d : D} (h : d ∈ rngD 0 n) : ∃ k : Nat, k < n ∧ d = .int k := by
  unfold rngD at h
  obtain ⟨k, hk, rfl⟩ := List.mem_map.mp h
  exact ⟨k, List.mem_range.mp hk, by simp⟩
theorem str1 (c : Nat) : (decide ((⟨#[c]⟩ : Str) = "1")) = decide (c = 49) := by
  have e : ("1" : Str) = ⟨#[49]⟩ := by decide +kernel
  rw [e, Bool.eq_iff_iff]
  simp
theorem ixN_in {n : Nat} {k : Nat} (h : k < n) : ixN n (k : Int) = some k := by
  unfold ixN
  rw [if_pos (by omega), if_pos (by omega)]
  simp
/-- w[k] == '1' -/
theorem at_one {w : Str} {k : Nat} {st : Sto} (hw : w.length ≤ lineN) (hk : k < w.length) : (gIx (.str w) (.int k) st).bind (fun x s1 => gEqW false x (.str "1") s1) = .ok (.bl (oneP w (.int k))) st := by
  have hk' : k < w.cps.toList.length := by simpa [Str.length] using hk
  have e : atI w.cps.toList (k : Int) = some w.cps.toList[k] := by
    unfold atI
    rw [ixN_in hk', Option.bind_some, List.getElem?_eq_getElem hk']
  have e2 : gIx (.str w) (.int k) st = .ok (.str ⟨#[w.cps.toList[k]]⟩) st := by
    show (if w.length ≤ lineN then (match atI w.cps.toList (k : Int) with
      | some c => R.ok (D.str ⟨#[c]⟩) st
      | none => .bad) else .bad) = _
    rw [if_pos hw, e]
  rw [e2, R.bind_ok]
  show R.ok (D.bl (decide ((⟨#[w.cps.toList[k]]⟩ : Str) = "1"))) st = _
  rw [str1]
  have e3 : oneP w (.int k) = decide (w.cps.toList[k] = 49) := by
    show decide (w.cps.toList[(k : Int).toNat]? = some 49) = _
    rw [Int.toNat_natCast, List.getElem?_eq_getElem hk']
    simp
  rw [e3]
theorem range1_eq {n : Nat} {st : Sto} (h : n ≤ 16777216) : gRange1 [.int n] st = .ok ⟨rngD 0 n, []⟩ st := by
  have z : -(2 ^ 62) ≤ (n : Int) ∧ (n : Int) < 2 ^ 62 := ⟨by omega, by omega⟩
  unfold gRange1
  dsimp only
  rw [if_pos z, Int.toNat_natCast]
/-- [k + 1 for k in range(n) if w[k] == '1'] -/
theorem lc_ones {i j : Nat} {own : List Nat} {w : Str} {n : Nat} {fr : DA} {env : Ev} {st : Sto} (hw : w.length ≤ lineN) (hn : n ≤ w.length) (hr : fr env st = .ok [.int n] st) (hv : ∀ d, ((wipeE env own).set i (some d))[j]? = some (some (.str w))) (hl : i < (wipeE env own).length) :
    ∃ t, dLc own (dIt gRange1 fr) (.nm i) (dB (d2 (gEqW false) (d2 gIx (dVar j) (dVar i)) (dC (.str "1")))) (d2 gAdd (dVar i) (dC (.int 1))) env st = .ok (.ref st.length) (st ++ .lst (onesL w n) :: t) := by
  have hN : lineN = 16777216 := by decide
  have hi : dIt gRange1 fr env st = .ok ⟨rngD 0 n, []⟩ st := by
    unfold dIt
    rw [hr, R.bind_ok]
    exact range1_eq (by omega)
  obtain ⟨t, e⟩ := lc_pure (own := own) (tg := .nm i) (test := dB (d2 (gEqW false) (d2 gIx (dVar j) (dVar i)) (dC (.str "1")))) (elt := d2 gAdd (dVar i) (dC (.int 1))) hi (by intro q hq; cases hq) (oneP w) succD (by simp [rngD]; omega) fun d hd => by
    obtain ⟨k, hk, rfl⟩ := rng_mem hd
    refine ⟨_, rfl, fun s _ => ⟨?_, fun _ => ?_⟩⟩
    · have e1 : d2 (gEqW false) (d2 gIx (dVar j) (dVar i)) (dC (.str "1")) ((wipeE env own).set i (some (.int k))) s = (gIx (.str w) (.int k) s).bind (fun x s1 => gEqW false x (.str "1") s1) := by
        simp only [d2, dVar, dC]
        rw [hv, List.getElem?_set_self hl]
        simp
      unfold dB
      rw [e1, at_one hw (by omega)]
      exact .of
    · simp only [d2, dVar, dC]
      rw [List.getElem?_set_self hl]
      exact .of
  exact ⟨t, e⟩
theorem tup_mid {s t : Sto} {ds : List D} : gTupleA [.ref s.length] (s ++ .lst ds :: t) = .ok (.tup ds) (s ++ .lst ds :: t) := by
  unfold gTupleA gTuple1
  dsimp only
  rw [seq_mid]
theorem ones_told_yl {w : Str} {st : Sto} (hw : w.length ≤ lineN) : Yl (G_ones_told [.str w] st) st (.tup (onesL w w.length)) := by
  obtain ⟨t, e⟩ := lc_ones (i := 1) (j := 0) (own := [1]) (w := w) (n := w.length) (fr := aCons (dCall gLen (aCons (dVar 0) aNil)) aNil) (env := ev0 N_ones_told [.str w]) (st := st) hw (Nat.le_refl _) (by simp [aCons, aNil, dCall, dVar, ev0, len_str hw]) (fun d => rfl) (by simp [ev0, wipeE])
  refine ⟨.lst (onesL w w.length) :: t, ?_⟩
  unfold G_ones_told fb_ones_told
  simp only [a_sRet, a_dCall, a_aCons, a_aNil, e, R.bind_ok, R.into_ok, tup_mid]
  rfl
theorem ones_ok {w : Str} {st : Sto} (h : Nice (.str w) st) (ha : anyB (.str w) = true) : Yl (G_ones [.str w] st) st (.tup (onesL w w.length)) := by
  obtain ⟨t, e⟩ := is_any_word_yl h
  obtain ⟨t2, e2⟩ := ones_told_yl (st := st ++ t) (h.2 w rfl)
  refine ⟨t ++ t2, ?_⟩
  have v : ∀ s, dVar 0 (ev0 N_ones [.str w]) s = .ok (.str w) s := fun _ => rfl
  unfold G_ones fb_ones
  rw [a_sSeq (e := ev0 N_ones [.str w]) (s := st ++ t) (by simp [v, e, ha, asB])]
  simp [v, e2, SR.toR]
theorem ones_no {d : D} {st : Sto} (h : Nice d st) (ha : anyB d = false) : Rx (G_ones [d] st) st "BadWord" := by
  obtain ⟨t, e⟩ := is_any_word_yl h
  refine ⟨t, ?_⟩
  have v : ∀ s, dVar 0 (ev0 N_ones [d]) s = .ok d s := fun _ => rfl
  unfold G_ones fb_ones
  rw [a_sSeqX (e := ev0 N_ones [d]) (x := ⟨"BadWord", []⟩) (s := st ++ t) (by simp [v, e, ha, asB])]
  rfl
end K00
end Fn
end
section
set_option Elab.async false
set_option linter.all false
set_option maxRecDepth 100000
set_option maxHeartbeats 4000000
namespace Fn
namespace K00
open PySem PySem.Spec PyProof.Rows L2 LamX
/-! ### names -/
def keptA : List Str := ["add", "apart", "cannot", "clash", "done", "drop", "first", "flip", "join", "journal", "least", "life", "line", "live", "mark", "mix", "mixed"]
def keptB : List Str := ["name", "no", "none", "nothing", "part", "place", "record", "redo", "ring", "row", "strict", "table", "undo", "weave", "web", "what", "yes"]
def keptS : List Str := keptA ++ keptB
theorem cv_kept : cv_KEPT = .tup (keptS.map .str) := rfl
theorem split_kept : Txt.split (("add apart cannot clash done drop first flip join journal least life line live mark mix mixed name no none" : Str) ++ (" nothing part place record redo ring row strict table undo weave web what yes" : Str)) " " = keptS := by decide +kernel
theorem law_kept_eq {st : Sto} : G__law_kept [] st = .ok (.ref st.length) (st ++ [.lst (keptS.map .str)]) := by
  have e1 : ∀ s, d2 gAdd (dVar 0) (dC (.str " nothing part place record redo ring row strict table undo weave web what yes")) [some (.str "add apart cannot clash done drop first flip join journal least life line live mark mix mixed name no none")] s = .ok (.str (("add apart cannot clash done drop first flip join journal least life line live mark mix mixed name no none" : Str) ++ (" nothing part place record redo ring row strict table undo weave web what yes" : Str))) s := fun s => by
    simp only [a_d2, dVar, a_dC, List.getElem?_cons_zero, R.bind_ok, gAdd]
    rw [if_pos (by decide +kernel)]
  have e2 : ∀ s, gSplit (.str (("add apart cannot clash done drop first flip join journal least life line live mark mix mixed name no none" : Str) ++ (" nothing part place record redo ring row strict table undo weave web what yes" : Str))) [.str " "] s = .ok (.ref s.length) (s ++ [.lst (keptS.map .str)]) := fun s => by
    unfold gSplit
    dsimp only
    rw [if_pos (by decide +kernel), split_kept]
  unfold G__law_kept fb__law_kept
  have e0 : (sAsg (dC (.str "add apart cannot clash done drop first flip join journal least life line live mark mix mixed name no none")) (.nm 0)) (ev0 N__law_kept []) st = .next [some (.str "add apart cannot clash done drop first flip join journal least life line live mark mix mixed name no none")] st := rfl
  rw [a_sSeq e0]
  simp only [a_sRet, a_dM, e1, R.bind_ok, tyB, a_aCons, a_dC, a_aNil, e2, beq_self_eq_true, if_true]
  rfl
theorem toVs_strs : ∀ zs : List Str, toVs (zs.map .str) = some (zs.map .str)
  | [] => rfl
  | z :: zs => by
    rw [List.map_cons, toVs, toV, toVs_strs zs]
    rfl
def inK (z : Str) : Bool := inV (.str z) (keptS.map .str)
def nameB (d : D) : Bool := match d with
  | .str z => decide (1 ≤ z.length) && decide (z.length ≤ 8) && !inK z && allIn "abcdefghijklmnopqrstuvwxyz" z
  | _ => false
theorem in_kept {z : Str} {st : Sto} : gIn false (.str z) cv_KEPT st = .ok (.bl (inK z)) st := by
  rw [cv_kept]
  unfold gIn
  split
  · rename_i h; cases h
  · rename_i h
    simp only [toV, seqD, Option.bind_some, toVs_strs]
    rfl
theorem in_keptL {z : Str} {st : Sto} {i : Nat} (h : st[i]? = some (.lst (keptS.map .str))) : gIn false (.str z) (.ref i) st = .ok (.bl (inK z)) st := by
  unfold gIn
  split
  · rename_i h2; cases h2
  · simp only [toV, seqD, h, Option.bind_some, toVs_strs]
    rfl
theorem is_name_yl {d : D} {st : Sto} (h : Nice d st) : Yl (G_is_name [d] st) st (.bl (nameB d)) := by
  obtain ⟨⟨k, hk⟩, hz⟩ := h
  have e1 : dIsTy "str" (dVar 0) (ev0 N_is_name [d]) st = .ok (.bl (isTyB k "str")) st := isTy_eq rfl hk
  unfold G_is_name fb_is_name
  cases d with
  | str z =>
    have hl := hz z rfl
    have v : ∀ s, dVar 0 (ev0 N_is_name [.str z]) s = .ok (.str z) s := fun _ => rfl
    rw [isTy_str hk] at e1
    obtain ⟨t, e3⟩ := lc_in (j := 0) (k := 1) (own := [1]) (a := "abcdefghijklmnopqrstuvwxyz") (z := z) (env := ev0 N_is_name [.str z]) (st := st) hl rfl (dC cv_LETTERS) (fun _ _ => rfl) (by simp [ev0, wipeE])
    by_cases h1 : (1 : Int) ≤ z.length ∧ (z.length : Int) ≤ 8
    · by_cases h2 : inK z = true
      · rw [a_sSeqR (d := .bl false) (s := st) (by simp [e1, asB, d3, v, len_str hl, gLe, gInt0, h1.1, h1.2, in_kept, h2])]
        exact ⟨[], by simp [SR.toR, nameB, h2]⟩
      · have h2' : inK z = false := by simpa using h2
        rw [a_sSeq (e := ev0 N_is_name [.str z]) (s := st) (by simp [e1, asB, d3, v, len_str hl, gLe, gInt0, h1.1, h1.2, in_kept, h2'])]
        simp only [a_sRet, a_dCall, a_aCons, a_aNil, e3, R.bind_ok, R.into_ok]
        rw [all_mid (q := inS "abcdefghijklmnopqrstuvwxyz")]
        refine ⟨.lst ((signsD z).map fun d => .bl (inS "abcdefghijklmnopqrstuvwxyz" d)) :: t, ?_⟩
        have q1 : 1 ≤ z.length := by omega
        have q2 : z.length ≤ 8 := by omega
        simp [SR.toR, nameB, h2', q1, q2, allIn]
    · have q : nameB (.str z) = false := by
        unfold nameB
        by_cases q1 : 1 ≤ z.length
        · have q2 : ¬ z.length ≤ 8 := fun q2 => h1 ⟨by omega, by omega⟩
          simp [q2]
        · simp [q1]
      have e4 : d3 gLe gLe (dC (.int 1)) (dCall gLen (aCons (dVar 0) aNil)) (dC (.int 8)) (ev0 N_is_name [.str z]) st = .ok (.bl false) st := by
        by_cases q1 : (1 : Int) ≤ z.length
        · have q2 : ¬ (z.length : Int) ≤ 8 := fun q2 => h1 ⟨q1, q2⟩
          simp [d3, v, len_str hl, gLe, gInt0, q1, q2, asB]
        · simp [d3, v, len_str hl, gLe, gInt0, q1, asB]
      rw [a_sSeqR (d := .bl false) (s := st) (by simp [e1, asB, e4])]
      exact ⟨[], by simp [SR.toR, q]⟩
  | _ =>
    rw [isTy_str hk] at e1
    rw [a_sSeqR (d := .bl false) (s := st) (by simp [e1, asB])]
    exact ⟨[], by simp [SR.toR, nameB]⟩
theorem law_is_name_yl {d : D} {st : Sto} (h : Fine d st) : Yl (G__law_is_name [d] st) st (.bl (nameB d)) := by
  obtain ⟨⟨⟨k, hk⟩, hz⟩, hok⟩ := h
  have e1 : dIsTy "str" (dVar 0) (ev0 N__law_is_name [d]) st = .ok (.bl (isTyB k "str")) st := isTy_eq rfl hk
  unfold G__law_is_name fb__law_is_name
  cases d with
  | str z =>
    have hl := hz z rfl
    have v : ∀ s, dVar 0 (ev0 N__law_is_name [.str z]) s = .ok (.str z) s := fun _ => rfl
    rw [isTy_str hk] at e1
    by_cases h1 : (1 : Int) ≤ z.length ∧ (z.length : Int) ≤ 8
    · have e5 : (sIf (bOr (bNot (dB (dIsTy "str" (dVar 0)))) (bOr (bNot (dB (d3 gLe gLe (dC (.int 1)) (dCall gLen (aCons (dVar 0) aNil)) (dC (.int 8))))) (dB (d2 (gIn false) (dVar 0) (dCall G__law_kept aNil))))) (sRet (dC (.bl false))) sNil) (ev0 N__law_is_name [.str z]) st =
          if inK z = true then .ret (.bl false) (st ++ [.lst (keptS.map .str)]) else .next (ev0 N__law_is_name [.str z]) (st ++ [.lst (keptS.map .str)]) := by
        simp [e1, asB, d3, v, len_str hl, gLe, gInt0, h1.1, h1.2, law_kept_eq]
        rw [in_keptL (by simp)]
        cases inK z <;> simp [asB]
      by_cases h2 : inK z = true
      · rw [if_pos h2] at e5
        rw [a_sSeqR e5]
        exact ⟨[.lst (keptS.map .str)], by simp [SR.toR, nameB, h2]⟩
      · have h2' : inK z = false := by simpa using h2
        rw [if_neg h2] at e5
        rw [a_sSeq e5]
        obtain ⟨t, e3⟩ := lc_out (j := 0) (k := 1) (own := [1]) (a := "abcdefghijklmnopqrstuvwxyz") (z := z) (env := ev0 N__law_is_name [.str z]) (st := st ++ [.lst (keptS.map .str)]) hl rfl (dC (.str "abcdefghijklmnopqrstuvwxyz")) (fun _ _ => rfl) (by simp [ev0, wipeE])
        have e4 : ∀ s, dLst aNil (ev0 N__law_is_name [.str z]) s = .ok (.ref s.length) (s ++ [.lst []]) := fun s => rfl
        rw [a_sRet, a_d2, e3, R.bind_ok, e4, R.bind_ok, eq_nil (neg := false) (get_ext _ get_mid) get_mid]
        · refine ⟨[.lst (keptS.map .str)] ++ (.lst ((signsD z).filter fun d => !inS "abcdefghijklmnopqrstuvwxyz" d) :: t ++ [.lst []]), ?_⟩
          have q1 : 1 ≤ z.length := by omega
          have q2 : z.length ≤ 8 := by omega
          simp [SR.toR, nameB, h2', q1, q2, allIn, out_empty]
        · rw [List.all_eq_true]
          intro d hd
          have h1 := signs_flat (hok z rfl) d (List.mem_filter.mp hd).1
          cases d <;> first | exact h1 | cases h1
    · have q : nameB (.str z) = false := by
        unfold nameB
        by_cases q1 : 1 ≤ z.length
        · have q2 : ¬ z.length ≤ 8 := fun q2 => h1 ⟨by omega, by omega⟩
          simp [q2]
        · simp [q1]
      have e4 : d3 gLe gLe (dC (.int 1)) (dCall gLen (aCons (dVar 0) aNil)) (dC (.int 8)) (ev0 N__law_is_name [.str z]) st = .ok (.bl false) st := by
        by_cases q1 : (1 : Int) ≤ z.length
        · have q2 : ¬ (z.length : Int) ≤ 8 := fun q2 => h1 ⟨q1, q2⟩
          simp [d3, v, len_str hl, gLe, gInt0, q1, q2, asB]
        · simp [d3, v, len_str hl, gLe, gInt0, q1, asB]
      rw [a_sSeqR (d := .bl false) (s := st) (by simp [e1, asB, e4])]
      exact ⟨[], by simp [SR.toR, q]⟩
  | _ =>
    rw [isTy_str hk] at e1
    rw [a_sSeqR (d := .bl false) (s := st) (by simp [e1, asB])]
    exact ⟨[], by simp [SR.toR, nameB]⟩
end K00
end Fn
end
section
set_option Elab.async false
set_option linter.all false
set_option maxRecDepth 100000
set_option maxHeartbeats 4000000
namespace Fn
namespace K00
open PySem PySem.Spec PyProof.Rows L2 LamX
/-! ### places -/
def ltD (d e : D) : Bool := match d, e with
  | .int a, .int b => decide (a < b)
  | _, _ => false
def ascB (ds : List D) : Bool := (ds.zip ds.tail).all fun p => ltD p.1 p.2
def isInt (d : D) : Bool := match d with
  | .int _ => true
  | _ => false
def placesB (d : D) (n : Int) : Bool := match d with
  | .tup ds => ds.all (fun x => numB x 1 n) && ascB ds
  | _ => false
theorem numB_int {d : D} {a b : Int} (h : numB d a b = true) : isInt d = true := by
  cases d <;> first | rfl | cases h
theorem cutD_tail (ds : List D) : cutD ds (some 1) none = ds.tail := by
  unfold cutD
  have e : HT.sIx ds.length 0 (some 1) = min 1 ds.length := HT.sIx_nat ds.length 0 1
  rw [e, HT.sIx_none]
  cases ds with
  | nil => rfl
  | cons d r =>
    have : min 1 (d :: r).length = 1 := by simp
    rw [this, List.drop_one, List.tail_cons, List.take_of_length_le (by simp)]
theorem zip_mem {ds : List D} (h : ds.all isInt = true) {p : D × D} (hp : p ∈ ds.zip ds.tail) : ∃ a b, p = (.int a, .int b) := by
  obtain ⟨x, y⟩ := p
  have h1 := List.of_mem_zip hp
  rw [List.all_eq_true] at h
  have hx := h x h1.1
  have hy := h y (List.mem_of_mem_tail h1.2)
  cases x <;> first | cases hx | skip
  cases y <;> first | cases hy | skip
  exact ⟨_, _, rfl⟩
/-- zip(t, t[1:]) -/
theorem zip_it {i : Nat} {env : Ev} {st : Sto} {ds : List D} (hv : env[i]? = some (some (.tup ds))) : dIt gZip (aCons (dVar i) (aCons (dCut (dVar i) (oSome (dC (.int 1))) oNone) aNil)) env st = .ok ⟨(ds.zip ds.tail).map fun p => .tup [p.1, p.2], []⟩ st := by
  have e1 : ∀ s, dCut (dVar i) (oSome (dC (.int 1))) oNone env s = .ok (.tup ds.tail) s := fun s => by
    rw [a_dCut, a_dVar hv, R.bind_ok]
    show gCut (.tup ds) (some 1) none s = _
    rw [← cutD_tail]
    rfl
  unfold dIt
  rw [a_aCons, a_dVar hv, R.bind_ok, a_aCons, e1, R.bind_ok]
  rfl
theorem are_ascending_yl {ds : List D} {st : Sto} (h : ds.all isInt = true) (hl : ds.length ≤ lineN) : Yl (G_are_ascending [.tup ds] st) st (.bl (ascB ds)) := by
  obtain ⟨t, e⟩ := lc_map (own := [1, 2]) (tg := .tp [.nm 1, .nm 2]) (elt := d2 gLt (dVar 1) (dVar 2)) (zip_it (i := 0) (env := ev0 N_are_ascending [.tup ds]) (st := st) (ds := ds) rfl) (by intro q hq; cases hq)
    (fun d => .bl (match d with | .tup [a, b] => ltD a b | _ => false)) (by simp; omega) fun d hd => by
    obtain ⟨p, hp, rfl⟩ := List.mem_map.mp hd
    obtain ⟨a, b, rfl⟩ := zip_mem h hp
    exact ⟨[some (.tup ds), some (.int a), some (.int b)], rfl, fun s _ => .of⟩
  unfold G_are_ascending fb_are_ascending
  have e2 : (List.map (fun d => D.bl (match d with | .tup [a, b] => ltD a b | _ => false)) ((ds.zip ds.tail).map fun p => D.tup [p.1, p.2])) = (ds.zip ds.tail).map fun p => D.bl (ltD p.1 p.2) := by
    rw [List.map_map]
    rfl
  simp only [e2] at e
  rw [a_sRet, a_dCall, a_aCons, e, R.bind_ok, a_aNil, R.bind_ok, R.bind_ok, all_mid (q := fun p : D × D => ltD p.1 p.2)]
  exact ⟨_, rfl⟩
theorem are_places_yl {d : D} {n : Int} {st : Sto} (h : Nice d st) (hi : ∀ ds, d = .tup ds → ds.length ≤ lineN ∧ ∀ x ∈ ds, ∃ k, tyName x st = some k) : Yl (G_are_places [d, .int n] st) st (.bl (placesB d n)) := by
  obtain ⟨⟨k, hk⟩, hz⟩ := h
  have e1 : dIsTy "tuple" (dVar 0) (ev0 N_are_places [d, .int n]) st = .ok (.bl (isTyB k "tuple")) st := isTy_eq rfl hk
  unfold G_are_places fb_are_places
  cases d with
  | tup ds =>
    obtain ⟨hl, hx⟩ := hi ds rfl
    rw [isTy_tup hk] at e1
    obtain ⟨t, e2⟩ := lc_map (own := [2]) (fi := dIter (dVar 0)) (env := ev0 N_are_places [.tup ds, .int n]) (st := st) (st1 := st) (it := ⟨ds, []⟩) (tg := .nm 2) (elt := dCall G_is_number (aCons (dVar 2) (aCons (dC (.int 1)) (aCons (dVar 1) aNil)))) rfl (by intro q hq; cases hq)
      (fun x => .bl (numB x 1 n)) hl fun x hx' => by
      obtain ⟨k, hk⟩ := hx x hx'
      refine ⟨[some (.tup ds), some (.int n), some x], rfl, fun s ⟨t, ht⟩ => .of_eq ?_⟩
      show G_is_number [x, .int 1, .int n] s = _
      rw [← ht]
      exact is_number_eq (tyName_ext hk t)
    have e3 : (sIf (bOr (bNot (dB (dIsTy "tuple" (dVar 0)))) (bNot (dB (dCall (gAllAny true) (aCons (dLc [2] (dIter (dVar 0)) (.nm 2) bYes (dCall G_is_number (aCons (dVar 2) (aCons (dC (.int 1)) (aCons (dVar 1) aNil))))) aNil))))) (sRet (dC (.bl false))) sNil) (ev0 N_are_places [.tup ds, .int n]) st =
        if ds.all (fun x => numB x 1 n) = true then .next (ev0 N_are_places [.tup ds, .int n]) (st ++ .lst (ds.map fun x => .bl (numB x 1 n)) :: t) else .ret (.bl false) (st ++ .lst (ds.map fun x => .bl (numB x 1 n)) :: t) := by
      simp only [a_sIf, a_bOr, a_bNot, a_dB, e1, R.bind_ok, asB, Bool.not_true, if_false, Bool.false_eq_true, a_dCall, a_aCons, e2, a_aNil]
      rw [all_mid (q := fun x => numB x 1 n)]
      cases ds.all (fun x => numB x 1 n) <;> simp [asB]
    by_cases ha : ds.all (fun x => numB x 1 n) = true
    · rw [if_pos ha] at e3
      rw [a_sSeq e3]
      have hint : ds.all isInt = true := by
        rw [List.all_eq_true] at ha ⊢
        exact fun x hx => numB_int (ha x hx)
      obtain ⟨t2, e4⟩ := are_ascending_yl (st := st ++ .lst (ds.map fun x => .bl (numB x 1 n)) :: t) hint hl
      refine ⟨.lst (ds.map fun x => .bl (numB x 1 n)) :: t ++ t2, ?_⟩
      have v : ∀ s, dVar 0 (ev0 N_are_places [.tup ds, .int n]) s = .ok (.tup ds) s := fun _ => rfl
      simp [v, e4, SR.toR, placesB, ha]
    · rw [if_neg ha] at e3
      rw [a_sSeqR e3]
      exact ⟨_, by simp [SR.toR, placesB, ha]; rfl⟩
  | _ =>
    rw [isTy_tup hk] at e1
    rw [a_sSeqR (d := .bl false) (s := st) (by simp [e1, asB])]
    exact ⟨[], by simp [SR.toR, placesB]⟩
theorem law_are_places_yl {d : D} {n : Int} {st : Sto} (h : Nice d st) (hi : ∀ ds, d = .tup ds → ds.length ≤ lineN ∧ ∀ x ∈ ds, flat2 x = true) : Yl (G__law_are_places [d, .int n] st) st (.bl (placesB d n)) := by
  obtain ⟨⟨k, hk⟩, hz⟩ := h
  have e1 : dIsTy "tuple" (dVar 0) (ev0 N__law_are_places [d, .int n]) st = .ok (.bl (isTyB k "tuple")) st := isTy_eq rfl hk
  unfold G__law_are_places fb__law_are_places
  cases d with
  | tup ds =>
    obtain ⟨hl, hx⟩ := hi ds rfl
    have hx' : ∀ x ∈ ds, ∃ k, tyName x st = some k := fun x hm => by
      have := hx x hm
      cases x <;> first | exact ⟨_, rfl⟩ | cases this
    rw [isTy_tup hk] at e1
    obtain ⟨t, e2⟩ := lc_pure (own := [2]) (fi := dIter (dVar 0)) (env := ev0 N__law_are_places [.tup ds, .int n]) (st := st) (st1 := st) (it := ⟨ds, []⟩) (tg := .nm 2) (test := bNot (dB (dCall G__law_is_number (aCons (dVar 2) (aCons (dC (.int 1)) (aCons (dVar 1) aNil)))))) (elt := dVar 2) rfl (by intro q hq; cases hq)
      (fun x => !numB x 1 n) (fun x => x) hl fun x hm => by
      obtain ⟨k, hk⟩ := hx' x hm
      refine ⟨[some (.tup ds), some (.int n), some x, none, none], rfl, fun s ⟨t, ht⟩ => ⟨.of_eq ?_, fun _ => .of⟩⟩
      have q : G__law_is_number [x, .int 1, .int n] s = .ok (.bl (numB x 1 n)) s := by
        rw [← ht]
        exact law_is_number_eq (tyName_ext hk t)
      simp [dVar, q, asB]
    simp only [List.map_id'] at e2
    have e4 : ∀ s, dLst aNil (ev0 N__law_are_places [.tup ds, .int n]) s = .ok (.ref s.length) (s ++ [.lst []]) := fun s => rfl
    have hflat : (ds.filter fun x => !numB x 1 n).all flat2 = true := by
      rw [List.all_eq_true]
      exact fun x hm => hx x (List.mem_filter.mp hm).1
    have e3 : (sIf (bOr (bNot (dB (dIsTy "tuple" (dVar 0)))) (dB (d2 (gEqW true) (dLc [2] (dIter (dVar 0)) (.nm 2) (bNot (dB (dCall G__law_is_number (aCons (dVar 2) (aCons (dC (.int 1)) (aCons (dVar 1) aNil)))))) (dVar 2)) (dLst aNil)))) (sRet (dC (.bl false))) sNil) (ev0 N__law_are_places [.tup ds, .int n]) st =
        if ds.all (fun x => numB x 1 n) = true then .next (ev0 N__law_are_places [.tup ds, .int n]) (st ++ .lst (ds.filter fun x => !numB x 1 n) :: t ++ [.lst []]) else .ret (.bl false) (st ++ .lst (ds.filter fun x => !numB x 1 n) :: t ++ [.lst []]) := by
      simp only [a_sIf, a_bOr, a_bNot, a_dB, e1, R.bind_ok, asB, Bool.not_true, if_false, Bool.false_eq_true, a_d2, e2, e4]
      rw [eq_nil (neg := true) (get_ext _ get_mid) get_mid hflat, out_empty]
      cases ds.all (fun x => numB x 1 n) <;> simp [asB]
    by_cases ha : ds.all (fun x => numB x 1 n) = true
    · rw [if_pos ha] at e3
      rw [a_sSeq e3]
      have hint : ds.all isInt = true := by
        rw [List.all_eq_true] at ha ⊢
        exact fun x hx => numB_int (ha x hx)
      obtain ⟨t2, e5⟩ := lc_pure (own := [3, 4]) (tg := .tp [.nm 3, .nm 4]) (test := bNot (dB (d2 gLt (dVar 3) (dVar 4)))) (elt := dC (.int 1)) (zip_it (i := 0) (env := ev0 N__law_are_places [.tup ds, .int n]) (st := st ++ .lst (ds.filter fun x => !numB x 1 n) :: t ++ [.lst []]) (ds := ds) rfl) (by intro q hq; cases hq)
        (fun d => !(match d with | .tup [a, b] => ltD a b | _ => false)) (fun _ => .int 1) (by simp; omega) fun d hd => by
        obtain ⟨p, hp, rfl⟩ := List.mem_map.mp hd
        obtain ⟨a, b, rfl⟩ := zip_mem hint hp
        exact ⟨[some (.tup ds), some (.int n), none, some (.int a), some (.int b)], rfl, fun s _ => ⟨.of, fun _ => .of⟩⟩
      rw [a_sRet, a_d2, e5, R.bind_ok, e4, R.bind_ok, eq_nil (neg := false) (get_ext _ get_mid) get_mid]
      · refine ⟨.lst (ds.filter fun x => !numB x 1 n) :: t ++ [.lst []] ++ (.lst (((((ds.zip ds.tail).map fun p => D.tup [p.1, p.2])).filter fun d => !(match d with | .tup [a, b] => ltD a b | _ => false)).map fun _ => .int 1) :: t2 ++ [.lst []]), ?_⟩
        have q : (List.map (fun _ => D.int 1) (List.filter (fun d => !(match d with | .tup [a, b] => ltD a b | _ => false)) ((ds.zip ds.tail).map fun p => D.tup [p.1, p.2]))).isEmpty = ascB ds := by
          have q1 : ∀ {α β : Type} (f : α → β) (l : List α), (l.map f).isEmpty = l.isEmpty := fun f l => by cases l <;> rfl
          rw [q1, out_empty, List.all_map]
          rfl
        simp only [R.into_ok, SR.toR, placesB, ha, Bool.true_and, q]
        simp
      · rw [List.all_eq_true]
        intro x hx
        obtain ⟨_, _, rfl⟩ := List.mem_map.mp hx
        rfl
    · rw [if_neg ha] at e3
      rw [a_sSeqR e3]
      refine ⟨.lst (ds.filter fun x => !numB x 1 n) :: t ++ [.lst []], ?_⟩
      have ha' : ds.all (fun x => numB x 1 n) = false := by simpa using ha
      simp only [SR.toR, placesB, ha', Bool.false_and]
      simp
  | _ =>
    rw [isTy_tup hk] at e1
    rw [a_sSeqR (d := .bl false) (s := st) (by simp [e1, asB])]
    exact ⟨[], by simp [SR.toR, placesB]⟩
end K00
end Fn
end
section
set_option Elab.async false
set_option linter.all false
set_option maxRecDepth 100000
set_option maxHeartbeats 4000000
namespace Fn
namespace K00
open PySem PySem.Spec PyProof.Rows L2 LamX
/-! ### words by places -/
def inI (ns : List Int) (i : Int) : Bool := inV (.int i) (ns.map V.int)
theorem toVs_ints : ∀ ns : List Int, toVs (ns.map D.int) = some (ns.map V.int)
  | [] => rfl
  | n :: ns => by
    rw [List.map_cons, toVs, toV, toVs_ints ns]
    rfl
theorem in_ints {ns : List Int} {i : Int} {st : Sto} : gIn false (.int i) (.tup (ns.map .int)) st = .ok (.bl (inI ns i)) st := by
  unfold gIn
  split
  · rename_i h; cases h
  · simp only [toV, seqD, Option.bind_some, toVs_ints]
    rfl
/-- the k-th sign -/
def signAt (ns : List Int) (d : D) : Str := match d with
  | .int k => if inI ns (k + 1) = true then "1" else "0"
  | _ => ""
def told (ns : List Int) (n : Nat) : Str := Txt.join "" ((rngD 0 n).map (signAt ns))
theorem strsD_map {α : Type} (f : α → Str) : ∀ l : List α, strsD (l.map fun x => D.str (f x)) = some (l.map f)
  | [] => rfl
  | x :: l => by
    rw [List.map_cons, strsD, strsD_map f l]
    rfl
theorem sign_len {ns : List Int} {d : D} : (signAt ns d).length ≤ 1 := by
  unfold signAt
  split
  · split <;> decide
  · decide
theorem sum_le {ns : List Int} : ∀ l : List D, ((l.map (signAt ns)).map (·.length)).sum ≤ l.length
  | [] => by simp
  | d :: l => by
    have := sign_len (ns := ns) (d := d)
    have := sum_le (ns := ns) l
    simp only [List.map_cons, List.sum_cons, List.length_cons]
    omega
theorem join_mid {s t : Sto} {ns : List Int} {l : List D} (h : l.length ≤ 16777216) : gJoin (.str "") [.ref s.length] (s ++ .lst (l.map fun d => .str (signAt ns d)) :: t) = .ok (.str (Txt.join "" (l.map (signAt ns)))) (s ++ .lst (l.map fun d => .str (signAt ns d)) :: t) := by
  unfold gJoin
  dsimp only
  rw [seq_mid, Option.bind_some, strsD_map]
  dsimp only
  have e : ("" : Str).length = 0 := by decide
  have := sum_le (ns := ns) l
  rw [if_pos (by rw [e]; omega)]
/-- ''.join([.. for k in range(n)]) -/
theorem word_told_yl {ns : List Int} {n : Nat} {st : Sto} (hn : n ≤ 1000) : Yl (G_word_told [.tup (ns.map .int), .int n] st) st (.str (told ns n)) := by
  obtain ⟨t, e⟩ := lc_map (own := [2]) (fi := dIt gRange1 (aCons (dVar 1) aNil)) (env := ev0 N_word_told [.tup (ns.map .int), .int n]) (st := st) (st1 := st) (it := ⟨rngD 0 n, []⟩) (tg := .nm 2) (elt := dIf (dB (d2 (gIn false) (d2 gAdd (dVar 2) (dC (.int 1))) (dVar 0))) (dC (.str "1")) (dC (.str "0")))
    (by
      have hr : aCons (dVar 1) aNil (ev0 N_word_told [.tup (ns.map .int), .int n]) st = .ok [.int n] st := rfl
      unfold dIt
      rw [hr, R.bind_ok, range1_eq (by omega)]) (by intro q hq; cases hq) (fun d => .str (signAt ns d)) (by
      have hN : lineN = 16777216 := by decide
      simp [rngD]; omega) fun d hd => by
    obtain ⟨k, hk, rfl⟩ := rng_mem hd
    refine ⟨[some (.tup (ns.map .int)), some (.int n), some (.int k)], rfl, fun s _ => .of_eq ?_⟩
    have e1 : d2 (gIn false) (d2 gAdd (dVar 2) (dC (.int 1))) (dVar 0) [some (.tup (ns.map .int)), some (.int n), some (.int k)] s = .ok (.bl (inI ns (k + 1))) s := in_ints
    simp only [a_dIf, a_dB, e1, R.bind_ok, asB, signAt]
    cases inI ns (k + 1) <;> simp
  unfold G_word_told fb_word_told
  refine ⟨.lst ((rngD 0 n).map fun d => .str (signAt ns d)) :: t, ?_⟩
  have hl : (rngD 0 n).length ≤ 16777216 := by simp [rngD]; omega
  have ej := join_mid (s := st) (t := t) (ns := ns) hl
  have e6 : dM "str" gJoin (dC (.str "")) (aCons (dLc [2] (dIt gRange1 (aCons (dVar 1) aNil)) (.nm 2) bYes (dIf (dB (d2 (gIn false) (d2 gAdd (dVar 2) (dC (.int 1))) (dVar 0))) (dC (.str "1")) (dC (.str "0")))) aNil) (ev0 N_word_told [.tup (ns.map .int), .int n]) st = .ok (.str (told ns n)) (st ++ .lst ((rngD 0 n).map fun d => .str (signAt ns d)) :: t) := by
    rw [a_dM, a_dC, R.bind_ok, if_pos (show tyB "str" (.str "") st = true from rfl), a_aCons, e, R.bind_ok, a_aNil, R.bind_ok, R.bind_ok, ej]
    rfl
  rw [a_sRet, e6, R.into_ok, SR.toR]
theorem all_ints : ∀ {ds : List D}, ds.all isInt = true → ∃ ns : List Int, ds = ns.map .int
  | [], _ => ⟨[], rfl⟩
  | d :: ds, h => by
    rw [List.all_cons, Bool.and_eq_true] at h
    obtain ⟨ns, rfl⟩ := all_ints h.2
    cases d with
    | int i => exact ⟨i :: ns, rfl⟩
    | _ => cases h.1
theorem intsD_map : ∀ ns : List Int, intsD (ns.map .int) = some ns
  | [] => rfl
  | n :: ns => by
    rw [List.map_cons, intsD, intsD_map ns]
    rfl
theorem max_tup {ns : List Int} {n : Int} {st : Sto} : gMaxS [.tup ((n :: ns).map .int)] st = .ok (.int (maxI (n :: ns))) st := by
  unfold gMaxS
  dsimp only [seqD, Option.bind_some]
  rw [intsD_map]
/-- what word_of does: it raises, or it tells -/
theorem word_of_places {d x : D} {st : Sto} (h : Nice d st) (hi : ∀ ds, d = .tup ds → ds.length ≤ lineN ∧ ∀ x ∈ ds, ∃ k, tyName x st = some k) (hp : placesB d 24 = false) : Rx (G_word_of [d, x] st) st "BadPlaces" := by
  obtain ⟨t, e⟩ := are_places_yl (n := 24) h hi
  refine ⟨t, ?_⟩
  have v : ∀ s, dVar 0 (ev0 N_word_of [d, x]) s = .ok d s := fun _ => rfl
  have e2 : (sIf (bNot (dB (dCall G_are_places (aCons (dVar 0) (aCons (dC cv_MOST) aNil))))) (sRaise "BadPlaces" (dVar 0)) sNil) (ev0 N_word_of [d, x]) st = .exc (ev0 N_word_of [d, x]) ⟨"BadPlaces", []⟩ (st ++ t) := by
    have e' : G_are_places [d, cv_MOST] st = .ok (.bl (placesB d 24)) (st ++ t) := e
    simp [v, e', hp, asB]
  unfold G_word_of fb_word_of
  rw [a_sSeqX e2]
  rfl
theorem places_tup {d : D} {n : Int} (h : placesB d n = true) : ∃ ns : List Int, d = .tup (ns.map .int) ∧ (∀ i ∈ ns, 1 ≤ i ∧ i ≤ n) := by
  cases d with
  | tup ds =>
    simp only [placesB, Bool.and_eq_true] at h
    obtain ⟨h1, _⟩ := h
    have hint : ds.all isInt = true := by
      rw [List.all_eq_true] at h1 ⊢
      exact fun x hx => numB_int (h1 x hx)
    obtain ⟨ns, rfl⟩ := all_ints hint
    refine ⟨ns, rfl, fun i hi => ?_⟩
    rw [List.all_eq_true] at h1
    have := h1 (.int i) (List.mem_map.mpr ⟨i, hi, rfl⟩)
    simpa [numB] using this
  | _ => cases h
theorem word_of_start {ns : List Int} {x : D} {st t : Sto} (hl : ns.length + 1 ≤ lineN) (e : G_are_places [.tup (ns.map .int), .int 24] st = .ok (.bl true) (st ++ t)) {k : String} (hx : tyName x st = some k) :
    G_word_of [.tup (ns.map .int), x] st = if numB x (maxI (0 :: ns)) 24 = true then (G_word_told [.tup (ns.map .int), x] (st ++ t)) else .exc ⟨"BadMany", []⟩ (st ++ t) := by
  have v : ∀ s, dVar 0 (ev0 N_word_of [.tup (ns.map .int), x]) s = .ok (.tup (ns.map .int)) s := fun _ => rfl
  have v1 : ∀ s, dVar 1 (ev0 N_word_of [.tup (ns.map .int), x]) s = .ok x s := fun _ => rfl
  have e2 : (sIf (bNot (dB (dCall G_are_places (aCons (dVar 0) (aCons (dC cv_MOST) aNil))))) (sRaise "BadPlaces" (dVar 0)) sNil) (ev0 N_word_of [.tup (ns.map .int), x]) st = .next (ev0 N_word_of [.tup (ns.map .int), x]) (st ++ t) := by
    have e' : G_are_places [.tup (ns.map .int), cv_MOST] st = .ok (.bl true) (st ++ t) := e
    simp [v, e', asB]
  have e3 : dCall gMaxS (aCons (d2 gAdd (dTup (aCons (dC (.int 0)) aNil)) (dVar 0)) aNil) (ev0 N_word_of [.tup (ns.map .int), x]) (st ++ t) = .ok (.int (maxI (0 :: ns))) (st ++ t) := by
    have q1 : (1 : Nat) ≤ lineN := by decide
    simp only [a_dCall, a_aCons, a_d2, a_dTup, a_dC, a_aNil, R.bind_ok, List.length_cons, List.length_nil, v]
    rw [if_pos (by omega), R.bind_ok]
    show ((if [D.int 0].length + (ns.map D.int).length ≤ lineN then R.ok (D.tup ([D.int 0] ++ ns.map D.int)) (st ++ t) else .bad).bind _).bind _ = _
    rw [if_pos (by simp; omega), R.bind_ok, R.bind_ok]
    exact max_tup (n := 0)
  have e4 : G_is_number [x, .int (maxI (0 :: ns)), cv_MOST] (st ++ t) = .ok (.bl (numB x (maxI (0 :: ns)) 24)) (st ++ t) := is_number_eq (tyName_ext hx t)
  have e5 : (sIf (bNot (dB (dCall G_is_number (aCons (dVar 1) (aCons (dCall gMaxS (aCons (d2 gAdd (dTup (aCons (dC (.int 0)) aNil)) (dVar 0)) aNil)) (aCons (dC cv_MOST) aNil)))))) (sRaise "BadMany" (dVar 1)) sNil) (ev0 N_word_of [.tup (ns.map .int), x]) (st ++ t) =
      if numB x (maxI (0 :: ns)) 24 = true then .next (ev0 N_word_of [.tup (ns.map .int), x]) (st ++ t) else .exc (ev0 N_word_of [.tup (ns.map .int), x]) ⟨"BadMany", []⟩ (st ++ t) := by
    have e6 : dCall G_is_number (aCons (dVar 1) (aCons (dCall gMaxS (aCons (d2 gAdd (dTup (aCons (dC (.int 0)) aNil)) (dVar 0)) aNil)) (aCons (dC cv_MOST) aNil))) (ev0 N_word_of [.tup (ns.map .int), x]) (st ++ t) = .ok (.bl (numB x (maxI (0 :: ns)) 24)) (st ++ t) := by
      rw [a_dCall, a_aCons, v1, R.bind_ok, a_aCons, e3, R.bind_ok, a_aCons, a_dC, R.bind_ok, a_aNil, R.bind_ok, R.bind_ok, R.bind_ok]
      exact e4
    rw [a_sIf, a_bNot, a_dB, e6]
    cases numB x (maxI (0 :: ns)) 24 <;> simp [asB, v1]
  unfold G_word_of fb_word_of
  rw [a_sSeq e2]
  by_cases hn : numB x (maxI (0 :: ns)) 24 = true
  · rw [if_pos hn] at e5 ⊢
    rw [a_sSeq e5]
    simp only [a_sRet, a_dCall, a_aCons, v, v1, R.bind_ok, a_aNil]
    cases G_word_told [.tup (ns.map .int), x] (st ++ t) <;> rfl
  · rw [if_neg hn] at e5 ⊢
    rw [a_sSeqX e5]
    rfl
theorem is_word_no {d x : D} {st : Sto} {k : String} (hx : tyName x st = some k) (h : numB x 0 24 = false) : Rx (G_is_word [d, x] st) st "BadMany" := by
  refine ⟨[], ?_⟩
  have v : ∀ s, dVar 1 (ev0 N_is_word [d, x]) s = .ok x s := fun _ => rfl
  have e' : G_is_number [x, .int 0, cv_MOST] st = .ok (.bl (numB x 0 24)) st := is_number_eq hx
  have e2 : (sIf (bNot (dB (dCall G_is_number (aCons (dVar 1) (aCons (dC (.int 0)) (aCons (dC cv_MOST) aNil)))))) (sRaise "BadMany" (dVar 1)) sNil) (ev0 N_is_word [d, x]) st = .exc (ev0 N_is_word [d, x]) ⟨"BadMany", []⟩ st := by
    simp [v, e', h, asB]
  unfold G_is_word fb_is_word
  rw [a_sSeqX e2, List.append_nil]
  rfl
theorem is_word_yl {d : D} {n : Int} {st : Sto} (hd : Nice d st) (h : 0 ≤ n ∧ n ≤ 24) : Yl (G_is_word [d, .int n] st) st (.bl (wordB d n)) := by
  have v0 : ∀ s, dVar 0 (ev0 N_is_word [d, .int n]) s = .ok d s := fun _ => rfl
  have v : ∀ s, dVar 1 (ev0 N_is_word [d, .int n]) s = .ok (.int n) s := fun _ => rfl
  have e' : G_is_number [.int n, .int 0, cv_MOST] st = .ok (.bl (numB (.int n) 0 24)) st := is_number_eq (d := .int n) rfl
  have hn : numB (.int n) 0 24 = true := by simp [numB, h.1, h.2]
  have e2 : (sIf (bNot (dB (dCall G_is_number (aCons (dVar 1) (aCons (dC (.int 0)) (aCons (dC cv_MOST) aNil)))))) (sRaise "BadMany" (dVar 1)) sNil) (ev0 N_is_word [d, .int n]) st = .next (ev0 N_is_word [d, .int n]) st := by
    simp [v, e', hn, asB]
  obtain ⟨t, e3⟩ := is_word_of_yl (n := n) hd
  unfold G_is_word fb_is_word
  rw [a_sSeq e2]
  exact ⟨t, by simp [v0, v, e3, SR.toR]⟩
end K00
end Fn
end
section
set_option Elab.async false
set_option linter.all false
set_option maxRecDepth 100000
set_option maxHeartbeats 4000000
namespace Fn
namespace K00
open PySem PySem.Spec PyProof.Rows L2 LamX
/-! ### the draw: the list of large ones at 0, its dict at 1, the cells at 2 -/
def drK (r t : Int) : List (Key × D) := [(.inr "large", .ref 0), (.inr "cells", .ref 2), (.inr "rest", .int r), (.inr "turn", .int t)]
/-- the draw stands, at most n turns of it -/
structure Dr (n : Nat) (s : Sto) : Prop where
  ex : ∃ (L C : List Int) (r t : Int), s[0]? = some (.lst (L.map .int)) ∧ s[1]? = some (.dict (drK r t)) ∧ s[2]? = some (.lst (C.map .int)) ∧ 0 ≤ t ∧ t ≤ n
/-- all else stands as before -/
structure Fr (s s' : Sto) : Prop where
  len : s.length ≤ s'.length
  at_ : ∀ j o, 3 ≤ j → s[j]? = some o → s'[j]? = some o
theorem Fr.refl (s : Sto) : Fr s s := ⟨Nat.le_refl _, fun _ _ _ h => h⟩
theorem Fr.trans {s s1 s2 : Sto} (a : Fr s s1) (b : Fr s1 s2) : Fr s s2 := ⟨Nat.le_trans a.len b.len, fun j o h e => b.at_ j o h (a.at_ j o h e)⟩
theorem Fr.ext (s t : Sto) : Fr s (s ++ t) := ⟨by simp, fun j o _ e => get_ext t e⟩
theorem Dr.ext {n : Nat} {s : Sto} (h : Dr n s) (t : Sto) : Dr n (s ++ t) := by
  obtain ⟨L, C, r, q, h0, h1, h2, k⟩ := h.ex
  exact ⟨L, C, r, q, get_ext t h0, get_ext t h1, get_ext t h2, k⟩
theorem Dr.mono {n m : Nat} {s : Sto} (h : Dr n s) (k : n ≤ m) : Dr m s := by
  obtain ⟨L, C, r, q, h0, h1, h2, h3, h4⟩ := h.ex
  exact ⟨L, C, r, q, h0, h1, h2, h3, by omega⟩
theorem k_rest (r t : Int) : valD (drK r t) (.inr "rest") = some (.int r) := by
  have e1 : ("large" : Str) ≠ "rest" := by decide
  have e2 : ("cells" : Str) ≠ "rest" := by decide
  simp [valD, drK, e1, e2]
theorem k_turn (r t : Int) : valD (drK r t) (.inr "turn") = some (.int t) := by
  have e1 : ("large" : Str) ≠ "turn" := by decide
  have e2 : ("cells" : Str) ≠ "turn" := by decide
  have e3 : ("rest" : Str) ≠ "turn" := by decide
  simp [valD, drK, e1, e2, e3]
theorem k_large (r t : Int) : valD (drK r t) (.inr "large") = some (.ref 0) := by simp [valD, drK]
theorem k_cells (r t : Int) : valD (drK r t) (.inr "cells") = some (.ref 2) := by
  have e1 : ("large" : Str) ≠ "cells" := by decide
  simp [valD, drK, e1]
theorem p_rest (r t x : Int) : putD (drK r t) (.inr "rest") (.int x) = drK x t := by
  have e1 : ("large" : Str) ≠ "rest" := by decide
  have e2 : ("cells" : Str) ≠ "rest" := by decide
  have e3 : ("turn" : Str) ≠ "rest" := by decide
  simp [putD, drK, e1, e2, e3]
theorem p_turn (r t x : Int) : putD (drK r t) (.inr "turn") (.int x) = drK r x := by
  have e1 : ("large" : Str) ≠ "turn" := by decide
  have e2 : ("cells" : Str) ≠ "turn" := by decide
  have e3 : ("rest" : Str) ≠ "turn" := by decide
  simp [putD, drK, e1, e2, e3]
theorem ix_dr {s : Sto} {r t : Int} {k : Str} {d : D} (h : s[1]? = some (.dict (drK r t))) (e : valD (drK r t) (.inr k) = some d) : gIx (.ref 1) (.str k) s = .ok d s := by
  unfold gIx
  dsimp only
  rw [h]
  dsimp only [keyD, Option.bind_some]
  rw [e]
theorem set_dr {s : Sto} {r t : Int} {k : Str} {v : D} {kvs : List (Key × D)} (h : s[1]? = some (.dict (drK r t))) (e : putD (drK r t) (.inr k) v = kvs) : gSetI (.ref 1) (.str k) v s = .ok () (s.set 1 (.dict kvs)) := by
  have hN : (4 : Nat) < lineN := by decide
  unfold gSetI
  dsimp only
  rw [h]
  dsimp only [keyD]
  rw [e, if_pos (show (drK r t).length < lineN from hN)]
theorem Fr.set {s : Sto} {i : Nat} (hi : i < 3) (o : O) : Fr s (s.set i o) := ⟨by simp, fun j o' hj e => by rw [List.getElem?_set_ne (by omega)]; exact e⟩
theorem log_lt {i : Int} {k : Nat} (h : i.natAbs < 2 ^ k) (hk : 0 < k) : i.natAbs.log2 < k := by
  by_cases e : i.natAbs = 0
  · rw [e]
    exact hk
  · exact (Nat.log2_lt e).mpr h
theorem mul_ok {i j : Int} {st : Sto} (hi : i.natAbs < 2 ^ 200) (hj : j.natAbs < 2 ^ 200) : gMul (.int i) (.int j) st = .ok (.int (i * j)) st := by
  have h1 := log_lt hi (by decide)
  have h2 := log_lt hj (by decide)
  show (if i.natAbs.log2 + j.natAbs.log2 < 1000000 then R.ok (D.int (i * j)) st else .bad) = _
  rw [if_pos (by omega)]
theorem mod_ok {i j : Int} {st : Sto} (h : 0 < j) : gMod (.int i) (.int j) st = .ok (.int (i % j)) st := by
  unfold gMod gInt
  dsimp only
  rw [if_pos (decide_eq_true h)]
theorem fdiv_ok {i j : Int} {st : Sto} (h : 0 < j) (hj : j.natAbs < 2 ^ 200) : gFdiv (.int i) (.int j) st = .ok (.int (i / j)) st := by
  have h2 := log_lt hj (by decide)
  have e : cDiv i j = true := by
    unfold cDiv
    rw [decide_eq_true h, decide_eq_true (show j.natAbs.log2 < 9000 by omega)]
    rfl
  unfold gFdiv gInt
  dsimp only
  rw [if_pos e]
theorem pow5_ok {i : Int} {st : Sto} (h : i.natAbs < 2 ^ 64) : gPow (.int i) (.int 5) st = .ok (.int (i ^ 5)) st := by
  have e : cPow i 5 = true := by
    unfold cPow
    rw [decide_eq_true h]
    rfl
  unfold gPow gInt
  dsimp only
  rw [if_pos e]
  rfl
/-- one prime's blend of the cells -/
theorem inner_so {S : Sto} {turn p : Int} {a1 a2 : Option D} {live : Sto → Prop} (hlive : live S) (hp : 0 < p ∧ p < 2147483648) (ht : 0 ≤ turn ∧ turn ≤ 1000000) : ∀ (cs : List Int) (b : Int) (x5 : Option D), 0 ≤ b → b < 2 ^ 60 →
    ∃ (b' : Int) (x' : Option D), 0 ≤ b' ∧ b' < 2 ^ 60 ∧ loopS live (.nm 5) (sAsg (d2 gMod (dCall gInt1 (aCons (d2 gAdd (d2 gAdd (d2 gMul (dVar 4) (dC (.int 69621))) (dVar 5)) (dVar 1)) aNil)) (dVar 3)) (.nm 4)) (cs.map .int) [a1, some (.int turn), a2, some (.int p), some (.int b), x5] S = .next [a1, some (.int turn), a2, some (.int p), some (.int b'), x'] S
  | [], b, x5, h1, h2 => ⟨b, x5, h1, h2, by rw [List.map_nil]; unfold loopS; rw [if_pos hlive]⟩
  | c :: cs, b, x5, h1, h2 => by
    have e1 : gMul (.int b) (.int 69621) S = .ok (.int (b * 69621)) S := mul_ok (by omega) (by decide)
    have e2 : sAsg (d2 gMod (dCall gInt1 (aCons (d2 gAdd (d2 gAdd (d2 gMul (dVar 4) (dC (.int 69621))) (dVar 5)) (dVar 1)) aNil)) (dVar 3)) (.nm 4) [a1, some (.int turn), a2, some (.int p), some (.int b), some (.int c)] S = .next [a1, some (.int turn), a2, some (.int p), some (.int ((b * 69621 + c + turn) % p)), some (.int c)] S := by
      have v1 : ∀ s, dVar 1 [a1, some (.int turn), a2, some (.int p), some (.int b), some (.int c)] s = .ok (.int turn) s := fun _ => rfl
      have v3 : ∀ s, dVar 3 [a1, some (.int turn), a2, some (.int p), some (.int b), some (.int c)] s = .ok (.int p) s := fun _ => rfl
      have v4 : ∀ s, dVar 4 [a1, some (.int turn), a2, some (.int p), some (.int b), some (.int c)] s = .ok (.int b) s := fun _ => rfl
      have v5 : ∀ s, dVar 5 [a1, some (.int turn), a2, some (.int p), some (.int b), some (.int c)] s = .ok (.int c) s := fun _ => rfl
      rw [a_sSet]
      simp only [a_d2, a_dCall, a_aCons, a_aNil, a_dC, v1, v3, v4, v5, R.bind_ok, e1, gAdd, gInt1, mod_ok hp.1, R.into_ok]
      rfl
    have h3 := Int.emod_nonneg (b * 69621 + c + turn) (show p ≠ 0 by omega)
    have h4 := Int.emod_lt_of_pos (b * 69621 + c + turn) hp.1
    obtain ⟨b', x', h5, h6, h7⟩ := inner_so (S := S) (turn := turn) (a1 := a1) (a2 := a2) hlive hp ht cs ((b * 69621 + c + turn) % p) (some (.int c)) h3 (by omega)
    refine ⟨b', x', h5, h6, ?_⟩
    rw [List.map_cons]
    unfold loopS
    rw [if_pos hlive]
    show (match sAsg _ (.nm 4) [a1, some (.int turn), a2, some (.int p), some (.int b), some (.int c)] S with
      | .next e s => loopS live (.nm 5) _ (cs.map .int) e s
      | .cnt e s => loopS live (.nm 5) _ (cs.map .int) e s
      | .brk e s => .next e s
      | r => r) = _
    rw [e2]
    exact h7
end K00
end Fn
end
section
set_option Elab.async false
set_option linter.all false
set_option maxRecDepth 100000
set_option maxHeartbeats 4000000
namespace Fn
namespace K00
open PySem PySem.Spec PyProof.Rows L2 LamX
noncomputable def bodyP : DS := (sSeq (sAsg (d2 gAdd (d2 gMul (dC (.int 48271)) (dVar 1)) (d2 gFdiv (dVar 3) (dC (.int 37)))) (.nm 4))
 (sSeq (sFor (dIter (d2 gIx (dVar 0) (dC (.str "cells")))) (.nm 5) (sAsg (d2 gMod (dCall gInt1 (aCons (d2 gAdd (d2 gAdd (d2 gMul (dVar 4) (dC (.int 69621))) (dVar 5)) (dVar 1)) aNil)) (dVar 3)) (.nm 4)))
 (sAsg (d2 gAdd (d2 gMul (dVar 2) (dC (.int 2147483647))) (d2 gMod (dCall gInt1 (aCons (d2 gPow (dVar 4) (dC (.int 5))) aNil)) (dVar 3))) (.nm 2))))
theorem bodyP_eq {S : Sto} {turn p b r t : Int} {C : List Int} {x4 x5 : Option D} (h1 : S[1]? = some (.dict (drK r t))) (h2 : S[2]? = some (.lst (C.map .int))) (hp : 0 < p ∧ p < 2147483648) (ht : 0 ≤ turn ∧ turn ≤ 1000000) (hb : 0 ≤ b ∧ b < 2 ^ 190) :
    ∃ (b' : Int) (x' y' : Option D), 0 ≤ b' ∧ b' ≤ b * 2147483647 + 2147483648 ∧ bodyP [some (.ref 1), some (.int turn), some (.int b), some (.int p), x4, x5] S = .next [some (.ref 1), some (.int turn), some (.int b'), some (.int p), x', y'] S := by
  have e1 : gMul (.int 48271) (.int turn) S = .ok (.int (48271 * turn)) S := mul_ok (by decide) (by omega)
  have e2 : gFdiv (.int p) (.int 37) S = .ok (.int (p / 37)) S := fdiv_ok (by decide) (by decide)
  have q1 : sAsg (d2 gAdd (d2 gMul (dC (.int 48271)) (dVar 1)) (d2 gFdiv (dVar 3) (dC (.int 37)))) (.nm 4) [some (.ref 1), some (.int turn), some (.int b), some (.int p), x4, x5] S = .next [some (.ref 1), some (.int turn), some (.int b), some (.int p), some (.int (48271 * turn + p / 37)), x5] S := by
    have v1 : ∀ s, dVar 1 [some (.ref 1), some (.int turn), some (.int b), some (.int p), x4, x5] s = .ok (.int turn) s := fun _ => rfl
    have v3 : ∀ s, dVar 3 [some (.ref 1), some (.int turn), some (.int b), some (.int p), x4, x5] s = .ok (.int p) s := fun _ => rfl
    rw [a_sSet]
    simp only [a_d2, a_dC, v1, v3, R.bind_ok, e1, e2, gAdd, R.into_ok]
    rfl
  have hd : 0 ≤ p / 37 ∧ p / 37 ≤ p := ⟨Int.ediv_nonneg (by omega) (by decide), Int.ediv_le_self _ (by omega)⟩
  have q2 : dIter (d2 gIx (dVar 0) (dC (.str "cells"))) [some (.ref 1), some (.int turn), some (.int b), some (.int p), some (.int (48271 * turn + p / 37)), x5] S = .ok ⟨C.map .int, [(2, .lst (C.map .int))]⟩ S := by
    have v0 : ∀ s, dVar 0 [some (.ref 1), some (.int turn), some (.int b), some (.int p), some (.int (48271 * turn + p / 37)), x5] s = .ok (.ref 1) s := fun _ => rfl
    unfold dIter
    simp only [a_d2, a_dC, v0, R.bind_ok, ix_dr h1 (k_cells r t)]
    unfold itD
    dsimp only
    rw [h2]
  obtain ⟨c, x', h3, h4, h5⟩ := inner_so (S := S) (turn := turn) (p := p) (a1 := some (.ref 1)) (a2 := some (.int b)) (live := IT.live ⟨C.map .int, [(2, .lst (C.map .int))]⟩) (by
    intro q hq
    have e : q = (2, .lst (C.map .int)) := by simpa using hq
    rw [e]
    exact h2) hp ht C (48271 * turn + p / 37) x5 (by omega) (by omega)
  have q3 : sFor (dIter (d2 gIx (dVar 0) (dC (.str "cells")))) (.nm 5) (sAsg (d2 gMod (dCall gInt1 (aCons (d2 gAdd (d2 gAdd (d2 gMul (dVar 4) (dC (.int 69621))) (dVar 5)) (dVar 1)) aNil)) (dVar 3)) (.nm 4)) [some (.ref 1), some (.int turn), some (.int b), some (.int p), some (.int (48271 * turn + p / 37)), x5] S = .next [some (.ref 1), some (.int turn), some (.int b), some (.int p), some (.int c), x'] S := by
    unfold sFor
    rw [q2, R.into_ok]
    exact h5
  have e3 : gMul (.int b) (.int 2147483647) S = .ok (.int (b * 2147483647)) S := mul_ok (by omega) (by decide)
  have e4 : gPow (.int c) (.int 5) S = .ok (.int (c ^ 5)) S := pow5_ok (by omega)
  have h6 := Int.emod_nonneg (c ^ 5) (show p ≠ 0 by omega)
  have h7 := Int.emod_lt_of_pos (c ^ 5) hp.1
  have q4 : sAsg (d2 gAdd (d2 gMul (dVar 2) (dC (.int 2147483647))) (d2 gMod (dCall gInt1 (aCons (d2 gPow (dVar 4) (dC (.int 5))) aNil)) (dVar 3))) (.nm 2) [some (.ref 1), some (.int turn), some (.int b), some (.int p), some (.int c), x'] S = .next [some (.ref 1), some (.int turn), some (.int (b * 2147483647 + c ^ 5 % p)), some (.int p), some (.int c), x'] S := by
    have v2 : ∀ s, dVar 2 [some (.ref 1), some (.int turn), some (.int b), some (.int p), some (.int c), x'] s = .ok (.int b) s := fun _ => rfl
    have v3 : ∀ s, dVar 3 [some (.ref 1), some (.int turn), some (.int b), some (.int p), some (.int c), x'] s = .ok (.int p) s := fun _ => rfl
    have v4 : ∀ s, dVar 4 [some (.ref 1), some (.int turn), some (.int b), some (.int p), some (.int c), x'] s = .ok (.int c) s := fun _ => rfl
    rw [a_sSet]
    simp only [a_d2, a_dC, a_dCall, a_aCons, a_aNil, v2, v3, v4, R.bind_ok, e3, e4, gInt1, mod_ok hp.1, gAdd, R.into_ok]
    rfl
  refine ⟨b * 2147483647 + c ^ 5 % p, some (.int c), x', by omega, by omega, ?_⟩
  unfold bodyP
  rw [a_sSeq q1, a_sSeq q3, q4]
theorem outer_so {S : Sto} {turn r t : Int} {C : List Int} {live : Sto → Prop} (hlive : live S) (h1 : S[1]? = some (.dict (drK r t))) (h2 : S[2]? = some (.lst (C.map .int))) (ht : 0 ≤ turn ∧ turn ≤ 1000000) : ∀ (ps : List Int) (k : Nat) (b : Int) (x3 x4 x5 : Option D), (∀ p ∈ ps, 0 < p ∧ p < 2147483648) → ps.length + k ≤ 4 → 0 ≤ b → b ≤ 4294967296 ^ k →
    ∃ (b' : Int) (y3 y4 y5 : Option D), loopS live (.nm 3) bodyP (ps.map .int) [some (.ref 1), some (.int turn), some (.int b), x3, x4, x5] S = .next [some (.ref 1), some (.int turn), some (.int b'), y3, y4, y5] S
  | [], k, b, x3, x4, x5, _, _, _, _ => ⟨b, x3, x4, x5, by rw [List.map_nil]; unfold loopS; rw [if_pos hlive]⟩
  | p :: ps, k, b, x3, x4, x5, hps, hk, hb1, hb2 => by
    have hk' : k = 0 ∨ k = 1 ∨ k = 2 ∨ k = 3 := by simp at hk; omega
    have hb3 : b < 2 ^ 190 := by
      rcases hk' with rfl | rfl | rfl | rfl <;> omega
    obtain ⟨b', x', y', g1, g2, g3⟩ := bodyP_eq (S := S) (turn := turn) (b := b) (x4 := x4) (x5 := x5) h1 h2 (hps p List.mem_cons_self) ht ⟨hb1, hb3⟩
    obtain ⟨b2, y3, y4, y5, g4⟩ := outer_so (S := S) (turn := turn) hlive h1 h2 ht ps (k + 1) b' (some (.int p)) x' y' (fun q hq => hps q (List.mem_cons_of_mem _ hq)) (by simp at hk; omega) g1 (by
      rcases hk' with rfl | rfl | rfl | rfl <;> omega)
    refine ⟨b2, y3, y4, y5, ?_⟩
    rw [List.map_cons]
    unfold loopS
    rw [if_pos hlive]
    show (match bodyP [some (.ref 1), some (.int turn), some (.int b), some (.int p), x4, x5] S with
      | .next e s => loopS live (.nm 3) bodyP (ps.map .int) e s
      | .cnt e s => loopS live (.nm 3) bodyP (ps.map .int) e s
      | .brk e s => .next e s
      | r => r) = _
    rw [g3]
    exact g4
theorem mixed_out {n : Nat} {st : Sto} (h : Dr n st) (hn : n < 1000000) : Out (G__law_mixed [.ref 1] st) (fun d s => ∃ k, d = .int k ∧ Dr (n + 1) s ∧ Fr st s) := by
  obtain ⟨L, C, r, t, h0, h1, h2, h3, h4⟩ := h.ex
  have l1 : 1 < st.length := (List.getElem?_eq_some_iff.mp h1).1
  have q1 : sPar [1, 2] (aCons (d2 gAdd (d2 gIx (dVar 0) (dC (.str "turn"))) (dC (.int 1))) (aCons (dC (.int 0)) aNil)) (ev0 N__law_mixed [.ref 1]) st = .next [some (.ref 1), some (.int (t + 1)), some (.int 0), none, none, none] st := by
    have v0 : ∀ s, dVar 0 (ev0 N__law_mixed [.ref 1]) s = .ok (.ref 1) s := fun _ => rfl
    unfold sPar
    simp only [a_aCons, a_d2, a_dC, a_aNil, v0, R.bind_ok, ix_dr h1 (k_turn r t), gAdd, R.into_ok]
    rfl
  have q2 : sSub (dVar 1) (dVar 0) (dC (.str "turn")) [some (.ref 1), some (.int (t + 1)), some (.int 0), none, none, none] st = .next [some (.ref 1), some (.int (t + 1)), some (.int 0), none, none, none] (st.set 1 (.dict (drK r (t + 1)))) := by
    have v0 : ∀ s, dVar 0 [some (.ref 1), some (.int (t + 1)), some (.int 0), none, none, none] s = .ok (.ref 1) s := fun _ => rfl
    have v1 : ∀ s, dVar 1 [some (.ref 1), some (.int (t + 1)), some (.int 0), none, none, none] s = .ok (.int (t + 1)) s := fun _ => rfl
    unfold sSub
    simp only [v0, v1, a_dC, R.into_ok, set_dr h1 (p_turn r t (t + 1))]
  have g1 : (st.set 1 (.dict (drK r (t + 1))))[1]? = some (.dict (drK r (t + 1))) := List.getElem?_set_self l1
  have g2 : (st.set 1 (.dict (drK r (t + 1))))[2]? = some (.lst (C.map .int)) := by rw [List.getElem?_set_ne (by decide)]; exact h2
  have g0 : (st.set 1 (.dict (drK r (t + 1))))[0]? = some (.lst (L.map .int)) := by rw [List.getElem?_set_ne (by decide)]; exact h0
  obtain ⟨S1, hS1⟩ : ∃ S1, S1 = st.set 1 (.dict (drK r (t + 1))) := ⟨_, rfl⟩
  rw [← hS1] at q2 g0 g1 g2
  have fr1 : Fr st S1 := by rw [hS1]; exact Fr.set (by decide) _
  obtain ⟨b', y3, y4, y5, g4⟩ := outer_so (S := S1 ++ [.lst ([2147483647, 2147483629, 2147483587, 2147483579].map .int)]) (turn := t + 1) (live := IT.live ⟨[2147483647, 2147483629, 2147483587, 2147483579].map .int, [(S1.length, .lst ([2147483647, 2147483629, 2147483587, 2147483579].map .int))]⟩) (by
    intro q hq
    have e : q = (S1.length, .lst ([2147483647, 2147483629, 2147483587, 2147483579].map .int)) := by simpa using hq
    rw [e]
    simp) (get_ext _ g1) (get_ext _ g2) ⟨by omega, by omega⟩ [2147483647, 2147483629, 2147483587, 2147483579] 0 0 none none none (by
      intro p hp
      simp at hp
      omega) (by simp) (by omega) (by omega)
  have q3 : sFor (dIter (dLst (aCons (dC (.int 2147483647)) (aCons (dC (.int 2147483629)) (aCons (dC (.int 2147483587)) (aCons (dC (.int 2147483579)) aNil)))))) (.nm 3) bodyP [some (.ref 1), some (.int (t + 1)), some (.int 0), none, none, none] S1 = .next [some (.ref 1), some (.int (t + 1)), some (.int b'), y3, y4, y5] (S1 ++ [.lst ([2147483647, 2147483629, 2147483587, 2147483579].map .int)]) := by
    have e1 : dIter (dLst (aCons (dC (.int 2147483647)) (aCons (dC (.int 2147483629)) (aCons (dC (.int 2147483587)) (aCons (dC (.int 2147483579)) aNil))))) [some (.ref 1), some (.int (t + 1)), some (.int 0), none, none, none] S1 = .ok ⟨[2147483647, 2147483629, 2147483587, 2147483579].map .int, [(S1.length, .lst ([2147483647, 2147483629, 2147483587, 2147483579].map .int))]⟩ (S1 ++ [.lst ([2147483647, 2147483629, 2147483587, 2147483579].map .int)]) := by
      have hN : (4 : Nat) ≤ lineN := by decide
      unfold dIter
      simp only [a_dLst, a_aCons, a_dC, a_aNil, R.bind_ok, List.length_cons, List.length_nil]
      rw [if_pos (by omega), R.bind_ok]
      unfold itD
      simp
    unfold sFor
    rw [e1, R.into_ok]
    exact g4
  unfold G__law_mixed fb__law_mixed
  have e : ∀ env s, (sSeq (sFor (dIter (dLst (aCons (dC (.int 2147483647)) (aCons (dC (.int 2147483629)) (aCons (dC (.int 2147483587)) (aCons (dC (.int 2147483579)) aNil)))))) (.nm 3) bodyP) (sRet (dVar 2))) env s = (sSeq (sFor (dIter (dLst (aCons (dC (.int 2147483647)) (aCons (dC (.int 2147483629)) (aCons (dC (.int 2147483587)) (aCons (dC (.int 2147483579)) aNil)))))) (.nm 3) (sSeq (sAsg (d2 gAdd (d2 gMul (dC (.int 48271)) (dVar 1)) (d2 gFdiv (dVar 3) (dC (.int 37)))) (.nm 4))
 (sSeq (sFor (dIter (d2 gIx (dVar 0) (dC (.str "cells")))) (.nm 5) (sAsg (d2 gMod (dCall gInt1 (aCons (d2 gAdd (d2 gAdd (d2 gMul (dVar 4) (dC (.int 69621))) (dVar 5)) (dVar 1)) aNil)) (dVar 3)) (.nm 4)))
 (sAsg (d2 gAdd (d2 gMul (dVar 2) (dC (.int 2147483647))) (d2 gMod (dCall gInt1 (aCons (d2 gPow (dVar 4) (dC (.int 5))) aNil)) (dVar 3))) (.nm 2))))) (sRet (dVar 2))) env s := fun _ _ => rfl
  rw [a_sSeq q1, a_sSeq q2, ← e, a_sSeq q3]
  refine ⟨b', rfl, ⟨L, C, r, t + 1, get_ext _ g0, get_ext _ g1, get_ext _ g2, by omega, by omega⟩, fr1.trans (Fr.ext _ _)⟩
end K00
end Fn
end
section
set_option Elab.async false
set_option linter.all false
set_option maxRecDepth 100000
set_option maxHeartbeats 4000000
namespace Fn
namespace K00
open PySem PySem.Spec PyProof.Rows L2 LamX
theorem eqv_nilI {st : Sto} {i j : Nat} {L : List Int} (hi : st[i]? = some (O.lst (L.map D.int))) (hj : st[j]? = some (.lst [])) : gEqW true (.ref i) (.ref j) st = .ok (.bl (!L.isEmpty)) st := by
  rw [eq_nil (neg := true) hi hj (by
    rw [List.all_eq_true]
    intro x hx
    obtain ⟨_, _, rfl⟩ := List.mem_map.mp hx
    rfl)]
  have : (L.map D.int).isEmpty = L.isEmpty := by cases L <;> rfl
  rw [this]
  rfl
theorem pop_ok {st : Sto} {i : Nat} {x : Int} {L : List Int} (hi : st[i]? = some (.lst ((x :: L).map .int))) : gPopAt (.ref i) [.int 0] st = .ok (.int x) (st.set i (O.lst (L.map D.int))) := by
  unfold gPopAt
  dsimp only
  rw [if_pos ⟨by decide, by decide⟩]
  unfold onL
  dsimp only
  rw [hi]
  have e : seqIndex? 0 ((x :: L).map D.int).length = some 0 := by
    unfold seqIndex?
    simp
  dsimp only
  rw [e]
  rfl
/-- _law_take: a number below many; one turn more at most -/
theorem take_out {n : Nat} {st : Sto} {many : Int} (h : Dr n st) (hn : n < 1000000) (hm : 0 < many ∧ many.natAbs < 2 ^ 200) : Out (G__law_take [.ref 1, .int many] st) (fun d s => ∃ k, d = .int k ∧ 0 ≤ k ∧ k < many ∧ Dr (n + 1) s ∧ Fr st s) := by
  obtain ⟨L, C, r, t, h0, h1, h2, h3, h4⟩ := h.ex
  have v0 : ∀ x s, dVar 0 [some (.ref 1), some (.int many), x] s = .ok (.ref 1) s := fun _ _ => rfl
  have v1 : ∀ x s, dVar 1 [some (.ref 1), some (.int many), x] s = .ok (.int many) s := fun _ _ => rfl
  -- the first statement: rest is filled
  have A : ∃ s1, (sIf (dB (d2 (gEqW false) (d2 gIx (dVar 0) (dC (.str "rest"))) (dC (.int 0)))) (sSub (dIf (dB (d2 (gEqW true) (d2 gIx (dVar 0) (dC (.str "large"))) (dLst aNil))) (dM "list" gPopAt (d2 gIx (dVar 0) (dC (.str "large"))) (aCons (dC (.int 0)) aNil)) (dCall G__law_mixed (aCons (dVar 0) aNil))) (dVar 0) (dC (.str "rest"))) sNil) (ev0 N__law_take [.ref 1, .int many]) st = .next (ev0 N__law_take [.ref 1, .int many]) s1 ∧ Dr (n + 1) s1 ∧ Fr st s1 := by
    have e0 : ev0 N__law_take [.ref 1, .int many] = [some (.ref 1), some (.int many), none] := rfl
    rw [e0]
    have e1 : dB (d2 (gEqW false) (d2 gIx (dVar 0) (dC (.str "rest"))) (dC (.int 0))) [some (.ref 1), some (.int many), none] st = .ok (decide (r = 0)) st := by
      simp only [a_dB, a_d2, a_dC, v0, R.bind_ok, ix_dr h1 (k_rest r t), eqv_int, asB]
    rw [a_sIf, e1, R.into_ok]
    by_cases hr : r = 0
    · rw [decide_eq_true hr, if_pos rfl]
      have e2 : dB (d2 (gEqW true) (d2 gIx (dVar 0) (dC (.str "large"))) (dLst aNil)) [some (.ref 1), some (.int many), none] st = .ok (!L.isEmpty) (st ++ [O.lst []]) := by
        have q : dLst aNil [some (.ref 1), some (.int many), none] st = .ok (.ref st.length) (st ++ [O.lst []]) := rfl
        simp only [a_dB, a_d2, a_dC, v0, R.bind_ok, ix_dr h1 (k_large r t), q, eqv_nilI (get_ext _ h0) get_mid, asB]
      have g1 := get_ext [.lst []] h1
      have g0 := get_ext [.lst []] h0
      have g2 := get_ext [.lst []] h2
      cases L with
      | nil =>
        have D1 : Dr n (st ++ [O.lst []]) := h.ext _
        obtain ⟨d, s2, e3, k, rfl, D2, F2⟩ := (mixed_out D1 hn).ex
        obtain ⟨L', C', r', t', j0, j1, j2, j3, j4⟩ := D2.ex
        have l1 : 1 < s2.length := (List.getElem?_eq_some_iff.mp j1).1
        refine ⟨s2.set 1 (.dict (drK k t')), ?_, ⟨L', C', k, t', by rw [List.getElem?_set_ne (by decide)]; exact j0, List.getElem?_set_self l1, by rw [List.getElem?_set_ne (by decide)]; exact j2, j3, j4⟩, (Fr.ext _ _).trans (F2.trans (Fr.set (by decide) _))⟩
        unfold sSub
        rw [a_dIf, e2, R.bind_ok]
        simp only [List.isEmpty_nil, Bool.not_true, Bool.false_eq_true, if_false, a_dCall, a_aCons, a_aNil, v0, R.bind_ok, e3, R.into_ok, a_dC, set_dr j1 (p_rest r' t' k)]
      | cons x L =>
        have e3 : dM "list" gPopAt (d2 gIx (dVar 0) (dC (.str "large"))) (aCons (dC (.int 0)) aNil) [some (.ref 1), some (.int many), none] (st ++ [O.lst []]) = .ok (.int x) ((st ++ [O.lst []]).set 0 (O.lst (L.map D.int))) := by
          have ty : tyB "list" (.ref 0) (st ++ [O.lst []]) = true := by
            unfold tyB
            dsimp only
            rw [g0]
            rfl
          simp only [a_dM, a_d2, a_dC, v0, R.bind_ok, ix_dr g1 (k_large r t), a_aCons, a_aNil]
          rw [if_pos ty, pop_ok g0]
        have l0 : 0 < (st ++ [O.lst []]).length := (List.getElem?_eq_some_iff.mp g0).1
        have j1 : ((st ++ [O.lst []]).set 0 (O.lst (L.map D.int)))[1]? = some (.dict (drK r t)) := by rw [List.getElem?_set_ne (by decide)]; exact g1
        have l1 : 1 < ((st ++ [O.lst []]).set 0 (O.lst (L.map D.int))).length := (List.getElem?_eq_some_iff.mp j1).1
        refine ⟨((st ++ [O.lst []]).set 0 (O.lst (L.map D.int))).set 1 (.dict (drK x t)), ?_, ⟨L, C, x, t, by rw [List.getElem?_set_ne (by decide)]; exact List.getElem?_set_self l0, List.getElem?_set_self l1, by rw [List.getElem?_set_ne (by decide), List.getElem?_set_ne (by decide)]; exact g2, h3, by omega⟩, (Fr.ext _ _).trans ((Fr.set (by decide) _).trans (Fr.set (by decide) _))⟩
        unfold sSub
        rw [a_dIf, e2, R.bind_ok]
        simp only [List.isEmpty_cons, Bool.not_false, if_true, e3, v0, R.into_ok, a_dC, set_dr j1 (p_rest r t x)]
    · rw [decide_eq_false hr, if_neg Bool.false_ne_true]
      exact ⟨st, rfl, h.mono (Nat.le_succ n), Fr.refl st⟩
  obtain ⟨s1, e1, D1, F1⟩ := A
  obtain ⟨L', C', r', t', j0, j1, j2, j3, j4⟩ := D1.ex
  have l1 : 1 < s1.length := (List.getElem?_eq_some_iff.mp j1).1
  have k1 := Int.emod_nonneg r' (show many ≠ 0 by omega)
  have k2 := Int.emod_lt_of_pos r' hm.1
  have e0 : ev0 N__law_take [.ref 1, .int many] = [some (.ref 1), some (.int many), none] := rfl
  have e2 : sAsg (d2 gMod (dCall gInt1 (aCons (d2 gIx (dVar 0) (dC (.str "rest"))) aNil)) (dVar 1)) (.nm 2) (ev0 N__law_take [.ref 1, .int many]) s1 = .next [some (.ref 1), some (.int many), some (.int (r' % many))] s1 := by
    rw [e0]
    simp only [a_sSet, a_d2, a_dCall, a_aCons, a_aNil, a_dC, v0, v1, R.bind_ok, ix_dr j1 (k_rest r' t'), gInt1, mod_ok hm.1, R.into_ok]
    rfl
  have e3 : sSub (d2 gFdiv (dCall gInt1 (aCons (d2 gIx (dVar 0) (dC (.str "rest"))) aNil)) (dVar 1)) (dVar 0) (dC (.str "rest")) [some (.ref 1), some (.int many), some (.int (r' % many))] s1 = .next [some (.ref 1), some (.int many), some (.int (r' % many))] (s1.set 1 (.dict (drK (r' / many) t'))) := by
    unfold sSub
    simp only [a_d2, a_dCall, a_aCons, a_aNil, a_dC, v0, v1, R.bind_ok, ix_dr j1 (k_rest r' t'), gInt1, fdiv_ok hm.1 hm.2, R.into_ok, set_dr j1 (p_rest r' t' (r' / many))]
  unfold G__law_take fb__law_take
  rw [a_sSeq e1, a_sSeq e2, a_sSeq e3]
  refine ⟨r' % many, rfl, k1, k2, ⟨L', C', r' / many, t', by rw [List.getElem?_set_ne (by decide)]; exact j0, List.getElem?_set_self l1, by rw [List.getElem?_set_ne (by decide)]; exact j2, j3, j4⟩, F1.trans (Fr.set (by decide) _)⟩
/-- _law_pick: one of the things -/
theorem pick_out {n : Nat} {st : Sto} {i : Nat} {ds : List D} (h : Dr n st) (hn : n < 1000000) (h3 : 3 ≤ i) (hi : st[i]? = some (.lst ds)) (hd : 0 < ds.length ∧ ds.length < 1000000) : Out (G__law_pick [.ref 1, .ref i] st) (fun d s => d ∈ ds ∧ Dr (n + 1) s ∧ Fr st s) := by
  have v0 : ∀ s, dVar 0 (ev0 N__law_pick [.ref 1, .ref i]) s = .ok (.ref 1) s := fun _ => rfl
  have v1 : ∀ s, dVar 1 (ev0 N__law_pick [.ref 1, .ref i]) s = .ok (.ref i) s := fun _ => rfl
  have el : gLen [.ref i] st = .ok (.int ds.length) st := by
    show (match seqD (.ref i) st with
      | some ds => R.ok (D.int ds.length) st
      | none => .bad) = _
    unfold seqD
    dsimp only
    rw [hi]
  obtain ⟨d, s1, e1, k, rfl, k1, k2, D1, F1⟩ := (take_out (many := ds.length) h hn ⟨by omega, by
    rw [Int.natAbs_natCast]
    have : (1000000 : Nat) < 2 ^ 200 := by decide
    omega⟩).ex
  have hk : k.toNat < ds.length := by omega
  have e2 : gIx (.ref i) (.int k) s1 = .ok ds[k.toNat] s1 := by
    unfold gIx
    dsimp only
    rw [F1.at_ i _ h3 hi]
    dsimp only
    have e : atI ds k = some ds[k.toNat] := by
      unfold atI ixN
      rw [if_pos k1, if_pos (by omega), Option.bind_some, List.getElem?_eq_getElem hk]
    rw [e]
  unfold G__law_pick fb__law_pick
  simp only [a_sRet, a_d2, v1, R.bind_ok, a_dCall, a_aCons, a_aNil, v0, el, e1, e2, R.into_ok, SR.toR]
  exact ⟨List.getElem_mem hk, D1, F1⟩
end K00
end Fn
end
section
set_option Elab.async false
set_option linter.all false
set_option maxRecDepth 100000
set_option maxHeartbeats 4000000
namespace Fn
namespace K00
open PySem PySem.Spec PyProof.Rows L2 LamX
theorem loopC_exact {live : Sto → Prop} {tg : Pat} {test : DT} {elt : DE} {env : Ev} {st1 : Sto} (hw : ∀ s, st1 <+: s → live s) (p : D → Bool) (e : D → D) : ∀ (ds : List D) (acc : List D), acc.length + ds.length ≤ lineN →
    (∀ d ∈ ds, ∃ env1, dG tg d env = some env1 ∧ ∀ s, test env1 s = .ok (p d) s ∧ (p d = true → elt env1 s = .ok (e d) s)) →
    loopC live st1.length tg test elt env ds (st1 ++ [.lst acc]) = .ok () (st1 ++ [.lst (acc ++ (ds.filter p).map e)])
  | [], acc, _, _ => by unfold loopC; rw [if_pos (hw _ (List.prefix_append _ _))]; simp
  | d :: ds, acc, hl, h => by
    obtain ⟨env1, h1, h2⟩ := h d List.mem_cons_self
    have hl' : acc.length + (ds.length + 1) ≤ lineN := by simpa using hl
    obtain ⟨q1, q2⟩ := h2 (st1 ++ [.lst acc])
    unfold loopC
    rw [if_pos (hw _ (List.prefix_append _ _)), h1]
    dsimp only
    rw [q1, R.nox_ok, R.bind_ok]
    cases hp : p d with
    | false =>
      rw [if_neg Bool.false_ne_true, loopC_exact hw p e ds acc (by omega) fun d' hd => h d' (List.mem_cons_of_mem _ hd), List.filter_cons_of_neg (by simp [hp])]
    | true =>
      rw [if_pos rfl, q2 hp, R.nox_ok, R.bind_ok, get_mid]
      dsimp only
      rw [if_pos (by omega), set_mid, loopC_exact hw p e ds (acc ++ [e d]) (by simp; omega) fun d' hd => h d' (List.mem_cons_of_mem _ hd), List.filter_cons_of_pos (by simp [hp])]
      simp
theorem lc_exact {own : List Nat} {fi : DI} {tg : Pat} {test : DT} {elt : DE} {env : Ev} {st st1 : Sto} {it : IT} (hi : fi env st = .ok it st1) (hw : ∀ q ∈ it.watch, st1[q.1]? = some q.2) (p : D → Bool) (e : D → D) (hl : it.ds.length ≤ lineN)
    (h : ∀ d ∈ it.ds, ∃ env1, dG tg d (wipeE env own) = some env1 ∧ ∀ s, test env1 s = .ok (p d) s ∧ (p d = true → elt env1 s = .ok (e d) s)) :
    dLc own fi tg test elt env st = .ok (.ref st1.length) (st1 ++ [.lst ((it.ds.filter p).map e)]) := by
  unfold dLc
  rw [hi, R.bind_ok, loopC_exact (live := it.live) (fun s ps q hq => get_pre ps (hw q hq)) p e it.ds [] (by simpa using hl) h, R.bind_ok, List.nil_append]
def absI (i : Int) : Int := if i < 0 then -i else i
def begL (ns : List Int) : List Int := (ns.filter fun i => decide (10 ^ 18 ≤ absI i)).map fun i => absI i - 10 ^ 18
def begC (ns : List Int) : List Int := ns.map fun i => absI i % 2147483629
theorem pow18 {st : Sto} : gPow (.int 10) (.int 18) st = .ok (.int (10 ^ 18)) st := rfl
theorem begun_eq {ns : List Int} (hn : ns.length ≤ 1000) : G__law_begun [.lst (ns.map .int)] [] = .ok (.ref 1) [.lst ((begL ns).map .int), .dict (drK 0 0), .lst ((begC ns).map .int)] := by
  have hN : lineN = 16777216 := by decide
  have absE : ∀ (i : Int) (x y : Option D) (s : Sto), dCall gAbs (aCons (dVar 2) aNil) [x, y, some (.int i)] s = .ok (.int (absI i)) s := fun i x y s => rfl
  have e1 := lc_exact (own := [2]) (fi := dIter (dVar 0)) (tg := .nm 2) (test := dB (d2 gGe (dCall gAbs (aCons (dVar 2) aNil)) (d2 gPow (dC (.int 10)) (dC (.int 18))))) (elt := d2 gSub (dCall gAbs (aCons (dVar 2) aNil)) (d2 gPow (dC (.int 10)) (dC (.int 18)))) (env := ev0 N__law_begun [.lst (ns.map .int)]) (st := []) (st1 := []) (it := ⟨ns.map .int, []⟩) rfl (by intro q hq; cases hq)
    (fun d => match d with | .int i => decide (10 ^ 18 ≤ absI i) | _ => false) (fun d => match d with | .int i => .int (absI i - 10 ^ 18) | d => d) (by simp; omega) fun d hd => by
    obtain ⟨i, _, rfl⟩ := List.mem_map.mp hd
    refine ⟨[some (.lst (ns.map .int)), none, some (.int i)], rfl, fun s => ⟨?_, fun _ => ?_⟩⟩
    · simp only [a_dB, a_d2, a_dC, absE, R.bind_ok, pow18]
      rfl
    · simp only [a_d2, a_dC, absE, R.bind_ok, pow18]
      rfl
  have f1 : List.map (fun d => match d with | .int i => D.int (absI i - 10 ^ 18) | d => d) (List.filter (fun d => match d with | .int i => decide (10 ^ 18 ≤ absI i) | _ => false) (ns.map D.int)) = (begL ns).map .int := by
    unfold begL
    rw [List.filter_map, List.map_map, List.map_map]
    rfl
  have e1' : dLc [2] (dIter (dVar 0)) (.nm 2) (dB (d2 gGe (dCall gAbs (aCons (dVar 2) aNil)) (d2 gPow (dC (.int 10)) (dC (.int 18))))) (d2 gSub (dCall gAbs (aCons (dVar 2) aNil)) (d2 gPow (dC (.int 10)) (dC (.int 18)))) (ev0 N__law_begun [.lst (ns.map .int)]) [] = .ok (.ref 0) [.lst ((begL ns).map .int)] := by
    rw [e1]
    show R.ok (D.ref 0) ([] ++ [O.lst (List.map _ (List.filter _ (ns.map D.int)))]) = _
    rw [f1]
    rfl
  have e2 : ∀ s : Sto, dLc [2] (dIter (dVar 0)) (.nm 2) bYes (d2 gMod (dCall gInt1 (aCons (dCall gAbs (aCons (dVar 2) aNil)) aNil)) (dC (.int 2147483629))) [some (.lst (ns.map .int)), some (.ref 0), none] s = .ok (.ref s.length) (s ++ [.lst ((begC ns).map .int)]) := fun s => by
    have e := lc_exact (own := [2]) (fi := dIter (dVar 0)) (tg := .nm 2) (test := bYes) (elt := d2 gMod (dCall gInt1 (aCons (dCall gAbs (aCons (dVar 2) aNil)) aNil)) (dC (.int 2147483629))) (env := [some (.lst (ns.map .int)), some (.ref 0), none]) (st := s) (st1 := s) (it := ⟨ns.map .int, []⟩) rfl (by intro q hq; cases hq)
      (fun _ => true) (fun d => match d with | .int i => .int (absI i % 2147483629) | d => d) (by simp; omega) fun d hd => by
      obtain ⟨i, _, rfl⟩ := List.mem_map.mp hd
      refine ⟨[some (.lst (ns.map .int)), some (.ref 0), some (.int i)], rfl, fun s => ⟨rfl, fun _ => ?_⟩⟩
      have absE' : ∀ s, dCall gAbs (aCons (dVar 2) aNil) [some (.lst (ns.map .int)), some (.ref 0), some (.int i)] s = .ok (.int (absI i)) s := fun s => rfl
      have gE : gInt1 [.int (absI i)] s = .ok (.int (absI i)) s := rfl
      rw [a_d2, a_dCall, a_aCons, absE', R.bind_ok, a_aNil, R.bind_ok, R.bind_ok, gE, R.bind_ok, a_dC, R.bind_ok, mod_ok (by decide)]
    rw [e, List.filter_eq_self.mpr fun _ _ => rfl]
    unfold begC
    rw [List.map_map, List.map_map]
    rfl
  unfold G__law_begun fb__law_begun
  have q1 : (sAsg (dLc [2] (dIter (dVar 0)) (.nm 2) (dB (d2 gGe (dCall gAbs (aCons (dVar 2) aNil)) (d2 gPow (dC (.int 10)) (dC (.int 18))))) (d2 gSub (dCall gAbs (aCons (dVar 2) aNil)) (d2 gPow (dC (.int 10)) (dC (.int 18))))) (.nm 1)) (ev0 N__law_begun [.lst (ns.map .int)]) [] = .next [some (.lst (ns.map .int)), some (.ref 0), none] [.lst ((begL ns).map .int)] := by
    rw [a_sSet, e1']
    rfl
  rw [a_sSeq q1, a_sRet]
  have v1 : ∀ s, dVar 1 [some (.lst (ns.map .int)), some (.ref 0), none] s = .ok (.ref 0) s := fun _ => rfl
  unfold dDisp
  simp only [pairsD, a_dC, v1, R.bind_ok, e2]
  rfl
end K00
end Fn
end
section
set_option Elab.async false
set_option linter.all false
set_option maxRecDepth 100000
set_option maxHeartbeats 4000000
namespace Fn
namespace K00
open PySem PySem.Spec PyProof.Rows L2 LamX
/-! ### the errors' kinds -/
def kindStep (x : Str) : DS := sExpr (dM "list" gExtend (dVar 1) (aCons (d2 gMul (dLst (aCons (dC (.str x)) aNil)) (dCall gInt1 (aCons (dIsX (tabE x) (dVar 0)) aNil))) aNil))
def chainK : List Str → DS
  | [] => sRet (dVar 1)
  | x :: r => sSeq (kindStep x) (chainK r)
def kindN : List Str := ["BadDeeds", "BadKind", "BadLife", "BadLine", "BadLot", "BadMany", "BadName", "BadNew", "BadOne", "BadOther", "BadPairs", "BadPlace", "BadPlaces", "BadRecord", "BadSecond", "BadSome", "BadState", "BadStrict", "BadTable", "BadText", "BadWeb", "BadWord", "BadWork", "NoName", "NotApart", "NotNow", "NoWeb", "TooMany", "Twice"]
theorem fb_kinds : fb__law_kinds = sSeq (sAsg (dLst aNil) (.nm 1)) (chainK kindN) := rfl
/-- None, or an error of the raised ones -/
def okErr (e : D) : Bool := match e with
  | .non => true
  | .exc c ds => decide (c ∈ raisedN) && ds.isEmpty
  | _ => false
def kindB (e : D) (x : Str) : Bool := match e with
  | .exc c _ => subT x c
  | _ => false
theorem isX_eq {e : D} {x : Str} {f : DE} {env : Ev} {s s1 : Sto} (h : okErr e = true) (hf : f env s = .ok e s1) : dIsX (tabE x) f env s = .ok (.bl (kindB e x)) s1 := by
  unfold dIsX
  rw [hf, R.bind_ok]
  cases e with
  | non => rfl
  | exc c ds =>
    simp only [okErr, Bool.and_eq_true, decide_eq_true_eq, List.isEmpty_iff] at h
    obtain ⟨h1, rfl⟩ := h
    dsimp only
    unfold tabE
    rw [if_pos h1]
    rfl
  | _ => cases h
theorem ext_ok {st : Sto} {i j : Nat} {xs ys : List D} (hi : st[i]? = some (.lst xs)) (hj : st[j]? = some (.lst ys)) (h : xs.length + ys.length ≤ lineN) : gExtend (.ref i) [.ref j] st = .ok .non (st.set i (.lst (xs ++ ys))) := by
  unfold gExtend onL
  dsimp only
  rw [hi]
  dsimp only
  rw [hj]
  dsimp only
  rw [if_pos h]
theorem kind_step {e : D} {x : Str} {st t : Sto} {acc : List D} (h : okErr e = true) (ha : acc.length < 1000) :
    ∃ t', kindStep x [some e, some (.ref st.length)] (st ++ .lst acc :: t) = .next [some e, some (.ref st.length)] (st ++ .lst (acc ++ if kindB e x = true then [D.str x] else []) :: t') := by
  have hN : lineN = 16777216 := by decide
  have v0 : ∀ s, dVar 0 [some e, some (.ref st.length)] s = .ok e s := fun _ => rfl
  have v1 : ∀ s, dVar 1 [some e, some (.ref st.length)] s = .ok (.ref st.length) s := fun _ => rfl
  have ty : tyB "list" (.ref st.length) (st ++ .lst acc :: t) = true := by
    unfold tyB
    dsimp only
    rw [get_mid]
    rfl
  obtain ⟨s1, hs1⟩ : ∃ s1, s1 = st ++ O.lst acc :: t := ⟨_, rfl⟩
  have e1 : dLst (aCons (dC (.str x)) aNil) [some e, some (.ref st.length)] s1 = .ok (.ref s1.length) (s1 ++ [.lst [.str x]]) := by
    simp only [a_dLst, a_aCons, a_dC, a_aNil, R.bind_ok, List.length_cons, List.length_nil]
    rw [if_pos (by omega)]
  have e2 : dCall gInt1 (aCons (dIsX (tabE x) (dVar 0)) aNil) [some e, some (.ref st.length)] (s1 ++ [.lst [.str x]]) = .ok (.int (if kindB e x = true then 1 else 0)) (s1 ++ [.lst [.str x]]) := by
    rw [a_dCall, a_aCons, isX_eq h (v0 _), R.bind_ok, a_aNil, R.bind_ok, R.bind_ok]
    rfl
  have e3 : ∀ k : Bool, gMul (.ref s1.length) (.int (if k = true then 1 else 0)) (s1 ++ [.lst [.str x]]) = .ok (.ref (s1.length + 1)) (s1 ++ [.lst [.str x], .lst (if k = true then [.str x] else [])]) := fun k => by
    unfold gMul
    dsimp only
    rw [get_mid]
    cases k
    · simp
    · dsimp only
      rw [if_pos ⟨by decide, by decide, by simp; omega⟩]
      simp
  have e4 : d2 gMul (dLst (aCons (dC (.str x)) aNil)) (dCall gInt1 (aCons (dIsX (tabE x) (dVar 0)) aNil)) [some e, some (.ref st.length)] s1 = .ok (.ref (s1.length + 1)) (s1 ++ [O.lst [D.str x], O.lst (if kindB e x = true then [D.str x] else [])]) := by
    rw [a_d2, e1, R.bind_ok, e2, R.bind_ok, e3]
  have g1 : (s1 ++ [O.lst [D.str x], O.lst (if kindB e x = true then [D.str x] else [])])[st.length]? = some (.lst acc) := get_ext _ (by rw [hs1]; exact get_mid)
  have g2 : (s1 ++ [O.lst [D.str x], O.lst (if kindB e x = true then [D.str x] else [])])[s1.length + 1]? = some (.lst (if kindB e x = true then [.str x] else [])) := by
    rw [List.getElem?_append_right (by omega)]
    simp
  have e5 : gExtend (.ref st.length) [.ref (s1.length + 1)] (s1 ++ [O.lst [D.str x], O.lst (if kindB e x = true then [D.str x] else [])]) = .ok .non ((s1 ++ [O.lst [D.str x], O.lst (if kindB e x = true then [D.str x] else [])]).set st.length (O.lst (acc ++ if kindB e x = true then [D.str x] else []))) := by
    refine ext_ok g1 g2 ?_
    have : (if kindB e x = true then [D.str x] else []).length ≤ 1 := by split <;> simp
    omega
  refine ⟨t ++ [O.lst [D.str x], O.lst (if kindB e x = true then [D.str x] else [])], ?_⟩
  unfold kindStep
  rw [← hs1] at ty ⊢
  rw [a_sExpr, a_dM, v1, R.bind_ok, if_pos ty, a_aCons, e4, R.bind_ok, a_aNil, R.bind_ok, R.bind_ok, e5, R.into_ok, hs1, List.append_assoc, List.cons_append, set_mid]
theorem chain_out {e : D} (h : okErr e = true) {st : Sto} : ∀ (ns : List Str) (acc : List D) (t : Sto), acc.length + ns.length < 1000 →
    ∃ t', chainK ns [some e, some (.ref st.length)] (st ++ .lst acc :: t) = .ret (.ref st.length) (st ++ .lst (acc ++ (ns.filter (kindB e)).map .str) :: t')
  | [], acc, t, _ => ⟨t, by simp [chainK]⟩
  | x :: ns, acc, t, hl => by
    simp only [List.length_cons] at hl
    obtain ⟨t1, e1⟩ := kind_step (x := x) (st := st) (t := t) (acc := acc) h (by omega)
    obtain ⟨t2, e2⟩ := chain_out h ns (acc ++ if kindB e x = true then [D.str x] else []) t1 (by
      have : (if kindB e x = true then [D.str x] else []).length ≤ 1 := by split <;> simp
      rw [List.length_append]
      omega)
    refine ⟨t2, ?_⟩
    unfold chainK
    rw [a_sSeq e1, e2]
    cases hk : kindB e x <;> simp [List.filter_cons, hk]
def kinds (e : D) : List Str := kindN.filter (kindB e)
theorem kinds_yl {e : D} {st : Sto} (h : okErr e = true) : ∃ t, G__law_kinds [e] st = .ok (.ref st.length) (st ++ .lst ((kinds e).map .str) :: t) := by
  obtain ⟨t, q⟩ := chain_out h (st := st) kindN [] [] (by decide)
  refine ⟨t, ?_⟩
  unfold G__law_kinds
  rw [fb_kinds]
  have e1 : (sAsg (dLst aNil) (.nm 1)) (ev0 N__law_kinds [e]) st = .next [some e, some (.ref st.length)] (st ++ [.lst []]) := rfl
  rw [a_sSeq e1, show st ++ [O.lst []] = st ++ .lst [] :: [] from rfl, q]
  rfl
theorem kinds_non : kinds .non = [] := by decide
theorem kinds_word : kinds (.exc "BadWord" []) = (["BadWord"] : List Str) := by decide +kernel
theorem kinds_many : kinds (.exc "BadMany" []) = (["BadMany"] : List Str) := by decide +kernel
theorem kinds_places : kinds (.exc "BadPlaces" []) = (["BadPlaces"] : List Str) := by decide +kernel
end K00
end Fn
end
section
set_option Elab.async false
set_option linter.all false
set_option maxRecDepth 100000
set_option maxHeartbeats 4000000
namespace Fn
namespace K00
open PySem PySem.Spec PyProof.Rows L2 LamX
/-! ### the defs that are given a closure -/
def G__law_caught (cl : Sto → R D) (st : Sto) : R D := match cl st with
  | .ok _ s => .ok .non s
  | .exc x s => if x.c ∈ raisedN ∧ x.ds = [] then .ok (.exc x.c []) s else .bad
  | .bad => .bad
noncomputable def G__law_refused (cl : Sto → R D) (st : Sto) : R D := (G__law_caught cl st).bind fun d s => G__law_kinds [d] s
theorem ref_caught {K : PySem.W.Frag} {mg : Str → Option Value} {T : TB} {n : Nat} {c0 : Clo} {cl : Sto → R D} (ds : List D) (st : Sto) (hl : ds.length = 1) : Ref K mg T n (fb__law_caught c0 cl (ev0 N__law_caught ds) st).toR (gC c0 (G__law_caught cl) ds st) := by
  match ds, hl with
  | [d], _ =>
    cases d with
    | clo c =>
      by_cases hc : c = c0
      · subst hc
        have e0 : gC c (G__law_caught cl) [.clo c] st = G__law_caught cl st := if_pos rfl
        rw [e0]
        refine Ref.of_eq ?_
        have e1 : (sAsg (dC .non) (.nm 1)) (ev0 N__law_caught [.clo c]) st = .next [some (.clo c), some .non, none] st := rfl
        have e2 : dAct c cl 0 [some (.clo c), some .non, none] st = cl st := if_pos rfl
        unfold fb__law_caught
        rw [a_sSeq e1]
        unfold G__law_caught
        cases e : cl st with
        | ok v s =>
          have e3 : (sCaught (subE "DescentError") 2 (sExpr (dAct c cl 0)) (sAsg (dVar 2) (.nm 1))) [some (.clo c), some .non, none] st = .next [some (.clo c), some .non, none] s := by
            unfold sCaught
            rw [a_sExpr, e2, e, R.into_ok]
          rw [a_sSeq e3]
          rfl
        | exc x s =>
          by_cases hx : x.c ∈ raisedN ∧ x.ds = []
          · have e3 : (sCaught (subE "DescentError") 2 (sExpr (dAct c cl 0)) (sAsg (dVar 2) (.nm 1))) [some (.clo c), some .non, none] st = .next [some (.clo c), some (.exc x.c []), none] s := by
              have e4 : subE "DescentError" x.c = some true := by
                unfold subE tabE
                rw [if_pos hx.1]
                simp [subT]
              unfold sCaught
              rw [a_sExpr, e2, e, R.into_exc]
              dsimp only
              rw [e4]
              dsimp only
              rw [if_pos hx.2]
              rfl
            rw [a_sSeq e3]
            dsimp only
            rw [if_pos hx]
            rfl
          · have e3 : (sCaught (subE "DescentError") 2 (sExpr (dAct c cl 0)) (sAsg (dVar 2) (.nm 1))) [some (.clo c), some .non, none] st = .bad := by
              unfold sCaught
              rw [a_sExpr, e2, e, R.into_exc]
              dsimp only
              by_cases h1 : x.c ∈ raisedN
              · have e4 : subE "DescentError" x.c = some true := by
                  unfold subE tabE
                  rw [if_pos h1]
                  simp [subT]
                rw [e4]
                dsimp only
                rw [if_neg (fun h2 => hx ⟨h1, h2⟩)]
              · have e4 : subE "DescentError" x.c = none := by
                  unfold subE tabE
                  rw [if_neg h1]
                rw [e4]
            unfold sSeq
            rw [e3]
            dsimp only
            rw [if_neg hx]
            rfl
        | bad =>
          have e3 : (sCaught (subE "DescentError") 2 (sExpr (dAct c cl 0)) (sAsg (dVar 2) (.nm 1))) [some (.clo c), some .non, none] st = .bad := by
            unfold sCaught
            rw [a_sExpr, e2, e, R.into_bad]
          unfold sSeq
          rw [e3]
          rfl
      · have e0 : gC c0 (G__law_caught cl) [.clo c] st = .bad := if_neg hc
        rw [e0]
        exact Ref.bad
    | _ => exact Ref.bad
theorem ref_refused {K : PySem.W.Frag} {mg : Str → Option Value} {T : TB} {n : Nat} {c0 : Clo} {cl : Sto → R D} (ds : List D) (st : Sto) (hl : ds.length = 1) : Ref K mg T n (fb__law_refused G__law_kinds G__law_caught c0 cl (ev0 N__law_refused ds) st).toR (gC c0 (G__law_refused cl) ds st) := by
  match ds, hl with
  | [d], _ =>
    cases d with
    | clo c =>
      by_cases hc : c = c0
      · subst hc
        have e0 : gC c (G__law_refused cl) [.clo c] st = G__law_refused cl st := if_pos rfl
        rw [e0]
        refine Ref.of_eq ?_
        have v0 : ∀ s, dVar 0 (ev0 N__law_refused [.clo c]) s = .ok (.clo c) s := fun _ => rfl
        have e1 : gC c (G__law_caught cl) [.clo c] st = G__law_caught cl st := if_pos rfl
        unfold fb__law_refused G__law_refused
        simp only [a_sRet, a_dCall, a_aCons, a_aNil, v0, R.bind_ok, e1]
        cases G__law_caught cl st with
        | ok d s =>
          simp only [R.bind_ok]
          cases G__law_kinds [d] s <;> rfl
        | exc x s => rfl
        | bad => rfl
      · have e0 : gC c0 (G__law_refused cl) [.clo c] st = .bad := if_neg hc
        rw [e0]
        exact Ref.bad
    | _ => exact Ref.bad
/-- a closure that comes through -/
theorem refused_ok {cl : Sto → R D} {st s : Sto} {d : D} (e : cl st = .ok d s) : ∃ t, G__law_refused cl st = .ok (.ref s.length) (s ++ .lst [] :: t) := by
  obtain ⟨t, q⟩ := kinds_yl (e := .non) (st := s) rfl
  refine ⟨t, ?_⟩
  unfold G__law_refused G__law_caught
  rw [e]
  dsimp only
  rw [R.bind_ok, q, kinds_non]
  rfl
/-- a closure that raises -/
theorem refused_exc {cl : Sto → R D} {st s : Sto} {c : Str} (hc : c ∈ raisedN) (e : cl st = .exc ⟨c, []⟩ s) (hk : kinds (.exc c []) = [c]) : ∃ t, G__law_refused cl st = .ok (.ref s.length) (s ++ .lst [.str c] :: t) := by
  obtain ⟨t, q⟩ := kinds_yl (e := .exc c []) (st := s) (by simp [okErr, hc])
  refine ⟨t, ?_⟩
  unfold G__law_refused G__law_caught
  rw [e]
  dsimp only
  rw [if_pos ⟨hc, rfl⟩, R.bind_ok, q, hk]
  rfl
end K00
end Fn
end
section
set_option Elab.async false
set_option linter.all false
set_option maxRecDepth 100000
set_option maxHeartbeats 4000000
namespace Fn
namespace K00
open PySem PySem.Spec PyProof.Rows L2 LamX
/-! ### the word that is drawn -/
/-- a text of 0 and 1 -/
def Bits (z : Str) : Prop := ∀ c ∈ z.cps.toList, c = 48 ∨ c = 49
theorem str_app (a b : Str) : (a ++ b).cps.toList = a.cps.toList ++ b.cps.toList := by
  show (a.cps ++ b.cps).toList = _
  simp
theorem len_app (a b : Str) : (a ++ b).length = a.length + b.length := by
  show (a.cps ++ b.cps).size = _
  simp [Str.length]
theorem add_str {a b : Str} {st : Sto} (h : a.length + b.length ≤ lineN) : gAdd (.str a) (.str b) st = .ok (.str (a ++ b)) st := if_pos h
theorem ts0 : (toString (0 : Int) : Str) = "0" := by decide +kernel
theorem ts1 : (toString (1 : Int) : Str) = "1" := by decide +kernel
theorem bits0 : Bits "0" := by
  intro c hc
  have e : ("0" : Str).cps.toList = [48] := by decide +kernel
  rw [e] at hc
  simp at hc
  exact .inl hc
theorem bits1 : Bits "1" := by
  intro c hc
  have e : ("1" : Str).cps.toList = [49] := by decide +kernel
  rw [e] at hc
  simp at hc
  exact .inr hc
theorem bitsE : Bits "" := by
  intro c hc
  have e : ("" : Str).cps.toList = [] := by decide +kernel
  rw [e] at hc
  cases hc
theorem Bits.app {a b : Str} (ha : Bits a) (hb : Bits b) : Bits (a ++ b) := by
  intro c hc
  rw [str_app, List.mem_append] at hc
  exact hc.elim (ha c) (hb c)
theorem len0 : ("0" : Str).length = 1 := by decide
theorem len1 : ("1" : Str).length = 1 := by decide
theorem lenE : ("" : Str).length = 0 := by decide
theorem str_bit {b : Int} {st : Sto} (h : b = 0 ∨ b = 1) : ∃ z : Str, gStr1 [.int b] st = .ok (.str z) st ∧ z.length = 1 ∧ Bits z := by
  rcases h with rfl | rfl
  · refine ⟨"0", ?_, len0, bits0⟩
    show (if (0 : Int).natAbs.log2 < 1920 then R.ok (D.str (toString (0 : Int))) st else .bad) = _
    rw [if_pos (by decide), ts0]
  · refine ⟨"1", ?_, len1, bits1⟩
    show (if (1 : Int).natAbs.log2 < 1920 then R.ok (D.str (toString (1 : Int))) st else .bad) = _
    rw [if_pos (by decide), ts1]
theorem SO.nx {r : SR} {N : Ev → Sto → Prop} (h : SO r N fun _ _ => False) : ∃ e s, r = .next e s ∧ N e s := by
  cases r with
  | next e s => exact ⟨e, s, rfl, h⟩
  | _ => exact h.elim
theorem mod2 (i : Int) : i % 2 = 0 ∨ i % 2 = 1 := by omega
def bodyW : DS := (sSeq (sPar [7, 8] (aCons (d2 gMod (dCall gInt1 (aCons (dVar 3) aNil)) (dC (.int 2))) (aCons (d2 gMod (dCall gInt1 (aCons (dVar 4) aNil)) (dC (.int 2))) aNil)))
 (sSeq (sPar [3, 4] (aCons (d2 gFdiv (dVar 3) (dC (.int 2))) (aCons (d2 gFdiv (dVar 4) (dC (.int 2))) aNil)))
 (sAsg (d2 gAdd (dVar 5) (dIf (dB (d2 (gEqW false) (dVar 2) (dC (.int 0)))) (dC (.str "0")) (dIf (dB (d2 gLt (dVar 2) (dC (.int 3)))) (dCall gStr1 (aCons (d2 gMul (dVar 7) (dVar 8)) aNil)) (dIf (dB (d2 (gEqW false) (dVar 2) (dC (.int 3)))) (dCall gStr1 (aCons (dCall gMax2 (aCons (dVar 7) (aCons (dVar 8) aNil))) aNil)) (dCall gStr1 (aCons (dVar 7) aNil)))))) (.nm 5))))
theorem bodyW_eq {a0 a1 a6 a7 a8 : Option D} {way num sec : Int} {w : Str} {S : Sto} (hw : w.length ≤ 1000) : ∃ (num' sec' : Int) (w' : Str) (x7 x8 : Option D), bodyW [a0, a1, some (.int way), some (.int num), some (.int sec), some (.str w), a6, a7, a8] S = .next [a0, a1, some (.int way), some (.int num'), some (.int sec'), some (.str w'), a6, x7, x8] S ∧ w'.length = w.length + 1 ∧ (Bits w → Bits w') := by
  have hN : lineN = 16777216 := by decide
  have q1 : sPar [7, 8] (aCons (d2 gMod (dCall gInt1 (aCons (dVar 3) aNil)) (dC (.int 2))) (aCons (d2 gMod (dCall gInt1 (aCons (dVar 4) aNil)) (dC (.int 2))) aNil)) [a0, a1, some (.int way), some (.int num), some (.int sec), some (.str w), a6, a7, a8] S = .next [a0, a1, some (.int way), some (.int num), some (.int sec), some (.str w), a6, some (.int (num % 2)), some (.int (sec % 2))] S := by
    have v3 : ∀ s, dVar 3 [a0, a1, some (.int way), some (.int num), some (.int sec), some (.str w), a6, a7, a8] s = .ok (.int num) s := fun _ => rfl
    have v4 : ∀ s, dVar 4 [a0, a1, some (.int way), some (.int num), some (.int sec), some (.str w), a6, a7, a8] s = .ok (.int sec) s := fun _ => rfl
    unfold sPar
    simp only [a_aCons, a_d2, a_dCall, a_aNil, a_dC, v3, v4, R.bind_ok, gInt1, mod_ok (show (0 : Int) < 2 by decide), R.into_ok]
    rfl
  have q2 : sPar [3, 4] (aCons (d2 gFdiv (dVar 3) (dC (.int 2))) (aCons (d2 gFdiv (dVar 4) (dC (.int 2))) aNil)) [a0, a1, some (.int way), some (.int num), some (.int sec), some (.str w), a6, some (.int (num % 2)), some (.int (sec % 2))] S = .next [a0, a1, some (.int way), some (.int (num / 2)), some (.int (sec / 2)), some (.str w), a6, some (.int (num % 2)), some (.int (sec % 2))] S := by
    have v3 : ∀ s, dVar 3 [a0, a1, some (.int way), some (.int num), some (.int sec), some (.str w), a6, some (.int (num % 2)), some (.int (sec % 2))] s = .ok (.int num) s := fun _ => rfl
    have v4 : ∀ s, dVar 4 [a0, a1, some (.int way), some (.int num), some (.int sec), some (.str w), a6, some (.int (num % 2)), some (.int (sec % 2))] s = .ok (.int sec) s := fun _ => rfl
    unfold sPar
    simp only [a_aCons, a_d2, a_aNil, a_dC, v3, v4, R.bind_ok, fdiv_ok (show (0 : Int) < 2 by decide) (show (2 : Int).natAbs < 2 ^ 200 by decide), R.into_ok]
    rfl
  have q3 : ∃ z : Str, dIf (dB (d2 (gEqW false) (dVar 2) (dC (.int 0)))) (dC (.str "0")) (dIf (dB (d2 gLt (dVar 2) (dC (.int 3)))) (dCall gStr1 (aCons (d2 gMul (dVar 7) (dVar 8)) aNil)) (dIf (dB (d2 (gEqW false) (dVar 2) (dC (.int 3)))) (dCall gStr1 (aCons (dCall gMax2 (aCons (dVar 7) (aCons (dVar 8) aNil))) aNil)) (dCall gStr1 (aCons (dVar 7) aNil)))) [a0, a1, some (.int way), some (.int (num / 2)), some (.int (sec / 2)), some (.str w), a6, some (.int (num % 2)), some (.int (sec % 2))] S = .ok (.str z) S ∧ z.length = 1 ∧ Bits z := by
    have v2 : ∀ s, dVar 2 [a0, a1, some (.int way), some (.int (num / 2)), some (.int (sec / 2)), some (.str w), a6, some (.int (num % 2)), some (.int (sec % 2))] s = .ok (.int way) s := fun _ => rfl
    have v7 : ∀ s, dVar 7 [a0, a1, some (.int way), some (.int (num / 2)), some (.int (sec / 2)), some (.str w), a6, some (.int (num % 2)), some (.int (sec % 2))] s = .ok (.int (num % 2)) s := fun _ => rfl
    have v8 : ∀ s, dVar 8 [a0, a1, some (.int way), some (.int (num / 2)), some (.int (sec / 2)), some (.str w), a6, some (.int (num % 2)), some (.int (sec % 2))] s = .ok (.int (sec % 2)) s := fun _ => rfl
    have lt3 : gLt (.int way) (.int 3) S = .ok (.bl (decide (way < 3))) S := rfl
    have m1 := mod2 num
    have m2 := mod2 sec
    have hm : num % 2 * (sec % 2) = 0 ∨ num % 2 * (sec % 2) = 1 := by
      rcases m1 with e | e <;> rcases m2 with e' | e' <;> rw [e, e'] <;> decide
    have hx : (if sec % 2 > num % 2 then sec % 2 else num % 2) = 0 ∨ (if sec % 2 > num % 2 then sec % 2 else num % 2) = 1 := by
      split <;> assumption
    have gm : gMul (.int (num % 2)) (.int (sec % 2)) S = .ok (.int (num % 2 * (sec % 2))) S := mul_ok (by omega) (by omega)
    have gx : gMax2 [.int (num % 2), .int (sec % 2)] S = .ok (.int (if sec % 2 > num % 2 then sec % 2 else num % 2)) S := rfl
    by_cases h0 : way = 0
    · exact ⟨"0", by simp [v2, eqv_int, h0, asB], len0, bits0⟩
    · by_cases h3 : way < 3
      · obtain ⟨z, z1, z2, z3⟩ := str_bit (st := S) hm
        exact ⟨z, by simp [v2, v7, v8, eqv_int, h0, asB, lt3, h3, gm, z1], z2, z3⟩
      · by_cases h4 : way = 3
        · obtain ⟨z, z1, z2, z3⟩ := str_bit (st := S) hx
          exact ⟨z, by
            rw [a_dIf, a_dB, a_d2, v2, R.bind_ok, a_dC, R.bind_ok, eqv_int, R.bind_ok, decide_eq_false h0]
            simp only [asB, R.bind_ok, Bool.false_eq_true, if_false]
            rw [a_dIf, a_dB, a_d2, v2, R.bind_ok, a_dC, R.bind_ok, lt3, R.bind_ok, decide_eq_false h3]
            simp only [asB, R.bind_ok, Bool.false_eq_true, if_false]
            rw [a_dIf, a_dB, a_d2, v2, R.bind_ok, a_dC, R.bind_ok, eqv_int, R.bind_ok, decide_eq_true h4]
            simp only [asB, R.bind_ok, if_true]
            rw [a_dCall, a_aCons, a_dCall, a_aCons, v7, R.bind_ok, a_aCons, v8, R.bind_ok, a_aNil, R.bind_ok, R.bind_ok, R.bind_ok, gx, R.bind_ok, a_aNil, R.bind_ok, R.bind_ok]
            exact z1, z2, z3⟩
        · obtain ⟨z, z1, z2, z3⟩ := str_bit (st := S) m1
          exact ⟨z, by simp [v2, v7, v8, eqv_int, h0, asB, lt3, h3, h4, z1], z2, z3⟩
  obtain ⟨z, z1, z2, z3⟩ := q3
  refine ⟨num / 2, sec / 2, w ++ z, some (.int (num % 2)), some (.int (sec % 2)), ?_, by rw [len_app, z2], fun hb => hb.app z3⟩
  have v5 : ∀ s, dVar 5 [a0, a1, some (.int way), some (.int (num / 2)), some (.int (sec / 2)), some (.str w), a6, some (.int (num % 2)), some (.int (sec % 2))] s = .ok (.str w) s := fun _ => rfl
  unfold bodyW
  rw [a_sSeq q1, a_sSeq q2, a_sSet, a_d2, v5, R.bind_ok, z1, R.bind_ok, add_str (by omega), R.into_ok]
  rfl
theorem word_out {n : Nat} {st : Sto} {many : Nat} (h : Dr n st) (hn : n + 3 < 1000000) (hm : many ≤ 24) : Out (G__law_word [.ref 1, .int many] st) (fun d s => ∃ w : Str, d = .str w ∧ w.length = many ∧ Bits w ∧ Dr (n + 3) s ∧ Fr st s) := by
  have hN : lineN = 16777216 := by decide
  have v0 : ∀ s, dVar 0 (ev0 N__law_word [.ref 1, .int many]) s = .ok (.ref 1) s := fun _ => rfl
  have p24 : ∀ s, d2 gPow (dC (.int 2)) (dC (.int 24)) (ev0 N__law_word [.ref 1, .int many]) s = .ok (.int 16777216) s := fun _ => rfl
  obtain ⟨d1', s1, e1, way, rfl, _, _, D1, F1⟩ := (take_out (many := 7) h (by omega) ⟨by decide, by decide⟩).ex
  obtain ⟨d2', s2, e2, num, rfl, _, _, D2, F2⟩ := (take_out (many := 16777216) D1 (by omega) ⟨by decide, by decide⟩).ex
  obtain ⟨d3', s3, e3, sec, rfl, _, _, D3, F3⟩ := (take_out (many := 16777216) D2 (by omega) ⟨by decide, by decide⟩).ex
  have q1 : sAsg (dTup (aCons (dCall G__law_take (aCons (dVar 0) (aCons (dC (.int 7)) aNil))) (aCons (dCall G__law_take (aCons (dVar 0) (aCons (d2 gPow (dC (.int 2)) (dC (.int 24))) aNil))) (aCons (dCall G__law_take (aCons (dVar 0) (aCons (d2 gPow (dC (.int 2)) (dC (.int 24))) aNil))) (aCons (dC (.str "")) aNil))))) (.tp [(.nm 2), (.nm 3), (.nm 4), (.nm 5)]) (ev0 N__law_word [.ref 1, .int many]) st = .next [some (.ref 1), some (.int many), some (.int way), some (.int num), some (.int sec), some (.str ""), none, none, none] s3 := by
    have t1 : dCall G__law_take (aCons (dVar 0) (aCons (dC (.int 7)) aNil)) (ev0 N__law_word [.ref 1, .int many]) st = .ok (.int way) s1 := by
      rw [a_dCall, a_aCons, v0, R.bind_ok, a_aCons, a_dC, R.bind_ok, a_aNil, R.bind_ok, R.bind_ok, R.bind_ok, e1]
    have t2 : dCall G__law_take (aCons (dVar 0) (aCons (d2 gPow (dC (.int 2)) (dC (.int 24))) aNil)) (ev0 N__law_word [.ref 1, .int many]) s1 = .ok (.int num) s2 := by
      rw [a_dCall, a_aCons, v0, R.bind_ok, a_aCons, p24, R.bind_ok, a_aNil, R.bind_ok, R.bind_ok, R.bind_ok, e2]
    have t3 : dCall G__law_take (aCons (dVar 0) (aCons (d2 gPow (dC (.int 2)) (dC (.int 24))) aNil)) (ev0 N__law_word [.ref 1, .int many]) s2 = .ok (.int sec) s3 := by
      rw [a_dCall, a_aCons, v0, R.bind_ok, a_aCons, p24, R.bind_ok, a_aNil, R.bind_ok, R.bind_ok, R.bind_ok, e3]
    unfold sAsg
    rw [a_dTup, a_aCons, t1, R.bind_ok, a_aCons, t2, R.bind_ok, a_aCons, t3, R.bind_ok, a_aCons, a_dC, R.bind_ok, a_aNil, R.bind_ok, R.bind_ok, R.bind_ok, R.bind_ok, R.bind_ok, if_pos (by simp; omega), R.into_ok]
    rfl
  have hr : dIt gRange1 (aCons (dVar 1) aNil) [some (.ref 1), some (.int many), some (.int way), some (.int num), some (.int sec), some (.str ""), none, none, none] s3 = .ok ⟨rngD 0 many, []⟩ s3 := by
    have hr : aCons (dVar 1) aNil [some (.ref 1), some (.int many), some (.int way), some (.int num), some (.int sec), some (.str ""), none, none, none] s3 = .ok [.int many] s3 := rfl
    unfold dIt
    rw [hr, R.bind_ok, range1_eq (by omega)]
  have L := loop_so (live := IT.live ⟨rngD 0 many, []⟩) (tg := .nm 6) (body := bodyW) (Rt := fun _ _ => False) (fun ds e s => s = s3 ∧ ∃ (nu se : Int) (w : Str) (x6 x7 x8 : Option D), e = [some (.ref 1), some (.int many), some (.int way), some (.int nu), some (.int se), some (.str w), x6, x7, x8] ∧ w.length + ds.length = many ∧ Bits w)
    (fun ds e s _ => fun q hq => by cases hq) (fun d ds e s ⟨hs, nu, se, w, x6, x7, x8, he, hl, hb⟩ => by
      subst hs he
      simp only [List.length_cons] at hl
      obtain ⟨nu', se', w', y7, y8, g1, g2, g3⟩ := bodyW_eq (a0 := some (.ref 1)) (a1 := some (.int many)) (a6 := some d) (a7 := x7) (a8 := x8) (way := way) (num := nu) (sec := se) (w := w) (S := s) (by omega)
      refine ⟨_, rfl, ?_⟩
      show SO (bodyW [some (.ref 1), some (.int many), some (.int way), some (.int nu), some (.int se), some (.str w), some d, x7, x8] s) _ _
      rw [g1]
      exact ⟨rfl, nu', se', w', some d, y7, y8, rfl, by omega, g3 hb⟩)
    (rngD 0 many) [some (.ref 1), some (.int many), some (.int way), some (.int num), some (.int sec), some (.str ""), none, none, none] s3 ⟨rfl, num, sec, "", none, none, none, rfl, by rw [lenE]; simp [rngD], bitsE⟩
  have hF : sFor (dIt gRange1 (aCons (dVar 1) aNil)) (.nm 6) bodyW [some (.ref 1), some (.int many), some (.int way), some (.int num), some (.int sec), some (.str ""), none, none, none] s3 = loopS (IT.live ⟨rngD 0 many, []⟩) (.nm 6) bodyW (rngD 0 many) [some (.ref 1), some (.int many), some (.int way), some (.int num), some (.int sec), some (.str ""), none, none, none] s3 := by
    unfold sFor
    rw [hr, R.into_ok]
  obtain ⟨e, s, he, hs, nu, se, w, x6, x7, x8, hee, hl, hb⟩ := K00.SO.nx L
  subst hs hee
  rw [he] at hF
  unfold G__law_word fb__law_word
  unfold bodyW at hF
  rw [a_sSeq q1, a_sSeq hF]
  exact ⟨w, rfl, by simpa using hl, hb, D3, F1.trans (F2.trans F3)⟩
end K00
end Fn
end
section
set_option Elab.async false
set_option linter.all false
set_option maxRecDepth 100000
set_option maxHeartbeats 4000000
namespace Fn
namespace K00
open PySem PySem.Spec PyProof.Rows L2 LamX
/-! ### the name that is drawn -/
def Lower (z : Str) : Prop := ∀ c ∈ z.cps.toList, 97 ≤ c ∧ c ≤ 122
theorem Lower.app {a b : Str} (ha : Lower a) (hb : Lower b) : Lower (a ++ b) := by
  intro c hc
  rw [str_app, List.mem_append] at hc
  exact hc.elim (ha c) (hb c)
theorem lowE : Lower "" := by
  intro c hc
  have e : ("" : Str).cps.toList = [] := by decide +kernel
  rw [e] at hc
  cases hc
def lowB (z : Str) : Bool := z.cps.toList.all fun c => decide (97 ≤ c) && decide (c ≤ 122)
theorem lowB_ok {z : Str} (h : lowB z = true) : Lower z := by
  intro c hc
  unfold lowB at h
  rw [List.all_eq_true] at h
  simpa using h c hc
theorem ok_of {z : Str} (h : ∀ c ∈ z.cps.toList, c < 0x110000) : PyData.strOk z = true := by
  unfold PyData.strOk
  rw [← Array.all_toList, List.all_eq_true]
  intro c hc
  exact decide_eq_true (h c hc)
theorem Lower.ok {z : Str} (h : Lower z) : PyData.strOk z = true := ok_of fun c hc => by have := h c hc; omega
theorem Bits.ok {z : Str} (h : Bits z) : PyData.strOk z = true := ok_of fun c hc => by rcases h c hc with e | e <;> omega
theorem fine_str {z : Str} {st : Sto} (hl : z.length ≤ lineN) (ho : PyData.strOk z = true) : Fine (.str z) st := ⟨⟨⟨_, rfl⟩, fun y e => by cases e; exact hl⟩, fun y e => by cases e; exact ho⟩
theorem kept_all : (keptS.all fun z => lowB z && decide (z.length ≤ 7)) = true := by decide +kernel
theorem kept_low {z : Str} (h : z ∈ keptS) : Lower z ∧ z.length ≤ 7 := by
  have := List.all_eq_true.mp kept_all z h
  simp only [Bool.and_eq_true, decide_eq_true_eq] at this
  exact ⟨lowB_ok this.1, this.2⟩
theorem letters_eq : ("abcdefghijklmnopqrstuvwxyz" : Str).cps.toList = [97, 98, 99, 100, 101, 102, 103, 104, 105, 106, 107, 108, 109, 110, 111, 112, 113, 114, 115, 116, 117, 118, 119, 120, 121, 122] := by decide +kernel
theorem letters_len : ("abcdefghijklmnopqrstuvwxyz" : Str).length = 26 := by decide +kernel
theorem letter_at {k : Int} {st : Sto} (h : 0 ≤ k ∧ k < 26) : ∃ z : Str, gIx (.str "abcdefghijklmnopqrstuvwxyz") (.int k) st = .ok (.str z) st ∧ z.length = 1 ∧ Lower z := by
  have hN : (26 : Nat) ≤ lineN := by decide
  have hk : k.toNat < 26 := by omega
  have hl : ("abcdefghijklmnopqrstuvwxyz" : Str).cps.toList.length = 26 := by rw [letters_eq]; rfl
  have e : atI ("abcdefghijklmnopqrstuvwxyz" : Str).cps.toList k = some (("abcdefghijklmnopqrstuvwxyz" : Str).cps.toList[k.toNat]'(by omega)) := by
    unfold atI ixN
    rw [if_pos h.1, if_pos (by omega), Option.bind_some, List.getElem?_eq_getElem]
  refine ⟨⟨#[("abcdefghijklmnopqrstuvwxyz" : Str).cps.toList[k.toNat]'(by omega)]⟩, ?_, rfl, ?_⟩
  · unfold gIx
    dsimp only
    rw [if_pos (by rw [letters_len]; exact hN), e]
  · intro c hc
    have hc' : c = ("abcdefghijklmnopqrstuvwxyz" : Str).cps.toList[k.toNat]'(by omega) := by simpa using hc
    have hm : c ∈ ("abcdefghijklmnopqrstuvwxyz" : Str).cps.toList := by rw [hc']; exact List.getElem_mem _
    rw [letters_eq] at hm
    simp at hm
    omega
def bodyN : DS := sPar [6, 5] (aCons (d2 gAdd (dVar 6) (d2 gIx (dVar 2) (d2 gMod (dCall gInt1 (aCons (dVar 5) aNil)) (dC (.int 26))))) (aCons (d2 gFdiv (dVar 5) (dC (.int 26))) aNil))
theorem bodyN_eq {a0 a1 a3 a4 a7 : Option D} {num : Int} {w : Str} {S : Sto} (hw : w.length ≤ 1000) : ∃ (num' : Int) (w' : Str), bodyN [a0, a1, some (.str "abcdefghijklmnopqrstuvwxyz"), a3, a4, some (.int num), some (.str w), a7] S = .next [a0, a1, some (.str "abcdefghijklmnopqrstuvwxyz"), a3, a4, some (.int num'), some (.str w'), a7] S ∧ w'.length = w.length + 1 ∧ (Lower w → Lower w') := by
  have hN : lineN = 16777216 := by decide
  have h1 := Int.emod_nonneg num (show (26 : Int) ≠ 0 by decide)
  have h2 := Int.emod_lt_of_pos num (show (0 : Int) < 26 by decide)
  obtain ⟨z, z1, z2, z3⟩ := letter_at (st := S) ⟨h1, h2⟩
  refine ⟨num / 26, w ++ z, ?_, by rw [len_app, z2], fun h => h.app z3⟩
  have v2 : ∀ s, dVar 2 [a0, a1, some (.str "abcdefghijklmnopqrstuvwxyz"), a3, a4, some (.int num), some (.str w), a7] s = .ok (.str "abcdefghijklmnopqrstuvwxyz") s := fun _ => rfl
  have v5 : ∀ s, dVar 5 [a0, a1, some (.str "abcdefghijklmnopqrstuvwxyz"), a3, a4, some (.int num), some (.str w), a7] s = .ok (.int num) s := fun _ => rfl
  have v6 : ∀ s, dVar 6 [a0, a1, some (.str "abcdefghijklmnopqrstuvwxyz"), a3, a4, some (.int num), some (.str w), a7] s = .ok (.str w) s := fun _ => rfl
  unfold bodyN sPar
  simp only [a_aCons, a_d2, a_dCall, a_aNil, a_dC, v2, v5, v6, R.bind_ok, gInt1, mod_ok (show (0 : Int) < 26 by decide), z1, add_str (show w.length + z.length ≤ lineN by omega), fdiv_ok (show (0 : Int) < 26 by decide) (show (26 : Int).natAbs < 2 ^ 200 by decide), R.into_ok]
  rfl
theorem notIn_nil {w : Str} {st : Sto} {u : Nat} (h : st[u]? = some (.lst [])) : gIn true (.str w) (.ref u) st = .ok (.bl true) st := by
  unfold gIn
  split
  · rename_i h2; cases h2
  · simp only [toV, seqD, h, Option.bind_some, toVs]
    rfl
theorem qaa : (("q" : Str) ++ ("a" : Str)) ++ ("a" : Str) = "qaa" := by decide +kernel
theorem name_out {n : Nat} {st : Sto} {u : Nat} (h : Dr n st) (hn : n + 5 < 1000000) (hu : 3 ≤ u) (hU : st[u]? = some (.lst [])) : Out (G__law_name [.ref 1, .ref u] st) (fun d s => ∃ w : Str, d = .str w ∧ w.length ≤ 16 ∧ Lower w ∧ Dr (n + 5) s ∧ Fr st s) := by
  have hN : lineN = 16777216 := by decide
  have e0 : ev0 N__law_name [.ref 1, .ref u] = [some (.ref 1), some (.ref u), none, none, none, none, none, none] := rfl
  obtain ⟨d1', s1, e1, way, rfl, _, _, D1, F1⟩ := (take_out (many := 7) h (by omega) ⟨by decide, by decide⟩).ex
  obtain ⟨d2', s2, e2, sz, rfl, z1, z2, D2, F2⟩ := (take_out (many := 8) D1 (by omega) ⟨by decide, by decide⟩).ex
  obtain ⟨d3', s3, e3, num, rfl, _, _, D3, F3⟩ := (take_out (many := 208827064576) D2 (by omega) ⟨by decide, by decide⟩).ex
  have q1 : sPar [2, 3, 4] (aCons (dC (.str "abcdefghijklmnopqrstuvwxyz")) (aCons (dCall G__law_take (aCons (dVar 0) (aCons (dC (.int 7)) aNil))) (aCons (d2 gAdd (dC (.int 1)) (dCall G__law_take (aCons (dVar 0) (aCons (dC (.int 8)) aNil)))) aNil))) (ev0 N__law_name [.ref 1, .ref u]) st = .next [some (.ref 1), some (.ref u), some (.str "abcdefghijklmnopqrstuvwxyz"), some (.int way), some (.int (1 + sz)), none, none, none] s2 := by
    have v0 : ∀ s, dVar 0 (ev0 N__law_name [.ref 1, .ref u]) s = .ok (.ref 1) s := fun _ => rfl
    unfold sPar
    simp only [a_aCons, a_dC, R.bind_ok, a_dCall, v0, a_aNil, e1, a_d2, e2, gAdd, R.into_ok]
    rfl
  have q2 : sPar [5, 6] (aCons (dCall G__law_take (aCons (dVar 0) (aCons (d2 gPow (dC (.int 26)) (dC (.int 8))) aNil))) (aCons (dC (.str "")) aNil)) [some (.ref 1), some (.ref u), some (.str "abcdefghijklmnopqrstuvwxyz"), some (.int way), some (.int (1 + sz)), none, none, none] s2 = .next [some (.ref 1), some (.ref u), some (.str "abcdefghijklmnopqrstuvwxyz"), some (.int way), some (.int (1 + sz)), some (.int num), some (.str ""), none] s3 := by
    have v0 : ∀ s, dVar 0 [some (.ref 1), some (.ref u), some (.str "abcdefghijklmnopqrstuvwxyz"), some (.int way), some (.int (1 + sz)), none, none, none] s = .ok (.ref 1) s := fun _ => rfl
    have p26 : ∀ s, d2 gPow (dC (.int 26)) (dC (.int 8)) [some (.ref 1), some (.ref u), some (.str "abcdefghijklmnopqrstuvwxyz"), some (.int way), some (.int (1 + sz)), none, none, none] s = .ok (.int 208827064576) s := fun _ => rfl
    unfold sPar
    simp only [a_aCons, a_dC, R.bind_ok, a_dCall, v0, a_aNil, p26, e3, R.into_ok]
    rfl
  -- word and size behind the third statement
  have A : ∃ (s4 : Sto) (w : Str) (size : Nat), (sIf (dB (d2 (gEqW false) (dVar 3) (dC (.int 0)))) (sPar [6, 4] (aCons (dCall G__law_pick (aCons (dVar 0) (aCons (dCall G__law_kept aNil) aNil))) (aCons (dC (.int 1)) aNil))) sNil) [some (.ref 1), some (.ref u), some (.str "abcdefghijklmnopqrstuvwxyz"), some (.int way), some (.int (1 + sz)), some (.int num), some (.str ""), none] s3 = .next [some (.ref 1), some (.ref u), some (.str "abcdefghijklmnopqrstuvwxyz"), some (.int way), some (.int size), some (.int num), some (.str w), none] s4 ∧ Lower w ∧ w.length + size ≤ 8 ∧ Dr (n + 5) s4 ∧ Fr s3 s4 := by
    have v0 : ∀ s, dVar 0 [some (.ref 1), some (.ref u), some (.str "abcdefghijklmnopqrstuvwxyz"), some (.int way), some (.int (1 + sz)), some (.int num), some (.str ""), none] s = .ok (.ref 1) s := fun _ => rfl
    have v3 : ∀ s, dVar 3 [some (.ref 1), some (.ref u), some (.str "abcdefghijklmnopqrstuvwxyz"), some (.int way), some (.int (1 + sz)), some (.int num), some (.str ""), none] s = .ok (.int way) s := fun _ => rfl
    by_cases hw : way = 0
    · have l3 : 3 ≤ s3.length := by
        obtain ⟨L, C, r, t, h0, h1, h2, _⟩ := D3.ex
        exact (List.getElem?_eq_some_iff.mp h2).1
      obtain ⟨d4, s4, e4, hm, D4, F4⟩ := (pick_out (n := n + 3) (st := s3 ++ [.lst (keptS.map .str)]) (i := s3.length) (ds := keptS.map .str) (D3.ext _) (by omega) l3 get_mid ⟨by decide, by decide⟩).ex
      obtain ⟨z, hz, rfl⟩ := List.mem_map.mp hm
      obtain ⟨k1, k2⟩ := kept_low hz
      refine ⟨s4, z, 1, ?_, k1, by omega, D4.mono (by omega), (Fr.ext _ _).trans F4⟩
      rw [a_sIf, a_dB, a_d2, v3, R.bind_ok, a_dC, R.bind_ok, eqv_int, R.bind_ok, decide_eq_true hw]
      simp only [asB, R.into_ok, if_true]
      unfold sPar
      simp only [a_aCons, a_dC, R.bind_ok, a_dCall, v0, a_aNil, law_kept_eq, e4, R.into_ok]
      rfl
    · refine ⟨s3, "", (1 + sz).toNat, ?_, lowE, by rw [lenE]; omega, D3.mono (by omega), Fr.refl _⟩
      rw [a_sIf, a_dB, a_d2, v3, R.bind_ok, a_dC, R.bind_ok, eqv_int, R.bind_ok, decide_eq_false hw]
      simp only [asB, R.into_ok, Bool.false_eq_true, if_false]
      rw [a_sNil, show ((1 + sz).toNat : Int) = 1 + sz from by omega]
  obtain ⟨s4, w, size, q3, hlw, hsz, D4, F4⟩ := A
  have hr : dIt gRange1 (aCons (dVar 4) aNil) [some (.ref 1), some (.ref u), some (.str "abcdefghijklmnopqrstuvwxyz"), some (.int way), some (.int size), some (.int num), some (.str w), none] s4 = .ok ⟨rngD 0 size, []⟩ s4 := by
    have hr : aCons (dVar 4) aNil [some (.ref 1), some (.ref u), some (.str "abcdefghijklmnopqrstuvwxyz"), some (.int way), some (.int size), some (.int num), some (.str w), none] s4 = .ok [.int size] s4 := rfl
    unfold dIt
    rw [hr, R.bind_ok, range1_eq (by omega)]
  have L := loop_so (live := IT.live ⟨rngD 0 size, []⟩) (tg := .nm 7) (body := bodyN) (Rt := fun _ _ => False) (fun ds e s => s = s4 ∧ ∃ (nu : Int) (w : Str) (x7 : Option D), e = [some (.ref 1), some (.ref u), some (.str "abcdefghijklmnopqrstuvwxyz"), some (.int way), some (.int size), some (.int nu), some (.str w), x7] ∧ w.length + ds.length ≤ 8 ∧ Lower w)
    (fun ds e s _ => fun q hq => by cases hq) (fun d ds e s ⟨hs, nu, w, x7, he, hl, hb⟩ => by
      subst hs he
      simp only [List.length_cons] at hl
      obtain ⟨nu', w', g1, g2, g3⟩ := bodyN_eq (a0 := some (.ref 1)) (a1 := some (.ref u)) (a3 := some (.int way)) (a4 := some (.int size)) (a7 := some d) (num := nu) (w := w) (S := s) (by omega)
      refine ⟨_, rfl, ?_⟩
      show SO (bodyN [some (.ref 1), some (.ref u), some (.str "abcdefghijklmnopqrstuvwxyz"), some (.int way), some (.int size), some (.int nu), some (.str w), some d] s) _ _
      rw [g1]
      exact ⟨rfl, nu', w', some d, rfl, by omega, g3 hb⟩)
    (rngD 0 size) [some (.ref 1), some (.ref u), some (.str "abcdefghijklmnopqrstuvwxyz"), some (.int way), some (.int size), some (.int num), some (.str w), none] s4 ⟨rfl, num, w, none, rfl, by simp [rngD]; omega, hlw⟩
  have hF : sFor (dIt gRange1 (aCons (dVar 4) aNil)) (.nm 7) bodyN [some (.ref 1), some (.ref u), some (.str "abcdefghijklmnopqrstuvwxyz"), some (.int way), some (.int size), some (.int num), some (.str w), none] s4 = loopS (IT.live ⟨rngD 0 size, []⟩) (.nm 7) bodyN (rngD 0 size) [some (.ref 1), some (.ref u), some (.str "abcdefghijklmnopqrstuvwxyz"), some (.int way), some (.int size), some (.int num), some (.str w), none] s4 := by
    unfold sFor
    rw [hr, R.into_ok]
  obtain ⟨e, s, he, hs, nu, w5, x7, hee, hl5, hlow⟩ := SO.nx L
  subst hs hee
  rw [he] at hF
  unfold bodyN at hF
  simp only [List.length_nil, Nat.add_zero] at hl5
  have v1 : ∀ s', dVar 1 [some (.ref 1), some (.ref u), some (.str "abcdefghijklmnopqrstuvwxyz"), some (.int way), some (.int size), some (.int nu), some (.str w5), x7] s' = .ok (.ref u) s' := fun _ => rfl
  have v6 : ∀ s', dVar 6 [some (.ref 1), some (.ref u), some (.str "abcdefghijklmnopqrstuvwxyz"), some (.int way), some (.int size), some (.int nu), some (.str w5), x7] s' = .ok (.str w5) s' := fun _ => rfl
  have F04 : Fr st s := F1.trans (F2.trans (F3.trans F4))
  obtain ⟨t, en⟩ := law_is_name_yl (st := s) (fine_str (st := s) (show w5.length ≤ lineN by omega) hlow.ok)
  have hUs : (s ++ t)[u]? = some (.lst []) := get_ext _ (F04.at_ u _ hu hU)
  have q5 : (sIf (bAnd (dB (dCall G__law_is_name (aCons (dVar 6) aNil))) (dB (d2 (gIn true) (dVar 6) (dVar 1)))) (sRet (dVar 6)) sNil) [some (.ref 1), some (.ref u), some (.str "abcdefghijklmnopqrstuvwxyz"), some (.int way), some (.int size), some (.int nu), some (.str w5), x7] s = if nameB (.str w5) = true then .ret (.str w5) (s ++ t) else .next [some (.ref 1), some (.ref u), some (.str "abcdefghijklmnopqrstuvwxyz"), some (.int way), some (.int size), some (.int nu), some (.str w5), x7] (s ++ t) := by
    rw [a_sIf, a_bAnd, a_dB, a_dCall, a_aCons, v6, R.bind_ok, a_aNil, R.bind_ok, R.bind_ok, en, R.bind_ok]
    cases nameB (.str w5) with
    | true =>
      simp only [asB, R.bind_ok, if_true, a_dB, a_d2, v6, v1, notIn_nil hUs, R.into_ok, a_sRet]
    | false =>
      simp only [asB, R.bind_ok, Bool.false_eq_true, if_false, R.into_ok, a_sNil]
  unfold G__law_name fb__law_name
  rw [a_sSeq q1, a_sSeq q2, a_sSeq q3, a_sSeq hF]
  by_cases hnm : nameB (.str w5) = true
  · rw [if_pos hnm] at q5
    rw [a_sSeqR q5]
    exact ⟨w5, rfl, by omega, hlow, D4.ext _, F04.trans (Fr.ext _ _)⟩
  · rw [if_neg hnm] at q5
    rw [a_sSeq q5]
    have hr2 : dIt gRange1 (aCons (dC (.int 676)) aNil) [some (.ref 1), some (.ref u), some (.str "abcdefghijklmnopqrstuvwxyz"), some (.int way), some (.int size), some (.int nu), some (.str w5), x7] (s ++ t) = .ok ⟨rngD 0 676, []⟩ (s ++ t) := by
      have hr : aCons (dC (.int 676)) aNil [some (.ref 1), some (.ref u), some (.str "abcdefghijklmnopqrstuvwxyz"), some (.int way), some (.int size), some (.int nu), some (.str w5), x7] (s ++ t) = .ok [.int (676 : Nat)] (s ++ t) := rfl
      unfold dIt
      rw [hr, R.bind_ok, range1_eq (by omega)]
    have er : rngD 0 676 = .int 0 :: (rngD 0 676).tail := rfl
    have ga : ∀ s', gIx (.str "abcdefghijklmnopqrstuvwxyz") (.int 0) s' = .ok (.str "a") s' := fun s' => by
      unfold gIx
      dsimp only
      rw [if_pos (by rw [letters_len]; omega), letters_eq]
      rfl
    have q6 : sFor (dIt gRange1 (aCons (dC (.int 676)) aNil)) (.nm 7) (sSeq (sAsg (d2 gAdd (d2 gAdd (dC (.str "q")) (d2 gIx (dVar 2) (d2 gFdiv (dVar 7) (dC (.int 26))))) (d2 gIx (dVar 2) (d2 gMod (dCall gInt1 (aCons (dVar 7) aNil)) (dC (.int 26))))) (.nm 6)) (sIf (dB (d2 (gIn true) (dVar 6) (dVar 1))) (sRet (dVar 6)) sNil)) [some (.ref 1), some (.ref u), some (.str "abcdefghijklmnopqrstuvwxyz"), some (.int way), some (.int size), some (.int nu), some (.str w5), x7] (s ++ t) = .ret (.str "qaa") (s ++ t) := by
      have b1 : sAsg (d2 gAdd (d2 gAdd (dC (.str "q")) (d2 gIx (dVar 2) (d2 gFdiv (dVar 7) (dC (.int 26))))) (d2 gIx (dVar 2) (d2 gMod (dCall gInt1 (aCons (dVar 7) aNil)) (dC (.int 26))))) (.nm 6) [some (.ref 1), some (.ref u), some (.str "abcdefghijklmnopqrstuvwxyz"), some (.int way), some (.int size), some (.int nu), some (.str w5), some (.int 0)] (s ++ t) = .next [some (.ref 1), some (.ref u), some (.str "abcdefghijklmnopqrstuvwxyz"), some (.int way), some (.int size), some (.int nu), some (.str "qaa"), some (.int 0)] (s ++ t) := by
        have v2 : ∀ s', dVar 2 [some (.ref 1), some (.ref u), some (.str "abcdefghijklmnopqrstuvwxyz"), some (.int way), some (.int size), some (.int nu), some (.str w5), some (.int 0)] s' = .ok (.str "abcdefghijklmnopqrstuvwxyz") s' := fun _ => rfl
        have v7 : ∀ s', dVar 7 [some (.ref 1), some (.ref u), some (.str "abcdefghijklmnopqrstuvwxyz"), some (.int way), some (.int size), some (.int nu), some (.str w5), some (.int 0)] s' = .ok (.int 0) s' := fun _ => rfl
        have l1 : ("q" : Str).length + ("a" : Str).length ≤ lineN := by decide
        have l2 : (("q" : Str) ++ ("a" : Str)).length + ("a" : Str).length ≤ lineN := by decide +kernel
        rw [a_sSet]
        simp only [a_d2, a_dC, a_dCall, a_aCons, a_aNil, v2, v7, R.bind_ok, fdiv_ok (show (0 : Int) < 26 by decide) (show (26 : Int).natAbs < 2 ^ 200 by decide), gInt1, mod_ok (show (0 : Int) < 26 by decide), Int.zero_ediv, Int.zero_emod, ga, add_str l1, add_str l2, qaa, R.into_ok]
        rfl
      have b2 : (sIf (dB (d2 (gIn true) (dVar 6) (dVar 1))) (sRet (dVar 6)) sNil) [some (.ref 1), some (.ref u), some (.str "abcdefghijklmnopqrstuvwxyz"), some (.int way), some (.int size), some (.int nu), some (.str "qaa"), some (.int 0)] (s ++ t) = .ret (.str "qaa") (s ++ t) := by
        have w1 : ∀ s', dVar 1 [some (.ref 1), some (.ref u), some (.str "abcdefghijklmnopqrstuvwxyz"), some (.int way), some (.int size), some (.int nu), some (.str "qaa"), some (.int 0)] s' = .ok (.ref u) s' := fun _ => rfl
        have w6 : ∀ s', dVar 6 [some (.ref 1), some (.ref u), some (.str "abcdefghijklmnopqrstuvwxyz"), some (.int way), some (.int size), some (.int nu), some (.str "qaa"), some (.int 0)] s' = .ok (.str "qaa") s' := fun _ => rfl
        simp only [a_sIf, a_dB, a_d2, w6, w1, R.bind_ok, notIn_nil hUs, asB, R.into_ok, if_true, a_sRet]
      unfold sFor
      rw [hr2, R.into_ok]
      show loopS _ _ _ (rngD 0 676) _ _ = _
      rw [er]
      unfold loopS
      rw [if_pos (show IT.live ⟨.int 0 :: (rngD 0 676).tail, []⟩ (s ++ t) from fun q hq => by cases hq)]
      show (match sSeq _ _ [some (.ref 1), some (.ref u), some (.str "abcdefghijklmnopqrstuvwxyz"), some (.int way), some (.int size), some (.int nu), some (.str w5), some (.int 0)] (s ++ t) with
        | .next e s => loopS _ _ _ _ e s
        | .cnt e s => loopS _ _ _ _ e s
        | .brk e s => .next e s
        | r => r) = _
      rw [a_sSeq b1, b2]
    rw [a_sSeqR q6]
    exact ⟨"qaa", rfl, by decide, lowB_ok (by decide +kernel), D4.ext _, F04.trans (Fr.ext _ _)⟩
end K00
end Fn
end
section
set_option Elab.async false
set_option linter.all false
set_option maxRecDepth 100000
set_option maxHeartbeats 4000000
namespace Fn
namespace K00
open PySem PySem.Spec PyProof.Rows L2 LamX
/-! ### short readable texts -/
structure Sh (z : Str) (n : Nat) : Prop where
  len : z.length ≤ n
  ok : ∀ c ∈ z.cps.toList, c < 0x110000
theorem Sh.app {a b : Str} {n m : Nat} (ha : Sh a n) (hb : Sh b m) : Sh (a ++ b) (n + m) := by
  refine ⟨by rw [len_app]; have := ha.len; have := hb.len; omega, fun c hc => ?_⟩
  rw [str_app, List.mem_append] at hc
  exact hc.elim (ha.ok c) (hb.ok c)
theorem Sh.cut {z : Str} {n : Nat} (h : Sh z n) (lo hi : Option Int) : Sh (cutS z lo hi) n := by
  have e : (cutS z lo hi).cps.toList = (z.cps.toList.drop (HT.sIx z.length 0 lo)).take (HT.sIx z.length z.length hi - HT.sIx z.length 0 lo) := by simp [cutS]
  have hz : z.cps.toList.length = z.length := by simp [Str.length]
  refine ⟨?_, fun c hc => ?_⟩
  · have : (cutS z lo hi).length = (cutS z lo hi).cps.toList.length := by simp [Str.length]
    rw [this, e]
    have := h.len
    simp only [List.length_take, List.length_drop]
    omega
  · rw [e] at hc
    exact h.ok c (List.mem_of_mem_drop (List.mem_of_mem_take hc))
theorem Sh.rep {z : Str} {n : Nat} (h : Sh z n) (k : Nat) : Sh (repS z k) (k * n) := by
  have e := repS_toList z k
  have hz : z.cps.toList.length = z.length := by simp [Str.length]
  refine ⟨?_, fun c hc => ?_⟩
  · have e2 : (repS z k).length = (repS z k).cps.toList.length := by simp [Str.length]
    rw [e2, e, List.length_flatten]
    simp only [List.map_replicate, List.sum_replicate_nat]
    rw [hz]
    exact Nat.mul_le_mul_left k h.len
  · rw [e] at hc
    obtain ⟨l, hl, hc⟩ := List.mem_flatten.mp hc
    rw [(List.mem_replicate.mp hl).2] at hc
    exact h.ok c hc
theorem Sh.mono {z : Str} {n m : Nat} (h : Sh z n) (k : n ≤ m) : Sh z m := ⟨Nat.le_trans h.len k, h.ok⟩
theorem Sh.fine {z : Str} {n : Nat} (h : Sh z n) (hn : n ≤ 1000) (st : Sto) : Fine (.str z) st := by
  have hN : lineN = 16777216 := by decide
  exact fine_str (by have := h.len; omega) (ok_of h.ok)
theorem Lower.sh {z : Str} {n : Nat} (h : Lower z) (hl : z.length ≤ n) : Sh z n := ⟨hl, fun c hc => by have := h c hc; omega⟩
theorem Bits.sh {z : Str} {n : Nat} (h : Bits z) (hl : z.length ≤ n) : Sh z n := ⟨hl, fun c hc => by rcases h c hc with e | e <;> omega⟩
def shB (z : Str) (n : Nat) : Bool := decide (z.length ≤ n) && z.cps.toList.all fun c => decide (c < 0x110000)
theorem shB_ok {z : Str} {n : Nat} (h : shB z n = true) : Sh z n := by
  unfold shB at h
  rw [Bool.and_eq_true, List.all_eq_true] at h
  exact ⟨of_decide_eq_true h.1, fun c hc => of_decide_eq_true (h.2 c hc)⟩
theorem upper_list : ∀ l : List Nat, (∀ c ∈ l, 97 ≤ c ∧ c ≤ 122) → ∃ l' : List Nat, Txt.upper ⟨l.toArray⟩ = ⟨l'.toArray⟩ ∧ l'.length = l.length ∧ ∀ c ∈ l', c < 0x110000
  | [], _ => ⟨[], by decide +kernel, rfl, fun c hc => by cases hc⟩
  | c :: l, h => by
    obtain ⟨l', h1, h2, h3⟩ := upper_list l fun d hd => h d (List.mem_cons_of_mem _ hd)
    have hc := h c List.mem_cons_self
    have e0 : Txt.upper (⟨#[]⟩ : Str) = ⟨#[]⟩ := by decide +kernel
    have e1 : Txt.upper ((⟨#[]⟩ : Str) ++ ⟨#[c]⟩) = (⟨#[]⟩ : Str) ++ ⟨#[c - 32]⟩ := PySem.W.KOpn.upper_sign e0 (by omega) (by rw [if_pos hc])
    have e2 : ((⟨(c :: l).toArray⟩ : Str)) = ((⟨#[]⟩ : Str) ++ ⟨#[c]⟩) ++ ⟨l.toArray⟩ := by
      apply PySem.Str.ext'
      show _ = ((#[] ++ #[c] : Array Nat) ++ l.toArray)
      simp
    refine ⟨(c - 32) :: l', ?_, by simp [h2], fun d hd => ?_⟩
    · rw [e2, PySem.W.KOpn.upper_app, e1, h1]
      apply PySem.Str.ext'
      show ((#[] ++ #[c - 32] : Array Nat) ++ l'.toArray) = _
      simp
    · rcases List.mem_cons.mp hd with e | e
      · omega
      · exact h3 d e
theorem Lower.upper {z : Str} {n : Nat} (h : Lower z) (hl : z.length ≤ n) : Sh (Txt.upper z) n := by
  obtain ⟨l', h1, h2, h3⟩ := upper_list z.cps.toList h
  have e : (⟨z.cps.toList.toArray⟩ : Str) = z := by
    apply PySem.Str.ext'
    simp
  rw [e] at h1
  rw [h1]
  refine ⟨?_, fun c hc => h3 c (by simpa using hc)⟩
  show l'.toArray.size ≤ n
  have : z.cps.toList.length = z.length := by simp [Str.length]
  simp
  omega
end K00
end Fn
end
section
set_option Elab.async false
set_option linter.all false
set_option maxRecDepth 100000
set_option maxHeartbeats 4000000
namespace Fn
namespace K00
open PySem PySem.Spec PyProof.Rows L2 LamX
theorem o_some {f : DE} {env : Ev} {st s : Sto} {i : Int} (h : f env st = .ok (.int i) s) : oSome f env st = .ok (some i) s := by
  unfold oSome
  rw [h]
  rfl
theorem o_none {env : Ev} {st : Sto} : oNone env st = .ok none st := rfl
theorem cut_str {z : Str} {lo hi : Option Int} {st : Sto} (h : z.length ≤ 1000) : gCut (.str z) lo hi st = .ok (.str (cutS z lo hi)) st := by
  have hN : lineN = 16777216 := by decide
  show (if z.length ≤ lineN then R.ok (D.str (cutS z lo hi)) st else .bad) = _
  rw [if_pos (by omega)]
theorem cut_tup {ds : List D} {lo hi : Option Int} {st : Sto} : gCut (.tup ds) lo hi st = .ok (.tup (cutD ds lo hi)) st := rfl
theorem rep_str {z : Str} {n : Nat} {st : Sto} (h : z.length ≤ 1000) (hn : n ≤ 100) : gMul (.str z) (.int n) st = .ok (.str (repS z n)) st := by
  have hN : lineN = 16777216 := by decide
  have h1 : -(2 ^ 63) ≤ (n : Int) ∧ (n : Int) < 2 ^ 63 ∧ z.length * (n : Int).toNat ≤ lineN := by
    refine ⟨by omega, by omega, ?_⟩
    rw [Int.toNat_natCast, hN]
    have := Nat.mul_le_mul h hn
    omega
  unfold gMul
  dsimp only
  rw [if_pos h1, Int.toNat_natCast]
theorem addS {a b : Str} {n m : Nat} {st : Sto} (ha : Sh a n) (hb : Sh b m) (h : n + m ≤ 1000) : gAdd (.str a) (.str b) st = .ok (.str (a ++ b)) st := by
  have hN : lineN = 16777216 := by decide
  have h1 := ha.len
  have h2 := hb.len
  exact add_str (by omega)
/-- the signs of the alphabet, as a list -/
theorem list_letters {st : Sto} : gListA [.str "abcdefghijklmnopqrstuvwxyz"] st = .ok (.ref st.length) (st ++ [.lst (signsD "abcdefghijklmnopqrstuvwxyz")]) := by
  have h : ("abcdefghijklmnopqrstuvwxyz" : Str).cps.size ≤ lineN := by
    have hN : lineN = 16777216 := by decide
    have := letters_len
    unfold Str.length at this
    omega
  unfold gListA
  dsimp only
  rw [if_pos h]
theorem letter_low {d : D} (h : d ∈ signsD "abcdefghijklmnopqrstuvwxyz") : ∃ z : Str, d = .str z ∧ Sh z 1 := by
  unfold signsD at h
  obtain ⟨c, hc, rfl⟩ := List.mem_map.mp h
  refine ⟨⟨#[c]⟩, rfl, ⟨Nat.le_refl _, fun x hx => ?_⟩⟩
  have e : x = c := by simpa using hx
  rw [letters_eq] at hc
  simp at hc
  omega
theorem Dr.three {n : Nat} {s : Sto} (h : Dr n s) : 3 ≤ s.length := by
  obtain ⟨L, C, r, t, h0, h1, h2, _⟩ := h.ex
  exact (List.getElem?_eq_some_iff.mp h2).1
/-- the lists of near things -/
def NearP (P : D → Sto → Prop) (n : Nat) (st : Sto) (d : D) (s : Sto) : Prop := ∃ (i : Nat) (ds : List D), d = .ref i ∧ s[i]? = some (.lst ds) ∧ 3 ≤ i ∧ (∀ x ∈ ds, P x s) ∧ Dr n s ∧ Fr st s
theorem fine_ref_l {i : Nat} {ds : List D} {s : Sto} (h : s[i]? = some (.lst ds)) : Fine (.ref i) s := ⟨⟨⟨"list", by unfold tyName; dsimp only; rw [h]⟩, fun z e => by cases e⟩, fun z e => by cases e⟩
theorem fine_ref_d {i : Nat} {ds : List (Key × D)} {s : Sto} (h : s[i]? = some (.dict ds)) : Fine (.ref i) s := ⟨⟨⟨"dict", by unfold tyName; dsimp only; rw [h]⟩, fun z e => by cases e⟩, fun z e => by cases e⟩
theorem fine_oth {d : D} {s : Sto} (h : (match d with | .non => true | .bl _ => true | .int _ => true | .tup _ => true | _ => false) = true) : Fine d s := by
  cases d with
  | non => exact ⟨⟨⟨_, rfl⟩, fun z e => by cases e⟩, fun z e => by cases e⟩
  | bl b => exact ⟨⟨⟨_, rfl⟩, fun z e => by cases e⟩, fun z e => by cases e⟩
  | int b => exact ⟨⟨⟨_, rfl⟩, fun z e => by cases e⟩, fun z e => by cases e⟩
  | tup b => exact ⟨⟨⟨_, rfl⟩, fun z e => by cases e⟩, fun z e => by cases e⟩
  | _ => cases h
theorem lsts_ok {ds : List D} {s : Sto} {fa : DA} {env : Ev} (h : fa env s = .ok ds s) (hl : ds.length ≤ 1000) : dLst fa env s = .ok (.ref s.length) (s ++ [.lst ds]) := by
  have hN : lineN = 16777216 := by decide
  rw [a_dLst, h, R.bind_ok, if_pos (by omega)]
theorem signs7 {z : Str} (h : z ∈ (["A", "0", " ", "_", "-", "\n", "~"] : List Str)) : Sh z 1 := by
  have e : ((["A", "0", " ", "_", "-", "\n", "~"] : List Str).all fun z => shB z 1) = true := by decide +kernel
  exact shB_ok (List.all_eq_true.mp e z h)
theorem near_names_out {n : Nat} {st : Sto} {z : Str} (h : Dr n st) (hn : n + 3 < 1000000) (hz : Lower z) (hl : z.length ≤ 16) : Out (G__law_near_names [.ref 1, .str z] st) (NearP Fine (n + 3) st) := by
  have hN : lineN = 16777216 := by decide
  have zs : Sh z 16 := hz.sh hl
  obtain ⟨d1', s1, e1, hm1, D1, F1⟩ := (pick_out (n := n) (st := st ++ [.lst (signsD "abcdefghijklmnopqrstuvwxyz")]) (i := st.length) (h.ext _) (by omega) h.three get_mid ⟨by
    have : (signsD "abcdefghijklmnopqrstuvwxyz").length = 26 := by unfold signsD; rw [letters_eq]; rfl
    omega, by
    have : (signsD "abcdefghijklmnopqrstuvwxyz").length = 26 := by unfold signsD; rw [letters_eq]; rfl
    omega⟩).ex
  obtain ⟨l, rfl, ls⟩ := letter_low hm1
  obtain ⟨d2', s2, e2, hm2, D2, F2⟩ := (pick_out (n := n + 1) (st := s1 ++ [.lst (keptS.map .str)]) (i := s1.length) (D1.ext _) (by omega) D1.three get_mid ⟨by decide, by decide⟩).ex
  obtain ⟨k, hk, rfl⟩ := List.mem_map.mp hm2
  have ks : Sh k 7 := (kept_low hk).1.sh (kept_low hk).2
  have q1 : sPar [2, 3] (aCons (dCall G__law_pick (aCons (dVar 0) (aCons (dCall gListA (aCons (dC (.str "abcdefghijklmnopqrstuvwxyz")) aNil)) aNil))) (aCons (dCall G__law_pick (aCons (dVar 0) (aCons (dCall G__law_kept aNil) aNil))) aNil)) (ev0 N__law_near_names [.ref 1, .str z]) st = .next [some (.ref 1), some (.str z), some (.str l), some (.str k), none, none, none] s2 := by
    have v0 : ∀ s, dVar 0 (ev0 N__law_near_names [.ref 1, .str z]) s = .ok (.ref 1) s := fun _ => rfl
    unfold sPar
    simp only [a_aCons, a_dCall, v0, a_dC, a_aNil, R.bind_ok, list_letters, e1, law_kept_eq, e2, R.into_ok]
    rfl
  have q2 : sAsg (dLst (aCons (dVar 1) (aCons (d2 gAdd (dVar 1) (dVar 2)) (aCons (dCut (dVar 1) (oSome (dC (.int 1))) oNone) (aCons (dVar 2) (aCons (dCut (d2 gMul (dVar 1) (dC (.int 8))) oNone (oSome (dC (.int 8)))) (aCons (dCut (d2 gMul (dVar 1) (dC (.int 9))) oNone (oSome (dC (.int 9)))) (aCons (dVar 3) (aCons (d2 gAdd (dVar 3) (dVar 2)) (aCons (dCut (dVar 3) oNone (oSome (d1 gNeg (dC (.int 1))))) aNil)))))))))) (.nm 4) [some (.ref 1), some (.str z), some (.str l), some (.str k), none, none, none] s2 =
      .next [some (.ref 1), some (.str z), some (.str l), some (.str k), some (.ref s2.length), none, none] (s2 ++ [.lst [.str z, .str (z ++ l), .str (cutS z (some 1) none), .str l, .str (cutS (repS z 8) none (some 8)), .str (cutS (repS z 9) none (some 9)), .str k, .str (k ++ l), .str (cutS k none (some (-1)))]]) := by
    have v1 : ∀ s, dVar 1 [some (.ref 1), some (.str z), some (.str l), some (.str k), none, none, none] s = .ok (.str z) s := fun _ => rfl
    have v2 : ∀ s, dVar 2 [some (.ref 1), some (.str z), some (.str l), some (.str k), none, none, none] s = .ok (.str l) s := fun _ => rfl
    have v3 : ∀ s, dVar 3 [some (.ref 1), some (.str z), some (.str l), some (.str k), none, none, none] s = .ok (.str k) s := fun _ => rfl
    have o1 : ∀ (i : Int) s, oSome (dC (.int i)) [some (.ref 1), some (.str z), some (.str l), some (.str k), none, none, none] s = .ok (some i) s := fun i s => o_some rfl
    have o2 : ∀ s, oSome (d1 gNeg (dC (.int 1))) [some (.ref 1), some (.str z), some (.str l), some (.str k), none, none, none] s = .ok (some (-1)) s := fun s => o_some rfl
    have r8 : ∀ s, gMul (.str z) (.int 8) s = .ok (.str (repS z 8)) s := fun s => rep_str (n := 8) (by omega) (by omega)
    have r9 : ∀ s, gMul (.str z) (.int 9) s = .ok (.str (repS z 9)) s := fun s => rep_str (n := 9) (by omega) (by omega)
    have l8 := (zs.rep 8).len
    have l9 := (zs.rep 9).len
    have lk := ks.len
    rw [a_sSet, lsts_ok (ds := [.str z, .str (z ++ l), .str (cutS z (some 1) none), .str l, .str (cutS (repS z 8) none (some 8)), .str (cutS (repS z 9) none (some 9)), .str k, .str (k ++ l), .str (cutS k none (some (-1)))]) (by
      simp only [a_aCons, a_aNil, a_d2, a_dCut, a_dC, v1, v2, v3, o1, o2, o_none, R.bind_ok, r8, r9, addS zs ls (by omega), addS ks ls (by omega), cut_str (show z.length ≤ 1000 by omega), cut_str (show (repS z 8).length ≤ 1000 by omega), cut_str (show (repS z 9).length ≤ 1000 by omega), cut_str (show k.length ≤ 1000 by omega)]) (by simp), R.into_ok]
    rfl
  obtain ⟨xs, hxs⟩ : ∃ xs, xs = [D.str z, .str (z ++ l), .str (cutS z (some 1) none), .str l, .str (cutS (repS z 8) none (some 8)), .str (cutS (repS z 9) none (some 9)), .str k, .str (k ++ l), .str (cutS k none (some (-1)))] := ⟨_, rfl⟩
  have hX : ∀ x ∈ xs, ∃ y : Str, x = .str y ∧ Sh y 1000 := by
    rw [hxs]
    intro x hx
    simp only [List.mem_cons, List.not_mem_nil, or_false] at hx
    rcases hx with rfl | rfl | rfl | rfl | rfl | rfl | rfl | rfl | rfl
    · exact ⟨_, rfl, zs.mono (by omega)⟩
    · exact ⟨_, rfl, (zs.app ls).mono (by omega)⟩
    · exact ⟨_, rfl, (zs.cut _ _).mono (by omega)⟩
    · exact ⟨_, rfl, ls.mono (by omega)⟩
    · exact ⟨_, rfl, ((zs.rep 8).cut _ _).mono (by omega)⟩
    · exact ⟨_, rfl, ((zs.rep 9).cut _ _).mono (by omega)⟩
    · exact ⟨_, rfl, ks.mono (by omega)⟩
    · exact ⟨_, rfl, (ks.app ls).mono (by omega)⟩
    · exact ⟨_, rfl, (ks.cut _ _).mono (by omega)⟩
  have lX : xs.length = 9 := by rw [hxs]; rfl
  rw [← hxs] at q2
  clear hxs
  obtain ⟨d3', s4, e3, a, rfl, a1, a2, D4, F4⟩ := (take_out (many := (z.length : Int) + 1) (D2.ext [.lst xs]) (by omega) ⟨by omega, by
    have : (17 : Nat) < 2 ^ 200 := by decide
    omega⟩).ex
  have q3 : sAsg (dCall G__law_take (aCons (dVar 0) (aCons (d2 gAdd (dCall gLen (aCons (dVar 1) aNil)) (dC (.int 1))) aNil))) (.nm 5) [some (.ref 1), some (.str z), some (.str l), some (.str k), some (.ref s2.length), none, none] (s2 ++ [.lst xs]) = .next [some (.ref 1), some (.str z), some (.str l), some (.str k), some (.ref s2.length), some (.int a), none] s4 := by
    have v0 : ∀ s, dVar 0 [some (.ref 1), some (.str z), some (.str l), some (.str k), some (.ref s2.length), none, none] s = .ok (.ref 1) s := fun _ => rfl
    have v1 : ∀ s, dVar 1 [some (.ref 1), some (.str z), some (.str l), some (.str k), some (.ref s2.length), none, none] s = .ok (.str z) s := fun _ => rfl
    have gl : ∀ s, gLen [.str z] s = .ok (.int z.length) s := fun s => len_str (by omega)
    simp only [a_sSet, a_dCall, a_aCons, a_aNil, a_d2, a_dC, v0, v1, R.bind_ok, gl, gAdd, e3, R.into_ok]
    rfl
  have hi4 : s4[s2.length]? = some (.lst xs) := F4.at_ _ _ D2.three get_mid
  have hdi : dIter (dLst (aCons (dC (.str "A")) (aCons (dC (.str "0")) (aCons (dC (.str " ")) (aCons (dC (.str "_")) (aCons (dC (.str "-")) (aCons (dC (.str "\n")) (aCons (dC (.str "~")) aNil)))))))) [some (.ref 1), some (.str z), some (.str l), some (.str k), some (.ref s2.length), some (.int a), none] s4 = .ok ⟨([("A" : Str), "0", " ", "_", "-", "\n", "~"]).map .str, [(s4.length, .lst (([("A" : Str), "0", " ", "_", "-", "\n", "~"]).map .str))]⟩ (s4 ++ [.lst (([("A" : Str), "0", " ", "_", "-", "\n", "~"]).map .str)]) := by
    unfold dIter
    rw [lsts_ok (ds := ([("A" : Str), "0", " ", "_", "-", "\n", "~"]).map .str) rfl (by simp), R.bind_ok]
    unfold itD
    dsimp only
    rw [get_mid]
  obtain ⟨t, e4⟩ := lc_map (own := [6]) (tg := .nm 6) (elt := d2 gAdd (d2 gAdd (dCut (dVar 1) oNone (oSome (dVar 5))) (dVar 6)) (dCut (dVar 1) (oSome (dVar 5)) oNone)) hdi (by
    intro q hq
    have e : q = (s4.length, .lst (([("A" : Str), "0", " ", "_", "-", "\n", "~"]).map .str)) := by simpa using hq
    rw [e]
    exact get_mid) (fun d => match d with | .str y => .str ((cutS z none (some a) ++ y) ++ cutS z (some a) none) | d => d) (by simp; omega) fun d hd => by
    obtain ⟨y, hy, rfl⟩ := List.mem_map.mp hd
    have ys := signs7 hy
    refine ⟨[some (.ref 1), some (.str z), some (.str l), some (.str k), some (.ref s2.length), some (.int a), some (.str y)], rfl, fun s _ => .of_eq ?_⟩
    have v1 : ∀ s, dVar 1 [some (.ref 1), some (.str z), some (.str l), some (.str k), some (.ref s2.length), some (.int a), some (.str y)] s = .ok (.str z) s := fun _ => rfl
    have v6 : ∀ s, dVar 6 [some (.ref 1), some (.str z), some (.str l), some (.str k), some (.ref s2.length), some (.int a), some (.str y)] s = .ok (.str y) s := fun _ => rfl
    have o5 : ∀ s, oSome (dVar 5) [some (.ref 1), some (.str z), some (.str l), some (.str k), some (.ref s2.length), some (.int a), some (.str y)] s = .ok (some a) s := fun s => o_some rfl
    have c1 := zs.cut none (some a)
    have c2 := zs.cut (some a) none
    simp only [a_d2, a_dCut, v1, v6, o5, o_none, R.bind_ok, cut_str (show z.length ≤ 1000 by omega), addS c1 ys (by omega), addS (c1.app ys) c2 (by omega)]
  obtain ⟨ys, hys⟩ : ∃ ys, ys = (([("A" : Str), "0", " ", "_", "-", "\n", "~"]).map D.str).map (fun d => match d with | .str y => D.str ((cutS z none (some a) ++ y) ++ cutS z (some a) none) | d => d) := ⟨_, rfl⟩
  have hY : ∀ x ∈ ys, ∃ y : Str, x = .str y ∧ Sh y 1000 := by
    rw [hys]
    intro x hx
    obtain ⟨d, hd, rfl⟩ := List.mem_map.mp hx
    obtain ⟨y, hy, rfl⟩ := List.mem_map.mp hd
    exact ⟨_, rfl, (((zs.cut _ _).app (signs7 hy)).app (zs.cut _ _)).mono (by omega)⟩
  have lY : ys.length = 7 := by rw [hys]; rfl
  rw [← hys] at e4
  clear hys
  obtain ⟨S5, hS5⟩ : ∃ S5, S5 = (s4 ++ [O.lst (([("A" : Str), "0", " ", "_", "-", "\n", "~"]).map .str)]) ++ O.lst ys :: t := ⟨_, rfl⟩
  rw [← hS5] at e4
  have g5 : S5[s2.length]? = some (.lst xs) := by rw [hS5]; exact get_ext _ (get_ext _ hi4)
  have g6 : S5[(s4 ++ [O.lst (([("A" : Str), "0", " ", "_", "-", "\n", "~"]).map .str)]).length]? = some (.lst ys) := by rw [hS5]; exact get_mid
  have D5 : Dr (n + 3) S5 := by rw [hS5]; exact (D4.ext _).ext _
  have F5 : Fr s4 S5 := by rw [hS5]; exact (Fr.ext _ _).trans (Fr.ext _ _)
  have q4 : sExpr (dM "list" gExtend (dVar 4) (aCons (dLc [6] (dIter (dLst (aCons (dC (.str "A")) (aCons (dC (.str "0")) (aCons (dC (.str " ")) (aCons (dC (.str "_")) (aCons (dC (.str "-")) (aCons (dC (.str "\n")) (aCons (dC (.str "~")) aNil))))))))) (.nm 6) bYes (d2 gAdd (d2 gAdd (dCut (dVar 1) oNone (oSome (dVar 5))) (dVar 6)) (dCut (dVar 1) (oSome (dVar 5)) oNone))) aNil)) [some (.ref 1), some (.str z), some (.str l), some (.str k), some (.ref s2.length), some (.int a), none] s4 = .next [some (.ref 1), some (.str z), some (.str l), some (.str k), some (.ref s2.length), some (.int a), none] (S5.set s2.length (.lst (xs ++ ys))) := by
    have v4 : ∀ s, dVar 4 [some (.ref 1), some (.str z), some (.str l), some (.str k), some (.ref s2.length), some (.int a), none] s = .ok (.ref s2.length) s := fun _ => rfl
    have ty : tyB "list" (.ref s2.length) s4 = true := by
      unfold tyB
      dsimp only
      rw [hi4]
      rfl
    rw [a_sExpr, a_dM, v4, R.bind_ok, if_pos ty, a_aCons, e4, R.bind_ok, a_aNil, R.bind_ok, R.bind_ok, ext_ok g5 g6 (by omega), R.into_ok]
  obtain ⟨S6, hS6⟩ : ∃ S6, S6 = S5.set s2.length (O.lst (xs ++ ys)) := ⟨_, rfl⟩
  rw [← hS6] at q4
  have l2 : s2.length < S5.length := (List.getElem?_eq_some_iff.mp g5).1
  have g7 : S6[s2.length]? = some (.lst (xs ++ ys)) := by rw [hS6]; exact List.getElem?_set_self l2
  have h3 : 3 ≤ s2.length := D2.three
  have D6 : Dr (n + 3) S6 := by
    obtain ⟨L, C, r, t, h0, h1, h2, h5⟩ := D5.ex
    rw [hS6]
    exact ⟨L, C, r, t, by rw [List.getElem?_set_ne (by omega)]; exact h0, by rw [List.getElem?_set_ne (by omega)]; exact h1, by rw [List.getElem?_set_ne (by omega)]; exact h2, h5⟩
  have q5 : dLst (aCons (dC (.str "")) (aCons (dC .non) (aCons (dC (.int 5)) (aCons (dC (.bl true)) (aCons (dTup (aCons (dVar 1) aNil)) (aCons (dLst (aCons (dVar 1) aNil)) (aCons (dM "str" gUpper (dVar 1) aNil) (aCons (dDisp [((dVar 1), (dC (.bl true)))]) aNil)))))))) [some (.ref 1), some (.str z), some (.str l), some (.str k), some (.ref s2.length), some (.int a), none] S6 =
      .ok (.ref (S6.length + 2)) (S6 ++ [.lst [.str z], .dict [(.inr z, .bl true)], .lst [.str "", .non, .int 5, .bl true, .tup [.str z], .ref S6.length, .str (Txt.upper z), .ref (S6.length + 1)]]) := by
    have v1 : ∀ s, dVar 1 [some (.ref 1), some (.str z), some (.str l), some (.str k), some (.ref s2.length), some (.int a), none] s = .ok (.str z) s := fun _ => rfl
    have u1 : ∀ s, dM "str" gUpper (dVar 1) aNil [some (.ref 1), some (.str z), some (.str l), some (.str k), some (.ref s2.length), some (.int a), none] s = .ok (.str (Txt.upper z)) s := fun s => by
      rw [a_dM, v1, R.bind_ok, if_pos (show tyB "str" (.str z) s = true from rfl), a_aNil, R.bind_ok]
      show (if z.length ≤ 5592405 then R.ok (D.str (Txt.upper z)) s else .bad) = _
      rw [if_pos (by omega)]
    have t1 : ∀ s, dTup (aCons (dVar 1) aNil) [some (.ref 1), some (.str z), some (.str l), some (.str k), some (.ref s2.length), some (.int a), none] s = .ok (.tup [.str z]) s := fun s => by
      rw [a_dTup, a_aCons, v1, R.bind_ok, a_aNil, R.bind_ok, R.bind_ok, if_pos (by simp; omega)]
    have l1 : ∀ s, dLst (aCons (dVar 1) aNil) [some (.ref 1), some (.str z), some (.str l), some (.str k), some (.ref s2.length), some (.int a), none] s = .ok (.ref s.length) (s ++ [.lst [.str z]]) := fun s => lsts_ok (by rw [a_aCons, v1, R.bind_ok, a_aNil, R.bind_ok]) (by simp)
    have p1 : ∀ s : Sto, dDisp [((dVar 1), (dC (.bl true)))] [some (.ref 1), some (.str z), some (.str l), some (.str k), some (.ref s2.length), some (.int a), none] s = .ok (.ref s.length) (s ++ [.dict [(.inr z, .bl true)]]) := fun s => by
      unfold dDisp
      simp only [pairsD, v1, a_dC, R.bind_ok, get_mid, keysD, keyD]
      rw [if_pos (by simp), set_mid]
      rfl
    rw [a_dLst]
    simp only [a_aCons, a_dC, a_aNil, R.bind_ok, t1, l1, u1, p1, List.length_cons, List.length_nil]
    rw [if_pos (by omega)]
    simp
  have q6 : d2 gAdd (dVar 4) (dLst (aCons (dC (.str "")) (aCons (dC .non) (aCons (dC (.int 5)) (aCons (dC (.bl true)) (aCons (dTup (aCons (dVar 1) aNil)) (aCons (dLst (aCons (dVar 1) aNil)) (aCons (dM "str" gUpper (dVar 1) aNil) (aCons (dDisp [((dVar 1), (dC (.bl true)))]) aNil))))))))) [some (.ref 1), some (.str z), some (.str l), some (.str k), some (.ref s2.length), some (.int a), none] S6 =
      .ok (.ref (S6.length + 3)) (S6 ++ [.lst [.str z], .dict [(.inr z, .bl true)], .lst [.str "", .non, .int 5, .bl true, .tup [.str z], .ref S6.length, .str (Txt.upper z), .ref (S6.length + 1)], .lst ((xs ++ ys) ++ [.str "", .non, .int 5, .bl true, .tup [.str z], .ref S6.length, .str (Txt.upper z), .ref (S6.length + 1)])]) := by
    have v4 : ∀ s, dVar 4 [some (.ref 1), some (.str z), some (.str l), some (.str k), some (.ref s2.length), some (.int a), none] s = .ok (.ref s2.length) s := fun _ => rfl
    rw [a_d2, v4, R.bind_ok, q5, R.bind_ok]
    unfold gAdd
    dsimp only
    rw [get_ext _ g7, List.getElem?_append_right (by omega)]
    simp only [Nat.add_sub_cancel_left, List.getElem?_cons_succ, List.getElem?_cons_zero]
    rw [if_pos (by simp; omega)]
    simp
  unfold G__law_near_names fb__law_near_names
  rw [a_sSeq q1, a_sSeq q2, a_sSeq q3, a_sSeq q4, a_sRet, q6, R.into_ok]
  refine ⟨S6.length + 3, (xs ++ ys) ++ [.str "", .non, .int 5, .bl true, .tup [.str z], .ref S6.length, .str (Txt.upper z), .ref (S6.length + 1)], rfl, by rw [List.getElem?_append_right (by omega)]; simp, by omega, fun x hx => ?_, D6.ext _, ?_⟩
  · rcases List.mem_append.mp hx with hx | hx
    · rcases List.mem_append.mp hx with hx | hx
      · obtain ⟨y, rfl, hy⟩ := hX x hx
        exact hy.fine (by omega) _
      · obtain ⟨y, rfl, hy⟩ := hY x hx
        exact hy.fine (by omega) _
    · simp only [List.mem_cons, List.not_mem_nil, or_false] at hx
      rcases hx with rfl | rfl | rfl | rfl | rfl | rfl | rfl | rfl
      · exact (shB_ok (z := "") (n := 0) (by decide +kernel)).fine (by omega) _
      · exact fine_oth rfl
      · exact fine_oth rfl
      · exact fine_oth rfl
      · exact fine_oth rfl
      · exact fine_ref_l (ds := [.str z]) (by rw [List.getElem?_append_right (by omega)]; simp)
      · exact (hz.upper hl).fine (by omega) _
      · exact fine_ref_d (ds := [(.inr z, .bl true)]) (by rw [List.getElem?_append_right (by omega)]; simp)
  · refine ((Fr.ext _ _).trans F1).trans (((Fr.ext _ _).trans F2).trans ?_)
    have F6 : Fr s2 S6 := ⟨by rw [hS6, List.length_set]; exact Nat.le_trans (Fr.ext s2 _).len (Nat.le_trans F4.len F5.len), fun j o hj e => by
      have hjl : j < s2.length := (List.getElem?_eq_some_iff.mp e).1
      rw [hS6, List.getElem?_set_ne (by omega)]
      exact F5.at_ j o hj (F4.at_ j o hj (get_ext _ e))⟩
    exact F6.trans (Fr.ext _ _)
end K00
end Fn
end
section
set_option Elab.async false
set_option linter.all false
set_option maxRecDepth 100000
set_option maxHeartbeats 4000000
namespace Fn
namespace K00
open PySem PySem.Spec PyProof.Rows L2 LamX
theorem signs5 {z : Str} (h : z ∈ (["2", " ", "O", "\n", "-"] : List Str)) : Sh z 1 := by
  have e : ((["2", " ", "O", "\n", "-"] : List Str).all fun z => shB z 1) = true := by decide +kernel
  exact shB_ok (List.all_eq_true.mp e z h)
theorem list_str {z : Str} {st : Sto} (h : z.length ≤ 1000) : gListA [.str z] st = .ok (.ref st.length) (st ++ [.lst (signsD z)]) := by
  have hN : lineN = 16777216 := by decide
  unfold gListA
  dsimp only
  rw [if_pos (by unfold Str.length at h; omega)]
theorem tuple_str {z : Str} {st : Sto} (h : z.length ≤ 1000) : gTupleA [.str z] st = .ok (.tup (signsD z)) st := by
  have hN : lineN = 16777216 := by decide
  unfold gTupleA
  dsimp only
  rw [if_pos (by unfold Str.length at h; omega)]
theorem near_words_out {n : Nat} {st : Sto} {z : Str} (h : Dr n st) (hn : n + 3 < 1000000) (hz : Bits z) (hl : z.length ≤ 24) : Out (G__law_near_words [.ref 1, .str z] st) (NearP Fine (n + 1) st) := by
  have hN : lineN = 16777216 := by decide
  have zs : Sh z 24 := hz.sh hl
  have z0 : Sh ("0" : Str) 1 := shB_ok (by decide +kernel)
  have z1 : Sh ("1" : Str) 1 := shB_ok (by decide +kernel)
  have z01 : Sh ("01" : Str) 2 := shB_ok (by decide +kernel)
  have zn : Sh ("\n" : Str) 1 := shB_ok (by decide +kernel)
  obtain ⟨d3', s4, e3, a, rfl, a1, a2, D4, F4⟩ := (take_out (many := (z.length : Int) + 1) h (by omega) ⟨by omega, by
    have : (25 : Nat) < 2 ^ 200 := by decide
    omega⟩).ex
  have q1 : sAsg (dCall G__law_take (aCons (dVar 0) (aCons (d2 gAdd (dCall gLen (aCons (dVar 1) aNil)) (dC (.int 1))) aNil))) (.nm 2) (ev0 N__law_near_words [.ref 1, .str z]) st = .next [some (.ref 1), some (.str z), some (.int a), none, none] s4 := by
    have v0 : ∀ s, dVar 0 (ev0 N__law_near_words [.ref 1, .str z]) s = .ok (.ref 1) s := fun _ => rfl
    have v1 : ∀ s, dVar 1 (ev0 N__law_near_words [.ref 1, .str z]) s = .ok (.str z) s := fun _ => rfl
    have gl : ∀ s, gLen [.str z] s = .ok (.int z.length) s := fun s => len_str (by omega)
    simp only [a_sSet, a_dCall, a_aCons, a_aNil, a_d2, a_dC, v0, v1, R.bind_ok, gl, gAdd, e3, R.into_ok]
    rfl
  obtain ⟨xs, hxs⟩ : ∃ xs, xs = [D.str z, .str (cutS z (some 1) none), .str (z ++ "0"), .str ("1" ++ z), .str (z ++ repS "01" 13)] := ⟨_, rfl⟩
  have hX : ∀ x ∈ xs, ∃ y : Str, x = .str y ∧ Sh y 1000 := by
    rw [hxs]
    intro x hx
    simp only [List.mem_cons, List.not_mem_nil, or_false] at hx
    rcases hx with rfl | rfl | rfl | rfl | rfl
    · exact ⟨_, rfl, zs.mono (by omega)⟩
    · exact ⟨_, rfl, (zs.cut _ _).mono (by omega)⟩
    · exact ⟨_, rfl, (zs.app z0).mono (by omega)⟩
    · exact ⟨_, rfl, (z1.app zs).mono (by omega)⟩
    · exact ⟨_, rfl, (zs.app (z01.rep 13)).mono (by omega)⟩
  have lX : xs.length = 5 := by rw [hxs]; rfl
  have q2 : sAsg (dLst (aCons (dVar 1) (aCons (dCut (dVar 1) (oSome (dC (.int 1))) oNone) (aCons (d2 gAdd (dVar 1) (dC (.str "0"))) (aCons (d2 gAdd (dC (.str "1")) (dVar 1)) (aCons (d2 gAdd (dVar 1) (d2 gMul (dC (.str "01")) (dC (.int 13)))) aNil)))))) (.nm 3) [some (.ref 1), some (.str z), some (.int a), none, none] s4 =
      .next [some (.ref 1), some (.str z), some (.int a), some (.ref s4.length), none] (s4 ++ [.lst xs]) := by
    have v1 : ∀ s, dVar 1 [some (.ref 1), some (.str z), some (.int a), none, none] s = .ok (.str z) s := fun _ => rfl
    have o1 : ∀ (i : Int) s, oSome (dC (.int i)) [some (.ref 1), some (.str z), some (.int a), none, none] s = .ok (some i) s := fun i s => o_some rfl
    have r13 : ∀ s, gMul (.str "01") (.int 13) s = .ok (.str (repS "01" 13)) s := fun s => rep_str (n := 13) (by decide) (by omega)
    rw [a_sSet, lsts_ok (ds := xs) (by
      rw [hxs]
      simp only [a_aCons, a_aNil, a_d2, a_dCut, a_dC, v1, o1, o_none, R.bind_ok, r13, addS zs z0 (by omega), addS z1 zs (by omega), addS zs (z01.rep 13) (by omega), cut_str (show z.length ≤ 1000 by omega)]) (by omega), R.into_ok]
    rfl
  clear hxs
  have hi4 : (s4 ++ [O.lst xs])[s4.length]? = some (.lst xs) := get_mid
  have hdi : dIter (dLst (aCons (dC (.str "2")) (aCons (dC (.str " ")) (aCons (dC (.str "O")) (aCons (dC (.str "\n")) (aCons (dC (.str "-")) aNil)))))) [some (.ref 1), some (.str z), some (.int a), some (.ref s4.length), none] (s4 ++ [O.lst xs]) = .ok ⟨([("2" : Str), " ", "O", "\n", "-"]).map .str, [((s4 ++ [O.lst xs]).length, .lst (([("2" : Str), " ", "O", "\n", "-"]).map .str))]⟩ ((s4 ++ [O.lst xs]) ++ [.lst (([("2" : Str), " ", "O", "\n", "-"]).map .str)]) := by
    unfold dIter
    rw [lsts_ok (ds := ([("2" : Str), " ", "O", "\n", "-"]).map .str) rfl (by simp), R.bind_ok]
    unfold itD
    dsimp only
    rw [get_mid]
  obtain ⟨S3, hS3⟩ : ∃ S3, S3 = s4 ++ [O.lst xs] := ⟨_, rfl⟩
  rw [← hS3] at hdi hi4 q2
  obtain ⟨t, e4⟩ := lc_map (own := [4]) (tg := .nm 4) (elt := d2 gAdd (d2 gAdd (dCut (dVar 1) oNone (oSome (dVar 2))) (dVar 4)) (dCut (dVar 1) (oSome (d2 gAdd (dVar 2) (dC (.int 1)))) oNone)) hdi (by
    intro q hq
    have e : q = (S3.length, .lst (([("2" : Str), " ", "O", "\n", "-"]).map .str)) := by simpa using hq
    rw [e]
    exact get_mid) (fun d => match d with | .str y => .str ((cutS z none (some a) ++ y) ++ cutS z (some (a + 1)) none) | d => d) (by simp; omega) fun d hd => by
    obtain ⟨y, hy, rfl⟩ := List.mem_map.mp hd
    have ys := signs5 hy
    refine ⟨[some (.ref 1), some (.str z), some (.int a), some (.ref s4.length), some (.str y)], rfl, fun s _ => .of_eq ?_⟩
    have v1 : ∀ s, dVar 1 [some (.ref 1), some (.str z), some (.int a), some (.ref s4.length), some (.str y)] s = .ok (.str z) s := fun _ => rfl
    have v4 : ∀ s, dVar 4 [some (.ref 1), some (.str z), some (.int a), some (.ref s4.length), some (.str y)] s = .ok (.str y) s := fun _ => rfl
    have o2 : ∀ s, oSome (dVar 2) [some (.ref 1), some (.str z), some (.int a), some (.ref s4.length), some (.str y)] s = .ok (some a) s := fun s => o_some rfl
    have o3 : ∀ s, oSome (d2 gAdd (dVar 2) (dC (.int 1))) [some (.ref 1), some (.str z), some (.int a), some (.ref s4.length), some (.str y)] s = .ok (some (a + 1)) s := fun s => o_some rfl
    have c1 := zs.cut none (some a)
    have c2 := zs.cut (some (a + 1)) none
    simp only [a_d2, a_dCut, v1, v4, o2, o3, o_none, R.bind_ok, cut_str (show z.length ≤ 1000 by omega), addS c1 ys (by omega), addS (c1.app ys) c2 (by omega)]
  obtain ⟨ys, hys⟩ : ∃ ys, ys = (([("2" : Str), " ", "O", "\n", "-"]).map D.str).map (fun d => match d with | .str y => D.str ((cutS z none (some a) ++ y) ++ cutS z (some (a + 1)) none) | d => d) := ⟨_, rfl⟩
  have hY : ∀ x ∈ ys, ∃ y : Str, x = .str y ∧ Sh y 1000 := by
    rw [hys]
    intro x hx
    obtain ⟨d, hd, rfl⟩ := List.mem_map.mp hx
    obtain ⟨y, hy, rfl⟩ := List.mem_map.mp hd
    exact ⟨_, rfl, (((zs.cut _ _).app (signs5 hy)).app (zs.cut _ _)).mono (by omega)⟩
  have lY : ys.length = 5 := by rw [hys]; rfl
  rw [← hys] at e4
  clear hys
  obtain ⟨S5, hS5⟩ : ∃ S5, S5 = (S3 ++ [O.lst (([("2" : Str), " ", "O", "\n", "-"]).map .str)]) ++ O.lst ys :: t := ⟨_, rfl⟩
  rw [← hS5] at e4
  have g5 : S5[s4.length]? = some (.lst xs) := by rw [hS5]; exact get_ext _ (get_ext _ hi4)
  have g6 : S5[(S3 ++ [O.lst (([("2" : Str), " ", "O", "\n", "-"]).map .str)]).length]? = some (.lst ys) := by rw [hS5]; exact get_mid
  have D5 : Dr (n + 1) S5 := by rw [hS5, hS3]; exact ((D4.ext _).ext _).ext _
  have F5 : Fr s4 S5 := by rw [hS5, hS3]; exact ((Fr.ext _ _).trans (Fr.ext _ _)).trans (Fr.ext _ _)
  have q4 : sExpr (dM "list" gExtend (dVar 3) (aCons (dLc [4] (dIter (dLst (aCons (dC (.str "2")) (aCons (dC (.str " ")) (aCons (dC (.str "O")) (aCons (dC (.str "\n")) (aCons (dC (.str "-")) aNil))))))) (.nm 4) bYes (d2 gAdd (d2 gAdd (dCut (dVar 1) oNone (oSome (dVar 2))) (dVar 4)) (dCut (dVar 1) (oSome (d2 gAdd (dVar 2) (dC (.int 1)))) oNone))) aNil)) [some (.ref 1), some (.str z), some (.int a), some (.ref s4.length), none] S3 = .next [some (.ref 1), some (.str z), some (.int a), some (.ref s4.length), none] (S5.set s4.length (.lst (xs ++ ys))) := by
    have v4 : ∀ s, dVar 3 [some (.ref 1), some (.str z), some (.int a), some (.ref s4.length), none] s = .ok (.ref s4.length) s := fun _ => rfl
    have ty : tyB "list" (.ref s4.length) S3 = true := by
      unfold tyB
      dsimp only
      rw [hi4]
      rfl
    rw [a_sExpr, a_dM, v4, R.bind_ok, if_pos ty, a_aCons, e4, R.bind_ok, a_aNil, R.bind_ok, R.bind_ok, ext_ok g5 g6 (by omega), R.into_ok]
  obtain ⟨S6, hS6⟩ : ∃ S6, S6 = S5.set s4.length (O.lst (xs ++ ys)) := ⟨_, rfl⟩
  rw [← hS6] at q4
  have l2 : s4.length < S5.length := (List.getElem?_eq_some_iff.mp g5).1
  have g7 : S6[s4.length]? = some (.lst (xs ++ ys)) := by rw [hS6]; exact List.getElem?_set_self l2
  have h3 : 3 ≤ s4.length := D4.three
  have D6 : Dr (n + 1) S6 := by
    obtain ⟨L, C, r, t, h0, h1, h2, h5⟩ := D5.ex
    rw [hS6]
    exact ⟨L, C, r, t, by rw [List.getElem?_set_ne (by omega)]; exact h0, by rw [List.getElem?_set_ne (by omega)]; exact h1, by rw [List.getElem?_set_ne (by omega)]; exact h2, h5⟩
  obtain ⟨ws, hws⟩ : ∃ ws : List D, ws = [.str (z ++ "\n"), .non, .int 0, .bl true, .int 10, .ref S6.length, .tup (signsD z), .ref (S6.length + 1), .tup [.str "1"]] := ⟨_, rfl⟩
  have lW : ws.length = 9 := by rw [hws]; rfl
  have q5 : dLst (aCons (d2 gAdd (dVar 1) (dC (.str "\n"))) (aCons (dC .non) (aCons (dC (.int 0)) (aCons (dC (.bl true)) (aCons (dC (.int 10)) (aCons (dCall gListA (aCons (dVar 1) aNil)) (aCons (dCall gTupleA (aCons (dVar 1) aNil)) (aCons (dLst (aCons (dC (.str "0")) aNil)) (aCons (dTup (aCons (dC (.str "1")) aNil)) aNil))))))))) [some (.ref 1), some (.str z), some (.int a), some (.ref s4.length), none] S6 =
      .ok (.ref (S6.length + 2)) (S6 ++ [.lst (signsD z), .lst [.str "0"], .lst ws]) := by
    have v1 : ∀ s, dVar 1 [some (.ref 1), some (.str z), some (.int a), some (.ref s4.length), none] s = .ok (.str z) s := fun _ => rfl
    have t1 : ∀ s, dTup (aCons (dC (.str "1")) aNil) [some (.ref 1), some (.str z), some (.int a), some (.ref s4.length), none] s = .ok (.tup [.str "1"]) s := fun s => by
      rw [a_dTup, a_aCons, a_dC, R.bind_ok, a_aNil, R.bind_ok, R.bind_ok, if_pos (by simp; omega)]
    have l1 : ∀ s, dLst (aCons (dC (.str "0")) aNil) [some (.ref 1), some (.str z), some (.int a), some (.ref s4.length), none] s = .ok (.ref s.length) (s ++ [.lst [.str "0"]]) := fun s => lsts_ok (by rw [a_aCons, a_dC, R.bind_ok, a_aNil, R.bind_ok]) (by simp)
    rw [a_dLst]
    simp only [a_aCons, a_dC, a_aNil, a_d2, a_dCall, v1, R.bind_ok, t1, l1, list_str (show z.length ≤ 1000 by omega), tuple_str (show z.length ≤ 1000 by omega), addS zs zn (by omega), List.length_cons, List.length_nil]
    rw [if_pos (by omega), hws]
    simp
  have q6 : d2 gAdd (dVar 3) (dLst (aCons (d2 gAdd (dVar 1) (dC (.str "\n"))) (aCons (dC .non) (aCons (dC (.int 0)) (aCons (dC (.bl true)) (aCons (dC (.int 10)) (aCons (dCall gListA (aCons (dVar 1) aNil)) (aCons (dCall gTupleA (aCons (dVar 1) aNil)) (aCons (dLst (aCons (dC (.str "0")) aNil)) (aCons (dTup (aCons (dC (.str "1")) aNil)) aNil)))))))))) [some (.ref 1), some (.str z), some (.int a), some (.ref s4.length), none] S6 =
      .ok (.ref (S6.length + 3)) (S6 ++ [.lst (signsD z), .lst [.str "0"], .lst ws, .lst ((xs ++ ys) ++ ws)]) := by
    have v4 : ∀ s, dVar 3 [some (.ref 1), some (.str z), some (.int a), some (.ref s4.length), none] s = .ok (.ref s4.length) s := fun _ => rfl
    rw [a_d2, v4, R.bind_ok, q5, R.bind_ok]
    unfold gAdd
    dsimp only
    rw [get_ext _ g7, List.getElem?_append_right (by omega)]
    simp only [Nat.add_sub_cancel_left, List.getElem?_cons_succ, List.getElem?_cons_zero]
    rw [if_pos (by simp; omega)]
    simp
  unfold G__law_near_words fb__law_near_words
  rw [a_sSeq q1, a_sSeq q2, a_sSeq q4, a_sRet, q6, R.into_ok]
  refine ⟨S6.length + 3, (xs ++ ys) ++ ws, rfl, by rw [List.getElem?_append_right (by omega)]; simp, by omega, fun x hx => ?_, D6.ext _, ?_⟩
  · rcases List.mem_append.mp hx with hx | hx
    · rcases List.mem_append.mp hx with hx | hx
      · obtain ⟨y, rfl, hy⟩ := hX x hx
        exact hy.fine (by omega) _
      · obtain ⟨y, rfl, hy⟩ := hY x hx
        exact hy.fine (by omega) _
    · rw [hws] at hx
      simp only [List.mem_cons, List.not_mem_nil, or_false] at hx
      rcases hx with rfl | rfl | rfl | rfl | rfl | rfl | rfl | rfl | rfl
      · exact ((zs.app zn).mono (m := 1000) (by omega)).fine (by omega) _
      · exact fine_oth rfl
      · exact fine_oth rfl
      · exact fine_oth rfl
      · exact fine_oth rfl
      · exact fine_ref_l (ds := signsD z) (by rw [List.getElem?_append_right (by omega)]; simp)
      · exact fine_oth rfl
      · exact fine_ref_l (ds := [.str "0"]) (by rw [List.getElem?_append_right (by omega)]; simp)
      · exact fine_oth rfl
  · refine F4.trans ?_
    have F6 : Fr s4 S6 := ⟨by rw [hS6, List.length_set]; exact F5.len, fun j o hj e => by
      have hjl : j < s4.length := (List.getElem?_eq_some_iff.mp e).1
      rw [hS6, List.getElem?_set_ne (by omega)]
      exact F5.at_ j o hj e⟩
    exact F6.trans (Fr.ext _ _)
end K00
end Fn
end
section
set_option Elab.async false
set_option linter.all false
set_option maxRecDepth 100000
set_option maxHeartbeats 4000000
namespace Fn
namespace K00
open PySem PySem.Spec PyProof.Rows L2 LamX
/-! ### what stands near places -/
/-- a short tuple of flat things -/
structure Tp (ds : List D) (n : Nat) : Prop where
  len : ds.length ≤ n
  ok : ∀ x ∈ ds, flat2 x = true
theorem Tp.app {a b : List D} {n m : Nat} (ha : Tp a n) (hb : Tp b m) : Tp (a ++ b) (n + m) := by
  refine ⟨by rw [List.length_append]; have := ha.len; have := hb.len; omega, fun x hx => ?_⟩
  exact (List.mem_append.mp hx).elim (ha.ok x) (hb.ok x)
theorem Tp.cut {z : List D} {n : Nat} (h : Tp z n) (lo hi : Option Int) : Tp (cutD z lo hi) n := by
  refine ⟨?_, fun c hc => ?_⟩
  · have := h.len
    simp only [cutD, List.length_take, List.length_drop]
    omega
  · exact h.ok c (List.mem_of_mem_drop (List.mem_of_mem_take hc))
theorem Tp.mono {z : List D} {n m : Nat} (h : Tp z n) (k : n ≤ m) : Tp z m := ⟨Nat.le_trans h.len k, h.ok⟩
theorem Tp.rev {z : List D} {n : Nat} (h : Tp z n) : Tp z.reverse n := ⟨by rw [List.length_reverse]; exact h.len, fun x hx => h.ok x (List.mem_reverse.mp hx)⟩
theorem Tp.one {d : D} (h : flat2 d = true) : Tp [d] 1 := ⟨Nat.le_refl _, fun x hx => by rw [List.mem_singleton.mp hx]; exact h⟩
/-- a thing that the places' checks can look at -/
def FineP (d : D) (s : Sto) : Prop := Fine d s ∧ ∀ ds, d = .tup ds → ds.length ≤ 1000 ∧ ∀ x ∈ ds, flat2 x = true
theorem Tp.fine {ds : List D} {n : Nat} (h : Tp ds n) (hn : n ≤ 1000) (s : Sto) : FineP (.tup ds) s := ⟨fine_oth rfl, fun es e => by cases e; exact ⟨Nat.le_trans h.len hn, h.ok⟩⟩
theorem Fine.p {d : D} {s : Sto} (h : Fine d s) (e : (match d with | .tup _ => false | _ => true) = true) : FineP d s := ⟨h, fun ds e' => by subst e'; cases e⟩
theorem addT {a b : List D} {n m : Nat} {st : Sto} (ha : Tp a n) (hb : Tp b m) (h : n + m ≤ 1000) : gAdd (.tup a) (.tup b) st = .ok (.tup (a ++ b)) st := by
  have hN : lineN = 16777216 := by decide
  have h1 := ha.len
  have h2 := hb.len
  exact if_pos (by omega)
theorem list_tup {z : List D} {st : Sto} : gListA [.tup z] st = .ok (.ref st.length) (st ++ [.lst z]) := rfl
theorem tup1_ok {d : D} {f : DE} {env : Ev} {s : Sto} (h : f env s = .ok d s) : dTup (aCons f aNil) env s = .ok (.tup [d]) s := by
  have hN : lineN = 16777216 := by decide
  rw [a_dTup, a_aCons, h, R.bind_ok, a_aNil, R.bind_ok, R.bind_ok, if_pos (by simp; omega)]
def nears : List D := [.bl true, .non, .str "3", .tup [.int 1], .int (-1), .int 7, .int 12]
theorem nears_flat {d : D} (h : d ∈ nears) : flat2 d = true := by
  have e : nears.all flat2 = true := by decide +kernel
  exact List.all_eq_true.mp e d h
theorem near_places_out {n : Nat} {st : Sto} {z : List D} (h : Dr n st) (hn : n + 3 < 1000000) (zs : Tp z 24) : Out (G__law_near_places [.ref 1, .tup z] st) (NearP FineP (n + 1) st) := by
  have hN : lineN = 16777216 := by decide
  have hl := zs.len
  have z0 : Tp [.int 0] 1 := .one rfl
  have z25 : Tp [.int 25] 1 := .one rfl
  have z24 : Tp [.int 24] 1 := .one rfl
  obtain ⟨d3', s4, e3, a, rfl, a1, a2, D4, F4⟩ := (take_out (many := (z.length : Int) + 1) h (by omega) ⟨by omega, by
    have : (25 : Nat) < 2 ^ 200 := by decide
    omega⟩).ex
  have q1 : sAsg (dCall G__law_take (aCons (dVar 0) (aCons (d2 gAdd (dCall gLen (aCons (dVar 1) aNil)) (dC (.int 1))) aNil))) (.nm 2) (ev0 N__law_near_places [.ref 1, .tup z]) st = .next [some (.ref 1), some (.tup z), some (.int a), none, none] s4 := by
    have v0 : ∀ s, dVar 0 (ev0 N__law_near_places [.ref 1, .tup z]) s = .ok (.ref 1) s := fun _ => rfl
    have v1 : ∀ s, dVar 1 (ev0 N__law_near_places [.ref 1, .tup z]) s = .ok (.tup z) s := fun _ => rfl
    have gl : ∀ s, gLen [.tup z] s = .ok (.int z.length) s := fun s => rfl
    simp only [a_sSet, a_dCall, a_aCons, a_aNil, a_d2, a_dC, v0, v1, R.bind_ok, gl, gAdd, e3, R.into_ok]
    rfl
  obtain ⟨xs, hxs⟩ : ∃ xs, xs = [D.tup z, .tup (cutD z (some 1) none), .ref s4.length, .tup (cutD z none (some a) ++ cutD z none (some a)), .tup z.reverse, .tup ([.int 0] ++ z), .tup (z ++ [.int 25]), .tup (z ++ [.int 24])] := ⟨_, rfl⟩
  have hX : ∀ x ∈ xs, x = .ref s4.length ∨ ∃ y, x = .tup y ∧ Tp y 1000 := by
    rw [hxs]
    intro x hx
    simp only [List.mem_cons, List.not_mem_nil, or_false] at hx
    rcases hx with rfl | rfl | rfl | rfl | rfl | rfl | rfl | rfl
    · exact .inr ⟨_, rfl, zs.mono (by omega)⟩
    · exact .inr ⟨_, rfl, (zs.cut _ _).mono (by omega)⟩
    · exact .inl rfl
    · exact .inr ⟨_, rfl, ((zs.cut _ _).app (zs.cut _ _)).mono (by omega)⟩
    · exact .inr ⟨_, rfl, zs.rev.mono (by omega)⟩
    · exact .inr ⟨_, rfl, (z0.app zs).mono (by omega)⟩
    · exact .inr ⟨_, rfl, (zs.app z25).mono (by omega)⟩
    · exact .inr ⟨_, rfl, (zs.app z24).mono (by omega)⟩
  have lX : xs.length = 8 := by rw [hxs]; rfl
  have q2 : sAsg (dLst (aCons (dVar 1) (aCons (dCut (dVar 1) (oSome (dC (.int 1))) oNone) (aCons (dCall gListA (aCons (dVar 1) aNil)) (aCons (d2 gAdd (dCut (dVar 1) oNone (oSome (dVar 2))) (dCut (dVar 1) oNone (oSome (dVar 2)))) (aCons (d1 gTupRev (dVar 1)) (aCons (d2 gAdd (dTup (aCons (dC (.int 0)) aNil)) (dVar 1)) (aCons (d2 gAdd (dVar 1) (dTup (aCons (dC (.int 25)) aNil))) (aCons (d2 gAdd (dVar 1) (dTup (aCons (dC (.int 24)) aNil))) aNil))))))))) (.nm 3) [some (.ref 1), some (.tup z), some (.int a), none, none] s4 =
      .next [some (.ref 1), some (.tup z), some (.int a), some (.ref (s4.length + 1)), none] (s4 ++ [.lst z, .lst xs]) := by
    have v1 : ∀ s, dVar 1 [some (.ref 1), some (.tup z), some (.int a), none, none] s = .ok (.tup z) s := fun _ => rfl
    have o1 : ∀ (i : Int) s, oSome (dC (.int i)) [some (.ref 1), some (.tup z), some (.int a), none, none] s = .ok (some i) s := fun i s => o_some rfl
    have o2 : ∀ s, oSome (dVar 2) [some (.ref 1), some (.tup z), some (.int a), none, none] s = .ok (some a) s := fun s => o_some rfl
    have t1 : ∀ (i : Int) s, dTup (aCons (dC (.int i)) aNil) [some (.ref 1), some (.tup z), some (.int a), none, none] s = .ok (.tup [.int i]) s := fun i s => tup1_ok rfl
    have r1 : ∀ s, d1 gTupRev (dVar 1) [some (.ref 1), some (.tup z), some (.int a), none, none] s = .ok (.tup z.reverse) s := fun s => rfl
    rw [a_sSet, a_dLst]
    simp only [a_aCons, a_aNil, a_d2, a_dCut, a_dCall, a_dC, v1, o1, o2, o_none, t1, r1, R.bind_ok, list_tup, addT (zs.cut none (some a)) (zs.cut none (some a)) (by omega), addT z0 zs (by omega), addT zs z25 (by omega), addT zs z24 (by omega), cut_tup]
    rw [if_pos (by simp; omega), R.into_ok, hxs]
    simp
  clear hxs
  have hi4 : (s4 ++ [O.lst z, O.lst xs])[s4.length + 1]? = some (.lst xs) := by rw [List.getElem?_append_right (by omega)]; simp
  have hi3 : (s4 ++ [O.lst z, O.lst xs])[s4.length]? = some (.lst z) := by rw [List.getElem?_append_right (by omega)]; simp
  obtain ⟨S3, hS3⟩ : ∃ S3, S3 = s4 ++ [O.lst z, O.lst xs] := ⟨_, rfl⟩
  rw [← hS3] at hi4 hi3 q2
  have hdi : dIter (dLst (aCons (dC (.bl true)) (aCons (dC .non) (aCons (dC (.str "3")) (aCons (dTup (aCons (dC (.int 1)) aNil)) (aCons (d1 gNeg (dC (.int 1))) (aCons (dC (.int 7)) (aCons (dC (.int 12)) aNil)))))))) [some (.ref 1), some (.tup z), some (.int a), some (.ref (s4.length + 1)), none] S3 = .ok ⟨nears, [(S3.length, .lst nears)]⟩ (S3 ++ [.lst nears]) := by
    unfold dIter
    rw [lsts_ok (ds := nears) (by
      have t1 : ∀ (i : Int) s, dTup (aCons (dC (.int i)) aNil) [some (.ref 1), some (.tup z), some (.int a), some (.ref (s4.length + 1)), none] s = .ok (.tup [.int i]) s := fun i s => tup1_ok rfl
      have n1 : ∀ s, d1 gNeg (dC (.int 1)) [some (.ref 1), some (.tup z), some (.int a), some (.ref (s4.length + 1)), none] s = .ok (.int (-1)) s := fun s => rfl
      simp only [a_aCons, a_aNil, a_dC, t1, n1, R.bind_ok]
      rfl) (by decide), R.bind_ok]
    unfold itD
    dsimp only
    rw [get_mid]
  obtain ⟨t, e4⟩ := lc_map (own := [4]) (tg := .nm 4) (elt := d2 gAdd (d2 gAdd (dCut (dVar 1) oNone (oSome (dVar 2))) (dTup (aCons (dVar 4) aNil))) (dCut (dVar 1) (oSome (dVar 2)) oNone)) hdi (by
    intro q hq
    have e : q = (S3.length, .lst nears) := by simpa using hq
    rw [e]
    exact get_mid) (fun d => .tup ((cutD z none (some a) ++ [d]) ++ cutD z (some a) none)) (by
      show nears.length ≤ lineN
      have : nears.length = 7 := rfl
      omega) fun d hd => by
    have ys : Tp [d] 1 := .one (nears_flat hd)
    refine ⟨[some (.ref 1), some (.tup z), some (.int a), some (.ref (s4.length + 1)), some d], rfl, fun s _ => .of_eq ?_⟩
    have v1 : ∀ s, dVar 1 [some (.ref 1), some (.tup z), some (.int a), some (.ref (s4.length + 1)), some d] s = .ok (.tup z) s := fun _ => rfl
    have t4 : ∀ s, dTup (aCons (dVar 4) aNil) [some (.ref 1), some (.tup z), some (.int a), some (.ref (s4.length + 1)), some d] s = .ok (.tup [d]) s := fun _ => tup1_ok rfl
    have o2 : ∀ s, oSome (dVar 2) [some (.ref 1), some (.tup z), some (.int a), some (.ref (s4.length + 1)), some d] s = .ok (some a) s := fun s => o_some rfl
    have c1 := zs.cut none (some a)
    have c2 := zs.cut (some a) none
    simp only [a_d2, a_dCut, v1, t4, o2, o_none, R.bind_ok, cut_tup, addT c1 ys (by omega), addT (c1.app ys) c2 (by omega)]
  obtain ⟨ys, hys⟩ : ∃ ys, ys = nears.map (fun d => D.tup ((cutD z none (some a) ++ [d]) ++ cutD z (some a) none)) := ⟨_, rfl⟩
  have hY : ∀ x ∈ ys, ∃ y, x = .tup y ∧ Tp y 1000 := by
    rw [hys]
    intro x hx
    obtain ⟨d, hd, rfl⟩ := List.mem_map.mp hx
    exact ⟨_, rfl, (((zs.cut _ _).app (.one (nears_flat hd))).app (zs.cut _ _)).mono (by omega)⟩
  have lY : ys.length = 7 := by rw [hys, List.length_map]; rfl
  rw [← hys] at e4
  clear hys
  obtain ⟨S5, hS5⟩ : ∃ S5, S5 = (S3 ++ [O.lst nears]) ++ O.lst ys :: t := ⟨_, rfl⟩
  rw [← hS5] at e4
  have g5 : S5[s4.length + 1]? = some (.lst xs) := by rw [hS5]; exact get_ext _ (get_ext _ hi4)
  have g4 : S5[s4.length]? = some (.lst z) := by rw [hS5]; exact get_ext _ (get_ext _ hi3)
  have g6 : S5[(S3 ++ [O.lst nears]).length]? = some (.lst ys) := by rw [hS5]; exact get_mid
  have D5 : Dr (n + 1) S5 := by rw [hS5, hS3]; exact ((D4.ext _).ext _).ext _
  have F5 : Fr s4 S5 := by rw [hS5, hS3]; exact ((Fr.ext _ _).trans (Fr.ext _ _)).trans (Fr.ext _ _)
  have q4 : sExpr (dM "list" gExtend (dVar 3) (aCons (dLc [4] (dIter (dLst (aCons (dC (.bl true)) (aCons (dC .non) (aCons (dC (.str "3")) (aCons (dTup (aCons (dC (.int 1)) aNil)) (aCons (d1 gNeg (dC (.int 1))) (aCons (dC (.int 7)) (aCons (dC (.int 12)) aNil))))))))) (.nm 4) bYes (d2 gAdd (d2 gAdd (dCut (dVar 1) oNone (oSome (dVar 2))) (dTup (aCons (dVar 4) aNil))) (dCut (dVar 1) (oSome (dVar 2)) oNone))) aNil)) [some (.ref 1), some (.tup z), some (.int a), some (.ref (s4.length + 1)), none] S3 = .next [some (.ref 1), some (.tup z), some (.int a), some (.ref (s4.length + 1)), none] (S5.set (s4.length + 1) (.lst (xs ++ ys))) := by
    have v4 : ∀ s, dVar 3 [some (.ref 1), some (.tup z), some (.int a), some (.ref (s4.length + 1)), none] s = .ok (.ref (s4.length + 1)) s := fun _ => rfl
    have ty : tyB "list" (.ref (s4.length + 1)) S3 = true := by
      unfold tyB
      dsimp only
      rw [hi4]
      rfl
    rw [a_sExpr, a_dM, v4, R.bind_ok, if_pos ty, a_aCons, e4, R.bind_ok, a_aNil, R.bind_ok, R.bind_ok, ext_ok g5 g6 (by omega), R.into_ok]
  obtain ⟨S6, hS6⟩ : ∃ S6, S6 = S5.set (s4.length + 1) (O.lst (xs ++ ys)) := ⟨_, rfl⟩
  rw [← hS6] at q4
  have l2 : s4.length + 1 < S5.length := (List.getElem?_eq_some_iff.mp g5).1
  have g7 : S6[s4.length + 1]? = some (.lst (xs ++ ys)) := by rw [hS6]; exact List.getElem?_set_self l2
  have g8 : S6[s4.length]? = some (.lst z) := by rw [hS6, List.getElem?_set_ne (by omega)]; exact g4
  have h3 : 3 ≤ s4.length := D4.three
  have D6 : Dr (n + 1) S6 := by
    obtain ⟨L, C, r, t, h0, h1, h2, h5⟩ := D5.ex
    rw [hS6]
    exact ⟨L, C, r, t, by rw [List.getElem?_set_ne (by omega)]; exact h0, by rw [List.getElem?_set_ne (by omega)]; exact h1, by rw [List.getElem?_set_ne (by omega)]; exact h2, h5⟩
  obtain ⟨ws, hws⟩ : ∃ ws : List D, ws = [.non, .int 3, .str "123", .str "", .tup [], .ref S6.length] := ⟨_, rfl⟩
  have lW : ws.length = 6 := by rw [hws]; rfl
  have q5 : dLst (aCons (dC .non) (aCons (dC (.int 3)) (aCons (dC (.str "123")) (aCons (dC (.str "")) (aCons (dTup aNil) (aCons (dLst (aCons (dC (.int 1)) aNil)) aNil)))))) [some (.ref 1), some (.tup z), some (.int a), some (.ref (s4.length + 1)), none] S6 =
      .ok (.ref (S6.length + 1)) (S6 ++ [.lst [.int 1], .lst ws]) := by
    have t1 : ∀ s, dTup aNil [some (.ref 1), some (.tup z), some (.int a), some (.ref (s4.length + 1)), none] s = .ok (.tup []) s := fun s => by
      rw [a_dTup, a_aNil, R.bind_ok, if_pos (by simp)]
    have l1 : ∀ s, dLst (aCons (dC (.int 1)) aNil) [some (.ref 1), some (.tup z), some (.int a), some (.ref (s4.length + 1)), none] s = .ok (.ref s.length) (s ++ [.lst [.int 1]]) := fun s => lsts_ok (by rw [a_aCons, a_dC, R.bind_ok, a_aNil, R.bind_ok]) (by simp)
    rw [a_dLst]
    simp only [a_aCons, a_dC, a_aNil, R.bind_ok, t1, l1, List.length_cons, List.length_nil]
    rw [if_pos (by omega), hws]
    simp
  have q6 : d2 gAdd (dVar 3) (dLst (aCons (dC .non) (aCons (dC (.int 3)) (aCons (dC (.str "123")) (aCons (dC (.str "")) (aCons (dTup aNil) (aCons (dLst (aCons (dC (.int 1)) aNil)) aNil))))))) [some (.ref 1), some (.tup z), some (.int a), some (.ref (s4.length + 1)), none] S6 =
      .ok (.ref (S6.length + 2)) (S6 ++ [.lst [.int 1], .lst ws, .lst ((xs ++ ys) ++ ws)]) := by
    have v4 : ∀ s, dVar 3 [some (.ref 1), some (.tup z), some (.int a), some (.ref (s4.length + 1)), none] s = .ok (.ref (s4.length + 1)) s := fun _ => rfl
    rw [a_d2, v4, R.bind_ok, q5, R.bind_ok]
    unfold gAdd
    dsimp only
    rw [get_ext _ g7, List.getElem?_append_right (by omega)]
    simp only [Nat.add_sub_cancel_left, List.getElem?_cons_succ, List.getElem?_cons_zero]
    rw [if_pos (by simp; omega)]
    simp
  unfold G__law_near_places fb__law_near_places
  rw [a_sSeq q1, a_sSeq q2, a_sSeq q4, a_sRet, q6, R.into_ok]
  refine ⟨S6.length + 2, (xs ++ ys) ++ ws, rfl, by rw [List.getElem?_append_right (by omega)]; simp, by rw [hS6, List.length_set]; omega, fun x hx => ?_, D6.ext _, ?_⟩
  · rcases List.mem_append.mp hx with hx | hx
    · rcases List.mem_append.mp hx with hx | hx
      · rcases hX x hx with rfl | ⟨y, rfl, hy⟩
        · exact (fine_ref_l (ds := z) (get_ext _ g8)).p rfl
        · exact hy.fine (by omega) _
      · obtain ⟨y, rfl, hy⟩ := hY x hx
        exact hy.fine (by omega) _
    · rw [hws] at hx
      simp only [List.mem_cons, List.not_mem_nil, or_false] at hx
      rcases hx with rfl | rfl | rfl | rfl | rfl | rfl
      · exact (fine_oth rfl).p rfl
      · exact (fine_oth rfl).p rfl
      · exact ((shB_ok (z := "123") (n := 3) (by decide +kernel)).fine (by omega) _).p rfl
      · exact ((shB_ok (z := "") (n := 0) (by decide +kernel)).fine (by omega) _).p rfl
      · exact (show Tp [] 0 from ⟨Nat.le_refl _, fun x hx => by cases hx⟩).fine (by omega) _
      · exact (fine_ref_l (ds := [.int 1]) (by rw [List.getElem?_append_right (by omega)]; simp)).p rfl
  · refine F4.trans ?_
    have F6 : Fr s4 S6 := ⟨by rw [hS6, List.length_set]; exact F5.len, fun j o hj e => by
      have hjl : j < s4.length := (List.getElem?_eq_some_iff.mp e).1
      rw [hS6, List.getElem?_set_ne (by omega)]
      exact F5.at_ j o hj e⟩
    exact F6.trans (Fr.ext _ _)
end K00
end Fn
end
section
set_option Elab.async false
set_option linter.all false
set_option maxRecDepth 100000
set_option maxHeartbeats 4000000
namespace Fn
namespace K00
open PySem PySem.Spec PyProof.Rows L2 LamX
/-! ### _law_stand_right -/
theorem loopS_cons {live : Sto → Prop} {tg : Pat} {body : DS} {d : D} {ds : List D} {env env1 e : Ev} {st s : Sto} (hl : live st) (hg : dG tg d env = some env1) (hb : body env1 st = .next e s) : loopS live tg body (d :: ds) env st = loopS live tg body ds e s := by
  rw [loopS, if_pos hl]
  simp only [hg, hb]
theorem loopS_nil {live : Sto → Prop} {tg : Pat} {body : DS} {env : Ev} {st : Sto} (hl : live st) : loopS live tg body [] env st = .next env st := by
  rw [loopS, if_pos hl]
noncomputable def bodyS (Ls : List (Clo × DE)) : DS := sSeq (sAsg (dClo G__law_caught Ls (aCons (dVar 3) aNil)) (.nm 5))
  (sIf (bOr (bNot (dB (dIsX (tabE "ValueError") (dVar 5)))) (bOr (bNot (dB (dIsX (tabE "DescentError") (dVar 5)))) (dB (d2 (gEqW true) (dCall G__law_kinds (aCons (dVar 5) aNil)) (dLst (aCons (dVar 4) aNil)))))) (sRet (dC (.bl false))) sNil)
theorem a_dClo {g : (Sto → R D) → Sto → R D} {Ls : List (Clo × DE)} {fa : DA} {env : Ev} {st s1 : Sto} {c : Clo} (h : fa env st = .ok [.clo c] s1) (hin : ∃ fl, (c, fl) ∈ Ls) : dClo g Ls fa env st = g (fun s => pick Ls c env s) s1 := by
  unfold dClo
  rw [h, R.bind_ok]
  dsimp only
  rw [if_pos hin]
theorem stand_step {Ls : List (Clo × DE)} {c : Clo} {w : Str} {d : D} {j : Nat} {x5 : Option D} {S : Sto} (hin : ∃ fl, (c, fl) ∈ Ls) (hc : w ∈ raisedN) (hk : kinds (.exc w []) = [w]) (hv : kindB (.exc w []) "ValueError" = true) (hd : kindB (.exc w []) "DescentError" = true) (hok : PyData.strOk w = true)
    (hr : Rx (pick Ls c [some (.ref 1), some d, some (.ref j), some (.clo c), some (.str w), x5] S) S w) :
    ∃ t, bodyS Ls [some (.ref 1), some d, some (.ref j), some (.clo c), some (.str w), x5] S = .next [some (.ref 1), some d, some (.ref j), some (.clo c), some (.str w), some (.exc w [])] (S ++ t) := by
  obtain ⟨t, e⟩ := hr
  have okE : okErr (.exc w []) = true := by simp [okErr, hc]
  obtain ⟨t2, e2⟩ := kinds_yl (e := .exc w []) (st := S ++ t) okE
  refine ⟨t ++ (.lst [.str w] :: t2) ++ [.lst [.str w]], ?_⟩
  have q1 : sAsg (dClo G__law_caught Ls (aCons (dVar 3) aNil)) (.nm 5) [some (.ref 1), some d, some (.ref j), some (.clo c), some (.str w), x5] S = .next [some (.ref 1), some d, some (.ref j), some (.clo c), some (.str w), some (.exc w [])] (S ++ t) := by
    rw [a_sSet, a_dClo (c := c) (s1 := S) rfl hin]
    unfold G__law_caught
    dsimp only
    rw [e]
    dsimp only
    rw [if_pos ⟨hc, rfl⟩, R.into_ok]
    rfl
  have v5 : ∀ s, dVar 5 [some (.ref 1), some d, some (.ref j), some (.clo c), some (.str w), some (.exc w [])] s = .ok (.exc w []) s := fun _ => rfl
  have v4 : ∀ s, dVar 4 [some (.ref 1), some d, some (.ref j), some (.clo c), some (.str w), some (.exc w [])] s = .ok (.str w) s := fun _ => rfl
  have l1 : ∀ s, dLst (aCons (dVar 4) aNil) [some (.ref 1), some d, some (.ref j), some (.clo c), some (.str w), some (.exc w [])] s = .ok (.ref s.length) (s ++ [.lst [.str w]]) := fun s => lsts_ok (by rw [a_aCons, v4, R.bind_ok, a_aNil, R.bind_ok]) (by simp)
  rw [hk] at e2
  have eqk : gEqW true (.ref (S ++ t).length) (.ref (S ++ t ++ O.lst (List.map D.str [w]) :: t2).length) ((S ++ t ++ O.lst (List.map D.str [w]) :: t2) ++ [.lst [.str w]]) = .ok (.bl false) ((S ++ t ++ O.lst (List.map D.str [w]) :: t2) ++ [.lst [.str w]]) := by
    have h1 : ((S ++ t ++ O.lst (List.map D.str [w]) :: t2) ++ [O.lst [.str w]])[(S ++ t).length]? = some (.lst ([w].map .str)) := get_ext _ get_mid
    have h2 : ((S ++ t ++ O.lst (List.map D.str [w]) :: t2) ++ [O.lst [.str w]])[(S ++ t ++ O.lst (List.map D.str [w]) :: t2).length]? = some (.lst ([w].map .str)) := get_mid
    exact (eq_strs (neg := true) h1 h2 (by simp [hok]) (by simp [hok])).trans (by simp)
  unfold bodyS
  rw [a_sSeq q1, a_sIf]
  simp only [a_bOr, a_bNot, a_dB, isX_eq okE (v5 _), hv, hd, R.bind_ok, asB, Bool.not_true, Bool.false_eq_true, if_false, a_d2, a_dCall, a_aCons, a_aNil, v5, e2, l1, eqk, R.into_ok, a_sNil]
  simp
end K00
end Fn
end
section
set_option Elab.async false
set_option linter.all false
set_option maxRecDepth 100000
set_option maxHeartbeats 4000000
namespace Fn
namespace K00
open PySem PySem.Spec PyProof.Rows L2 LamX
def five : List D := [.non, .str "2", .int 5, .str (repS "0" 25), .tup [.str "0"]]
theorem five_fine {d : D} (h : d ∈ five) (S : Sto) : Fine d S ∧ anyB d = false ∧ placesB d 24 = false ∧ ∀ ds, d = .tup ds → ds.length ≤ lineN ∧ ∀ x ∈ ds, ∃ k, tyName x S = some k := by
  have hN : lineN = 16777216 := by decide
  simp only [five, List.mem_cons, List.not_mem_nil, or_false] at h
  rcases h with rfl | rfl | rfl | rfl | rfl
  · exact ⟨fine_oth rfl, rfl, rfl, fun ds e => by cases e⟩
  · exact ⟨(shB_ok (z := "2") (n := 1) (by decide +kernel)).fine (by omega) _, by decide +kernel, rfl, fun ds e => by cases e⟩
  · exact ⟨fine_oth rfl, rfl, rfl, fun ds e => by cases e⟩
  · exact ⟨(shB_ok (z := repS "0" 25) (n := 25) (by decide +kernel)).fine (by omega) _, by decide +kernel, rfl, fun ds e => by cases e⟩
  · exact ⟨fine_oth rfl, rfl, by decide +kernel, fun ds e => by
      cases e
      refine ⟨by simp; omega, fun x hx => ?_⟩
      rw [List.mem_singleton.mp hx]
      exact ⟨_, rfl⟩⟩
theorem pick_hit {c : Clo} {fl : DE} {Ls : List (Clo × DE)} {env : Ev} {st : Sto} : pick ((c, fl) :: Ls) c env st = fl env st := by
  unfold pick
  rw [if_pos rfl]
theorem pick_miss {c c' : Clo} {fl : DE} {Ls : List (Clo × DE)} {env : Ev} {st : Sto} (h : c' ≠ c) : pick ((c', fl) :: Ls) c env st = pick Ls c env st := by
  rw [pick, if_neg h]
theorem stand_out {st : Sto} {c0 c1 c2 : Clo} (h0 : c0.id = 0) (h1 : c1.id = 1) (h2 : c2.id = 2) (hD : Dr 0 st) (hl : st.length = 3) :
    ∃ d s t, G__law_pick [.ref 1, .ref 3] (st ++ [.lst five]) = .ok d s ∧ Dr 1 s ∧ Fr st s ∧ fb__law_stand_right G__law_pick G_is_word G_word_of G_ones G__law_caught G__law_kinds c0 c1 c2 (ev0 N__law_stand_right [.ref 1]) st = .ret (.bl true) (s ++ t) := by
  have hN : lineN = 16777216 := by decide
  have n01 : c0 ≠ c1 := fun e => by rw [e, h1] at h0; cases h0
  have n02 : c0 ≠ c2 := fun e => by rw [e, h2] at h0; cases h0
  have n12 : c1 ≠ c2 := fun e => by rw [e, h2] at h1; cases h1
  obtain ⟨d, s, e1, hm, D1, F1⟩ := (pick_out (n := 0) (st := st ++ [.lst five]) (i := 3) (hD.ext _) (by omega) (by omega) (by rw [← hl]; exact get_mid) ⟨by decide, by decide⟩).ex
  refine ⟨d, s, ?_⟩
  obtain ⟨W, hW⟩ : ∃ W : List D, W = [.str "BadWord", .str "BadPlaces", .str "BadMany"] := ⟨_, rfl⟩
  have q1 : sAsg (dCall G__law_pick (aCons (dVar 0) (aCons (dLst (aCons (dC .non) (aCons (dC (.str "2")) (aCons (dC (.int 5)) (aCons (d2 gMul (dC (.str "0")) (dC (.int 25))) (aCons (dTup (aCons (dC (.str "0")) aNil)) aNil)))))) aNil))) (.nm 1) (ev0 N__law_stand_right [.ref 1]) st = .next [some (.ref 1), some d, none, none, none, none] s := by
    have v0 : ∀ s, dVar 0 (ev0 N__law_stand_right [.ref 1]) s = .ok (.ref 1) s := fun _ => rfl
    have t1 : ∀ s, dTup (aCons (dC (.str "0")) aNil) (ev0 N__law_stand_right [.ref 1]) s = .ok (.tup [.str "0"]) s := fun s => tup1_ok rfl
    have r1 : ∀ s, gMul (.str "0") (.int 25) s = .ok (.str (repS "0" 25)) s := fun s => rep_str (n := 25) (by decide) (by omega)
    have l1 : dLst (aCons (dC .non) (aCons (dC (.str "2")) (aCons (dC (.int 5)) (aCons (d2 gMul (dC (.str "0")) (dC (.int 25))) (aCons (dTup (aCons (dC (.str "0")) aNil)) aNil))))) (ev0 N__law_stand_right [.ref 1]) st = .ok (.ref 3) (st ++ [.lst five]) := by
      rw [lsts_ok (ds := five) (by
        simp only [a_aCons, a_aNil, a_dC, a_d2, R.bind_ok, t1, r1]
        rfl) (by decide), hl]
    rw [a_sSet, a_dCall, a_aCons, v0, R.bind_ok, a_aCons, l1, R.bind_ok, a_aNil, R.bind_ok, R.bind_ok, R.bind_ok, e1, R.into_ok]
    rfl
  have q2 : sAsg (dLst (aCons (dC (.clo c2)) (aCons (dC (.clo c1)) (aCons (dC (.clo c0)) aNil)))) (.nm 2) [some (.ref 1), some d, none, none, none, none] s = .next [some (.ref 1), some d, some (.ref s.length), none, none, none] (s ++ [.lst [.clo c2, .clo c1, .clo c0]]) := by
    rw [a_sSet, lsts_ok (ds := [.clo c2, .clo c1, .clo c0]) rfl (by simp), R.into_ok]
    rfl
  obtain ⟨S1, hS1⟩ : ∃ S1, S1 = (s ++ [O.lst [.clo c2, .clo c1, .clo c0]]) ++ [O.lst W] := ⟨_, rfl⟩
  have g1 : S1[s.length]? = some (.lst [.clo c2, .clo c1, .clo c0]) := by rw [hS1]; exact get_ext _ get_mid
  have g2 : S1[(s ++ [O.lst [.clo c2, .clo c1, .clo c0]]).length]? = some (.lst W) := by rw [hS1]; exact get_mid
  have hz : dIt gZip (aCons (dVar 2) (aCons (dLst (aCons (dC (.str "BadWord")) (aCons (dC (.str "BadPlaces")) (aCons (dC (.str "BadMany")) aNil)))) aNil)) [some (.ref 1), some d, some (.ref s.length), none, none, none] (s ++ [.lst [.clo c2, .clo c1, .clo c0]]) =
      .ok ⟨[.tup [.clo c2, .str "BadWord"], .tup [.clo c1, .str "BadPlaces"], .tup [.clo c0, .str "BadMany"]], [(s.length, .lst [.clo c2, .clo c1, .clo c0]), ((s ++ [O.lst [.clo c2, .clo c1, .clo c0]]).length, .lst W)]⟩ S1 := by
    have v2 : ∀ s', dVar 2 [some (.ref 1), some d, some (.ref s.length), none, none, none] s' = .ok (.ref s.length) s' := fun _ => rfl
    have l1 : ∀ s', dLst (aCons (dC (.str "BadWord")) (aCons (dC (.str "BadPlaces")) (aCons (dC (.str "BadMany")) aNil))) [some (.ref 1), some d, some (.ref s.length), none, none, none] s' = .ok (.ref s'.length) (s' ++ [.lst W]) := fun s' => lsts_ok (by rw [hW]; rfl) (by rw [hW]; simp)
    unfold dIt
    rw [a_aCons, v2, R.bind_ok, a_aCons, l1, R.bind_ok, a_aNil, R.bind_ok, R.bind_ok, R.bind_ok, ← hS1]
    unfold gZip seqW
    dsimp only
    rw [g1, g2]
    dsimp only
    rw [if_pos rfl, hW]
    rfl
  obtain ⟨Ls, hLs⟩ : ∃ Ls, Ls = [(c0, fl__law_stand_right_0 G__law_pick G_is_word G_word_of G_ones G__law_caught G__law_kinds), (c1, fl__law_stand_right_1 G__law_pick G_is_word G_word_of G_ones G__law_caught G__law_kinds), (c2, fl__law_stand_right_2 G__law_pick G_is_word G_word_of G_ones G__law_caught G__law_kinds)] := ⟨_, rfl⟩
  obtain ⟨lv, hlv⟩ : ∃ lv, lv = IT.live ⟨[.tup [.clo c2, .str "BadWord"], .tup [.clo c1, .str "BadPlaces"], .tup [.clo c0, .str "BadMany"]], [(s.length, .lst [.clo c2, .clo c1, .clo c0]), ((s ++ [O.lst [.clo c2, .clo c1, .clo c0]]).length, .lst W)]⟩ := ⟨_, rfl⟩
  have live : ∀ t, lv (S1 ++ t) := fun t => by
    rw [hlv]
    intro q hq
    have : q = (s.length, .lst [.clo c2, .clo c1, .clo c0]) ∨ q = ((s ++ [O.lst [.clo c2, .clo c1, .clo c0]]).length, .lst W) := by simpa using hq
    rcases this with e | e
    · rw [e]; exact get_ext t g1
    · rw [e]; exact get_ext t g2
  -- the three turns
  have r1 : ∀ (x3 x4 x5 : Option D) S, Rx (pick Ls c2 [some (.ref 1), some d, some (.ref s.length), x3, x4, x5] S) S "BadWord" := fun x3 x4 x5 S => by
    obtain ⟨f1, f2, _⟩ := five_fine hm S
    have e : pick Ls c2 [some (.ref 1), some d, some (.ref s.length), x3, x4, x5] S = G_ones [d] S := by
      rw [hLs, pick_miss n02, pick_miss n12, pick_hit]
      rfl
    rw [e]
    exact ones_no f1.nice f2
  have r2 : ∀ (x3 x4 x5 : Option D) S, Rx (pick Ls c1 [some (.ref 1), some d, some (.ref s.length), x3, x4, x5] S) S "BadPlaces" := fun x3 x4 x5 S => by
    obtain ⟨f1, _, f3, f4⟩ := five_fine hm S
    have e : pick Ls c1 [some (.ref 1), some d, some (.ref s.length), x3, x4, x5] S = G_word_of [d, .int 24] S := by
      rw [hLs, pick_miss n01, pick_hit]
      rfl
    rw [e]
    exact word_of_places f1.nice f4 f3
  have r3 : ∀ (x3 x4 x5 : Option D) S, Rx (pick Ls c0 [some (.ref 1), some d, some (.ref s.length), x3, x4, x5] S) S "BadMany" := fun x3 x4 x5 S => by
    have e : pick Ls c0 [some (.ref 1), some d, some (.ref s.length), x3, x4, x5] S = G_is_word [d, .int (-1)] S := by
      rw [hLs, pick_hit]
      rfl
    rw [e]
    exact is_word_no (k := "int") rfl (by decide)
  obtain ⟨t1, b1⟩ := stand_step (x5 := none) (S := S1) ⟨fl__law_stand_right_2 G__law_pick G_is_word G_word_of G_ones G__law_caught G__law_kinds, by rw [hLs]; simp⟩ (by decide +kernel) kinds_word (by decide +kernel) (by decide +kernel) (by decide +kernel) (r1 (some (.clo c2)) (some (.str "BadWord")) none S1)
  obtain ⟨t2, b2⟩ := stand_step (x5 := some (.exc "BadWord" [])) (S := S1 ++ t1) ⟨fl__law_stand_right_1 G__law_pick G_is_word G_word_of G_ones G__law_caught G__law_kinds, by rw [hLs]; simp⟩ (by decide +kernel) kinds_places (by decide +kernel) (by decide +kernel) (by decide +kernel) (r2 (some (.clo c1)) (some (.str "BadPlaces")) (some (.exc "BadWord" [])) (S1 ++ t1))
  obtain ⟨t3, b3⟩ := stand_step (x5 := some (.exc "BadPlaces" [])) (S := S1 ++ t1 ++ t2) ⟨fl__law_stand_right_0 G__law_pick G_is_word G_word_of G_ones G__law_caught G__law_kinds, by rw [hLs]; simp⟩ (by decide +kernel) kinds_many (by decide +kernel) (by decide +kernel) (by decide +kernel) (r3 (some (.clo c0)) (some (.str "BadMany")) (some (.exc "BadPlaces" [])) (S1 ++ t1 ++ t2))
  have q3 : sFor (dIt gZip (aCons (dVar 2) (aCons (dLst (aCons (dC (.str "BadWord")) (aCons (dC (.str "BadPlaces")) (aCons (dC (.str "BadMany")) aNil)))) aNil))) (.tp [(.nm 3), (.nm 4)]) (bodyS Ls) [some (.ref 1), some d, some (.ref s.length), none, none, none] (s ++ [.lst [.clo c2, .clo c1, .clo c0]]) = .next [some (.ref 1), some d, some (.ref s.length), some (.clo c0), some (.str "BadMany"), some (.exc "BadMany" [])] (S1 ++ t1 ++ t2 ++ t3) := by
    unfold sFor
    rw [hz, R.into_ok, ← hlv]
    dsimp only
    rw [loopS_cons (env1 := [some (.ref 1), some d, some (.ref s.length), some (.clo c2), some (.str "BadWord"), none]) (by simpa using live []) rfl b1,
      loopS_cons (env1 := [some (.ref 1), some d, some (.ref s.length), some (.clo c1), some (.str "BadPlaces"), some (.exc "BadWord" [])]) (live t1) rfl b2,
      loopS_cons (env1 := [some (.ref 1), some d, some (.ref s.length), some (.clo c0), some (.str "BadMany"), some (.exc "BadPlaces" [])]) (by rw [List.append_assoc]; exact live _) rfl b3,
      loopS_nil (by rw [List.append_assoc, List.append_assoc]; exact live _)]
  rw [hLs] at q3
  unfold bodyS at q3
  refine ⟨[O.lst [.clo c2, .clo c1, .clo c0], O.lst W] ++ t1 ++ t2 ++ t3, e1, D1, (Fr.ext _ _).trans F1, ?_⟩
  unfold fb__law_stand_right
  rw [a_sSeq q1, a_sSeq q2, a_sSeq q3, a_sRet, a_dC, R.into_ok, hS1]
  simp
open Classical in
/-- what _law_stand_right comes to where the law asks -/
noncomputable def G__law_stand_right (ds : List D) (st : Sto) : R D :=
  if ds = [.ref 1] ∧ st.length = 3 ∧ Dr 0 st then (match G__law_pick [.ref 1, .ref 3] (st ++ [.lst five]) with
    | .ok _ s => .ok (.bl true) (s.take 3)
    | _ => .bad) else .bad
theorem lowL_ints (n : Nat) : ∀ L : List Int, lowL n (L.map .int) = true
  | [] => by simp [lowL]
  | i :: L => by simp [lowL, D.low, lowL_ints n L]
theorem Dr.low {n : Nat} {s : Sto} (h : Dr n s) : lowS 3 s := by
  obtain ⟨L, C, r, t, h0, h1, h2, _⟩ := h.ex
  refine ⟨(List.getElem?_eq_some_iff.mp h2).1, fun i o hi e => ?_⟩
  have : i = 0 ∨ i = 1 ∨ i = 2 := by omega
  rcases this with rfl | rfl | rfl
  · rw [h0] at e; cases e; exact lowL_ints 3 L
  · rw [h1] at e; cases e; simp [O.low, drK, D.low]
  · rw [h2] at e; cases e; exact lowL_ints 3 C
theorem Dr.take {n : Nat} {s : Sto} (h : Dr n s) : Dr n (s.take 3) := by
  obtain ⟨L, C, r, t, h0, h1, h2, h3⟩ := h.ex
  exact ⟨L, C, r, t, by rw [List.getElem?_take_of_lt (by omega)]; exact h0, by rw [List.getElem?_take_of_lt (by omega)]; exact h1, by rw [List.getElem?_take_of_lt (by omega)]; exact h2, h3⟩
theorem ref_stand {K : PySem.W.Frag} {mg : Str → Option Value} {T : TB} (c0 c1 c2 : Clo) (h0 : c0.id = 0) (h1 : c1.id = 1) (h2 : c2.id = 2) (ds : List D) (st : Sto) (hl : ds.length = 1) : Ref K mg T st.length (fb__law_stand_right G__law_pick G_is_word G_word_of G_ones G__law_caught G__law_kinds c0 c1 c2 (ev0 N__law_stand_right ds) st).toR (G__law_stand_right ds st) := by
  unfold G__law_stand_right
  split
  · rename_i hc
    obtain ⟨rfl, hs, hD⟩ := hc
    obtain ⟨d, s, t, e1, D1, F1, e2⟩ := stand_out h0 h1 h2 hD hs
    rw [e1, e2, hs]
    refine Ref.low (by rfl) (D1.ext t).low ?_
    have : 3 ≤ s.length := D1.three
    rw [List.take_append_of_le_length this]
  · exact Ref.bad
theorem stand_eq {st : Sto} (hD : Dr 0 st) (hl : st.length = 3) : ∃ s, G__law_stand_right [.ref 1] st = .ok (.bl true) s ∧ Dr 1 s ∧ s.length = 3 := by
  obtain ⟨d, s, e1, hm, D1, F1⟩ := (pick_out (n := 0) (st := st ++ [.lst five]) (i := 3) (hD.ext _) (by omega) (by omega) (by rw [← hl]; exact get_mid) ⟨by decide, by decide⟩).ex
  refine ⟨s.take 3, ?_, D1.take, by rw [List.length_take]; have := D1.three; omega⟩
  unfold G__law_stand_right
  rw [if_pos ⟨rfl, hl, hD⟩, e1]
end K00
end Fn
end
section
set_option Elab.async false
set_option linter.all false
set_option maxRecDepth 100000
set_option maxHeartbeats 4000000
namespace Fn
namespace K00
open PySem PySem.Spec PyProof.Rows L2 LamX
/-! ### the law's statements, one by one -/
noncomputable def FL0 : DE := fl_law_0 G__law_begun G__law_stand_right G__law_same G__law_kept G__law_near_names G__law_name G__law_is G__law_is_name G_is_name G__law_take G__law_word G_ones G_word_of G__law_near_words G__law_is_word G_is_word G__law_refused G__law_pick G__law_near_places G__law_are_places
noncomputable def FL1 : DE := fl_law_1 G__law_begun G__law_stand_right G__law_same G__law_kept G__law_near_names G__law_name G__law_is G__law_is_name G_is_name G__law_take G__law_word G_ones G_word_of G__law_near_words G__law_is_word G_is_word G__law_refused G__law_pick G__law_near_places G__law_are_places
noncomputable def FL2 : DE := fl_law_2 G__law_begun G__law_stand_right G__law_same G__law_kept G__law_near_names G__law_name G__law_is G__law_is_name G_is_name G__law_take G__law_word G_ones G_word_of G__law_near_words G__law_is_word G_is_word G__law_refused G__law_pick G__law_near_places G__law_are_places
noncomputable def FL3 : DE := fl_law_3 G__law_begun G__law_stand_right G__law_same G__law_kept G__law_near_names G__law_name G__law_is G__law_is_name G_is_name G__law_take G__law_word G_ones G_word_of G__law_near_words G__law_is_word G_is_word G__law_refused G__law_pick G__law_near_places G__law_are_places
noncomputable def B1 : DS := (sAsg (dCall G__law_begun (aCons (dVar 0) aNil)) (.nm 1))
noncomputable def B2 : DS := (sIf (bNot (dB (dCall G__law_stand_right (aCons (dVar 1) aNil)))) (sRet (dC (.bl false))) sNil)
noncomputable def B3 : DS := (sIf (bNot (dB (dCall G__law_same (aCons (dC cv_KEPT) (aCons (dCall gTupleA (aCons (dCall G__law_kept aNil) aNil)) aNil))))) (sRet (dC (.bl false))) sNil)
noncomputable def A1 : DS := (sFor (dIter (dCall G__law_near_names (aCons (dVar 1) (aCons (dCall G__law_name (aCons (dVar 1) (aCons (dLst aNil) aNil))) aNil)))) (.nm 3) (sIf (bNot (dB (dCall G__law_is (aCons (dCall G_is_name (aCons (dVar 3) aNil)) (aCons (dCall G__law_is_name (aCons (dVar 3) aNil)) aNil))))) (sRet (dC (.bl false))) sNil))
noncomputable def A2 : DS := (sAsg (dCall G__law_take (aCons (dVar 1) (aCons (dC (.int 25)) aNil))) (.nm 4))
noncomputable def A3 : DS := (sAsg (dCall G__law_word (aCons (dVar 1) (aCons (dVar 4) aNil))) (.nm 5))
noncomputable def A4 : DS := (sPar [6, 7] (aCons (dCall gTupleA (aCons (dLc [12] (dIt gRange1 (aCons (dVar 4) aNil)) (.nm 12) (dB (d2 (gEqW false) (d2 gIx (dVar 5) (dVar 12)) (dC (.str "1")))) (d2 gAdd (dVar 12) (dC (.int 1)))) aNil)) (aCons (d2 gAdd (dVar 4) (dCall G__law_take (aCons (dVar 1) (aCons (d2 gSub (dC (.int 25)) (dVar 4)) aNil)))) aNil)))
noncomputable def A5 : DS := (sIf (bOr (bNot (dB (dCall G__law_same (aCons (dCall G_ones (aCons (dVar 5) aNil)) (aCons (dVar 6) aNil))))) (bNot (dB (dCall G__law_same (aCons (dCall G_word_of (aCons (dVar 6) (aCons (dVar 4) aNil))) (aCons (dVar 5) aNil)))))) (sRet (dC (.bl false))) sNil)
noncomputable def A6 : DS := (sIf (bNot (dB (dCall G__law_same (aCons (fun env st => ((aCons (dVar 7) (aCons (dVar 6) aNil)) env st).bind fun ds s1 => G_word_of (permD [1, 0] ds) s1) (aCons (d2 gAdd (dVar 5) (d2 gMul (dC (.str "0")) (d2 gSub (dVar 7) (dVar 4)))) aNil))))) (sRet (dC (.bl false))) sNil)
noncomputable def A7 (c0 : Clo) : DS := (sFor (dIter (dCall G__law_near_words (aCons (dVar 1) (aCons (dVar 5) aNil)))) (.nm 3) (sSeq (sFor (dIter (dLst (aCons (dVar 4) (aCons (dVar 7) (aCons (dCall gMax2 (aCons (d2 gSub (dVar 4) (dC (.int 1))) (aCons (dC (.int 0)) aNil))) (aCons (dCall gMin2 (aCons (d2 gAdd (dVar 4) (dC (.int 1))) (aCons (dC (.int 24)) aNil))) aNil)))))) (.nm 8) (sIf (bNot (dB (dCall G__law_is (aCons (fun env st => ((aCons (dVar 8) (aCons (dVar 3) aNil)) env st).bind fun ds s1 => G_is_word (permD [1, 0] ds) s1) (aCons (dCall G__law_is_word (aCons (dVar 3) (aCons (dVar 8) aNil))) aNil))))) (sRet (dC (.bl false))) sNil)) (sSeq (sAsg (dAnd (dIsTy "str" (dVar 3)) (dAnd (d2 gLt (dCall gLen (aCons (dVar 3) aNil)) (dC (.int 25))) (dCall G__law_is_word (aCons (dVar 3) (aCons (dCall gLen (aCons (dVar 3) aNil)) aNil))))) (.nm 9)) (sIf (dB (d2 (gEqW true) (dClo G__law_refused [(c0, FL0)] (aCons (dC (.clo c0)) aNil)) (dIf (dB (dVar 9)) (dLst aNil) (dLst (aCons (dC (.str "BadWord")) aNil))))) (sRet (dC (.bl false))) sNil))))
noncomputable def A8 : DS := (sAsg (dLst (aCons (d1 gNeg (dC (.int 1))) (aCons (dC (.int 25)) (aCons (dC .non) (aCons (dC (.bl true)) (aCons (dC (.bl false)) (aCons (dC (.str "3")) (aCons (dTup (aCons (dC (.int 3)) aNil)) (aCons (dLst (aCons (dC (.int 3)) aNil)) (aCons (d2 gPow (dC (.int 10)) (dC (.int 30))) (aCons (d1 gNeg (d2 gPow (dC (.int 10)) (dC (.int 30)))) (aCons (d2 gAdd (d2 gAdd (dC (.int 24)) (dCall G__law_take (aCons (dVar 1) (aCons (d2 gPow (dC (.int 10)) (dC (.int 9))) aNil)))) (dC (.int 1))) aNil)))))))))))) (.nm 10))
noncomputable def A9 : DS := (sAsg (dCall G__law_pick (aCons (dVar 1) (aCons (dVar 10) aNil))) (.nm 8))
noncomputable def A10 (c1 : Clo) : DS := (sIf (dB (d2 (gEqW true) (dClo G__law_refused [(c1, FL1)] (aCons (dC (.clo c1)) aNil)) (dLst (aCons (dC (.str "BadMany")) aNil)))) (sRet (dC (.bl false))) sNil)
noncomputable def A11 (c2 c3 : Clo) : DS := (sFor (dIter (dCall G__law_near_places (aCons (dVar 1) (aCons (dVar 6) aNil)))) (.nm 3) (sSeq (sAsg (dIf (bNot (dB (dCall G__law_are_places (aCons (dVar 3) (aCons (dC (.int 24)) aNil))))) (dLst (aCons (dC (.str "BadPlaces")) aNil)) (dLst (aCons (dC (.str "BadMany")) aNil))) (.nm 11)) (sSeq (sFor (dIter (d2 gAdd (dVar 10) (dIf (bAnd (dB (d2 (gEqW false) (dVar 11) (dLst (aCons (dC (.str "BadMany")) aNil)))) (dB (d2 (gEqW true) (dVar 3) (dTup aNil)))) (d1 gListRg (dCall gMaxS (aCons (dVar 3) aNil))) (dLst aNil)))) (.nm 8) (sIf (dB (d2 (gEqW true) (dClo G__law_refused [(c2, FL2)] (aCons (dC (.clo c2)) aNil)) (dVar 11))) (sRet (dC (.bl false))) sNil)) (sIf (dB (d2 (gEqW false) (dVar 11) (dLst (aCons (dC (.str "BadMany")) aNil)))) (sSeq (sAsg (dCall gMaxS (aCons (d2 gAdd (dTup (aCons (dC (.int 0)) aNil)) (dVar 3)) aNil)) (.nm 8)) (sIf (bNot (dB (dCall G__law_same (aCons (dCall G_word_of (aCons (dVar 3) (aCons (dVar 8) aNil))) (aCons (dM "str" gJoin (dC (.str "")) (aCons (dLc [12] (dIt gRange1 (aCons (dVar 8) aNil)) (.nm 12) bYes (dCall gStr1 (aCons (dCall gInt1 (aCons (d2 (gIn false) (d2 gAdd (dVar 12) (dC (.int 1))) (dVar 3)) aNil)) aNil))) aNil)) aNil))))) (sRet (dC (.bl false))) sNil)) (sIf (dB (d2 (gEqW true) (dClo G__law_refused [(c3, FL3)] (aCons (dC (.clo c3)) aNil)) (dVar 11))) (sRet (dC (.bl false))) sNil)))))
noncomputable def bodyL (c0 c1 c2 c3 : Clo) : DS := (sSeq A1 (sSeq A2 (sSeq A3 (sSeq A4 (sSeq A5 (sSeq A6 (sSeq (A7 c0) (sSeq A8 (sSeq A9 (sSeq (A10 c1) (A11 c2 c3)))))))))))
noncomputable def B5 : DS := (sRet (dC (.bl true)))
theorem fb_law_eq (c0 c1 c2 c3 : Clo) : fb_law G__law_begun G__law_stand_right G__law_same G__law_kept G__law_near_names G__law_name G__law_is G__law_is_name G_is_name G__law_take G__law_word G_ones G_word_of G__law_near_words G__law_is_word G_is_word G__law_refused G__law_pick G__law_near_places G__law_are_places c0 c1 c2 c3 = (sSeq B1 (sSeq B2 (sSeq B3 (sSeq (sFor (dIt gRange1 (aCons (d2 gAdd (dC (.int 3)) (dCall gMin2 (aCons (dCall gLen (aCons (dVar 0) aNil)) (aCons (dC (.int 5)) aNil)))) aNil)) (.nm 2) (bodyL c0 c1 c2 c3)) B5)))) := rfl
end K00
end Fn
end
section
set_option Elab.async false
set_option linter.all false
set_option maxRecDepth 100000
set_option maxHeartbeats 4000000
namespace Fn
namespace K00
open PySem PySem.Spec PyProof.Rows L2 LamX
/-! ### _law_same -/
theorem same_eq {a b : D} {st : Sto} {p : PyData} (ha : datN st 9 a = some p) (hb : datN st 9 b = some p) (h1 : p.showable = true) (h2 : p.hasDict = false) (h3 : PyData.layable0 p = true) (h4 : p.depth ≤ 60) (h5 : p.intsShort 13 = true) : G__law_same [a, b] st = .ok (.bl true) st := by
  have hN : lineN = 16777216 := by decide
  have hl := PyData.shown_le_of_layable0 h3 h5
  have r : ∀ {x : D}, datN st 9 x = some p → gRepr [x] st = .ok (.str p.shown) st := fun {x} hx => by
    unfold gRepr
    dsimp only
    rw [hx]
    dsimp only
    rw [if_pos ⟨h1, h2, h4, by omega⟩]
  have v0 : ∀ s, dVar 0 (ev0 N__law_same [a, b]) s = .ok a s := fun _ => rfl
  have v1 : ∀ s, dVar 1 (ev0 N__law_same [a, b]) s = .ok b s := fun _ => rfl
  have q : gEqW false (.str p.shown) (.str p.shown) st = .ok (.bl true) st := by
    show R.ok (D.bl (decide (p.shown = p.shown))) st = _
    rw [decide_eq_true rfl]
  unfold G__law_same fb__law_same
  simp only [a_sRet, a_d2, a_dCall, a_aCons, a_aNil, v0, v1, R.bind_ok, r ha, r hb, q, R.into_ok]
  rfl
theorem same_str {z : Str} {n : Nat} {st : Sto} (h : Sh z n) (hn : n ≤ 1000) : G__law_same [.str z, .str z] st = .ok (.bl true) st := by
  have hd : datN st 9 (.str z) = some (.str z) := by rw [datN]
  have hl := h.len
  refine same_eq hd hd (by simp [PyData.showable]) (by simp [PyData.hasDict]) ?_ (by simp [PyData.depth]) (by simp [PyData.intsShort])
  have e : (2 : Nat) ^ 20 = 1048576 := by decide
  unfold Str.length at hl
  simp only [PyData.layable0, PyData.canLay0, ok_of h.ok, PyData.depth, PyData.weight, Bool.true_and, Bool.and_eq_true, decide_eq_true_eq]
  exact ⟨decide_eq_true (by omega), decide_eq_true (by omega)⟩
theorem ints_dat : ∀ (ns : List Int) (st : Sto) (n : Nat), datL st (n + 1) (ns.map D.int) = some (ns.map PyData.int)
  | [], st, n => by rw [List.map_nil, datL]; rfl
  | i :: ns, st, n => by
    rw [List.map_cons, datL, ints_dat ns st n, datN]
    rfl
theorem small_ts {i : Int} (h : 0 ≤ i ∧ i ≤ 30) : ((toString i : Str)).length ≤ 13 := by
  have e : ((List.range 31).all fun k => decide (((toString (k : Int) : Str)).length ≤ 13)) = true := by decide +kernel
  have := List.all_eq_true.mp e i.toNat (List.mem_range.mpr (by omega))
  rw [decide_eq_true_eq, Int.toNat_of_nonneg h.1] at this
  exact this
theorem small_w {i : Int} (h : 0 ≤ i ∧ i ≤ 30) : (PyData.int i).weight ≤ 6 := by
  have e : ((List.range 31).all fun k => decide ((PyData.int (k : Int)).weight ≤ 6)) = true := by decide +kernel
  have := List.all_eq_true.mp e i.toNat (List.mem_range.mpr (by omega))
  rw [decide_eq_true_eq, Int.toNat_of_nonneg h.1] at this
  exact this
theorem small_all : ∀ ns : List Int, (∀ i ∈ ns, 0 ≤ i ∧ i ≤ 30) → PyData.showableAll (ns.map .int) = true ∧ PyData.hasDictAll (ns.map .int) = false ∧ PyData.canLayAll0 (ns.map .int) = true ∧ PyData.depthAll (ns.map .int) = 0 ∧ PyData.weightAll (ns.map .int) ≤ 7 * ns.length ∧ PyData.intsShortAll 13 (ns.map .int) = true
  | [], _ => ⟨by simp [PyData.showableAll], by simp [PyData.hasDictAll], by simp [PyData.canLayAll0], by simp [PyData.depthAll], by simp [PyData.weightAll], by simp [PyData.intsShortAll]⟩
  | i :: ns, h => by
    obtain ⟨h1, h2, h3, h4, h5, h6⟩ := small_all ns fun j hj => h j (List.mem_cons_of_mem _ hj)
    have hi := h i List.mem_cons_self
    have hlog : i.natAbs.log2 < 1920 := log_lt (k := 1920) (Nat.lt_of_le_of_lt (show i.natAbs ≤ 30 by omega) (by decide +kernel)) (by omega)
    have hw := small_w hi
    refine ⟨?_, ?_, ?_, ?_, ?_, ?_⟩
    · simp [PyData.showableAll, PyData.showable, h1, hlog]
    · simp [PyData.hasDictAll, PyData.hasDict, h2]
    · simp [PyData.canLayAll0, PyData.canLay0, h3]
    · simp [PyData.depthAll, PyData.depth, h4]
    · rw [List.map_cons, PyData.weightAll, List.length_cons]
      omega
    · simp only [List.map_cons, PyData.intsShortAll, PyData.intsShort, h6, Bool.and_true, decide_eq_true_eq]
      exact small_ts hi
theorem same_ints {ns : List Int} {st : Sto} (h : ∀ i ∈ ns, 0 ≤ i ∧ i ≤ 30) (hl : ns.length ≤ 1000) : G__law_same [.tup (ns.map .int), .tup (ns.map .int)] st = .ok (.bl true) st := by
  have hd : datN st 9 (.tup (ns.map .int)) = some (.tuple (ns.map .int)) := by rw [datN, ints_dat]; rfl
  obtain ⟨h1, h2, h3, h4, h5, h6⟩ := small_all ns h
  have e : (2 : Nat) ^ 20 = 1048576 := by decide
  refine same_eq hd hd (by simpa [PyData.showable] using h1) (by simpa [PyData.hasDict] using h2) ?_ (by simp [PyData.depth, h4]) (by simpa [PyData.intsShort] using h6)
  simp only [PyData.layable0, PyData.canLay0, h3, PyData.depth, h4, PyData.weight, Bool.true_and, Bool.and_eq_true, decide_eq_true_eq]
  exact ⟨by omega, decide_eq_true (by omega)⟩
theorem same_kept {st : Sto} : G__law_same [cv_KEPT, .tup (keptS.map .str)] st = .ok (.bl true) st := by
  have hd : datN st 9 (.tup (keptS.map .str)) = some (.tuple (keptS.map .str)) := by rw [datN, strs_dat]; rfl
  rw [cv_kept]
  exact same_eq hd hd (by decide +kernel) (by decide +kernel) (by decide +kernel) (by decide +kernel) (by decide +kernel)
end K00
end Fn
end
section
set_option Elab.async false
set_option linter.all false
set_option maxRecDepth 100000
set_option maxHeartbeats 4000000
namespace Fn
namespace K00
open PySem PySem.Spec PyProof.Rows L2 LamX
/-! ### a word's places, and back -/
def onesI (w : Str) (n : Nat) : List Int := ((List.range n).filter fun k => decide (w.cps.toList[k]? = some 49)).map fun k => ((k + 1 : Nat) : Int)
theorem onesL_eq (w : Str) (n : Nat) : onesL w n = (onesI w n).map D.int := by
  unfold onesL onesI rngD
  rw [List.filter_map, List.map_map, List.map_map]
  have : ((fun d => oneP w d) ∘ fun k : Nat => D.int (0 + k)) = fun k => decide (w.cps.toList[k]? = some 49) := by
    funext k
    simp [oneP]
  have h2 : ∀ l : List Nat, List.map (succD ∘ fun k : Nat => D.int (0 + (k : Int))) l = List.map (D.int ∘ fun k => ((k + 1 : Nat) : Int)) l := fun l => by
    apply List.map_congr_left
    intro k _
    simp [succD]
  rw [← h2]
  rw [← this]
theorem onesI_mem {w : Str} {n : Nat} {i : Int} : i ∈ onesI w n ↔ ∃ k : Nat, k < n ∧ w.cps.toList[k]? = some 49 ∧ i = k + 1 := by
  unfold onesI
  simp only [List.mem_map, List.mem_filter, List.mem_range, decide_eq_true_eq]
  constructor
  · rintro ⟨k, ⟨h1, h2⟩, rfl⟩
    exact ⟨k, h1, h2, by simp⟩
  · rintro ⟨k, h1, h2, rfl⟩
    exact ⟨k, ⟨h1, h2⟩, by simp⟩
theorem onesI_len (w : Str) (n : Nat) : (onesI w n).length ≤ n := by
  unfold onesI
  rw [List.length_map]
  exact Nat.le_trans (List.length_filter_le _ _) (by simp)
theorem inI_iff (ns : List Int) (i : Int) : inI ns i = true ↔ i ∈ ns := by
  unfold inI inV
  rw [List.any_eq_true]
  constructor
  · rintro ⟨v, hv, e⟩
    obtain ⟨j, hj, rfl⟩ := List.mem_map.mp hv
    have : j = i := by simpa [eqV] using e
    rw [← this]; exact hj
  · intro h
    exact ⟨.int i, List.mem_map.mpr ⟨i, h, rfl⟩, by simp [eqV]⟩
theorem asc_pairs : ∀ (l : List Int), l.Pairwise (· < ·) → ascB (l.map D.int) = true
  | [], _ => rfl
  | [x], _ => rfl
  | x :: y :: r, h => by
    have ih := asc_pairs (y :: r) (List.pairwise_cons.mp h).2
    have hxy : x < y := (List.pairwise_cons.mp h).1 y List.mem_cons_self
    unfold ascB at ih ⊢
    simp only [List.map_cons, List.tail_cons, List.zip_cons_cons, List.all_cons, Bool.and_eq_true] at ih ⊢
    exact ⟨by simp [ltD, hxy], ih⟩
theorem onesI_asc (w : Str) (n : Nat) : (onesI w n).Pairwise (· < ·) := by
  unfold onesI
  refine List.Pairwise.map _ (fun a b h => ?_) ((List.pairwise_lt_range).filter _)
  have h' : a < b := h
  omega
theorem onesI_places {w : Str} {n : Nat} (h : n ≤ 24) : placesB (.tup ((onesI w n).map .int)) 24 = true := by
  unfold placesB
  dsimp only
  rw [Bool.and_eq_true, List.all_eq_true]
  refine ⟨fun x hx => ?_, asc_pairs _ (onesI_asc w n)⟩
  obtain ⟨i, hi, rfl⟩ := List.mem_map.mp hx
  obtain ⟨k, h1, h2, rfl⟩ := onesI_mem.mp hi
  simp only [numB, Bool.and_eq_true, decide_eq_true_eq]
  omega
theorem maxI_le {m : Int} : ∀ {l : List Int}, (∀ i ∈ l, i ≤ m) → l ≠ [] → maxI l ≤ m
  | [], _, h => (h rfl).elim
  | [x], h, _ => h x List.mem_cons_self
  | x :: y :: r, h, _ => by
    have ih := maxI_le (l := y :: r) (fun i hi => h i (List.mem_cons_of_mem _ hi)) (by simp)
    have hx := h x List.mem_cons_self
    show max x (maxI (y :: r)) ≤ m
    omega
theorem onesI_max {w : Str} {n m : Nat} (h : n ≤ m) : maxI (0 :: onesI w n) ≤ m := by
  refine maxI_le (fun i hi => ?_) (by simp)
  rcases List.mem_cons.mp hi with rfl | hi
  · omega
  · obtain ⟨k, h1, h2, rfl⟩ := onesI_mem.mp hi
    omega
theorem str_ext {a b : Str} (h : a.cps.toList = b.cps.toList) : a = b := by
  cases a; cases b
  congr
  exact Array.toList_inj.mp h
theorem glue_fold : ∀ (r : List Str) (acc : Array Nat), (r.foldl (fun acc p => acc ++ ("" : Str).cps ++ p.cps) acc).toList = acc.toList ++ (r.map fun z => z.cps.toList).flatten
  | [], acc => by simp
  | z :: r, acc => by
    have e : ("" : Str).cps = #[] := by decide +kernel
    rw [List.foldl_cons, glue_fold r, e]
    simp
theorem join_cps (l : List Str) : (Txt.join "" l).cps.toList = (l.map fun z => z.cps.toList).flatten := by
  show (Builtin.Str.glued "" l).cps.toList = _
  unfold Builtin.Str.glued
  cases l with
  | nil => decide +kernel
  | cons z r =>
    show (r.foldl (fun acc p => acc ++ ("" : Str).cps ++ p.cps) z.cps).toList = _
    rw [glue_fold]
    simp
theorem one_cps : ("1" : Str).cps.toList = [49] := by decide +kernel
theorem nil_cps : ("0" : Str).cps.toList = [48] := by decide +kernel
theorem told_cps (ns : List Int) (n : Nat) : (told ns n).cps.toList = (List.range n).map fun (k : Nat) => if ((k : Int) + 1) ∈ ns then 49 else 48 := by
  unfold told rngD
  rw [join_cps, List.map_map, List.map_map]
  have : ∀ l : List Nat, (l.map ((fun z : Str => z.cps.toList) ∘ (signAt ns ∘ fun k : Nat => D.int (0 + (k : Int))))).flatten = l.map fun (k : Nat) => if ((k : Int) + 1) ∈ ns then 49 else 48 := fun l => by
    induction l with
    | nil => rfl
    | cons k l ih =>
      rw [List.map_cons, List.flatten_cons, ih, List.map_cons]
      have : ((fun z : Str => z.cps.toList) ∘ (signAt ns ∘ fun k : Nat => D.int (0 + (k : Int)))) k = [if ((k : Int) + 1) ∈ ns then 49 else 48] := by
        simp only [Function.comp, signAt]
        by_cases h : ((k : Int) + 1) ∈ ns
        · rw [if_pos ((inI_iff _ _).mpr (by simpa using h)), if_pos h, one_cps]
        · rw [if_neg (fun q => h (by simpa using (inI_iff _ _).mp q)), if_neg h, nil_cps]
      rw [this]
      rfl
  exact this _
theorem told_wide {w : Str} {x : Nat} (hb : Bits w) : told (onesI w w.length) (w.length + x) = w ++ repS "0" x := by
  apply str_ext
  rw [told_cps, str_app, repS_toList]
  have hl : w.cps.toList.length = w.length := by simp [Str.length]
  rw [nil_cps]
  have e0 : (List.replicate x [48]).flatten = List.replicate x 48 := by
    induction x with
    | zero => rfl
    | succ x ih => rw [List.replicate_succ, List.flatten_cons, ih, List.replicate_succ]; rfl
  rw [e0]
  apply List.ext_getElem?
  intro k
  by_cases h1 : k < w.length
  · rw [List.getElem?_append_left (by omega), List.getElem?_map, List.getElem?_range (by omega), Option.map_some, List.getElem?_eq_getElem (by omega)]
    have hm : w.cps.toList[k]'(by omega) ∈ w.cps.toList := List.getElem_mem _
    congr 1
    rcases hb _ hm with h | h
    · rw [h, if_neg (fun q => ?_)]
      obtain ⟨j, _, h3, h4⟩ := onesI_mem.mp q
      have : j = k := by omega
      rw [this, List.getElem?_eq_getElem (by omega), h] at h3
      cases h3
    · rw [h, if_pos (onesI_mem.mpr ⟨k, h1, by rw [List.getElem?_eq_getElem (by omega), h], rfl⟩)]
  · rw [List.getElem?_append_right (by omega)]
    by_cases h2 : k < w.length + x
    · rw [List.getElem?_map, List.getElem?_range (by omega), Option.map_some, List.getElem?_replicate_of_lt (by omega), if_neg (fun q => ?_)]
      obtain ⟨j, h3, _, h4⟩ := onesI_mem.mp q
      omega
    · rw [List.getElem?_eq_none (by rw [List.length_map, List.length_range]; omega), List.getElem?_eq_none (by rw [List.length_replicate, hl]; omega)]
theorem told_back {w : Str} (hb : Bits w) : told (onesI w w.length) w.length = w := by
  have h := told_wide (x := 0) hb
  have e : w ++ repS "0" 0 = w := by
    apply str_ext
    rw [str_app, repS_toList]
    simp
  rw [e] at h
  exact h
theorem bits_in {z : Str} (h : Bits z) : allIn "01" z = true := by
  unfold allIn
  rw [List.all_eq_true]
  intro d hd
  unfold signsD at hd
  obtain ⟨c, hc, rfl⟩ := List.mem_map.mp hd
  rcases h c hc with rfl | rfl <;> decide +kernel
end K00
end Fn
end
section
set_option Elab.async false
set_option linter.all false
set_option maxRecDepth 100000
set_option maxHeartbeats 4000000
namespace Fn
namespace K00
open PySem PySem.Spec PyProof.Rows L2 LamX
/-! ### a turn of the law -/
abbrev Q (x0 x2 x3 x4 x5 x6 x7 x8 x9 x10 x11 x12 : Option D) : Ev := [x0, some (.ref 1), x2, x3, x4, x5, x6, x7, x8, x9, x10, x11, x12]
variable {x0 x2 x3 x4 x5 x6 x7 x8 x9 x10 x11 x12 : Option D} {n : Nat} {s : Sto}
/-- a loop that only adds to the store -/
theorem loop_ext {live : Sto → Prop} {tg : Pat} {body : DS} {S0 : Sto} (hlive : ∀ t, live (S0 ++ t)) (I : Ev → Prop) : ∀ (ds : List D) (e : Ev) (t : Sto), I e → (∀ d ∈ ds, ∀ e t, I e → ∃ e1, dG tg d e = some e1 ∧ ∃ e2 t2, body e1 (S0 ++ t) = .next e2 (S0 ++ t ++ t2) ∧ I e2) → ∃ e' t', loopS live tg body ds e (S0 ++ t) = .next e' (S0 ++ t ++ t') ∧ I e'
  | [], e, t, hi, _ => ⟨e, [], by rw [loopS_nil (hlive t), List.append_nil], hi⟩
  | d :: ds, e, t, hi, h => by
    obtain ⟨e1, h1, e2, t2, h2, hi2⟩ := h d List.mem_cons_self e t hi
    obtain ⟨e', t', h3, hi3⟩ := loop_ext hlive I ds e2 (t ++ t2) hi2 fun d hd => h d (List.mem_cons_of_mem _ hd)
    refine ⟨e', t2 ++ t', ?_, hi3⟩
    rw [loopS_cons (hlive t) h1 h2]
    rw [← List.append_assoc] at h3
    rw [h3]
    simp
theorem get_app {s t : Sto} {i : Nat} {o : O} (h : s[i]? = some o) : (s ++ t)[i]? = some o := get_ext t h
theorem A1_out (h : Dr n s) (hn : n + 100 < 1000000) : ∃ x3' s', A1 (Q x0 x2 x3 x4 x5 x6 x7 x8 x9 x10 x11 x12) s = .next (Q x0 x2 x3' x4 x5 x6 x7 x8 x9 x10 x11 x12) s' ∧ Dr (n + 8) s' := by
  obtain ⟨d1, s1, e1, w, rfl, w1, w2, D1, F1⟩ := (name_out (n := n) (st := s ++ [.lst []]) (u := s.length) (h.ext _) (by omega) h.three get_mid).ex
  obtain ⟨d2', s2, e2, i, ds, rfl, hi, hi3, hP, D2, F2⟩ := (near_names_out (n := n + 5) D1 (by omega) w2 w1).ex
  have v1 : ∀ s, dVar 1 (Q x0 x2 x3 x4 x5 x6 x7 x8 x9 x10 x11 x12) s = .ok (.ref 1) s := fun _ => rfl
  have l1 : dLst aNil (Q x0 x2 x3 x4 x5 x6 x7 x8 x9 x10 x11 x12) s = .ok (.ref s.length) (s ++ [.lst []]) := lsts_ok rfl (by simp)
  have hd : dIter (dCall G__law_near_names (aCons (dVar 1) (aCons (dCall G__law_name (aCons (dVar 1) (aCons (dLst aNil) aNil))) aNil))) (Q x0 x2 x3 x4 x5 x6 x7 x8 x9 x10 x11 x12) s = .ok ⟨ds, [(i, .lst ds)]⟩ s2 := by
    unfold dIter
    simp only [a_dCall, a_aCons, a_aNil, v1, l1, R.bind_ok, e1, e2]
    unfold itD
    dsimp only
    rw [hi]
  obtain ⟨e', t', h3, y3, rfl⟩ := loop_ext (live := IT.live ⟨ds, [(i, .lst ds)]⟩) (tg := .nm 3) (S0 := s2) (body := (sIf (bNot (dB (dCall G__law_is (aCons (dCall G_is_name (aCons (dVar 3) aNil)) (aCons (dCall G__law_is_name (aCons (dVar 3) aNil)) aNil))))) (sRet (dC (.bl false))) sNil)) (fun t q hq => by
      have e : q = (i, .lst ds) := by simpa using hq
      rw [e]
      exact get_app hi) (fun e => ∃ y3, e = Q x0 x2 y3 x4 x5 x6 x7 x8 x9 x10 x11 x12) ds (Q x0 x2 x3 x4 x5 x6 x7 x8 x9 x10 x11 x12) [] ⟨x3, rfl⟩ (by
    rintro d hd e t ⟨y3, rfl⟩
    have hf := (hP d hd).ext t
    obtain ⟨t1, q1⟩ := is_name_yl hf.nice
    obtain ⟨t2, q2⟩ := law_is_name_yl (hf.ext t1)
    refine ⟨Q x0 x2 (some d) x4 x5 x6 x7 x8 x9 x10 x11 x12, rfl, Q x0 x2 (some d) x4 x5 x6 x7 x8 x9 x10 x11 x12, t1 ++ t2, ?_, _, rfl⟩
    have v3 : ∀ s, dVar 3 (Q x0 x2 (some d) x4 x5 x6 x7 x8 x9 x10 x11 x12) s = .ok d s := fun _ => rfl
    simp only [a_sIf, a_bNot, a_dB, a_dCall, a_aCons, a_aNil, v3, R.bind_ok, q1, q2, law_is_eq, beq_self_eq_true, asB, Bool.not_true, R.into_ok, Bool.false_eq_true, if_false, a_sNil]
    simp only [List.append_assoc])
  rw [List.append_nil] at h3
  refine ⟨y3, s2 ++ t', ?_, D2.ext _⟩
  unfold A1 sFor
  rw [hd, R.into_ok]
  exact h3
theorem A2_out (h : Dr n s) (hn : n + 100 < 1000000) : ∃ (m : Nat) (s' : Sto), m ≤ 24 ∧ A2 (Q x0 x2 x3 x4 x5 x6 x7 x8 x9 x10 x11 x12) s = .next (Q x0 x2 x3 (some (.int m)) x5 x6 x7 x8 x9 x10 x11 x12) s' ∧ Dr (n + 1) s' := by
  obtain ⟨d1, s1, e1, a, rfl, a1, a2, D1, F1⟩ := (take_out (many := 25) h (by omega) ⟨by decide, by decide⟩).ex
  have v1 : ∀ s, dVar 1 (Q x0 x2 x3 x4 x5 x6 x7 x8 x9 x10 x11 x12) s = .ok (.ref 1) s := fun _ => rfl
  refine ⟨a.toNat, s1, by omega, ?_, D1⟩
  unfold A2
  simp only [a_sSet, a_dCall, a_aCons, a_aNil, a_dC, v1, R.bind_ok, e1, R.into_ok]
  rw [Int.toNat_of_nonneg a1]
  rfl
theorem A3_out {m : Nat} (h : Dr n s) (hn : n + 100 < 1000000) (hm : m ≤ 24) : ∃ (w : Str) (s' : Sto), w.length = m ∧ Bits w ∧ A3 (Q x0 x2 x3 (some (.int m)) x5 x6 x7 x8 x9 x10 x11 x12) s = .next (Q x0 x2 x3 (some (.int m)) (some (.str w)) x6 x7 x8 x9 x10 x11 x12) s' ∧ Dr (n + 3) s' := by
  obtain ⟨d1, s1, e1, w, rfl, w1, w2, D1, F1⟩ := (word_out h (by omega) hm).ex
  have v1 : ∀ s, dVar 1 (Q x0 x2 x3 (some (.int m)) x5 x6 x7 x8 x9 x10 x11 x12) s = .ok (.ref 1) s := fun _ => rfl
  have v4 : ∀ s, dVar 4 (Q x0 x2 x3 (some (.int m)) x5 x6 x7 x8 x9 x10 x11 x12) s = .ok (.int m) s := fun _ => rfl
  refine ⟨w, s1, w1, w2, ?_, D1⟩
  unfold A3
  simp only [a_sSet, a_dCall, a_aCons, a_aNil, v1, v4, R.bind_ok, e1, R.into_ok]
  rfl
theorem A4_out {m : Nat} {w : Str} (h : Dr n s) (hn : n + 100 < 1000000) (hm : m ≤ 24) (hw : w.length = m) : ∃ (v : Nat) (s' : Sto), m ≤ v ∧ v ≤ 24 ∧ A4 (Q x0 x2 x3 (some (.int m)) (some (.str w)) x6 x7 x8 x9 x10 x11 x12) s = .next (Q x0 x2 x3 (some (.int m)) (some (.str w)) (some (.tup ((onesI w m).map .int))) (some (.int v)) x8 x9 x10 x11 x12) s' ∧ Dr (n + 1) s' := by
  have hN : lineN = 16777216 := by decide
  obtain ⟨t, e⟩ := lc_ones (i := 12) (j := 5) (own := [12]) (w := w) (n := m) (fr := aCons (dVar 4) aNil) (env := Q x0 x2 x3 (some (.int m)) (some (.str w)) x6 x7 x8 x9 x10 x11 x12) (st := s) (by omega) (by omega) rfl (fun d => rfl) (by simp [wipeE])
  obtain ⟨d1, s1, e1, a, rfl, a1, a2, D1, F1⟩ := (take_out (many := 25 - (m : Int)) (h.ext (.lst (onesL w m) :: t)) (by omega) ⟨by omega, by
    have : (25 : Nat) < 2 ^ 200 := by decide
    omega⟩).ex
  have v1 : ∀ s, dVar 1 (Q x0 x2 x3 (some (.int m)) (some (.str w)) x6 x7 x8 x9 x10 x11 x12) s = .ok (.ref 1) s := fun _ => rfl
  have v4 : ∀ s, dVar 4 (Q x0 x2 x3 (some (.int m)) (some (.str w)) x6 x7 x8 x9 x10 x11 x12) s = .ok (.int m) s := fun _ => rfl
  refine ⟨m + a.toNat, s1, by omega, by omega, ?_, D1⟩
  unfold A4 sPar
  simp only [a_aCons, a_dCall, a_aNil, e, R.bind_ok, tup_mid, a_d2, v1, v4, a_dC, gSub, gInt0, e1, gAdd, R.into_ok]
  rw [show ((m + a.toNat : Nat) : Int) = m + a from by omega, onesL_eq]
  rfl
theorem word_of_yl {ns : List Int} {m : Nat} {st : Sto} (hp : placesB (.tup (ns.map .int)) 24 = true) (hl : ns.length ≤ 1000) (hx : maxI (0 :: ns) ≤ m) (hm : m ≤ 24) : Yl (G_word_of [.tup (ns.map .int), .int m] st) st (.str (told ns m)) := by
  have hN : lineN = 16777216 := by decide
  obtain ⟨t, e⟩ := are_places_yl (d := .tup (ns.map .int)) (n := 24) (st := st) (fine_oth rfl).nice (fun ds e => by
    cases e
    refine ⟨by rw [List.length_map]; omega, fun x hx => ?_⟩
    obtain ⟨i, _, rfl⟩ := List.mem_map.mp hx
    exact ⟨_, rfl⟩)
  rw [hp] at e
  obtain ⟨t2, e2⟩ := word_told_yl (ns := ns) (n := m) (st := st ++ t) (by omega)
  refine ⟨t ++ t2, ?_⟩
  rw [word_of_start (by omega) e (k := "int") rfl, if_pos (by simp [numB, hx]; omega), e2, List.append_assoc]
theorem A5_out {m : Nat} {w : Str} (hm : m ≤ 24) (hw : w.length = m) (hb : Bits w) : ∃ t, A5 (Q x0 x2 x3 (some (.int m)) (some (.str w)) (some (.tup ((onesI w m).map .int))) x7 x8 x9 x10 x11 x12) s = .next (Q x0 x2 x3 (some (.int m)) (some (.str w)) (some (.tup ((onesI w m).map .int))) x7 x8 x9 x10 x11 x12) (s ++ t) := by
  have ws : Sh w 24 := hb.sh (by omega)
  have lo := onesI_len w m
  obtain ⟨t1, q1⟩ := ones_ok (w := w) (st := s) (ws.fine (by omega) s).nice (by
    simp only [anyB, Bool.and_eq_true, decide_eq_true_eq]
    exact ⟨by omega, bits_in hb⟩)
  obtain ⟨t2, q2⟩ := word_of_yl (ns := onesI w m) (m := m) (st := s ++ t1) (onesI_places hm) (by omega) (onesI_max (Nat.le_refl _)) hm
  have hs : ∀ i ∈ onesI w m, 0 ≤ i ∧ i ≤ 30 := fun i hi => by
    obtain ⟨k, h1, _, rfl⟩ := onesI_mem.mp hi
    omega
  have b : told (onesI w m) m = w := by rw [← hw]; exact told_back hb
  rw [b] at q2
  rw [onesL_eq, hw] at q1
  have v4 : ∀ s, dVar 4 (Q x0 x2 x3 (some (.int m)) (some (.str w)) (some (.tup ((onesI w m).map .int))) x7 x8 x9 x10 x11 x12) s = .ok (.int m) s := fun _ => rfl
  have v5 : ∀ s, dVar 5 (Q x0 x2 x3 (some (.int m)) (some (.str w)) (some (.tup ((onesI w m).map .int))) x7 x8 x9 x10 x11 x12) s = .ok (.str w) s := fun _ => rfl
  have v6 : ∀ s, dVar 6 (Q x0 x2 x3 (some (.int m)) (some (.str w)) (some (.tup ((onesI w m).map .int))) x7 x8 x9 x10 x11 x12) s = .ok (.tup ((onesI w m).map .int)) s := fun _ => rfl
  refine ⟨t1 ++ t2, ?_⟩
  unfold A5
  simp only [a_sIf, a_bOr, a_bNot, a_dB, a_dCall, a_aCons, a_aNil, v4, v5, v6, R.bind_ok, q1, q2, same_ints hs (by omega), same_str ws (by omega), asB, Bool.not_true, Bool.false_eq_true, if_false, R.into_ok, a_sNil, List.append_assoc]
theorem A6_out {m v : Nat} {w : Str} (hm : m ≤ v) (hv : v ≤ 24) (hw : w.length = m) (hb : Bits w) : ∃ t, A6 (Q x0 x2 x3 (some (.int m)) (some (.str w)) (some (.tup ((onesI w m).map .int))) (some (.int v)) x8 x9 x10 x11 x12) s = .next (Q x0 x2 x3 (some (.int m)) (some (.str w)) (some (.tup ((onesI w m).map .int))) (some (.int v)) x8 x9 x10 x11 x12) (s ++ t) := by
  have ws : Sh w 24 := hb.sh (by omega)
  have lo := onesI_len w m
  have z0 : Sh ("0" : Str) 1 := shB_ok (by decide +kernel)
  obtain ⟨t1, q1⟩ := word_of_yl (ns := onesI w m) (m := v) (st := s) (onesI_places (by omega)) (by omega) (onesI_max hm) hv
  have b : told (onesI w m) v = w ++ repS "0" (v - m) := by
    have := told_wide (x := v - m) hb
    rw [hw] at this
    rw [← this]
    congr 1
    omega
  rw [b] at q1
  have sb : Sh (w ++ repS "0" (v - m)) 100 := (ws.app (z0.rep (v - m))).mono (by omega)
  have v4 : ∀ s, dVar 4 (Q x0 x2 x3 (some (.int m)) (some (.str w)) (some (.tup ((onesI w m).map .int))) (some (.int v)) x8 x9 x10 x11 x12) s = .ok (.int m) s := fun _ => rfl
  have v5 : ∀ s, dVar 5 (Q x0 x2 x3 (some (.int m)) (some (.str w)) (some (.tup ((onesI w m).map .int))) (some (.int v)) x8 x9 x10 x11 x12) s = .ok (.str w) s := fun _ => rfl
  have v6 : ∀ s, dVar 6 (Q x0 x2 x3 (some (.int m)) (some (.str w)) (some (.tup ((onesI w m).map .int))) (some (.int v)) x8 x9 x10 x11 x12) s = .ok (.tup ((onesI w m).map .int)) s := fun _ => rfl
  have v7 : ∀ s, dVar 7 (Q x0 x2 x3 (some (.int m)) (some (.str w)) (some (.tup ((onesI w m).map .int))) (some (.int v)) x8 x9 x10 x11 x12) s = .ok (.int v) s := fun _ => rfl
  have rp : ∀ s, gMul (.str "0") (.int ((v : Int) - m)) s = .ok (.str (repS "0" (v - m))) s := fun s => by
    rw [show (v : Int) - m = ((v - m : Nat) : Int) from by omega]
    exact rep_str (by decide) (by omega)
  have pm : permD [1, 0] [D.int v, .tup ((onesI w m).map .int)] = [.tup ((onesI w m).map .int), .int v] := rfl
  refine ⟨t1, ?_⟩
  unfold A6
  simp only [a_sIf, a_bNot, a_dB, a_dCall, a_d2, a_dC, a_aCons, a_aNil, v4, v5, v6, v7, R.bind_ok, pm, q1, gSub, gInt0, rp, addS ws (z0.rep (v - m)) (by omega), same_str sb (by omega), asB, Bool.not_true, Bool.false_eq_true, if_false, R.into_ok, a_sNil]
end K00
end Fn
end
section
set_option Elab.async false
set_option linter.all false
set_option maxRecDepth 100000
set_option maxHeartbeats 4000000
namespace Fn
namespace K00
open PySem PySem.Spec PyProof.Rows L2 LamX
variable {x0 x2 x3 x4 x5 x6 x7 x8 x9 x10 x11 x12 : Option D} {n : Nat} {s : Sto}
theorem clo_refused {c : Clo} {FL : DE} {env : Ev} {S : Sto} : dClo G__law_refused [(c, FL)] (aCons (dC (.clo c)) aNil) env S = G__law_refused (fun s => FL env s) S := by
  rw [a_dClo (c := c) (s1 := S) rfl ⟨FL, List.mem_singleton.mpr rfl⟩]
  congr 1
  funext s
  exact pick_hit
theorem right_yl {d : D} (h : Fine d s) : Yl (dAnd (dIsTy "str" (dVar 3)) (dAnd (d2 gLt (dCall gLen (aCons (dVar 3) aNil)) (dC (.int 25))) (dCall G__law_is_word (aCons (dVar 3) (aCons (dCall gLen (aCons (dVar 3) aNil)) aNil)))) (Q x0 x2 (some d) x4 x5 x6 x7 x8 x9 x10 x11 x12) s) s (.bl (anyB d)) := by
  obtain ⟨k, hk⟩ := h.nice.1
  have v3 : ∀ s, dVar 3 (Q x0 x2 (some d) x4 x5 x6 x7 x8 x9 x10 x11 x12) s = .ok d s := fun _ => rfl
  have e1 : dIsTy "str" (dVar 3) (Q x0 x2 (some d) x4 x5 x6 x7 x8 x9 x10 x11 x12) s = .ok (.bl (isTyB k "str")) s := isTy_eq rfl hk
  rw [a_dAnd, e1, isTy_str hk]
  cases d with
  | str z =>
    have hl := h.nice.2 z rfl
    obtain ⟨t, q⟩ := law_is_word_yl (n := (z.length : Int)) h
    by_cases hz : z.length ≤ 24
    · refine ⟨t, ?_⟩
      have e : wordB (.str z) z.length = anyB (.str z) := by simp [wordB, anyB, hz]
      rw [e] at q
      have hd : decide ((z.length : Int) < 25) = true := decide_eq_true (by omega)
      simp only [R.bind_ok, asB, if_true, a_dAnd, a_d2, a_dCall, a_aCons, a_aNil, a_dC, v3, len_str hl, gLt, hd, q]
    · refine ⟨[], ?_⟩
      have hd : decide ((z.length : Int) < 25) = false := decide_eq_false (by omega)
      have e : anyB (.str z) = false := by simp [anyB, hz]
      rw [e]
      simp only [R.bind_ok, asB, if_true, a_dAnd, a_d2, a_dCall, a_aCons, a_aNil, a_dC, v3, len_str hl, gLt, hd, Bool.false_eq_true, if_false, List.append_nil]
  | _ => exact ⟨[], by simp [asB, anyB]⟩
theorem refused_ones {d : D} (h : Fine d s) : ∃ t t', G__law_refused (fun s => G_ones [d] s) s = .ok (.ref (s ++ t).length) (s ++ t ++ .lst ((if anyB d = true then [] else ["BadWord"] : List Str).map .str) :: t') := by
  by_cases ha : anyB d = true
  · cases d with
    | str z =>
      obtain ⟨t, e⟩ := ones_ok h.nice ha
      obtain ⟨t', q⟩ := refused_ok (cl := fun s => G_ones [.str z] s) e
      exact ⟨t, t', by rw [q, if_pos ha]; rfl⟩
    | _ => cases ha
  · obtain ⟨t, e⟩ := ones_no h.nice (by simpa using ha)
    obtain ⟨t', q⟩ := refused_exc (cl := fun s => G_ones [d] s) (by decide +kernel) e kinds_word
    exact ⟨t, t', by rw [q, if_neg ha]; rfl⟩
theorem same_lists {i j : Nat} {ws : List Str} {S : Sto} (hi : S[i]? = some (.lst (ws.map .str))) (hj : S[j]? = some (.lst (ws.map .str))) (hw : ws.all PyData.strOk = true) : gEqW true (.ref i) (.ref j) S = .ok (.bl false) S :=
  (eq_strs (neg := true) hi hj hw hw).trans (by simp)
def sizesL (m v : Int) : List D := [.int m, .int v, .int (if 0 > m - 1 then 0 else m - 1), .int (if 24 < m + 1 then 24 else m + 1)]
noncomputable def bodyA7 (c0 : Clo) : DS := (sSeq (sFor (dIter (dLst (aCons (dVar 4) (aCons (dVar 7) (aCons (dCall gMax2 (aCons (d2 gSub (dVar 4) (dC (.int 1))) (aCons (dC (.int 0)) aNil))) (aCons (dCall gMin2 (aCons (d2 gAdd (dVar 4) (dC (.int 1))) (aCons (dC (.int 24)) aNil))) aNil)))))) (.nm 8) (sIf (bNot (dB (dCall G__law_is (aCons (fun env st => ((aCons (dVar 8) (aCons (dVar 3) aNil)) env st).bind fun ds s1 => G_is_word (permD [1, 0] ds) s1) (aCons (dCall G__law_is_word (aCons (dVar 3) (aCons (dVar 8) aNil))) aNil))))) (sRet (dC (.bl false))) sNil)) (sSeq (sAsg (dAnd (dIsTy "str" (dVar 3)) (dAnd (d2 gLt (dCall gLen (aCons (dVar 3) aNil)) (dC (.int 25))) (dCall G__law_is_word (aCons (dVar 3) (aCons (dCall gLen (aCons (dVar 3) aNil)) aNil))))) (.nm 9)) (sIf (dB (d2 (gEqW true) (dClo G__law_refused [(c0, FL0)] (aCons (dC (.clo c0)) aNil)) (dIf (dB (dVar 9)) (dLst aNil) (dLst (aCons (dC (.str "BadWord")) aNil))))) (sRet (dC (.bl false))) sNil)))
theorem bodyA7_out {c0 : Clo} {m v : Nat} {d : D} (hm : m ≤ v) (hv : v ≤ 24) (h : Fine d s) : ∃ y8 y9 t, bodyA7 c0 (Q x0 x2 (some d) (some (.int m)) x5 x6 (some (.int v)) x8 x9 x10 x11 x12) s = .next (Q x0 x2 (some d) (some (.int m)) x5 x6 (some (.int v)) y8 y9 x10 x11 x12) (s ++ t) := by
  have v4 : ∀ s, dVar 4 (Q x0 x2 (some d) (some (.int m)) x5 x6 (some (.int v)) x8 x9 x10 x11 x12) s = .ok (.int m) s := fun _ => rfl
  have v7 : ∀ s, dVar 7 (Q x0 x2 (some d) (some (.int m)) x5 x6 (some (.int v)) x8 x9 x10 x11 x12) s = .ok (.int v) s := fun _ => rfl
  have hd : dIter (dLst (aCons (dVar 4) (aCons (dVar 7) (aCons (dCall gMax2 (aCons (d2 gSub (dVar 4) (dC (.int 1))) (aCons (dC (.int 0)) aNil))) (aCons (dCall gMin2 (aCons (d2 gAdd (dVar 4) (dC (.int 1))) (aCons (dC (.int 24)) aNil))) aNil))))) (Q x0 x2 (some d) (some (.int m)) x5 x6 (some (.int v)) x8 x9 x10 x11 x12) s = .ok ⟨sizesL m v, [(s.length, .lst (sizesL m v))]⟩ (s ++ [.lst (sizesL m v)]) := by
    unfold dIter
    rw [lsts_ok (ds := sizesL m v) (by
      simp only [a_aCons, a_aNil, a_dCall, a_d2, a_dC, v4, v7, R.bind_ok, gSub, gInt0, gAdd, gMax2, gMin2, gI2]
      rfl) (by simp [sizesL]), R.bind_ok]
    unfold itD
    dsimp only
    rw [get_mid]
  have hk : ∀ x ∈ sizesL m v, ∃ k : Int, x = .int k ∧ 0 ≤ k ∧ k ≤ 24 := by
    intro x hx
    simp only [sizesL, List.mem_cons, List.not_mem_nil, or_false] at hx
    rcases hx with rfl | rfl | rfl | rfl
    · exact ⟨_, rfl, by omega, by omega⟩
    · exact ⟨_, rfl, by omega, by omega⟩
    · refine ⟨_, rfl, ?_⟩; split <;> omega
    · refine ⟨_, rfl, ?_⟩; split <;> omega
  obtain ⟨S0, hS0⟩ : ∃ S0, S0 = s ++ [O.lst (sizesL m v)] := ⟨_, rfl⟩
  have h0 : Fine d S0 := by rw [hS0]; exact h.ext _
  have g0 : S0[s.length]? = some (.lst (sizesL m v)) := by rw [hS0]; exact get_mid
  obtain ⟨e', t', h3, y8, rfl⟩ := loop_ext (live := IT.live ⟨sizesL m v, [(s.length, .lst (sizesL m v))]⟩) (tg := .nm 8) (S0 := S0) (body := (sIf (bNot (dB (dCall G__law_is (aCons (fun env st => ((aCons (dVar 8) (aCons (dVar 3) aNil)) env st).bind fun ds s1 => G_is_word (permD [1, 0] ds) s1) (aCons (dCall G__law_is_word (aCons (dVar 3) (aCons (dVar 8) aNil))) aNil))))) (sRet (dC (.bl false))) sNil)) (fun t q hq => by
      have e : q = (s.length, .lst (sizesL m v)) := by simpa using hq
      rw [e]
      exact get_app g0) (fun e => ∃ y8, e = Q x0 x2 (some d) (some (.int m)) x5 x6 (some (.int v)) y8 x9 x10 x11 x12) (sizesL m v) (Q x0 x2 (some d) (some (.int m)) x5 x6 (some (.int v)) x8 x9 x10 x11 x12) [] ⟨x8, rfl⟩ (by
    rintro x hx e t ⟨y8, rfl⟩
    obtain ⟨k, rfl, k1, k2⟩ := hk x hx
    have hf := h0.ext t
    obtain ⟨t1, q1⟩ := is_word_yl (n := k) hf.nice ⟨k1, k2⟩
    obtain ⟨t2, q2⟩ := law_is_word_yl (n := k) (hf.ext t1)
    refine ⟨Q x0 x2 (some d) (some (.int m)) x5 x6 (some (.int v)) (some (.int k)) x9 x10 x11 x12, rfl, Q x0 x2 (some d) (some (.int m)) x5 x6 (some (.int v)) (some (.int k)) x9 x10 x11 x12, t1 ++ t2, ?_, _, rfl⟩
    have v3 : ∀ s, dVar 3 (Q x0 x2 (some d) (some (.int m)) x5 x6 (some (.int v)) (some (.int k)) x9 x10 x11 x12) s = .ok d s := fun _ => rfl
    have v8 : ∀ s, dVar 8 (Q x0 x2 (some d) (some (.int m)) x5 x6 (some (.int v)) (some (.int k)) x9 x10 x11 x12) s = .ok (.int k) s := fun _ => rfl
    have pm : permD [1, 0] [D.int k, d] = [d, .int k] := rfl
    simp only [a_sIf, a_bNot, a_dB, a_dCall, a_aCons, a_aNil, v3, v8, R.bind_ok, pm, q1, q2, law_is_eq, beq_self_eq_true, asB, Bool.not_true, R.into_ok, Bool.false_eq_true, if_false, a_sNil]
    simp only [List.append_assoc])
  rw [List.append_nil] at h3
  have b1 : sFor (dIter (dLst (aCons (dVar 4) (aCons (dVar 7) (aCons (dCall gMax2 (aCons (d2 gSub (dVar 4) (dC (.int 1))) (aCons (dC (.int 0)) aNil))) (aCons (dCall gMin2 (aCons (d2 gAdd (dVar 4) (dC (.int 1))) (aCons (dC (.int 24)) aNil))) aNil)))))) (.nm 8) (sIf (bNot (dB (dCall G__law_is (aCons (fun env st => ((aCons (dVar 8) (aCons (dVar 3) aNil)) env st).bind fun ds s1 => G_is_word (permD [1, 0] ds) s1) (aCons (dCall G__law_is_word (aCons (dVar 3) (aCons (dVar 8) aNil))) aNil))))) (sRet (dC (.bl false))) sNil) (Q x0 x2 (some d) (some (.int m)) x5 x6 (some (.int v)) x8 x9 x10 x11 x12) s = .next (Q x0 x2 (some d) (some (.int m)) x5 x6 (some (.int v)) y8 x9 x10 x11 x12) (S0 ++ t') := by
    unfold sFor
    rw [hd, R.into_ok, ← hS0]
    exact h3
  have h1 := h0.ext t'
  obtain ⟨t2, q2⟩ := right_yl (x0 := x0) (x2 := x2) (x4 := some (.int m)) (x5 := x5) (x6 := x6) (x7 := some (.int v)) (x8 := y8) (x9 := x9) (x10 := x10) (x11 := x11) (x12 := x12) h1
  have b2 : sAsg (dAnd (dIsTy "str" (dVar 3)) (dAnd (d2 gLt (dCall gLen (aCons (dVar 3) aNil)) (dC (.int 25))) (dCall G__law_is_word (aCons (dVar 3) (aCons (dCall gLen (aCons (dVar 3) aNil)) aNil))))) (.nm 9) (Q x0 x2 (some d) (some (.int m)) x5 x6 (some (.int v)) y8 x9 x10 x11 x12) (S0 ++ t') = .next (Q x0 x2 (some d) (some (.int m)) x5 x6 (some (.int v)) y8 (some (.bl (anyB d))) x10 x11 x12) (S0 ++ t' ++ t2) := by
    rw [a_sSet, q2, R.into_ok]
    rfl
  obtain ⟨t3, t4, q3⟩ := refused_ones (h1.ext t2)
  obtain ⟨ws, hws⟩ : ∃ ws : List Str, ws = (if anyB d = true then [] else ["BadWord"] : List Str) := ⟨_, rfl⟩
  rw [← hws] at q3
  have hok : ws.all PyData.strOk = true := by rw [hws]; split <;> decide +kernel
  have fl : ∀ s, FL0 (Q x0 x2 (some d) (some (.int m)) x5 x6 (some (.int v)) y8 (some (.bl (anyB d))) x10 x11 x12) s = G_ones [d] s := fun s => rfl
  have v9 : ∀ s, dVar 9 (Q x0 x2 (some d) (some (.int m)) x5 x6 (some (.int v)) y8 (some (.bl (anyB d))) x10 x11 x12) s = .ok (.bl (anyB d)) s := fun s => rfl
  obtain ⟨S3, hS3⟩ : ∃ S3, S3 = S0 ++ t' ++ t2 ++ t3 ++ O.lst (ws.map .str) :: t4 := ⟨_, rfl⟩
  have g3 : S3[(S0 ++ t' ++ t2 ++ t3).length]? = some (.lst (ws.map .str)) := by rw [hS3]; exact get_mid
  have due : dIf (dB (dVar 9)) (dLst aNil) (dLst (aCons (dC (.str "BadWord")) aNil)) (Q x0 x2 (some d) (some (.int m)) x5 x6 (some (.int v)) y8 (some (.bl (anyB d))) x10 x11 x12) S3 = .ok (.ref S3.length) (S3 ++ [.lst (ws.map .str)]) := by
    rw [a_dIf, a_dB, v9, R.bind_ok, hws]
    cases anyB d with
    | true =>
      simp only [asB, R.bind_ok, if_true]
      exact lsts_ok rfl (by simp)
    | false =>
      simp only [asB, R.bind_ok, Bool.false_eq_true, if_false]
      exact lsts_ok rfl (by simp)
  have b3 : sIf (dB (d2 (gEqW true) (dClo G__law_refused [(c0, FL0)] (aCons (dC (.clo c0)) aNil)) (dIf (dB (dVar 9)) (dLst aNil) (dLst (aCons (dC (.str "BadWord")) aNil))))) (sRet (dC (.bl false))) sNil (Q x0 x2 (some d) (some (.int m)) x5 x6 (some (.int v)) y8 (some (.bl (anyB d))) x10 x11 x12) (S0 ++ t' ++ t2) = .next (Q x0 x2 (some d) (some (.int m)) x5 x6 (some (.int v)) y8 (some (.bl (anyB d))) x10 x11 x12) (S3 ++ [.lst (ws.map .str)]) := by
    have q3' : dClo G__law_refused [(c0, FL0)] (aCons (dC (.clo c0)) aNil) (Q x0 x2 (some d) (some (.int m)) x5 x6 (some (.int v)) y8 (some (.bl (anyB d))) x10 x11 x12) (S0 ++ t' ++ t2) = .ok (.ref (S0 ++ t' ++ t2 ++ t3).length) S3 := by
      rw [clo_refused, hS3, ← q3]
      rfl
    rw [a_sIf, a_dB, a_d2, q3', R.bind_ok, due, R.bind_ok, same_lists (get_app g3) get_mid hok, R.bind_ok]
    simp only [asB, R.into_ok, Bool.false_eq_true, if_false, a_sNil]
  refine ⟨y8, some (.bl (anyB d)), [O.lst (sizesL m v)] ++ t' ++ t2 ++ t3 ++ (O.lst (ws.map .str) :: t4) ++ [.lst (ws.map .str)], ?_⟩
  unfold bodyA7
  rw [a_sSeq b1, a_sSeq b2, b3, hS3, hS0]
  simp only [List.append_assoc]
theorem A7_out {c0 : Clo} {m v : Nat} {w : Str} (h : Dr n s) (hn : n + 100 < 1000000) (hm : m ≤ v) (hv : v ≤ 24) (hw : w.length = m) (hb : Bits w) : ∃ y3 y8 y9 s', A7 c0 (Q x0 x2 x3 (some (.int m)) (some (.str w)) x6 (some (.int v)) x8 x9 x10 x11 x12) s = .next (Q x0 x2 y3 (some (.int m)) (some (.str w)) x6 (some (.int v)) y8 y9 x10 x11 x12) s' ∧ Dr (n + 1) s' := by
  obtain ⟨d2', s2, e2, i, ds, rfl, hi, hi3, hP, D2, F2⟩ := (near_words_out (n := n) h (by omega) hb (by omega)).ex
  have v1 : ∀ s, dVar 1 (Q x0 x2 x3 (some (.int m)) (some (.str w)) x6 (some (.int v)) x8 x9 x10 x11 x12) s = .ok (.ref 1) s := fun _ => rfl
  have v5 : ∀ s, dVar 5 (Q x0 x2 x3 (some (.int m)) (some (.str w)) x6 (some (.int v)) x8 x9 x10 x11 x12) s = .ok (.str w) s := fun _ => rfl
  have hd : dIter (dCall G__law_near_words (aCons (dVar 1) (aCons (dVar 5) aNil))) (Q x0 x2 x3 (some (.int m)) (some (.str w)) x6 (some (.int v)) x8 x9 x10 x11 x12) s = .ok ⟨ds, [(i, .lst ds)]⟩ s2 := by
    unfold dIter
    simp only [a_dCall, a_aCons, a_aNil, v1, v5, R.bind_ok, e2]
    unfold itD
    dsimp only
    rw [hi]
  obtain ⟨e', t', h3, y3, y8, y9, rfl⟩ := loop_ext (live := IT.live ⟨ds, [(i, .lst ds)]⟩) (tg := .nm 3) (S0 := s2) (body := bodyA7 c0) (fun t q hq => by
      have e : q = (i, .lst ds) := by simpa using hq
      rw [e]
      exact get_app hi) (fun e => ∃ y3 y8 y9, e = Q x0 x2 y3 (some (.int m)) (some (.str w)) x6 (some (.int v)) y8 y9 x10 x11 x12) ds (Q x0 x2 x3 (some (.int m)) (some (.str w)) x6 (some (.int v)) x8 x9 x10 x11 x12) [] ⟨x3, x8, x9, rfl⟩ (by
    rintro d hd e t ⟨y3, y8, y9, rfl⟩
    obtain ⟨z8, z9, t1, q⟩ := bodyA7_out (c0 := c0) (x0 := x0) (x2 := x2) (x5 := some (.str w)) (x6 := x6) (x8 := y8) (x9 := y9) (x10 := x10) (x11 := x11) (x12 := x12) hm hv ((hP d hd).ext t)
    exact ⟨_, rfl, _, t1, q, _, _, _, rfl⟩)
  rw [List.append_nil] at h3
  refine ⟨y3, y8, y9, s2 ++ t', ?_, D2.ext _⟩
  unfold A7 sFor
  rw [hd, R.into_ok]
  exact h3
end K00
end Fn
end
section
set_option Elab.async false
set_option linter.all false
set_option maxRecDepth 100000
set_option maxHeartbeats 4000000
namespace Fn
namespace K00
open PySem PySem.Spec PyProof.Rows L2 LamX
variable {x0 x2 x3 x4 x5 x6 x7 x8 x9 x10 x11 x12 : Option D} {n : Nat} {s : Sto}
/-- the sizes that are wrong -/
def wrongL (j : Nat) (k : Int) : List D := [.int (-1), .int 25, .non, .bl true, .bl false, .str "3", .tup [.int 3], .ref j, .int (10 ^ 30), .int (-(10 ^ 30)), .int (24 + k + 1)]
theorem wrong_no {j : Nat} {k : Int} (hk : 0 ≤ k) {x : D} (hx : x ∈ wrongL j k) {lo : Int} (hlo : 0 ≤ lo) {S : Sto} (hj : S[j]? = some (.lst [.int 3])) : (∃ q, tyName x S = some q) ∧ numB x lo 24 = false := by
  simp only [wrongL, List.mem_cons, List.not_mem_nil, or_false] at hx
  rcases hx with rfl | rfl | rfl | rfl | rfl | rfl | rfl | rfl | rfl | rfl | rfl
  · exact ⟨⟨_, rfl⟩, by simp only [numB, Bool.and_eq_false_iff, decide_eq_false_iff_not]; omega⟩
  · exact ⟨⟨_, rfl⟩, by simp only [numB, Bool.and_eq_false_iff, decide_eq_false_iff_not]; omega⟩
  · exact ⟨⟨_, rfl⟩, rfl⟩
  · exact ⟨⟨_, rfl⟩, rfl⟩
  · exact ⟨⟨_, rfl⟩, rfl⟩
  · exact ⟨⟨_, rfl⟩, rfl⟩
  · exact ⟨⟨_, rfl⟩, rfl⟩
  · exact ⟨⟨"list", by unfold tyName; dsimp only; rw [hj]⟩, rfl⟩
  · exact ⟨⟨_, rfl⟩, by simp only [numB, Bool.and_eq_false_iff, decide_eq_false_iff_not]; omega⟩
  · exact ⟨⟨_, rfl⟩, by simp only [numB, Bool.and_eq_false_iff, decide_eq_false_iff_not]; omega⟩
  · exact ⟨⟨_, rfl⟩, by simp only [numB, Bool.and_eq_false_iff, decide_eq_false_iff_not]; omega⟩
theorem A8_out (h : Dr n s) (hn : n + 100 < 1000000) : ∃ (i j : Nat) (k : Int) (s' : Sto), 3 ≤ i ∧ 3 ≤ j ∧ 0 ≤ k ∧ s'[j]? = some (.lst [.int 3]) ∧ s'[i]? = some (.lst (wrongL j k)) ∧ A8 (Q x0 x2 x3 x4 x5 x6 x7 x8 x9 x10 x11 x12) s = .next (Q x0 x2 x3 x4 x5 x6 x7 x8 x9 (some (.ref i)) x11 x12) s' ∧ Dr (n + 1) s' := by
  obtain ⟨d1, s1, e1, k, rfl, k1, k2, D1, F1⟩ := (take_out (many := 1000000000) (h.ext [.lst [.int 3]]) (by omega) ⟨by decide, by decide⟩).ex
  have hj : s1[s.length]? = some (.lst [.int 3]) := F1.at_ _ _ h.three get_mid
  refine ⟨s1.length, s.length, k, s1 ++ [.lst (wrongL s.length k)], D1.three, h.three, k1, get_app hj, get_mid, ?_, D1.ext _⟩
  have v1 : ∀ s, dVar 1 (Q x0 x2 x3 x4 x5 x6 x7 x8 x9 x10 x11 x12) s = .ok (.ref 1) s := fun _ => rfl
  have t1 : ∀ s, dTup (aCons (dC (.int 3)) aNil) (Q x0 x2 x3 x4 x5 x6 x7 x8 x9 x10 x11 x12) s = .ok (.tup [.int 3]) s := fun s => tup1_ok rfl
  have l1 : ∀ s, dLst (aCons (dC (.int 3)) aNil) (Q x0 x2 x3 x4 x5 x6 x7 x8 x9 x10 x11 x12) s = .ok (.ref s.length) (s ++ [.lst [.int 3]]) := fun s => lsts_ok rfl (by simp)
  have n1 : ∀ s, d1 gNeg (dC (.int 1)) (Q x0 x2 x3 x4 x5 x6 x7 x8 x9 x10 x11 x12) s = .ok (.int (-1)) s := fun _ => rfl
  have p1 : ∀ s, d2 gPow (dC (.int 10)) (dC (.int 30)) (Q x0 x2 x3 x4 x5 x6 x7 x8 x9 x10 x11 x12) s = .ok (.int (10 ^ 30)) s := fun _ => rfl
  have p2 : ∀ s, d1 gNeg (d2 gPow (dC (.int 10)) (dC (.int 30))) (Q x0 x2 x3 x4 x5 x6 x7 x8 x9 x10 x11 x12) s = .ok (.int (-(10 ^ 30))) s := fun _ => rfl
  have p9 : ∀ s, d2 gPow (dC (.int 10)) (dC (.int 9)) (Q x0 x2 x3 x4 x5 x6 x7 x8 x9 x10 x11 x12) s = .ok (.int 1000000000) s := fun _ => rfl
  have tk : d2 gAdd (d2 gAdd (dC (.int 24)) (dCall G__law_take (aCons (dVar 1) (aCons (d2 gPow (dC (.int 10)) (dC (.int 9))) aNil)))) (dC (.int 1)) (Q x0 x2 x3 x4 x5 x6 x7 x8 x9 x10 x11 x12) (s ++ [.lst [.int 3]]) = .ok (.int (24 + k + 1)) s1 := by
    rw [a_d2, a_d2, a_dC, R.bind_ok, a_dCall, a_aCons, v1, R.bind_ok, a_aCons, p9, R.bind_ok, a_aNil, R.bind_ok, R.bind_ok, R.bind_ok, e1, R.bind_ok]
    rfl
  have e : (dLst (aCons (d1 gNeg (dC (.int 1))) (aCons (dC (.int 25)) (aCons (dC .non) (aCons (dC (.bl true)) (aCons (dC (.bl false)) (aCons (dC (.str "3")) (aCons (dTup (aCons (dC (.int 3)) aNil)) (aCons (dLst (aCons (dC (.int 3)) aNil)) (aCons (d2 gPow (dC (.int 10)) (dC (.int 30))) (aCons (d1 gNeg (d2 gPow (dC (.int 10)) (dC (.int 30)))) (aCons (d2 gAdd (d2 gAdd (dC (.int 24)) (dCall G__law_take (aCons (dVar 1) (aCons (d2 gPow (dC (.int 10)) (dC (.int 9))) aNil)))) (dC (.int 1))) aNil)))))))))))) (Q x0 x2 x3 x4 x5 x6 x7 x8 x9 x10 x11 x12) s = .ok (.ref s1.length) (s1 ++ [.lst (wrongL s.length k)]) := by
    have hN : lineN = 16777216 := by decide
    rw [a_dLst]
    simp only [a_aCons, a_aNil, n1, a_dC, t1, l1, p1, p2, tk, R.bind_ok, List.length_cons, List.length_nil]
    rw [if_pos (by omega)]
    rfl
  unfold A8
  rw [a_sSet, e, R.into_ok]
  rfl
theorem A9_out {i j : Nat} {k : Int} (h : Dr n s) (hn : n + 100 < 1000000) (hi3 : 3 ≤ i) (hi : s[i]? = some (.lst (wrongL j k))) : ∃ (d : D) (s' : Sto), d ∈ wrongL j k ∧ A9 (Q x0 x2 x3 x4 x5 x6 x7 x8 x9 (some (.ref i)) x11 x12) s = .next (Q x0 x2 x3 x4 x5 x6 x7 (some d) x9 (some (.ref i)) x11 x12) s' ∧ Dr (n + 1) s' ∧ Fr s s' := by
  obtain ⟨d, s1, e1, hm, D1, F1⟩ := (pick_out h (by omega) hi3 hi ⟨by simp [wrongL], by simp [wrongL]⟩).ex
  have v1 : ∀ s, dVar 1 (Q x0 x2 x3 x4 x5 x6 x7 x8 x9 (some (.ref i)) x11 x12) s = .ok (.ref 1) s := fun _ => rfl
  have v10 : ∀ s, dVar 10 (Q x0 x2 x3 x4 x5 x6 x7 x8 x9 (some (.ref i)) x11 x12) s = .ok (.ref i) s := fun _ => rfl
  refine ⟨d, s1, hm, ?_, D1, F1⟩
  unfold A9
  simp only [a_sSet, a_dCall, a_aCons, a_aNil, v1, v10, R.bind_ok, e1, R.into_ok]
  rfl
theorem A10_out {c1 : Clo} {j : Nat} {k : Int} {d : D} {w : Str} (h : Dr n s) (hn : n + 100 < 1000000) (hk : 0 ≤ k) (hd : d ∈ wrongL j k) (hj3 : 3 ≤ j) (hj : s[j]? = some (.lst [.int 3])) : ∃ (s' : Sto), A10 c1 (Q x0 x2 x3 x4 (some (.str w)) x6 x7 (some d) x9 x10 x11 x12) s = .next (Q x0 x2 x3 x4 (some (.str w)) x6 x7 (some d) x9 x10 x11 x12) s' ∧ Dr (n + 1) s' ∧ Fr s s' := by
  have v1 : ∀ s, dVar 1 (Q x0 x2 x3 x4 (some (.str w)) x6 x7 (some d) x9 x10 x11 x12) s = .ok (.ref 1) s := fun _ => rfl
  have v5 : ∀ s, dVar 5 (Q x0 x2 x3 x4 (some (.str w)) x6 x7 (some d) x9 x10 x11 x12) s = .ok (.str w) s := fun _ => rfl
  have v8 : ∀ s, dVar 8 (Q x0 x2 x3 x4 (some (.str w)) x6 x7 (some d) x9 x10 x11 x12) s = .ok d s := fun _ => rfl
  obtain ⟨x, s1, e1, hm, D1, F1⟩ := (pick_out (n := n) (st := s ++ [.lst [.str w, .non]]) (i := s.length) (h.ext _) (by omega) h.three get_mid ⟨by simp, by simp⟩).ex
  have F01 : Fr s s1 := (Fr.ext _ _).trans F1
  obtain ⟨⟨q, hq⟩, hno⟩ := wrong_no hk hd (lo := 0) (by omega) (F01.at_ _ _ hj3 hj)
  obtain ⟨t1, e2⟩ := is_word_no (d := x) hq hno
  have l1 : dLst (aCons (dVar 5) (aCons (dC .non) aNil)) (Q x0 x2 x3 x4 (some (.str w)) x6 x7 (some d) x9 x10 x11 x12) s = .ok (.ref s.length) (s ++ [.lst [.str w, .non]]) := lsts_ok rfl (by simp)
  have e3 : FL1 (Q x0 x2 x3 x4 (some (.str w)) x6 x7 (some d) x9 x10 x11 x12) s = .exc ⟨"BadMany", []⟩ (s1 ++ t1) := by
    unfold FL1 fl_law_1
    simp only [a_dCall, a_aCons, a_aNil, v1, l1, v8, R.bind_ok, e1]
    exact e2
  obtain ⟨t2, e4⟩ := refused_exc (cl := fun s => FL1 (Q x0 x2 x3 x4 (some (.str w)) x6 x7 (some d) x9 x10 x11 x12) s) (by decide +kernel) e3 kinds_many
  have e5 : dClo G__law_refused [(c1, FL1)] (aCons (dC (.clo c1)) aNil) (Q x0 x2 x3 x4 (some (.str w)) x6 x7 (some d) x9 x10 x11 x12) s = .ok (.ref (s1 ++ t1).length) (s1 ++ t1 ++ .lst [.str "BadMany"] :: t2) := clo_refused.trans e4
  have l2 : ∀ s, dLst (aCons (dC (.str "BadMany")) aNil) (Q x0 x2 x3 x4 (some (.str w)) x6 x7 (some d) x9 x10 x11 x12) s = .ok (.ref s.length) (s ++ [.lst [.str "BadMany"]]) := fun s => lsts_ok rfl (by simp)
  have hi : ((s1 ++ t1 ++ O.lst [.str "BadMany"] :: t2) ++ [O.lst [.str "BadMany"]])[(s1 ++ t1).length]? = some (.lst ((["BadMany"] : List Str).map .str)) := get_app get_mid
  have hj : ((s1 ++ t1 ++ O.lst [.str "BadMany"] :: t2) ++ [O.lst [.str "BadMany"]])[(s1 ++ t1 ++ O.lst [.str "BadMany"] :: t2).length]? = some (.lst ((["BadMany"] : List Str).map .str)) := get_mid
  refine ⟨(s1 ++ t1 ++ O.lst [.str "BadMany"] :: t2) ++ [O.lst [.str "BadMany"]], ?_, ((D1.ext _).ext _).ext _, F01.trans (((Fr.ext _ _).trans (Fr.ext _ _)).trans (Fr.ext _ _))⟩
  unfold A10
  rw [a_sIf, a_dB, a_d2, e5, R.bind_ok, l2, R.bind_ok, same_lists hi hj (by decide +kernel), R.bind_ok]
  simp only [asB, R.into_ok, Bool.false_eq_true, if_false, a_sNil]
end K00
end Fn
end
section
set_option Elab.async false
set_option linter.all false
set_option maxRecDepth 100000
set_option maxHeartbeats 4000000
namespace Fn
namespace K00
open PySem PySem.Spec PyProof.Rows L2 LamX
variable {x0 x2 x3 x4 x5 x6 x7 x8 x9 x10 x11 x12 : Option D} {n : Nat} {s : Sto}
theorem FineP.ext {d : D} (h : FineP d s) (t : Sto) : FineP d (s ++ t) := ⟨h.1.ext t, h.2⟩
theorem flat2_ty {d : D} (h : flat2 d = true) (S : Sto) : ∃ k, tyName d S = some k := by
  cases d <;> first | exact ⟨_, rfl⟩ | cases h
theorem FineP.ty {d : D} (h : FineP d s) : ∀ ds, d = .tup ds → ds.length ≤ lineN ∧ ∀ x ∈ ds, ∃ k, tyName x s = some k := fun ds e => by
  have hN : lineN = 16777216 := by decide
  obtain ⟨h1, h2⟩ := h.2 ds e
  exact ⟨by omega, fun x hx => flat2_ty (h2 x hx) s⟩
theorem FineP.fl {d : D} (h : FineP d s) : ∀ ds, d = .tup ds → ds.length ≤ lineN ∧ ∀ x ∈ ds, flat2 x = true := fun ds e => by
  have hN : lineN = 16777216 := by decide
  obtain ⟨h1, h2⟩ := h.2 ds e
  exact ⟨by omega, h2⟩
def dueS (d : D) : Str := if placesB d 24 = true then "BadMany" else "BadPlaces"
theorem due_ok (d : D) : PyData.strOk (dueS d) = true := by
  unfold dueS
  split <;> decide +kernel
/-- word_of refuses as is due -/
theorem refused_word_of {d x : D} (h : FineP d s) (hx : ∃ q, tyName x s = some q) (hno : ∀ ns : List Int, d = .tup (ns.map .int) → placesB d 24 = true → numB x (maxI (0 :: ns)) 24 = false) : ∃ t t', G__law_refused (fun s => G_word_of [d, x] s) s = .ok (.ref (s ++ t).length) (s ++ t ++ .lst [.str (dueS d)] :: t') := by
  have hN : lineN = 16777216 := by decide
  obtain ⟨q, hq⟩ := hx
  by_cases hp : placesB d 24 = true
  · obtain ⟨ns, e, _⟩ := places_tup hp
    have hno' := hno ns e hp
    subst e
    have hl := (h.2 _ rfl).1
    rw [List.length_map] at hl
    obtain ⟨t, e⟩ := are_places_yl (n := 24) h.1.nice h.ty
    rw [hp] at e
    have e2 := word_of_start (x := x) (by omega) e hq
    rw [hno', if_neg (by simp)] at e2
    obtain ⟨t', q⟩ := refused_exc (cl := fun s => G_word_of [.tup (ns.map .int), x] s) (by decide +kernel) e2 kinds_many
    exact ⟨t, t', by rw [q, dueS, if_pos hp]⟩
  · obtain ⟨t, e⟩ := word_of_places (x := x) h.1.nice h.ty (by simpa using hp)
    obtain ⟨t', q⟩ := refused_exc (cl := fun s => G_word_of [d, x] s) (by decide +kernel) e kinds_places
    exact ⟨t, t', by rw [q, dueS, if_neg hp]⟩
theorem maxI_ge {l : List Int} : 0 ≤ maxI (0 :: l) := by
  cases l with
  | nil => exact Int.le_refl _
  | cons x r => exact Int.le_max_left _ _
theorem ne_empty {ns : List Int} {S : Sto} : gEqW true (.tup (ns.map .int)) (.tup []) S = .ok (.bl (!ns.isEmpty)) S := by
  show gEqv true (.tup (ns.map .int)) (.tup []) S = _
  have e1 : datN S 9 (.tup (ns.map .int)) = some (.tuple (ns.map .int)) := by rw [datN, ints_dat]; rfl
  have e2 : datN S 9 (.tup []) = some (.tuple []) := by rw [datN, datL]; rfl
  have hf : (ns.map D.int).all flat2 = true := by
    rw [List.all_eq_true]
    intro x hx
    obtain ⟨i, _, rfl⟩ := List.mem_map.mp hx
    rfl
  obtain ⟨ps, h1, h2, h3, h4⟩ := flat2s_dat hf S 7
  rw [ints_dat] at h1
  cases h1
  unfold gEqv
  rw [e1, e2]
  dsimp only
  have s1 : SeqAt.shaped (.tuple (ns.map .int)) = true := by simp [SeqAt.shaped, PyData.canLay0, PyData.depth, h2]; omega
  have s2 : SeqAt.shaped (.tuple []) = true := by simp [SeqAt.shaped, PyData.canLay0, PyData.canLayAll0, PyData.depth, PyData.depthAll]
  rw [if_pos ⟨s1, s2⟩, PyData.eqv, eqvAll_nil]
  cases ns <;> rfl
theorem told_sh (ns : List Int) (m : Nat) : Sh (told ns m) m := by
  refine ⟨?_, fun c hc => ?_⟩
  · have : (told ns m).length = (told ns m).cps.toList.length := by simp [Str.length]
    rw [this, told_cps]
    simp
  · rw [told_cps] at hc
    obtain ⟨k, _, rfl⟩ := List.mem_map.mp hc
    split <;> omega
/-- ''.join of the signs by str(int(..)) -/
theorem join_told {ns : List Int} {m : Nat} (hm : m ≤ 24) : Yl (dM "str" gJoin (dC (.str "")) (aCons (dLc [12] (dIt gRange1 (aCons (dVar 8) aNil)) (.nm 12) bYes (dCall gStr1 (aCons (dCall gInt1 (aCons (d2 (gIn false) (d2 gAdd (dVar 12) (dC (.int 1))) (dVar 3)) aNil)) aNil))) aNil) (Q x0 x2 (some (.tup (ns.map .int))) x4 x5 x6 x7 (some (.int m)) x9 x10 x11 x12) s) s (.str (told ns m)) := by
  have hN : lineN = 16777216 := by decide
  obtain ⟨t, e⟩ := lc_map (own := [12]) (fi := dIt gRange1 (aCons (dVar 8) aNil)) (env := Q x0 x2 (some (.tup (ns.map .int))) x4 x5 x6 x7 (some (.int m)) x9 x10 x11 x12) (st := s) (st1 := s) (it := ⟨rngD 0 m, []⟩) (tg := .nm 12) (elt := dCall gStr1 (aCons (dCall gInt1 (aCons (d2 (gIn false) (d2 gAdd (dVar 12) (dC (.int 1))) (dVar 3)) aNil)) aNil))
    (by
      have hr : aCons (dVar 8) aNil (Q x0 x2 (some (.tup (ns.map .int))) x4 x5 x6 x7 (some (.int m)) x9 x10 x11 x12) s = .ok [.int m] s := rfl
      unfold dIt
      rw [hr, R.bind_ok, range1_eq (by omega)]) (by intro q hq; cases hq) (fun d => .str (signAt ns d)) (by simp [rngD]; omega) fun d hd => by
    obtain ⟨k, hk, rfl⟩ := rng_mem hd
    refine ⟨Q x0 x2 (some (.tup (ns.map .int))) x4 x5 x6 x7 (some (.int m)) x9 x10 x11 (some (.int k)), rfl, fun s _ => .of_eq ?_⟩
    have e1 : d2 (gIn false) (d2 gAdd (dVar 12) (dC (.int 1))) (dVar 3) (Q x0 x2 (some (.tup (ns.map .int))) x4 x5 x6 x7 (some (.int m)) x9 x10 x11 (some (.int k))) s = .ok (.bl (inI ns (k + 1))) s := in_ints
    rw [a_dCall, a_aCons, a_dCall, a_aCons, e1, R.bind_ok, a_aNil, R.bind_ok, R.bind_ok]
    unfold gInt1
    dsimp only
    rw [R.bind_ok, a_aNil, R.bind_ok, R.bind_ok]
    unfold signAt
    dsimp only
    cases inI ns (k + 1) with
    | true =>
      show (if (1 : Int).natAbs.log2 < 1920 then R.ok (D.str (toString (1 : Int))) s else .bad) = _
      rw [if_pos (by decide), ts1]
      rfl
    | false =>
      show (if (0 : Int).natAbs.log2 < 1920 then R.ok (D.str (toString (0 : Int))) s else .bad) = _
      rw [if_pos (by decide), ts0]
      rfl
  refine ⟨.lst ((rngD 0 m).map fun d => .str (signAt ns d)) :: t, ?_⟩
  have hl : (rngD 0 m).length ≤ 16777216 := by simp [rngD]; omega
  have ej := join_mid (s := s) (t := t) (ns := ns) hl
  rw [a_dM, a_dC, R.bind_ok, if_pos (show tyB "str" (.str "") s = true from rfl), a_aCons, e, R.bind_ok, a_aNil, R.bind_ok, R.bind_ok, ej]
  rfl
/-- list(range(max(thing))) where it's asked for -/
def extraL (d : D) : List D := match d with
  | .tup ds => if placesB d 24 = true ∧ ds.isEmpty = false then (match intsD ds with | some ns => rngD 0 (maxI ns).toNat | none => []) else []
  | _ => []
theorem extra_no {d x : D} (hx : x ∈ extraL d) : ∃ k : Int, x = .int k ∧ ∀ ns : List Int, d = .tup (ns.map .int) → numB x (maxI (0 :: ns)) 24 = false := by
  unfold extraL at hx
  split at hx
  · rename_i ds
    split at hx
    · rename_i hc
      split at hx
      · rename_i ns0 e0
        obtain ⟨k, hk, rfl⟩ := rng_mem hx
        refine ⟨k, rfl, fun ns e => ?_⟩
        cases e
        rw [intsD_map] at e0
        cases e0
        cases ns0 with
        | nil => simp at hc
        | cons y r =>
          have : maxI (0 :: y :: r) = max 0 (maxI (y :: r)) := rfl
          simp only [numB, Bool.and_eq_false_iff, decide_eq_false_iff_not]
          omega
      · cases hx
    · cases hx
  · cases hx
theorem extra_len {d : D} : (extraL d).length ≤ 24 := by
  unfold extraL
  split
  · rename_i ds
    split
    · rename_i hc
      split
      · rename_i ns0 e0
        obtain ⟨ns, e, hr⟩ := places_tup hc.1
        cases e
        rw [intsD_map] at e0
        cases e0
        have : maxI ns0 ≤ 24 := maxI_le (fun i hi => (hr i hi).2) (fun q => by rw [q] at hc; simp at hc)
        simp only [rngD, List.length_map, List.length_range]
        omega
      · simp
    · simp
  · simp
end K00
end Fn
end
section
set_option Elab.async false
set_option linter.all false
set_option maxRecDepth 100000
set_option maxHeartbeats 4000000
namespace Fn
namespace K00
open PySem PySem.Spec PyProof.Rows L2 LamX
variable {x0 x2 x3 x4 x5 x6 x7 x8 x9 x10 x11 x12 : Option D} {n : Nat} {s : Sto}
theorem due_eq {d : D} {u : Nat} (hu : s[u]? = some (.lst [.str (dueS d)])) : d2 (gEqW false) (dVar 11) (dLst (aCons (dC (.str "BadMany")) aNil)) (Q x0 x2 x3 x4 x5 x6 x7 x8 x9 x10 (some (.ref u)) x12) s = .ok (.bl (placesB d 24)) (s ++ [.lst [.str "BadMany"]]) := by
  have v11 : dVar 11 (Q x0 x2 x3 x4 x5 x6 x7 x8 x9 x10 (some (.ref u)) x12) s = .ok (.ref u) s := rfl
  have l1 : dLst (aCons (dC (.str "BadMany")) aNil) (Q x0 x2 x3 x4 x5 x6 x7 x8 x9 x10 (some (.ref u)) x12) s = .ok (.ref s.length) (s ++ [.lst [.str "BadMany"]]) := lsts_ok rfl (by simp)
  have hi : (s ++ [O.lst [.str "BadMany"]])[u]? = some (.lst (([dueS d] : List Str).map .str)) := get_app hu
  have hj : (s ++ [O.lst [.str "BadMany"]])[s.length]? = some (.lst ((["BadMany"] : List Str).map .str)) := get_mid
  rw [a_d2, v11, R.bind_ok, l1, R.bind_ok, eq_strs (neg := false) hi hj (by simp [due_ok]) (by decide +kernel)]
  congr 1
  congr 1
  unfold dueS
  cases placesB d 24 with
  | true => simp
  | false =>
    simp only [Bool.false_eq_true, if_false]
    decide +kernel
theorem extra_yl {d : D} {u : Nat} (h : FineP d s) (hu : s[u]? = some (.lst [.str (dueS d)])) : ∃ r t, dIf (bAnd (dB (d2 (gEqW false) (dVar 11) (dLst (aCons (dC (.str "BadMany")) aNil)))) (dB (d2 (gEqW true) (dVar 3) (dTup aNil)))) (d1 gListRg (dCall gMaxS (aCons (dVar 3) aNil))) (dLst aNil) (Q x0 x2 (some d) x4 x5 x6 x7 x8 x9 x10 (some (.ref u)) x12) s = .ok (.ref r) (s ++ t) ∧ (s ++ t)[r]? = some (.lst (extraL d)) := by
  have hN : lineN = 16777216 := by decide
  have v3 : ∀ s, dVar 3 (Q x0 x2 (some d) x4 x5 x6 x7 x8 x9 x10 (some (.ref u)) x12) s = .ok d s := fun _ => rfl
  have l1 : ∀ s, dLst aNil (Q x0 x2 (some d) x4 x5 x6 x7 x8 x9 x10 (some (.ref u)) x12) s = .ok (.ref s.length) (s ++ [.lst []]) := fun s => lsts_ok rfl (by simp)
  have t1 : ∀ s, dTup aNil (Q x0 x2 (some d) x4 x5 x6 x7 x8 x9 x10 (some (.ref u)) x12) s = .ok (.tup []) s := fun s => by
    rw [a_dTup, a_aNil, R.bind_ok, if_pos (by simp)]
  rw [a_dIf, a_bAnd, a_dB, due_eq hu, R.bind_ok]
  by_cases hp : placesB d 24 = true
  · obtain ⟨ns, rfl, hr⟩ := places_tup hp
    rw [hp]
    simp only [asB, R.bind_ok, if_true, a_dB, a_d2, v3, t1, ne_empty]
    cases ns with
    | nil =>
      simp only [List.isEmpty_nil, Bool.not_true, Bool.false_eq_true, if_false, l1]
      refine ⟨_, [.lst [.str "BadMany"], .lst []], by rw [List.append_assoc]; rfl, ?_⟩
      rw [show s ++ [O.lst [.str "BadMany"], .lst []] = (s ++ [O.lst [.str "BadMany"]]) ++ [.lst []] from by simp, get_mid]
      rfl
    | cons y r =>
      have hm : maxI (y :: r) ≤ 24 := maxI_le (fun i hi => (hr i hi).2) (by simp)
      have hm0 : -16777216 ≤ maxI (y :: r) := by
        have h1 := (hr y List.mem_cons_self).1
        cases r with
        | nil => show _ ≤ y; omega
        | cons z q =>
          show _ ≤ max y (maxI (z :: q))
          omega
      simp only [List.isEmpty_cons, Bool.not_false, if_true, a_d1, a_dCall, a_aCons, a_aNil, v3, R.bind_ok]
      rw [max_tup, R.bind_ok]
      have eg : gListRg (.int (maxI (y :: r))) (s ++ [O.lst [.str "BadMany"]]) = .ok (.ref (s ++ [O.lst [.str "BadMany"]]).length) ((s ++ [O.lst [.str "BadMany"]]) ++ [.lst (rngD 0 (maxI (y :: r)).toNat)]) := if_pos ⟨by omega, hm0⟩
      rw [eg]
      refine ⟨_, [.lst [.str "BadMany"], .lst (rngD 0 (maxI (y :: r)).toNat)], by rw [List.append_assoc]; rfl, ?_⟩
      rw [show s ++ [O.lst [.str "BadMany"], .lst (rngD 0 (maxI (y :: r)).toNat)] = (s ++ [O.lst [.str "BadMany"]]) ++ [.lst (rngD 0 (maxI (y :: r)).toNat)] from by simp, get_mid]
      unfold extraL
      dsimp only
      rw [if_pos ⟨hp, rfl⟩, intsD_map]
  · have hp' : placesB d 24 = false := by simpa using hp
    rw [hp']
    simp only [asB, R.bind_ok, Bool.false_eq_true, if_false, l1]
    refine ⟨_, [.lst [.str "BadMany"], .lst []], by rw [List.append_assoc]; rfl, ?_⟩
    rw [show s ++ [O.lst [.str "BadMany"], .lst []] = (s ++ [O.lst [.str "BadMany"]]) ++ [.lst []] from by simp, get_mid]
    unfold extraL
    rw [hp']
    cases d <;> simp
/-- refused(..) != due comes to False -/
theorem cmp_due {d : D} {u : Nat} {f : DE} {env : Ev} {t t' : Sto} (hu : s[u]? = some (.lst [.str (dueS d)])) (hf : f env s = .ok (.ref (s ++ t).length) (s ++ t ++ .lst [.str (dueS d)] :: t')) (h11 : ∀ s, dVar 11 env s = .ok (.ref u) s) : sIf (dB (d2 (gEqW true) f (dVar 11))) (sRet (dC (.bl false))) sNil env s = .next env (s ++ (t ++ .lst [.str (dueS d)] :: t')) := by
  have hi : (s ++ t ++ O.lst [.str (dueS d)] :: t')[(s ++ t).length]? = some (.lst (([dueS d] : List Str).map .str)) := get_mid
  have hj : (s ++ t ++ O.lst [.str (dueS d)] :: t')[u]? = some (.lst (([dueS d] : List Str).map .str)) := get_app (get_app hu)
  rw [a_sIf, a_dB, a_d2, hf, R.bind_ok, h11, R.bind_ok, same_lists hi hj (by simp [due_ok]), R.bind_ok]
  simp only [asB, R.into_ok, Bool.false_eq_true, if_false, a_sNil, List.append_assoc]
noncomputable def bodyA11 (c2 c3 : Clo) : DS := (sSeq (sAsg (dIf (bNot (dB (dCall G__law_are_places (aCons (dVar 3) (aCons (dC (.int 24)) aNil))))) (dLst (aCons (dC (.str "BadPlaces")) aNil)) (dLst (aCons (dC (.str "BadMany")) aNil))) (.nm 11)) (sSeq (sFor (dIter (d2 gAdd (dVar 10) (dIf (bAnd (dB (d2 (gEqW false) (dVar 11) (dLst (aCons (dC (.str "BadMany")) aNil)))) (dB (d2 (gEqW true) (dVar 3) (dTup aNil)))) (d1 gListRg (dCall gMaxS (aCons (dVar 3) aNil))) (dLst aNil)))) (.nm 8) (sIf (dB (d2 (gEqW true) (dClo G__law_refused [(c2, FL2)] (aCons (dC (.clo c2)) aNil)) (dVar 11))) (sRet (dC (.bl false))) sNil)) (sIf (dB (d2 (gEqW false) (dVar 11) (dLst (aCons (dC (.str "BadMany")) aNil)))) (sSeq (sAsg (dCall gMaxS (aCons (d2 gAdd (dTup (aCons (dC (.int 0)) aNil)) (dVar 3)) aNil)) (.nm 8)) (sIf (bNot (dB (dCall G__law_same (aCons (dCall G_word_of (aCons (dVar 3) (aCons (dVar 8) aNil))) (aCons (dM "str" gJoin (dC (.str "")) (aCons (dLc [12] (dIt gRange1 (aCons (dVar 8) aNil)) (.nm 12) bYes (dCall gStr1 (aCons (dCall gInt1 (aCons (d2 (gIn false) (d2 gAdd (dVar 12) (dC (.int 1))) (dVar 3)) aNil)) aNil))) aNil)) aNil))))) (sRet (dC (.bl false))) sNil)) (sIf (dB (d2 (gEqW true) (dClo G__law_refused [(c3, FL3)] (aCons (dC (.clo c3)) aNil)) (dVar 11))) (sRet (dC (.bl false))) sNil))))
theorem bodyA11_out {c2 c3 : Clo} {d : D} {i j : Nat} {k : Int} (h : FineP d s) (hk : 0 ≤ k) (hj : s[j]? = some (.lst [.int 3])) (hi : s[i]? = some (.lst (wrongL j k))) : ∃ y8 y11 t, bodyA11 c2 c3 (Q x0 x2 (some d) x4 x5 x6 x7 x8 x9 (some (.ref i)) x11 x12) s = .next (Q x0 x2 (some d) x4 x5 x6 x7 y8 x9 (some (.ref i)) y11 x12) (s ++ t) := by
  have hN : lineN = 16777216 := by decide
  obtain ⟨t1, q1⟩ := law_are_places_yl (n := 24) h.1.nice h.fl
  have b1 : sAsg (dIf (bNot (dB (dCall G__law_are_places (aCons (dVar 3) (aCons (dC (.int 24)) aNil))))) (dLst (aCons (dC (.str "BadPlaces")) aNil)) (dLst (aCons (dC (.str "BadMany")) aNil))) (.nm 11) (Q x0 x2 (some d) x4 x5 x6 x7 x8 x9 (some (.ref i)) x11 x12) s = .next (Q x0 x2 (some d) x4 x5 x6 x7 x8 x9 (some (.ref i)) (some (.ref (s ++ t1).length)) x12) (s ++ t1 ++ [.lst [.str (dueS d)]]) := by
    have v3 : ∀ s, dVar 3 (Q x0 x2 (some d) x4 x5 x6 x7 x8 x9 (some (.ref i)) x11 x12) s = .ok d s := fun _ => rfl
    have la : ∀ (z : Str) s, dLst (aCons (dC (.str z)) aNil) (Q x0 x2 (some d) x4 x5 x6 x7 x8 x9 (some (.ref i)) x11 x12) s = .ok (.ref s.length) (s ++ [.lst [.str z]]) := fun z s => lsts_ok rfl (by simp)
    rw [a_sSet, a_dIf, a_bNot, a_dB, a_dCall, a_aCons, v3, R.bind_ok, a_aCons, a_dC, R.bind_ok, a_aNil, R.bind_ok, R.bind_ok, R.bind_ok, q1, R.bind_ok]
    unfold dueS
    cases placesB d 24 with
    | true =>
      simp only [asB, R.bind_ok, Bool.not_true, Bool.false_eq_true, if_false, if_true, la, R.into_ok]
      rfl
    | false =>
      simp only [asB, R.bind_ok, Bool.not_false, if_true, Bool.false_eq_true, if_false, la, R.into_ok]
      rfl
  obtain ⟨S1, hS1⟩ : ∃ S1, S1 = s ++ t1 ++ [O.lst [.str (dueS d)]] := ⟨_, rfl⟩
  obtain ⟨u, hu0⟩ : ∃ u, u = (s ++ t1).length := ⟨_, rfl⟩
  rw [← hS1, ← hu0] at b1
  have hu : S1[u]? = some (.lst [.str (dueS d)]) := by rw [hS1, hu0]; exact get_mid
  have h1 : FineP d S1 := by rw [hS1]; exact (h.ext _).ext _
  have hi1 : S1[i]? = some (.lst (wrongL j k)) := by rw [hS1]; exact get_app (get_app hi)
  have hj1 : S1[j]? = some (.lst [.int 3]) := by rw [hS1]; exact get_app (get_app hj)
  obtain ⟨r, t2, q2, g2⟩ := extra_yl (x0 := x0) (x2 := x2) (x4 := x4) (x5 := x5) (x6 := x6) (x7 := x7) (x8 := x8) (x9 := x9) (x10 := some (.ref i)) (x12 := x12) h1 hu
  have hlen := extra_len (d := d)
  have hd : dIter (d2 gAdd (dVar 10) (dIf (bAnd (dB (d2 (gEqW false) (dVar 11) (dLst (aCons (dC (.str "BadMany")) aNil)))) (dB (d2 (gEqW true) (dVar 3) (dTup aNil)))) (d1 gListRg (dCall gMaxS (aCons (dVar 3) aNil))) (dLst aNil))) (Q x0 x2 (some d) x4 x5 x6 x7 x8 x9 (some (.ref i)) (some (.ref u)) x12) S1 = .ok ⟨wrongL j k ++ extraL d, [((S1 ++ t2).length, .lst (wrongL j k ++ extraL d))]⟩ (S1 ++ t2 ++ [.lst (wrongL j k ++ extraL d)]) := by
    have v10 : ∀ s, dVar 10 (Q x0 x2 (some d) x4 x5 x6 x7 x8 x9 (some (.ref i)) (some (.ref u)) x12) s = .ok (.ref i) s := fun _ => rfl
    unfold dIter
    rw [a_d2, v10, R.bind_ok, q2, R.bind_ok]
    unfold gAdd
    dsimp only
    rw [get_app hi1, g2]
    dsimp only
    rw [if_pos (by simp [wrongL]; omega), R.bind_ok]
    unfold itD
    dsimp only
    rw [get_mid]
  obtain ⟨S2, hS2⟩ : ∃ S2, S2 = S1 ++ t2 ++ [O.lst (wrongL j k ++ extraL d)] := ⟨_, rfl⟩
  have hu2 : S2[u]? = some (.lst [.str (dueS d)]) := by rw [hS2]; exact get_app (get_app hu)
  have h2 : FineP d S2 := by rw [hS2]; exact (h1.ext _).ext _
  have hj2 : S2[j]? = some (.lst [.int 3]) := by rw [hS2]; exact get_app (get_app hj1)
  have gL : S2[(S1 ++ t2).length]? = some (.lst (wrongL j k ++ extraL d)) := by rw [hS2]; exact get_mid
  obtain ⟨e', t', h3, y8, rfl⟩ := loop_ext (live := IT.live ⟨wrongL j k ++ extraL d, [((S1 ++ t2).length, .lst (wrongL j k ++ extraL d))]⟩) (tg := .nm 8) (S0 := S2) (body := sIf (dB (d2 (gEqW true) (dClo G__law_refused [(c2, FL2)] (aCons (dC (.clo c2)) aNil)) (dVar 11))) (sRet (dC (.bl false))) sNil) (fun t q hq => by
      have e : q = ((S1 ++ t2).length, .lst (wrongL j k ++ extraL d)) := by simpa using hq
      rw [e]
      exact get_app gL) (fun e => ∃ y8, e = Q x0 x2 (some d) x4 x5 x6 x7 y8 x9 (some (.ref i)) (some (.ref u)) x12) (wrongL j k ++ extraL d) (Q x0 x2 (some d) x4 x5 x6 x7 x8 x9 (some (.ref i)) (some (.ref u)) x12) [] ⟨x8, rfl⟩ (by
    rintro x hx e t ⟨y8, rfl⟩
    have hty : (∃ q, tyName x (S2 ++ t) = some q) ∧ ∀ ns : List Int, d = .tup (ns.map .int) → placesB d 24 = true → numB x (maxI (0 :: ns)) 24 = false := by
      rcases List.mem_append.mp hx with hx | hx
      · exact ⟨(wrong_no hk hx (lo := 0) (by omega) (get_app hj2)).1, fun ns _ _ => (wrong_no hk hx maxI_ge (get_app (t := t) hj2)).2⟩
      · obtain ⟨k, rfl, hk⟩ := extra_no hx
        exact ⟨⟨_, rfl⟩, fun ns e _ => hk ns e⟩
    obtain ⟨a1, a2, q⟩ := refused_word_of (h2.ext t) hty.1 hty.2
    refine ⟨Q x0 x2 (some d) x4 x5 x6 x7 (some x) x9 (some (.ref i)) (some (.ref u)) x12, rfl, _, _, cmp_due (get_app hu2) (clo_refused.trans q) (fun s => rfl), _, rfl⟩)
  rw [List.append_nil] at h3
  have b2 : sFor (dIter (d2 gAdd (dVar 10) (dIf (bAnd (dB (d2 (gEqW false) (dVar 11) (dLst (aCons (dC (.str "BadMany")) aNil)))) (dB (d2 (gEqW true) (dVar 3) (dTup aNil)))) (d1 gListRg (dCall gMaxS (aCons (dVar 3) aNil))) (dLst aNil)))) (.nm 8) (sIf (dB (d2 (gEqW true) (dClo G__law_refused [(c2, FL2)] (aCons (dC (.clo c2)) aNil)) (dVar 11))) (sRet (dC (.bl false))) sNil) (Q x0 x2 (some d) x4 x5 x6 x7 x8 x9 (some (.ref i)) (some (.ref u)) x12) S1 = .next (Q x0 x2 (some d) x4 x5 x6 x7 y8 x9 (some (.ref i)) (some (.ref u)) x12) (S2 ++ t') := by
    unfold sFor
    rw [hd, R.into_ok, ← hS2]
    exact h3
  have h4 := h2.ext t'
  have hu4 : (S2 ++ t')[u]? = some (.lst [.str (dueS d)]) := get_app hu2
  have b3 : ∃ z8 t5, (sIf (dB (d2 (gEqW false) (dVar 11) (dLst (aCons (dC (.str "BadMany")) aNil)))) (sSeq (sAsg (dCall gMaxS (aCons (d2 gAdd (dTup (aCons (dC (.int 0)) aNil)) (dVar 3)) aNil)) (.nm 8)) (sIf (bNot (dB (dCall G__law_same (aCons (dCall G_word_of (aCons (dVar 3) (aCons (dVar 8) aNil))) (aCons (dM "str" gJoin (dC (.str "")) (aCons (dLc [12] (dIt gRange1 (aCons (dVar 8) aNil)) (.nm 12) bYes (dCall gStr1 (aCons (dCall gInt1 (aCons (d2 (gIn false) (d2 gAdd (dVar 12) (dC (.int 1))) (dVar 3)) aNil)) aNil))) aNil)) aNil))))) (sRet (dC (.bl false))) sNil)) (sIf (dB (d2 (gEqW true) (dClo G__law_refused [(c3, FL3)] (aCons (dC (.clo c3)) aNil)) (dVar 11))) (sRet (dC (.bl false))) sNil)) (Q x0 x2 (some d) x4 x5 x6 x7 y8 x9 (some (.ref i)) (some (.ref u)) x12) (S2 ++ t') = .next (Q x0 x2 (some d) x4 x5 x6 x7 z8 x9 (some (.ref i)) (some (.ref u)) x12) (S2 ++ t' ++ t5) := by
    rw [a_sIf, a_dB, due_eq hu4, R.bind_ok]
    by_cases hp : placesB d 24 = true
    · obtain ⟨ns, rfl, hr⟩ := places_tup hp
      have hl := (h.2 _ rfl).1
      rw [List.length_map] at hl
      rw [hp]
      simp only [asB, R.into_ok, if_true]
      have hm0 : 0 ≤ maxI (0 :: ns) := maxI_ge
      have hm1 : maxI (0 :: ns) ≤ 24 := maxI_le (fun i hi => by
        rcases List.mem_cons.mp hi with rfl | hi
        · omega
        · exact (hr i hi).2) (by simp)
      obtain ⟨S4, hS4⟩ : ∃ S4, S4 = S2 ++ t' ++ [O.lst [.str "BadMany"]] := ⟨_, rfl⟩
      rw [← hS4]
      obtain ⟨a1, qa⟩ := word_of_yl (ns := ns) (m := (maxI (0 :: ns)).toNat) (st := S4) hp hl (by omega) (by omega)
      obtain ⟨a2, qb⟩ := join_told (x0 := x0) (x2 := x2) (x4 := x4) (x5 := x5) (x6 := x6) (x7 := x7) (x9 := x9) (x10 := some (.ref i)) (x11 := some (.ref u)) (x12 := x12) (s := S4 ++ a1) (ns := ns) (m := (maxI (0 :: ns)).toNat) (by omega)
      have em : (((maxI (0 :: ns)).toNat : Nat) : Int) = maxI (0 :: ns) := by omega
      have c1 : sAsg (dCall gMaxS (aCons (d2 gAdd (dTup (aCons (dC (.int 0)) aNil)) (dVar 3)) aNil)) (.nm 8) (Q x0 x2 (some (.tup (ns.map .int))) x4 x5 x6 x7 y8 x9 (some (.ref i)) (some (.ref u)) x12) S4 = .next (Q x0 x2 (some (.tup (ns.map .int))) x4 x5 x6 x7 (some (.int ((maxI (0 :: ns)).toNat : Nat))) x9 (some (.ref i)) (some (.ref u)) x12) S4 := by
        have v3 : ∀ s, dVar 3 (Q x0 x2 (some (.tup (ns.map .int))) x4 x5 x6 x7 y8 x9 (some (.ref i)) (some (.ref u)) x12) s = .ok (.tup (ns.map .int)) s := fun _ => rfl
        have t1 : ∀ s, dTup (aCons (dC (.int 0)) aNil) (Q x0 x2 (some (.tup (ns.map .int))) x4 x5 x6 x7 y8 x9 (some (.ref i)) (some (.ref u)) x12) s = .ok (.tup [.int 0]) s := fun s => tup1_ok rfl
        have ga : gAdd (.tup [.int 0]) (.tup (ns.map .int)) S4 = .ok (.tup ((0 :: ns).map .int)) S4 := if_pos (by simp; omega)
        rw [a_sSet, a_dCall, a_aCons, a_d2, t1, R.bind_ok, v3, R.bind_ok, ga, R.bind_ok, a_aNil, R.bind_ok, R.bind_ok, max_tup, R.into_ok, em]
        rfl
      have c2' : (sIf (bNot (dB (dCall G__law_same (aCons (dCall G_word_of (aCons (dVar 3) (aCons (dVar 8) aNil))) (aCons (dM "str" gJoin (dC (.str "")) (aCons (dLc [12] (dIt gRange1 (aCons (dVar 8) aNil)) (.nm 12) bYes (dCall gStr1 (aCons (dCall gInt1 (aCons (d2 (gIn false) (d2 gAdd (dVar 12) (dC (.int 1))) (dVar 3)) aNil)) aNil))) aNil)) aNil))))) (sRet (dC (.bl false))) sNil) (Q x0 x2 (some (.tup (ns.map .int))) x4 x5 x6 x7 (some (.int ((maxI (0 :: ns)).toNat : Nat))) x9 (some (.ref i)) (some (.ref u)) x12) S4 = .next (Q x0 x2 (some (.tup (ns.map .int))) x4 x5 x6 x7 (some (.int ((maxI (0 :: ns)).toNat : Nat))) x9 (some (.ref i)) (some (.ref u)) x12) (S4 ++ a1 ++ a2) := by
        have v3 : ∀ s, dVar 3 (Q x0 x2 (some (.tup (ns.map .int))) x4 x5 x6 x7 (some (.int ((maxI (0 :: ns)).toNat : Nat))) x9 (some (.ref i)) (some (.ref u)) x12) s = .ok (.tup (ns.map .int)) s := fun _ => rfl
        have v8 : ∀ s, dVar 8 (Q x0 x2 (some (.tup (ns.map .int))) x4 x5 x6 x7 (some (.int ((maxI (0 :: ns)).toNat : Nat))) x9 (some (.ref i)) (some (.ref u)) x12) s = .ok (.int ((maxI (0 :: ns)).toNat : Nat)) s := fun _ => rfl
        rw [a_sIf, a_bNot, a_dB, a_dCall, a_aCons, a_dCall, a_aCons, v3, R.bind_ok, a_aCons, v8, R.bind_ok, a_aNil, R.bind_ok, R.bind_ok, R.bind_ok, qa, R.bind_ok, a_aCons, qb, R.bind_ok, a_aNil, R.bind_ok, R.bind_ok, R.bind_ok, same_str (told_sh ns _) (by omega), R.bind_ok]
        simp only [asB, R.bind_ok, Bool.not_true, R.into_ok, Bool.false_eq_true, if_false, a_sNil]
      rw [a_sSeq c1, c2', hS4]
      exact ⟨some (.int ((maxI (0 :: ns)).toNat : Nat)), [O.lst [.str "BadMany"]] ++ a1 ++ a2, by simp only [List.append_assoc]⟩
    · have hp' : placesB d 24 = false := by simpa using hp
      rw [hp']
      simp only [asB, R.into_ok, Bool.false_eq_true, if_false]
      obtain ⟨a1, a2, q⟩ := refused_word_of (x := .int 24) (h4.ext [.lst [.str "BadMany"]]) ⟨_, rfl⟩ (fun ns _ e => by rw [hp'] at e; cases e)
      refine ⟨y8, [.lst [.str "BadMany"]] ++ (a1 ++ .lst [.str (dueS d)] :: a2), ?_⟩
      rw [cmp_due (get_app hu4) (clo_refused.trans q) (fun s => rfl)]
      simp only [List.append_assoc]
  obtain ⟨z8, t5, b3⟩ := b3
  refine ⟨z8, some (.ref u), t1 ++ [O.lst [.str (dueS d)]] ++ t2 ++ [O.lst (wrongL j k ++ extraL d)] ++ t' ++ t5, ?_⟩
  unfold bodyA11
  rw [a_sSeq b1, a_sSeq b2, b3, hS2, hS1]
  simp only [List.append_assoc]
end K00
end Fn
end
section
set_option Elab.async false
set_option linter.all false
set_option maxRecDepth 100000
set_option maxHeartbeats 4000000
namespace Fn
namespace K00
open PySem PySem.Spec PyProof.Rows L2 LamX
variable {x0 x2 x3 x4 x5 x6 x7 x8 x9 x10 x11 x12 : Option D} {n : Nat} {s : Sto}
theorem onesI_tp (w : Str) {m : Nat} (hm : m ≤ 24) : Tp ((onesI w m).map .int) 24 := ⟨by rw [List.length_map]; exact Nat.le_trans (onesI_len w m) hm, fun x hx => by
  obtain ⟨i, _, rfl⟩ := List.mem_map.mp hx
  rfl⟩
theorem A11_out {c2 c3 : Clo} {i j : Nat} {k : Int} {ps : List D} (h : Dr n s) (hn : n + 100 < 1000000) (hp : Tp ps 24) (hk : 0 ≤ k) (hi3 : 3 ≤ i) (hj3 : 3 ≤ j) (hj : s[j]? = some (.lst [.int 3])) (hi : s[i]? = some (.lst (wrongL j k))) : ∃ y3 y8 y11 s', A11 c2 c3 (Q x0 x2 x3 x4 x5 (some (.tup ps)) x7 x8 x9 (some (.ref i)) x11 x12) s = .next (Q x0 x2 y3 x4 x5 (some (.tup ps)) x7 y8 x9 (some (.ref i)) y11 x12) s' ∧ Dr (n + 1) s' := by
  obtain ⟨d2', s2, e2, l, ds, rfl, hl, hl3, hP, D2, F2⟩ := (near_places_out (n := n) h (by omega) hp).ex
  have v1 : ∀ s, dVar 1 (Q x0 x2 x3 x4 x5 (some (.tup ps)) x7 x8 x9 (some (.ref i)) x11 x12) s = .ok (.ref 1) s := fun _ => rfl
  have v6 : ∀ s, dVar 6 (Q x0 x2 x3 x4 x5 (some (.tup ps)) x7 x8 x9 (some (.ref i)) x11 x12) s = .ok (.tup ps) s := fun _ => rfl
  have hd : dIter (dCall G__law_near_places (aCons (dVar 1) (aCons (dVar 6) aNil))) (Q x0 x2 x3 x4 x5 (some (.tup ps)) x7 x8 x9 (some (.ref i)) x11 x12) s = .ok ⟨ds, [(l, .lst ds)]⟩ s2 := by
    unfold dIter
    simp only [a_dCall, a_aCons, a_aNil, v1, v6, R.bind_ok, e2]
    unfold itD
    dsimp only
    rw [hl]
  have hi2 : s2[i]? = some (.lst (wrongL j k)) := F2.at_ _ _ hi3 hi
  have hj2 : s2[j]? = some (.lst [.int 3]) := F2.at_ _ _ hj3 hj
  obtain ⟨e', t', h3, y3, y8, y11, rfl⟩ := loop_ext (live := IT.live ⟨ds, [(l, .lst ds)]⟩) (tg := .nm 3) (S0 := s2) (body := bodyA11 c2 c3) (fun t q hq => by
      have e : q = (l, .lst ds) := by simpa using hq
      rw [e]
      exact get_app hl) (fun e => ∃ y3 y8 y11, e = Q x0 x2 y3 x4 x5 (some (.tup ps)) x7 y8 x9 (some (.ref i)) y11 x12) ds (Q x0 x2 x3 x4 x5 (some (.tup ps)) x7 x8 x9 (some (.ref i)) x11 x12) [] ⟨x3, x8, x11, rfl⟩ (by
    rintro d hd e t ⟨y3, y8, y11, rfl⟩
    obtain ⟨z8, z11, t1, q⟩ := bodyA11_out (c2 := c2) (c3 := c3) (x0 := x0) (x2 := x2) (x4 := x4) (x5 := x5) (x6 := some (.tup ps)) (x7 := x7) (x8 := y8) (x9 := x9) (x11 := y11) (x12 := x12) ((hP d hd).ext t) hk (get_app hj2) (get_app hi2)
    exact ⟨_, rfl, _, t1, q, _, _, _, rfl⟩)
  rw [List.append_nil] at h3
  refine ⟨y3, y8, y11, s2 ++ t', ?_, D2.ext _⟩
  unfold A11 sFor
  rw [hd, R.into_ok]
  exact h3
/-- one turn -/
theorem turn_out {c0 c1 c2 c3 : Clo} (h : Dr n s) (hn : n + 200 < 1000000) : ∃ y3 y4 y5 y6 y7 y8 y9 y10 y11 s', bodyL c0 c1 c2 c3 (Q x0 x2 x3 x4 x5 x6 x7 x8 x9 x10 x11 x12) s = .next (Q x0 x2 y3 y4 y5 y6 y7 y8 y9 y10 y11 x12) s' ∧ Dr (n + 100) s' := by
  obtain ⟨a3, s1, e1, D1⟩ := A1_out (x0 := x0) (x2 := x2) (x3 := x3) (x4 := x4) (x5 := x5) (x6 := x6) (x7 := x7) (x8 := x8) (x9 := x9) (x10 := x10) (x11 := x11) (x12 := x12) h (by omega)
  obtain ⟨m, s2, hm, e2, D2⟩ := A2_out (x0 := x0) (x2 := x2) (x3 := a3) (x4 := x4) (x5 := x5) (x6 := x6) (x7 := x7) (x8 := x8) (x9 := x9) (x10 := x10) (x11 := x11) (x12 := x12) D1 (by omega)
  obtain ⟨w, s3, hw, hb, e3, D3⟩ := A3_out (x0 := x0) (x2 := x2) (x3 := a3) (x5 := x5) (x6 := x6) (x7 := x7) (x8 := x8) (x9 := x9) (x10 := x10) (x11 := x11) (x12 := x12) D2 (by omega) hm
  obtain ⟨v, s4, hmv, hv, e4, D4⟩ := A4_out (x0 := x0) (x2 := x2) (x3 := a3) (x6 := x6) (x7 := x7) (x8 := x8) (x9 := x9) (x10 := x10) (x11 := x11) (x12 := x12) D3 (by omega) hm hw
  obtain ⟨t5, e5⟩ := A5_out (s := s4) (x0 := x0) (x2 := x2) (x3 := a3) (x7 := some (.int v)) (x8 := x8) (x9 := x9) (x10 := x10) (x11 := x11) (x12 := x12) hm hw hb
  obtain ⟨t6, e6⟩ := A6_out (s := s4 ++ t5) (x0 := x0) (x2 := x2) (x3 := a3) (x8 := x8) (x9 := x9) (x10 := x10) (x11 := x11) (x12 := x12) hmv hv hw hb
  obtain ⟨b3, b8, b9, s7, e7, D7⟩ := A7_out (c0 := c0) (s := s4 ++ t5 ++ t6) (x0 := x0) (x2 := x2) (x3 := a3) (x6 := some (.tup ((onesI w m).map .int))) (x8 := x8) (x9 := x9) (x10 := x10) (x11 := x11) (x12 := x12) ((D4.ext t5).ext t6) (by omega) hmv hv hw hb
  obtain ⟨i, j, k, s8, hi3, hj3, hk, hj8, hi8, e8, D8⟩ := A8_out (x0 := x0) (x2 := x2) (x3 := b3) (x4 := some (.int m)) (x5 := some (.str w)) (x6 := some (.tup ((onesI w m).map .int))) (x7 := some (.int v)) (x8 := b8) (x9 := b9) (x10 := x10) (x11 := x11) (x12 := x12) D7 (by omega)
  obtain ⟨d, s9, hd, e9, D9, F9⟩ := A9_out (x0 := x0) (x2 := x2) (x3 := b3) (x4 := some (.int m)) (x5 := some (.str w)) (x6 := some (.tup ((onesI w m).map .int))) (x7 := some (.int v)) (x8 := b8) (x9 := b9) (x11 := x11) (x12 := x12) D8 (by omega) hi3 hi8
  have hi9 := F9.at_ _ _ hi3 hi8
  have hj9 := F9.at_ _ _ hj3 hj8
  obtain ⟨s10, e10, D10, F10⟩ := A10_out (c1 := c1) (x0 := x0) (x2 := x2) (x3 := b3) (x4 := some (.int m)) (w := w) (x6 := some (.tup ((onesI w m).map .int))) (x7 := some (.int v)) (x9 := b9) (x10 := some (.ref i)) (x11 := x11) (x12 := x12) D9 (by omega) hk hd hj3 hj9
  have hi10 := F10.at_ _ _ hi3 hi9
  have hj10 := F10.at_ _ _ hj3 hj9
  obtain ⟨z3, z8, z11, s11, e11, D11⟩ := A11_out (c2 := c2) (c3 := c3) (x0 := x0) (x2 := x2) (x3 := b3) (x4 := some (.int m)) (x5 := some (.str w)) (x7 := some (.int v)) (x8 := some d) (x9 := b9) (x11 := x11) (x12 := x12) D10 (by omega) (onesI_tp w hm) hk hi3 hj3 hj10 hi10
  refine ⟨z3, some (.int m), some (.str w), some (.tup ((onesI w m).map .int)), some (.int v), z8, b9, some (.ref i), z11, s11, ?_, D11.mono (by omega)⟩
  unfold bodyL
  rw [a_sSeq e1, a_sSeq e2, a_sSeq e3, a_sSeq e4, a_sSeq e5, a_sSeq e6, a_sSeq e7, a_sSeq e8, a_sSeq e9, a_sSeq e10, e11]
theorem turns_out {c0 c1 c2 c3 : Clo} {live : Sto → Prop} (hlive : ∀ s, live s) : ∀ (ds : List D) (n : Nat) (s : Sto) (x2 x3 x4 x5 x6 x7 x8 x9 x10 x11 x12 : Option D), Dr n s → n + 100 * ds.length + 200 < 1000000 → ∃ e s', loopS live (.nm 2) (bodyL c0 c1 c2 c3) ds (Q x0 x2 x3 x4 x5 x6 x7 x8 x9 x10 x11 x12) s = .next e s'
  | [], n, s, x2, x3, x4, x5, x6, x7, x8, x9, x10, x11, x12, h, hn => ⟨_, _, loopS_nil (hlive s)⟩
  | d :: ds, n, s, x2, x3, x4, x5, x6, x7, x8, x9, x10, x11, x12, h, hn => by
    rw [List.length_cons] at hn
    obtain ⟨y3, y4, y5, y6, y7, y8, y9, y10, y11, s', e1, D1⟩ := turn_out (c0 := c0) (c1 := c1) (c2 := c2) (c3 := c3) (x0 := x0) (x2 := some d) (x3 := x3) (x4 := x4) (x5 := x5) (x6 := x6) (x7 := x7) (x8 := x8) (x9 := x9) (x10 := x10) (x11 := x11) (x12 := x12) h (by omega)
    obtain ⟨e, s2, e2⟩ := turns_out (c0 := c0) (c1 := c1) (c2 := c2) (c3 := c3) hlive ds (n + 100) s' (some d) y3 y4 y5 y6 y7 y8 y9 y10 y11 x12 D1 (by omega)
    exact ⟨e, s2, (loopS_cons (hlive s) rfl e1).trans e2⟩
/-- the whole law -/
theorem law_out {c0 c1 c2 c3 : Clo} {ns : List Int} (hl : ns.length ≤ 63) : ∃ e s', fb_law G__law_begun G__law_stand_right G__law_same G__law_kept G__law_near_names G__law_name G__law_is G__law_is_name G_is_name G__law_take G__law_word G_ones G_word_of G__law_near_words G__law_is_word G_is_word G__law_refused G__law_pick G__law_near_places G__law_are_places c0 c1 c2 c3 (ev0 N_law [.lst (ns.map .int)]) [] = .ret (.bl true) s' ∧ e = s' := by
  have hN : lineN = 16777216 := by decide
  rw [fb_law_eq]
  have D0 : Dr 0 [O.lst ((begL ns).map .int), .dict (drK 0 0), .lst ((begC ns).map .int)] := ⟨begL ns, begC ns, 0, 0, rfl, rfl, rfl, by omega, by omega⟩
  obtain ⟨s1, e1, D1, l1⟩ := stand_eq D0 rfl
  have b1 : B1 (ev0 N_law [.lst (ns.map .int)]) [] = .next (Q (some (.lst (ns.map .int))) none none none none none none none none none none none) [O.lst ((begL ns).map .int), .dict (drK 0 0), .lst ((begC ns).map .int)] := by
    have v0 : ∀ s, dVar 0 (ev0 N_law [.lst (ns.map .int)]) s = .ok (.lst (ns.map .int)) s := fun _ => rfl
    unfold B1
    rw [a_sSet, a_dCall, a_aCons, v0, R.bind_ok, a_aNil, R.bind_ok, R.bind_ok, begun_eq (by omega), R.into_ok]
    rfl
  have v1 : ∀ s, dVar 1 (Q (some (.lst (ns.map .int))) none none none none none none none none none none none) s = .ok (.ref 1) s := fun _ => rfl
  have v0 : ∀ s, dVar 0 (Q (some (.lst (ns.map .int))) none none none none none none none none none none none) s = .ok (.lst (ns.map .int)) s := fun _ => rfl
  have b2 : B2 (Q (some (.lst (ns.map .int))) none none none none none none none none none none none) [O.lst ((begL ns).map .int), .dict (drK 0 0), .lst ((begC ns).map .int)] = .next (Q (some (.lst (ns.map .int))) none none none none none none none none none none none) s1 := by
    unfold B2
    simp only [a_sIf, a_bNot, a_dB, a_dCall, a_aCons, a_aNil, v1, R.bind_ok, e1, asB, Bool.not_true, R.into_ok, Bool.false_eq_true, if_false, a_sNil]
  have b3 : B3 (Q (some (.lst (ns.map .int))) none none none none none none none none none none none) s1 = .next (Q (some (.lst (ns.map .int))) none none none none none none none none none none none) (s1 ++ [.lst (keptS.map .str)]) := by
    have tm : gTupleA [.ref s1.length] (s1 ++ [.lst (keptS.map .str)]) = .ok (.tup (keptS.map .str)) (s1 ++ [.lst (keptS.map .str)]) := tup_mid
    unfold B3
    simp only [a_sIf, a_bNot, a_dB, a_dCall, a_aCons, a_aNil, a_dC, R.bind_ok, law_kept_eq, tm, same_kept, asB, Bool.not_true, R.into_ok, Bool.false_eq_true, if_false, a_sNil]
  have hr : dIt gRange1 (aCons (d2 gAdd (dC (.int 3)) (dCall gMin2 (aCons (dCall gLen (aCons (dVar 0) aNil)) (aCons (dC (.int 5)) aNil)))) aNil) (Q (some (.lst (ns.map .int))) none none none none none none none none none none none) (s1 ++ [.lst (keptS.map .str)]) = .ok ⟨rngD 0 (3 + min ns.length 5), []⟩ (s1 ++ [.lst (keptS.map .str)]) := by
    have gl : ∀ s, gLen [.lst (ns.map .int)] s = .ok (.int ns.length) s := fun s => by
      show R.ok (D.int ((ns.map D.int).length : Nat)) s = _
      rw [List.length_map]
    have em : (3 : Int) + (if (5 : Int) < (ns.length : Int) then 5 else (ns.length : Int)) = ((3 + min ns.length 5 : Nat) : Int) := by
      split <;> omega
    unfold dIt
    simp only [a_aCons, a_aNil, a_d2, a_dCall, a_dC, v0, R.bind_ok, gl, gMin2, gI2, gAdd]
    rw [em, range1_eq (by omega)]
  obtain ⟨e, s2, e2⟩ := turns_out (c0 := c0) (c1 := c1) (c2 := c2) (c3 := c3) (x0 := some (.lst (ns.map .int))) (live := IT.live ⟨rngD 0 (3 + min ns.length 5), []⟩) (fun s q hq => by cases hq) (rngD 0 (3 + min ns.length 5)) 1 (s1 ++ [.lst (keptS.map .str)]) none none none none none none none none none none none (D1.ext _) (by simp [rngD]; omega)
  refine ⟨s2, s2, ?_, rfl⟩
  have b4 : ∀ t : DS, sSeq (sFor (dIt gRange1 (aCons (d2 gAdd (dC (.int 3)) (dCall gMin2 (aCons (dCall gLen (aCons (dVar 0) aNil)) (aCons (dC (.int 5)) aNil)))) aNil)) (.nm 2) (bodyL c0 c1 c2 c3)) t (Q (some (.lst (ns.map .int))) none none none none none none none none none none none) (s1 ++ [.lst (keptS.map .str)]) = t e s2 := fun t => by
    refine a_sSeq ?_
    unfold sFor
    rw [hr, R.into_ok]
    exact e2
  rw [a_sSeq b1, a_sSeq b2, a_sSeq b3, b4]
  rfl
open Classical in
/-- what the law comes to where it's called -/
noncomputable def G_law (ds : List D) (st : Sto) : R D := if st = [] ∧ ∃ ns : List Int, ds = [.lst (ns.map .int)] ∧ ns.length ≤ 63 then .ok (.bl true) [] else .bad
theorem ref_law {K : PySem.W.Frag} {mg : Str → Option Value} {T : TB} (c0 c1 c2 c3 : Clo) (ds : List D) (st : Sto) (hl : ds.length = 1) : Ref K mg T st.length (fb_law G__law_begun G__law_stand_right G__law_same G__law_kept G__law_near_names G__law_name G__law_is G__law_is_name G_is_name G__law_take G__law_word G_ones G_word_of G__law_near_words G__law_is_word G_is_word G__law_refused G__law_pick G__law_near_places G__law_are_places c0 c1 c2 c3 (ev0 N_law ds) st).toR (G_law ds st) := by
  unfold G_law
  split
  · rename_i hc
    obtain ⟨rfl, ns, rfl, hn⟩ := hc
    obtain ⟨_, s', e, _⟩ := law_out (c0 := c0) (c1 := c1) (c2 := c2) (c3 := c3) hn
    rw [e]
    exact Ref.low (by rfl) ⟨Nat.zero_le _, fun i o hi _ => absurd hi (Nat.not_lt_zero i)⟩ rfl
  · exact Ref.bad
theorem law_true {ns : List Int} (h : ns.length ≤ 63) : LawTrue G_law ns := by
  refine ⟨[], ?_⟩
  unfold G_law
  rw [if_pos ⟨rfl, ns, rfl, h⟩]
end K00
end Fn
end
section
set_option Elab.async false
set_option linter.all false
set_option maxRecDepth 100000
set_option maxHeartbeats 4000000
namespace Fn
namespace K00
open PySem PySem.Spec PyProof.Rows L2 LamX He
theorem tab_in {D c : Str} {b : Bool} (h : tabE D c = some b) : c ∈ raisedN ∧ b = subT D c := by
  unfold tabE at h
  split at h
  · rename_i hc; cases h; exact ⟨hc, rfl⟩
  · cases h
theorem all_mk {w : World} {h : Heap} {K : PySem.W.Frag} {mg : Str → Option Value} {f : Addr} (X : K.In h) (G : h.Ns mainGlobals mg) (c : SaysX fa fn [] tf ex w h K) (hfa : mg "law" = some (.ref f))
  (r__law_stand_right : ∀ {K : PySem.W.Frag} {mg : Str → Option Value} {T : TB} (c0 c1 c2 : Clo), c0.id = 0 → c1.id = 1 → c2.id = 2 → ∀ ds st, ds.length = 1 → Ref K mg T st.length (fb__law_stand_right G__law_pick G_is_word G_word_of G_ones G__law_caught G__law_kinds c0 c1 c2 (ev0 N__law_stand_right ds) st).toR (G__law_stand_right ds st))
  (r_law : ∀ {K : PySem.W.Frag} {mg : Str → Option Value} {T : TB} (c0 c1 c2 c3 : Clo), c0.id = 0 → c1.id = 1 → c2.id = 2 → c3.id = 3 → ∀ ds st, ds.length = 1 → Ref K mg T st.length (fb_law G__law_begun G__law_stand_right G__law_same G__law_kept G__law_near_names G__law_name G__law_is G__law_is_name G_is_name G__law_take G__law_word G_ones G_word_of G__law_near_words G__law_is_word G_is_word G__law_refused G__law_pick G__law_near_places G__law_are_places c0 c1 c2 c3 (ev0 N_law ds) st).toR (G_law ds st))
  (hlaw : ∀ ns : List Int, ns.length ≤ 63 → (∀ z ∈ ns, Builtin.Int.intBits z ≤ 1048576) → LawTrue G_law ns) : LawAtG PySem.Challenge.rw_ringsapart_k00_names_words_and_places w K 9 63 "script" mg f h := by
  have g__law_begun := hd_glo c X G 0 (x := "_law_begun")
  have g__law_mixed := hd_glo c X G 1 (x := "_law_mixed")
  have g__law_take := hd_glo c X G 2 (x := "_law_take")
  have g__law_pick := hd_glo c X G 3 (x := "_law_pick")
  have g__law_caught := hd_glo c X G 4 (x := "_law_caught")
  have g_ones_told := hd_glo c X G 5 (x := "ones_told")
  have g_is_word_of := hd_glo c X G 6 (x := "is_word_of")
  have g_is_any_word := hd_glo c X G 7 (x := "is_any_word")
  have g_ones := hd_glo c X G 8 (x := "ones")
  have g_word_told := hd_glo c X G 9 (x := "word_told")
  have g_are_ascending := hd_glo c X G 10 (x := "are_ascending")
  have g_is_number := hd_glo c X G 11 (x := "is_number")
  have g_are_places := hd_glo c X G 12 (x := "are_places")
  have g_word_of := hd_glo c X G 13 (x := "word_of")
  have g_is_word := hd_glo c X G 14 (x := "is_word")
  have g__law_kinds := hd_glo c X G 15 (x := "_law_kinds")
  have g__law_stand_right := hd_glo c X G 16 (x := "_law_stand_right")
  have g__law_same := hd_glo c X G 17 (x := "_law_same")
  have g__law_kept := hd_glo c X G 18 (x := "_law_kept")
  have g__law_near_names := hd_glo c X G 19 (x := "_law_near_names")
  have g__law_word := hd_glo c X G 20 (x := "_law_word")
  have g__law_near_words := hd_glo c X G 21 (x := "_law_near_words")
  have g__law_near_places := hd_glo c X G 22 (x := "_law_near_places")
  have g__law_is_name := hd_glo c X G 23 (x := "_law_is_name")
  have g__law_name := hd_glo c X G 24 (x := "_law_name")
  have g__law_refused := hd_glo c X G 25 (x := "_law_refused")
  have g__law_is := hd_glo c X G 26 (x := "_law_is")
  have g__law_is_word := hd_glo c X G 27 (x := "_law_is_word")
  have g_is_name := hd_glo c X G 28 (x := "is_name")
  have g__law_is_number := hd_glo c X G 29 (x := "_law_is_number")
  have g__law_are_places := hd_glo c X G 30 (x := "_law_are_places")
  have g_law := hd_glo c X G 31 (x := "law")
  have g_BadWord := hd_glo c X G 32 (x := "BadWord")
  have g_BadPlaces := hd_glo c X G 33 (x := "BadPlaces")
  have g_BadMany := hd_glo c X G 34 (x := "BadMany")
  have g_DescentError := hd_glo c X G 35 (x := "DescentError")
  have g_BadDeeds := hd_glo c X G 36 (x := "BadDeeds")
  have g_BadKind := hd_glo c X G 37 (x := "BadKind")
  have g_BadLife := hd_glo c X G 38 (x := "BadLife")
  have g_BadLine := hd_glo c X G 39 (x := "BadLine")
  have g_BadLot := hd_glo c X G 40 (x := "BadLot")
  have g_BadName := hd_glo c X G 41 (x := "BadName")
  have g_BadNew := hd_glo c X G 42 (x := "BadNew")
  have g_BadOne := hd_glo c X G 43 (x := "BadOne")
  have g_BadOther := hd_glo c X G 44 (x := "BadOther")
  have g_BadPairs := hd_glo c X G 45 (x := "BadPairs")
  have g_BadPlace := hd_glo c X G 46 (x := "BadPlace")
  have g_BadRecord := hd_glo c X G 47 (x := "BadRecord")
  have g_BadSecond := hd_glo c X G 48 (x := "BadSecond")
  have g_BadSome := hd_glo c X G 49 (x := "BadSome")
  have g_BadState := hd_glo c X G 50 (x := "BadState")
  have g_BadStrict := hd_glo c X G 51 (x := "BadStrict")
  have g_BadTable := hd_glo c X G 52 (x := "BadTable")
  have g_BadText := hd_glo c X G 53 (x := "BadText")
  have g_BadWeb := hd_glo c X G 54 (x := "BadWeb")
  have g_BadWork := hd_glo c X G 55 (x := "BadWork")
  have g_NoName := hd_glo c X G 56 (x := "NoName")
  have g_NotApart := hd_glo c X G 57 (x := "NotApart")
  have g_NotNow := hd_glo c X G 58 (x := "NotNow")
  have g_NoWeb := hd_glo c X G 59 (x := "NoWeb")
  have g_TooMany := hd_glo c X G 60 (x := "TooMany")
  have g_Twice := hd_glo c X G 61 (x := "Twice")
  have e := hfa.symm.trans g_law
  cases e
  obtain ⟨fd__law_begun, F__law_begun⟩ := hd_fun c 0 (x := "_law_begun") (st := s__law_begun)
  obtain ⟨fd__law_mixed, F__law_mixed⟩ := hd_fun c 1 (x := "_law_mixed") (st := s__law_mixed)
  obtain ⟨fd__law_take, F__law_take⟩ := hd_fun c 2 (x := "_law_take") (st := s__law_take)
  obtain ⟨fd__law_pick, F__law_pick⟩ := hd_fun c 3 (x := "_law_pick") (st := s__law_pick)
  obtain ⟨fd__law_caught, F__law_caught⟩ := hd_fun c 4 (x := "_law_caught") (st := s__law_caught)
  obtain ⟨fd_ones_told, F_ones_told⟩ := hd_fun c 5 (x := "ones_told") (st := s_ones_told)
  obtain ⟨fd_is_word_of, F_is_word_of⟩ := hd_fun c 6 (x := "is_word_of") (st := s_is_word_of)
  obtain ⟨fd_is_any_word, F_is_any_word⟩ := hd_fun c 7 (x := "is_any_word") (st := s_is_any_word)
  obtain ⟨fd_ones, F_ones⟩ := hd_fun c 8 (x := "ones") (st := s_ones)
  obtain ⟨fd_word_told, F_word_told⟩ := hd_fun c 9 (x := "word_told") (st := s_word_told)
  obtain ⟨fd_are_ascending, F_are_ascending⟩ := hd_fun c 10 (x := "are_ascending") (st := s_are_ascending)
  obtain ⟨fd_is_number, F_is_number⟩ := hd_fun c 11 (x := "is_number") (st := s_is_number)
  obtain ⟨fd_are_places, F_are_places⟩ := hd_fun c 12 (x := "are_places") (st := s_are_places)
  obtain ⟨fd_word_of, F_word_of⟩ := hd_fun c 13 (x := "word_of") (st := s_word_of)
  obtain ⟨fd_is_word, F_is_word⟩ := hd_fun c 14 (x := "is_word") (st := s_is_word)
  obtain ⟨fd__law_kinds, F__law_kinds⟩ := hd_fun c 15 (x := "_law_kinds") (st := s__law_kinds)
  obtain ⟨fd__law_stand_right, F__law_stand_right⟩ := hd_fun c 16 (x := "_law_stand_right") (st := s__law_stand_right)
  obtain ⟨fd__law_same, F__law_same⟩ := hd_fun c 17 (x := "_law_same") (st := s__law_same)
  obtain ⟨fd__law_kept, F__law_kept⟩ := hd_fun c 18 (x := "_law_kept") (st := s__law_kept)
  obtain ⟨fd__law_near_names, F__law_near_names⟩ := hd_fun c 19 (x := "_law_near_names") (st := s__law_near_names)
  obtain ⟨fd__law_word, F__law_word⟩ := hd_fun c 20 (x := "_law_word") (st := s__law_word)
  obtain ⟨fd__law_near_words, F__law_near_words⟩ := hd_fun c 21 (x := "_law_near_words") (st := s__law_near_words)
  obtain ⟨fd__law_near_places, F__law_near_places⟩ := hd_fun c 22 (x := "_law_near_places") (st := s__law_near_places)
  obtain ⟨fd__law_is_name, F__law_is_name⟩ := hd_fun c 23 (x := "_law_is_name") (st := s__law_is_name)
  obtain ⟨fd__law_name, F__law_name⟩ := hd_fun c 24 (x := "_law_name") (st := s__law_name)
  obtain ⟨fd__law_refused, F__law_refused⟩ := hd_fun c 25 (x := "_law_refused") (st := s__law_refused)
  obtain ⟨fd__law_is, F__law_is⟩ := hd_fun c 26 (x := "_law_is") (st := s__law_is)
  obtain ⟨fd__law_is_word, F__law_is_word⟩ := hd_fun c 27 (x := "_law_is_word") (st := s__law_is_word)
  obtain ⟨fd_is_name, F_is_name⟩ := hd_fun c 28 (x := "is_name") (st := s_is_name)
  obtain ⟨fd__law_is_number, F__law_is_number⟩ := hd_fun c 29 (x := "_law_is_number") (st := s__law_is_number)
  obtain ⟨fd__law_are_places, F__law_are_places⟩ := hd_fun c 30 (x := "_law_are_places") (st := s__law_are_places)
  obtain ⟨fd_law, F_law⟩ := hd_fun c 31 (x := "law") (st := s_law)
  have b__law_begun := F__law_begun.binds (ps := ["script"]) fun _ _ _ _ _ _ us hl => match us, hl with | [_], _ => rfl
  have b__law_mixed := F__law_mixed.binds (ps := ["draw"]) fun _ _ _ _ _ _ us hl => match us, hl with | [_], _ => rfl
  have b__law_take := F__law_take.binds (ps := ["draw", "many"]) fun _ _ _ _ _ _ us hl => match us, hl with | [_, _], _ => rfl
  have b__law_pick := F__law_pick.binds (ps := ["draw", "some"]) fun _ _ _ _ _ _ us hl => match us, hl with | [_, _], _ => rfl
  have b__law_caught := F__law_caught.binds (ps := ["work"]) fun _ _ _ _ _ _ us hl => match us, hl with | [_], _ => rfl
  have b_ones_told := F_ones_told.binds (ps := ["word"]) fun _ _ _ _ _ _ us hl => match us, hl with | [_], _ => rfl
  have b_is_word_of := F_is_word_of.binds (ps := ["thing", "many"]) fun _ _ _ _ _ _ us hl => match us, hl with | [_, _], _ => rfl
  have b_is_any_word := F_is_any_word.binds (ps := ["thing"]) fun _ _ _ _ _ _ us hl => match us, hl with | [_], _ => rfl
  have b_ones := F_ones.binds (ps := ["word"]) fun _ _ _ _ _ _ us hl => match us, hl with | [_], _ => rfl
  have b_word_told := F_word_told.binds (ps := ["places", "many"]) fun _ _ _ _ _ _ us hl => match us, hl with | [_, _], _ => rfl
  have b_are_ascending := F_are_ascending.binds (ps := ["some"]) fun _ _ _ _ _ _ us hl => match us, hl with | [_], _ => rfl
  have b_is_number := F_is_number.binds (ps := ["thing", "low", "high"]) fun _ _ _ _ _ _ us hl => match us, hl with | [_, _, _], _ => rfl
  have b_are_places := F_are_places.binds (ps := ["thing", "many"]) fun _ _ _ _ _ _ us hl => match us, hl with | [_, _], _ => rfl
  have b_word_of := F_word_of.binds (ps := ["places", "many"]) fun _ _ _ _ _ _ us hl => match us, hl with | [_, _], _ => rfl
  have b_is_word := F_is_word.binds (ps := ["thing", "many"]) fun _ _ _ _ _ _ us hl => match us, hl with | [_, _], _ => rfl
  have b__law_kinds := F__law_kinds.binds (ps := ["error"]) fun _ _ _ _ _ _ us hl => match us, hl with | [_], _ => rfl
  have b__law_stand_right := F__law_stand_right.binds (ps := ["draw"]) fun _ _ _ _ _ _ us hl => match us, hl with | [_], _ => rfl
  have b__law_same := F__law_same.binds (ps := ["told", "due"]) fun _ _ _ _ _ _ us hl => match us, hl with | [_, _], _ => rfl
  have b__law_kept := F__law_kept.binds (ps := []) fun _ _ _ _ _ _ us hl => match us, hl with | [], _ => rfl
  have b__law_near_names := F__law_near_names.binds (ps := ["draw", "called"]) fun _ _ _ _ _ _ us hl => match us, hl with | [_, _], _ => rfl
  have b__law_word := F__law_word.binds (ps := ["draw", "many"]) fun _ _ _ _ _ _ us hl => match us, hl with | [_, _], _ => rfl
  have b__law_near_words := F__law_near_words.binds (ps := ["draw", "word"]) fun _ _ _ _ _ _ us hl => match us, hl with | [_, _], _ => rfl
  have b__law_near_places := F__law_near_places.binds (ps := ["draw", "places"]) fun _ _ _ _ _ _ us hl => match us, hl with | [_, _], _ => rfl
  have b__law_is_name := F__law_is_name.binds (ps := ["thing"]) fun _ _ _ _ _ _ us hl => match us, hl with | [_], _ => rfl
  have b__law_name := F__law_name.binds (ps := ["draw", "used"]) fun _ _ _ _ _ _ us hl => match us, hl with | [_, _], _ => rfl
  have b__law_refused := F__law_refused.binds (ps := ["work"]) fun _ _ _ _ _ _ us hl => match us, hl with | [_], _ => rfl
  have b__law_is := F__law_is.binds (ps := ["told", "due"]) fun _ _ _ _ _ _ us hl => match us, hl with | [_, _], _ => rfl
  have b__law_is_word := F__law_is_word.binds (ps := ["thing", "many"]) fun _ _ _ _ _ _ us hl => match us, hl with | [_, _], _ => rfl
  have b_is_name := F_is_name.binds (ps := ["thing"]) fun _ _ _ _ _ _ us hl => match us, hl with | [_], _ => rfl
  have b__law_is_number := F__law_is_number.binds (ps := ["thing", "low", "high"]) fun _ _ _ _ _ _ us hl => match us, hl with | [_, _, _], _ => rfl
  have b__law_are_places := F__law_are_places.binds (ps := ["thing", "many"]) fun _ _ _ _ _ _ us hl => match us, hl with | [_, _], _ => rfl
  have b_law := F_law.binds (ps := ["script"]) fun _ _ _ _ _ _ us hl => match us, hl with | [_], _ => rfl
  have B : ∀ x ∈ bnames, mg x = none := by
    intro x hx
    simp only [bnames, List.mem_cons, List.not_mem_nil, or_false] at hx
    rcases hx with rfl | rfl | rfl | rfl | rfl | rfl | rfl | rfl | rfl | rfl | rfl | rfl | rfl | rfl | rfl | rfl
    · exact hd_free c X G 62
    · exact hd_free c X G 63
    · exact hd_free c X G 64
    · exact hd_free c X G 65
    · exact hd_free c X G 66
    · exact hd_free c X G 67
    · exact hd_free c X G 68
    · exact hd_free c X G 69
    · exact hd_free c X G 70
    · exact hd_free c X G 71
    · exact hd_free c X G 72
    · exact hd_free c X G 73
    · exact hd_free c X G 74
    · exact hd_free c X G 75
    · exact hd_free c X G 76
    · exact hd_free c X G 77
  have G_MOST : Gv K mg "MOST" cv_MOST := hd_int c X G 78
  have G_LETTERS : Gv K mg "LETTERS" cv_LETTERS := hd_str c X G 79
  have E_BadWord := hd_exc c g_BadWord 80
  have E_BadPlaces := hd_exc c g_BadPlaces 81
  have E_BadMany := hd_exc c g_BadMany 82
  have hR : ∀ c ∈ raisedN, mg c = some (.ref (ga K c)) := by
    intro x hx
    simp only [raisedN, List.mem_cons, List.not_mem_nil, or_false] at hx
    rcases hx with rfl | rfl | rfl
    · exact g_BadWord
    · exact g_BadPlaces
    · exact g_BadMany
  obtain ⟨x0, m0⟩ := ba (show (ex0 K && _) = true from c.more)
  obtain ⟨x1, m1⟩ := ba (show (ex1 K && _) = true from m0)
  obtain ⟨x2, m2⟩ := ba (show (ex2 K && _) = true from m1)
  obtain ⟨x3, m3⟩ := ba (show (ex3 K && _) = true from m2)
  obtain ⟨x4, m4⟩ := ba (show (ex4 K && _) = true from m3)
  obtain ⟨x5, m5⟩ := ba (show (ex5 K && _) = true from m4)
  obtain ⟨x6, m6⟩ := ba (show (ex6 K && _) = true from m5)
  obtain ⟨x7, m7⟩ := ba (show (ex7 K && _) = true from m6)
  obtain ⟨x8, m8⟩ := ba (show (ex8 K && _) = true from m7)
  obtain ⟨x9, m9⟩ := ba (show (ex9 K && _) = true from m8)
  obtain ⟨x10, m10⟩ := ba (show (ex10 K && _) = true from m9)
  obtain ⟨x11, m11⟩ := ba (show (ex11 K && _) = true from m10)
  obtain ⟨x12, m12⟩ := ba (show (ex12 K && _) = true from m11)
  obtain ⟨x13, m13⟩ := ba (show (ex13 K && _) = true from m12)
  obtain ⟨x14, m14⟩ := ba (show (ex14 K && _) = true from m13)
  obtain ⟨x15, m15⟩ := ba (show (ex15 K && _) = true from m14)
  obtain ⟨x16, m16⟩ := ba (show (ex16 K && _) = true from m15)
  obtain ⟨x17, m17⟩ := ba (show (ex17 K && _) = true from m16)
  obtain ⟨x18, m18⟩ := ba (show (ex18 K && _) = true from m17)
  obtain ⟨x19, m19⟩ := ba (show (ex19 K && _) = true from m18)
  obtain ⟨x20, m20⟩ := ba (show (ex20 K && _) = true from m19)
  obtain ⟨x21, m21⟩ := ba (show (ex21 K && _) = true from m20)
  obtain ⟨x22, m22⟩ := ba (show (ex22 K && _) = true from m21)
  obtain ⟨x23, m23⟩ := ba (show (ex23 K && _) = true from m22)
  obtain ⟨x24, m24⟩ := ba (show (ex24 K && _) = true from m23)
  obtain ⟨x25, m25⟩ := ba (show (ex25 K && _) = true from m24)
  obtain ⟨x26, m26⟩ := ba (show (ex26 K && _) = true from m25)
  obtain ⟨x27, m27⟩ := ba (show (ex27 K && _) = true from m26)
  obtain ⟨x28, m28⟩ := ba (show (ex28 K && _) = true from m27)
  obtain ⟨x29, m29⟩ := ba (show (ex29 K && _) = true from m28)
  obtain ⟨x30, m30⟩ := ba (show (ex30 K && _) = true from m29)
  obtain ⟨x31, m31⟩ := ba (show (ex31 K && _) = true from m30)
  have x32 : ex32 K = true := m31
  have I_BadDeeds : ClsI K mg "BadDeeds" (ga K "BadDeeds") := ⟨g_BadDeeds, isTabB_ok x0 hR fun _ _ => tab_in⟩
  have I_BadKind : ClsI K mg "BadKind" (ga K "BadKind") := ⟨g_BadKind, isTabB_ok x1 hR fun _ _ => tab_in⟩
  have I_BadLife : ClsI K mg "BadLife" (ga K "BadLife") := ⟨g_BadLife, isTabB_ok x2 hR fun _ _ => tab_in⟩
  have I_BadLine : ClsI K mg "BadLine" (ga K "BadLine") := ⟨g_BadLine, isTabB_ok x3 hR fun _ _ => tab_in⟩
  have I_BadLot : ClsI K mg "BadLot" (ga K "BadLot") := ⟨g_BadLot, isTabB_ok x4 hR fun _ _ => tab_in⟩
  have I_BadMany : ClsI K mg "BadMany" (ga K "BadMany") := ⟨g_BadMany, isTabB_ok x5 hR fun _ _ => tab_in⟩
  have I_BadName : ClsI K mg "BadName" (ga K "BadName") := ⟨g_BadName, isTabB_ok x6 hR fun _ _ => tab_in⟩
  have I_BadNew : ClsI K mg "BadNew" (ga K "BadNew") := ⟨g_BadNew, isTabB_ok x7 hR fun _ _ => tab_in⟩
  have I_BadOne : ClsI K mg "BadOne" (ga K "BadOne") := ⟨g_BadOne, isTabB_ok x8 hR fun _ _ => tab_in⟩
  have I_BadOther : ClsI K mg "BadOther" (ga K "BadOther") := ⟨g_BadOther, isTabB_ok x9 hR fun _ _ => tab_in⟩
  have I_BadPairs : ClsI K mg "BadPairs" (ga K "BadPairs") := ⟨g_BadPairs, isTabB_ok x10 hR fun _ _ => tab_in⟩
  have I_BadPlace : ClsI K mg "BadPlace" (ga K "BadPlace") := ⟨g_BadPlace, isTabB_ok x11 hR fun _ _ => tab_in⟩
  have I_BadPlaces : ClsI K mg "BadPlaces" (ga K "BadPlaces") := ⟨g_BadPlaces, isTabB_ok x12 hR fun _ _ => tab_in⟩
  have I_BadRecord : ClsI K mg "BadRecord" (ga K "BadRecord") := ⟨g_BadRecord, isTabB_ok x13 hR fun _ _ => tab_in⟩
  have I_BadSecond : ClsI K mg "BadSecond" (ga K "BadSecond") := ⟨g_BadSecond, isTabB_ok x14 hR fun _ _ => tab_in⟩
  have I_BadSome : ClsI K mg "BadSome" (ga K "BadSome") := ⟨g_BadSome, isTabB_ok x15 hR fun _ _ => tab_in⟩
  have I_BadState : ClsI K mg "BadState" (ga K "BadState") := ⟨g_BadState, isTabB_ok x16 hR fun _ _ => tab_in⟩
  have I_BadStrict : ClsI K mg "BadStrict" (ga K "BadStrict") := ⟨g_BadStrict, isTabB_ok x17 hR fun _ _ => tab_in⟩
  have I_BadTable : ClsI K mg "BadTable" (ga K "BadTable") := ⟨g_BadTable, isTabB_ok x18 hR fun _ _ => tab_in⟩
  have I_BadText : ClsI K mg "BadText" (ga K "BadText") := ⟨g_BadText, isTabB_ok x19 hR fun _ _ => tab_in⟩
  have I_BadWeb : ClsI K mg "BadWeb" (ga K "BadWeb") := ⟨g_BadWeb, isTabB_ok x20 hR fun _ _ => tab_in⟩
  have I_BadWord : ClsI K mg "BadWord" (ga K "BadWord") := ⟨g_BadWord, isTabB_ok x21 hR fun _ _ => tab_in⟩
  have I_BadWork : ClsI K mg "BadWork" (ga K "BadWork") := ⟨g_BadWork, isTabB_ok x22 hR fun _ _ => tab_in⟩
  have I_NoName : ClsI K mg "NoName" (ga K "NoName") := ⟨g_NoName, isTabB_ok x23 hR fun _ _ => tab_in⟩
  have I_NotApart : ClsI K mg "NotApart" (ga K "NotApart") := ⟨g_NotApart, isTabB_ok x24 hR fun _ _ => tab_in⟩
  have I_NotNow : ClsI K mg "NotNow" (ga K "NotNow") := ⟨g_NotNow, isTabB_ok x25 hR fun _ _ => tab_in⟩
  have I_NoWeb : ClsI K mg "NoWeb" (ga K "NoWeb") := ⟨g_NoWeb, isTabB_ok x26 hR fun _ _ => tab_in⟩
  have I_TooMany : ClsI K mg "TooMany" (ga K "TooMany") := ⟨g_TooMany, isTabB_ok x27 hR fun _ _ => tab_in⟩
  have I_Twice : ClsI K mg "Twice" (ga K "Twice") := ⟨g_Twice, isTabB_ok x28 hR fun _ _ => tab_in⟩
  have J_ValueError : IsTab K mg (.type "ValueError") (tabE "ValueError") := isTabB_ok x29 hR fun _ _ => tab_in
  have I_DescentError : ClsI K mg "DescentError" (ga K "DescentError") := ⟨g_DescentError, isTabB_ok x30 hR fun _ _ => tab_in⟩
  have G_KEPT : Gv K mg "KEPT" cv_KEPT := tupStrB_ok X G x31
  have C_DescentError : Catch K mg "DescentError" (ga K "DescentError") := by
    refine ⟨g_DescentError, fun cn C b hm hb => ?_⟩
    obtain ⟨hc, rfl⟩ := tab_in hb
    have e := hm.symm.trans (hR cn hc)
    cases e
    simp only [raisedN, List.mem_cons, List.not_mem_nil, or_false] at hc
    rcases hc with rfl | rfl | rfl
    · exact exm_ok (c.t.d.fact 83)
    · exact exm_ok (c.t.d.fact 84)
    · exact exm_ok (c.t.d.fact 85)
  have KB_word_of_many_places : KwB K fd_word_of ["places", "many"] ["many", "places"] [1, 0] := by
    obtain ⟨_, _, _, _, _, _, _, _, _, rfl, _, _⟩ := F_word_of.ex
    exact ⟨fun s ws _ hl => match ws, hl with | [_, _], _ => .of_eq rfl⟩
  have KB_is_word_many_thing : KwB K fd_is_word ["thing", "many"] ["many", "thing"] [1, 0] := by
    obtain ⟨_, _, _, _, _, _, _, _, _, rfl, _, _⟩ := F_is_word.ex
    exact ⟨fun s ws _ hl => match ws, hl with | [_, _], _ => .of_eq rfl⟩
  have KB_ones_word : KwB K fd_ones ["word"] ["word"] [0] := by
    obtain ⟨_, _, _, _, _, _, _, _, _, rfl, _, _⟩ := F_ones.ex
    exact ⟨fun s ws _ hl => match ws, hl with | [_], _ => .of_eq rfl⟩
  have nd : (tf.map fun p => (cT K p).2).Nodup := of_decide_eq_true x32
  have bl : ∀ (s : Shared) (u : Value), BindsTo s fd_law ⟨[u], []⟩ [("script", u)] := by
    obtain ⟨_, _, _, _, _, _, _, _, _, rfl, _, _⟩ := F_law.ex
    exact fun s u => .of_eq rfl
  refine ⟨fd_law, tf.map (cT K), tbOf K tf, G_law, fun p hp => ?_, fun p hp => ?_, fun p hp => ?_, bl, fun q hq => ?_, hlaw, fun base KB hns TBs => ?_⟩
  · obtain ⟨q, hq, rfl⟩ := List.mem_map.mp hp
    exact c.empty q hq
  · obtain ⟨q, hq, rfl⟩ := List.mem_map.mp hp
    exact c.out q hq
  · obtain ⟨q, hq, rfl⟩ := List.mem_map.mp hp
    exact PySem.W.codeHd_of_K X (c.hd q hq)
  · obtain ⟨p, hp, rfl⟩ := List.mem_map.mp hq
    exact ⟨cT K p, List.mem_map.mpr ⟨p, hp, rfl⟩, rfl⟩
  have H__law_begun : ∀ T : TB, T.tabs = tbOf K tf → DefOk pw w K mg base T 3 "_law_begun" (ga K "_law_begun") fd__law_begun ["script"] U0 G__law_begun := fun T hT => raw__law_begun F__law_begun g__law_begun b__law_begun B T hT
  have H__law_mixed : ∀ T : TB, T.tabs = tbOf K tf → DefOk pw w K mg base T 3 "_law_mixed" (ga K "_law_mixed") fd__law_mixed ["draw"] U0 G__law_mixed := fun T hT => raw__law_mixed F__law_mixed g__law_mixed b__law_mixed B T hT
  have H__law_take : ∀ T : TB, T.tabs = tbOf K tf → DefOk pw w K mg base T 4 "_law_take" (ga K "_law_take") fd__law_take ["draw", "many"] U0 G__law_take := fun T hT => raw__law_take F__law_take g__law_take b__law_take B H__law_mixed T hT
  have H__law_pick : ∀ T : TB, T.tabs = tbOf K tf → DefOk pw w K mg base T 5 "_law_pick" (ga K "_law_pick") fd__law_pick ["draw", "some"] U0 G__law_pick := fun T hT => raw__law_pick F__law_pick g__law_pick b__law_pick B H__law_take T hT
  have H__law_caught : ∀ (T : TB) (U : UP) (c : Clo) (cl : Sto → R D), T.tabs = tbOf K tf → USt U → CloOK1 pw w K mg base 6 T U c cl → DefOk pw w K mg base T 7 "_law_caught" (ga K "_law_caught") fd__law_caught ["work"] U (gC c (G__law_caught cl)) := fun T U c cl hT S HC => (raw__law_caught F__law_caught g__law_caught b__law_caught C_DescentError T U c cl hT S HC).imp fun ds st hl => ref_caught ds st hl
  have H_ones_told : ∀ T : TB, T.tabs = tbOf K tf → DefOk pw w K mg base T 3 "ones_told" (ga K "ones_told") fd_ones_told ["word"] U0 G_ones_told := fun T hT => raw_ones_told F_ones_told g_ones_told b_ones_told B T hT
  have H_is_word_of : ∀ T : TB, T.tabs = tbOf K tf → DefOk pw w K mg base T 3 "is_word_of" (ga K "is_word_of") fd_is_word_of ["thing", "many"] U0 G_is_word_of := fun T hT => raw_is_word_of F_is_word_of g_is_word_of b_is_word_of B T hT
  have H_is_any_word : ∀ T : TB, T.tabs = tbOf K tf → DefOk pw w K mg base T 4 "is_any_word" (ga K "is_any_word") fd_is_any_word ["thing"] U0 G_is_any_word := fun T hT => raw_is_any_word F_is_any_word g_is_any_word b_is_any_word B G_MOST H_is_word_of T hT
  have H_ones : ∀ T : TB, T.tabs = tbOf K tf → DefOk pw w K mg base T 5 "ones" (ga K "ones") fd_ones ["word"] U0 G_ones := fun T hT => raw_ones F_ones g_ones b_ones E_BadWord H_is_any_word H_ones_told T hT
  have H_word_told : ∀ T : TB, T.tabs = tbOf K tf → DefOk pw w K mg base T 3 "word_told" (ga K "word_told") fd_word_told ["places", "many"] U0 G_word_told := fun T hT => raw_word_told F_word_told g_word_told b_word_told B T hT
  have H_are_ascending : ∀ T : TB, T.tabs = tbOf K tf → DefOk pw w K mg base T 3 "are_ascending" (ga K "are_ascending") fd_are_ascending ["some"] U0 G_are_ascending := fun T hT => raw_are_ascending F_are_ascending g_are_ascending b_are_ascending B T hT
  have H_is_number : ∀ T : TB, T.tabs = tbOf K tf → DefOk pw w K mg base T 3 "is_number" (ga K "is_number") fd_is_number ["thing", "low", "high"] U0 G_is_number := fun T hT => raw_is_number F_is_number g_is_number b_is_number B T hT
  have H_are_places : ∀ T : TB, T.tabs = tbOf K tf → DefOk pw w K mg base T 4 "are_places" (ga K "are_places") fd_are_places ["thing", "many"] U0 G_are_places := fun T hT => raw_are_places F_are_places g_are_places b_are_places B H_is_number H_are_ascending T hT
  have H_word_of : ∀ T : TB, T.tabs = tbOf K tf → DefOk pw w K mg base T 5 "word_of" (ga K "word_of") fd_word_of ["places", "many"] U0 G_word_of := fun T hT => raw_word_of F_word_of g_word_of b_word_of B G_MOST E_BadPlaces E_BadMany H_are_places H_is_number H_word_told T hT
  have H_is_word : ∀ T : TB, T.tabs = tbOf K tf → DefOk pw w K mg base T 4 "is_word" (ga K "is_word") fd_is_word ["thing", "many"] U0 G_is_word := fun T hT => raw_is_word F_is_word g_is_word b_is_word G_MOST E_BadMany H_is_number H_is_word_of T hT
  have H__law_kinds : ∀ T : TB, T.tabs = tbOf K tf → DefOk pw w K mg base T 3 "_law_kinds" (ga K "_law_kinds") fd__law_kinds ["error"] U0 G__law_kinds := fun T hT => raw__law_kinds F__law_kinds g__law_kinds b__law_kinds B I_BadDeeds I_BadKind I_BadLife I_BadLine I_BadLot I_BadMany I_BadName I_BadNew I_BadOne I_BadOther I_BadPairs I_BadPlace I_BadPlaces I_BadRecord I_BadSecond I_BadSome I_BadState I_BadStrict I_BadTable I_BadText I_BadWeb I_BadWord I_BadWork I_NoName I_NotApart I_NotNow I_NoWeb I_TooMany I_Twice T hT
  have H__law_stand_right : ∀ T : TB, T.tabs = tbOf K tf → DefOk pw w K mg base T 8 "_law_stand_right" (ga K "_law_stand_right") fd__law_stand_right ["draw"] U0 G__law_stand_right := fun T hT => raw__law_stand_right F__law_stand_right g__law_stand_right b__law_stand_right B J_ValueError I_DescentError H__law_pick H_is_word H_word_of H_ones H__law_caught H__law_kinds (hd_mkd F__law_stand_right (by simp [tf]) TBs nd) T hT fun c0 c1 c2 h0 h1 h2 => r__law_stand_right c0 c1 c2 h0 h1 h2
  have H__law_same : ∀ T : TB, T.tabs = tbOf K tf → DefOk pw w K mg base T 3 "_law_same" (ga K "_law_same") fd__law_same ["told", "due"] U0 G__law_same := fun T hT => raw__law_same F__law_same g__law_same b__law_same B T hT
  have H__law_kept : ∀ T : TB, T.tabs = tbOf K tf → DefOk pw w K mg base T 3 "_law_kept" (ga K "_law_kept") fd__law_kept [] U0 G__law_kept := fun T hT => raw__law_kept F__law_kept g__law_kept b__law_kept T hT
  have H__law_near_names : ∀ T : TB, T.tabs = tbOf K tf → DefOk pw w K mg base T 6 "_law_near_names" (ga K "_law_near_names") fd__law_near_names ["draw", "called"] U0 G__law_near_names := fun T hT => raw__law_near_names F__law_near_names g__law_near_names b__law_near_names B H__law_pick H__law_kept H__law_take T hT
  have H__law_word : ∀ T : TB, T.tabs = tbOf K tf → DefOk pw w K mg base T 5 "_law_word" (ga K "_law_word") fd__law_word ["draw", "many"] U0 G__law_word := fun T hT => raw__law_word F__law_word g__law_word b__law_word B H__law_take T hT
  have H__law_near_words : ∀ T : TB, T.tabs = tbOf K tf → DefOk pw w K mg base T 5 "_law_near_words" (ga K "_law_near_words") fd__law_near_words ["draw", "word"] U0 G__law_near_words := fun T hT => raw__law_near_words F__law_near_words g__law_near_words b__law_near_words B H__law_take T hT
  have H__law_near_places : ∀ T : TB, T.tabs = tbOf K tf → DefOk pw w K mg base T 5 "_law_near_places" (ga K "_law_near_places") fd__law_near_places ["draw", "places"] U0 G__law_near_places := fun T hT => raw__law_near_places F__law_near_places g__law_near_places b__law_near_places B H__law_take T hT
  have H__law_is_name : ∀ T : TB, T.tabs = tbOf K tf → DefOk pw w K mg base T 4 "_law_is_name" (ga K "_law_is_name") fd__law_is_name ["thing"] U0 G__law_is_name := fun T hT => raw__law_is_name F__law_is_name g__law_is_name b__law_is_name B H__law_kept T hT
  have H__law_name : ∀ T : TB, T.tabs = tbOf K tf → DefOk pw w K mg base T 6 "_law_name" (ga K "_law_name") fd__law_name ["draw", "used"] U0 G__law_name := fun T hT => raw__law_name F__law_name g__law_name b__law_name B H__law_take H__law_pick H__law_kept H__law_is_name T hT
  have H__law_refused : ∀ (T : TB) (U : UP) (c : Clo) (cl : Sto → R D), T.tabs = tbOf K tf → USt U → CloOK1 pw w K mg base 6 T U c cl → DefOk pw w K mg base T 8 "_law_refused" (ga K "_law_refused") fd__law_refused ["work"] U (gC c (G__law_refused cl)) := fun T U c cl hT S HC => (raw__law_refused F__law_refused g__law_refused b__law_refused H__law_kinds H__law_caught T U c cl hT S HC).imp fun ds st hl => ref_refused ds st hl
  have H__law_is : ∀ T : TB, T.tabs = tbOf K tf → DefOk pw w K mg base T 3 "_law_is" (ga K "_law_is") fd__law_is ["told", "due"] U0 G__law_is := fun T hT => raw__law_is F__law_is g__law_is b__law_is B T hT
  have H__law_is_word : ∀ T : TB, T.tabs = tbOf K tf → DefOk pw w K mg base T 3 "_law_is_word" (ga K "_law_is_word") fd__law_is_word ["thing", "many"] U0 G__law_is_word := fun T hT => raw__law_is_word F__law_is_word g__law_is_word b__law_is_word B T hT
  have H_is_name : ∀ T : TB, T.tabs = tbOf K tf → DefOk pw w K mg base T 3 "is_name" (ga K "is_name") fd_is_name ["thing"] U0 G_is_name := fun T hT => raw_is_name F_is_name g_is_name b_is_name B G_KEPT G_LETTERS T hT
  have H__law_is_number : ∀ T : TB, T.tabs = tbOf K tf → DefOk pw w K mg base T 3 "_law_is_number" (ga K "_law_is_number") fd__law_is_number ["thing", "low", "high"] U0 G__law_is_number := fun T hT => raw__law_is_number F__law_is_number g__law_is_number b__law_is_number B T hT
  have H__law_are_places : ∀ T : TB, T.tabs = tbOf K tf → DefOk pw w K mg base T 4 "_law_are_places" (ga K "_law_are_places") fd__law_are_places ["thing", "many"] U0 G__law_are_places := fun T hT => raw__law_are_places F__law_are_places g__law_are_places b__law_are_places B H__law_is_number T hT
  have H_law : ∀ T : TB, T.tabs = tbOf K tf → DefOk pw w K mg base T 9 "law" (ga K "law") fd_law ["script"] U0 G_law := fun T hT => raw_law F_law g_law b_law B G_KEPT H__law_begun H__law_stand_right H__law_same H__law_kept H__law_near_names H__law_name H__law_is H__law_is_name H_is_name H__law_take H__law_word H_ones H_word_of H__law_near_words H__law_is_word H_is_word H__law_refused H__law_pick H__law_near_places H__law_are_places KB_word_of_many_places KB_is_word_many_thing KB_ones_word (hd_mkd F_law (by simp [tf]) TBs nd) T hT fun c0 c1 c2 c3 h0 h1 h2 h3 => r_law c0 c1 c2 c3 h0 h1 h2 h3
  exact (H_law ⟨tbOf K tf, [], fun _ => none⟩ rfl).ok
end K00
end Fn
end
section
set_option Elab.async false
set_option linter.all false
set_option maxRecDepth 100000
set_option maxHeartbeats 4000000
namespace Fn
open PySem PySem.Spec PyProof.Rows L2 LamX
theorem walk_ofGE {l : PySem.W.OpenLaw} {n k : Nat} {q : Program} {loose : List Str} {XP : (Str → Option Value) → Heap → Prop} {YP : World → Heap → Prop} {d : DefRec} {x : Str}
    (hn : l.most = some n) (hn2 : n ≤ sizeLine) (hdf : d.params.defaults = []) (hr : Room k callerA)
    (F : ∀ (w : World) (mg : Str → Option Value) (fa : Addr) (h : Heap), YP w h → h.Ns mainGlobals mg → mg d.name = some (.ref fa) → ∃ K : PySem.W.Frag, K.In h ∧ LawAtG l w K k n x mg fa h) :
    PySem.W.WalkO q loose XP YP l.row.toRowW d [] (fun f vs => PySem.call f vs) := by
  refine Att.attach_callB hn hdf fun w s₀ s₁ mg mb fa o pm cd doc a vs ns G Y ho hd hcd hmg hobj hints hlen hbits hg => ?_
  obtain ⟨K, KX, fd, cs, tb, gl, hT, nT, C, hb, htb, hgl, hF⟩ := F w mg fa _ Y G.T.g hmg
  exact law_callG KX G.T.g G.T.b G.T.builtins G.T.nolimit hg hT nT C G.T.bmain hobj hints (Nat.le_trans hlen hn2) hr hF hb htb (hgl ns hlen hbits)
end Fn
end
section
set_option Elab.async false
set_option linter.all false
set_option maxRecDepth 100000
set_option maxHeartbeats 0
open PySem PySem.W PySem.Calls PyProof.Rows
theorem PySem.Challenge.cw_ringsapart_k00_names_words_and_places_holds : PySem.Challenge.rw_ringsapart_k00_names_words_and_places.Holds := by
  w_on; o_law
  refine HandSHeadRun.head_any (r := OpenLaw.row PySem.Challenge.rw_ringsapart_k00_names_words_and_places) (q := view (OpenLaw.row PySem.Challenge.rw_ringsapart_k00_names_words_and_places).prog [67]) (H := Fn.K00.hk) (ob := Fn.K00.ob) (M := 16000) (loose := Fn.K00.loose) (d := HandSHeadRun.topDef (OpenLaw.row PySem.Challenge.rw_ringsapart_k00_names_words_and_places).prog 67) (kwd := []) Fn.K00.ob_eq
    (by kernel_rfl) (fun s => by kernel_rfl) Fn.K00.run (by kernel_rfl) (by kernel_rfl) (by kernel_rfl) (by rfl) (by first | assumption | decide +kernel) (by decide +kernel) ⟨rfl, rfl, rfl, rfl, rfl, by decide +kernel⟩ ?hw ?hc
  case hw => w_witness2
  case hc =>
    refine Fn.walk_ofGE (l := PySem.Challenge.rw_ringsapart_k00_names_words_and_places) (n := 63) (k := 9) (x := "script") rfl (by decide) (by kernel_rfl) ⟨rfl, by decide, by decide⟩ ?F
    intro w mg fa h Y G hmg0
    obtain ⟨K, KX, c⟩ := Y
    have hmg : mg ("law" : PySem.Str) = some (.ref fa) := by
      have e : (HandSHeadRun.topDef (OpenLaw.row PySem.Challenge.rw_ringsapart_k00_names_words_and_places).prog 67).name = ("law" : PySem.Str) := by kernel_rfl
      rw [← e]
      exact hmg0
    exact ⟨K, KX, Fn.K00.all_mk KX G c hmg (fun c0 c1 c2 h0 h1 h2 ds st hl => Fn.K00.ref_stand c0 c1 c2 h0 h1 h2 ds st hl) (fun c0 c1 c2 c3 _ _ _ _ ds st hl => Fn.K00.ref_law c0 c1 c2 c3 ds st hl) (fun ns hl _ => Fn.K00.law_true hl)⟩
end
